import PyProof.Rows.All
import Wide.All
import OpenK.AllK
import Wide.FinOn
import HandS.ForMost
import HandS.Evl
import HandS.Wide
import HandS.IsInst
import HandS.Conv
import HandS.Codes
import HandS.Style
import HandS.TupAny
import HandS.Walk
import PySem.Challenge.RW_swornrun_k13_heights
set_option Elab.async false
set_option linter.all false
set_option maxRecDepth 100000
set_option maxHeartbeats 4000000
set_option maxRecDepth 100000
set_option maxHeartbeats 2000000
/-! VL: values without a heap, an own syntax of the defs, predicate transformers by recursion. -/
namespace VL
open PySem L2

/-- a value: immutable things as they are; what is changed stands in a cell -/
inductive AV where
  | non | bl (b : Bool) | int (i : Int) | str (s : Str)
  | tup (xs : List AV) | lst (xs : List AV) | ro (xs : List AV) | dct (kvs : List (Key × AV))
  | adr (n : Nat)
/-- what is changed -/
inductive Cell where
  | lst (xs : List AV) | dct (kvs : List (Key × AV)) | obj (c : Nat) (fs : List (Str × AV)) | dead
abbrev AHeap := List Cell
inductive Slot where
  | no | val (d : AV) | own (c : Cell)
abbrev Env := List Slot

inductive Tg where
  | nm (i : Nat) | tup (is : List Nat)
inductive Blt where
  | len | abs | int | str | max2 | min2 | maxL | minL | sum | all | any | tuple | repr
deriving DecidableEq
inductive Sm where
  | join
deriving DecidableEq
mutual
inductive E where
  | var (i : Nat) | vw (i : Nat)
  | cint (i : Int) | cstr (s : Str) | cbl (b : Bool) | cnon
  | glob (g : Nat)
  | bin (op : Operator) (a b : E)
  | neg (a : E)
  | cmp (op : CmpOp) (a b : E)
  | chain (o1 o2 : CmpOp) (a b c : E)
  | and (a b : E) | or (a b : E) | not (a : E)
  | ite (c a b : E)
  | tup (es : Es)
  | fz (n : Nw) | new (n : Nw)
  | sub (a i : E)
  | slice (a : E) (lo hi : Oe)
  | call (f : Nat) (es : Es)
  | blt (b : Blt) (es : Es)
  | isi (a : E) (t : String)
  | smt (m : Sm) (o : E) (a : E)
  | attr (a : E) (f : Str)
  | mcall (o : E) (m : Str) (es : Es)
  | make (c : Nat) (es : Es)
  | tru (a : E)
inductive Es where
  | nil | cons (e : E) (es : Es)
inductive Nw where
  | lst (es : Es)
  | comp (elt : E) (tg : Tg) (it : It) (cond : Oe) (own : List Nat)
  | slice (a : E) (lo hi : Oe)
  | listOf (a : E)
  | cat (a b : E)
  | rev (a : E)
  | dct1 (k v : E)
inductive It where
  | rng1 (a : E) | rng2 (a b : E) | seq (a : E) | own (i : Nat) | chars (a : E)
inductive Oe where
  | no | so (e : E)
end
mutual
inductive S where
  | asg (tg : Tg) (e : E)
  | asgO (i : Nat) (n : Nw)
  | frz (i : Nat)
  | par (i j : Nat) (a b : E)
  | aug (i : Nat) (op : Operator) (e : E)
  | app (i : Nat) (e : E)
  | appE (o e : E)
  | put (i : Nat) (k e : E)
  | putE (o k e : E)
  | fld (o : E) (f : Str) (e : E)
  | expr (e : E)
  | ret (e : E) | retN
  | ite (c : E) (a b : Ss)
  | wh (c : E) (b : Ss)
  | for (tg : Tg) (it : It) (b : Ss)
  | pass | brk | cont
inductive Ss where
  | nil | cons (s : S) (r : Ss)
end

/-! ### operations -/
abbrev KA := AV → Prop
def cells (h : AHeap) (n : Nat) : Cell := (h[n]?).getD .dead
/-- the items of a list -/
def view (h : AHeap) : AV → Option (List AV)
  | .lst xs => some xs
  | .ro xs => some xs
  | .adr n => match cells h n with
    | .lst xs => some xs
    | _ => none
  | _ => none
/-- a list that may be glued -/
def viewW (h : AHeap) : AV → Option (List AV)
  | .lst xs => some xs
  | .adr n => match cells h n with
    | .lst xs => some xs
    | _ => none
  | _ => none
def viewT (h : AHeap) : AV → Option (List AV)
  | .tup xs => some xs
  | x => view h x
def viewD (h : AHeap) : AV → Option (List (Key × AV))
  | .dct xs => some xs
  | .adr n => match cells h n with
    | .dct xs => some xs
    | _ => none
  | _ => none
def keyOf : AV → Option Key
  | .int i => some (.inl i)
  | .str s => some (.inr s)
  | _ => none
def getD (kvs : List (Key × AV)) (k : Key) : Option AV := (kvs.find? fun kv => decide (kv.1 = k)).map (·.2)
def putD (kvs : List (Key × AV)) (k : Key) (v : AV) : List (Key × AV) :=
  if (kvs.any fun kv => decide (kv.1 = k)) = true then kvs.map (fun kv => if kv.1 = k then (kv.1, v) else kv) else kvs ++ [(k, v)]
def asInts : List AV → Option (List Int)
  | [] => some []
  | .int i :: r => (asInts r).map (i :: ·)
  | _ => none
def asBools : List AV → Option (List Bool)
  | [] => some []
  | .bl i :: r => (asBools r).map (i :: ·)
  | _ => none
def asStrs : List AV → Option (List Str)
  | [] => some []
  | .str i :: r => (asStrs r).map (i :: ·)
  | _ => none
def cut {α : Type} (xs : List α) (lo hi : Option Int) : List α := (xs.drop (HT.sIx xs.length 0 lo)).take (HT.sIx xs.length xs.length hi - HT.sIx xs.length 0 lo)

mutual
def pd : AV → Option PyData
  | .non => some .none
  | .bl b => some (.bool b)
  | .int i => some (.int i)
  | .str s => some (.str s)
  | .tup xs => (pds xs).map .tuple
  | .lst xs => (pds xs).map .list
  | .ro xs => (pds xs).map .list
  | .dct _ => none
  | .adr _ => none
def pds : List AV → Option (List PyData)
  | [] => some []
  | x :: r => (pd x).bind fun d => (pds r).map (d :: ·)
end
mutual
def pdH (h : AHeap) : AV → Option PyData
  | .non => some .none
  | .bl b => some (.bool b)
  | .int i => some (.int i)
  | .str s => some (.str s)
  | .tup xs => (pdHs h xs).map .tuple
  | .lst xs => (pdHs h xs).map .list
  | .ro xs => (pdHs h xs).map .list
  | .dct _ => none
  | .adr n => match cells h n with
    | .lst xs => (pds xs).map .list
    | _ => none
def pdHs (h : AHeap) : List AV → Option (List PyData)
  | [] => some []
  | x :: r => (pdH h x).bind fun d => (pdHs h r).map (d :: ·)
end

def isNon : AV → Bool
  | .non => true
  | _ => false
def eqGen (h : AHeap) (neg : Bool) (x y : AV) (Q : KA) : Prop :=
  match pdH h x, pdH h y with
  | some d, some e => SeqAt.shaped d = true ∧ SeqAt.shaped e = true ∧ Q (.bl (if neg then !PyData.eqv d e else PyData.eqv d e))
  | _, _ => False
def eqK (h : AHeap) (x y : AV) (Q : KA) : Prop :=
  match x, y with
  | .int i, .int j => Q (.bl (decide (i = j)))
  | .str i, .str j => Q (.bl (decide (i = j)))
  | .bl i, .bl j => Q (.bl (decide (i = j)))
  | .non, .non => Q (.bl true)
  | .int _, .str _ => Q (.bl false)
  | .str _, .int _ => Q (.bl false)
  | x, y => eqGen h false x y Q
def neK (h : AHeap) (x y : AV) (Q : KA) : Prop :=
  match x, y with
  | .int i, .int j => Q (.bl (!decide (i = j)))
  | .str i, .str j => Q (.bl (!decide (i = j)))
  | .bl i, .bl j => Q (.bl (!decide (i = j)))
  | .non, .non => Q (.bl false)
  | .int _, .str _ => Q (.bl true)
  | .str _, .int _ => Q (.bl true)
  | x, y => eqGen h true x y Q
def flatA : AV → Bool
  | .non => true
  | .bl _ => true
  | .int _ => true
  | .str _ => true
  | _ => false
def eqF : AV → AV → Bool
  | .non, .non => true
  | .bl a, .bl b => a == b
  | .bl a, .int b => (if a then 1 else 0) == b
  | .int a, .bl b => a == (if b then 1 else 0)
  | .int a, .int b => a == b
  | .str a, .str b => a == b
  | _, _ => false
def inK (h : AHeap) (neg : Bool) (x y : AV) (Q : KA) : Prop :=
  match y with
  | .str z => match x with
    | .str w => match w.cps.toList with
      | [c] => Q (.bl (if neg then !decide (c ∈ z.cps.toList) else decide (c ∈ z.cps.toList)))
      | _ => False
    | _ => False
  | y => match viewT h y with
    | some xs => flatA x = true ∧ xs.all flatA = true ∧ Q (.bl (if neg then !(xs.any fun y => eqF y x) else xs.any fun y => eqF y x))
    | none => match viewD h y, keyOf x with
      | some kvs, some k => Q (.bl (if neg then !(getD kvs k).isSome else (getD kvs k).isSome))
      | _, _ => False
def cmpK (h : AHeap) (op : CmpOp) (x y : AV) (Q : KA) : Prop :=
  match op with
  | .Eq => eqK h x y Q
  | .NotEq => neK h x y Q
  | .Lt => match x, y with
    | .int i, .int j => Q (.bl (decide (i < j)))
    | _, _ => False
  | .LtE => match x, y with
    | .int i, .int j => Q (.bl (decide (i ≤ j)))
    | _, _ => False
  | .Gt => match x, y with
    | .int i, .int j => Q (.bl (decide (j < i)))
    | _, _ => False
  | .GtE => match x, y with
    | .int i, .int j => Q (.bl (decide (j ≤ i)))
    | _, _ => False
  | .Is => match y with
    | .non => Q (.bl (isNon x))
    | _ => False
  | .IsNot => match y with
    | .non => Q (.bl (!isNon x))
    | _ => False
  | .In => inK h false x y Q
  | .NotIn => inK h true x y Q
def CDivA (j : Int) : Prop := 0 < j ∧ j.natAbs.log2 < 9000
def CMulA (i j : Int) : Prop := CMul i j ∨ CMulW i j
def addK (h : AHeap) (x y : AV) (Q : KA) : Prop :=
  match x, y with
  | .int i, .int j => Q (.int (i + j))
  | .str i, .str j => i.length + j.length ≤ sizeLine ∧ Q (.str (i ++ j))
  | .tup xs, .tup ys => xs.length + ys.length ≤ sizeLine ∧ Q (.tup (xs ++ ys))
  | _, _ => False
def strRep (x : Str) (n : Int) : Str := if n < 1 then Str.empty else if (n == 1 || x.length == 0) = true then x else ⟨(List.replicate n.toNat x.cps).foldl (· ++ ·) #[]⟩
def binK (h : AHeap) (op : Operator) (x y : AV) (Q : KA) : Prop :=
  match op with
  | .Add => addK h x y Q
  | .Sub => match x, y with
    | .int i, .int j => Q (.int (i - j))
    | _, _ => False
  | .Mult => match x, y with
    | .int i, .int j => CMulA i j ∧ Q (.int (i * j))
    | .str z, .int j => (-(2 ^ 60) < j ∧ j < 2 ^ 60 ∧ z.length * j.toNat ≤ 1000000) ∧ Q (.str (strRep z j))
    | _, _ => False
  | .FloorDiv => match x, y with
    | .int i, .int j => CDivA j ∧ Q (.int (i / j))
    | _, _ => False
  | .Mod => match x, y with
    | .int i, .int j => 0 < j ∧ Q (.int (i % j))
    | _, _ => False
  | .Pow => match x, y with
    | .int i, .int j => CPow i j ∧ Q (.int (i ^ j.toNat))
    | _, _ => False
  | _ => False
def negK (x : AV) (Q : KA) : Prop :=
  match x with
  | .int i => Q (.int (-i))
  | _ => False
def subK (h : AHeap) (x y : AV) (Q : KA) : Prop :=
  match x with
  | .str z => match y with
    | .int i => z.length ≤ sizeLine ∧ match atI z.cps.toList i with
      | some c => Q (.str ⟨#[c]⟩)
      | none => False
    | _ => False
  | x => match viewT h x with
    | some xs => match y with
      | .int i => match atI xs i with
        | some d => Q d
        | none => False
      | _ => False
    | none => match viewD h x, keyOf y with
      | some kvs, some k => match getD kvs k with
        | some d => Q d
        | none => False
      | _, _ => False
def sliceK (h : AHeap) (x : AV) (lo hi : Option Int) (Q : KA) : Prop :=
  match x with
  | .str z => z.length ≤ sizeLine ∧ Q (.str (cutS z lo hi))
  | .tup xs => Q (.tup (cut xs lo hi))
  | _ => False
def truK (h : AHeap) (x : AV) (Q : Bool → Prop) : Prop :=
  match x with
  | .bl b => Q b
  | .non => Q false
  | .int i => Q (i != 0)
  | .str y => y.length ≤ sizeLine ∧ Q ((y.length : Int) != 0)
  | x => match viewT h x with
    | some xs => Q (!xs.isEmpty)
    | none => False
def bltK (h : AHeap) (b : Blt) (vs : List AV) (Q : KA) : Prop :=
  match b, vs with
  | .len, [.str z] => z.length ≤ sizeLine ∧ Q (.int z.length)
  | .len, [x] => match viewT h x with
    | some xs => Q (.int xs.length)
    | none => match viewD h x with
      | some kvs => Q (.int kvs.length)
      | none => False
  | .abs, [.int i] => Q (.int (if i < 0 then -i else i))
  | .int, [.int i] => Q (.int i)
  | .int, [.bl k] => Q (.int (if k then 1 else 0))
  | .str, [.int i] => i.natAbs.log2 < 1920 ∧ Q (.str (toString i))
  | .max2, [.int i, .int j] => Q (.int (if j > i then j else i))
  | .min2, [.int i, .int j] => Q (.int (if j < i then j else i))
  | .maxL, [x] => match (view h x).bind asInts with
    | some ns => 0 < ns.length ∧ ∀ m, m ∈ ns → (∀ y, y ∈ ns → y ≤ m) → Q (.int m)
    | none => False
  | .minL, [x] => match (view h x).bind asInts with
    | some ns => 0 < ns.length ∧ ∀ m, m ∈ ns → (∀ y, y ∈ ns → m ≤ y) → Q (.int m)
    | none => False
  | .sum, [x] => match (view h x).bind asInts with
    | some ns => Q (.int ns.sum)
    | none => False
  | .all, [x] => match (view h x).bind asBools with
    | some bs => Q (.bl (bs.all id))
    | none => False
  | .any, [x] => match (view h x).bind asBools with
    | some bs => Q (.bl (bs.any id))
    | none => False
  | .repr, [x] => match pdH h x with
    | some d => (d.showable = true ∧ d.hasDict = false ∧ d.depth ≤ 50 ∧ d.shown.length ≤ sizeLine) ∧ Q (.str d.shown)
    | none => False
  | .tuple, [.tup xs] => Q (.tup xs)
  | .tuple, [x] => match view h x with
    | some xs => Q (.tup xs)
    | none => False
  | _, _ => False
/-- isinstance against a built-in type -/
def isiK (x : AV) (t : String) (h : AHeap) (Q : KA) : Prop :=
  match x with
  | .non => (t = "int" ∨ t = "bool" ∨ t = "str" ∨ t = "list" ∨ t = "tuple") ∧ Q (.bl false)
  | .bl _ => (t = "int" ∧ Q (.bl true)) ∨ (t = "bool" ∧ Q (.bl true)) ∨ ((t = "str" ∨ t = "list" ∨ t = "tuple") ∧ Q (.bl false))
  | .int _ => (t = "int" ∧ Q (.bl true)) ∨ ((t = "bool" ∨ t = "str" ∨ t = "list" ∨ t = "tuple") ∧ Q (.bl false))
  | .str _ => (t = "str" ∧ Q (.bl true)) ∨ ((t = "bool" ∨ t = "int" ∨ t = "list" ∨ t = "tuple") ∧ Q (.bl false))
  | .tup _ => (t = "tuple" ∧ Q (.bl true)) ∨ ((t = "bool" ∨ t = "int" ∨ t = "list" ∨ t = "str") ∧ Q (.bl false))
  | .dct _ => False
  | x => match view h x with
    | some _ => (t = "list" ∧ Q (.bl true)) ∨ ((t = "bool" ∨ t = "int" ∨ t = "tuple" ∨ t = "str") ∧ Q (.bl false))
    | none => False
def smtK (h : AHeap) (m : Sm) (z : Str) (a : AV) (Q : KA) : Prop :=
  match m with
  | .join => match (viewT h a).bind asStrs with
    | some ys => (ys.map (·.length)).sum + ys.length * z.length ≤ 16777216 ∧ Q (.str (Txt.join z ys))
    | none => False

/-! ### the transformers -/
structure Ctx where
  glob : Nat → Option AV
  call : Nat → List AV → AHeap → (AV → AHeap → Prop) → Prop
  meth : Nat → Str → Option Nat
  init : Nat → Option Nat
  fld : Nat → Str → Bool

def getS : Env → Nat → Slot
  | [], _ => .no
  | x :: _, 0 => x
  | _ :: r, n + 1 => getS r n
def setS : Env → Nat → Slot → Env
  | [], _, _ => []
  | _ :: r, 0, v => v :: r
  | x :: r, n + 1, v => x :: setS r n v
def wipeS (ρ : Env) : List Nat → Env
  | [] => ρ
  | v :: vs => setS (wipeS ρ vs) v .no
def setsS : Env → List Nat → List AV → Option Env
  | ρ, [], [] => some ρ
  | ρ, i :: is, x :: xs => setsS (setS ρ i (.val x)) is xs
  | _, _, _ => none
def tgK (tg : Tg) (x : AV) (ρ : Env) (Q : Env → Prop) : Prop :=
  match tg with
  | .nm i => Q (setS ρ i (.val x))
  | .tup is => match x with
    | .tup xs => match setsS ρ is xs with
      | some ρ' => Q ρ'
      | none => False
    | _ => False

/-- a comprehension's loop: B gives an item, or none -/
def compL (B : AV → AHeap → (Option AV → AHeap → Prop) → Prop) (chk : AHeap → Prop) : List AV → List AV → AHeap → (List AV → AHeap → Prop) → Prop
  | [], acc, h, Q => chk h ∧ Q acc h
  | x :: xs, acc, h, Q => chk h ∧ B x h fun r h' => compL B chk xs (match r with | some y => acc ++ [y] | none => acc) h' Q

mutual
def WpE (C : Ctx) : Bool → E → Env → AHeap → (AV → AHeap → Prop) → Prop
  | _, .var i, ρ, h, Q => match getS ρ i with
    | .val d => Q d h
    | _ => False
  | true, .vw i, ρ, h, Q => match getS ρ i with
    | .own (.lst xs) => Q (.lst xs) h
    | .own (.dct xs) => Q (.dct xs) h
    | _ => False
  | false, .vw _, _, _, _ => False
  | _, .tru _, _, _, _ => False
  | _, .cint i, _, h, Q => Q (.int i) h
  | _, .cstr s, _, h, Q => Q (.str s) h
  | _, .cbl b, _, h, Q => Q (.bl b) h
  | _, .cnon, _, h, Q => Q .non h
  | _, .glob g, _, h, Q => match C.glob g with
    | some d => Q d h
    | none => False
  | _, .bin op a b, ρ, h, Q => WpE C false a ρ h fun x h1 => WpE C false b ρ h1 fun y h2 => binK h2 op x y fun z => Q z h2
  | _, .neg a, ρ, h, Q => WpE C false a ρ h fun x h1 => negK x fun z => Q z h1
  | _, .cmp op a b, ρ, h, Q => WpE C true a ρ h fun x h1 => WpE C true b ρ h1 fun y h2 => cmpK h2 op x y fun z => Q z h2
  | _, .chain o1 o2 a b c, ρ, h, Q => WpE C false a ρ h fun x h1 => WpE C false b ρ h1 fun y h2 => cmpK h2 o1 x y fun z => match z with
    | .bl true => WpE C false c ρ h2 fun w h3 => cmpK h3 o2 y w fun z => Q z h3
    | .bl false => Q (.bl false) h2
    | _ => False
  | _, .and a b, ρ, h, Q => WpE C false a ρ h fun x h1 => match x with
    | .bl true => WpE C false b ρ h1 Q
    | .bl false => Q (.bl false) h1
    | _ => False
  | _, .or a b, ρ, h, Q => WpE C false a ρ h fun x h1 => match x with
    | .bl false => WpE C false b ρ h1 Q
    | .bl true => Q (.bl true) h1
    | _ => False
  | _, .not a, ρ, h, Q => WpE C false a ρ h fun x h1 => match x with
    | .bl b => Q (.bl (!b)) h1
    | _ => False
  | _, .ite c a b, ρ, h, Q => WpT C c ρ h fun k h1 => if k = true then WpE C false a ρ h1 Q else WpE C false b ρ h1 Q
  | _, .tup es, ρ, h, Q => WpEs C es ρ h fun xs h1 => xs.length ≤ sizeLine ∧ Q (.tup xs) h1
  | _, .fz n, ρ, h, Q => WpN C n ρ h fun c h1 => match c with
    | .lst xs => Q (.lst xs) h1
    | .dct xs => Q (.dct xs) h1
    | _ => False
  | _, .new n, ρ, h, Q => WpN C n ρ h fun c h1 => Q (.adr h1.length) (h1 ++ [c])
  | _, .sub a i, ρ, h, Q => WpE C true a ρ h fun x h1 => WpE C false i ρ h1 fun y h2 => subK h2 x y fun z => Q z h2
  | _, .slice a lo hi, ρ, h, Q => WpE C false a ρ h fun x h1 => WpO C lo ρ h1 fun l h2 => WpO C hi ρ h2 fun u h3 => sliceK h3 x l u fun z => Q z h3
  | _, .call f es, ρ, h, Q => WpEs C es ρ h fun xs h1 => C.call f xs h1 Q
  | _, .blt b es, ρ, h, Q => WpBs C es ρ h fun xs h1 => bltK h1 b xs fun z => Q z h1
  | _, .isi a t, ρ, h, Q => WpE C true a ρ h fun x h1 => isiK x t h1 fun z => Q z h1
  | _, .smt m o a, ρ, h, Q => WpE C false o ρ h fun x h1 => match x with
    | .str z => WpE C true a ρ h1 fun y h2 => smtK h2 m z y fun z => Q z h2
    | _ => False
  | _, .attr a f, ρ, h, Q => WpE C false a ρ h fun x h1 => match x with
    | .adr n => match cells h1 n with
      | .obj c fs => C.fld c f = true ∧ match fs.lookup f with
        | some d => Q d h1
        | none => False
      | _ => False
    | _ => False
  | _, .mcall o m es, ρ, h, Q => WpE C false o ρ h fun x h1 => match x with
    | .adr n => match cells h1 n with
      | .obj c fs => match fs.lookup m with
        | some _ => False
        | none => match C.meth c m with
          | some f => WpEs C es ρ h1 fun xs h2 => C.call f (x :: xs) h2 Q
          | none => False
      | _ => False
    | _ => False
  | _, .make c es, ρ, h, Q => WpEs C es ρ h fun xs h1 => match C.init c with
    | some f => C.call f (.adr h1.length :: xs) (h1 ++ [.obj c []]) fun r h2 => match r with
      | .non => Q (.adr h1.length) h2
      | _ => False
    | none => False
def WpEs (C : Ctx) : Es → Env → AHeap → (List AV → AHeap → Prop) → Prop
  | .nil, _, h, Q => Q [] h
  | .cons e es, ρ, h, Q => WpE C false e ρ h fun x h1 => WpEs C es ρ h1 fun xs h2 => Q (x :: xs) h2
def WpBs (C : Ctx) : Es → Env → AHeap → (List AV → AHeap → Prop) → Prop
  | .nil, _, h, Q => Q [] h
  | .cons e es, ρ, h, Q => WpE C true e ρ h fun x h1 => WpBs C es ρ h1 fun xs h2 => Q (x :: xs) h2
def WpO (C : Ctx) : Oe → Env → AHeap → (Option Int → AHeap → Prop) → Prop
  | .no, _, h, Q => Q none h
  | .so e, ρ, h, Q => WpE C false e ρ h fun x h1 => match x with
    | .int i => Q (some i) h1
    | _ => False
def WpN (C : Ctx) : Nw → Env → AHeap → (Cell → AHeap → Prop) → Prop
  | .lst es, ρ, h, Q => WpEs C es ρ h fun xs h1 => xs.length ≤ sizeLine ∧ Q (.lst xs) h1
  | .comp elt tg it cond own, ρ, h, Q => WpI C it ρ h fun xs chk h1 => xs.length ≤ sizeLine ∧ compL (fun x h2 R => tgK tg x (wipeS ρ own) fun ρ2 => WpC C cond ρ2 h2 fun k h3 => if k = true then WpE C false elt ρ2 h3 fun y h4 => R (some y) h4 else R none h3) chk xs [] h1 fun acc h2 => Q (.lst acc) h2
  | .slice a lo hi, ρ, h, Q => WpE C true a ρ h fun x h1 => WpO C lo ρ h1 fun l h2 => WpO C hi ρ h2 fun u h3 => match view h3 x with
    | some xs => Q (.lst (cut xs l u)) h3
    | none => False
  | .listOf a, ρ, h, Q => WpE C true a ρ h fun x h1 => match viewT h1 x with
    | some xs => Q (.lst xs) h1
    | none => False
  | .cat a b, ρ, h, Q => WpE C true a ρ h fun x h1 => WpE C true b ρ h1 fun y h2 => match viewW h2 x, viewW h2 y with
    | some xs, some ys => xs.length + ys.length ≤ sizeLine ∧ Q (.lst (xs ++ ys)) h2
    | _, _ => False
  | .rev a, ρ, h, Q => WpE C true a ρ h fun x h1 => match view h1 x with
    | some xs => Q (.lst xs.reverse) h1
    | none => False
  | .dct1 k v, ρ, h, Q => WpE C false k ρ h fun x h1 => WpE C false v ρ h1 fun y h2 => match keyOf x with
    | some k => Q (.dct [(k, y)]) h2
    | none => False
/-- what is walked: the items; what must stay so while they are -/
def WpI (C : Ctx) : It → Env → AHeap → (List AV → (AHeap → Prop) → AHeap → Prop) → Prop
  | .rng1 a, ρ, h, Q => WpE C false a ρ h fun x h1 => match x with
    | .int n => (-(2 ^ 62) ≤ n ∧ n < 2 ^ 62) ∧ Q ((List.range n.toNat).map fun (k : Nat) => .int (k : Int)) (fun _ => True) h1
    | _ => False
  | .rng2 a b, ρ, h, Q => WpE C false a ρ h fun x h1 => WpE C false b ρ h1 fun y h2 => match x, y with
    | .int i, .int n => (-(2 ^ 62) ≤ i ∧ i < 2 ^ 62 ∧ -(2 ^ 62) ≤ n ∧ n < 2 ^ 62) ∧ Q ((List.range (n - i).toNat).map fun (k : Nat) => .int (i + (k : Int))) (fun _ => True) h2
    | _, _ => False
  | .own i, ρ, h, Q => match getS ρ i with
    | .own (.lst xs) => Q xs (fun _ => True) h
    | _ => False
  | .seq a, ρ, h, Q => WpE C false a ρ h fun x h1 => match viewT h1 x with
    | some xs => Q xs (fun h' => viewT h' x = some xs) h1
    | none => False
  | .chars a, ρ, h, Q => WpE C false a ρ h fun x h1 => match x with
    | .str z => Q (z.cps.toList.map fun c => .str ⟨#[c]⟩) (fun _ => True) h1
    | _ => False
def WpC (C : Ctx) : Oe → Env → AHeap → (Bool → AHeap → Prop) → Prop
  | .no, _, h, Q => Q true h
  | .so e, ρ, h, Q => WpT C e ρ h Q
/-- a test -/
def WpT (C : Ctx) : E → Env → AHeap → (Bool → AHeap → Prop) → Prop
  | .and a b, ρ, h, Q => WpT C a ρ h fun k h1 => if k = true then WpT C b ρ h1 Q else Q false h1
  | .or a b, ρ, h, Q => WpT C a ρ h fun k h1 => if k = true then Q true h1 else WpT C b ρ h1 Q
  | .not a, ρ, h, Q => WpT C a ρ h fun k h1 => Q (!k) h1
  | .cmp op a b, ρ, h, Q => WpE C true a ρ h fun x h1 => WpE C true b ρ h1 fun y h2 => cmpK h2 op x y fun z => match z with
    | .bl k => Q k h2
    | _ => False
  | .chain o1 o2 a b c, ρ, h, Q => WpE C false a ρ h fun x h1 => WpE C false b ρ h1 fun y h2 => cmpK h2 o1 x y fun z => match z with
    | .bl true => WpE C false c ρ h2 fun w h3 => cmpK h3 o2 y w fun z => match z with
      | .bl k => Q k h3
      | _ => False
    | .bl false => Q false h2
    | _ => False
  | .cbl b, _, h, Q => Q b h
  | .tru e, ρ, h, Q => WpE C false e ρ h fun x h1 => truK h1 x fun k => Q k h1
  | _, _, _, _ => False
end

/-! ### statements -/
structure Kt where
  nx : Env → AHeap → Prop
  rt : AV → AHeap → Prop
  bk : Env → AHeap → Prop := fun _ _ => False
  ct : Env → AHeap → Prop := fun _ _ => False
def forL (B : AV → Kt → Env → AHeap → Prop) (chk : AHeap → Prop) (D : Kt) : List AV → Env → AHeap → Prop
  | [], ρ, h => chk h ∧ D.nx ρ h
  | x :: xs, ρ, h => chk h ∧ B x { D with nx := forL B chk D xs, ct := forL B chk D xs, bk := D.nx } ρ h
def whL (T : Env → AHeap → (Bool → AHeap → Prop) → Prop) (B : Kt → Env → AHeap → Prop) (D : Kt) (ρ : Env) (h : AHeap) : Prop :=
  ∃ W : Nat → Env → AHeap → Prop, (∃ m, W m ρ h) ∧ ∀ m ρ h, W m ρ h → T ρ h fun b h1 =>
    if b = true then B { D with nx := fun ρ' h' => ∃ m', m' < m ∧ W m' ρ' h', ct := fun ρ' h' => ∃ m', m' < m ∧ W m' ρ' h', bk := D.nx } ρ h1 else D.nx ρ h1
def putFA (f : Str) (v : AV) : List (Str × AV) → List (Str × AV)
  | [] => [(f, v)]
  | (g, u) :: r => if g = f then (g, v) :: r else (g, u) :: putFA f v r
/-- a cell's item stored: o[k] = d -/
def putC (c : Cell) (k d : AV) (Q : Cell → Prop) : Prop :=
  match c with
  | .lst xs => match k with
    | .int i => match ixN xs.length i with
      | some j => Q (.lst (xs.set j d))
      | none => False
    | _ => False
  | .dct kvs => match keyOf k with
    | some k => kvs.length < 100000 ∧ Q (.dct (putD kvs k d))
    | none => False
  | _ => False
def appC (c : Cell) (d : AV) (Q : Cell → Prop) : Prop :=
  match c with
  | .lst xs => xs.length < sizeLine ∧ Q (.lst (xs ++ [d]))
  | _ => False
def augK (op : Operator) (x y : AV) (Q : KA) : Prop :=
  match op, x, y with
  | .Add, .int i, .int j => Q (.int (i + j))
  | .Sub, .int i, .int j => Q (.int (i - j))
  | _, _, _ => False
mutual
def WpS (C : Ctx) : S → Kt → Env → AHeap → Prop
  | .asg tg e, D, ρ, h => WpE C false e ρ h fun x h1 => tgK tg x ρ fun ρ' => D.nx ρ' h1
  | .asgO i n, D, ρ, h => WpN C n ρ h fun c h1 => D.nx (setS ρ i (.own c)) h1
  | .frz i, D, ρ, h => match getS ρ i with
    | .own (.lst xs) => D.nx (setS ρ i (.val (.lst xs))) h
    | .own (.dct xs) => D.nx (setS ρ i (.val (.dct xs))) h
    | _ => False
  | .par i j a b, D, ρ, h => WpE C false a ρ h fun x h1 => WpE C false b ρ h1 fun y h2 => D.nx (setS (setS ρ i (.val x)) j (.val y)) h2
  | .aug i op e, D, ρ, h => match getS ρ i with
    | .val x => WpE C false e ρ h fun y h1 => augK op x y fun z => D.nx (setS ρ i (.val z)) h1
    | _ => False
  | .app i e, D, ρ, h => match getS ρ i with
    | .own (.lst xs) => WpE C false e ρ h fun d h1 => xs.length < sizeLine ∧ D.nx (setS ρ i (.own (.lst (xs ++ [d])))) h1
    | _ => False
  | .appE o e, D, ρ, h => WpE C false o ρ h fun x h1 => match x with
    | .adr n => match cells h1 n with
      | .lst _ => WpE C false e ρ h1 fun d h2 => appC (cells h2 n) d fun c' => D.nx ρ (h2.set n c')
      | _ => False
    | _ => False
  | .put i k e, D, ρ, h => match getS ρ i with
    | .own c => WpE C false e ρ h fun d h1 => WpE C false k ρ h1 fun y h2 => putC c y d fun c' => D.nx (setS ρ i (.own c')) h2
    | _ => False
  | .putE o k e, D, ρ, h => WpE C false e ρ h fun d h1 => WpE C false o ρ h1 fun x h2 => WpE C false k ρ h2 fun y h3 => match x with
    | .adr n => putC (cells h3 n) y d fun c' => D.nx ρ (h3.set n c')
    | _ => False
  | .fld o f e, D, ρ, h => WpE C false e ρ h fun d h1 => WpE C false o ρ h1 fun x h2 => match x with
    | .adr n => match cells h2 n with
      | .obj c fs => C.fld c f = true ∧ fs.length < 1000 ∧ D.nx ρ (h2.set n (.obj c (putFA f d fs)))
      | _ => False
    | _ => False
  | .expr e, D, ρ, h => WpE C false e ρ h fun _ h1 => D.nx ρ h1
  | .ret e, D, ρ, h => WpE C false e ρ h fun d h1 => D.rt d h1
  | .retN, D, _, h => D.rt .non h
  | .ite c a b, D, ρ, h => WpT C c ρ h fun k h1 => if k = true then WpSs C a D ρ h1 else WpSs C b D ρ h1
  | .wh c b, D, ρ, h => whL (WpT C c) (WpSs C b) D ρ h
  | .for tg it b, D, ρ, h => WpI C it ρ h fun xs chk h1 => forL (fun x D ρ h => tgK tg x ρ fun ρ' => WpSs C b D ρ' h) chk D xs ρ h1
  | .pass, D, ρ, h => D.nx ρ h
  | .brk, D, ρ, h => D.bk ρ h
  | .cont, D, ρ, h => D.ct ρ h
def WpSs (C : Ctx) : Ss → Kt → Env → AHeap → Prop
  | .nil, D, ρ, h => D.nx ρ h
  | .cons s r, D, ρ, h => WpS C s { D with nx := WpSs C r D } ρ h
end

/-! ### a program -/
structure Fn where
  np : Nat
  ns : Nat
  body : Ss
structure Prg where
  fns : List Fn
  glob : List AV
  meth : List ((Nat × Str) × Nat) := []
  init : List (Nat × Nat) := []
  flds : List (Nat × Str) := []
def startS (F : Fn) (args : List AV) : Env := args.map .val ++ List.replicate (F.ns - args.length) .no
def ctxOf (P : Prg) (call : Nat → List AV → AHeap → (AV → AHeap → Prop) → Prop) : Ctx where
  glob g := P.glob[g]?
  call := call
  meth c m := P.meth.lookup (c, m)
  init c := P.init.lookup c
  fld c f := P.flds.contains (c, f)
def callN (P : Prg) : Nat → Nat → List AV → AHeap → (AV → AHeap → Prop) → Prop
  | 0, _, _, _, _ => False
  | n + 1, f, args, h, Q => match P.fns[f]? with
    | none => False
    | some F => args.length = F.np ∧ WpSs (ctxOf P (callN P n)) F.body { nx := fun _ h => Q .non h, rt := Q } (startS F args) h
end VL

set_option maxRecDepth 100000
set_option maxHeartbeats 2000000
/-! VL: how values stand in the heap. -/
namespace VL
open PySem L2 Evl

mutual
inductive Rep (K : PySem.W.Frag) (cs : List Addr) (F : Hp) : V → AV → Prop
  | non : Rep K cs F .non .non
  | bl (b : Bool) : Rep K cs F (.bl b) (.bl b)
  | int (i : Int) : Rep K cs F (.int i) (.int i)
  | str (s : Str) : Rep K cs F (.str s) (.str s)
  | tup {a : Addr} {vs : List V} {xs : List AV} : SqT K F a vs → Reps K cs F vs xs → Rep K cs F (.ref a) (.tup xs)
  | lst {a : Addr} {vs : List V} {xs : List AV} : F a = some (.lst vs) → Reps K cs F vs xs → Rep K cs F (.ref a) (.lst xs)
  | ro {a : Addr} {vs : List V} {xs : List AV} : SqL K F a vs → Reps K cs F vs xs → Rep K cs F (.ref a) (.ro xs)
  | dct {a : Addr} {us : List (Key × V)} {xs : List (Key × AV)} : F a = some (.dK us) → RepK K cs F us xs → Rep K cs F (.ref a) (.dct xs)
  | adr {n : Nat} {a : Addr} : cs[n]? = some a → Rep K cs F (.ref a) (.adr n)
inductive Reps (K : PySem.W.Frag) (cs : List Addr) (F : Hp) : List V → List AV → Prop
  | nil : Reps K cs F [] []
  | cons {v : V} {vs : List V} {d : AV} {ds : List AV} : Rep K cs F v d → Reps K cs F vs ds → Reps K cs F (v :: vs) (d :: ds)
inductive RepK (K : PySem.W.Frag) (cs : List Addr) (F : Hp) : List (Key × V) → List (Key × AV) → Prop
  | nil : RepK K cs F [] []
  | cons {k : Key} {v : V} {vs : List (Key × V)} {d : AV} {ds : List (Key × AV)} : Rep K cs F v d → RepK K cs F vs ds → RepK K cs F ((k, v) :: vs) ((k, d) :: ds)
end
inductive RepF (K : PySem.W.Frag) (cs : List Addr) (F : Hp) : List (Str × V) → List (Str × AV) → Prop
  | nil : RepF K cs F [] []
  | cons {k : Str} {v : V} {vs : List (Str × V)} {d : AV} {ds : List (Str × AV)} : Rep K cs F v d → RepF K cs F vs ds → RepF K cs F ((k, v) :: vs) ((k, d) :: ds)

section
variable {K : PySem.W.Frag} {cs cs' : List Addr} {F F' : Hp}
theorem get_pre {r : List Addr} (hc : cs' = cs ++ r) {n : Nat} {a : Addr} (h : cs[n]? = some a) : cs'[n]? = some a := by
  subst hc
  rw [List.getElem?_append_left (List.getElem?_eq_some_iff.mp h).1]
  exact h
mutual
theorem Rep.mono (e : Ex F F') (hc : ∃ r, cs' = cs ++ r) : ∀ {v : V} {d : AV}, Rep K cs F v d → Rep K cs' F' v d
  | _, _, .non => .non
  | _, _, .bl b => .bl b
  | _, _, .int i => .int i
  | _, _, .str s => .str s
  | _, _, .tup h r => .tup (ex_t e h) (Reps.mono e hc r)
  | _, _, .lst h r => .lst (e _ _ h) (Reps.mono e hc r)
  | _, _, .ro h r => .ro (ex_l e h) (Reps.mono e hc r)
  | _, _, .dct h r => .dct (e _ _ h) (RepK.mono e hc r)
  | _, _, .adr h => .adr (let ⟨_, q⟩ := hc; get_pre q h)
theorem Reps.mono (e : Ex F F') (hc : ∃ r, cs' = cs ++ r) : ∀ {v : List V} {d : List AV}, Reps K cs F v d → Reps K cs' F' v d
  | _, _, .nil => .nil
  | _, _, .cons h r => .cons (Rep.mono e hc h) (Reps.mono e hc r)
theorem RepK.mono (e : Ex F F') (hc : ∃ r, cs' = cs ++ r) : ∀ {v : List (Key × V)} {d : List (Key × AV)}, RepK K cs F v d → RepK K cs' F' v d
  | _, _, .nil => .nil
  | _, _, .cons h r => .cons (Rep.mono e hc h) (RepK.mono e hc r)
end
theorem RepF.mono (e : Ex F F') (hc : ∃ r, cs' = cs ++ r) {v : List (Str × V)} {d : List (Str × AV)} (h : RepF K cs F v d) : RepF K cs' F' v d := by
  induction h with
  | nil => exact .nil
  | cons h _ ih => exact .cons (h.mono e hc) ih
theorem Reps.length {vs : List V} {xs : List AV} (h : Reps K cs F vs xs) : vs.length = xs.length := by
  revert xs
  induction vs with
  | nil => intro xs h; cases h; rfl
  | cons v vs ih => intro xs h; cases h with | cons h r => simp [ih r]
theorem Reps.get {vs : List V} {xs : List AV} (h : Reps K cs F vs xs) {i : Nat} {d : AV} (e : xs[i]? = some d) : ∃ v, vs[i]? = some v ∧ Rep K cs F v d := by
  revert xs i
  induction vs with
  | nil => intro xs h i e; cases h; simp at e
  | cons v vs ih =>
    intro xs h i e
    cases h with
    | cons h r =>
      cases i with
      | zero => simp at e; subst e; exact ⟨v, rfl, h⟩
      | succ i => simpa using ih r (by simpa using e)
theorem Reps.get' {vs : List V} {xs : List AV} (h : Reps K cs F vs xs) {i : Nat} {v : V} (e : vs[i]? = some v) : ∃ d, xs[i]? = some d ∧ Rep K cs F v d := by
  revert xs i
  induction vs with
  | nil => intro xs h i e; cases h; simp at e
  | cons w vs ih =>
    intro xs h i e
    cases h with
    | cons h r =>
      cases i with
      | zero => simp at e; subst e; exact ⟨_, rfl, h⟩
      | succ i => simpa using ih r (by simpa using e)
theorem Reps.append {vs ws : List V} {xs ys : List AV} (h : Reps K cs F vs xs) (g : Reps K cs F ws ys) : Reps K cs F (vs ++ ws) (xs ++ ys) := by
  revert xs
  induction vs with
  | nil => intro xs h; cases h; exact g
  | cons v vs ih => intro xs h; cases h with | cons h r => exact .cons h (ih r)
theorem Reps.drop {vs : List V} {xs : List AV} (h : Reps K cs F vs xs) (n : Nat) : Reps K cs F (vs.drop n) (xs.drop n) := by
  induction n generalizing vs xs with
  | zero => exact h
  | succ n ih => cases h with
    | nil => exact .nil
    | cons h r => exact ih r
theorem Reps.take {vs : List V} {xs : List AV} (h : Reps K cs F vs xs) (n : Nat) : Reps K cs F (vs.take n) (xs.take n) := by
  induction n generalizing vs xs with
  | zero => exact .nil
  | succ n ih => cases h with
    | nil => exact .nil
    | cons h r => exact .cons h (ih r)
theorem Reps.rev {vs : List V} {xs : List AV} (h : Reps K cs F vs xs) : Reps K cs F vs.reverse xs.reverse := by
  induction vs generalizing xs with
  | nil => cases h; exact .nil
  | cons v vs ih => cases h with
    | cons h r =>
      rw [List.reverse_cons, List.reverse_cons]
      exact (ih r).append (.cons h .nil)
theorem Reps.cut {vs : List V} {xs : List AV} (h : Reps K cs F vs xs) (lo hi : Option Int) : Reps K cs F (cutV vs lo hi) (cut xs lo hi) := by
  unfold cutV VL.cut
  rw [h.length]
  exact (h.drop _).take _
theorem Reps.set {vs : List V} {xs : List AV} (h : Reps K cs F vs xs) {v : V} {d : AV} (r : Rep K cs F v d) (i : Nat) : Reps K cs F (vs.set i v) (xs.set i d) := by
  induction i generalizing vs xs with
  | zero => cases h with
    | nil => exact .nil
    | cons h t => exact .cons r t
  | succ n ih => cases h with
    | nil => exact .nil
    | cons h t => exact .cons h (ih t)
theorem Reps.at {vs : List V} {xs : List AV} (h : Reps K cs F vs xs) {i : Int} {d : AV} (e : atI xs i = some d) : ∃ v, atI vs i = some v ∧ Rep K cs F v d := by
  unfold atI at e ⊢
  rw [h.length]
  cases q : ixN xs.length i with
  | none => rw [q] at e; cases e
  | some j => rw [q] at e; exact h.get e
theorem RepK.length {vs : List (Key × V)} {xs : List (Key × AV)} (h : RepK K cs F vs xs) : vs.length = xs.length := by
  revert xs
  induction vs with
  | nil => intro xs h; cases h; rfl
  | cons v vs ih => intro xs h; cases h with | cons h r => simp [ih r]
theorem RepK.get {vs : List (Key × V)} {xs : List (Key × AV)} (h : RepK K cs F vs xs) {k : Key} : (∃ v d, valV vs k = some v ∧ getD xs k = some d ∧ Rep K cs F v d) ∨ (valV vs k = none ∧ getD xs k = none) := by
  revert xs
  induction vs with
  | nil => intro xs h; cases h; exact .inr ⟨rfl, rfl⟩
  | cons v vs ih =>
    intro xs h
    cases h with
    | cons h r =>
      rename_i k' v' d' ds'
      unfold valV getD
      by_cases q : k' = k
      · subst q
        exact .inl ⟨v', d', by simp [List.find?_cons], by simp [List.find?_cons], h⟩
      · have := ih r
        unfold valV getD at this
        simpa [List.find?_cons, q] using this
theorem RepK.any {vs : List (Key × V)} {xs : List (Key × AV)} (h : RepK K cs F vs xs) {k : Key} : (vs.any fun kv => decide (kv.1 = k)) = (xs.any fun kv => decide (kv.1 = k)) := by
  revert xs
  induction vs with
  | nil => intro xs h; cases h; rfl
  | cons v vs ih =>
    intro xs h
    cases h with
    | cons h r => simp [ih r]
theorem RepK.append {vs ws : List (Key × V)} {xs ys : List (Key × AV)} (h : RepK K cs F vs xs) (g : RepK K cs F ws ys) : RepK K cs F (vs ++ ws) (xs ++ ys) := by
  revert xs
  induction vs with
  | nil => intro xs h; cases h; exact g
  | cons v vs ih => intro xs h; cases h with | cons h r => exact .cons h (ih r)
theorem RepK.mapPut {vs : List (Key × V)} {xs : List (Key × AV)} (h : RepK K cs F vs xs) {k : Key} {v : V} {d : AV} (r : Rep K cs F v d) :
    RepK K cs F (vs.map fun kv => if kv.1 = k then (kv.1, v) else kv) (xs.map fun kv => if kv.1 = k then (kv.1, d) else kv) := by
  revert xs
  induction vs with
  | nil => intro xs h; cases h; exact .nil
  | cons w vs ih =>
    intro xs h
    cases h with
    | cons h t =>
      rename_i k' v' d' ds'
      simp only [List.map_cons]
      by_cases q : k' = k
      · rw [if_pos q, if_pos q]; exact .cons r (ih t)
      · rw [if_neg q, if_neg q]; exact .cons h (ih t)
theorem RepK.put {vs : List (Key × V)} {xs : List (Key × AV)} (h : RepK K cs F vs xs) {k : Key} {v : V} {d : AV} (r : Rep K cs F v d) : RepK K cs F (putK vs k v) (putD xs k d) := by
  unfold putK putD
  rw [h.any]
  split
  · exact h.mapPut r
  · exact h.append (.cons r .nil)
theorem RepF.get {vs : List (Str × V)} {xs : List (Str × AV)} (h : RepF K cs F vs xs) {k : Str} {d : AV} (e : xs.lookup k = some d) : ∃ v, vs.lookup k = some v ∧ Rep K cs F v d := by
  induction h with
  | nil => simp at e
  | cons h r ih =>
    rw [List.lookup_cons] at e ⊢
    split at e
    · cases e
      exact ⟨_, rfl, h⟩
    · exact ih e
theorem RepF.none {vs : List (Str × V)} {xs : List (Str × AV)} (h : RepF K cs F vs xs) {k : Str} (e : xs.lookup k = none) : vs.lookup k = none := by
  induction h with
  | nil => rfl
  | cons h r ih =>
    rw [List.lookup_cons] at e ⊢
    split at e
    · cases e
    · exact ih e
theorem RepF.length {vs : List (Str × V)} {xs : List (Str × AV)} (h : RepF K cs F vs xs) : vs.length = xs.length := by
  induction h with
  | nil => rfl
  | cons h r ih => simp [ih]
theorem RepF.put {vs : List (Str × V)} {xs : List (Str × AV)} (h : RepF K cs F vs xs) {f : Str} {v : V} {d : AV} (r : Rep K cs F v d) : RepF K cs F (putF f v vs) (putFA f d xs) := by
  induction h with
  | nil => exact .cons r .nil
  | cons h t ih =>
    rename_i k v' vs' d' ds'
    show RepF K cs F (if k = f then (k, v) :: vs' else (k, v') :: putF f v vs') (if k = f then (k, d) :: ds' else (k, d') :: putFA f d ds')
    by_cases q : k = f
    · rw [if_pos q, if_pos q]; exact .cons r t
    · rw [if_neg q, if_neg q]; exact .cons h ih
theorem Reps.ints {vs : List V} {xs : List AV} (h : Reps K cs F vs xs) {ns : List Int} (e : asInts xs = some ns) : vs = ns.map V.int := by
  revert xs ns
  induction vs with
  | nil => intro xs h ns e; cases h; simp [asInts] at e; subst e; rfl
  | cons v vs ih =>
    intro xs h ns e
    cases h with
    | cons h r =>
      cases h <;> simp [asInts] at e
      obtain ⟨l, e1, e2⟩ := e
      subst e2
      rw [ih r e1]; rfl
theorem Reps.bools {vs : List V} {xs : List AV} (h : Reps K cs F vs xs) {ns : List Bool} (e : asBools xs = some ns) : vs = ns.map V.bl := by
  revert xs ns
  induction vs with
  | nil => intro xs h ns e; cases h; simp [asBools] at e; subst e; rfl
  | cons v vs ih =>
    intro xs h ns e
    cases h with
    | cons h r =>
      cases h <;> simp [asBools] at e
      obtain ⟨l, e1, e2⟩ := e
      subst e2
      rw [ih r e1]; rfl
theorem Reps.strs {vs : List V} {xs : List AV} (h : Reps K cs F vs xs) {ns : List Str} (e : asStrs xs = some ns) : vs = ns.map V.str := by
  revert xs ns
  induction vs with
  | nil => intro xs h ns e; cases h; simp [asStrs] at e; subst e; rfl
  | cons v vs ih =>
    intro xs h ns e
    cases h with
    | cons h r =>
      cases h <;> simp [asStrs] at e
      obtain ⟨l, e1, e2⟩ := e
      subst e2
      rw [ih r e1]; rfl
mutual
theorem Rep.dp {H : Hp} (e : Ex F H) : ∀ {v : V} {d : AV}, Rep K cs F v d → ∀ {p : PyData}, pd d = some p → Dp K H v p
  | _, _, .non, _, q => by simp [pd] at q; subst q; exact .non
  | _, _, .bl b, _, q => by simp [pd] at q; subst q; exact .bl b
  | _, _, .int i, _, q => by simp [pd] at q; subst q; exact .int i
  | _, _, .str s, _, q => by simp [pd] at q; subst q; exact .str s
  | _, _, .tup h r, _, q => by
    simp [pd] at q
    obtain ⟨l, e1, e2⟩ := q
    subst e2
    exact .tup (ex_t e h) (Reps.dp e r e1)
  | _, _, .lst h r, _, q => by
    simp [pd] at q
    obtain ⟨l, e1, e2⟩ := q
    subst e2
    exact .lst (sq_of (e _ _ h)) (Reps.dp e r e1)
  | _, _, .ro h r, _, q => by
    simp [pd] at q
    obtain ⟨l, e1, e2⟩ := q
    subst e2
    exact .lst (ex_l e h) (Reps.dp e r e1)
  | _, _, .dct h r, _, q => by simp [pd] at q
  | _, _, .adr h, _, q => by simp [pd] at q
theorem Reps.dp {H : Hp} (e : Ex F H) : ∀ {v : List V} {d : List AV}, Reps K cs F v d → ∀ {p : List PyData}, pds d = some p → DpAll K H v p
  | _, _, .nil, _, q => by simp [pds] at q; subst q; exact .nil
  | _, _, .cons h r, _, q => by
    simp [pds, Option.bind_eq_some_iff] at q
    obtain ⟨d1, e1, l, e2, e3⟩ := q
    subst e3
    exact .cons (Rep.dp e h e1) (Reps.dp e r e2)
end
end

/-! ### states -/
def COk (K : PySem.W.Frag) (Cl : Nat → Addr) (cs : List Addr) (F H : Hp) (a : Addr) : Cell → Prop
  | .lst xs => ∃ vs, H a = some (.lst vs) ∧ Reps K cs F vs xs
  | .dct xs => ∃ us, H a = some (.dK us) ∧ RepK K cs F us xs
  | .obj c fs => ∃ dx fvs, H a = some (.ins (Cl c) dx fvs) ∧ RepF K cs F fvs fs
  | .dead => H a ≠ none
structure StOk (K : PySem.W.Frag) (Cl : Nat → Addr) (cs : List Addr) (F H : Hp) (h : AHeap) : Prop where
  sub : Ex F H
  len : cs.length = h.length
  nd : cs.Nodup
  cell : ∀ n a, cs[n]? = some a → COk K Cl cs F H a (cells h n)
  free : ∀ a, a ∈ cs → F a = none
structure Stp (cs : List Addr) (F H : Hp) (cs' : List Addr) (F' H' : Hp) : Prop where
  f : Ex F F'
  c : ∃ r, cs' = cs ++ r
  k : ∀ b o, H b = some o → b ∉ cs → H' b = some o
  d : ∀ b, H b ≠ none → H' b ≠ none
  n : ∀ b, F b = none → F' b ≠ none → H b = none
  m : ∀ b, b ∈ cs' → b ∉ cs → H b = none
structure EnvOk (K : PySem.W.Frag) (Cl : Nat → Addr) (cs : List Addr) (F H : Hp) (σ : L2.St) (ρ : Env) : Prop where
  len : ρ.length = σ.length
  val : ∀ i d, getS ρ i = .val d → ∃ v, σ[i]? = some (some v) ∧ Rep K cs F v d
  own : ∀ i c, getS ρ i = .own c → ∃ a, σ[i]? = some (some (.ref a)) ∧ a ∉ cs ∧ F a = none ∧ COk K Cl cs F H a c
  dis : ∀ i j c c' a, i ≠ j → getS ρ i = .own c → getS ρ j = .own c' → σ[i]? = some (some (.ref a)) → σ[j]? ≠ some (some (.ref a))

section
variable {K : PySem.W.Frag} {Cl : Nat → Addr} {cs cs' cs'' : List Addr} {F F' F'' H H' H'' : Hp} {σ : L2.St} {ρ : Env} {h h' : AHeap} {a : Addr} {c : Cell}
theorem COk.some (x : COk K Cl cs F H a c) : H a ≠ none := by
  cases c with
  | lst xs => obtain ⟨vs, e, _⟩ := x; rw [e]; simp
  | dct xs => obtain ⟨vs, e, _⟩ := x; rw [e]; simp
  | obj c fs => obtain ⟨dx, vs, e, _⟩ := x; rw [e]; simp
  | dead => exact x
/-- the object at a as it was -/
theorem COk.mono (x : COk K Cl cs F H a c) (e : Ex F F') (hc : ∃ r, cs' = cs ++ r) (k : ∀ o, H a = Option.some o → H' a = Option.some o) : COk K Cl cs' F' H' a c := by
  cases c with
  | lst xs => obtain ⟨vs, q, r⟩ := x; exact ⟨vs, k _ q, r.mono e hc⟩
  | dct xs => obtain ⟨vs, q, r⟩ := x; exact ⟨vs, k _ q, r.mono e hc⟩
  | obj c fs => obtain ⟨dx, vs, q, r⟩ := x; exact ⟨dx, vs, k _ q, r.mono e hc⟩
  | dead =>
    show H' a ≠ none
    have x' : H a ≠ none := x
    cases q : H a with
    | none => exact absurd q x'
    | some o => rw [k o q]; simp
theorem Stp.refl : Stp cs F H cs F H := ⟨fun _ _ h => h, ⟨[], by simp⟩, fun _ _ h _ => h, fun _ h => h, fun b h1 h2 => absurd h1 h2, fun b h1 h2 => absurd h1 h2⟩
theorem Stp.trans (x : Stp cs F H cs' F' H') (y : Stp cs' F' H' cs'' F'' H'') : Stp cs F H cs'' F'' H'' where
  f := x.f.trans y.f
  c := by
    obtain ⟨r, e⟩ := x.c
    obtain ⟨s, e2⟩ := y.c
    exact ⟨r ++ s, by rw [e2, e, List.append_assoc]⟩
  k := fun b o e n => y.k b o (x.k b o e n) fun z => by
    have := x.m b z n
    rw [e] at this; cases this
  d := fun b e => y.d b (x.d b e)
  n := fun b e1 e2 => by
    by_cases q : F' b = none
    · have z := y.n b q e2
      cases w : H b with
      | none => rfl
      | some o => exact absurd z (x.d b (by rw [w]; simp))
    · exact x.n b e1 q
  m := fun b e1 e2 => by
    by_cases q : b ∈ cs'
    · exact x.m b q e2
    · have z := y.m b e1 q
      cases w : H b with
      | none => rfl
      | some o => exact absurd z (x.d b (by rw [w]; simp))
theorem Stp.fresh (x : Stp cs F H cs' F' H') {b : Addr} (h : H' b = none) : H b = none := by
  cases w : H b with
  | none => rfl
  | some o => exact absurd h (x.d b (by rw [w]; simp))
theorem EnvOk.step (E : EnvOk K Cl cs F H σ ρ) (x : Stp cs F H cs' F' H') : EnvOk K Cl cs' F' H' σ ρ where
  len := E.len
  val := fun i d e => by
    obtain ⟨v, q, r⟩ := E.val i d e
    exact ⟨v, q, r.mono x.f x.c⟩
  own := fun i c e => by
    obtain ⟨a, q, n1, n2, r⟩ := E.own i c e
    have hs := r.some
    refine ⟨a, q, fun z => hs (x.m a z n1), ?_, r.mono x.f x.c fun o ho => x.k a o ho n1⟩
    cases w : F' a with
    | none => rfl
    | some o => exact absurd (x.n a n2 (by rw [w]; simp)) hs
  dis := E.dis

/-! ### cells, slots -/
theorem cells_app {n : Nat} (hn : n < h.length) : cells (h ++ h') n = cells h n := by
  unfold cells
  rw [List.getElem?_append_left hn]
theorem cells_new : cells (h ++ [c]) h.length = c := by
  unfold cells
  simp
theorem cells_set_same {n : Nat} (hn : n < h.length) : cells (h.set n c) n = c := by
  unfold cells
  simp [hn]
theorem cells_set_ne {n m : Nat} (hn : n ≠ m) : cells (h.set n c) m = cells h m := by
  unfold cells
  rw [List.getElem?_set_ne hn]
theorem getS_set_same {i : Nat} {v : Slot} (hi : i < ρ.length) : getS (setS ρ i v) i = v := by
  induction ρ generalizing i with
  | nil => cases hi
  | cons x r ih => cases i with
    | zero => rfl
    | succ i => exact ih (by simpa using hi)
theorem getS_set_ne {i j : Nat} {v : Slot} (hi : i ≠ j) : getS (setS ρ i v) j = getS ρ j := by
  induction ρ generalizing i j with
  | nil => rfl
  | cons x r ih => cases i with
    | zero => cases j with
      | zero => exact absurd rfl hi
      | succ j => rfl
    | succ i => cases j with
      | zero => rfl
      | succ j => exact ih (fun e => hi (by rw [e]))
theorem setS_length {i : Nat} {v : Slot} : (setS ρ i v).length = ρ.length := by
  induction ρ generalizing i with
  | nil => rfl
  | cons x r ih => cases i with
    | zero => rfl
    | succ i => simp [setS, ih]
theorem getS_lt {i : Nat} (h : getS ρ i ≠ .no) : i < ρ.length := by
  induction ρ generalizing i with
  | nil => exact absurd rfl h
  | cons x r ih => cases i with
    | zero => simp
    | succ i => simpa using ih h
theorem setS_out {i : Nat} {v : Slot} (hi : ρ.length ≤ i) : setS ρ i v = ρ := by
  induction ρ generalizing i with
  | nil => rfl
  | cons x r ih => cases i with
    | zero => simp at hi
    | succ i => simp only [setS]; rw [ih (by simpa using hi)]
/-- a slot is given a value -/
theorem EnvOk.setV (E : EnvOk K Cl cs F H σ ρ) {i : Nat} {v : V} {d : AV} (r : Rep K cs F v d) : EnvOk K Cl cs F H (σ.set i (some v)) (setS ρ i (.val d)) := by
  by_cases hi : i < ρ.length
  · have hs : i < σ.length := by rw [← E.len]; exact hi
    refine ⟨by rw [setS_length, List.length_set, E.len], fun j e h => ?_, fun j c h => ?_, fun j k c c' a ne h1 h2 h3 => ?_⟩
    · by_cases hj : i = j
      · subst hj
        rw [getS_set_same hi] at h
        cases h
        exact ⟨v, by rw [List.getElem?_set_self hs], r⟩
      · rw [getS_set_ne hj] at h
        rw [List.getElem?_set_ne hj]
        exact E.val j e h
    · by_cases hj : i = j
      · subst hj
        rw [getS_set_same hi] at h
        cases h
      · rw [getS_set_ne hj] at h
        rw [List.getElem?_set_ne hj]
        exact E.own j c h
    · have n1 : i ≠ j := fun z => by subst z; rw [getS_set_same hi] at h1; cases h1
      have n2 : i ≠ k := fun z => by subst z; rw [getS_set_same hi] at h2; cases h2
      rw [getS_set_ne n1] at h1
      rw [getS_set_ne n2] at h2
      rw [List.getElem?_set_ne n1] at h3
      rw [List.getElem?_set_ne n2]
      exact E.dis j k c c' a ne h1 h2 h3
  · have hi' : ρ.length ≤ i := by omega
    have hs : σ.length ≤ i := by rw [← E.len]; exact hi'
    rw [setS_out hi', List.set_eq_of_length_le hs]
    exact E
/-- a slot is forgotten -/
theorem EnvOk.setN (E : EnvOk K Cl cs F H σ ρ) {i : Nat} {v : Option V} : EnvOk K Cl cs F H (σ.set i v) (setS ρ i .no) := by
  by_cases hi : i < ρ.length
  · refine ⟨by rw [setS_length, List.length_set, E.len], fun j e h => ?_, fun j c h => ?_, fun j k c c' a ne h1 h2 h3 => ?_⟩
    · by_cases hj : i = j
      · subst hj
        rw [getS_set_same hi] at h
        cases h
      · rw [getS_set_ne hj] at h
        rw [List.getElem?_set_ne hj]
        exact E.val j e h
    · by_cases hj : i = j
      · subst hj
        rw [getS_set_same hi] at h
        cases h
      · rw [getS_set_ne hj] at h
        rw [List.getElem?_set_ne hj]
        exact E.own j c h
    · have n1 : i ≠ j := fun z => by subst z; rw [getS_set_same hi] at h1; cases h1
      have n2 : i ≠ k := fun z => by subst z; rw [getS_set_same hi] at h2; cases h2
      rw [getS_set_ne n1] at h1
      rw [getS_set_ne n2] at h2
      rw [List.getElem?_set_ne n1] at h3
      rw [List.getElem?_set_ne n2]
      exact E.dis j k c c' a ne h1 h2 h3
  · have hi' : ρ.length ≤ i := by omega
    have hs : σ.length ≤ i := by rw [← E.len]; exact hi'
    rw [setS_out hi', List.set_eq_of_length_le hs]
    exact E
theorem EnvOk.wipe (E : EnvOk K Cl cs F H σ ρ) (vs : List Nat) : EnvOk K Cl cs F H (wipe σ vs) (wipeS ρ vs) := by
  induction vs with
  | nil => exact E
  | cons v vs ih => exact ih.setN
/-- a slot's own cell: new, or changed -/
theorem EnvOk.setO (E : EnvOk K Cl cs F H σ ρ) {i : Nat} {a : Addr} {c : Cell} {o : HO} (n1 : a ∉ cs) (n2 : F a = none) (r : COk K Cl cs F (upd H a o) a c)
    (old : ∀ j c', j ≠ i → getS ρ j = .own c' → σ[j]? ≠ some (some (.ref a))) : EnvOk K Cl cs F (upd H a o) (σ.set i (some (.ref a))) (setS ρ i (.own c)) := by
  have key : ∀ {j c'} , j ≠ i → getS ρ j = .own c' → ∃ b, σ[j]? = some (some (.ref b)) ∧ b ∉ cs ∧ F b = none ∧ COk K Cl cs F (upd H a o) b c' := fun {j c'} hj h => by
    obtain ⟨b, e1, e2, e3, e4⟩ := E.own j c' h
    refine ⟨b, e1, e2, e3, e4.mono (fun _ _ q => q) ⟨[], by simp⟩ fun u hu => ?_⟩
    rw [upd_ne]
    · exact hu
    · intro z
      subst z
      exact old j c' hj h e1
  by_cases hi : i < ρ.length
  · have hs : i < σ.length := by rw [← E.len]; exact hi
    refine ⟨by rw [setS_length, List.length_set, E.len], fun j e h => ?_, fun j c h => ?_, fun j k c1 c2 b ne h1 h2 h3 => ?_⟩
    · by_cases hj : i = j
      · subst hj
        rw [getS_set_same hi] at h
        cases h
      · rw [getS_set_ne hj] at h
        rw [List.getElem?_set_ne hj]
        exact E.val j e h
    · by_cases hj : i = j
      · subst hj
        rw [getS_set_same hi] at h
        cases h
        exact ⟨a, by rw [List.getElem?_set_self hs], n1, n2, r⟩
      · rw [getS_set_ne hj] at h
        rw [List.getElem?_set_ne hj]
        exact key (Ne.symm hj) h
    · by_cases hj : i = j
      · subst hj
        rw [List.getElem?_set_self hs] at h3
        cases h3
        rw [getS_set_ne ne] at h2
        rw [List.getElem?_set_ne ne]
        exact old k c2 (Ne.symm ne) h2
      · by_cases hk : i = k
        · subst hk
          rw [List.getElem?_set_self hs]
          rw [getS_set_ne hj] at h1
          rw [List.getElem?_set_ne hj] at h3
          intro z
          cases z
          exact old j c1 (Ne.symm hj) h1 h3
        · rw [getS_set_ne hj] at h1
          rw [getS_set_ne hk] at h2
          rw [List.getElem?_set_ne hj] at h3
          rw [List.getElem?_set_ne hk]
          exact E.dis j k c1 c2 b ne h1 h2 h3
  · have hi' : ρ.length ≤ i := by omega
    have hs : σ.length ≤ i := by rw [← E.len]; exact hi'
    rw [setS_out hi', List.set_eq_of_length_le hs]
    refine ⟨E.len, E.val, fun j c h => ?_, E.dis⟩
    have hj : j ≠ i := fun z => by
      subst z
      exact absurd (getS_lt (ρ := ρ) (i := j) (by rw [h]; simp)) hi
    exact key hj h
end
end VL

set_option maxRecDepth 100000
set_option maxHeartbeats 2000000
/-! VL: the operations. -/
namespace VL
open PySem L2 Evl PyProof.Rows PySem.Spec

theorem nd_inj {α : Type} {l : List α} (nd : l.Nodup) {i j : Nat} {x : α} (h : l[i]? = some x) (h2 : l[j]? = some x) : i = j :=
  (List.getElem?_inj (List.getElem?_eq_some_iff.mp h).1 nd).mp (h.trans h2.symm)
section
variable {K : PySem.W.Frag} {Cl : Nat → Addr} {cs cs' : List Addr} {F F' H H' : Hp} {σ : L2.St} {ρ : Env} {h h' : AHeap} {a p : Addr} {c : Cell} {o : HO}
/-- a new frozen object -/
theorem StOk.newF (S : StOk K Cl cs F H h) (hp : H p = none) : StOk K Cl cs (upd F p o) (upd H p o) h := by
  have hF : F p = none := by
    cases q : F p with
    | none => rfl
    | some u => rw [S.sub _ _ q] at hp; cases hp
  have e : Ex F (upd F p o) := Ex.new hF
  refine ⟨fun b u q => ?_, S.len, S.nd, fun n a q => ?_, fun a q => ?_⟩
  · by_cases hb : b = p
    · subst hb; rw [upd_same] at q ⊢; exact q
    · rw [upd_ne hb] at q ⊢; exact S.sub _ _ q
  · refine (S.cell n a q).mono e ⟨[], by simp⟩ fun u hu => ?_
    rw [upd_ne (ne_of_none hu hp)]
    exact hu
  · have hs := (List.mem_iff_getElem?.mp q)
    obtain ⟨n, hn⟩ := hs
    have hne : a ≠ p := fun z => by
      subst z
      exact (S.cell n a hn).some hp
    rw [upd_ne hne]
    exact S.free a q
theorem Stp.newF (S : StOk K Cl cs F H h) (hp : H p = none) : Stp cs F H cs (upd F p o) (upd H p o) := by
  have hF : F p = none := by
    cases q : F p with
    | none => rfl
    | some u => rw [S.sub _ _ q] at hp; cases hp
  refine ⟨Ex.new hF, ⟨[], by simp⟩, fun b u q _ => ?_, fun b q => ?_, fun b q1 q2 => ?_, fun b q1 q2 => absurd q1 q2⟩
  · rw [upd_ne (ne_of_none q hp)]; exact q
  · by_cases hb : b = p
    · subst hb; rw [upd_same]; simp
    · rw [upd_ne hb]; exact q
  · by_cases hb : b = p
    · subst hb; exact hp
    · rw [upd_ne hb] at q2; exact absurd q1 q2
/-- a new object that is nobody's yet -/
theorem StOk.newN (S : StOk K Cl cs F H h) (hp : H p = none) : StOk K Cl cs F (upd H p o) h := by
  refine ⟨fun b u q => ?_, S.len, S.nd, fun n a q => ?_, S.free⟩
  · rw [upd_ne (ne_of_none (S.sub _ _ q) hp)]; exact S.sub _ _ q
  · refine (S.cell n a q).mono (fun _ _ z => z) ⟨[], by simp⟩ fun u hu => ?_
    rw [upd_ne (ne_of_none hu hp)]
    exact hu
theorem Stp.newN (hp : H p = none) : Stp cs F H cs F (upd H p o) := by
  refine ⟨fun _ _ z => z, ⟨[], by simp⟩, fun b u q _ => ?_, fun b q => ?_, fun b q1 q2 => absurd q1 q2, fun b q1 q2 => absurd q1 q2⟩
  · rw [upd_ne (ne_of_none q hp)]; exact q
  · by_cases hb : b = p
    · subst hb; rw [upd_same]; simp
    · rw [upd_ne hb]; exact q
/-- nobody's object is changed -/
theorem StOk.chgN (S : StOk K Cl cs F H h) (hF : F p = none) (hc : p ∉ cs) : StOk K Cl cs F (upd H p o) h := by
  refine ⟨fun b u q => ?_, S.len, S.nd, fun n a q => ?_, S.free⟩
  · have hb : b ≠ p := fun z => by subst z; rw [hF] at q; cases q
    rw [upd_ne hb]; exact S.sub _ _ q
  · refine (S.cell n a q).mono (fun _ _ z => z) ⟨[], by simp⟩ fun u hu => ?_
    have hb : a ≠ p := fun z => by subst z; exact hc (List.mem_of_getElem? q)
    rw [upd_ne hb]
    exact hu
/-- nobody's object is frozen -/
theorem StOk.freeze (S : StOk K Cl cs F H h) (hF : F p = none) (hc : p ∉ cs) (hH : H p = some o) : StOk K Cl cs (upd F p o) H h := by
  refine ⟨fun b u q => ?_, S.len, S.nd, fun n a q => ?_, fun a q => ?_⟩
  · by_cases hb : b = p
    · subst hb; rw [upd_same] at q; rw [← q]; exact hH
    · rw [upd_ne hb] at q; exact S.sub _ _ q
  · exact (S.cell n a q).mono (Ex.new hF) ⟨[], by simp⟩ fun u hu => hu
  · have hb : a ≠ p := fun z => by subst z; exact hc q
    rw [upd_ne hb]; exact S.free a q
/-- nobody's object becomes a cell -/
theorem StOk.cellNew (S : StOk K Cl cs F H h) (hF : F p = none) (hc : p ∉ cs) (r : COk K Cl (cs ++ [p]) F H p c) : StOk K Cl (cs ++ [p]) F H (h ++ [c]) := by
  refine ⟨S.sub, by simp [S.len], ?_, fun n a q => ?_, fun a q => ?_⟩
  · rw [List.nodup_append]
    refine ⟨S.nd, by simp, fun x hx y hy => ?_⟩
    simp at hy
    subst hy
    exact fun z => hc (z ▸ hx)
  · by_cases hn : n < cs.length
    · rw [List.getElem?_append_left hn] at q
      rw [cells_app (by rw [← S.len]; exact hn)]
      exact (S.cell n a q).mono (fun _ _ z => z) ⟨[p], rfl⟩ fun _ z => z
    · have hn2 : n = cs.length := by
        have := (List.getElem?_eq_some_iff.mp q).1
        simp at this
        omega
      subst hn2
      rw [List.getElem?_append_right (Nat.le_refl _)] at q
      simp at q
      subst q
      rw [S.len, cells_new]
      exact r
  · simp at q
    rcases q with q | q
    · exact S.free a q
    · subst q; exact hF
/-- a cell is changed -/
theorem StOk.cellSet (S : StOk K Cl cs F H h) {n : Nat} (e : cs[n]? = some p) (r : COk K Cl cs F (upd H p o) p c) : StOk K Cl cs F (upd H p o) (h.set n c) := by
  have hn : n < h.length := by rw [← S.len]; exact (List.getElem?_eq_some_iff.mp e).1
  refine ⟨fun b u q => ?_, by simp [S.len], S.nd, fun m a q => ?_, S.free⟩
  · have hb : b ≠ p := fun z => by
      subst z
      rw [S.free b (List.mem_of_getElem? e)] at q
      cases q
    rw [upd_ne hb]; exact S.sub _ _ q
  · by_cases hm : n = m
    · subst hm
      rw [e] at q
      cases q
      rw [cells_set_same hn]
      exact r
    · rw [cells_set_ne hm]
      refine (S.cell m a q).mono (fun _ _ z => z) ⟨[], by simp⟩ fun u hu => ?_
      have hb : a ≠ p := fun z => by
        subst z
        have h1 := (List.getElem?_eq_some_iff.mp e)
        have h2 := (List.getElem?_eq_some_iff.mp q)
        exact hm (nd_inj S.nd e q)
      rw [upd_ne hb]
      exact hu
theorem Stp.chg {F H : Hp} (hc : p ∈ cs) : Stp cs F H cs F (upd H p o) := by
  refine ⟨fun _ _ z => z, ⟨[], by simp⟩, fun b u q n => ?_, fun b q => ?_, fun b q1 q2 => absurd q1 q2, fun b q1 q2 => absurd q1 q2⟩
  · rw [upd_ne fun z => by subst z; exact n hc]; exact q
  · by_cases hb : b = p
    · subst hb; rw [upd_same]; simp
    · rw [upd_ne hb]; exact q
end

/-- a container as it may be read -/
def RepB (K : PySem.W.Frag) (cs : List Addr) (F H : Hp) (b : Bool) (v : V) (d : AV) : Prop :=
  Rep K cs F v d ∨ (b = true ∧ ∃ a, v = .ref a ∧ a ∉ cs ∧ F a = none ∧ ((∃ vs xs, d = .lst xs ∧ H a = some (.lst vs) ∧ Reps K cs F vs xs) ∨ ∃ us xs, d = .dct xs ∧ H a = some (.dK us) ∧ RepK K cs F us xs))
section
variable {K : PySem.W.Frag} {Cl : Nat → Addr} {cs cs' : List Addr} {F F' H H' : Hp} {σ : L2.St} {ρ : Env} {h h' : AHeap} {b : Bool} {v : V} {d : AV}
theorem RepB.step (r : RepB K cs F H b v d) (x : Stp cs F H cs' F' H') : RepB K cs' F' H' b v d := by
  rcases r with r | ⟨hb, a, e, n1, n2, r⟩
  · exact .inl (r.mono x.f x.c)
  · have hs : H a ≠ none := by
      rcases r with ⟨vs, xs, _, q, _⟩ | ⟨vs, xs, _, q, _⟩ <;> rw [q] <;> simp
    have h1 : a ∉ cs' := fun z => hs (x.m a z n1)
    have h2 : F' a = none := by
      cases w : F' a with
      | none => rfl
      | some o => exact absurd (x.n a n2 (by rw [w]; simp)) hs
    refine .inr ⟨hb, a, e, h1, h2, ?_⟩
    rcases r with ⟨vs, xs, e1, q, r⟩ | ⟨vs, xs, e1, q, r⟩
    · exact .inl ⟨vs, xs, e1, x.k _ _ q n1, r.mono x.f x.c⟩
    · exact .inr ⟨vs, xs, e1, x.k _ _ q n1, r.mono x.f x.c⟩
theorem RepB.plain (r : RepB K cs F H false v d) : Rep K cs F v d := by
  rcases r with r | ⟨hb, _⟩
  · exact r
  · cases hb
theorem cell_at {n : Nat} {a : Addr} {xs : List AV} (S : StOk K Cl cs F H h) (e : cs[n]? = some a) (q : cells h n = .lst xs) : ∃ vs, H a = some (.lst vs) ∧ Reps K cs F vs xs := by
  have := S.cell n a e
  rw [q] at this
  exact this
theorem cell_atD {n : Nat} {a : Addr} {xs : List (Key × AV)} (S : StOk K Cl cs F H h) (e : cs[n]? = some a) (q : cells h n = .dct xs) : ∃ vs, H a = some (.dK vs) ∧ RepK K cs F vs xs := by
  have := S.cell n a e
  rw [q] at this
  exact this
theorem RepB.viewW (r : RepB K cs F H b v d) (S : StOk K Cl cs F H h) {xs : List AV} (e : viewW h d = some xs) : ∃ a vs, v = .ref a ∧ H a = some (.lst vs) ∧ Reps K cs F vs xs := by
  rcases r with r | ⟨hb, a, e1, n1, n2, r⟩
  · cases r with
    | lst q r => simp [VL.viewW] at e; subst e; exact ⟨_, _, rfl, S.sub _ _ q, r⟩
    | adr q =>
      rename_i n a
      simp only [VL.viewW] at e
      split at e
      · rename_i xs' hc
        cases e
        obtain ⟨vs, q1, q2⟩ := cell_at S q hc
        exact ⟨_, _, rfl, q1, q2⟩
      · cases e
    | _ => simp [VL.viewW] at e
  · rcases r with ⟨vs, xs', e2, q, r⟩ | ⟨vs, xs', e2, q, r⟩
    · subst e2; simp [VL.viewW] at e; subst e; exact ⟨_, _, e1, q, r⟩
    · subst e2; simp [VL.viewW] at e
theorem RepB.view (r : RepB K cs F H b v d) (S : StOk K Cl cs F H h) {xs : List AV} (e : view h d = some xs) : ∃ a vs, v = .ref a ∧ SqL K H a vs ∧ Reps K cs F vs xs := by
  rcases r with r | ⟨hb, a, e1, n1, n2, r⟩
  · cases r with
    | lst q r => simp [VL.view] at e; subst e; exact ⟨_, _, rfl, sq_of (S.sub _ _ q), r⟩
    | ro q r => simp [VL.view] at e; subst e; exact ⟨_, _, rfl, ex_l S.sub q, r⟩
    | adr q =>
      rename_i n a
      simp only [VL.view] at e
      split at e
      · rename_i xs' hc
        cases e
        obtain ⟨vs, q1, q2⟩ := cell_at S q hc
        exact ⟨_, _, rfl, sq_of q1, q2⟩
      · cases e
    | _ => simp [VL.view] at e
  · rcases r with ⟨vs, xs', e2, q, r⟩ | ⟨vs, xs', e2, q, r⟩
    · subst e2; simp [VL.view] at e; subst e; exact ⟨_, _, e1, sq_of q, r⟩
    · subst e2; simp [VL.view] at e
theorem viewT_eq {h : AHeap} {d : AV} {xs : List AV} (e : viewT h d = some xs) : d = .tup xs ∨ view h d = some xs := by
  unfold VL.viewT at e
  split at e
  · cases e; exact .inl rfl
  · exact .inr e
theorem RepB.viewT (r : RepB K cs F H b v d) (S : StOk K Cl cs F H h) {xs : List AV} (e : viewT h d = some xs) : ∃ a vs, v = .ref a ∧ (SqL K H a vs ∨ SqT K H a vs) ∧ Reps K cs F vs xs := by
  rcases viewT_eq e with q | q
  · subst q
    rcases r with r | ⟨hb, a, e1, n1, n2, r⟩
    · cases r with
      | tup q r => exact ⟨_, _, rfl, .inr (ex_t S.sub q), r⟩
    · rcases r with ⟨vs, xs', e2, q, r⟩ | ⟨vs, xs', e2, q, r⟩ <;> cases e2
  · obtain ⟨a, vs, h1, h2, h3⟩ := r.view S q
    exact ⟨a, vs, h1, .inl h2, h3⟩
theorem RepB.viewD (r : RepB K cs F H b v d) (S : StOk K Cl cs F H h) {xs : List (Key × AV)} (e : viewD h d = some xs) : ∃ a vs, v = .ref a ∧ H a = some (.dK vs) ∧ RepK K cs F vs xs := by
  rcases r with r | ⟨hb, a, e1, n1, n2, r⟩
  · cases r with
    | dct q r => simp [VL.viewD] at e; subst e; exact ⟨_, _, rfl, S.sub _ _ q, r⟩
    | adr q =>
      rename_i n a
      simp only [VL.viewD] at e
      split at e
      · rename_i xs' hc
        cases e
        obtain ⟨vs, q1, q2⟩ := cell_atD S q hc
        exact ⟨_, _, rfl, q1, q2⟩
      · cases e
    | _ => simp [VL.viewD] at e
  · rcases r with ⟨vs, xs', e2, q, r⟩ | ⟨vs, xs', e2, q, r⟩
    · subst e2; simp [VL.viewD] at e
    · subst e2; simp [VL.viewD] at e; subst e; exact ⟨_, _, e1, q, r⟩
mutual
theorem Rep.dpH (S : StOk K Cl cs F H h) : ∀ {v : V} {d : AV}, Rep K cs F v d → ∀ {p : PyData}, VL.pdH h d = some p → Dp K H v p
  | _, _, .non, _, q => by simp [VL.pdH] at q; subst q; exact .non
  | _, _, .bl b, _, q => by simp [VL.pdH] at q; subst q; exact .bl b
  | _, _, .int i, _, q => by simp [VL.pdH] at q; subst q; exact .int i
  | _, _, .str s, _, q => by simp [VL.pdH] at q; subst q; exact .str s
  | _, _, .tup h r, _, q => by
    simp [VL.pdH] at q
    obtain ⟨l, e1, e2⟩ := q
    subst e2
    exact .tup (ex_t S.sub h) (Reps.dpH S r e1)
  | _, _, .lst h r, _, q => by
    simp [VL.pdH] at q
    obtain ⟨l, e1, e2⟩ := q
    subst e2
    exact .lst (sq_of (S.sub _ _ h)) (Reps.dpH S r e1)
  | _, _, .ro h r, _, q => by
    simp [VL.pdH] at q
    obtain ⟨l, e1, e2⟩ := q
    subst e2
    exact .lst (ex_l S.sub h) (Reps.dpH S r e1)
  | _, _, .dct h r, _, q => by simp [VL.pdH] at q
  | _, _, .adr g, _, q => by
    simp only [VL.pdH] at q
    split at q
    · rename_i xs' hc
      simp at q
      obtain ⟨l, e1, e2⟩ := q
      subst e2
      obtain ⟨vs, q1, q2⟩ := cell_at S g hc
      exact .lst (sq_of q1) (q2.dp S.sub e1)
    · cases q
theorem Reps.dpH (S : StOk K Cl cs F H h) : ∀ {v : List V} {d : List AV}, Reps K cs F v d → ∀ {p : List PyData}, VL.pdHs h d = some p → DpAll K H v p
  | _, _, .nil, _, q => by simp [VL.pdHs] at q; subst q; exact .nil
  | _, _, .cons g r, _, q => by
    simp [VL.pdHs, Option.bind_eq_some_iff] at q
    obtain ⟨d1, e1, l, e2, e3⟩ := q
    subst e3
    exact .cons (Rep.dpH S g e1) (Reps.dpH S r e2)
end
theorem Reps.upH : ∀ {v : List V} {d : List AV}, Reps K cs F v d → StOk K Cl cs F H h → ∀ {p : List PyData}, VL.pdHs h d = some p → DpAll K H v p := fun r S _ q => Reps.dpH S r q
theorem RepB.pdH (r : RepB K cs F H b v d) (S : StOk K Cl cs F H h) {p : PyData} (e : pdH h d = some p) : Dp K H v p := by
  rcases r with r | ⟨hb, a, e1, n1, n2, r⟩
  · exact Rep.dpH S r e
  · rcases r with ⟨vs, xs', e2, q, r⟩ | ⟨vs, xs', e2, q, r⟩
    · subst e2
      simp [VL.pdH] at e
      obtain ⟨l, e3, e4⟩ := e
      subst e4 e1
      exact .lst (sq_of q) (r.dpH S e3)
    · subst e2; simp [VL.pdH] at e
theorem RepB.int {i : Int} (r : RepB K cs F H b v (.int i)) : v = .int i := by
  rcases r with r | ⟨_, _, _, _, _, ⟨_, _, e, _⟩ | ⟨_, _, e, _⟩⟩
  · cases r; rfl
  · cases e
  · cases e
theorem RepB.str {i : Str} (r : RepB K cs F H b v (.str i)) : v = .str i := by
  rcases r with r | ⟨_, _, _, _, _, ⟨_, _, e, _⟩ | ⟨_, _, e, _⟩⟩
  · cases r; rfl
  · cases e
  · cases e
theorem RepB.bl {i : Bool} (r : RepB K cs F H b v (.bl i)) : v = .bl i := by
  rcases r with r | ⟨_, _, _, _, _, ⟨_, _, e, _⟩ | ⟨_, _, e, _⟩⟩
  · cases r; rfl
  · cases e
  · cases e
theorem RepB.non (r : RepB K cs F H b v .non) : v = .non := by
  rcases r with r | ⟨_, _, _, _, _, ⟨_, _, e, _⟩ | ⟨_, _, e, _⟩⟩
  · cases r; rfl
  · cases e
  · cases e
theorem RepB.isNon (r : RepB K cs F H b v d) : decide (v = V.non) = isNon d := by
  rcases r with r | ⟨_, _, e1, _, _, ⟨_, _, e, _⟩ | ⟨_, _, e, _⟩⟩
  · cases r <;> rfl
  · subst e e1; rfl
  · subst e e1; rfl
theorem RepB.flat (r : RepB K cs F H b v d) (f : flatA d = true) : flatV v = true ∧ ∀ w e, Rep K cs F w e → flatA e = true → eqV w v = eqF e d := by
  have key : ∀ {v d}, Rep K cs F v d → flatA d = true → flatV v = true ∧ ∀ w e, Rep K cs F w e → flatA e = true → eqV w v = eqF e d := by
    intro v d r f
    cases r with
    | non => exact ⟨rfl, fun w e r f => by cases r <;> first | rfl | cases f⟩
    | bl x => exact ⟨rfl, fun w e r f => by cases r <;> first | rfl | cases f⟩
    | int x => exact ⟨rfl, fun w e r f => by cases r <;> first | rfl | cases f⟩
    | str x => exact ⟨rfl, fun w e r f => by cases r <;> first | rfl | cases f⟩
    | _ => cases f
  rcases r with r | ⟨_, _, _, _, _, ⟨_, _, e, _⟩ | ⟨_, _, e, _⟩⟩
  · exact key r f
  · subst e; cases f
  · subst e; cases f
theorem Reps.flat {vs : List V} {xs : List AV} (r : Reps K cs F vs xs) (f : xs.all flatA = true) {v : V} {d : AV} (rv : RepB K cs F H b v d) (fd : flatA d = true) :
    vs.all flatV = true ∧ inV v vs = xs.any (fun y => eqF y d) := by
  revert xs
  induction vs with
  | nil => intro xs r f; cases r; exact ⟨rfl, rfl⟩
  | cons w vs ih =>
    intro xs r f
    cases r with
    | cons h t =>
      rw [List.all_cons, Bool.and_eq_true] at f
      obtain ⟨i1, i2⟩ := ih t f.2
      have q : RepB K cs F H false w _ := .inl h
      refine ⟨by rw [List.all_cons, (q.flat f.1).1, i1]; rfl, ?_⟩
      unfold inV at i2 ⊢
      rw [List.any_cons, List.any_cons, i2, (rv.flat fd).2 w _ h f.1]
theorem RepB.key (r : RepB K cs F H b v d) {k : Key} (e : keyOf d = some k) : v = kV k := by
  cases d with
  | int i => simp [keyOf] at e; subst e; exact r.int
  | str i => simp [keyOf] at e; subst e; exact r.str
  | _ => simp [keyOf] at e
end

/-- what is wanted of a value -/
def PostV (K : PySem.W.Frag) (Cl : Nat → Addr) (cs : List Addr) (F H : Hp) (h : AHeap) (Q : KA) (R : VK) : Prop :=
  ∀ v d F' H', Stp cs F H cs F' H' → StOk K Cl cs F' H' h → Rep K cs F' v d → Q d → R v H'
section
variable {K : PySem.W.Frag} {Cl : Nat → Addr} {cs : List Addr} {F H : Hp} {h : AHeap} {Q : KA} {R : VK}
theorem PostV.here (p : PostV K Cl cs F H h Q R) (S : StOk K Cl cs F H h) {v : V} {d : AV} (r : Rep K cs F v d) (q : Q d) : R v H := p v d F H .refl S r q
theorem PostV.int (p : PostV K Cl cs F H h Q R) (S : StOk K Cl cs F H h) {i : Int} (q : Q (.int i)) : R (.int i) H := p.here S (.int i) q
theorem PostV.bl (p : PostV K Cl cs F H h Q R) (S : StOk K Cl cs F H h) {i : Bool} (q : Q (.bl i)) : R (.bl i) H := p.here S (.bl i) q
theorem PostV.str (p : PostV K Cl cs F H h Q R) (S : StOk K Cl cs F H h) {i : Str} (q : Q (.str i)) : R (.str i) H := p.here S (.str i) q
theorem PostV.newT (p : PostV K Cl cs F H h Q R) (S : StOk K Cl cs F H h) {vs : List V} {xs : List AV} (r : Reps K cs F vs xs) (q : Q (.tup xs)) : ∀ a, H a = none → R (.ref a) (upd H a (.tup vs)) := fun a ha =>
  p _ _ _ _ (.newF S ha) (S.newF ha) (.tup (st_of upd_same) (r.mono (Stp.newF (o := .tup vs) S ha).f ⟨[], by simp⟩)) q
theorem PostV.newL (p : PostV K Cl cs F H h Q R) (S : StOk K Cl cs F H h) {vs : List V} {xs : List AV} (r : Reps K cs F vs xs) (q : Q (.lst xs)) : ∀ a, H a = none → R (.ref a) (upd H a (.lst vs)) := fun a ha =>
  p _ _ _ _ (.newF S ha) (S.newF ha) (.lst upd_same (r.mono (Stp.newF (o := .lst vs) S ha).f ⟨[], by simp⟩)) q
end

/-- a two-place operation by its weakest reading -/
def OpW (X : Cx) (f : Value → Value → Sem Value) (x y : V) (H : Hp) (Q : VK) : Prop :=
  ∀ (pins : List (Addr × Obj)) (s : Shared) (σ : L2.St) (v u : Value), Inv X pins σ H s → RelV x v → RelV y u → wpAny (model X.prog X.w) X.A (f v u) (EP X pins σ Q) X.xe s
theorem opw_ok {X : Cx} {f : Value → Value → Sem Value} : OpR X f (OpW X f) := fun pins s σ H x y v u Q I rx ry h => h pins s σ v u I rx ry
theorem opw_of {X : Cx} {f : Value → Value → Sem Value} {r : R2} (o : OpR X f r) {x y : V} {H : Hp} {Q : VK} (h : r x y H Q) : OpW X f x y H Q := fun pins s σ v u I rx ry => o pins s σ H x y v u Q I rx ry h
section
variable {X : Cx} {Cl : Nat → Addr} {cs : List Addr} {F H : Hp} {h : AHeap} {Q : KA} {R : VK} {x y : V} {d e : AV} {b b' : Bool}
theorem CDivA.w {i j : Int} (h : CDivA j) : CDivW i j := h
theorem addK_ok (S : StOk X.K Cl cs F H h) (rx : RepB X.K cs F H false x d) (ry : RepB X.K cs F H false y e) (q : addK h d e Q) (p : PostV X.K Cl cs F H h Q R) : OpW X (binaryOp .Add) x y H R := by
  unfold addK at q
  split at q
  · cases rx.int; cases ry.int
    exact opw_of op_add ⟨_, _, rfl, rfl, p.int S q⟩
  · cases rx.str; cases ry.str
    exact opw_of op_add_str ⟨_, _, rfl, rfl, q.1, p.str S q.2⟩
  · rename_i xs ys
    have rx := rx.plain
    have ry := ry.plain
    cases rx with
    | tup h1 r1 =>
      cases ry with
      | tup h2 r2 =>
        rename_i vs _ ws
        refine opw_of op_catA ⟨_, _, vs, ws, rfl, rfl, ex_t S.sub h1, ex_t S.sub h2, by rw [r1.length, r2.length]; exact q.1, fun z => ?_, fun _ z => ?_, fun _ _ => p.newT S (r1.append r2) q.2⟩
        · subst z
          cases r1
          exact p.here S (.tup h2 r2) q.2
        · subst z
          cases r2
          have q2 := q.2
          rw [List.append_nil] at q2
          exact p.here S (.tup h1 r1) q2
  · exact q.elim
theorem strRep_len (x : Str) (n : Int) : (strRep x n).length ≤ x.length * n.toNat + x.length := by
  unfold strRep
  split
  · exact Nat.zero_le _
  · split
    · omega
    · have key : ∀ (k : Nat) (acc : Array Nat), ((List.replicate k x.cps).foldl (· ++ ·) acc).size = acc.size + k * x.cps.size := by
        intro k
        induction k with
        | zero => intro acc; simp
        | succ k ih => intro acc; rw [List.replicate_succ, List.foldl_cons, ih, Array.size_append, Nat.succ_mul]; omega
      show ((List.replicate n.toNat x.cps).foldl (· ++ ·) #[]).size ≤ x.cps.size * n.toNat + x.cps.size
      rw [key, Nat.mul_comm]
      simp
theorem op_mul_str : OpR X (binaryOp .Mult) (fun x y H Q => ∃ z k, x = .str z ∧ y = .int k ∧ (-(2 ^ 60) < k ∧ k < 2 ^ 60 ∧ z.length * k.toNat ≤ 1000000) ∧ Q (.str (strRep z k)) H) := by
  intro pins s σ H x y v u Q I rx ry h
  obtain ⟨z, k, rfl, rfl, ⟨h1, h2, h3⟩, q⟩ := h
  obtain ⟨t, rfl⟩ := rx
  obtain ⟨t', rfl⟩ := ry
  have hs : sizeLine = 16777216 := sizeLine_eq
  have e60 : (2 ^ 60 : Int) = 1152921504606846976 := by decide
  have e63 : (2 ^ 63 : Int) = 9223372036854775808 := by decide
  rw [e60] at h1 h2
  refine PySem.P.mul_str ?_ (fun a b => ?_) (fun a b => ?_) ?_
  · have e1 : decide (k < -(2 ^ 63 : Int)) = false := decide_eq_false (by rw [e63]; omega)
    have e2 : decide (k ≥ 2 ^ 63) = false := decide_eq_false (by rw [e63]; omega)
    rw [e1, e2]; rfl
  · intro c
    have hk : 0 < k := by omega
    have h4 : (z.length : Int) * k ≤ 1000000 := by
      have : ((z.length * k.toNat : Nat) : Int) ≤ ((1000000 : Nat) : Int) := Int.ofNat_le.mpr h3
      rw [Int.natCast_mul] at this
      rw [Int.toNat_of_nonneg (by omega)] at this
      exact this
    have h5 : (2 ^ 63 - 1 : Int) / k < z.length := c
    have h6 := Int.lt_mul_of_ediv_lt hk h5
    have e63 : (2 ^ 63 - 1 : Int) = 9223372036854775807 := by decide
    rw [e63] at h6
    omega
  · unfold Builtin.Str.tooLong
    exact decide_eq_false (by omega)
  · have hl := strRep_len z k
    by_cases a : k < 1
    · have e : strRep z k = Str.empty := if_pos a
      rw [e] at q
      rw [if_pos a]
      exact ⟨by decide, .str Str.empty, H, I.tok _, ⟨_, rfl⟩, q⟩
    · rw [if_neg a]
      by_cases b : (k == 1 || z.length == 0) = true
      · have e : strRep z k = z := by unfold strRep; rw [if_neg a, if_pos b]
        rw [e] at q
        rw [if_pos b]
        exact ⟨.str z, H, I, ⟨_, rfl⟩, q⟩
      · have e : strRep z k = ⟨(List.replicate k.toNat z.cps).foldl (· ++ ·) #[]⟩ := by unfold strRep; rw [if_neg a, if_neg b]
        rw [e] at q hl
        rw [if_neg b]
        refine ⟨?_, .str _, H, I.tok _, ⟨_, rfl⟩, q⟩
        have : z.length ≤ z.length * k.toNat := Nat.le_mul_of_pos_right _ (by omega)
        omega
theorem binK_ok {op : Operator} (S : StOk X.K Cl cs F H h) (rx : RepB X.K cs F H false x d) (ry : RepB X.K cs F H false y e) (q : binK h op d e Q) (p : PostV X.K Cl cs F H h Q R) : OpW X (binaryOp op) x y H R := by
  unfold binK at q
  split at q
  · exact addK_ok S rx ry q p
  · split at q
    · cases rx.int; cases ry.int
      exact opw_of op_sub ⟨_, _, rfl, rfl, p.int S q⟩
    · exact q.elim
  · split at q
    · cases rx.int; cases ry.int
      rcases q.1 with c | c
      · exact opw_of op_mul ⟨_, _, rfl, rfl, c, p.int S q.2⟩
      · exact opw_of op_mulW ⟨_, _, rfl, rfl, c, p.int S q.2⟩
    · cases rx.str; cases ry.int
      exact opw_of op_mul_str ⟨_, _, rfl, rfl, q.1, p.str S q.2⟩
    · exact q.elim
  · split at q
    · cases rx.int; cases ry.int
      exact opw_of op_fdivW ⟨_, _, rfl, rfl, CDivA.w q.1, p.int S q.2⟩
    · exact q.elim
  · split at q
    · cases rx.int; cases ry.int
      exact opw_of op_mod ⟨_, _, rfl, rfl, q.1, p.int S q.2⟩
    · exact q.elim
  · split at q
    · cases rx.int; cases ry.int
      exact opw_of op_pow ⟨_, _, rfl, rfl, q.1, p.int S q.2⟩
    · exact q.elim
  · exact q.elim
theorem eqGen_ok (hu : X.A.units + 64 < cLine) {neg : Bool} (S : StOk X.K Cl cs F H h) (rx : RepB X.K cs F H b x d) (ry : RepB X.K cs F H b' y e) (q : eqGen h neg d e Q) (p : PostV X.K Cl cs F H h Q R) : OpW X (compareOp (if neg then .NotEq else .Eq)) x y H R := by
  unfold eqGen at q
  split at q
  · rename_i d1 e1 h1 h2
    have dx := rx.pdH S h1
    have dy := ry.pdH S h2
    cases neg with
    | true => exact opw_of (op_neD hu) ⟨_, _, dx, dy, q.1, q.2.1, p.bl S q.2.2⟩
    | false => exact opw_of (op_eqD hu) ⟨_, _, dx, dy, q.1, q.2.1, p.bl S q.2.2⟩
  · exact q.elim
theorem eqK_ok (hu : X.A.units + 64 < cLine) (S : StOk X.K Cl cs F H h) (rx : RepB X.K cs F H b x d) (ry : RepB X.K cs F H b' y e) (q : eqK h d e Q) (p : PostV X.K Cl cs F H h Q R) : OpW X (compareOp .Eq) x y H R := by
  unfold eqK at q
  split at q
  · cases rx.int; cases ry.int
    exact opw_of op_eq ⟨rfl, p.bl S (by simpa using q)⟩
  · cases rx.str; cases ry.str
    exact opw_of op_eq ⟨rfl, p.bl S (by simpa using q)⟩
  · cases rx.bl; cases ry.bl
    exact opw_of op_eq ⟨rfl, p.bl S (by simpa using q)⟩
  · cases rx.non; cases ry.non
    exact opw_of op_eq ⟨rfl, p.bl S (by simpa using q)⟩
  · cases rx.int; cases ry.str
    exact opw_of op_eq ⟨rfl, p.bl S (by simpa using q)⟩
  · cases rx.str; cases ry.int
    exact opw_of op_eq ⟨rfl, p.bl S (by simpa using q)⟩
  · exact eqGen_ok (neg := false) hu S rx ry q p
theorem neK_ok (hu : X.A.units + 64 < cLine) (S : StOk X.K Cl cs F H h) (rx : RepB X.K cs F H b x d) (ry : RepB X.K cs F H b' y e) (q : neK h d e Q) (p : PostV X.K Cl cs F H h Q R) : OpW X (compareOp .NotEq) x y H R := by
  unfold neK at q
  split at q
  · cases rx.int; cases ry.int
    exact opw_of op_ne ⟨rfl, p.bl S (by simpa using q)⟩
  · cases rx.str; cases ry.str
    exact opw_of op_ne ⟨rfl, p.bl S (by simpa using q)⟩
  · cases rx.bl; cases ry.bl
    exact opw_of op_ne ⟨rfl, p.bl S (by simpa using q)⟩
  · cases rx.non; cases ry.non
    exact opw_of op_ne ⟨rfl, p.bl S (by simpa using q)⟩
  · cases rx.int; cases ry.str
    exact opw_of op_ne ⟨rfl, p.bl S (by simpa using q)⟩
  · cases rx.str; cases ry.int
    exact opw_of op_ne ⟨rfl, p.bl S (by simpa using q)⟩
  · exact eqGen_ok (neg := true) hu S rx ry q p
theorem op_dIn (hu : X.A.units + 1 < cLine) : OpR X (compareOp .In) (fun x y H Q => ∃ a o, y = .ref a ∧ DGet H a x o ∧ Q (.bl o.isSome) H) := by
  intro pins s σ H x y v u Q I rx ry h
  obtain ⟨a, o, rfl, g, q⟩ := h
  cases ry
  exact d_in hu I g rx fun s3 I3 => ⟨.bl o.isSome, H, I3, rfl, q⟩
theorem op_dNotIn (hu : X.A.units + 1 < cLine) : OpR X (compareOp .NotIn) (fun x y H Q => ∃ a o, y = .ref a ∧ DGet H a x o ∧ Q (.bl (!o.isSome)) H) := by
  intro pins s σ H x y v u Q I rx ry h
  obtain ⟨a, o, rfl, g, q⟩ := h
  cases ry
  exact d_notIn hu I g rx fun s3 I3 => ⟨.bl (!o.isSome), H, I3, rfl, q⟩
theorem inK_ok (hu : X.A.units + 64 < cLine) {neg : Bool} (S : StOk X.K Cl cs F H h) (rx : RepB X.K cs F H b x d) (ry : RepB X.K cs F H b' y e) (q : inK h neg d e Q) (p : PostV X.K Cl cs F H h Q R) : OpW X (compareOp (if neg then .NotIn else .In)) x y H R := by
  unfold inK at q
  split at q
  · rename_i z
    split at q
    · rename_i w
      split at q
      · rename_i c hc
        cases rx.str; cases ry.str
        have ew : w = ⟨#[c]⟩ := by
          obtain ⟨w⟩ := w
          obtain ⟨w⟩ := w
          simp at hc
          rw [hc]
        cases neg with
        | true => exact opw_of op_notIn_sign ⟨c, z, by rw [ew], rfl, p.bl S q⟩
        | false => exact opw_of op_in_sign ⟨c, z, by rw [ew], rfl, p.bl S q⟩
      · exact q.elim
    · exact q.elim
  · split at q
    · rename_i xs hv
      obtain ⟨a, vs, rfl, hq, r⟩ := ry.viewT S hv
      obtain ⟨f1, f2⟩ := r.flat q.2.1 rx q.1
      have q3 := q.2.2
      rw [← f2] at q3
      cases neg with
      | true => exact opw_of op_notIn_seq ⟨a, vs, rfl, hq, (rx.flat q.1).1, f1, p.bl S q3⟩
      | false => exact opw_of op_in_seq ⟨a, vs, rfl, hq, (rx.flat q.1).1, f1, p.bl S q3⟩
    · split at q
      · rename_i kvs k hd hk
        obtain ⟨a, vs, rfl, hq, r⟩ := ry.viewD S hd
        cases rx.key hk
        have e1 : (valV vs k).isSome = (getD kvs k).isSome := by
          rcases r.get (k := k) with ⟨v, d, e1, e2, _⟩ | ⟨e1, e2⟩ <;> rw [e1, e2] <;> rfl
        rw [← e1] at q
        cases neg with
        | true => exact opw_of (op_dNotIn (by omega)) ⟨a, _, rfl, .k hq, p.bl S q⟩
        | false => exact opw_of (op_dIn (by omega)) ⟨a, _, rfl, .k hq, p.bl S q⟩
      · exact q.elim
theorem cmpK_ok (hu : X.A.units + 64 < cLine) {op : CmpOp} (S : StOk X.K Cl cs F H h) (rx : RepB X.K cs F H b x d) (ry : RepB X.K cs F H b' y e) (q : cmpK h op d e Q) (p : PostV X.K Cl cs F H h Q R) : OpW X (compareOp op) x y H R := by
  unfold cmpK at q
  split at q
  · exact eqK_ok hu S rx ry q p
  · exact neK_ok hu S rx ry q p
  · split at q
    · cases rx.int; cases ry.int
      exact opw_of op_lt ⟨_, _, rfl, rfl, p.bl S q⟩
    · exact q.elim
  · split at q
    · cases rx.int; cases ry.int
      exact opw_of op_le ⟨_, _, rfl, rfl, p.bl S q⟩
    · exact q.elim
  · split at q
    · cases rx.int; cases ry.int
      exact opw_of op_gt ⟨_, _, rfl, rfl, p.bl S q⟩
    · exact q.elim
  · split at q
    · cases rx.int; cases ry.int
      exact opw_of op_ge ⟨_, _, rfl, rfl, p.bl S q⟩
    · exact q.elim
  · split at q
    · cases ry.non
      rw [← rx.isNon] at q
      exact opw_of op_isN ⟨rfl, p.bl S q⟩
    · exact q.elim
  · split at q
    · cases ry.non
      rw [← rx.isNon] at q
      exact opw_of op_notN ⟨rfl, p.bl S q⟩
    · exact q.elim
  · exact inK_ok (neg := false) hu S rx ry q p
  · exact inK_ok (neg := true) hu S rx ry q p
end
/-! items, slices, truth, calls of built-ins -/
def IxW (X : Cx) (x y : V) (H : Hp) (Q : VK) : Prop :=
  ∀ (value slice : Expr) (pins : List (Addr × Obj)) (s : Shared) (σ : L2.St) (v u : Value), Inv X pins σ H s → RelV x v → RelV y u → subscripted slice false v u = operate [v, u] (getItem v u) → wpAny (model X.prog X.w) X.A (subscriptTail value slice v u) (EP X pins σ Q) X.xe s
theorem ixw_ok {X : Cx} : IxR X (IxW X) := fun value slice pins s σ H x y v u Q I rx ry h hs => h value slice pins s σ v u I rx ry hs
theorem ixw_of {X : Cx} {r : R2} (o : IxR X r) {x y : V} {H : Hp} {Q : VK} (h : r x y H Q) : IxW X x y H Q := fun value slice pins s σ v u I rx ry hs => o value slice pins s σ H x y v u Q I rx ry h hs
def SlW (X : Cx) (x : V) (lo hi : Option Int) (H : Hp) (Q : VK) : Prop :=
  ∀ (pins : List (Addr × Obj)) (s : Shared) (σ : L2.St) (v vl vu : Value) (sl : Addr), Inv X pins σ H s → RelV x v → s.heap.IsSliceOf sl vl vu .none → IsPart vl lo → IsPart vu hi →
    ∃ T id, typeLookup (.type T) "__getitem__" = pure (some (.builtin id)) ∧ s.TypeIs v T ∧ wpAny (model X.prog X.w) X.A (getItem v (.ref sl)) (EP X pins σ Q) X.xe s
theorem slw_ok {X : Cx} : SlR X (SlW X) := fun pins s σ H x v vl vu lo hi sl Q I rx hs pl pu h => h pins s σ v vl vu sl I rx hs pl pu
theorem slw_of {X : Cx} {r : V → Option Int → Option Int → Hp → VK → Prop} (o : SlR X r) {x : V} {lo hi : Option Int} {H : Hp} {Q : VK} (h : r x lo hi H Q) : SlW X x lo hi H Q := fun pins s σ v vl vu sl I rx hs pl pu => o pins s σ H x v vl vu lo hi sl Q I rx hs pl pu h
def CallW (X : Cx) (f : Value) (xs : List V) (H : Hp) (Q : VK) : Prop :=
  ∀ (pins : List (Addr × Obj)) (s : Shared) (σ : L2.St) (us : List Value), Inv X pins σ H s → Vals xs us → wpAny (model X.prog X.w) X.A (call f us) (EP X pins σ Q) X.xe s
theorem callw_ok {X : Cx} {f : Value} : CallR X f (CallW X f) := fun pins s σ H xs us Q I r h => h pins s σ us I r
theorem callw_of {X : Cx} {f : Value} {r : List V → Hp → VK → Prop} (o : CallR X f r) {xs : List V} {H : Hp} {Q : VK} (h : r xs H Q) : CallW X f xs H Q := fun pins s σ us I rs => o pins s σ H xs us Q I rs h
section
variable {X : Cx} {Cl : Nat → Addr} {cs : List Addr} {F H : Hp} {h : AHeap} {Q : KA} {R : VK} {x y : V} {d e : AV} {b b' : Bool}
theorem ix_dict (hu : X.A.units + 1 < cLine) : IxR X (fun x y H Q => ∃ a v, x = .ref a ∧ DGet H a y (some v) ∧ Q v H) := by
  intro value slice pins s σ H x y v u Q I rx ry h hs
  obtain ⟨a, w, rfl, g, q⟩ := h
  cases rx
  exact tail_any (dict_typeIs I g) PySem.F.slot_dict_getitem.lookup (d_getItem hu I g ry fun w' s3 I3 rw' => ⟨w, H, I3, rw', q⟩) hs
theorem subK_ok (hu : X.A.units + 64 < cLine) (S : StOk X.K Cl cs F H h) (rx : RepB X.K cs F H b x d) (ry : RepB X.K cs F H b' y e) (q : subK h d e Q) (p : PostV X.K Cl cs F H h Q R) : IxW X x y H R := by
  unfold subK at q
  split at q
  · split at q
    · cases rx.str; cases ry.int
      obtain ⟨q1, q2⟩ := q
      split at q2
      · rename_i c hc
        exact ixw_of ix_str ⟨_, _, c, rfl, rfl, q1, hc, p.str S q2⟩
      · exact q2.elim
    · exact q.elim
  · split at q
    · rename_i xs hv
      obtain ⟨a, vs, rfl, hq, r⟩ := rx.viewT S hv
      split at q
      · cases ry.int
        split at q
        · rename_i d' hd
          obtain ⟨v, hv, rv⟩ := r.at hd
          rcases hq with hq | hq
          · exact ixw_of ix_list ⟨a, vs, _, v, rfl, rfl, hq, hv, p.here S rv q⟩
          · exact ixw_of ix_tup ⟨a, vs, _, v, rfl, rfl, hq, hv, p.here S rv q⟩
        · exact q.elim
      · exact q.elim
    · split at q
      · rename_i kvs k hd hk
        obtain ⟨a, vs, rfl, hq, r⟩ := rx.viewD S hd
        cases ry.key hk
        split at q
        · rename_i d' hd'
          rcases r.get (k := k) with ⟨v, d2, e1, e2, r2⟩ | ⟨e1, e2⟩
          · rw [hd'] at e2; cases e2
            refine ixw_of (ix_dict (by omega)) ⟨a, v, rfl, ?_, p.here S r2 q⟩
            rw [← e1]
            exact .k hq
          · rw [hd'] at e2; cases e2
        · exact q.elim
      · exact q.elim
theorem Reps.cut_whole {K : PySem.W.Frag} {vs : List V} {xs : List AV} (r : Reps K cs F vs xs) {lo hi : Option Int} (w : HT.sIx vs.length 0 lo = 0 ∧ HT.sIx vs.length vs.length hi = vs.length) : _root_.VL.cut xs lo hi = xs := by
  unfold VL.cut
  rw [← r.length, w.1, w.2, r.length]
  simp
theorem sliceK_ok (S : StOk X.K Cl cs F H h) (rx : RepB X.K cs F H false x d) {lo hi : Option Int} (q : sliceK h d lo hi Q) (p : PostV X.K Cl cs F H h Q R) : SlW X x lo hi H R := by
  unfold sliceK at q
  split at q
  · cases rx.str
    exact slw_of sl_str ⟨_, rfl, q.1, p.str S q.2⟩
  · have rx := rx.plain
    cases rx with
    | tup h1 r1 =>
      refine slw_of sl_tupA ⟨_, _, rfl, ex_t S.sub h1, fun w => ?_, fun _ => p.newT S (r1.cut lo hi) q⟩
      rw [r1.cut_whole w] at q
      exact p.here S (.tup h1 r1) q
  · exact q.elim
theorem truK_ok (S : StOk X.K Cl cs F H h) (rx : RepB X.K cs F H b x d) {Q : Bool → Prop} (q : truK h d Q) : ∃ k, TruV X.K x H k ∧ Q k := by
  unfold truK at q
  split at q
  · cases rx.bl; exact ⟨_, rfl, q⟩
  · cases rx.non; exact ⟨_, rfl, q⟩
  · cases rx.int; exact ⟨_, rfl, q⟩
  · cases rx.str; exact ⟨_, ⟨q.1, rfl⟩, q.2⟩
  · split at q
    · rename_i xs hv
      obtain ⟨a, vs, rfl, hq, r⟩ := rx.viewT S hv
      have e : xs.isEmpty = vs.isEmpty := by
        have := r.length
        cases vs <;> cases xs <;> simp at this ⊢
      rw [e] at q
      rcases hq with hq | hq
      · exact ⟨_, .inl ⟨vs, hq, rfl⟩, q⟩
      · exact ⟨_, .inr (.inl ⟨vs, hq, rfl⟩), q⟩
    · exact q.elim
def bVal : Blt → Value
  | .len => .builtin "len" | .abs => .builtin "abs" | .int => .type "int" | .str => .type "str" | .max2 => .builtin "max" | .min2 => .builtin "min" | .maxL => .builtin "max" | .minL => .builtin "min"
  | .sum => .builtin "sum" | .all => .builtin "all" | .any => .builtin "any" | .tuple => .type "tuple" | .repr => .builtin "repr"
inductive RepBs (K : PySem.W.Frag) (cs : List Addr) (F H : Hp) (b : Bool) : List V → List AV → Prop
  | nil : RepBs K cs F H b [] []
  | cons {v : V} {vs : List V} {d : AV} {ds : List AV} : RepB K cs F H b v d → RepBs K cs F H b vs ds → RepBs K cs F H b (v :: vs) (d :: ds)
theorem RepBs.step {K : PySem.W.Frag} {cs' : List Addr} {F' H' : Hp} {vs : List V} {ds : List AV} (r : RepBs K cs F H b vs ds) (x : Stp cs F H cs' F' H') : RepBs K cs' F' H' b vs ds := by
  induction r with
  | nil => exact .nil
  | cons h _ ih => exact .cons (h.step x) ih
theorem RepBs.plain {K : PySem.W.Frag} {vs : List V} {ds : List AV} (r : RepBs K cs F H false vs ds) : Reps K cs F vs ds := by
  induction r with
  | nil => exact .nil
  | cons h _ ih => exact .cons h.plain ih
/-- repr, where no guard is open -/
theorem call_repr_D (gd : X.A.guards = some []) (hu : X.A.units + 64 < cLine) : CallR X (.builtin "repr") fun vs H Q => ∃ v d, vs = [v] ∧ Dp X.K H v d ∧ (d.showable = true ∧ d.hasDict = false ∧ d.depth ≤ 50 ∧ d.shown.length ≤ sizeLine) ∧ Q (.str d.shown) H := by
  rintro pins s σ H vs us Q J rs ⟨v, d, rfl, hd, ⟨h1, h2, h3, h4⟩, q⟩
  cases rs with
  | cons r rs =>
    rename_i u us
    cases rs
    obtain ⟨as, rd⟩ := Dp.reads J d v u hd r
    have fin : ∀ h' tk, (∀ b o, s.heap.get? b = some o → h'.get? b = some o) → ∀ t, EP X pins σ Q (.str d.shown t) { s with heap := h', toks := tk } :=
      fun h' tk hk t => ⟨.str d.shown, H, J.kept hk, ⟨t, rfl⟩, q⟩
    have same : ∀ b o, s.heap.get? b = some o → s.heap.get? b = some o := fun _ _ e => e
    cases rd with
    | none => exact PySem.P.repr_of_none (fin s.heap _ same _)
    | bool b => exact PySem.P.repr_of_bool (fin s.heap _ same _)
    | int i t => exact PySem.P.repr_of_int (by simpa [PyData.showable] using h1) (fin s.heap _ same _)
    | str x t => exact PySem.P.repr_of_str (fin s.heap _ same _) h4
    | list a1 a2 a3 a4 => exact repr_of_reads' (.list a1 a2 a3 a4) h1 (PyData.noDict_hsm h2) gd (by omega) same (fun h' t tk hk => fin h' tk hk t) h4
    | tuple a1 a2 a3 a4 => exact repr_of_reads' (.tuple a1 a2 a3 a4) h1 (PyData.noDict_hsm h2) gd (by omega) same (fun h' t tk hk => fin h' tk hk t) h4
    | dict a1 a2 a3 a4 a5 => cases h2
theorem bltK_ok (hc : X.calm = true) (gd : X.A.guards = some []) (hu : X.A.units + 64 < cLine) (S : StOk X.K Cl cs F H h) {bt : Blt} {vs : List V} {ds : List AV} (rs : RepBs X.K cs F H b vs ds) (q : bltK h bt ds Q) (p : PostV X.K Cl cs F H h Q R) : CallW X (bVal bt) vs H R := by
  unfold bltK at q
  split at q
  · -- len of a text
    cases rs with | cons r1 rs => cases rs; cases r1.str; exact callw_of call_len_str ⟨_, rfl, q.1, p.int S q.2⟩
  · cases rs with
    | cons r1 rs =>
      cases rs
      split at q
      · rename_i xs hv
        obtain ⟨a, vs, rfl, hq, r⟩ := r1.viewT S hv
        refine callw_of call_len_seq ⟨a, vs, rfl, hq, ?_⟩
        rw [r.length]
        exact p.int S q
      · split at q
        · rename_i kvs hd
          obtain ⟨a, vs, rfl, hq, r⟩ := r1.viewD S hd
          refine callw_of call_lenD ⟨a, vs, rfl, hq, ?_⟩
          rw [r.length]
          exact p.int S q
        · exact q.elim
  · cases rs with | cons r1 rs => cases rs; cases r1.int; exact callw_of call_abs ⟨_, rfl, p.int S q⟩
  · cases rs with | cons r1 rs => cases rs; cases r1.int; exact callw_of call_int1 (.inl ⟨_, rfl, p.int S q⟩)
  · cases rs with | cons r1 rs => cases rs; cases r1.bl; exact callw_of call_int1 (.inr ⟨_, rfl, p.int S q⟩)
  · cases rs with | cons r1 rs => cases rs; cases r1.int; exact callw_of call_str_int ⟨_, rfl, q.1, p.str S q.2⟩
  · cases rs with | cons r1 rs => cases rs with | cons r2 rs => cases rs; cases r1.int; cases r2.int; exact callw_of (call_max2 hc) ⟨_, _, rfl, p.int S q⟩
  · cases rs with | cons r1 rs => cases rs with | cons r2 rs => cases rs; cases r1.int; cases r2.int; exact callw_of (call_min2 hc) ⟨_, _, rfl, p.int S q⟩
  · cases rs with
    | cons r1 rs =>
      cases rs
      split at q
      · rename_i ns hv
        obtain ⟨xs, hv, hn⟩ := Option.bind_eq_some_iff.mp hv
        obtain ⟨a, vs, rfl, hq, r⟩ := r1.view S hv
        rw [r.ints hn] at hq
        exact callw_of (cr_max hc) ⟨a, ns, rfl, hq, q.1, fun m h1 h2 => p.int S (q.2 m h1 h2)⟩
      · exact q.elim
  · cases rs with
    | cons r1 rs =>
      cases rs
      split at q
      · rename_i ns hv
        obtain ⟨xs, hv, hn⟩ := Option.bind_eq_some_iff.mp hv
        obtain ⟨a, vs, rfl, hq, r⟩ := r1.view S hv
        rw [r.ints hn] at hq
        exact callw_of (cr_min hc) ⟨a, ns, rfl, hq, q.1, fun m h1 h2 => p.int S (q.2 m h1 h2)⟩
      · exact q.elim
  · cases rs with
    | cons r1 rs =>
      cases rs
      split at q
      · rename_i ns hv
        obtain ⟨xs, hv, hn⟩ := Option.bind_eq_some_iff.mp hv
        obtain ⟨a, vs, rfl, hq, r⟩ := r1.view S hv
        rw [r.ints hn] at hq
        exact callw_of (cr_sum hc) ⟨a, ns, rfl, hq, p.int S q⟩
      · exact q.elim
  · cases rs with
    | cons r1 rs =>
      cases rs
      split at q
      · rename_i ns hv
        obtain ⟨xs, hv, hn⟩ := Option.bind_eq_some_iff.mp hv
        obtain ⟨a, vs, rfl, hq, r⟩ := r1.view S hv
        rw [r.bools hn] at hq
        exact callw_of (cr_all hc) ⟨a, ns, rfl, hq, p.bl S q⟩
      · exact q.elim
  · cases rs with
    | cons r1 rs =>
      cases rs
      split at q
      · rename_i ns hv
        obtain ⟨xs, hv, hn⟩ := Option.bind_eq_some_iff.mp hv
        obtain ⟨a, vs, rfl, hq, r⟩ := r1.view S hv
        rw [r.bools hn] at hq
        exact callw_of (cr_any hc) ⟨a, ns, rfl, hq, p.bl S q⟩
      · exact q.elim
  · cases rs with
    | cons r1 rs =>
      cases rs
      split at q
      · rename_i d hd
        exact callw_of (call_repr_D gd hu) ⟨_, d, rfl, r1.pdH S hd, q.1, p.str S q.2⟩
      · exact q.elim
  · cases rs with
    | cons r1 rs =>
      cases rs
      rcases r1 with r | ⟨_, _, _, _, _, ⟨_, _, e, _⟩ | ⟨_, _, e, _⟩⟩
      · cases r with
        | tup h1 r1 => exact callw_of call_tuple_of ⟨_, _, rfl, .inr ⟨ex_t S.sub h1, p.here S (.tup h1 r1) q⟩⟩
      · cases e
      · cases e
  · cases rs with
    | cons r1 rs =>
      cases rs
      split at q
      · rename_i xs hv
        obtain ⟨a, vs, rfl, hq, r⟩ := r1.view S hv
        exact callw_of call_tuple_of ⟨a, vs, rfl, .inl ⟨hq, p.newT S r q⟩⟩
      · exact q.elim
  · exact q.elim
end
end VL

set_option maxRecDepth 100000
set_option maxHeartbeats 4000000
/-! VL: the promise of a def where no guard stands open: what repr asks. -/
namespace VL
open PySem L2 Evl PyProof.Rows PySem.Spec
/-- what a def keeps, called where no guard is open; no exception leaves it -/
structure FnG (P : Program) (W : World) (K : PySem.W.Frag) (gl : Str → Option Value) (B : Heap) (k : Nat) (f : Addr) (fd : FuncData) (ps : List Str) (sp : Sp) : Prop where
  cnt : ∀ vs H Q E, sp vs H Q E → vs.length = ps.length
  go : ∀ (A : Around) (fr : List PySem.Env) (s : Shared) (H : Hp) (ar : Args) (us : List Value) (vs : List V) (Q : VK) (E : XK),
    A.guards = some [] → Room k A → Env0 P W K gl B A fr s H → BindsTo s fd ar (ps.zip us) → Vals vs us → sp vs H Q E →
    codeAny (model P W) A (.call (.ref f) ar) (CR CX0 fr P W H s Q E) s
section
variable {P : Program} {W : World} {K : PySem.W.Frag} {gl : Str → Option Value} {B : Heap}
theorem FnG.of_body {name qn : Str} {st : Stmt} {f : Addr} {fd : FuncData} {N ps : List Str} {k : Nat} {sp : Sp} (F : Fun K name qn st f fd) (S : FnScope N ps (defScope st)) (cnt : ∀ vs H Q E, sp vs H Q E → vs.length = ps.length)
    (body : ∀ (cv : Value) (A : Around) (fr : List PySem.Env) (s : Shared) (H : Hp) (vs : List V) (Q : VK) (E : XK), (A.deeper (envOfC qn (defScope st) s.heap.objs.size f cv)).guards = some [] →
      Room k (A.deeper (envOfC qn (defScope st) s.heap.objs.size f cv)) → sp vs H Q E →
      ∃ t, PSs (cxOf CX0 P W K gl B N qn (defScope st) f cv A fr s H E).nox (defBody st) t ∧ t { nx := fun _ H' => Q .non H', rt := Q } (L2.start N vs) H) :
    FnG P W K gl B (k + 1) f fd ps sp := by
  obtain ⟨oc, od, kV, dc, pm, an, cv, ct, sl, rfl, at_, code⟩ := F.ex
  constructor
  · exact cnt
  intro A fr s H ar us vs Q E gd room env bnd rel want
  have here : K.In s.heap := env.mod.kin.keeps fun b o z => (env.bs b o z).1
  have kinds : ∀ y ∈ ps.zip us, (defScope st).names.lookup y.1 = some .local ∨ ((defScope st).names.lookup y.1 = some .cell ∧ ((cellsFrom (s.heap.objs.size + 1) (defScope st).names []).lookup y.1).isSome = true) := by
    rintro ⟨nm, v⟩ hy
    rcases S.par nm (List.of_mem_zip hy).1 with z | z
    · exact Or.inl z
    · exact Or.inr ⟨z, PySem.W.cellsFrom_some _ _ _ (Or.inl z)⟩
  refine codeAny_call_function room.depth (here _ _ at_) rfl S.co S.gen rfl (PySem.W.codeRec_of here code) (bnd _ _ _ _ ?_)
  refine wpAny_newFunctionEnv_cells S.kind kinds fun e0 he s1 x => ?_
  cases he
  have calm : s.heap.NoLimit := env.mod.nolimit.keeps fun b o z => (env.bs b o z).1
  refine And.intro (calm.keeps x.toInCall.keep) (codeAny_func ?_)
  obtain ⟨t, pt, run⟩ := body cv A fr s H vs Q E gd (room.deeper _) want
  have J : Inv (cxOf CX0 P W K gl B N qn (defScope st) f cv A fr s H E) [] (L2.start N vs) H s1 := inv_start S room.hd env (cnt _ _ _ _ want) rel x
  refine wpAny_mono (pt.nox.run [] s1 (L2.start N vs) H _ J run) ?_ fun _ _ z => z
  intro fl s2 z
  match fl, z with
  | .ret u, ⟨v, _, H2, J2, rv, q⟩ => exact ⟨v, H2, J2.os, J2.bare, J2.base, J2.hok, rv, q⟩
  | .next, ⟨_, H2, J2, q⟩ => exact ⟨V.non, H2, J2.os, J2.bare, J2.base, J2.hok, rfl, q⟩
  | .brk, ⟨_, _, _, q⟩ => exact q.elim
  | .cont, ⟨_, _, _, q⟩ => exact q.elim
end
section
variable {X : Cx} {k : Nat} {f : Addr} {fd : FuncData} {ps : List Str} {sp : Sp} {x : Str} {p pos : Pos} {e : Expr} {es : List Expr} {t : TA}
theorem FnG.step {pins : List (Addr × Obj)} {σ : L2.St} {H : Hp} {s : Shared} {Q : VK} {us : List Value} {vs : List V} (F : FnG X.prog X.w X.K X.mg X.base k f fd ps sp) (gd : X.A.guards = some []) (room : Room k X.A) (bnd : Binds X.K fd ps [])
    (J : Inv X pins σ H s) (rel : Vals vs us) (want : sp vs H Q E0) : wpAny (model X.prog X.w) X.A (call (.ref f) us) (EP X pins σ Q) X.xe s := by
  have n1 : (us ++ []).length = ps.length := by
    rw [List.append_nil, ← rel.length]
    exact F.cnt _ _ _ _ want
  have b1 := bnd s us J.kIn n1
  rw [List.append_nil] at b1
  refine wpAny_call (codeAny_mono (F.go X.A X.stack s H ⟨us, []⟩ us vs Q E0 gd room J.env0 b1 rel want) ?_)
  intro r s2 z
  match r, z with
  | .ok (.ret u), z => exact J.after z
  | .ok .next, z => exact z.elim
  | .ok .brk, z => exact z.elim
  | .ok .cont, z => exact z.elim
  | .error _, z => exact z.elim
/-- f(e, ..) -/
theorem FnG.call (F : FnG X.prog X.w X.K X.mg X.base k f fd ps sp) (gd : X.A.guards = some []) (room : Room k X.A) (hg : Gl X x) (hm : X.mg x = some (.ref f)) (hk : PySem.W.keepIn X.K (.ref f) = true) (bnd : Binds X.K fd ps [])
    (ha : PA X (e :: es) t) (hdb : (x == ("__debug__" : Str)) = false) (he : starEach (e :: es) X.env = (false, eval e X.env) :: starEach es X.env) (hpl : (backTo pos (starEach es X.env)).any (·.1) = false) :
    PE X (.Call (.Name x p) (e :: es) [] pos) fun σ H Q => t σ H fun vs H1 => sp vs H1 Q E0 := by
  constructor
  intro pins s σ H Q J z
  refine wpAny_Call_Name_kw (ld_glob J hg hm ?_ hdb)
  refine PySem.W.callWith_K (h₀ := X.base) J.ok.mod.kin hk (thn (ha.run pos pins s σ H _ J z) ?_) he hpl
  rintro us s1 ⟨vs, H1, J1, rel, want⟩
  exact ⟨J1.kIn, F.step gd room bnd J1 rel want⟩
/-- f() -/
theorem FnG.call0 (F : FnG X.prog X.w X.K X.mg X.base k f fd ps sp) (gd : X.A.guards = some []) (room : Room k X.A) (hg : Gl X x) (hm : X.mg x = some (.ref f)) (hk : PySem.W.keepIn X.K (.ref f) = true) (bnd : Binds X.K fd ps [])
    (hdb : (x == ("__debug__" : Str)) = false) : PE X (.Call (.Name x p) [] [] pos) fun σ H Q => sp [] H Q E0 := by
  constructor
  intro pins s σ H Q J z
  exact wpAny_Call_Name_kw (ld_glob J hg hm (PySem.W.callWith_K0 J.kIn hk (F.step (us := []) gd room bnd J .nil z)) hdb)
theorem under_gd {A : Around} {C : Addr} {us : List Value} (h : A.guards = some []) : (A.under (.builtin "type.__call__" ⟨.ref C :: us, []⟩)).guards = some [] := by
  first | exact h | (simp [Around.under, Code.guards, Code.isGuard, guardIds, pushGuards, h])
/-- C(..): the new instance, then its __init__ -/
theorem FnG.born {C : Addr} {pins : List (Addr × Obj)} {σ : L2.St} {H : Hp} {s : Shared} {Q : VK} {us : List Value} {vs : List V} (M : Mk X.K C f) (F : FnG X.prog X.w X.K X.mg X.base k f fd ps sp) (gd : X.A.guards = some []) (room : Room (k + 1) X.A) (bnd : Binds X.K fd ps [])
    (J : Inv X pins σ H s) (rel : Vals vs us) (want : ∀ x dx, H x = none → H dx = none → dx ≠ x → sp (.ref x :: vs) (upd (upd H dx (.own x)) x (.ins C dx [])) (fun v H2 => v = .non ∧ Q (.ref x) H2) E0) :
    wpAny (model X.prog X.w) X.A (PySem.call (.ref C) us) (EP X pins σ Q) X.xe s := by
  have n0 : H s.heap.objs.size = none := J.hok.fresh (Nat.le_refl _)
  have n1 : H (s.heap.objs.size + 1) = none := J.hok.fresh (Nat.le_succ _)
  have want := want _ _ n1 n0 (Nat.ne_of_lt (Nat.lt_succ_self _))
  have J2 := Inv.made (C := C) J
  have rel2 : Vals (V.ref (s.heap.objs.size + 1) :: vs) (Value.ref (s.heap.objs.size + 1) :: us) := .cons rfl rel
  have cnt : (Value.ref (s.heap.objs.size + 1) :: us ++ []).length = ps.length := by
    rw [List.append_nil, ← rel2.length]
    exact F.cnt _ _ _ _ want
  have b1 := bnd _ (Value.ref (s.heap.objs.size + 1) :: us) J2.kIn cnt
  rw [List.append_nil] at b1
  refine wpAny_call (make_map (f := f) J.kIn M.makes M.init (beq_iff_eq.mp M.fn) (codeAny_mono (F.go _ X.stack _ _ ⟨Value.ref (s.heap.objs.size + 1) :: us, []⟩ _ _ _ E0 (under_gd gd) (room.make C us []) (J2.env0.make C us []) b1 rel2 want) ?_))
  intro r s2 z
  match r, z with
  | .ok (.ret u), z =>
    obtain ⟨v, H2, J3, rv, ev, q⟩ := J2.after z
    subst ev
    exact ⟨rv, V.ref _, H2, J3, rfl, q⟩
  | .ok .next, z => exact z.elim
  | .ok .brk, z => exact z.elim
  | .ok .cont, z => exact z.elim
  | .error _, z => exact z.elim
theorem FnG.make {C : Addr} (M : Mk X.K C f) (F : FnG X.prog X.w X.K X.mg X.base k f fd ps sp) (gd : X.A.guards = some []) (room : Room (k + 1) X.A) (hg : Gl X x) (hm : X.mg x = some (.ref C)) (bnd : Binds X.K fd ps [])
    (ha : PA X (e :: es) t) (hdb : (x == ("__debug__" : Str)) = false) (he : starEach (e :: es) X.env = (false, eval e X.env) :: starEach es X.env) (hpl : (backTo pos (starEach es X.env)).any (·.1) = false) :
    PE X (.Call (.Name x p) (e :: es) [] pos) fun σ H Q => t σ H fun vs H1 => ∀ a dx, H1 a = none → H1 dx = none → dx ≠ a → sp (.ref a :: vs) (upd (upd H1 dx (.own a)) a (.ins C dx [])) (fun v H2 => v = .non ∧ Q (.ref a) H2) E0 := by
  constructor
  intro pins s σ H Q J z
  refine wpAny_Call_Name_kw (ld_glob J hg hm ?_ hdb)
  refine PySem.W.callWith_K (h₀ := X.base) J.ok.mod.kin M.kp (thn (ha.run pos pins s σ H _ J z) ?_) he hpl
  rintro us s1 ⟨vs, H1, J1, rel, want⟩
  exact ⟨J1.kIn, F.born M gd room bnd J1 rel want⟩
/-- the def of a method, found at the object -/
theorem call_at {o : Expr} {m : Str} {apos : Pos} {env : PySem.Env} {args : List Expr} {A : Around} {M : Model} {Q : Value → Shared → Prop} {E : Value → Shared → Prop} {s : Shared} (hb : attributeBase o m env (eval o env) = eval o env) (hl : (apos.endLine == pos.line) = true) (hf : methodCallForm args.length (backTo pos (starEach args env)) [] = true)
    (h : wpAny M A (eval o env) (fun ov s1 => ∀ pl, wpAny M A (getMethod ov m pl) (fun g s2 => wpAny M A (callWith pos g.1 g.2 (backTo pos (starEach args env)) []) Q E s2) E s1) E s) : wpAny M A (eval (.Call (.Attribute o m apos) args [] pos) env) Q E s := by
  rw [arm_eval_Call, hb]
  refine wpAny_bind (thn h ?_)
  intro ov s1 z
  refine wpAny_bind (wpAny_standAt ?_)
  have same : ∀ few, methodCallPos few o env apos pos = pure pos := fun few => by unfold methodCallPos; simp [hl]
  unfold methodCall
  show wpAny M A (holding [ov] (calleeOf (methodCallForm args.length (backTo pos (starEach args env)) []) o env ov m) >>= _) Q E s1
  rw [hf]
  refine wpAny_bind (wpAny_holding (thn (z _) ?_))
  intro g s2 z2
  exact wpAny_bind (wpAny_of_eq (same _) z2)
/-- a method of the object that stands there, at its class -/
def MethAt (X : Cx) (C : Addr) (m : Str) (sp : Sp) : Prop := ∃ k f fd ps, Cls X.K C ∧ Meth X.K C m f ∧ FnG X.prog X.w X.K X.mg X.base k f fd ps sp ∧ Room k X.A ∧ Binds X.K fd ps []
theorem pe_methG {m : Str} {o : Expr} {apos : Pos} {ta : TE} (ho : PE X o ta) (hb : attributeBase o m X.env (eval o X.env) = eval o X.env) (hl : (apos.endLine == pos.line) = true) (hf : methodCallForm (e :: es).length (backTo pos (starEach (e :: es) X.env)) [] = true) (gd : X.A.guards = some [])
    (ha : PA X (e :: es) t) (he : starEach (e :: es) X.env = (false, eval e X.env) :: starEach es X.env) (hpl : (backTo pos (starEach es X.env)).any (·.1) = false) :
    PE X (.Call (.Attribute o m apos) (e :: es) [] pos) fun σ H Q => ta σ H fun x H1 => ∃ a C dx fs sp, x = .ref a ∧ H1 a = some (.ins C dx fs) ∧ fs.lookup m = none ∧ MethAt X C m sp ∧ t σ H1 fun vs H2 => sp (x :: vs) H2 Q E0 := by
  constructor
  intro pins s σ H Q J z
  refine call_at hb hl hf (thn (ho.run pins s σ H _ J z) ?_)
  rintro u s1 ⟨x, H1, J1, rx, a, C, dx, fs, sp, rfl, ea, l, ⟨k, f, fd, ps, c, hm, F, room, bnd⟩, q⟩ pl
  cases rx
  refine getmeth_ok J1 ea c hm l ?_
  refine PySem.W.callWith_K (first := [.ref a]) (h₀ := X.base) J1.ok.mod.kin hm.kp (thn (ha.run pos pins s1 σ H1 _ J1 q) ?_) he hpl
  rintro us s2 ⟨vs, H2, J2, rel, want⟩
  exact ⟨J2.kIn, F.step (us := .ref a :: us) (vs := .ref a :: vs) gd room bnd J2 (.cons rfl rel) want⟩
theorem pe_methG0 {m : Str} {o : Expr} {apos : Pos} {ta : TE} (ho : PE X o ta) (hb : attributeBase o m X.env (eval o X.env) = eval o X.env) (hl : (apos.endLine == pos.line) = true) (gd : X.A.guards = some []) :
    PE X (.Call (.Attribute o m apos) [] [] pos) fun σ H Q => ta σ H fun x H1 => ∃ a C dx fs sp, x = .ref a ∧ H1 a = some (.ins C dx fs) ∧ fs.lookup m = none ∧ MethAt X C m sp ∧ sp [x] H1 Q E0 := by
  constructor
  intro pins s σ H Q J z
  refine call_at hb hl rfl (thn (ho.run pins s σ H _ J z) ?_)
  rintro u s1 ⟨x, H1, J1, rx, a, C, dx, fs, sp, rfl, ea, l, ⟨k, f, fd, ps, c, hm, F, room, bnd⟩, want⟩ pl
  cases rx
  refine getmeth_ok J1 ea c hm l ?_
  exact PySem.W.callWith_K0 (first := [.ref a]) J1.kIn hm.kp (F.step (us := [.ref a]) (vs := [.ref a]) gd room bnd J1 (.cons rfl .nil) want)
end
end VL

set_option maxRecDepth 100000
set_option maxHeartbeats 2000000
/-! VL: the syntax against the text; each construct. -/
namespace VL
open PySem L2 Evl PyProof.Rows PySem.Spec

/-! ### names -/
structure Tab where
  fname : Nat → Option Str
  gname : Nat → Str
  cname : Nat → Option Str
def glB (sc : Scope) (x : Str) : Bool := decide (sc.names.lookup x = some .globalImplicit)
def visB (sc : Scope) (x : Str) : Bool := match sc.names.lookup x with
  | some .local => true
  | some .cell => true
  | some .free => true
  | _ => false
def locB (sc : Scope) (x : Str) : Bool := match sc.names.lookup x with
  | some .local => true
  | some .cell => true
  | _ => false
def plainName (x : Str) : Bool := !(x == ("__debug__" : Str)) && !(x == ("__classdict__" : Str)) && decide (x ≠ "__name__")
theorem glB_ok {X : Cx} {x : Str} (h : glB X.env.scope x = true) : Gl X x := by
  show X.env.scope.names.lookup x = some .globalImplicit
  exact of_decide_eq_true h
theorem visB_ok {sc : Scope} {x : Str} (h : visB sc x = true) : Vis sc x := by
  unfold visB at h
  split at h
  · exact .inl (by assumption)
  · exact .inr (.inl (by assumption))
  · exact .inr (.inr (by assumption))
  · cases h
theorem locB_ok {sc : Scope} {x : Str} (h : locB sc x = true) : Loc sc x := by
  unfold locB at h
  split at h
  · exact .inl (by assumption)
  · exact .inr (by assumption)
  · cases h
theorem plainName_ok {x : Str} (h : plainName x = true) : (x == ("__debug__" : Str)) = false ∧ (x == ("__classdict__" : Str)) = false ∧ x ≠ "__name__" := by
  unfold plainName at h
  simp only [Bool.and_eq_true, Bool.not_eq_true', decide_eq_true_eq] at h
  exact ⟨h.1.1, h.1.2, h.2⟩
def agVar (sc : Scope) (N : List Str) (i : Nat) (x : Expr) : Bool := match x with
  | .Name id _ => decide (N[i]? = some id) && visB sc id && plainName id
  | _ => false
def bName : Blt → Str
  | .len => "len" | .abs => "abs" | .int => "int" | .str => "str" | .max2 => "max" | .min2 => "min" | .maxL => "max" | .minL => "min"
  | .sum => "sum" | .all => "all" | .any => "any" | .tuple => "tuple" | .repr => "repr"
def bltNames : List Str := ["len", "abs", "int", "str", "max", "min", "sum", "all", "any", "tuple", "list", "range", "isinstance", "bool", "dict", "repr", "sorted", "zip", "enumerate", "reversed"]
theorem bName_mem (b : Blt) : bName b ∈ bltNames := by cases b <;> decide +kernel
theorem bName_boot (b : Blt) : bootBuiltins (bName b) = some (bVal b) := by cases b <;> decide +kernel
theorem bName_plain (b : Blt) : plainName (bName b) = true := by cases b <;> decide +kernel
def notStar : Expr → Bool
  | .Starred _ _ => false
  | _ => true
def notSlice : Expr → Bool
  | .Slice _ _ _ _ => false
  | _ => true
def notSet : Expr → Bool
  | .Set _ _ _ => false
  | _ => true
/-- no super() -/
def notSup : Expr → Bool
  | .Call _ _ _ _ => false
  | _ => true
theorem star_cons {x : Expr} (h : notStar x = true) (r : List Expr) (env : PySem.Env) : starEach (x :: r) env = (false, eval x env) :: starEach r env := by
  cases x <;> first | rfl | cases h
theorem star_all : ∀ {es : List Expr}, es.all notStar = true → ∀ (pos : Pos) (env : PySem.Env), (backTo pos (starEach es env)).any (·.1) = false
  | [], _, _, _ => rfl
  | e :: es, h, pos, env => by
    rw [List.all_cons, Bool.and_eq_true] at h
    rw [star_cons h.1]
    show (false || (backTo pos (starEach es env)).any (·.1)) = false
    rw [star_all h.2] <;> rfl
theorem plainIx_of {x : Expr} (h : notSlice x = true) : PlainIx x := fun o i => by
  cases x <;> first | rfl | cases h
theorem folded_of {x : Expr} (h : notSet x = true) (env : PySem.Env) : ∀ v, foldedSetIterable x env v = pure v := fun v => by
  cases x <;> first | rfl | cases h
theorem base_of {x : Expr} (h : notSup x = true) (f : Str) (env : PySem.Env) : attributeBase x f env (eval x env) = eval x env := by
  cases x <;> first | rfl | cases h
/-- a test that is its value's truth -/
def plainT : Expr → Bool
  | .UnaryOp .Not _ _ => false
  | .BoolOp _ _ _ => false
  | .IfExp _ _ _ _ => false
  | .Compare _ _ _ _ => false
  | _ => true
theorem plainT_ok {x : Expr} (h : plainT x = true) (env : PySem.Env) : ∀ whole, isTrue x env whole = (do let v ← whole; standAt x.pos; holding [v] (truthy v)) := fun whole => by
  cases x <;> first | rfl | cases h | (rename_i op _ _; cases op <;> first | rfl | cases h)

/-- a target: its name's kind by the block's scope as written and as it runs -/
def tgN (sc0 sc : Scope) (id : Str) : Bool := (decide (sc0.names.lookup id = some .local) && decide (sc.names.lookup id = some .local)) || (decide (sc0.names.lookup id = some .cell) && decide (sc.names.lookup id = some .cell))
def agNames (sc0 sc : Scope) (N : List Str) : List Nat → List Expr → Bool
  | [], [] => true
  | i :: is, .Name id _ :: es => decide (N[i]? = some id) && tgN sc0 sc id && agNames sc0 sc N is es
  | _, _ => false
def agTg (sc0 sc : Scope) (N : List Str) : Tg → Expr → Bool
  | .nm i, x => match x with
    | .Name id _ => decide (N[i]? = some id) && tgN sc0 sc id
    | _ => false
  | .tup is, x => match x with
    | .Tuple es _ _ => agNames sc0 sc N is es
    | _ => false
def tgIds : Tg → List Nat
  | .nm i => [i]
  | .tup is => is
def ownP (N : List Str) : List Nat → List (Str × Nat)
  | [] => []
  | i :: is => (N.getD i "", i) :: ownP N is
theorem ownP_ids (N : List Str) (is : List Nat) : (ownP N is).map (·.2) = is := by
  induction is with
  | nil => rfl
  | cons i is ih => simp [ownP, ih]

def tail2 (op : BoolOp) (z : Expr) (pos : Pos) : List Expr → Expr
  | [] => z
  | w :: r => .BoolOp op (z :: w :: r) pos
mutual
def agE (T : Tab) (sc : Scope) (N : List Str) : E → Expr → Bool
  | .var i, x => agVar sc N i x
  | .vw i, x => agVar sc N i x
  | .cint i, x => match x with
    | .Constant (.int j) _ _ => decide (i = j)
    | _ => false
  | .cstr i, x => match x with
    | .Constant (.str j) _ _ => decide (i = j)
    | _ => false
  | .cbl i, x => match x with
    | .Constant (.bool j) _ _ => decide (i = j)
    | _ => false
  | .cnon, x => match x with
    | .Constant .none _ _ => true
    | _ => false
  | .glob g, x => match x with
    | .Name id _ => decide (id = T.gname g) && glB sc id && plainName id
    | _ => false
  | .bin op a b, x => match x with
    | .BinOp l o r _ => decide (op = o) && agE T sc N a l && agE T sc N b r
    | _ => false
  | .neg a, x => match x with
    | .UnaryOp .USub y _ => agE T sc N a y
    | _ => false
  | .not a, x => match x with
    | .UnaryOp .Not y _ => agE T sc N a y
    | _ => false
  | .cmp op a b, x => match x with
    | .Compare l [o] [r] _ => decide (op = o) && agE T sc N a l && agE T sc N b r && !behindInMarks o r
    | _ => false
  | .chain o1 o2 a b c, x => match x with
    | .Compare l [p1, p2] [r1, r2] _ => decide (o1 = p1) && decide (o2 = p2) && agE T sc N a l && agE T sc N b r1 && agE T sc N c r2 && !lastMarks [p1, p2] [r1, r2]
    | _ => false
  | .and a b, x => match x with
    | .BoolOp .And (y :: z :: rest) p => agE T sc N a y && agE T sc N b (tail2 .And z p rest)
    | _ => false
  | .or a b, x => match x with
    | .BoolOp .Or (y :: z :: rest) p => agE T sc N a y && agE T sc N b (tail2 .Or z p rest)
    | _ => false
  | .ite c a b, x => match x with
    | .IfExp t l r _ => agE T sc N c t && agE T sc N a l && agE T sc N b r
    | _ => false
  | .tup es, x => match x with
    | .Tuple xs _ _ => agEs T sc N es xs
    | _ => false
  | .fz n, x => agN T sc N n x
  | .new n, x => agN T sc N n x
  | .sub a i, x => match x with
    | .Subscript l r _ => agE T sc N a l && agE T sc N i r && notSlice r
    | _ => false
  | .slice a lo hi, x => match x with
    | .Subscript l (.Slice u v none _) _ => agE T sc N a l && agO T sc N lo u && agO T sc N hi v
    | _ => false
  | .call f es, x => match x with
    | .Call (.Name id _) xs [] _ => decide (T.fname f = some id) && glB sc id && plainName id && agEs T sc N es xs
    | _ => false
  | .blt b es, x => match x with
    | .Call (.Name id _) (y :: xs) [] _ => decide (id = bName b) && glB sc id && agEs T sc N es (y :: xs)
    | _ => false
  | .isi a t, x => match x with
    | .Call (.Name id _) [y, .Name id2 _] [] _ => decide (id = "isinstance") && glB sc id && decide (id2 = Str.ofString t) && glB sc id2 && agE T sc N a y && notStar y && (["int", "bool", "str", "list", "tuple"] : List String).contains t
    | _ => false
  | .smt m o a, x => match x with
    | .Call (.Attribute y nm apos) [z] [] cpos => (match m with | .join => decide (nm = "join")) && agE T sc N o y && agE T sc N a z && notStar z && notSup y && (apos.endLine == cpos.line)
    | _ => false
  | .attr a f, x => match x with
    | .Attribute y g _ => decide (f = g) && agE T sc N a y && notSup y
    | _ => false
  | .mcall o m es, x => match x with
    | .Call (.Attribute y nm apos) xs [] cpos => decide (m = nm) && agE T sc N o y && agEs T sc N es xs && notSup y && (apos.endLine == cpos.line) && decide (xs.length < 30)
    | _ => false
  | .make c es, x => match x with
    | .Call (.Name id _) (y :: xs) [] _ => decide (T.cname c = some id) && glB sc id && plainName id && agEs T sc N es (y :: xs)
    | _ => false
  | .tru a, x => agE T sc N a x && plainT x
def agEs (T : Tab) (sc : Scope) (N : List Str) : Es → List Expr → Bool
  | .nil, xs => match xs with
    | [] => true
    | _ => false
  | .cons e es, xs => match xs with
    | y :: ys => agE T sc N e y && notStar y && agEs T sc N es ys
    | _ => false
def agO (T : Tab) (sc : Scope) (N : List Str) : Oe → Option Expr → Bool
  | .no, x => match x with
    | none => true
    | _ => false
  | .so e, x => match x with
    | some y => agE T sc N e y
    | _ => false
def agN (T : Tab) (sc : Scope) (N : List Str) : Nw → Expr → Bool
  | .lst es, x => match x with
    | .List xs _ => agEs T sc N es xs
    | _ => false
  | .comp elt tg it cond own, x => match x with
    | .ListComp y [⟨t, i, ifs, a⟩] scope _ => decide (a = 0) && blkC N sc scope (ownP N own) && (tgIds tg).all (fun i => own.contains i) && agTg scope (relS scope sc) N tg t && agI T sc N it i && notSet i && agE T (relS scope sc) N elt y &&
      (match ifs with
      | [] => match cond with
        | .no => true
        | _ => false
      | [c] => agC T (relS scope sc) N cond c
      | _ => false)
    | _ => false
  | .slice a lo hi, x => match x with
    | .Subscript l (.Slice u v none _) _ => agE T sc N a l && agO T sc N lo u && agO T sc N hi v
    | _ => false
  | .listOf a, x => match x with
    | .Call (.Name id _) [y] [] _ => decide (id = "list") && glB sc id && agE T sc N a y && notStar y
    | _ => false
  | .cat a b, x => match x with
    | .BinOp l o r _ => decide (o = .Add) && agE T sc N a l && agE T sc N b r
    | _ => false
  | .rev a, x => match x with
    | .Subscript l (.Slice none none (some (.UnaryOp .USub (.Constant (.int 1) _ _) _)) _) _ => agE T sc N a l
    | _ => false
  | .dct1 k v, x => match x with
    | .Dict [some y] [z] _ => agE T sc N k y && agE T sc N v z
    | _ => false
def agC (T : Tab) (sc : Scope) (N : List Str) : Oe → Expr → Bool
  | .no, _ => false
  | .so e, x => agE T sc N e x
def agI (T : Tab) (sc : Scope) (N : List Str) : It → Expr → Bool
  | .rng1 a, x => match x with
    | .Call (.Name id _) [y] [] _ => decide (id = "range") && glB sc id && agE T sc N a y && notStar y
    | _ => false
  | .rng2 a b, x => match x with
    | .Call (.Name id _) [y, z] [] _ => decide (id = "range") && glB sc id && agE T sc N a y && notStar y && agE T sc N b z && notStar z
    | _ => false
  | .seq a, x => agE T sc N a x
  | .own i, x => agVar sc N i x
  | .chars a, x => agE T sc N a x
end

/-! ### the context -/
def spOf (K : PySem.W.Frag) (Cl : Nat → Addr) (C : Ctx) (f : Nat) : Sp := fun vs H Q _ => ∃ cs F h ds Qa, StOk K Cl cs F H h ∧ Reps K cs F vs ds ∧ C.call f ds h Qa ∧
  ∀ v d cs' F' H' h', Stp cs F H cs' F' H' → StOk K Cl cs' F' H' h' → Rep K cs' F' v d → Qa d h' → Q v H'
structure XOk (C : Ctx) (T : Tab) (Cl : Nat → Addr) (X : Cx) : Prop where
  nd : X.N.Nodup
  calm : X.calm = true
  units : X.A.units + 65 < cLine
  gd : X.A.guards = some []
  blt : ∀ x, x ∈ bltNames → X.mg x = none
  glob : ∀ g d, C.glob g = some d → ∃ u v, X.mg (T.gname g) = some u ∧ RelV v u ∧ ∀ cs F, Rep X.K cs F v d
  fn : ∀ f x, T.fname f = some x → ∃ k a fd ps, FnG X.prog X.w X.K X.mg X.base k a fd ps (spOf X.K Cl C f) ∧ Room k X.A ∧ X.mg x = some (.ref a) ∧ PySem.W.keepIn X.K (.ref a) = true ∧ Binds X.K fd ps []
  cls : ∀ c x, T.cname c = some x → ∃ f k a fd ps, C.init c = some f ∧ FnG X.prog X.w X.K X.mg X.base k a fd ps (spOf X.K Cl C f) ∧ Room (k + 1) X.A ∧ X.mg x = some (.ref (Cl c)) ∧ Mk X.K (Cl c) a ∧ Binds X.K fd ps []
  mth : ∀ c m f, C.meth c m = some f → ∃ k a fd ps, FnG X.prog X.w X.K X.mg X.base k a fd ps (spOf X.K Cl C f) ∧ Room k X.A ∧ Cls X.K (Cl c) ∧ Meth X.K (Cl c) m a ∧ Binds X.K fd ps []
  fld : ∀ c f, C.fld c f = true → Cls X.K (Cl c) ∧ NoAttr X.K (Cl c) f
theorem XOk.blk {C : Ctx} {T : Tab} {Cl : Nat → Addr} {X : Cx} (O : XOk C T Cl X) (s : Shared) (H : Hp) (scope : Scope) (cl : List (Str × Addr)) (c : Addr) (fp : List Addr) : XOk C T Cl (X.blk s H scope (compEnvC scope cl c X.env) fp) where
  nd := O.nd
  calm := O.calm
  units := O.units
  gd := O.gd
  blt := O.blt
  glob := O.glob
  fn := O.fn
  cls := O.cls
  mth := O.mth
  fld := O.fld

/-! ### weakest readings -/
def WE (X : Cx) (e : Expr) : TE := fun σ H Q => ∀ pins s, Inv X pins σ H s → wpAny (model X.prog X.w) X.A (eval e X.env) (EP X pins σ Q) X.xe s
def WT (X : Cx) (e : Expr) : TT := fun σ H Q => ∀ pins s, Inv X pins σ H s → wpAny (model X.prog X.w) X.A (isTrue e X.env (eval e X.env)) (TP X pins σ Q) X.xe s
def WW (X : Cx) (e : Expr) : TT := fun σ H Q => ∀ (whole : Sem Value) pins s, Inv X pins σ H s → wpAny (model X.prog X.w) X.A (isTrue e X.env whole) (TP X pins σ Q) X.xe s
def WA (X : Cx) (es : List Expr) : TA := fun σ H Q => ∀ (pos : Pos) pins s, Inv X pins σ H s → wpAny (model X.prog X.w) X.A (spliced (backTo pos (starEach es X.env))) (AP X pins σ Q) X.xe s
def WO (X : Cx) (e : Option Expr) : TO := fun σ H Q => ∀ pins s, Inv X pins σ H s → wpAny (model X.prog X.w) X.A (evalPart e X.env) (fun u s' => ∃ o H', Inv X pins σ H' s' ∧ IsPart u o ∧ Q o H') X.xe s
section
variable {X : Cx}
theorem pe_we {e : Expr} : PE X e (WE X e) := ⟨fun pins s σ H Q I h => h pins s I⟩
theorem pt_we {e : Expr} : PT X e (WT X e) := ⟨fun pins s σ H Q I h => h pins s I⟩
theorem po_we {e : Option Expr} : PO X e (WO X e) := ⟨fun pins s σ H Q I h => h pins s I⟩
theorem wo_of {e : Option Expr} {t : TO} (p : PO X e t) {σ : L2.St} {H : Hp} {Q : Option Int → Hp → Prop} (h : t σ H Q) : WO X e σ H Q := fun pins s I => p.run pins s σ H Q I h
theorem pa_we {e : List Expr} : PA X e (WA X e) := ⟨fun pos pins s σ H Q I h => h pos pins s I⟩
theorem we_of {e : Expr} {t : TE} (p : PE X e t) {σ : L2.St} {H : Hp} {Q : VK} (h : t σ H Q) : WE X e σ H Q := fun pins s I => p.run pins s σ H Q I h
theorem wt_of {e : Expr} {t : TT} (p : PT X e t) {σ : L2.St} {H : Hp} {Q : Bool → Hp → Prop} (h : t σ H Q) : WT X e σ H Q := fun pins s I => p.run pins s σ H Q I h
theorem wa_of {e : List Expr} {t : TA} (p : PA X e t) {σ : L2.St} {H : Hp} {Q : List V → Hp → Prop} (h : t σ H Q) : WA X e σ H Q := fun pos pins s I => p.run pos pins s σ H Q I h
end

/-! ### what is shown of each construct -/
def EOk (K : PySem.W.Frag) (Cl : Nat → Addr) (b : Bool) (cs : List Addr) (F H : Hp) (Q : AV → AHeap → Prop) (R : VK) : Prop :=
  ∀ v d cs' F' H' h', Stp cs F H cs' F' H' → StOk K Cl cs' F' H' h' → RepB K cs' F' H' b v d → Q d h' → R v H'
def BOk (K : PySem.W.Frag) (Cl : Nat → Addr) (cs : List Addr) (F H : Hp) (Q : Bool → AHeap → Prop) (R : Bool → Hp → Prop) : Prop :=
  ∀ k cs' F' H' h', Stp cs F H cs' F' H' → StOk K Cl cs' F' H' h' → Q k h' → R k H'
def AOk (K : PySem.W.Frag) (Cl : Nat → Addr) (b : Bool) (cs : List Addr) (F H : Hp) (Q : List AV → AHeap → Prop) (R : List V → Hp → Prop) : Prop :=
  ∀ v d cs' F' H' h', Stp cs F H cs' F' H' → StOk K Cl cs' F' H' h' → RepBs K cs' F' H' b v d → Q d h' → R v H'
def OOk (K : PySem.W.Frag) (Cl : Nat → Addr) (cs : List Addr) (F H : Hp) (Q : Option Int → AHeap → Prop) (R : Option Int → Hp → Prop) : Prop :=
  ∀ k cs' F' H' h', Stp cs F H cs' F' H' → StOk K Cl cs' F' H' h' → Q k h' → R k H'
def NOk (K : PySem.W.Frag) (Cl : Nat → Addr) (cs : List Addr) (F H : Hp) (Q : Cell → AHeap → Prop) (R : VK) : Prop :=
  ∀ p c cs' F' H' h', Stp cs F H cs' F' H' → StOk K Cl cs' F' H' h' → H p = none → F' p = none → p ∉ cs' → COk K Cl cs' F' H' p c → Q c h' → R (.ref p) H'
section
variable (C : Ctx) (T : Tab) (Cl : Nat → Addr)
def SE (X : Cx) (b : Bool) (e : E) (x : Expr) : Prop := ∀ ρ h Q σ cs F H R, StOk X.K Cl cs F H h → EnvOk X.K Cl cs F H σ ρ → WpE C b e ρ h Q → EOk X.K Cl b cs F H Q R → WE X x σ H R
def ST (X : Cx) (e : E) (x : Expr) : Prop := ∀ ρ h Q σ cs F H R, StOk X.K Cl cs F H h → EnvOk X.K Cl cs F H σ ρ → WpT C e ρ h Q → BOk X.K Cl cs F H Q R → WT X x σ H R
def SA (X : Cx) (es : Es) (x : List Expr) : Prop := ∀ ρ h Q σ cs F H R, StOk X.K Cl cs F H h → EnvOk X.K Cl cs F H σ ρ → WpEs C es ρ h Q → AOk X.K Cl false cs F H Q R → WA X x σ H R
def SB (X : Cx) (es : Es) (x : List Expr) : Prop := ∀ ρ h Q σ cs F H R, StOk X.K Cl cs F H h → EnvOk X.K Cl cs F H σ ρ → WpBs C es ρ h Q → AOk X.K Cl true cs F H Q R → WA X x σ H R
def SO (X : Cx) (e : Oe) (x : Option Expr) : Prop := ∀ ρ h Q σ cs F H R, StOk X.K Cl cs F H h → EnvOk X.K Cl cs F H σ ρ → WpO C e ρ h Q → OOk X.K Cl cs F H Q R → WO X x σ H R
def SN (X : Cx) (e : Nw) (x : Expr) : Prop := ∀ ρ h Q σ cs F H R, StOk X.K Cl cs F H h → EnvOk X.K Cl cs F H σ ρ → WpN C e ρ h Q → NOk X.K Cl cs F H Q R → WE X x σ H R
end

section
variable {C : Ctx} {T : Tab} {Cl : Nat → Addr} {X : Cx} {b : Bool} {K : PySem.W.Frag} {cs cs' cs'' : List Addr} {F F' F'' H H' H'' : Hp} {h : AHeap}
theorem EOk.lift {Q : AV → AHeap → Prop} {R : VK} (p : EOk K Cl b cs F H Q R) (x : Stp cs F H cs' F' H') : EOk K Cl b cs' F' H' Q R :=
  fun v d cs2 F2 H2 h2 y S r q => p v d cs2 F2 H2 h2 (x.trans y) S r q
theorem BOk.lift {Q : Bool → AHeap → Prop} {R : Bool → Hp → Prop} (p : BOk K Cl cs F H Q R) (x : Stp cs F H cs' F' H') : BOk K Cl cs' F' H' Q R :=
  fun k cs2 F2 H2 h2 y S q => p k cs2 F2 H2 h2 (x.trans y) S q
theorem NOk.lift {Q : Cell → AHeap → Prop} {R : VK} (p : NOk K Cl cs F H Q R) (x : Stp cs F H cs' F' H') : NOk K Cl cs' F' H' Q R :=
  fun v d cs2 F2 H2 h2 y S r1 r2 r3 r4 q => p v d cs2 F2 H2 h2 (x.trans y) S (x.fresh r1) r2 r3 r4 q
theorem EOk.post {Q : AV → AHeap → Prop} {R : VK} (p : EOk K Cl b cs F H Q R) : PostV K Cl cs F H h (fun z => Q z h) R := fun v d F' H' x S r q => p v d cs F' H' h x S (.inl r) q
theorem NOk.fz {Q : AV → AHeap → Prop} {R : VK} (p : EOk K Cl b cs F H Q R) : NOk K Cl cs F H (fun c h1 => match c with
    | .lst xs => Q (.lst xs) h1
    | .dct xs => Q (.dct xs) h1
    | _ => False) R := fun a c cs' F' H' h' x S n1 n2 n3 r q => by
  have key : ∀ o, H' a = some o → Stp cs' F' H' cs' (upd F' a o) H' → True := fun _ _ _ => trivial
  cases c with
  | lst xs =>
    obtain ⟨vs, e, r⟩ := r
    have x2 : Stp cs F H cs' (upd F' a (.lst vs)) H' := by
      refine ⟨x.f.trans (Ex.new n2), x.c, x.k, x.d, fun b q1 q2 => ?_, x.m⟩
      by_cases hb : b = a
      · subst hb; exact n1
      · rw [upd_ne hb] at q2; exact x.n b q1 q2
    exact p _ (.lst xs) _ _ _ _ x2 (S.freeze n2 n3 e) (.inl (.lst upd_same (r.mono (Ex.new n2) ⟨[], by simp⟩))) q
  | dct xs =>
    obtain ⟨vs, e, r⟩ := r
    have x2 : Stp cs F H cs' (upd F' a (.dK vs)) H' := by
      refine ⟨x.f.trans (Ex.new n2), x.c, x.k, x.d, fun b q1 q2 => ?_, x.m⟩
      by_cases hb : b = a
      · subst hb; exact n1
      · rw [upd_ne hb] at q2; exact x.n b q1 q2
    exact p _ (.dct xs) _ _ _ _ x2 (S.freeze n2 n3 e) (.inl (.dct upd_same (r.mono (Ex.new n2) ⟨[], by simp⟩))) q
  | obj c fs => exact q.elim
  | dead => exact q.elim
theorem NOk.new {Q : AV → AHeap → Prop} {R : VK} (p : EOk K Cl b cs F H Q R) : NOk K Cl cs F H (fun c h1 => Q (.adr h1.length) (h1 ++ [c])) R := fun a c cs' F' H' h' x S n1 n2 n3 r q => by
  have x2 : Stp cs F H (cs' ++ [a]) F' H' := by
    refine ⟨x.f, ?_, x.k, x.d, x.n, fun b q1 q2 => ?_⟩
    · obtain ⟨r, e⟩ := x.c
      exact ⟨r ++ [a], by rw [e, List.append_assoc]⟩
    · rw [List.mem_append] at q1
      rcases q1 with q1 | q1
      · exact x.m b q1 q2
      · simp at q1; subst q1; exact n1
  refine p _ (.adr h'.length) _ _ _ _ x2 (S.cellNew n2 n3 (r.mono (fun _ _ z => z) ⟨[a], rfl⟩ fun _ z => z)) (.inl (.adr ?_)) q
  rw [← S.len]
  simp

/-! ### expressions -/
theorem s_var {i : Nat} {x : Expr} (hag : agVar X.env.scope X.N i x = true) : SE C Cl X b (.var i) x := fun ρ h Q σ cs F H R S V w p => by
  unfold agVar at hag
  split at hag
  · rename_i id pos
    simp only [Bool.and_eq_true, decide_eq_true_eq] at hag
    obtain ⟨⟨h1, h2⟩, h3⟩ := hag
    obtain ⟨n1, n2, _⟩ := plainName_ok h3
    simp only [WpE] at w
    split at w
    · rename_i d hd
      obtain ⟨v, e, r⟩ := V.val i d hd
      exact we_of (pe_var h1 (visB_ok h2) n1 n2) ⟨v, e, p _ _ _ _ _ _ .refl S (.inl r) w⟩
    · exact w.elim
  · cases hag
theorem own_rep {i : Nat} {σ : L2.St} {ρ : Env} {c : Cell} (V : EnvOk K Cl cs F H σ ρ) (e : getS ρ i = .own c) : ∃ v, σ[i]? = some (some v) ∧ ∀ d, (∃ xs, c = .lst xs ∧ d = .lst xs) ∨ (∃ xs, c = .dct xs ∧ d = .dct xs) → RepB K cs F H true v d := by
  obtain ⟨a, h1, h2, h3, h4⟩ := V.own i c e
  refine ⟨_, h1, fun d q => ?_⟩
  rcases q with ⟨xs, rfl, rfl⟩ | ⟨xs, rfl, rfl⟩
  · obtain ⟨vs, q1, q2⟩ := h4
    exact .inr ⟨rfl, a, rfl, h2, h3, .inl ⟨vs, xs, rfl, q1, q2⟩⟩
  · obtain ⟨vs, q1, q2⟩ := h4
    exact .inr ⟨rfl, a, rfl, h2, h3, .inr ⟨vs, xs, rfl, q1, q2⟩⟩
theorem s_vw {i : Nat} {x : Expr} (hag : agVar X.env.scope X.N i x = true) : SE C Cl X b (.vw i) x := fun ρ h Q σ cs F H R S V w p => by
  unfold agVar at hag
  split at hag
  · rename_i id pos
    simp only [Bool.and_eq_true, decide_eq_true_eq] at hag
    obtain ⟨⟨h1, h2⟩, h3⟩ := hag
    obtain ⟨n1, n2, _⟩ := plainName_ok h3
    cases b with
    | false => simp only [WpE] at w
    | true =>
      simp only [WpE] at w
      split at w
      · rename_i xs hd
        obtain ⟨v, e, r⟩ := own_rep V hd
        exact we_of (pe_var h1 (visB_ok h2) n1 n2) ⟨v, e, p _ _ _ _ _ _ .refl S (r _ (.inl ⟨xs, rfl, rfl⟩)) w⟩
      · rename_i xs hd
        obtain ⟨v, e, r⟩ := own_rep V hd
        exact we_of (pe_var h1 (visB_ok h2) n1 n2) ⟨v, e, p _ _ _ _ _ _ .refl S (r _ (.inr ⟨xs, rfl, rfl⟩)) w⟩
      · exact w.elim
  · cases hag
theorem s_glob {g : Nat} {id : Str} {pos : Pos} (O : XOk C T Cl X) (h0 : id = T.gname g) (h1 : glB X.env.scope id = true) (h2 : plainName id = true) : SE C Cl X b (.glob g) (.Name id pos) := fun ρ h Q σ cs F H R S V w p => by
  simp only [WpE] at w
  split at w
  · rename_i d hd
    obtain ⟨u, v, e1, e2, r⟩ := O.glob g d hd
    rw [← h0] at e1
    exact we_of (pe_glob (glB_ok h1) e1 e2 (plainName_ok h2).1) (p _ _ _ _ _ _ .refl S (.inl (r _ _)) w)
  · exact w.elim
theorem s_bin {op : Operator} {a c : E} {l r : Expr} {pos : Pos} (ha : SE C Cl X false a l) (hc : SE C Cl X false c r) : SE C Cl X b (.bin op a c) (.BinOp l op r pos) := fun ρ h Q σ cs F H R S V w p => by
  simp only [WpE] at w
  refine we_of (pe_op opw_ok pe_we pe_we) (ha _ _ _ _ _ _ _ _ S V w fun v1 d1 cs1 F1 H1 h1 x1 S1 r1 q1 => ?_)
  refine hc _ _ _ _ _ _ _ _ S1 (V.step x1) q1 fun v2 d2 cs2 F2 H2 h2 x2 S2 r2 q2 => ?_
  exact binK_ok S2 (r1.step x2) r2 q2 ((p.lift (x1.trans x2)).post)
theorem un_w {f : Value → Sem Value} : UnR X f (fun x H Q => ∀ (pins : List (Addr × Obj)) (s : Shared) (σ : L2.St) (v : Value), Inv X pins σ H s → RelV x v → wpAny (model X.prog X.w) X.A (f v) (EP X pins σ Q) X.xe s) :=
  fun pins s σ H x v Q I rx h => h pins s σ v I rx
theorem s_neg {a : E} {l : Expr} {pos : Pos} (ha : SE C Cl X false a l) : SE C Cl X b (.neg a) (.UnaryOp .USub l pos) := fun ρ h Q σ cs F H R S V w p => by
  simp only [WpE] at w
  refine we_of (pe_un un_neg pe_we) (ha _ _ _ _ _ _ _ _ S V w fun v1 d1 cs1 F1 H1 h1 x1 S1 r1 q1 => ?_)
  unfold negK at q1
  split at q1
  · cases r1.int
    exact ⟨_, rfl, (p.lift x1).post.int S1 q1⟩
  · exact q1.elim
theorem s_cmp {op : CmpOp} {a c : E} {l r : Expr} {pos : Pos} (O : XOk C T Cl X) (ha : SE C Cl X true a l) (hc : SE C Cl X true c r) (hm : behindInMarks op r = false) : SE C Cl X b (.cmp op a c) (.Compare l [op] [r] pos) := fun ρ h Q σ cs F H R S V w p => by
  simp only [WpE] at w
  refine we_of (pe_cmpR opw_ok pe_we pe_we hm) (ha _ _ _ _ _ _ _ _ S V w fun v1 d1 cs1 F1 H1 h1 x1 S1 r1 q1 => ?_)
  refine hc _ _ _ _ _ _ _ _ S1 (V.step x1) q1 fun v2 d2 cs2 F2 H2 h2 x2 S2 r2 q2 => ?_
  exact cmpK_ok (by have := O.units; omega) S2 (r1.step x2) r2 q2 ((p.lift (x1.trans x2)).post)
theorem s_cmpT {op : CmpOp} {a c : E} {l r : Expr} {pos : Pos} (O : XOk C T Cl X) (ha : SE C Cl X true a l) (hc : SE C Cl X true c r) (hm : behindInMarks op r = false) : ST C Cl X (.cmp op a c) (.Compare l [op] [r] pos) := fun ρ h Q σ cs F H R S V w p => by
  simp only [WpT] at w
  refine wt_of (pt_cmpR opw_ok pe_we pe_we hm) (ha _ _ _ _ _ _ _ _ S V w fun v1 d1 cs1 F1 H1 h1 x1 S1 r1 q1 => ?_)
  refine hc _ _ _ _ _ _ _ _ S1 (V.step x1) q1 fun v2 d2 cs2 F2 H2 h2 x2 S2 r2 q2 => ?_
  refine cmpK_ok (by have := O.units; omega) S2 (r1.step x2) r2 q2 fun v d F' H' y S3 rv qv => ?_
  split at qv
  · cases rv
    exact ⟨_, rfl, p _ _ _ _ _ ((x1.trans x2).trans y) S3 qv⟩
  · exact qv.elim
theorem s_chain {o1 o2 : CmpOp} {a c e : E} {l r1 r2 : Expr} {pos : Pos} (O : XOk C T Cl X) (ha : SE C Cl X false a l) (hc : SE C Cl X false c r1) (he : SE C Cl X false e r2) (hm : lastMarks [o1, o2] [r1, r2] = false) :
    SE C Cl X b (.chain o1 o2 a c e) (.Compare l [o1, o2] [r1, r2] pos) := fun ρ h Q σ cs F H R S V w p => by
  simp only [WpE] at w
  refine we_of (pe_chain opw_ok opw_ok pe_we pe_we pe_we hm) (ha _ _ _ _ _ _ _ _ S V w fun v1 d1 cs1 F1 H1 h1 x1 S1 r1 q1 => ?_)
  refine hc _ _ _ _ _ _ _ _ S1 (V.step x1) q1 fun v2 d2 cs2 F2 H2 h2 x2 S2 r2 q2 => ?_
  refine cmpK_ok (by have := O.units; omega) S2 (r1.step x2) r2 q2 fun v d F' H' y S3 rv qv => ?_
  split at qv
  · cases rv
    refine ⟨true, rfl, ?_⟩
    rw [if_pos rfl]
    refine he _ _ _ _ _ _ _ _ S3 (V.step ((x1.trans x2).trans y)) qv fun v3 d3 cs3 F3 H3 h3 x3 S4 r3 q3 => ?_
    exact cmpK_ok (by have := O.units; omega) S4 ((r2.step y).step x3) r3 q3 ((p.lift (((x1.trans x2).trans y).trans x3)).post)
  · cases rv
    refine ⟨false, rfl, ?_⟩
    rw [if_neg Bool.false_ne_true]
    exact p _ _ _ _ _ _ ((x1.trans x2).trans y) S3 (.inl (.bl false)) qv
  · exact qv.elim
theorem s_chainT {o1 o2 : CmpOp} {a c e : E} {l r1 r2 : Expr} {pos : Pos} (O : XOk C T Cl X) (ha : SE C Cl X false a l) (hc : SE C Cl X false c r1) (he : SE C Cl X false e r2) (hm : lastMarks [o1, o2] [r1, r2] = false) :
    ST C Cl X (.chain o1 o2 a c e) (.Compare l [o1, o2] [r1, r2] pos) := fun ρ h Q σ cs F H R S V w p => by
  simp only [WpT] at w
  refine wt_of (pt_chain opw_ok opw_ok pe_we pe_we pe_we hm) (ha _ _ _ _ _ _ _ _ S V w fun v1 d1 cs1 F1 H1 h1 x1 S1 r1 q1 => ?_)
  refine hc _ _ _ _ _ _ _ _ S1 (V.step x1) q1 fun v2 d2 cs2 F2 H2 h2 x2 S2 r2 q2 => ?_
  refine cmpK_ok (by have := O.units; omega) S2 (r1.step x2) r2 q2 fun v d F' H' y S3 rv qv => ?_
  split at qv
  · cases rv
    refine ⟨true, rfl, ?_⟩
    rw [if_pos rfl]
    refine he _ _ _ _ _ _ _ _ S3 (V.step ((x1.trans x2).trans y)) qv fun v3 d3 cs3 F3 H3 h3 x3 S4 r3 q3 => ?_
    refine cmpK_ok (by have := O.units; omega) S4 ((r2.step y).step x3) r3 q3 fun v d F' H' y' S5 rv' qv' => ?_
    split at qv'
    · cases rv'
      exact ⟨_, rfl, p _ _ _ _ _ ((((x1.trans x2).trans y).trans x3).trans y') S5 qv'⟩
    · exact qv'.elim
  · cases rv
    refine ⟨false, rfl, ?_⟩
    rw [if_neg Bool.false_ne_true]
    exact ⟨false, rfl, p _ _ _ _ _ ((x1.trans x2).trans y) S3 qv⟩
  · exact qv.elim
theorem s_not {a : E} {l : Expr} {pos : Pos} (ha : SE C Cl X false a l) : SE C Cl X b (.not a) (.UnaryOp .Not l pos) := fun ρ h Q σ cs F H R S V w p => by
  simp only [WpE] at w
  refine we_of (pe_not pe_we) (ha _ _ _ _ _ _ _ _ S V w fun v1 d1 cs1 F1 H1 h1 x1 S1 r1 q1 => ?_)
  split at q1
  · cases r1.bl
    exact ⟨_, rfl, (p.lift x1).post.bl S1 q1⟩
  · exact q1.elim
theorem s_notT {a : E} {l : Expr} {pos : Pos} (ha : ST C Cl X a l) : ST C Cl X (.not a) (.UnaryOp .Not l pos) := fun ρ h Q σ cs F H R S V w p => by
  simp only [WpT] at w
  exact wt_of (pt_not pt_we) (ha _ _ _ _ _ _ _ _ S V w fun k cs1 F1 H1 h1 x1 S1 q1 => p _ _ _ _ _ x1 S1 q1)
theorem pe_two {op : BoolOp} {y z : Expr} {rest : List Expr} {pos : Pos} {tz : TE} (hz : PE X (tail2 op z pos rest) tz) : PE X (.BoolOp op (z :: rest) pos) tz := by
  cases rest with
  | nil => exact pe_one hz
  | cons w r => exact hz
theorem s_and {a c : E} {y z : Expr} {rest : List Expr} {pos : Pos} (ha : SE C Cl X false a y) (hc : SE C Cl X false c (tail2 .And z pos rest)) : SE C Cl X b (.and a c) (.BoolOp .And (y :: z :: rest) pos) := fun ρ h Q σ cs F H R S V w p => by
  simp only [WpE] at w
  refine we_of (pe_and pe_we (pe_two (y := y) pe_we)) (ha _ _ _ _ _ _ _ _ S V w fun v1 d1 cs1 F1 H1 h1 x1 S1 r1 q1 => ?_)
  split at q1
  · cases r1.bl
    refine ⟨true, rfl, ?_⟩
    rw [if_pos rfl]
    exact hc _ _ _ _ _ _ _ _ S1 (V.step x1) q1 fun v2 d2 cs2 F2 H2 h2 x2 S2 r2 q2 => p _ _ _ _ _ _ (x1.trans x2) S2 (.inl r2.plain) q2
  · cases r1.bl
    refine ⟨false, rfl, ?_⟩
    rw [if_neg Bool.false_ne_true]
    exact p _ _ _ _ _ _ x1 S1 (.inl (.bl false)) q1
  · exact q1.elim
theorem s_or {a c : E} {y z : Expr} {rest : List Expr} {pos : Pos} (ha : SE C Cl X false a y) (hc : SE C Cl X false c (tail2 .Or z pos rest)) : SE C Cl X b (.or a c) (.BoolOp .Or (y :: z :: rest) pos) := fun ρ h Q σ cs F H R S V w p => by
  simp only [WpE] at w
  refine we_of (pe_or pe_we (pe_two (y := y) pe_we)) (ha _ _ _ _ _ _ _ _ S V w fun v1 d1 cs1 F1 H1 h1 x1 S1 r1 q1 => ?_)
  split at q1
  · cases r1.bl
    refine ⟨false, rfl, ?_⟩
    rw [if_neg Bool.false_ne_true]
    exact hc _ _ _ _ _ _ _ _ S1 (V.step x1) q1 fun v2 d2 cs2 F2 H2 h2 x2 S2 r2 q2 => p _ _ _ _ _ _ (x1.trans x2) S2 (.inl r2.plain) q2
  · cases r1.bl
    refine ⟨true, rfl, ?_⟩
    rw [if_pos rfl]
    exact p _ _ _ _ _ _ x1 S1 (.inl (.bl true)) q1
  · exact q1.elim
/-- a conjunction's or disjunction's test asks its whole for nothing -/
theorem pw_of {op : BoolOp} {es : List Expr} {pos : Pos} {t : TT} (h : PT X (.BoolOp op es pos) t) : PW X (.BoolOp op es pos) t := ⟨fun whole pins s σ H Q I hw => by
  have := h.run pins s σ H Q I hw
  exact this⟩
theorem s_andT {a c : E} {y z : Expr} {rest : List Expr} {pos : Pos} (ha : ST C Cl X a y) (hc : ST C Cl X c (tail2 .And z pos rest)) : ST C Cl X (.and a c) (.BoolOp .And (y :: z :: rest) pos) := fun ρ h Q σ cs F H R S V w p => by
  simp only [WpT] at w
  have hz : PW X (.BoolOp .And (z :: rest) pos) (WT X (tail2 .And z pos rest)) := by
    cases rest with
    | nil => exact pw_and1 pt_we
    | cons w r => exact pw_of pt_we
  refine wt_of (pw_and pt_we hz).pt (ha _ _ _ _ _ _ _ _ S V w fun k cs1 F1 H1 h1 x1 S1 q1 => ?_)
  cases k with
  | true =>
    rw [if_pos rfl] at q1 ⊢
    exact hc _ _ _ _ _ _ _ _ S1 (V.step x1) q1 (p.lift x1)
  | false =>
    rw [if_neg Bool.false_ne_true] at q1 ⊢
    exact p _ _ _ _ _ x1 S1 q1
theorem s_orT {a c : E} {y z : Expr} {rest : List Expr} {pos : Pos} (ha : ST C Cl X a y) (hc : ST C Cl X c (tail2 .Or z pos rest)) : ST C Cl X (.or a c) (.BoolOp .Or (y :: z :: rest) pos) := fun ρ h Q σ cs F H R S V w p => by
  simp only [WpT] at w
  have hz : PW X (.BoolOp .Or (z :: rest) pos) (WT X (tail2 .Or z pos rest)) := by
    cases rest with
    | nil => exact pw_or1 pt_we
    | cons w r => exact pw_of pt_we
  refine wt_of (pw_or pt_we hz).pt (ha _ _ _ _ _ _ _ _ S V w fun k cs1 F1 H1 h1 x1 S1 q1 => ?_)
  cases k with
  | false =>
    rw [if_neg Bool.false_ne_true] at q1 ⊢
    exact hc _ _ _ _ _ _ _ _ S1 (V.step x1) q1 (p.lift x1)
  | true =>
    rw [if_pos rfl] at q1 ⊢
    exact p _ _ _ _ _ x1 S1 q1
theorem s_truT {a : E} {l : Expr} (ha : SE C Cl X false a l) (hl : plainT l = true) : ST C Cl X (.tru a) l := fun ρ h Q σ cs F H R S V w p => by
  simp only [WpT] at w
  refine wt_of (pt_truth pe_we (plainT_ok hl _)) (ha _ _ _ _ _ _ _ _ S V w fun v1 d1 cs1 F1 H1 h1 x1 S1 r1 q1 => ?_)
  obtain ⟨k, e1, e2⟩ := truK_ok S1 r1 q1
  exact ⟨k, e1, p _ _ _ _ _ x1 S1 e2⟩
theorem s_ite {c a d : E} {t l r : Expr} {pos : Pos} (hc : ST C Cl X c t) (ha : SE C Cl X false a l) (hd : SE C Cl X false d r) : SE C Cl X b (.ite c a d) (.IfExp t l r pos) := fun ρ h Q σ cs F H R S V w p => by
  simp only [WpE] at w
  refine we_of (pe_ifExp pt_we pe_we pe_we) (hc _ _ _ _ _ _ _ _ S V w fun k cs1 F1 H1 h1 x1 S1 q1 => ?_)
  cases k with
  | true =>
    rw [if_pos rfl] at q1 ⊢
    exact ha _ _ _ _ _ _ _ _ S1 (V.step x1) q1 fun v2 d2 cs2 F2 H2 h2 x2 S2 r2 q2 => p _ _ _ _ _ _ (x1.trans x2) S2 (.inl r2.plain) q2
  | false =>
    rw [if_neg Bool.false_ne_true] at q1 ⊢
    exact hd _ _ _ _ _ _ _ _ S1 (V.step x1) q1 fun v2 d2 cs2 F2 H2 h2 x2 S2 r2 q2 => p _ _ _ _ _ _ (x1.trans x2) S2 (.inl r2.plain) q2
theorem s_tup {es : Es} {xs : List Expr} {k : Nat} {pos : Pos} (ha : SA C Cl X es xs) : SE C Cl X b (.tup es) (.Tuple xs k pos) := fun ρ h Q σ cs F H R S V w p => by
  simp only [WpE] at w
  refine we_of (pe_tup pa_we) (ha _ _ _ _ _ _ _ _ S V w fun vs ds cs1 F1 H1 h1 x1 S1 rs q1 => ?_)
  have rs := rs.plain
  exact ⟨by rw [rs.length]; exact q1.1, (p.lift x1).post.newT S1 rs q1.2⟩
theorem s_fz {n : Nw} {x : Expr} (hn : SN C Cl X n x) : SE C Cl X b (.fz n) x := fun ρ h Q σ cs F H R S V w p => by
  simp only [WpE] at w
  exact hn _ _ _ _ _ _ _ _ S V w (NOk.fz p)
theorem s_new {n : Nw} {x : Expr} (hn : SN C Cl X n x) : SE C Cl X b (.new n) x := fun ρ h Q σ cs F H R S V w p => by
  simp only [WpE] at w
  exact hn _ _ _ _ _ _ _ _ S V w (NOk.new p)
theorem s_sub {a i : E} {l r : Expr} {pos : Pos} (O : XOk C T Cl X) (ha : SE C Cl X true a l) (hi : SE C Cl X false i r) (hs : notSlice r = true) : SE C Cl X b (.sub a i) (.Subscript l r pos) := fun ρ h Q σ cs F H R S V w p => by
  simp only [WpE] at w
  refine we_of (pe_ix ixw_ok pe_we pe_we (plainIx_of hs)) (ha _ _ _ _ _ _ _ _ S V w fun v1 d1 cs1 F1 H1 h1 x1 S1 r1 q1 => ?_)
  refine hi _ _ _ _ _ _ _ _ S1 (V.step x1) q1 fun v2 d2 cs2 F2 H2 h2 x2 S2 r2 q2 => ?_
  exact subK_ok (by have := O.units; omega) S2 (r1.step x2) r2 q2 ((p.lift (x1.trans x2)).post)
theorem s_so {e : E} {x : Expr} (he : SE C Cl X false e x) : SO C Cl X (.so e) (some x) := fun ρ h Q σ cs F H R S V w p => by
  simp only [WpO] at w
  refine wo_of (po_some pe_we) (he _ _ _ _ _ _ _ _ S V w fun v1 d1 cs1 F1 H1 h1 x1 S1 r1 q1 => ?_)
  split at q1
  · cases r1.int
    exact ⟨_, rfl, p _ _ _ _ _ x1 S1 q1⟩
  · exact q1.elim
theorem s_no : SO C Cl X .no none := fun ρ h Q σ cs F H R S V w p => by
  simp only [WpO] at w
  exact wo_of po_none (p _ _ _ _ _ .refl S w)
theorem OOk.lift {Q : Option Int → AHeap → Prop} {R : Option Int → Hp → Prop} (p : OOk K Cl cs F H Q R) (x : Stp cs F H cs' F' H') : OOk K Cl cs' F' H' Q R :=
  fun k cs2 F2 H2 h2 y S q => p k cs2 F2 H2 h2 (x.trans y) S q
theorem AOk.lift {Q : List AV → AHeap → Prop} {R : List V → Hp → Prop} (p : AOk K Cl b cs F H Q R) (x : Stp cs F H cs' F' H') : AOk K Cl b cs' F' H' Q R :=
  fun v d cs2 F2 H2 h2 y S r q => p v d cs2 F2 H2 h2 (x.trans y) S r q
theorem s_slice {a : E} {lo hi : Oe} {l : Expr} {u v : Option Expr} {p2 pos : Pos} (ha : SE C Cl X false a l) (hl : SO C Cl X lo u) (hh : SO C Cl X hi v) : SE C Cl X b (.slice a lo hi) (.Subscript l (.Slice u v none p2) pos) := fun ρ h Q σ cs F H R S V w p => by
  simp only [WpE] at w
  refine we_of (pe_slice slw_ok pe_we po_we po_we) (ha _ _ _ _ _ _ _ _ S V w fun v1 d1 cs1 F1 H1 h1 x1 S1 r1 q1 => ?_)
  refine hl _ _ _ _ _ _ _ _ S1 (V.step x1) q1 fun k2 cs2 F2 H2 h2 x2 S2 q2 => ?_
  refine hh _ _ _ _ _ _ _ _ S2 ((V.step x1).step x2) q2 fun k3 cs3 F3 H3 h3 x3 S3 q3 => ?_
  exact sliceK_ok S3 ((r1.step x2).step x3) q3 ((p.lift ((x1.trans x2).trans x3)).post)
theorem s_nil : SA C Cl X .nil [] := fun ρ h Q σ cs F H R S V w p => by
  simp only [WpEs] at w
  exact wa_of pa_nil (p _ _ _ _ _ _ .refl S .nil w)
theorem s_cons {e : E} {es : Es} {x : Expr} {xs : List Expr} (he : SE C Cl X false e x) (hs : SA C Cl X es xs) (hx : notStar x = true) : SA C Cl X (.cons e es) (x :: xs) := fun ρ h Q σ cs F H R S V w p => by
  simp only [WpEs] at w
  refine wa_of (pa_cons pe_we pa_we (star_cons hx _ _)) (he _ _ _ _ _ _ _ _ S V w fun v1 d1 cs1 F1 H1 h1 x1 S1 r1 q1 => ?_)
  refine hs _ _ _ _ _ _ _ _ S1 (V.step x1) q1 fun v2 d2 cs2 F2 H2 h2 x2 S2 r2 q2 => ?_
  exact p _ _ _ _ _ _ (x1.trans x2) S2 (.cons (r1.step x2) r2) q2
theorem s_nilB : SB C Cl X .nil [] := fun ρ h Q σ cs F H R S V w p => by
  simp only [WpBs] at w
  exact wa_of pa_nil (p _ _ _ _ _ _ .refl S .nil w)
theorem s_consB {e : E} {es : Es} {x : Expr} {xs : List Expr} (he : SE C Cl X true e x) (hs : SB C Cl X es xs) (hx : notStar x = true) : SB C Cl X (.cons e es) (x :: xs) := fun ρ h Q σ cs F H R S V w p => by
  simp only [WpBs] at w
  refine wa_of (pa_cons pe_we pa_we (star_cons hx _ _)) (he _ _ _ _ _ _ _ _ S V w fun v1 d1 cs1 F1 H1 h1 x1 S1 r1 q1 => ?_)
  refine hs _ _ _ _ _ _ _ _ S1 (V.step x1) q1 fun v2 d2 cs2 F2 H2 h2 x2 S2 r2 q2 => ?_
  exact p _ _ _ _ _ _ (x1.trans x2) S2 (.cons (r1.step x2) r2) q2
theorem s_call {f : Nat} {es : Es} {id : Str} {p1 pos : Pos} {xs : List Expr} (O : XOk C T Cl X) (h0 : T.fname f = some id) (h1 : glB X.env.scope id = true) (h2 : plainName id = true) (hx : xs.all notStar = true) (hn : xs = [] → es = .nil) (ha : SA C Cl X es xs) :
    SE C Cl X b (.call f es) (.Call (.Name id p1) xs [] pos) := fun ρ h Q σ cs F H R S V w p => by
  simp only [WpE] at w
  obtain ⟨k, a, fd, ps, G, hr, hm, hk, hb⟩ := O.fn f id h0
  have key : WA X xs σ H fun vs H1 => spOf X.K Cl C f vs H1 R E0 := by
    refine ha _ _ _ _ _ _ _ _ S V w fun vs ds cs1 F1 H1 h1 x1 S1 rs q1 => ?_
    exact ⟨cs1, F1, h1, ds, Q, S1, rs.plain, q1, fun v d cs' F' H' h' y S' r q => p _ _ _ _ _ _ (x1.trans y) S' (.inl r) q⟩
  cases xs with
  | nil =>
    refine we_of (G.call0 O.gd hr (glB_ok h1) hm hk hb (plainName_ok h2).1) ?_
    show spOf X.K Cl C f [] H R E0
    cases es with
    | nil =>
      simp only [WpEs] at w
      exact ⟨cs, F, h, [], Q, S, .nil, w, fun v d cs' F' H' h' y S' r q => p _ _ _ _ _ _ y S' (.inl r) q⟩
    | cons e es => cases hn rfl
  | cons x xs =>
    rw [List.all_cons, Bool.and_eq_true] at hx
    exact we_of (G.call O.gd hr (glB_ok h1) hm hk hb pa_we (plainName_ok h2).1 (star_cons hx.1 _ _) (star_all hx.2 _ _)) key
theorem s_blt {bt : Blt} {es : Es} {id : Str} {p1 pos : Pos} {y : Expr} {xs : List Expr} (O : XOk C T Cl X) (h0 : id = bName bt) (h1 : glB X.env.scope id = true) (hx : (y :: xs).all notStar = true) (ha : SB C Cl X es (y :: xs)) :
    SE C Cl X b (.blt bt es) (.Call (.Name id p1) (y :: xs) [] pos) := fun ρ h Q σ cs F H R S V w p => by
  simp only [WpE] at w
  subst h0
  rw [List.all_cons, Bool.and_eq_true] at hx
  have hm := O.blt _ (bName_mem bt)
  obtain ⟨n1, n2, n3⟩ := plainName_ok (bName_plain bt)
  have hv := bName_boot bt
  have key : WA X (y :: xs) σ H fun vs H1 => CallW X (bVal bt) vs H1 R := by
    refine ha _ _ _ _ _ _ _ _ S V w fun vs ds cs1 F1 H1 h1 x1 S1 rs q1 => ?_
    exact bltK_ok O.calm O.gd (by have := O.units; omega) S1 rs q1 ((p.lift x1).post)
  have hg : Gl X (bName bt) := glB_ok h1
  revert hm hv key hg n1 n3
  generalize bName bt = nm
  generalize hbv : bVal bt = bv
  intro hm n1 n3 hv key hg
  cases bt <;> cases hbv <;> first
    | exact we_of (pe_callB callw_ok hg hm hv pa_we n3 n1 (star_cons hx.1 _ _) (star_all hx.2 _ _)) key
    | exact we_of (pe_callTy callw_ok hg hm hv pa_we n3 n1 (star_cons hx.1 _ _) (star_all hx.2 _ _)) key
end
end VL

set_option maxRecDepth 100000
set_option maxHeartbeats 2000000
/-! VL: isinstance, join, new lists, what is walked, comprehensions. -/
namespace VL
open PySem L2 Evl PyProof.Rows PySem.Spec

section
variable {C : Ctx} {T : Tab} {Cl : Nat → Addr} {X : Cx} {b : Bool} {K : PySem.W.Frag} {cs cs' cs'' : List Addr} {F F' F'' H H' H'' : Hp} {h : AHeap}
theorem tyx_l {a : Addr} {vs : List V} (q : SqL K H a vs) : TyX K H (.ref a) (.type "list") := by
  rcases q with (q | ⟨o, q⟩) | ⟨o, its, n, h1, h2, _⟩
  · exact .base (.lst q)
  · exact .base (.frz q)
  · exact .kList h1 h2
theorem tyx_t {a : Addr} {vs : List V} (q : SqT K H a vs) : TyX K H (.ref a) (.type "tuple") := by
  rcases q with (q | ⟨o, q⟩) | ⟨o, its, n, h1, h2, _⟩
  · exact .base (.tup q)
  · exact .fTuple q
  · exact .kTuple h1 h2
def tyNames : List String := ["int", "bool", "str", "list", "tuple"]
theorem ty_boot {t : String} (h : tyNames.contains t = true) : bootBuiltins (Str.ofString t) = some (.type t) ∧ Str.ofString t ∈ bltNames ∧ plainName (Str.ofString t) = true := by
  have h' : t ∈ tyNames := by simpa using h
  simp only [tyNames, List.mem_cons, List.not_mem_nil, or_false] at h'
  rcases h' with rfl | rfl | rfl | rfl | rfl <;> exact ⟨by decide +kernel, by decide +kernel, by decide +kernel⟩
theorem isiK_ok (S : StOk X.K Cl cs F H h) {x : V} {d : AV} (rx : RepB X.K cs F H b x d) {t : String} {Q : KA} {R : VK} (q : isiK d t h Q) (p : PostV X.K Cl cs F H h Q R) : rIsi X.K [x, .ty t] H R := by
  have fin : ∀ {tx : String} {k : Bool}, TyX X.K H x (.type tx) → kitB tx t = some k → Q (.bl k) → rIsi X.K [x, .ty t] H R := fun {tx k} h1 h2 q => ⟨x, .ty t, .type tx, .type t, k, rfl, .ty t, h1, kit_ty h2, p.bl S q⟩
  unfold isiK at q
  split at q
  · cases rx.non
    obtain ⟨e, q⟩ := q
    rcases e with rfl | rfl | rfl | rfl | rfl <;> exact fin (.base .non) (by decide +kernel) q
  · cases rx.bl
    rcases q with ⟨rfl, q⟩ | ⟨rfl, q⟩ | ⟨rfl | rfl | rfl, q⟩ <;> exact fin (.base (.bl _)) (by decide +kernel) q
  · cases rx.int
    rcases q with ⟨rfl, q⟩ | ⟨rfl | rfl | rfl | rfl, q⟩ <;> exact fin (.base (.int _)) (by decide +kernel) q
  · cases rx.str
    rcases q with ⟨rfl, q⟩ | ⟨rfl | rfl | rfl | rfl, q⟩ <;> exact fin (.base (.str _)) (by decide +kernel) q
  · rename_i xs
    have hx : ∃ a vs, x = .ref a ∧ SqT X.K H a vs := by
      rcases rx with r | ⟨_, _, _, _, _, ⟨_, _, e, _⟩ | ⟨_, _, e, _⟩⟩
      · cases r with
        | tup h1 r1 => exact ⟨_, _, rfl, ex_t S.sub h1⟩
      · cases e
      · cases e
    obtain ⟨a, vs, rfl, hq⟩ := hx
    rcases q with ⟨rfl, q⟩ | ⟨rfl | rfl | rfl | rfl, q⟩ <;> exact fin (tyx_t hq) (by decide +kernel) q
  · exact q.elim
  · split at q
    · rename_i xs hv
      obtain ⟨a, vs, rfl, hq, _⟩ := rx.view S hv
      rcases q with ⟨rfl, q⟩ | ⟨rfl | rfl | rfl | rfl, q⟩ <;> exact fin (tyx_l hq) (by decide +kernel) q
    · exact q.elim
theorem s_isi {a : E} {t : String} {id id2 : Str} {p1 p2 pos : Pos} {y : Expr} (O : XOk C T Cl X) (h0 : id = "isinstance") (h1 : glB X.env.scope id = true) (h2 : id2 = Str.ofString t) (h3 : glB X.env.scope id2 = true) (ht : tyNames.contains t = true) (hy : notStar y = true)
    (ha : SE C Cl X true a y) : SE C Cl X b (.isi a t) (.Call (.Name id p1) [y, .Name id2 p2] [] pos) := fun ρ h Q σ cs F H R S V w p => by
  simp only [WpE] at w
  subst h0 h2
  obtain ⟨e1, e2, e3⟩ := ty_boot ht
  obtain ⟨n1, n2, n3⟩ := plainName_ok e3
  have pt : PE X (.Name (Str.ofString t) p2) (tC (.ty t)) := pe_bltn (glB_ok h3) (O.blt _ e2) e1 rfl n3 n1
  refine we_of (pe_callB call_isi (glB_ok h1) (O.blt _ (by decide +kernel)) (by decide +kernel) (pa_cons pe_we (pa_cons pt pa_nil) (star_cons hy _ _)) (by decide +kernel) (by decide +kernel) (star_cons hy _ _)) ?_
  refine ha _ _ _ _ _ _ _ _ S V w fun v1 d1 cs1 F1 H1 h1 x1 S1 r1 q1 => ?_
  exact isiK_ok S1 r1 q1 ((p.lift x1).post)
theorem s_smt {m : Sm} {o a : E} {nm : Str} {y z : Expr} {apos cpos : Pos} (hm : (match m with | .join => decide (nm = "join")) = true) (ho : SE C Cl X false o y) (ha : SE C Cl X true a z) (hz : notStar z = true) (hy : notSup y = true) (hl : (apos.endLine == cpos.line) = true) :
    SE C Cl X b (.smt m o a) (.Call (.Attribute y nm apos) [z] [] cpos) := fun ρ h Q σ cs F H R S V w p => by
  simp only [WpE] at w
  cases m with
  | join =>
    have hm : nm = "join" := of_decide_eq_true hm
    subst hm
    refine we_of (pe_join pe_we pe_we (star_cons hz _ _) (base_of hy _ _) hl) ?_
    refine ho _ _ _ _ _ _ _ _ S V w fun v1 d1 cs1 F1 H1 h1 x1 S1 r1 q1 => ?_
    split at q1
    · cases r1.str
      refine ⟨⟨_, rfl⟩, ha _ _ _ _ _ _ _ _ S1 (V.step x1) q1 fun v2 d2 cs2 F2 H2 h2 x2 S2 r2 q2 => ?_⟩
      unfold smtK at q2
      simp only at q2
      split at q2
      · rename_i ys hv
        obtain ⟨xs, hv, hn⟩ := Option.bind_eq_some_iff.mp hv
        obtain ⟨a, vs, rfl, hq, r⟩ := r2.viewT S2 hv
        rw [r.strs hn] at hq
        exact ⟨_, a, ys, rfl, rfl, hq, q2.1, (p.lift (x1.trans x2)).post.str S2 q2.2⟩
      · exact q2.elim
    · exact q1.elim

/-! ### objects of own classes -/
theorem Rep.adr_inv {K : PySem.W.Frag} {cs : List Addr} {F : Hp} {v : V} {n : Nat} (r : Rep K cs F v (.adr n)) : ∃ a, v = .ref a ∧ cs[n]? = some a := by
  cases r with
  | adr e => exact ⟨_, rfl, e⟩
theorem obj_at (S : StOk K Cl cs F H h) {n c : Nat} {a : Addr} {fs : List (Str × AV)} (e : cs[n]? = some a) (hc : cells h n = .obj c fs) : ∃ dx fvs, H a = some (.ins (Cl c) dx fvs) ∧ RepF K cs F fvs fs := by
  have := S.cell n a e
  rw [hc] at this
  exact this
theorem s_attr {a : E} {f : Str} {y : Expr} {pos : Pos} (O : XOk C T Cl X) (ha : SE C Cl X false a y) (hy : notSup y = true) : SE C Cl X b (.attr a f) (.Attribute y f pos) := fun ρ h Q σ cs F H R S V w p => by
  simp only [WpE] at w
  refine we_of (pe_fld pe_we (base_of hy _ _)) (ha _ _ _ _ _ _ _ _ S V w fun v1 d1 cs1 F1 H1 h1 x1 S1 r1 q1 => ?_)
  split at q1
  · rename_i n
    split at q1
    · rename_i c fs hc
      obtain ⟨hf, q1⟩ := q1
      split at q1
      · rename_i d hd
        obtain ⟨a, rfl, e⟩ := Rep.adr_inv r1.plain
        obtain ⟨dx, fvs, e2, r⟩ := obj_at S1 e hc
        obtain ⟨v, hv, rv⟩ := r.get hd
        exact ⟨a, Cl c, dx, fvs, v, rfl, e2, (O.fld c f hf).1, (O.fld c f hf).2, hv, p _ _ _ _ _ _ x1 S1 (.inl rv) q1⟩
      · exact q1.elim
    · exact q1.elim
  · exact q1.elim
theorem few_form {xs : List Expr} (hx : xs.all notStar = true) (hn : xs.length < 30) (pos : Pos) (env : PySem.Env) : methodCallForm xs.length (backTo pos (starEach xs env)) [] = true := by
  have := star_all hx pos env
  unfold methodCallForm
  rw [List.any_eq_false] at this
  have e : (backTo pos (starEach xs env)).all (fun x => !x.1) = true := by
    rw [List.all_eq_true]
    intro x hx
    have := this x hx
    simpa using this
  simp [e, hn]
theorem s_mcall {o : E} {m : Str} {es : Es} {y : Expr} {apos cpos : Pos} {xs : List Expr} (O : XOk C T Cl X) (ho : SE C Cl X false o y) (hy : notSup y = true) (hl : (apos.endLine == cpos.line) = true) (hx : xs.all notStar = true) (hn : xs.length < 30) (hnil : xs = [] → es = .nil) (ha : SA C Cl X es xs) :
    SE C Cl X b (.mcall o m es) (.Call (.Attribute y m apos) xs [] cpos) := fun ρ h Q σ cs F H R S V w p => by
  simp only [WpE] at w
  have key : ∀ v1 d1 cs1 F1 H1 h1, Stp cs F H cs1 F1 H1 → StOk X.K Cl cs1 F1 H1 h1 → RepB X.K cs1 F1 H1 false v1 d1 → (match d1 with
      | .adr n => match cells h1 n with
        | .obj c fs => match fs.lookup m with
          | some _ => False
          | none => match C.meth c m with
            | some f => WpEs C es ρ h1 fun xs h2 => C.call f (d1 :: xs) h2 Q
            | none => False
        | _ => False
      | _ => False) → ∃ a CC dx fs sp, v1 = .ref a ∧ H1 a = some (.ins CC dx fs) ∧ fs.lookup m = none ∧ MethAt X CC m sp ∧ WA X xs σ H1 fun vs H2 => sp (v1 :: vs) H2 R E0 := by
    intro v1 d1 cs1 F1 H1 h1 x1 S1 r1 q1
    split at q1
    · rename_i n
      split at q1
      · rename_i c fs hc
        split at q1
        · exact q1.elim
        · rename_i hlk
          split at q1
          · rename_i f hf
            obtain ⟨a, rfl, e⟩ := Rep.adr_inv r1.plain
            obtain ⟨dx, fvs, e2, r⟩ := obj_at S1 e hc
            obtain ⟨k, g, fd, ps, G, room, hc1, hm, hb⟩ := O.mth c m f hf
            refine ⟨a, Cl c, dx, fvs, spOf X.K Cl C f, rfl, e2, r.none hlk, ⟨k, g, fd, ps, hc1, hm, G, room, hb⟩, ?_⟩
            refine ha _ _ _ _ _ _ _ _ S1 (V.step x1) q1 fun vs ds cs2 F2 H2 h2 x2 S2 rs q2 => ?_
            exact ⟨cs2, F2, h2, .adr n :: ds, Q, S2, .cons (r1.plain.mono x2.f x2.c) rs.plain, q2, fun v d cs' F' H' h' y S' r q => p _ _ _ _ _ _ ((x1.trans x2).trans y) S' (.inl r) q⟩
          · exact q1.elim
      · exact q1.elim
    · exact q1.elim
  cases xs with
  | nil =>
    have := hnil rfl
    subst this
    refine we_of (pe_methG0 pe_we (base_of hy _ _) hl O.gd) (ho _ _ _ _ _ _ _ _ S V w fun v1 d1 cs1 F1 H1 h1 x1 S1 r1 q1 => ?_)
    obtain ⟨a, CC, dx, fs, sp, e1, e2, e3, e4, _⟩ := key v1 d1 cs1 F1 H1 h1 x1 S1 r1 q1
    subst e1
    split at q1
    · rename_i n
      split at q1
      · rename_i c fs' hc
        split at q1
        · exact q1.elim
        · rename_i hlk
          split at q1
          · rename_i f hf
            obtain ⟨a', ea, e⟩ := Rep.adr_inv r1.plain
            cases ea
            obtain ⟨dx', fvs, e2', r⟩ := obj_at S1 e hc
            obtain ⟨k, g, fd, ps, G, room, hc1, hm, hb⟩ := O.mth c m f hf
            simp only [WpEs] at q1
            exact ⟨a, Cl c, dx', fvs, spOf X.K Cl C f, rfl, e2', r.none hlk, ⟨k, g, fd, ps, hc1, hm, G, room, hb⟩, cs1, F1, h1, [.adr n], Q, S1, .cons r1.plain .nil, q1, fun v d cs' F' H' h' y S' r q => p _ _ _ _ _ _ (x1.trans y) S' (.inl r) q⟩
          · exact q1.elim
      · exact q1.elim
    · exact q1.elim
  | cons x xs =>
    have hx2 := hx
    rw [List.all_cons, Bool.and_eq_true] at hx2
    refine we_of (pe_methG pe_we (base_of hy _ _) hl (few_form hx hn _ _) O.gd pa_we (star_cons hx2.1 _ _) (star_all hx2.2 _ _)) (ho _ _ _ _ _ _ _ _ S V w fun v1 d1 cs1 F1 H1 h1 x1 S1 r1 q1 => ?_)
    exact key v1 d1 cs1 F1 H1 h1 x1 S1 r1 q1
theorem s_make {c : Nat} {es : Es} {id : Str} {p1 pos : Pos} {x : Expr} {xs : List Expr} (O : XOk C T Cl X) (h0 : T.cname c = some id) (h1 : glB X.env.scope id = true) (h2 : plainName id = true) (hx : (x :: xs).all notStar = true) (ha : SA C Cl X es (x :: xs)) :
    SE C Cl X b (.make c es) (.Call (.Name id p1) (x :: xs) [] pos) := fun ρ h Q σ cs F H R S V w p => by
  simp only [WpE] at w
  obtain ⟨f, k, g, fd, ps, hi, G, room, hm, M, hb⟩ := O.cls c id h0
  rw [List.all_cons, Bool.and_eq_true] at hx
  refine we_of (G.make M O.gd room (glB_ok h1) hm hb pa_we (plainName_ok h2).1 (star_cons hx.1 _ _) (star_all hx.2 _ _)) (ha _ _ _ _ _ _ _ _ S V w fun vs ds cs1 F1 H1 h1' x1 S1 rs q1 => ?_)
  rw [hi] at q1
  intro a dx na nd ne
  have ne2 : a ≠ dx := fun z => ne z.symm
  have hF : F1 a = none := by
    cases q : F1 a with
    | none => rfl
    | some u => rw [S1.sub _ _ q] at na; cases na
  have hc : a ∉ cs1 := fun z => by
    obtain ⟨n, hn⟩ := List.mem_iff_getElem?.mp z
    exact (S1.cell n a hn).some na
  have na2 : upd H1 dx (.own a) a = none := by rw [upd_ne ne2]; exact na
  have S2 := (S1.newN (o := .own a) nd).newN (o := .ins (Cl c) dx []) na2
  have y1 : Stp cs1 F1 H1 cs1 F1 (upd (upd H1 dx (.own a)) a (.ins (Cl c) dx [])) := (Stp.newN nd).trans (Stp.newN na2)
  have S3 := S2.cellNew (c := .obj c []) hF hc ⟨dx, [], upd_same, .nil⟩
  have y2 : Stp cs1 F1 H1 (cs1 ++ [a]) F1 (upd (upd H1 dx (.own a)) a (.ins (Cl c) dx [])) := by
    refine ⟨y1.f, ⟨[a], rfl⟩, y1.k, y1.d, y1.n, fun b q1 q2 => ?_⟩
    rw [List.mem_append] at q1
    rcases q1 with q1 | q1
    · exact absurd q1 q2
    · simp at q1; subst q1; exact na
  have ga : (cs1 ++ [a])[h1'.length]? = some a := by
    rw [← S1.len]
    simp
  refine ⟨cs1 ++ [a], F1, h1' ++ [.obj c []], .adr h1'.length :: ds, _, S3, .cons (.adr ga) (rs.plain.mono y2.f y2.c), q1, fun v d cs' F' H' h' y S' r q => ?_⟩
  split at q
  · cases r
    refine ⟨rfl, p _ _ _ _ _ _ ((x1.trans y2).trans y) S' (.inl (.adr ?_)) q⟩
    obtain ⟨r, e⟩ := y.c
    exact get_pre e ga
  · exact q.elim

/-! ### new lists -/
theorem NOk.made {Q : Cell → AHeap → Prop} {R : VK} (p : NOk K Cl cs F H Q R) (S : StOk K Cl cs F H h) {a : Addr} {o : HO} {c : Cell} (ha : H a = none) (r : COk K Cl cs F (upd H a o) a c) (q : Q c h) : R (.ref a) (upd H a o) := by
  have hF : F a = none := by
    cases w : F a with
    | none => rfl
    | some u => rw [S.sub _ _ w] at ha; cases ha
  have hc : a ∉ cs := fun z => by
    obtain ⟨n, hn⟩ := List.mem_iff_getElem?.mp z
    exact (S.cell n a hn).some ha
  exact p a c cs F _ h (.newN ha) (S.newN ha) ha hF hc r q
theorem n_lst {es : Es} {xs : List Expr} {pos : Pos} (ha : SA C Cl X es xs) : SN C Cl X (.lst es) (.List xs pos) := fun ρ h Q σ cs F H R S V w p => by
  simp only [WpN] at w
  refine we_of (pe_lst pa_we) (ha _ _ _ _ _ _ _ _ S V w fun vs ds cs1 F1 H1 h1 x1 S1 rs q1 => ?_)
  have rs := rs.plain
  exact ⟨by rw [rs.length]; exact q1.1, fun a ha => (p.lift x1).made S1 ha (show COk X.K Cl cs1 F1 _ a (.lst ds) from ⟨vs, upd_same, rs⟩) q1.2⟩
theorem n_slice {a : E} {lo hi : Oe} {l : Expr} {u v : Option Expr} {p2 pos : Pos} (ha : SE C Cl X true a l) (hl : SO C Cl X lo u) (hh : SO C Cl X hi v) : SN C Cl X (.slice a lo hi) (.Subscript l (.Slice u v none p2) pos) := fun ρ h Q σ cs F H R S V w p => by
  simp only [WpN] at w
  refine we_of (pe_slice sl_list pe_we po_we po_we) (ha _ _ _ _ _ _ _ _ S V w fun v1 d1 cs1 F1 H1 h1 x1 S1 r1 q1 => ?_)
  refine hl _ _ _ _ _ _ _ _ S1 (V.step x1) q1 fun k2 cs2 F2 H2 h2 x2 S2 q2 => ?_
  refine hh _ _ _ _ _ _ _ _ S2 ((V.step x1).step x2) q2 fun k3 cs3 F3 H3 h3 x3 S3 q3 => ?_
  split at q3
  · rename_i xs hv
    obtain ⟨a, vs, rfl, hq, r⟩ := ((r1.step x2).step x3).view S3 hv
    exact ⟨a, vs, rfl, hq, fun a ha => (p.lift ((x1.trans x2).trans x3)).made S3 ha (show COk X.K Cl cs3 F3 _ a (.lst (cut xs k2 k3)) from ⟨_, upd_same, r.cut k2 k3⟩) q3⟩
  · exact q3.elim
theorem n_list {a : E} {id : Str} {p1 pos : Pos} {y : Expr} (O : XOk C T Cl X) (h0 : id = "list") (h1 : glB X.env.scope id = true) (hy : notStar y = true) (ha : SE C Cl X true a y) : SN C Cl X (.listOf a) (.Call (.Name id p1) [y] [] pos) := fun ρ h Q σ cs F H R S V w p => by
  simp only [WpN] at w
  subst h0
  refine we_of (pe_callTy call_list_of (glB_ok h1) (O.blt _ (by decide +kernel)) (by decide +kernel) (pa_cons pe_we pa_nil (star_cons hy _ _)) (by decide +kernel) (by decide +kernel) (star_cons hy _ _)) ?_
  refine ha _ _ _ _ _ _ _ _ S V w fun v1 d1 cs1 F1 H1 h1 x1 S1 r1 q1 => ?_
  split at q1
  · rename_i xs hv
    obtain ⟨a, vs, rfl, hq, r⟩ := r1.viewT S1 hv
    exact ⟨a, vs, rfl, hq, fun a ha => (p.lift x1).made S1 ha (show COk X.K Cl cs1 F1 _ a (.lst xs) from ⟨_, upd_same, r⟩) q1⟩
  · exact q1.elim
theorem n_cat {a c : E} {l r : Expr} {pos : Pos} (ha : SE C Cl X true a l) (hc : SE C Cl X true c r) : SN C Cl X (.cat a c) (.BinOp l .Add r pos) := fun ρ h Q σ cs F H R S V w p => by
  simp only [WpN] at w
  refine we_of (pe_op op_cat pe_we pe_we) (ha _ _ _ _ _ _ _ _ S V w fun v1 d1 cs1 F1 H1 h1 x1 S1 r1 q1 => ?_)
  refine hc _ _ _ _ _ _ _ _ S1 (V.step x1) q1 fun v2 d2 cs2 F2 H2 h2 x2 S2 r2 q2 => ?_
  split at q2
  · rename_i xs ys hx hy
    obtain ⟨a1, vs, rfl, e1, t1⟩ := (r1.step x2).viewW S2 hx
    obtain ⟨a2, ws, rfl, e2, t2⟩ := r2.viewW S2 hy
    exact ⟨a1, a2, vs, ws, rfl, rfl, e1, e2, by rw [t1.length, t2.length]; exact q2.1, fun a ha => (p.lift (x1.trans x2)).made S2 ha (show COk X.K Cl cs2 F2 _ a (.lst (xs ++ ys)) from ⟨_, upd_same, t1.append t2⟩) q2.2⟩
  · exact q2.elim

theorem Stp.chgNew {p : Addr} {o : HO} (x : Stp cs F H cs' F' H') (hp : H p = none) : Stp cs F H cs' F' (upd H' p o) := by
  refine ⟨x.f, x.c, fun b u q n => ?_, fun b q => ?_, x.n, x.m⟩
  · rw [upd_ne fun z => by subst z; rw [hp] at q; cases q]
    exact x.k b u q n
  · by_cases hb : b = p
    · subst hb; rw [upd_same]; simp
    · rw [upd_ne hb]; exact x.d b q
theorem keyOf_rep {d : AV} {v : V} {k : Key} (e : keyOf d = some k) (r : RepB K cs F H false v d) : v = kV k := by
  have r := r.plain
  cases d <;> simp only [keyOf] at e <;> cases e <;> cases r <;> rfl
theorem n_dct1 {k v : E} {x y : Expr} {pos : Pos} (hk : SE C Cl X false k x) (hv : SE C Cl X false v y) : SN C Cl X (.dct1 k v) (.Dict [some x] [y] pos) := fun ρ h Q σ cs F H R S V w p => by
  simp only [WpN] at w
  refine we_of (pe_disp (pps_cons pe_we pe_we pps_nil) rfl rfl (by simp) (by simp)) ?_
  intro a na
  have S1 := S.newN (o := .dK []) na
  have x0 : Stp cs F H cs F (upd H a (.dK [])) := Stp.newN na
  refine hk _ _ _ _ _ _ _ _ S1 (V.step x0) w fun v1 d1 cs1 F1 H1 h1 x1 S2 r1 q1 => ?_
  refine hv _ _ _ _ _ _ _ _ S2 ((V.step x0).step x1) q1 fun v2 d2 cs2 F2 H2 h2 x2 S3 r2 q2 => ?_
  split at q2
  · rename_i key e
    have x12 := x1.trans x2
    have here : upd H a (.dK []) a = some (.dK []) := upd_same
    have hc : a ∉ cs := fun z => by
      obtain ⟨n, hn⟩ := List.mem_iff_getElem?.mp z
      exact (S.cell n a hn).some na
    have hF : F a = none := by
      cases q : F a with
      | none => rfl
      | some u => rw [S.sub _ _ q] at na; cases na
    have e2 : H2 a = some (.dK []) := x12.k a _ here hc
    have hF2 : F2 a = none := by
      cases q : F2 a with
      | none => rfl
      | some u =>
        have := x12.n a hF (by rw [q]; simp)
        rw [here] at this; cases this
    have hn2 : a ∉ cs2 := fun z => by
      have := x12.m a z hc
      rw [here] at this; cases this
    refine ⟨e2, [(key, v2)], ?_, by simp, ?_⟩
    · rw [keyOf_rep e r1]; rfl
    · exact p a (.dct [(key, d2)]) cs2 F2 _ h2 ((x0.trans x12).chgNew na) (S3.chgN hF2 hn2) na hF2 hn2 ⟨_, upd_same, .cons r2.plain .nil⟩ q2
  · exact q2.elim
theorem n_rev {a : E} {l : Expr} {k : Nat} {p1 p2 p3 pos : Pos} (ha : SE C Cl X true a l) : SN C Cl X (.rev a) (.Subscript l (.Slice none none (some (.UnaryOp .USub (.Constant (.int 1) k p1) p2)) p3) pos) := fun ρ h Q σ cs F H R S V w p => by
  simp only [WpN] at w
  refine we_of (pe_revL pe_we) (ha _ _ _ _ _ _ _ _ S V w fun v1 d1 cs1 F1 H1 h1 x1 S1 r1 q1 => ?_)
  split at q1
  · rename_i xs hv
    obtain ⟨a, vs, rfl, hq, r⟩ := r1.view S1 hv
    exact ⟨a, vs, rfl, hq, fun a ha => (p.lift x1).made S1 ha (show COk X.K Cl cs1 F1 _ a (.lst xs.reverse) from ⟨_, upd_same, r.rev⟩) q1⟩
  · exact q1.elim

/-! ### what is walked -/
/-- from where the walk began: st, also through what the frame owns -/
def Rl (st : Bool) (cs : List Addr) (F H : Hp) (cs' : List Addr) (F' H' : Hp) : Prop := match st with
  | true => Stp cs F H cs' F' H'
  | false => Ex F F' ∧ ∃ r, cs' = cs ++ r
theorem Rl.of {st : Bool} (x : Stp cs F H cs' F' H') : Rl st cs F H cs' F' H' := by
  cases st with
  | true => exact x
  | false => exact ⟨x.f, x.c⟩
def IOk (K : PySem.W.Frag) (Cl : Nat → Addr) (st : Bool) (cs : List Addr) (F H : Hp) (Q : List AV → (AHeap → Prop) → AHeap → Prop) (R : L2.It → Hp → Prop) : Prop :=
  ∀ J items chk G Y cs' F' H' h', Stp cs F H cs' F' H' → StOk K Cl cs' F' H' h' → L2.Walk J items.length G Y →
    (∀ cs2 F2 H2 h2, Rl st cs' F' H' cs2 F2 H2 → StOk K Cl cs2 F2 H2 h2 → chk h2 → G H2) →
    (∀ i H2 v H3 cs2 F2 h2 d, StOk K Cl cs2 F2 H2 h2 → Ex F' F2 → (∃ r, cs2 = cs' ++ r) → items[i]? = some d → chk h2 → Y i H2 v H3 → ∃ F3, Stp cs2 F2 H2 cs2 F3 H3 ∧ StOk K Cl cs2 F3 H3 h2 ∧ Rep K cs2 F3 v d) →
    Q items chk h' → R J H'
def WI (X : Cx) (tg iter : Expr) : TI := fun σ H R => ∀ pins s, Inv X pins σ H s → wpAny (model X.prog X.w) X.A (eval iter X.env) (fun v s1 => wpAny (model X.prog X.w) X.A (pyIter v) (PIE X pins σ tg R) X.xe s1) X.xe s
theorem pi_we {tg iter : Expr} : PI X tg iter (WI X tg iter) := ⟨fun pins s σ H R I h => h pins s I⟩
theorem wi_of {tg iter : Expr} {t : TI} (p : PI X tg iter t) {σ : L2.St} {H : Hp} {R : L2.It → Hp → Prop} (h : t σ H R) : WI X tg iter σ H R := fun pins s I => p.run pins s σ H R I h
def SI (C : Ctx) (Cl : Nat → Addr) (X : Cx) (st : Bool) (tg : Expr) (e : It) (x : Expr) : Prop := ∀ ρ h Q σ cs F H (R : L2.It → Hp → Prop), StOk X.K Cl cs F H h → EnvOk X.K Cl cs F H σ ρ → WpI C e ρ h Q → IOk X.K Cl st cs F H Q R → WI X tg x σ H R
theorem i_rng1 {st : Bool} {tg : Expr} {a : E} {id : Str} {p1 pos : Pos} {y : Expr} (O : XOk C T Cl X) (h0 : id = "range") (h1 : glB X.env.scope id = true) (hy : notStar y = true) (ha : SE C Cl X false a y) : SI C Cl X st tg (.rng1 a) (.Call (.Name id p1) [y] [] pos) := fun ρ h Q σ cs F H R S V w p => by
  simp only [WpI] at w
  subst h0
  refine wi_of (pi_range1 (glB_ok h1) (O.blt _ (by decide +kernel)) (pa_cons pe_we pa_nil (star_cons hy _ _)) (star_cons hy _ _)) ?_
  refine ha _ _ _ _ _ _ _ _ S V w fun v1 d1 cs1 F1 H1 h1 x1 S1 r1 q1 => ?_
  split at q1
  · rename_i n
    cases r1.int
    refine ⟨n, rfl, q1.1.1, q1.1.2, p _ _ _ (fun _ => True) (YFn fun i => .int (0 + i)) _ _ _ _ x1 S1 (by rw [List.length_map, List.length_range]; exact walk_range) (fun _ _ _ _ _ _ _ => trivial) ?_ q1.2⟩
    intro i H2 v H3 cs2 F2 h2 d S e c hd _ ⟨y1, y2⟩
    subst y1 y2
    rw [List.getElem?_map] at hd
    obtain ⟨j, hj, rfl⟩ := Option.map_eq_some_iff.mp hd
    have hj' := (List.getElem?_eq_some_iff.mp hj).2
    simp at hj'
    subst hj'
    refine ⟨F2, .refl, S, ?_⟩
    show Rep X.K cs2 F2 (.int (0 + (i : Int))) (.int (i : Int))
    rw [Int.zero_add]
    exact .int _
  · exact q1.elim
theorem i_rng2 {st : Bool} {tg : Expr} {a c : E} {id : Str} {p1 pos : Pos} {y z : Expr} (O : XOk C T Cl X) (h0 : id = "range") (h1 : glB X.env.scope id = true) (hy : notStar y = true) (hz : notStar z = true) (ha : SE C Cl X false a y) (hc : SE C Cl X false c z) :
    SI C Cl X st tg (.rng2 a c) (.Call (.Name id p1) [y, z] [] pos) := fun ρ h Q σ cs F H R S V w p => by
  simp only [WpI] at w
  subst h0
  refine wi_of (pi_range2 (glB_ok h1) (O.blt _ (by decide +kernel)) (pa_cons pe_we (pa_cons pe_we pa_nil (star_cons hz _ _)) (star_cons hy _ _)) (by rw [star_cons hy, star_cons hz]; rfl) (star_cons hz _ _)) ?_
  refine ha _ _ _ _ _ _ _ _ S V w fun v1 d1 cs1 F1 H1 h1 x1 S1 r1 q1 => ?_
  refine hc _ _ _ _ _ _ _ _ S1 (V.step x1) q1 fun v2 d2 cs2 F2 H2 h2 x2 S2 r2 q2 => ?_
  split at q2
  · rename_i i0 n
    cases r1.int
    cases r2.int
    refine ⟨i0, n, rfl, q2.1, p _ _ _ (fun _ => True) (YFn fun i => .int (i0 + i)) _ _ _ _ (x1.trans x2) S2 (by simpa using walk_range) (fun _ _ _ _ _ _ _ => trivial) ?_ q2.2⟩
    intro i H2 v H3 cs2 F2 h2 d S e c hd _ ⟨y1, y2⟩
    subst y1 y2
    rw [List.getElem?_map] at hd
    obtain ⟨j, hj, rfl⟩ := Option.map_eq_some_iff.mp hd
    have hj' := (List.getElem?_eq_some_iff.mp hj).2
    simp at hj'
    subst hj'
    exact ⟨F2, .refl, S, .int _⟩
  · exact q2.elim
theorem i_chars {st : Bool} {tg : Expr} {a : E} {x : Expr} (ha : SE C Cl X false a x) : SI C Cl X st tg (.chars a) x := fun ρ h Q σ cs F H R S V w p => by
  simp only [WpI] at w
  refine wi_of (pi_str pe_we) (ha _ _ _ _ _ _ _ _ S V w fun v1 d1 cs1 F1 H1 h1 x1 S1 r1 q1 => ?_)
  split at q1
  · rename_i z
    cases r1.str
    refine ⟨z, rfl, p _ _ _ (fun _ => True) _ _ _ _ _ x1 S1 (by simpa using walk_str) (fun _ _ _ _ _ _ _ => trivial) ?_ q1⟩
    intro i H2 v H3 cs2 F2 h2 d S e c hd _ ⟨y1, cc, y2, y3⟩
    subst y1 y3
    rw [List.getElem?_map] at hd
    obtain ⟨j, hj, rfl⟩ := Option.map_eq_some_iff.mp hd
    have : z.cps[i]? = some j := by simpa using hj
    rw [y2] at this
    cases this
    exact ⟨F2, .refl, S, .str _⟩
  · exact q1.elim
theorem WpI_seq_vw {i : Nat} {ρ : Env} {h : AHeap} {Q} (w : WpI C (.seq (.vw i)) ρ h Q) : False := by
  simp only [WpI, WpE] at w
/-- a list or a tuple: which of the two shows where it is walked -/
theorem pi_seq {tg iter : Expr} {te : TE} (he : PE X iter te) : PI X tg iter (fun σ H R => te σ H fun x H1 => ∃ a, x = .ref a ∧ (((∃ xs, SqL X.K H1 a xs) ∧ R (Itl X.K a) H1) ∨ ((∃ xs, SqT X.K H1 a xs) ∧ R (Itt X.K a) H1))) := by
  refine ⟨fun pins s σ H R I h => ?_⟩
  refine thn (he.run pins s σ H _ I h) fun v s1 ⟨x, H1, I1, r1, a, e, q⟩ => ?_
  subst e
  rcases q with ⟨⟨xs, hq⟩, q⟩ | ⟨⟨xs, hq⟩, q⟩
  · obtain ⟨its, rv, pl, hz⟩ := I1.list hq
    cases r1
    have fresh : H1 s1.heap.objs.size = none := I1.hok.fresh (Nat.le_refl _)
    refine wpAny_pyIter_list pl.isList ⟨s1.heap.objs.size, [s1.heap.objs.size], _, Itl X.K a, H1, rfl, ?_, turn_list a _, ?_, ?_, q⟩
    · exact I1.kept (t' := s1.toks) fun _ _ z => Heap.get?_push_of_some _ z
    · exact ⟨_, Heap.get?_push_size _ rfl, rfl, rfl⟩
    · intro c hc
      obtain rfl : c = s1.heap.objs.size := by simpa using hc
      exact I1.fpOk (Nat.le_refl _) fresh
  · obtain ⟨its, rv, pl, hz⟩ := I1.tuple hq
    cases r1
    have fresh : H1 s1.heap.objs.size = none := I1.hok.fresh (Nat.le_refl _)
    refine wpAny_pyIter_tuple (show s1.heap.IsTuple a its.toArray from pl) ⟨s1.heap.objs.size, [s1.heap.objs.size], _, Itt X.K a, H1, rfl, ?_, turn_tuple a _, ?_, ?_, q⟩
    · exact I1.kept (t' := s1.toks) fun _ _ z => Heap.get?_push_of_some _ z
    · exact ⟨_, Heap.get?_push_size _ rfl, rfl, rfl⟩
    · intro c hc
      obtain rfl : c = s1.heap.objs.size := by simpa using hc
      exact I1.fpOk (Nat.le_refl _) fresh
theorem i_seq {st : Bool} {tg : Expr} {a : E} {x : Expr} (ha : SE C Cl X false a x) : SI C Cl X st tg (.seq a) x := fun ρ h Q σ cs F H R S V w p => by
  simp only [WpI] at w
  refine wi_of (pi_seq pe_we) (ha _ _ _ _ _ _ _ _ S V w fun v1 d1 cs1 F1 H1 h1 x1 S1 r1 q1 => ?_)
  split at q1
  · rename_i items hv
    have r1' := r1.plain
    rcases viewT_eq hv with e | hv'
    · subst e
      cases r1' with
      | tup g1 g2 =>
        rename_i a vs
        refine ⟨a, rfl, .inr ⟨⟨vs, ex_t S1.sub g1⟩, p _ items _ (fun H => SqT X.K H a vs) (YAt vs) _ _ _ _ x1 S1 (by rw [← g2.length]; exact walk_tup) (fun cs2 F2 H2 h2 rl S2 _ => ?_) ?_ q1⟩⟩
        · have mo : Ex F1 F2 := by
            cases st with
            | true => exact Stp.f rl
            | false => exact rl.1
          exact ex_t S2.sub (ex_t mo g1)
        · intro i H2 v H3 cs2 F2 h2 d S e c hd _ ⟨y1, y2⟩
          subst y1
          obtain ⟨v', e1, r2⟩ := g2.get hd
          rw [y2] at e1
          cases e1
          exact ⟨F2, .refl, S, r2.mono e c⟩
    · obtain ⟨a, vs, e, hq, r⟩ := r1.view S1 hv'
      have stay : ∀ cs2 F2 H2 h2, Ex F1 F2 → (∃ r, cs2 = cs1 ++ r) → StOk X.K Cl cs2 F2 H2 h2 → viewT h2 d1 = some items → ∃ vs2, SqL X.K H2 a vs2 ∧ Reps X.K cs2 F2 vs2 items := by
        intro cs2 F2 H2 h2 m1 m2 S2 hv2
        have r2 : RepB X.K cs2 F2 H2 false v1 d1 := .inl (r1'.mono m1 m2)
        have hv3 : view h2 d1 = some items := by
          rcases viewT_eq hv2 with z | z
          · subst z
            simp [VL.view] at hv'
          · exact z
        obtain ⟨a2, vs2, e2, hq2, rr⟩ := r2.view S2 hv3
        rw [e] at e2
        cases e2
        exact ⟨vs2, hq2, rr⟩
      refine ⟨a, e, .inl ⟨⟨vs, hq⟩, p (Itl X.K a) items _ (fun H => ∃ vs2, SqL X.K H a vs2 ∧ vs2.length = items.length) (fun i H v H' => H' = H ∧ ∀ vs2, SqL X.K H a vs2 → vs2[i]? = some v) _ _ _ _ x1 S1 ?_ (fun cs2 F2 H2 h2 rl S2 hc => ?_) ?_ q1⟩⟩
      · refine ⟨fun i H hi ⟨vs2, g1, g2⟩ => ⟨vs2, vs2[i], g1, by simp [hi, g2]⟩, fun H ⟨vs2, g1, g2⟩ => ⟨vs2, g1, Nat.le_of_eq g2⟩, fun i H v H' hi _ y => y⟩
      · have mo : Ex F1 F2 ∧ ∃ r, cs2 = cs1 ++ r := by
          cases st with
          | true => exact ⟨Stp.f rl, Stp.c rl⟩
          | false => exact rl
        obtain ⟨vs2, g1, g2⟩ := stay cs2 F2 H2 h2 mo.1 mo.2 S2 hc
        exact ⟨vs2, g1, g2.length⟩
      · intro i H2 v H3 cs2 F2 h2 d S2 e c hd hc ⟨y1, y2⟩
        subst y1
        obtain ⟨vs2, g1, g2⟩ := stay cs2 F2 H3 h2 e c S2 hc
        obtain ⟨v', e1, r2⟩ := g2.get hd
        rw [y2 vs2 g1] at e1
        cases e1
        exact ⟨F2, .refl, S2, r2⟩
  · exact q1.elim
theorem i_own {tg : Expr} {i : Nat} {x : Expr} (hag : agVar X.env.scope X.N i x = true) : SI C Cl X true tg (.own i) x := fun ρ h Q σ cs F H R S V w p => by
  unfold agVar at hag
  split at hag
  · rename_i id pos
    simp only [Bool.and_eq_true, decide_eq_true_eq] at hag
    obtain ⟨⟨h1, h2⟩, h3⟩ := hag
    obtain ⟨n1, n2, _⟩ := plainName_ok h3
    simp only [WpI] at w
    split at w
    · rename_i items hd
      obtain ⟨a, e1, e2, e3, vs, e4, r⟩ := V.own i _ hd
      refine wi_of (pi_list (pe_var h1 (visB_ok h2) n1 n2)) ⟨_, e1, a, rfl, ⟨vs, sq_of e4⟩, p _ items _ (fun H => SqL X.K H a vs) (YAt vs) _ _ _ _ .refl S (by rw [← r.length]; exact walk_list) (fun cs2 F2 H2 h2 rl S2 _ => ?_) ?_ w⟩
      · exact sq_of (Stp.k rl _ _ e4 e2)
      · intro j H2 v H3 cs2 F2 h2 d S2 e c hd _ ⟨y1, y2⟩
        subst y1
        obtain ⟨v', g1, r2⟩ := r.get hd
        rw [y2] at g1
        cases g1
        exact ⟨F2, .refl, S2, r2.mono e c⟩
    · exact w.elim
  · cases hag

/-! ### targets -/
def gNames : List Nat → TGs
  | [] => gNil
  | i :: is => gCons (gName i) (gNames is)
def gOf (K : PySem.W.Frag) : Tg → TG
  | .nm i => gName i
  | .tup is => gTup K is.length (gNames is)
/-- a name that may be stored to in this context -/
def Sto (sc0 : Scope) (X : Cx) : Prop := ∀ id, tgN sc0 X.env.scope id = true → Loc X.env.scope id ∧ (X.fn id = true ∨ X.env.scope.names.lookup id = some .local)
theorem pgs_names {sc0 : Scope} (nd : X.N.Nodup) (st : Sto sc0 X) : ∀ {is : List Nat} {es : List Expr}, agNames sc0 X.env.scope X.N is es = true → PGs X es (gNames is) ∧ (assignEach es X.env).length = is.length ∧ (assignEach es X.env).findIdx? (·.1) = none
  | [], [], _ => ⟨pgs_nil, rfl, rfl⟩
  | [], _ :: _, h => by simp [agNames] at h
  | i :: is, [], h => by simp [agNames] at h
  | i :: is, e :: es, h => by
    cases e <;> simp [agNames] at h
    rename_i id pos
    obtain ⟨⟨h1, h2⟩, h3⟩ := h
    obtain ⟨g1, g2, g3⟩ := pgs_names nd st h3
    obtain ⟨s1, s2⟩ := st id h2
    refine ⟨pgs_cons (pg_name nd h1 s1 s2) g1 rfl, ?_, ?_⟩
    · show (assignEach es X.env).length + 1 = is.length + 1
      rw [g2]
    · show ((false, assign (.Name id pos) X.env) :: assignEach es X.env).findIdx? (·.1) = none
      rw [List.findIdx?_cons, g3] <;> rfl
theorem pg_ok {sc0 : Scope} (nd : X.N.Nodup) (calm : X.calm = true) (st : Sto sc0 X) {tg : Tg} {x : Expr} (h : agTg sc0 X.env.scope X.N tg x = true) : PG X x (gOf X.K tg) := by
  cases tg with
  | nm i =>
    cases x <;> simp [agTg] at h
    obtain ⟨s1, s2⟩ := st _ h.2
    exact pg_name nd h.1 s1 s2
  | tup is =>
    cases x <;> simp [agTg] at h
    obtain ⟨g1, g2, g3⟩ := pgs_names nd st h
    exact pg_tup calm g1 g2 g3
theorem sets_ok {ρ' : Env} : ∀ {is : List Nat} {xs : List AV} {vs : List V} {σ : L2.St} {ρ : Env} {R : L2.St → Hp → Prop}, EnvOk K Cl cs F H σ ρ → Reps K cs F vs xs → setsS ρ is xs = some ρ' →
    (∀ σ', EnvOk K Cl cs F H σ' ρ' → (∀ own : List Nat, (∀ i ∈ is, i ∈ own) → wipe σ' own = wipe σ own) → R σ' H) → gNames is vs σ H R
  | [], [], _, σ, ρ, R, V, .nil, e, k => by
    simp [setsS] at e
    subst e
    exact ⟨rfl, k σ V fun _ _ => rfl⟩
  | [], _ :: _, _, _, _, _, _, _, e, _ => by simp [setsS] at e
  | _ :: _, [], _, _, _, _, _, _, e, _ => by simp [setsS] at e
  | i :: is, x :: xs, _, σ, ρ, R, V, .cons r rs, e, k => by
    rename_i v vs
    simp only [setsS] at e
    refine ⟨v, vs, rfl, sets_ok (V.setV r) rs e fun σ' V' hw => k σ' V' fun own ho => ?_⟩
    rw [hw own fun j hj => ho j (List.mem_cons_of_mem _ hj)]
    exact wipe_set (ho i List.mem_cons_self)
where
  wipe_set {σ : L2.St} {i : Nat} {v : Option V} : ∀ {own : List Nat}, i ∈ own → wipe (σ.set i v) own = wipe σ own
    | j :: own, h => by
      unfold wipe
      by_cases hj : i ∈ own
      · rw [wipe_set hj]
      · have e : i = j := by
          rcases List.mem_cons.mp h with e | e
          · exact e
          · exact absurd e hj
        subst e
        have : ∀ (own : List Nat) (σ : L2.St), i ∉ own → (wipe (σ.set i v) own) = (wipe σ own).set i v := by
          intro own
          induction own with
          | nil => intro σ _; rfl
          | cons k own ih =>
            intro σ hk
            unfold wipe
            rw [ih σ fun z => hk (List.mem_cons_of_mem _ z)]
            exact List.set_comm _ _ fun z => hk (z ▸ List.mem_cons_self)
        rw [this own σ hj, List.set_set]
theorem tg_ok {σ : L2.St} {ρ : Env} {tg : Tg} {d : AV} {v : V} {Q : Env → Prop} {R : L2.St → Hp → Prop} (S : StOk K Cl cs F H h) (V : EnvOk K Cl cs F H σ ρ) (r : Rep K cs F v d) (w : tgK tg d ρ Q)
    (k : ∀ σ' ρ', EnvOk K Cl cs F H σ' ρ' → (∀ own : List Nat, (∀ i ∈ tgIds tg, i ∈ own) → wipe σ' own = wipe σ own) → Q ρ' → R σ' H) : gOf K tg v σ H R := by
  cases tg with
  | nm i =>
    exact k _ _ (V.setV r) (fun own ho => sets_ok.wipe_set (ho i (by simp [tgIds]))) w
  | tup is =>
    unfold tgK at w
    simp only at w
    split at w
    · rename_i xs
      split at w
      · rename_i ρ' hs
        cases r with
        | tup g1 g2 =>
          rename_i a vs
          refine ⟨a, vs, rfl, ex_t S.sub g1, ?_, sets_ok V g2 hs fun σ' V' hw => k σ' ρ' V' hw w⟩
          have : ∀ {is : List Nat} {xs : List AV} {ρ : Env}, setsS ρ is xs = some ρ' → xs.length = is.length := by
            intro is
            induction is with
            | nil => intro xs ρ h; cases xs <;> simp [setsS] at h ⊢
            | cons i is ih => intro xs ρ h; cases xs <;> simp [setsS] at h ⊢; exact ih h
          rw [g2.length, this hs]
      · exact w.elim
    · exact w.elim

/-! ### comprehensions -/
def WEb (X : Cx) (scope : Scope) (e : Expr) : TE := fun σ H Q => ∀ (s : Shared) (H0 : Hp) (D : Addr) (cl : List (Str × Addr)) (fp : List Addr), WE (X.blk s H0 scope (compEnvC scope cl D X.env) fp) e σ H Q
def WTb (X : Cx) (scope : Scope) (e : Expr) : TT := fun σ H Q => ∀ (s : Shared) (H0 : Hp) (D : Addr) (cl : List (Str × Addr)) (fp : List Addr), WT (X.blk s H0 scope (compEnvC scope cl D X.env) fp) e σ H Q
/-- a test of a comprehension: none, or one -/
def WCb (X : Cx) (scope : Scope) : List Expr → TT
  | [] => tYes
  | c :: _ => WTb X scope c
theorem sto_blk {X : Cx} {scope : Scope} (s : Shared) (H0 : Hp) (D : Addr) (cl : List (Str × Addr)) (fp : List Addr) : Sto scope (X.blk s H0 scope (compEnvC scope cl D X.env) fp) := fun id h => by
  unfold tgN at h
  simp only [Bool.or_eq_true, Bool.and_eq_true, decide_eq_true_eq] at h
  rcases h with ⟨h1, h2⟩ | ⟨h1, h2⟩
  · exact ⟨.inl h2, .inr h2⟩
  · refine ⟨.inr h2, .inl ?_⟩
    show (scope.names.lookup id == some .cell) = true
    rw [h1]; rfl
theorem wipe_in {i : Nat} : ∀ {own : List Nat} (σ : L2.St), i ∈ own → (wipe σ own)[i]? = if i < σ.length then some none else none
  | j :: own, σ, hi => by
    unfold wipe
    by_cases hj : j = i
    · subst hj
      rw [List.getElem?_set]
      simp [wipe_length]
    · rw [List.getElem?_set_ne hj]
      exact wipe_in σ (by simpa [Ne.symm hj] using hi)
theorem wipe_idem {σ : L2.St} {own : List Nat} : wipe (wipe σ own) own = wipe σ own := by
  apply List.ext_getElem?
  intro i
  by_cases hi : i ∈ own
  · rw [wipe_in _ hi, wipe_in _ hi, wipe_length]
  · rw [wipe_out hi]
def compB (C : Ctx) (elt : E) (tg : Tg) (cond : Oe) (own : List Nat) (ρ : Env) : AV → AHeap → (Option AV → AHeap → Prop) → Prop := fun x h2 R => tgK tg x (wipeS ρ own) fun ρ2 => WpC C cond ρ2 h2 fun k h3 =>
  if k = true then WpE C false elt ρ2 h3 fun y h4 => R (some y) h4 else R none h3
/-- what stands between two turns of a comprehension -/
def CInv (K : PySem.W.Frag) (Cl : Nat → Addr) (cs1 : List Addr) (F1 H1 : Hp) (B : AV → AHeap → (Option AV → AHeap → Prop) → Prop) (chk : AHeap → Prop) (items : List AV) (Q : List AV → AHeap → Prop) (D : Addr) (i : Nat) (H' : Hp) : Prop :=
  ∃ cs2 F2 h2 acc vs, Stp cs1 F1 H1 cs2 F2 H' ∧ StOk K Cl cs2 F2 H' h2 ∧ H' D = some (.lst vs) ∧ Reps K cs2 F2 vs acc ∧ D ∉ cs2 ∧ F2 D = none ∧ acc.length ≤ i ∧ compL B chk (items.drop i) acc h2 Q
theorem n_comp {elt : E} {tg : Tg} {it : It} {cond : Oe} {own : List Nat} {y t i : Expr} {ifs : List Expr} {scope : Scope} {pos : Pos} (O : XOk C T Cl X) (hb : BlkOk X.N X.env.scope scope (ownP X.N own)) (ho : ∀ i ∈ tgIds tg, i ∈ own)
    (ht : agTg scope (relS scope X.env.scope) X.N tg t = true) (hi : SI C Cl X true t it i) (hs : notSet i = true) (he : ∀ s H0 D cl fp, SE C Cl (X.blk s H0 scope (compEnvC scope cl D X.env) fp) false elt y)
    (hc : (ifs = [] ∧ cond = .no) ∨ ∃ c e, ifs = [c] ∧ cond = .so e ∧ ∀ s H0 D cl fp, ST C Cl (X.blk s H0 scope (compEnvC scope cl D X.env) fp) e c) : ∀ ρ h Q σ cs F H R, StOk X.K Cl cs F H h → EnvOk X.K Cl cs F H σ ρ → WpN C (.comp elt tg it cond own) ρ h Q → NOk X.K Cl cs F H Q R →
      tLc (WI X t i) (gOf X.K tg) (WCb X scope ifs) (WEb X scope y) own σ H R := fun ρ h Q σ cs F H R S V w p => by
  simp only [WpN] at w
  unfold tLc
  refine hi _ _ _ _ _ _ _ _ S V w fun J items chk G Y cs1 F1 H1 h1 x1 S1 wk hG hY q1 => ?_
  obtain ⟨hlen, q1⟩ := q1
  intro D hD
  have hF1 : F1 D = none := by
    cases w : F1 D with
    | none => rfl
    | some u => rw [S1.sub _ _ w] at hD; cases hD
  have hc1 : D ∉ cs1 := fun z => by
    obtain ⟨n, hn⟩ := List.mem_iff_getElem?.mp z
    exact (S1.cell n D hn).some hD
  refine lc_it wk (CInv X.K Cl cs1 F1 H1 (compB C elt tg cond own ρ) chk items (fun acc h2 => Q (.lst acc) h2) D) ?_ ?_ ?_ ?_
  · exact ⟨cs1, F1, h1, [], [], .newN hD, S1.newN hD, upd_same, .nil, hc1, hF1, Nat.le_refl _, q1⟩
  · rintro j H' hj ⟨cs2, F2, h2, acc, vs, x2, S2, e1, e2, e3, e4, e5, e6⟩
    refine hG cs2 F2 H' h2 x2 S2 ?_
    cases hd : items.drop j with
    | nil => rw [hd] at e6; exact e6.1
    | cons d r => rw [hd] at e6; exact e6.1
  · rintro j v H' H3 hj ⟨cs2, F2, h2, acc, vs, x2, S2, e1, e2, e3, e4, e5, e6⟩ hy
    rw [List.drop_eq_getElem_cons hj] at e6
    obtain ⟨ck, e6⟩ := e6
    obtain ⟨F3, x3, S3, rv⟩ := hY j H' v H3 cs2 F2 h2 _ S2 x2.f x2.c (List.getElem?_eq_getElem hj) ck hy
    have V3 : EnvOk X.K Cl cs2 F3 H3 σ ρ := V.step ((x1.trans x2).trans x3)
    refine tg_ok S3 (V3.wipe own) rv e6 fun σ4 ρ4 V4 hw e7 => ⟨by rw [hw own ho, wipe_idem], ?_⟩
    have d3 : H3 D = some (.lst vs) := x3.k _ _ e1 e3
    have n3 : F3 D = none := by
      cases w : F3 D with
      | none => rfl
      | some o =>
        have z := x3.n D e4 (by rw [w]; simp)
        rw [e1] at z; cases z
    have x13 : Stp cs1 F1 H1 cs2 F3 H3 := x2.trans x3
    -- the test
    have test : ∀ {R2 : Bool → Hp → Prop}, BOk X.K Cl cs2 F3 H3 (fun k h3 => if k = true then WpE C false elt ρ4 h3 fun y h4 => compL (compB C elt tg cond own ρ) chk (items.drop (j + 1)) (acc ++ [y]) h4 (fun acc h2 => Q (.lst acc) h2) else compL (compB C elt tg cond own ρ) chk (items.drop (j + 1)) acc h3 (fun acc h2 => Q (.lst acc) h2)) R2 → WCb X scope ifs σ4 H3 R2 := by
      intro R2 post
      rcases hc with ⟨rfl, rfl⟩ | ⟨c, e, rfl, rfl, hc⟩
      · simp only [WpC] at e7
        exact post _ _ _ _ _ .refl S3 e7
      · simp only [WpC] at e7
        intro s H0 D' cl fp
        exact hc s H0 D' cl fp _ _ _ _ _ _ _ _ S3 V4 e7 post
    refine test fun k cs4 F4 H4 h4 x4 S4 q4 => ?_
    have d4 : H4 D = some (.lst vs) := x4.k _ _ d3 e3
    have n4 : F4 D = none := by
      cases w : F4 D with
      | none => rfl
      | some o =>
        have z := x4.n D n3 (by rw [w]; simp)
        rw [d3] at z; cases z
    have c4 : D ∉ cs4 := fun z => by
      have := x4.m D z e3
      rw [d3] at this; cases this
    cases k with
    | false =>
      rw [if_neg Bool.false_ne_true] at q4 ⊢
      exact ⟨cs4, F4, h4, acc, vs, x13.trans x4, S4, d4, (e2.mono (x3.trans x4).f (x3.trans x4).c), c4, n4, by omega, q4⟩
    | true =>
      rw [if_pos rfl] at q4 ⊢
      intro s H0 D' cl fp
      refine he s H0 D' cl fp _ _ _ _ _ _ _ _ S4 (V4.step x4) q4 fun v5 d5 cs5 F5 H5 h5 x5 S5 r5 q5 => ?_
      have d5' : H5 D = some (.lst vs) := x5.k _ _ d4 c4
      have n5 : F5 D = none := by
        cases w : F5 D with
        | none => rfl
        | some o =>
          have z := x5.n D n4 (by rw [w]; simp)
          rw [d4] at z; cases z
      have c5 : D ∉ cs5 := fun z => by
        have := x5.m D z c4
        rw [d4] at this; cases this
      have x35 := (x3.trans x4).trans x5
      have lv : vs.length = acc.length := e2.length
      refine ⟨vs, d5', by omega, cs5, F5, h5, acc ++ [d5], vs ++ [v5], ((x13.trans x4).trans x5).chgNew hD, S5.chgN n5 c5, upd_same, (e2.mono x35.f x35.c).append (.cons r5.plain .nil), c5, n5, by rw [List.length_append, List.length_singleton]; omega, q5⟩
  · rintro H' ⟨cs2, F2, h2, acc, vs, x2, S2, e1, e2, e3, e4, e5, e6⟩
    rw [List.drop_of_length_le (Nat.le_refl _)] at e6
    exact p D (.lst acc) cs2 F2 H' h2 (x1.trans x2) S2 (x1.fresh hD) e4 e3 ⟨vs, e1, e2⟩ e6.2
end
end VL

set_option maxRecDepth 100000
set_option maxHeartbeats 4000000
/-! VL: every expression that agrees with the text. -/
namespace VL
open PySem L2 Evl PyProof.Rows PySem.Spec

section
variable {C : Ctx} {T : Tab} {Cl : Nat → Addr}
theorem agEs_all {sc : Scope} {N : List Str} : ∀ {es : Es} {xs : List Expr}, agEs T sc N es xs = true → xs.all notStar = true ∧ (xs = [] → es = .nil)
  | .nil, [], _ => ⟨rfl, fun _ => rfl⟩
  | .nil, _ :: _, h => by simp [agEs] at h
  | .cons e es, [], h => by simp [agEs] at h
  | .cons e es, x :: xs, h => by
    simp only [agEs, Bool.and_eq_true] at h
    refine ⟨?_, fun z => by cases z⟩
    rw [List.all_cons, h.1.2, (agEs_all h.2).1]; rfl
theorem agC_so {sc : Scope} {N : List Str} {e : Oe} {c : Expr} (h : agC T sc N e c = true) : ∃ e', e = .so e' := by
  cases e with
  | no => simp [agC] at h
  | so e => exact ⟨e, rfl⟩
/-- what a comprehension of the text must show -/
structure CompOk (C : Ctx) (T : Tab) (Cl : Nat → Addr) (X : Cx) (elt : E) (tg : Tg) (it : It) (cond : Oe) (own : List Nat) (y t i : Expr) (ifs : List Expr) (scope : Scope) : Prop where
  hb : BlkOk X.N X.env.scope scope (ownP X.N own)
  ho : ∀ i ∈ tgIds tg, i ∈ own
  ht : agTg scope (relS scope X.env.scope) X.N tg t = true
  hi : SI C Cl X true t it i
  hs : notSet i = true
  he : ∀ s H0 D cl fp, SE C Cl (X.blk s H0 scope (compEnvC scope cl D X.env) fp) false elt y
  hc : (ifs = [] ∧ cond = .no) ∨ ∃ c e, ifs = [c] ∧ cond = .so e ∧ ∀ s H0 D cl fp, ST C Cl (X.blk s H0 scope (compEnvC scope cl D X.env) fp) e c
section
variable {X : Cx} {elt : E} {tg : Tg} {it : It} {cond : Oe} {own : List Nat} {y t i : Expr} {ifs : List Expr} {scope : Scope}
theorem CompOk.pg (K : CompOk C T Cl X elt tg it cond own y t i ifs scope) (O : XOk C T Cl X) : ∀ (s : Shared) (H0 : Hp) (D : Addr) (cl : List (Str × Addr)) (fp : List Addr), PG (X.blk s H0 scope (compEnvC scope cl D X.env) fp) t (gOf X.K tg) := fun s H0 D cl fp =>
  pg_ok (X := X.blk s H0 scope (compEnvC scope cl D X.env) fp) O.nd O.calm (sto_blk s H0 D cl fp) K.ht
theorem CompOk.pts (K : CompOk C T Cl X elt tg it cond own y t i ifs scope) : ∀ (s : Shared) (H0 : Hp) (D : Addr) (cl : List (Str × Addr)) (fp : List Addr), PTs (X.blk s H0 scope (compEnvC scope cl D X.env) fp) ifs (WCb X scope ifs) := fun s H0 D cl fp => by
  rcases K.hc with ⟨rfl, _⟩ | ⟨c, e, rfl, _, _⟩
  · exact pts_nil
  · exact pts_one ⟨fun pins s' σ H Q I h => h s H0 D cl fp pins s' I⟩
theorem CompOk.pe (K : CompOk C T Cl X elt tg it cond own y t i ifs scope) : ∀ (s : Shared) (H0 : Hp) (D : Addr) (cl : List (Str × Addr)) (fp : List Addr), PE (X.blk s H0 scope (compEnvC scope cl D X.env) fp) y (WEb X scope y) := fun s H0 D cl fp =>
  ⟨fun pins s' σ H Q I h => h s H0 D cl fp pins s' I⟩
theorem CompOk.reads (K : CompOk C T Cl X elt tg it cond own y t i ifs scope) (O : XOk C T Cl X) : ∀ ρ h Q σ cs F H R, StOk X.K Cl cs F H h → EnvOk X.K Cl cs F H σ ρ → WpN C (.comp elt tg it cond own) ρ h Q → NOk X.K Cl cs F H Q R →
    tLc (WI X t i) (gOf X.K tg) (WCb X scope ifs) (WEb X scope y) ((ownP X.N own).map (·.2)) σ H R := by
  rw [ownP_ids]
  exact n_comp O K.hb K.ho K.ht K.hi K.hs K.he K.hc (pos := ⟨0, 0, 0, 0⟩)
theorem CompOk.sn (K : CompOk C T Cl X elt tg it cond own y t i ifs scope) (O : XOk C T Cl X) {pos : Pos} : SN C Cl X (.comp elt tg it cond own) (.ListComp y [⟨t, i, ifs, 0⟩] scope pos) := fun ρ h Q σ cs F H R S V w p =>
  we_of (pe_lc O.calm O.nd pi_we K.hb (K.pg O) K.pts K.pe (folded_of K.hs _)) (K.reads O ρ h Q σ cs F H R S V w p)
end

mutual
theorem sE : ∀ (e : E) (b : Bool) (x : Expr) (X : Cx), XOk C T Cl X → agE T X.env.scope X.N e x = true → SE C Cl X b e x
  | .var i, b, x, X, O, h => s_var (by simpa only [agE] using h)
  | .vw i, b, x, X, O, h => s_vw (by simpa only [agE] using h)
  | .cint i, b, x, X, O, h => fun ρ h' Q σ cs F H R S V w p => by
    simp only [agE] at h
    split at h
    · have e := of_decide_eq_true h
      subst e
      simp only [WpE] at w
      exact we_of pe_int (p _ _ _ _ _ _ .refl S (.inl (.int i)) w)
    · cases h
  | .cstr i, b, x, X, O, h => fun ρ h' Q σ cs F H R S V w p => by
    simp only [agE] at h
    split at h
    · have e := of_decide_eq_true h
      subst e
      simp only [WpE] at w
      exact we_of pe_str (p _ _ _ _ _ _ .refl S (.inl (.str i)) w)
    · cases h
  | .cbl i, b, x, X, O, h => fun ρ h' Q σ cs F H R S V w p => by
    simp only [agE] at h
    split at h
    · have e := of_decide_eq_true h
      subst e
      simp only [WpE] at w
      exact we_of pe_bl (p _ _ _ _ _ _ .refl S (.inl (.bl i)) w)
    · cases h
  | .cnon, b, x, X, O, h => fun ρ h' Q σ cs F H R S V w p => by
    simp only [agE] at h
    split at h
    · simp only [WpE] at w
      exact we_of pe_non (p _ _ _ _ _ _ .refl S (.inl .non) w)
    · cases h
  | .glob g, b, x, X, O, h => by
    simp only [agE] at h
    split at h
    · simp only [Bool.and_eq_true, decide_eq_true_eq] at h
      exact s_glob O h.1.1 h.1.2 h.2
    · cases h
  | .bin op a c, b, x, X, O, h => by
    simp only [agE] at h
    split at h
    · simp only [Bool.and_eq_true, decide_eq_true_eq] at h
      obtain ⟨⟨rfl, h1⟩, h2⟩ := h
      exact s_bin (sE a false _ X O h1) (sE c false _ X O h2)
    · cases h
  | .neg a, b, x, X, O, h => by
    simp only [agE] at h
    split at h
    · exact s_neg (sE a false _ X O h)
    · cases h
  | .not a, b, x, X, O, h => by
    simp only [agE] at h
    split at h
    · exact s_not (sE a false _ X O h)
    · cases h
  | .cmp op a c, b, x, X, O, h => by
    simp only [agE] at h
    split at h
    · simp only [Bool.and_eq_true, decide_eq_true_eq, Bool.not_eq_true'] at h
      obtain ⟨⟨⟨rfl, h1⟩, h2⟩, h3⟩ := h
      exact s_cmp O (sE a true _ X O h1) (sE c true _ X O h2) h3
    · cases h
  | .chain o1 o2 a c d, b, x, X, O, h => by
    simp only [agE] at h
    split at h
    · simp only [Bool.and_eq_true, decide_eq_true_eq, Bool.not_eq_true'] at h
      obtain ⟨⟨⟨⟨⟨rfl, rfl⟩, h1⟩, h2⟩, h3⟩, h4⟩ := h
      exact s_chain O (sE a false _ X O h1) (sE c false _ X O h2) (sE d false _ X O h3) h4
    · cases h
  | .and a c, b, x, X, O, h => by
    simp only [agE] at h
    split at h
    · simp only [Bool.and_eq_true] at h
      exact s_and (sE a false _ X O h.1) (sE c false _ X O h.2)
    · cases h
  | .or a c, b, x, X, O, h => by
    simp only [agE] at h
    split at h
    · simp only [Bool.and_eq_true] at h
      exact s_or (sE a false _ X O h.1) (sE c false _ X O h.2)
    · cases h
  | .ite c a d, b, x, X, O, h => by
    simp only [agE] at h
    split at h
    · simp only [Bool.and_eq_true] at h
      exact s_ite (sT c _ X O h.1.1) (sE a false _ X O h.1.2) (sE d false _ X O h.2)
    · cases h
  | .tup es, b, x, X, O, h => by
    simp only [agE] at h
    split at h
    · exact s_tup (sEs es _ X O h)
    · cases h
  | .fz n, b, x, X, O, h => s_fz (sN n x X O (by simpa only [agE] using h))
  | .new n, b, x, X, O, h => s_new (sN n x X O (by simpa only [agE] using h))
  | .sub a i, b, x, X, O, h => by
    simp only [agE] at h
    split at h
    · simp only [Bool.and_eq_true] at h
      exact s_sub O (sE a true _ X O h.1.1) (sE i false _ X O h.1.2) h.2
    · cases h
  | .slice a lo hi, b, x, X, O, h => by
    simp only [agE] at h
    split at h
    · simp only [Bool.and_eq_true] at h
      exact s_slice (sE a false _ X O h.1.1) (sO lo _ X O h.1.2) (sO hi _ X O h.2)
    · cases h
  | .call f es, b, x, X, O, h => by
    simp only [agE] at h
    split at h
    · simp only [Bool.and_eq_true, decide_eq_true_eq] at h
      obtain ⟨⟨⟨h0, h1⟩, h2⟩, h3⟩ := h
      obtain ⟨q1, q2⟩ := agEs_all h3
      exact s_call O h0 h1 h2 q1 q2 (sEs es _ X O h3)
    · cases h
  | .blt bt es, b, x, X, O, h => by
    simp only [agE] at h
    split at h
    · simp only [Bool.and_eq_true, decide_eq_true_eq] at h
      obtain ⟨⟨h0, h1⟩, h3⟩ := h
      exact s_blt O h0 h1 (agEs_all h3).1 (sBs es _ X O h3)
    · cases h
  | .isi a t, b, x, X, O, h => by
    simp only [agE] at h
    split at h
    · simp only [Bool.and_eq_true, decide_eq_true_eq] at h
      obtain ⟨⟨⟨⟨⟨⟨h0, h1⟩, h2⟩, h3⟩, h4⟩, h5⟩, h6⟩ := h
      exact s_isi O h0 h1 h2 h3 h6 h5 (sE a true _ X O h4)
    · cases h
  | .smt m o a, b, x, X, O, h => by
    simp only [agE] at h
    split at h
    · simp only [Bool.and_eq_true] at h
      obtain ⟨⟨⟨⟨⟨h0, h1⟩, h2⟩, h3⟩, h4⟩, h5⟩ := h
      exact s_smt h0 (sE o false _ X O h1) (sE a true _ X O h2) h3 h4 h5
    · cases h
  | .attr a f, b, x, X, O, h => by
    simp only [agE] at h
    split at h
    · simp only [Bool.and_eq_true, decide_eq_true_eq] at h
      obtain ⟨⟨rfl, h1⟩, h2⟩ := h
      exact s_attr O (sE a false _ X O h1) h2
    · cases h
  | .mcall o m es, b, x, X, O, h => by
    simp only [agE] at h
    split at h
    · simp only [Bool.and_eq_true, decide_eq_true_eq] at h
      obtain ⟨⟨⟨⟨⟨rfl, h1⟩, h2⟩, h3⟩, h4⟩, h5⟩ := h
      exact s_mcall O (sE o false _ X O h1) h3 h4 (agEs_all h2).1 h5 (agEs_all h2).2 (sEs es _ X O h2)
    · cases h
  | .make c es, b, x, X, O, h => by
    simp only [agE] at h
    split at h
    · simp only [Bool.and_eq_true, decide_eq_true_eq] at h
      obtain ⟨⟨⟨h0, h1⟩, h2⟩, h3⟩ := h
      exact s_make O h0 h1 h2 (agEs_all h3).1 (sEs es _ X O h3)
    · cases h
  | .tru a, b, x, X, O, h => fun ρ h' Q σ cs F H R S V w p => by simp only [WpE] at w
theorem sT : ∀ (e : E) (x : Expr) (X : Cx), XOk C T Cl X → agE T X.env.scope X.N e x = true → ST C Cl X e x
  | .and a c, x, X, O, h => by
    simp only [agE] at h
    split at h
    · simp only [Bool.and_eq_true] at h
      exact s_andT (sT a _ X O h.1) (sT c _ X O h.2)
    · cases h
  | .or a c, x, X, O, h => by
    simp only [agE] at h
    split at h
    · simp only [Bool.and_eq_true] at h
      exact s_orT (sT a _ X O h.1) (sT c _ X O h.2)
    · cases h
  | .not a, x, X, O, h => by
    simp only [agE] at h
    split at h
    · exact s_notT (sT a _ X O h)
    · cases h
  | .cmp op a c, x, X, O, h => by
    simp only [agE] at h
    split at h
    · simp only [Bool.and_eq_true, decide_eq_true_eq, Bool.not_eq_true'] at h
      obtain ⟨⟨⟨rfl, h1⟩, h2⟩, h3⟩ := h
      exact s_cmpT O (sE a true _ X O h1) (sE c true _ X O h2) h3
    · cases h
  | .chain o1 o2 a c d, x, X, O, h => by
    simp only [agE] at h
    split at h
    · simp only [Bool.and_eq_true, decide_eq_true_eq, Bool.not_eq_true'] at h
      obtain ⟨⟨⟨⟨⟨rfl, rfl⟩, h1⟩, h2⟩, h3⟩, h4⟩ := h
      exact s_chainT O (sE a false _ X O h1) (sE c false _ X O h2) (sE d false _ X O h3) h4
    · cases h
  | .tru a, x, X, O, h => by
    simp only [agE, Bool.and_eq_true] at h
    exact s_truT (sE a false _ X O h.1) h.2
  | .cbl k, x, X, O, h => fun ρ h' Q σ cs F H R S V w p => by
    simp only [agE] at h
    split at h
    · have e := of_decide_eq_true h
      subst e
      simp only [WpT] at w
      exact wt_of (pt_truth pe_bl (plainT_ok rfl _)) ⟨_, rfl, p _ _ _ _ _ .refl S w⟩
    · cases h
  | .var _, _, _, _, _ => fun ρ h' Q σ cs F H R S V w p => by simp only [WpT] at w
  | .vw _, _, _, _, _ => fun ρ h' Q σ cs F H R S V w p => by simp only [WpT] at w
  | .cint _, _, _, _, _ => fun ρ h' Q σ cs F H R S V w p => by simp only [WpT] at w
  | .cstr _, _, _, _, _ => fun ρ h' Q σ cs F H R S V w p => by simp only [WpT] at w
  | .cnon, _, _, _, _ => fun ρ h' Q σ cs F H R S V w p => by simp only [WpT] at w
  | .glob _, _, _, _, _ => fun ρ h' Q σ cs F H R S V w p => by simp only [WpT] at w
  | .bin _ _ _, _, _, _, _ => fun ρ h' Q σ cs F H R S V w p => by simp only [WpT] at w
  | .neg _, _, _, _, _ => fun ρ h' Q σ cs F H R S V w p => by simp only [WpT] at w
  | .ite _ _ _, _, _, _, _ => fun ρ h' Q σ cs F H R S V w p => by simp only [WpT] at w
  | .tup _, _, _, _, _ => fun ρ h' Q σ cs F H R S V w p => by simp only [WpT] at w
  | .fz _, _, _, _, _ => fun ρ h' Q σ cs F H R S V w p => by simp only [WpT] at w
  | .new _, _, _, _, _ => fun ρ h' Q σ cs F H R S V w p => by simp only [WpT] at w
  | .sub _ _, _, _, _, _ => fun ρ h' Q σ cs F H R S V w p => by simp only [WpT] at w
  | .slice _ _ _, _, _, _, _ => fun ρ h' Q σ cs F H R S V w p => by simp only [WpT] at w
  | .call _ _, _, _, _, _ => fun ρ h' Q σ cs F H R S V w p => by simp only [WpT] at w
  | .blt _ _, _, _, _, _ => fun ρ h' Q σ cs F H R S V w p => by simp only [WpT] at w
  | .isi _ _, _, _, _, _ => fun ρ h' Q σ cs F H R S V w p => by simp only [WpT] at w
  | .smt _ _ _, _, _, _, _ => fun ρ h' Q σ cs F H R S V w p => by simp only [WpT] at w
  | .attr _ _, _, _, _, _ => fun ρ h' Q σ cs F H R S V w p => by simp only [WpT] at w
  | .mcall _ _ _, _, _, _, _ => fun ρ h' Q σ cs F H R S V w p => by simp only [WpT] at w
  | .make _ _, _, _, _, _ => fun ρ h' Q σ cs F H R S V w p => by simp only [WpT] at w
theorem sEs : ∀ (es : Es) (xs : List Expr) (X : Cx), XOk C T Cl X → agEs T X.env.scope X.N es xs = true → SA C Cl X es xs
  | .nil, xs, X, O, h => by
    simp only [agEs] at h
    split at h
    · exact s_nil
    · cases h
  | .cons e es, xs, X, O, h => by
    simp only [agEs] at h
    split at h
    · simp only [Bool.and_eq_true] at h
      exact s_cons (sE e false _ X O h.1.1) (sEs es _ X O h.2) h.1.2
    · cases h
theorem sBs : ∀ (es : Es) (xs : List Expr) (X : Cx), XOk C T Cl X → agEs T X.env.scope X.N es xs = true → SB C Cl X es xs
  | .nil, xs, X, O, h => by
    simp only [agEs] at h
    split at h
    · exact s_nilB
    · cases h
  | .cons e es, xs, X, O, h => by
    simp only [agEs] at h
    split at h
    · simp only [Bool.and_eq_true] at h
      exact s_consB (sE e true _ X O h.1.1) (sBs es _ X O h.2) h.1.2
    · cases h
theorem sO : ∀ (e : Oe) (x : Option Expr) (X : Cx), XOk C T Cl X → agO T X.env.scope X.N e x = true → SO C Cl X e x
  | .no, x, X, O, h => by
    simp only [agO] at h
    split at h
    · exact s_no
    · cases h
  | .so e, x, X, O, h => by
    simp only [agO] at h
    split at h
    · exact s_so (sE e false _ X O h)
    · cases h
theorem sC : ∀ (e : Oe) (c : Expr) (e' : E), e = .so e' → ∀ (X : Cx), XOk C T Cl X → agC T X.env.scope X.N e c = true → ST C Cl X e' c
  | .no, c, e', q, X, O, h => by cases q
  | .so e, c, e', q, X, O, h => by
    have q2 : e = e' := by injection q
    rw [← q2]
    exact sT e c X O (by simpa only [agC] using h)
theorem sN : ∀ (n : Nw) (x : Expr) (X : Cx), XOk C T Cl X → agN T X.env.scope X.N n x = true → SN C Cl X n x
  | .lst es, x, X, O, h => by
    simp only [agN] at h
    split at h
    · exact n_lst (sEs es _ X O h)
    · cases h
  | .comp elt tg it cond own, x, X, O, h => by
    simp only [agN] at h
    split at h
    · rename_i y t i ifs a scope pos
      simp only [Bool.and_eq_true, decide_eq_true_eq] at h
      obtain ⟨⟨⟨⟨⟨⟨⟨rfl, hb⟩, ho⟩, ht⟩, hi⟩, hs⟩, he⟩, hc⟩ := h
      have K : CompOk C T Cl X elt tg it cond own y t i ifs scope := by
        refine ⟨blkOk_by hb, fun j hj => by simpa using List.all_eq_true.mp ho j hj, ht, sI it true t i X O hi (fun _ => rfl), hs, fun s H0 D cl fp => sE elt false y _ (O.blk s H0 scope cl D fp) he, ?_⟩
        split at hc
        · split at hc
          · exact .inl ⟨rfl, rfl⟩
          · cases hc
        · rename_i c
          obtain ⟨e', q1⟩ := agC_so hc
          exact .inr ⟨c, e', rfl, q1, fun s H0 D cl fp => sC cond c e' q1 _ (O.blk s H0 scope cl D fp) hc⟩
        · cases hc
      exact K.sn O
    · cases h
  | .slice a lo hi, x, X, O, h => by
    simp only [agN] at h
    split at h
    · simp only [Bool.and_eq_true] at h
      exact n_slice (sE a true _ X O h.1.1) (sO lo _ X O h.1.2) (sO hi _ X O h.2)
    · cases h
  | .listOf a, x, X, O, h => by
    simp only [agN] at h
    split at h
    · simp only [Bool.and_eq_true, decide_eq_true_eq] at h
      exact n_list O h.1.1.1 h.1.1.2 h.2 (sE a true _ X O h.1.2)
    · cases h
  | .cat a c, x, X, O, h => by
    simp only [agN] at h
    split at h
    · simp only [Bool.and_eq_true, decide_eq_true_eq] at h
      obtain ⟨⟨rfl, h1⟩, h2⟩ := h
      exact n_cat (sE a true _ X O h1) (sE c true _ X O h2)
    · cases h
  | .rev a, x, X, O, h => by
    simp only [agN] at h
    split at h
    · exact n_rev (sE a true _ X O h)
    · cases h
  | .dct1 k v, x, X, O, h => by
    simp only [agN] at h
    split at h
    · simp only [Bool.and_eq_true] at h
      exact n_dct1 (sE k false _ X O h.1) (sE v false _ X O h.2)
    · cases h
theorem sI : ∀ (it : It) (st : Bool) (tg x : Expr) (X : Cx), XOk C T Cl X → agI T X.env.scope X.N it x = true → ((∃ i, it = .own i) → st = true) → SI C Cl X st tg it x
  | .rng1 a, st, tg, x, X, O, h, _ => by
    simp only [agI] at h
    split at h
    · simp only [Bool.and_eq_true, decide_eq_true_eq] at h
      exact i_rng1 O h.1.1.1 h.1.1.2 h.2 (sE a false _ X O h.1.2)
    · cases h
  | .rng2 a c, st, tg, x, X, O, h, _ => by
    simp only [agI] at h
    split at h
    · simp only [Bool.and_eq_true, decide_eq_true_eq] at h
      obtain ⟨⟨⟨⟨⟨h0, h1⟩, h2⟩, h3⟩, h4⟩, h5⟩ := h
      exact i_rng2 O h0 h1 h3 h5 (sE a false _ X O h2) (sE c false _ X O h4)
    · cases h
  | .seq a, st, tg, x, X, O, h, _ => i_seq (sE a false _ X O (by simpa only [agI] using h))
  | .own i, st, tg, x, X, O, h, hst => by
    have e := hst ⟨i, rfl⟩
    subst e
    exact i_own (by simpa only [agI] using h)
  | .chars a, st, tg, x, X, O, h, _ => i_chars (sE a false _ X O (by simpa only [agI] using h))
end
end
end VL

set_option maxRecDepth 100000
set_option maxHeartbeats 4000000
/-! VL: statements, defs. -/
namespace VL
open PySem L2 Evl PyProof.Rows PySem.Spec

/-! ### agreement -/
def notComp : Expr → Bool
  | .ListComp _ _ _ _ => false
  | .SetComp _ _ _ _ => false
  | .DictComp _ _ _ _ _ => false
  | _ => true
def notTup : Expr → Bool
  | .Tuple _ _ _ => false
  | _ => true
def compN : E → Option Nw
  | .fz (.comp a b c d e) => some (.comp a b c d e)
  | .new (.comp a b c d e) => some (.comp a b c d e)
  | _ => none
def isCompN : Nw → Bool
  | .comp _ _ _ _ _ => true
  | _ => false
def agApp (x : Expr) : Option (Expr × Expr) := match x with
  | .Call (.Attribute o nm apos) [y] [] cpos => if (decide (nm = "append") && notSup o && (apos.endLine == cpos.line) && notStar y) = true then some (o, y) else none
  | _ => none
mutual
def agS (T : Tab) (sc : Scope) (N : List Str) : S → Stmt → Bool
  | .asg tg e, st => match st with
    | .Assign [t] x _ => agTg sc sc N tg t && agE T sc N e x && (match tg with
      | .nm _ => notComp x || (compN e).isSome
      | .tup _ => notTup x && notComp x)
    | _ => false
  | .asgO i n, st => match st with
    | .Assign [t] x _ => agTg sc sc N (.nm i) t && agN T sc N n x && (notComp x || isCompN n)
    | _ => false
  | .frz _, _ => false
  | .par _ _ _ _, _ => false
  | .aug i op e, st => match st with
    | .AugAssign (.Name id _) o x _ => decide (N[i]? = some id) && tgN sc sc id && decide (op = o) && (decide (op = .Add) || decide (op = .Sub)) && agE T sc N e x
    | _ => false
  | .app i e, st => match st with
    | .Expr x _ => match agApp x with
      | some (o, y) => agVar sc N i o && agE T sc N e y
      | none => false
    | _ => false
  | .appE o e, st => match st with
    | .Expr x _ => match agApp x with
      | some (o', y) => agE T sc N o o' && agE T sc N e y
      | none => false
    | _ => false
  | .put i k e, st => match st with
    | .Assign [.Subscript o k' _] x _ => agVar sc N i o && agE T sc N k k' && agE T sc N e x && notSlice k'
    | _ => false
  | .putE o k e, st => match st with
    | .Assign [.Subscript o' k' _] x _ => agE T sc N o o' && agE T sc N k k' && agE T sc N e x && notSlice k'
    | _ => false
  | .fld o f e, st => match st with
    | .Assign [.Attribute o' g _] x _ => decide (f = g) && agE T sc N o o' && agE T sc N e x
    | _ => false
  | .expr e, st => match st with
    | .Expr x _ => agE T sc N e x && notComp x
    | _ => false
  | .ret e, st => match st with
    | .Return (some x) _ => agE T sc N e x
    | _ => false
  | .retN, st => match st with
    | .Return none _ => true
    | _ => false
  | .ite c a b, st => match st with
    | .If x p q _ => agE T sc N c x && agSs T sc N a p && agSs T sc N b q
    | _ => false
  | .wh c b, st => match st with
    | .While x p [] _ => agE T sc N c x && agSs T sc N b p
    | _ => false
  | .for tg it b, st => match st with
    | .For t x p [] _ => agTg sc sc N tg t && agI T sc N it x && notSet x && (match it with | .own _ => false | _ => true) && agSs T sc N b p
    | _ => false
  | .pass, st => match st with
    | .Pass _ => true
    | _ => false
  | .brk, st => match st with
    | .Break _ => true
    | _ => false
  | .cont, st => match st with
    | .Continue _ => true
    | _ => false
def agSs (T : Tab) (sc : Scope) (N : List Str) : Ss → List Stmt → Bool
  | .nil, st => match st with
    | [] => true
    | _ => false
  | .cons s r, st => match s with
    | .frz _ => agSs T sc N r st
    | s => match st with
      | x :: xs => agS T sc N s x && agSs T sc N r xs
      | [] => false
end

/-! ### what stands between statements: base of the innermost loop (csb, Fb), the def's entry (cs0, F0, H0) -/
structure Nt (K : PySem.W.Frag) (Cl : Nat → Addr) (csb : List Addr) (Fb : Hp) (cs0 : List Addr) (F0 H0 : Hp) (cs : List Addr) (F H : Hp) (h : AHeap) (σ : L2.St) (ρ : Env) : Prop where
  S : StOk K Cl cs F H h
  V : EnvOk K Cl cs F H σ ρ
  x : Stp cs0 F0 H0 cs F H
  o : ∀ i c a, getS ρ i = .own c → σ[i]? = some (some (.ref a)) → H0 a = none
  y : Ex Fb F ∧ ∃ r, cs = csb ++ r
structure DOk (K : PySem.W.Frag) (Cl : Nat → Addr) (csb : List Addr) (Fb : Hp) (cs0 : List Addr) (F0 H0 : Hp) (D : Kt) (D' : Ends) : Prop where
  nx : ∀ cs F H h σ ρ, Nt K Cl csb Fb cs0 F0 H0 cs F H h σ ρ → D.nx ρ h → D'.nx σ H
  rt : ∀ v d cs F H h, Stp cs0 F0 H0 cs F H → StOk K Cl cs F H h → Rep K cs F v d → D.rt d h → D'.rt v H
  bk : ∀ cs F H h σ ρ, Nt K Cl csb Fb cs0 F0 H0 cs F H h σ ρ → D.bk ρ h → D'.bk σ H
  ct : ∀ cs F H h σ ρ, Nt K Cl csb Fb cs0 F0 H0 cs F H h σ ρ → D.ct ρ h → D'.ct σ H
structure SOk (C : Ctx) (T : Tab) (Cl : Nat → Addr) (X : Cx) : Prop extends XOk C T Cl X where
  pass : PassesOwn (model X.prog X.w) X.A X.env X.xe
  sto : Sto X.env.scope X
def WS (X : Cx) (st : Stmt) : TS := fun D σ H => ∀ pins s, Inv X pins σ H s → wpAny (model X.prog X.w) X.A (exec st X.env) (SP X pins D) X.xe s
def WSs (X : Cx) (st : List Stmt) : TS := fun D σ H => ∀ pins s, Inv X pins σ H s → wpAny (model X.prog X.w) X.A (execs st X.env) (SP X pins D) X.xe s
section
variable {X : Cx}
theorem ps_we {e : Stmt} : PS X e (WS X e) := ⟨fun pins s σ H D I h => h pins s I⟩
theorem pss_we {e : List Stmt} : PSs X e (WSs X e) := ⟨fun pins s σ H D I h => h pins s I⟩
theorem ws_of {e : Stmt} {t : TS} (p : PS X e t) {σ : L2.St} {H : Hp} {D : Ends} (h : t D σ H) : WS X e D σ H := fun pins s I => p.run pins s σ H D I h
theorem wss_of {e : List Stmt} {t : TS} (p : PSs X e t) {σ : L2.St} {H : Hp} {D : Ends} (h : t D σ H) : WSs X e D σ H := fun pins s I => p.run pins s σ H D I h
end
section
variable (C : Ctx) (Cl : Nat → Addr)
def SS (X : Cx) (s : S) (st : Stmt) : Prop := ∀ csb Fb cs0 F0 H0 D D' ρ h σ cs F H, DOk X.K Cl csb Fb cs0 F0 H0 D D' → Nt X.K Cl csb Fb cs0 F0 H0 cs F H h σ ρ → WpS C s D ρ h → WS X st D' σ H
def SSs (X : Cx) (s : Ss) (st : List Stmt) : Prop := ∀ csb Fb cs0 F0 H0 D D' ρ h σ cs F H, DOk X.K Cl csb Fb cs0 F0 H0 D D' → Nt X.K Cl csb Fb cs0 F0 H0 cs F H h σ ρ → WpSs C s D ρ h → WSs X st D' σ H
end
section
variable {C : Ctx} {T : Tab} {Cl : Nat → Addr} {X : Cx} {K : PySem.W.Frag} {csb cs0 cs cs' : List Addr} {Fb F0 H0 F F' H H' : Hp} {h h' : AHeap} {σ σ' : L2.St} {ρ ρ' : Env}
theorem Nt.step (n : Nt K Cl csb Fb cs0 F0 H0 cs F H h σ ρ) (x : Stp cs F H cs' F' H') (S : StOk K Cl cs' F' H' h') : Nt K Cl csb Fb cs0 F0 H0 cs' F' H' h' σ ρ :=
  ⟨S, n.V.step x, n.x.trans x, n.o, n.y.1.trans x.f, by
    obtain ⟨r, e⟩ := n.y.2
    obtain ⟨r2, e2⟩ := x.c
    exact ⟨r ++ r2, by rw [e2, e, List.append_assoc]⟩⟩
theorem Nt.setV (n : Nt K Cl csb Fb cs0 F0 H0 cs F H h σ ρ) {i : Nat} {v : L2.V} {d : AV} (r : Rep K cs F v d) : Nt K Cl csb Fb cs0 F0 H0 cs F H h (σ.set i (some v)) (setS ρ i (.val d)) :=
  ⟨n.S, n.V.setV r, n.x, fun j c a h1 h2 => by
    by_cases hj : i = j
    · subst hj
      by_cases hi : i < ρ.length
      · rw [getS_set_same hi] at h1; cases h1
      · rw [setS_out (by omega)] at h1
        exact absurd (getS_lt (ρ := ρ) (i := i) (by rw [h1]; simp)) hi
    · rw [getS_set_ne hj] at h1
      rw [List.getElem?_set_ne hj] at h2
      exact n.o j c a h1 h2, n.y⟩
theorem upd_self {H : Hp} {a : Addr} {o : HO} (e : H a = some o) : upd H a o = H := by
  funext b
  unfold upd
  split
  · rename_i q; rw [q, e]
  · rfl
theorem set_self {σ : L2.St} {i : Nat} {v : Option V} (e : σ[i]? = some v) : σ.set i v = σ := by
  apply List.ext_getElem?
  intro j
  by_cases hj : i = j
  · subst hj
    rw [List.getElem?_set_self (List.getElem?_eq_some_iff.mp e).1, e]
  · rw [List.getElem?_set_ne hj]
/-- a slot's own cell -/
theorem Nt.setO (n : Nt K Cl csb Fb cs0 F0 H0 cs F H h σ ρ) {i : Nat} {a : Addr} {c : Cell} {o : HO} (n0 : H0 a = none) (n1 : a ∉ cs) (n2 : F a = none) (r : COk K Cl cs F (upd H a o) a c)
    (old : ∀ j c', j ≠ i → getS ρ j = .own c' → σ[j]? ≠ some (some (.ref a))) : Nt K Cl csb Fb cs0 F0 H0 cs F (upd H a o) h (σ.set i (some (.ref a))) (setS ρ i (.own c)) :=
  ⟨n.S.chgN n2 n1, n.V.setO n1 n2 r old, n.x.chgNew n0, fun j c a' h1 h2 => by
    by_cases hj : i = j
    · subst hj
      by_cases hi : i < ρ.length
      · rw [List.getElem?_set_self (by rw [← n.V.len]; exact hi)] at h2
        cases h2
        exact n0
      · rw [setS_out (by omega)] at h1
        exact absurd (getS_lt (ρ := ρ) (i := i) (by rw [h1]; simp)) hi
    · rw [getS_set_ne hj] at h1
      rw [List.getElem?_set_ne hj] at h2
      exact n.o j c a' h1 h2, n.y⟩
/-- a slot's own cell becomes a value -/
theorem Nt.frz (n : Nt K Cl csb Fb cs0 F0 H0 cs F H h σ ρ) {i : Nat} {c : Cell} {d : AV} (e : getS ρ i = .own c) (q : (∃ xs, c = .lst xs ∧ d = .lst xs) ∨ ∃ xs, c = .dct xs ∧ d = .dct xs) : ∃ F', Nt K Cl csb Fb cs0 F0 H0 cs F' H h σ (setS ρ i (.val d)) := by
  obtain ⟨a, e1, n1, n2, r⟩ := n.V.own i c e
  have n0 := n.o i c a e e1
  have core : ∀ o, H a = some o → Rep K cs (upd F a o) (.ref a) d → ∃ F', Nt K Cl csb Fb cs0 F0 H0 cs F' H h σ (setS ρ i (.val d)) := by
    intro o ho rd
    have ex : Ex F (upd F a o) := Ex.new n2
    refine ⟨upd F a o, ?_⟩
    have hi : i < ρ.length := getS_lt (by rw [e]; simp)
    have hs : i < σ.length := by rw [← n.V.len]; exact hi
    refine ⟨n.S.freeze n2 n1 ho, ⟨by rw [setS_length]; exact n.V.len, fun j d' h1 => ?_, fun j c' h1 => ?_, fun j k c1 c2 b ne h1 h2 h3 => ?_⟩, ⟨n.x.f.trans ex, n.x.c, n.x.k, n.x.d, fun b q1 q2 => ?_, n.x.m⟩, fun j c' b h1 h2 => ?_, n.y.1.trans ex, n.y.2⟩
    · by_cases hj : i = j
      · subst hj
        rw [getS_set_same hi] at h1
        cases h1
        exact ⟨_, e1, rd⟩
      · rw [getS_set_ne hj] at h1
        obtain ⟨v, g1, g2⟩ := n.V.val j d' h1
        exact ⟨v, g1, g2.mono ex ⟨[], by simp⟩⟩
    · have hj : i ≠ j := fun z => by subst z; rw [getS_set_same hi] at h1; cases h1
      rw [getS_set_ne hj] at h1
      obtain ⟨b, g1, g2, g3, g4⟩ := n.V.own j c' h1
      refine ⟨b, g1, g2, ?_, g4.mono ex ⟨[], by simp⟩ fun _ z => z⟩
      rw [upd_ne]
      · exact g3
      · intro z
        subst z
        exact n.V.dis i j c c' b hj e h1 e1 g1
    · have h1' : i ≠ j := fun z => by subst z; rw [getS_set_same hi] at h1; cases h1
      have h2' : i ≠ k := fun z => by subst z; rw [getS_set_same hi] at h2; cases h2
      rw [getS_set_ne h1'] at h1
      rw [getS_set_ne h2'] at h2
      exact n.V.dis j k c1 c2 b ne h1 h2 h3
    · by_cases hb : b = a
      · subst hb; exact n0
      · rw [upd_ne hb] at q2
        exact n.x.n b q1 q2
    · have hj : i ≠ j := fun z => by subst z; rw [getS_set_same hi] at h1; cases h1
      rw [getS_set_ne hj] at h1
      exact n.o j c' b h1 h2
  rcases q with ⟨xs, rfl, rfl⟩ | ⟨xs, rfl, rfl⟩
  · obtain ⟨vs, g1, g2⟩ := r
    exact core _ g1 (.lst upd_same (g2.mono (Ex.new n2) ⟨[], by simp⟩))
  · obtain ⟨vs, g1, g2⟩ := r
    exact core _ g1 (.dct upd_same (g2.mono (Ex.new n2) ⟨[], by simp⟩))
theorem DOk.seq {D : Kt} {D' : Ends} {A : Env → AHeap → Prop} {A' : L2.St → Hp → Prop} (d : DOk K Cl csb Fb cs0 F0 H0 D D') (k : ∀ cs F H h σ ρ, Nt K Cl csb Fb cs0 F0 H0 cs F H h σ ρ → A ρ h → A' σ H) :
    DOk K Cl csb Fb cs0 F0 H0 { D with nx := A } { D' with nx := A' } := ⟨k, d.rt, d.bk, d.ct⟩

/-! ### each statement -/
theorem swaps_plain {x : Expr} (hx : notComp x = true) (t : Option Expr) (l : Nat) (env : PySem.Env) : swapsWith x t l env = pure false := by
  cases x <;> first | rfl | cases hx
theorem swaps_other {x t : Expr} (ht : ∀ id p, t ≠ .Name id p) (l : Nat) (env : PySem.Env) : swapsWith x (some t) l env = pure false := by
  cases x <;> first | rfl | (cases t <;> first | rfl | exact absurd rfl (ht _ _))
def swB (sc scope : Scope) (id : Str) (pl xl : Nat) : Bool := decide (sc.names.lookup id = some .local) && (pl == xl) && !(scope.names.any fun (n, k) => n == id && (k == .local || k == .cell))
theorem sw_false {elt : Expr} {gs : List Comprehension} {scope : Scope} {pos py : Pos} {y : Str} {l : Nat} {env : PySem.Env} (hk : env.scope.kind = .function) (h : swB env.scope scope y py.line pos.line = false) :
    swapsWith (.ListComp elt gs scope pos) (some (.Name y py)) l env = pure false := by
  have hb : env.blockKind = .function := by unfold Env.blockKind; rw [hk]; rfl
  unfold swapsWith
  unfold swB at h
  have ky : (env.kindOf y == some .local) = decide (env.scope.names.lookup y = some .local) := by
    show (env.scope.names.lookup y == some .local) = _
    cases q : env.scope.names.lookup y with
    | none => rfl
    | some k => cases k <;> rfl
  simp only [hb, ky, Expr.pos]
  show pure ((ScopeKind.function == ScopeKind.function && decide (env.scope.names.lookup y = some .local) && (py.line == pos.line)) && !(scope.names.any fun (n, k) => n == y && (k == .local || k == .cell))) = pure false
  have : (ScopeKind.function == ScopeKind.function) = true := rfl
  rw [this, Bool.true_and, h]
/-- a comprehension given to a name -/
theorem comp_set {elt : E} {tg : Tg} {it : It} {cond : Oe} {own : List Nat} {y t i : Expr} {ifs : List Expr} {scope : Scope} {pos spos p' : Pos} {id : Str} {j : Nat} (O : SOk C T Cl X) (Kp : CompOk C T Cl X elt tg it cond own y t i ifs scope)
    (hj : X.N[j]? = some id) (hid : tgN X.env.scope X.env.scope id = true) {ρ : Env} {h : AHeap} {Q : Cell → AHeap → Prop} {D : Ends} (S : StOk X.K Cl cs F H h) (V : EnvOk X.K Cl cs F H σ ρ) (hk : X.env.scope.kind = .function) (w : WpN C (.comp elt tg it cond own) ρ h Q)
    (p : NOk X.K Cl cs F H Q (fun v H1 => D.nx (σ.set j (some v)) H1)) : WS X (.Assign [.Name id p'] (.ListComp y [⟨t, i, ifs, 0⟩] scope pos) spos) D σ H := by
  obtain ⟨s1, s2⟩ := O.sto id hid
  cases hs : swB X.env.scope scope id p'.line pos.line with
  | false => exact ws_of (ps_set O.nd hj s1 pe_we (sw_false hk hs) s2) (Kp.sn O.toXOk _ _ _ _ _ _ _ _ S V w p)
  | true =>
    unfold swB at hs
    simp only [Bool.and_eq_true, decide_eq_true_eq, Bool.not_eq_true'] at hs
    exact ws_of (ps_setLc O.calm O.nd hj hs.1.1 (sw_true hk hs.1.1 hs.1.2 hs.2) pi_we Kp.hb (Kp.pg O.toXOk) Kp.pts Kp.pe (folded_of Kp.hs _)) (Kp.reads O.toXOk _ _ _ _ _ _ _ _ S V w p)
theorem comp_of {elt : E} {tg : Tg} {it : It} {cond : Oe} {own : List Nat} {x : Expr} (O : XOk C T Cl X) (h : agN T X.env.scope X.N (.comp elt tg it cond own) x = true) :
    ∃ y t i ifs scope pos, x = .ListComp y [⟨t, i, ifs, 0⟩] scope pos ∧ CompOk C T Cl X elt tg it cond own y t i ifs scope := by
  simp only [agN] at h
  split at h
  · rename_i y t i ifs a scope pos
    simp only [Bool.and_eq_true, decide_eq_true_eq] at h
    obtain ⟨⟨⟨⟨⟨⟨⟨rfl, hb⟩, ho⟩, ht⟩, hi⟩, hs⟩, he⟩, hc⟩ := h
    refine ⟨y, t, i, ifs, scope, pos, rfl, blkOk_by hb, fun j hj => by simpa using List.all_eq_true.mp ho j hj, ht, sI it true t i X O hi (fun _ => rfl), hs, fun s H0 D cl fp => sE elt false y _ (O.blk s H0 scope cl D fp) he, ?_⟩
    split at hc
    · split at hc
      · exact .inl ⟨rfl, rfl⟩
      · cases hc
    · rename_i c
      obtain ⟨e', q1⟩ := agC_so hc
      exact .inr ⟨c, e', rfl, q1, fun s H0 D cl fp => sC cond c e' q1 _ (O.blk s H0 scope cl D fp) hc⟩
    · cases hc
  · cases h
theorem st_asg {tg : Tg} {e : E} {st : Stmt} (O : SOk C T Cl X) (hk : X.env.scope.kind = .function) (hag : agS T X.env.scope X.N (.asg tg e) st = true) : SS C Cl X (.asg tg e) st := fun csb Fb cs0 F0 H0 D D' ρ h σ cs F H d n w => by
  simp only [agS] at hag
  split at hag
  · rename_i t x pos
    simp only [Bool.and_eq_true] at hag
    obtain ⟨⟨ht, he⟩, hx⟩ := hag
    simp only [WpS] at w
    cases tg with
    | nm i =>
      simp only [agTg] at ht
      split at ht
      · rename_i id p'
        simp only [Bool.and_eq_true, decide_eq_true_eq] at ht
        obtain ⟨s1, s2⟩ := O.sto id ht.2
        have fin : EOk X.K Cl false cs F H (fun x h1 => tgK (.nm i) x ρ fun ρ' => D.nx ρ' h1) (fun v H1 => D'.nx (σ.set i (some v)) H1) := fun v d2 cs2 F2 H2 h2 y S r q =>
          d.nx _ _ _ _ _ _ ((n.step y S).setV r.plain) q
        simp only [Bool.or_eq_true] at hx
        rcases hx with hx | hx
        · exact ws_of (ps_set O.nd ht.1 s1 pe_we (swaps_plain hx _ _ _) s2) (sE e false x X O.toXOk he _ _ _ _ _ _ _ _ n.S n.V w fin)
        · cases hc : compN e with
          | none => rw [hc] at hx; cases hx
          | some n0 =>
            unfold compN at hc
            split at hc
            · cases hc
              simp only [agE] at he
              obtain ⟨y, t', i', ifs, scope, pos', rfl, Kp⟩ := comp_of O.toXOk he
              simp only [WpE] at w
              exact comp_set O Kp ht.1 ht.2 n.S n.V hk w (NOk.fz fin)
            · cases hc
              simp only [agE] at he
              obtain ⟨y, t', i', ifs, scope, pos', rfl, Kp⟩ := comp_of O.toXOk he
              simp only [WpE] at w
              exact comp_set O Kp ht.1 ht.2 n.S n.V hk w (NOk.new fin)
            · cases hc
      · cases ht
    | tup is =>
      simp only [Bool.and_eq_true] at hx
      have hw : swappedStores [t] x X.env = pure none := by
        cases t <;> first | (simp [agTg] at ht; done) | (cases x <;> first | rfl | cases hx.1)
      have hs : swapsWithSole [t] x pos.line X.env = pure false := swaps_plain hx.2 _ _ _
      refine ws_of (ps_asg pe_we (pg_ok O.nd O.calm O.sto ht) hs hw (by cases t <;> first | (simp [agTg] at ht; done) | rfl)) (sE e false x X O.toXOk he _ _ _ _ _ _ _ _ n.S n.V w fun v d2 cs2 F2 H2 h2 y S r q => ?_)
      have n2 := n.step y S
      -- the names are set one after another
      unfold tgK at q
      simp only at q
      split at q
      · rename_i xs
        split at q
        · rename_i ρ' hs2
          have r := r.plain
          cases r with
          | tup g1 g2 =>
            rename_i a vs
            have hl : ∀ {is : List Nat} {xs : List AV} {ρ : Env}, setsS ρ is xs = some ρ' → xs.length = is.length := by
              intro is
              induction is with
              | nil => intro xs ρ h; cases xs <;> simp [setsS] at h ⊢
              | cons i is ih => intro xs ρ h; cases xs <;> simp [setsS] at h ⊢; exact ih h
            refine ⟨a, vs, rfl, ex_t S.sub g1, by rw [g2.length, hl hs2], ?_⟩
            have go : ∀ {is : List Nat} {xs : List AV} {vs : List V} {σ : L2.St} {ρ : Env}, Nt X.K Cl csb Fb cs0 F0 H0 cs2 F2 H2 h2 σ ρ → Reps X.K cs2 F2 vs xs → setsS ρ is xs = some ρ' → gNames is vs σ H2 D'.nx := by
              intro is
              induction is with
              | nil =>
                intro xs vs σ ρ n r e
                cases r with
                | nil => simp [setsS] at e; subst e; exact ⟨rfl, d.nx _ _ _ _ _ _ n q⟩
                | cons _ _ => simp [setsS] at e
              | cons i is ih =>
                intro xs vs σ ρ n r e
                cases r with
                | nil => simp [setsS] at e
                | cons r rs =>
                  simp only [setsS] at e
                  exact ⟨_, _, rfl, ih (n.setV r) rs e⟩
            exact go n2 g2 hs2
        · exact q.elim
      · exact q.elim
  · cases hag
theorem own_old (V : EnvOk K Cl cs F H σ ρ) {i : Nat} {c : Cell} {a : Addr} (e : getS ρ i = .own c) (q : σ[i]? = some (some (.ref a))) : ∀ j c', j ≠ i → getS ρ j = .own c' → σ[j]? ≠ some (some (.ref a)) := fun j c' hj h1 =>
  V.dis i j c c' a (Ne.symm hj) e h1 q
theorem st_asgO {i : Nat} {m : Nw} {st : Stmt} (O : SOk C T Cl X) (hk : X.env.scope.kind = .function) (hag : agS T X.env.scope X.N (.asgO i m) st = true) : SS C Cl X (.asgO i m) st := fun csb Fb cs0 F0 H0 D D' ρ h σ cs F H d n w => by
  simp only [agS] at hag
  split at hag
  · rename_i t x pos
    simp only [Bool.and_eq_true] at hag
    obtain ⟨⟨ht, he⟩, hx⟩ := hag
    simp only [WpS] at w
    simp only [agTg] at ht
    split at ht
    · rename_i id p'
      simp only [Bool.and_eq_true, decide_eq_true_eq] at ht
      obtain ⟨s1, s2⟩ := O.sto id ht.2
      have fin : NOk X.K Cl cs F H (fun c h1 => D.nx (setS ρ i (.own c)) h1) (fun v H1 => D'.nx (σ.set i (some v)) H1) := fun a c cs2 F2 H2 h2 y S n1 n2 n3 r q => by
        have hs : H2 a ≠ none := r.some
        have n' := n.step y S
        cases ho : H2 a with
        | none => exact absurd ho hs
        | some o =>
          have e : upd H2 a o = H2 := upd_self ho
          have z := n'.setO (i := i) (o := o) (n.x.fresh n1) n3 n2 (by rw [e]; exact r) fun j c' hj h1 h2 => by
            obtain ⟨b, g1, _, _, g4⟩ := n.V.own j c' h1
            rw [g1] at h2
            cases h2
            exact g4.some n1
          rw [e] at z
          exact d.nx _ _ _ _ _ _ z q
      simp only [Bool.or_eq_true] at hx
      rcases hx with hx | hx
      · exact ws_of (ps_set O.nd ht.1 s1 pe_we (swaps_plain hx _ _ _) s2) (sN m x X O.toXOk he _ _ _ _ _ _ _ _ n.S n.V w fin)
      · cases m with
        | comp a b c e f =>
          obtain ⟨y, t', i', ifs, scope, pos', rfl, Kp⟩ := comp_of O.toXOk he
          exact comp_set O Kp ht.1 ht.2 n.S n.V hk w fin
        | _ => cases hx
    · cases ht
  · cases hag
theorem st_aug {i : Nat} {op : Operator} {e : E} {st : Stmt} (O : SOk C T Cl X) (hag : agS T X.env.scope X.N (.aug i op e) st = true) : SS C Cl X (.aug i op e) st := fun csb Fb cs0 F0 H0 D D' ρ h σ cs F H d n w => by
  simp only [agS] at hag
  split at hag
  · rename_i id p' o x pos
    simp only [Bool.and_eq_true, Bool.or_eq_true, decide_eq_true_eq] at hag
    obtain ⟨⟨⟨⟨h1, h2⟩, rfl⟩, h4⟩, h5⟩ := hag
    obtain ⟨s1, s2⟩ := O.sto id h2
    simp only [WpS] at w
    split at w
    · rename_i x0 hx0
      obtain ⟨v0, e0, r0⟩ := n.V.val i x0 hx0
      have fin : ∀ {f : Int → Int → Int}, (∀ x y Q, augK op x y Q → ∃ a b, x = .int a ∧ y = .int b ∧ Q (.int (f a b))) → tAug i (WE X x) (ipI f) D' σ H := by
        intro f hf
        refine ⟨v0, e0, sE e false x X O.toXOk h5 _ _ _ _ _ _ _ _ n.S n.V w fun v1 d1 cs1 F1 H1 h1 x1 S1 r1 q1 => ?_⟩
        obtain ⟨a, b, rfl, rfl, q⟩ := hf _ _ _ q1
        have := r1.int
        subst this
        cases r0
        exact ⟨a, b, rfl, rfl, d.nx _ _ _ _ _ _ ((n.step x1 S1).setV (.int _)) q⟩
      rcases h4 with rfl | rfl
      · refine ws_of (ps_aug O.nd h1 s1 pe_we ip_add s2) (fin fun x y Q q => ?_)
        cases x <;> cases y <;> first | exact ⟨_, _, rfl, rfl, q⟩ | exact q.elim
      · refine ws_of (ps_aug O.nd h1 s1 pe_we ip_sub s2) (fin fun x y Q q => ?_)
        cases x <;> cases y <;> first | exact ⟨_, _, rfl, rfl, q⟩ | exact q.elim
    · exact w.elim
  · cases hag
theorem app_ps {o y : Expr} {x : Expr} {pos : Pos} {to : TE} (hx : agApp x = some (o, y)) (ho : PE X o to) : PS X (.Expr x pos) (tDrop (tBM X.K "list" rAppend to (tCons (WE X y) tNil))) := by
  unfold agApp at hx
  split at hx
  · rename_i o' nm apos y' cpos
    split at hx
    · rename_i hc
      cases hx
      simp only [Bool.and_eq_true, decide_eq_true_eq] at hc
      obtain ⟨⟨⟨rfl, h2⟩, h3⟩, h4⟩ := hc
      refine ps_expr (pe_bm PySem.F.plainAttrs_list PySem.F.slot_list_append PySem.F.type_list_append mt_append ho (pa_cons pe_we pa_nil (star_cons h4 _ _)) (base_of h2 _ _) ?_ h3 (star_cons h4 _ _) rfl) rfl
      rw [star_cons h4]
      rfl
    · cases hx
  · cases hx
theorem st_app {i : Nat} {e : E} {st : Stmt} (O : SOk C T Cl X) (hag : agS T X.env.scope X.N (.app i e) st = true) : SS C Cl X (.app i e) st := fun csb Fb cs0 F0 H0 D D' ρ h σ cs F H d n w => by
  simp only [agS] at hag
  split at hag
  · rename_i x pos
    split at hag
    · rename_i o y hx
      simp only [Bool.and_eq_true] at hag
      obtain ⟨ha, he⟩ := hag
      unfold agVar at ha
      split at ha
      · rename_i id p'
        simp only [Bool.and_eq_true, decide_eq_true_eq] at ha
        obtain ⟨⟨h1, h2⟩, h3⟩ := ha
        obtain ⟨n1, n2, _⟩ := plainName_ok h3
        simp only [WpS] at w
        have po : PE X (.Name id p') (fun σ H Q => ∃ v, σ[i]? = some (some v) ∧ Q v H) := pe_var h1 (visB_ok h2) n1 n2
        split at w
        · rename_i xs hc
          obtain ⟨a, e1, m1, m2, vs, e2, r⟩ := n.V.own i _ hc
          have n0 := n.o i _ a hc e1
          refine ws_of (app_ps hx po) ⟨_, e1, .inl ⟨rfl, vs, sq_of e2⟩, ?_⟩
          refine sE e false y X O.toXOk he _ _ _ _ _ _ _ _ n.S n.V w fun v1 d1 cs1 F1 H1 h1 x1 S1 r1 q1 => ?_
          have nn := n.step x1 S1
          have e2' : H1 a = some (.lst vs) := x1.k _ _ e2 m1
          have m1' : a ∉ cs1 := fun z => by have := x1.m a z m1; rw [e2] at this; cases this
          have m2' : F1 a = none := by
            cases w : F1 a with
            | none => rfl
            | some o =>
              have z := x1.n a m2 (by rw [w]; simp)
              rw [e2] at z; cases z
          refine ⟨a, vs, v1, rfl, rfl, e2', by rw [r.length]; exact q1.1, ?_⟩
          have z := nn.setO (i := i) (o := .lst (vs ++ [v1])) (c := .lst (xs ++ [d1])) n0 m1' m2' ⟨_, upd_same, (r.mono x1.f x1.c).append (.cons r1.plain .nil)⟩ (own_old nn.V hc e1)
          rw [set_self e1] at z
          exact d.nx _ _ _ _ _ _ z q1.2
        · exact w.elim
      · cases ha
    · cases hag
  · cases hag
theorem Nt.cellSet (n : Nt K Cl csb Fb cs0 F0 H0 cs F H h σ ρ) {m : Nat} {a : Addr} {c : Cell} {o : HO} (e : cs[m]? = some a) (r : COk K Cl cs F (upd H a o) a c) : Nt K Cl csb Fb cs0 F0 H0 cs F (upd H a o) (h.set m c) σ ρ := by
  have x2 : Stp cs F H cs F (upd H a o) := Stp.chg (List.mem_of_getElem? e)
  exact ⟨n.S.cellSet e r, n.V.step x2, n.x.trans x2, n.o, n.y⟩
theorem st_appE {o e : E} {st : Stmt} (O : SOk C T Cl X) (hag : agS T X.env.scope X.N (.appE o e) st = true) : SS C Cl X (.appE o e) st := fun csb Fb cs0 F0 H0 D D' ρ h σ cs F H d n w => by
  simp only [agS] at hag
  split at hag
  · rename_i x pos
    split at hag
    · rename_i o' y hx
      simp only [Bool.and_eq_true] at hag
      simp only [WpS] at w
      refine ws_of (app_ps hx pe_we) (sE o false o' X O.toXOk hag.1 _ _ _ _ _ _ _ _ n.S n.V w fun v1 d1 cs1 F1 H1 h1 x1 S1 r1 q1 => ?_)
      have n1 := n.step x1 S1
      split at q1
      · rename_i m
        split at q1
        · rename_i xs0 hc0
          have r1 := r1.plain
          cases r1 with
          | adr g1 =>
            rename_i a
            obtain ⟨vs0, g2, g3⟩ := cell_at S1 g1 hc0
            refine ⟨.inl ⟨rfl, vs0, sq_of g2⟩, ?_⟩
            refine sE e false y X O.toXOk hag.2 _ _ _ _ _ _ _ _ S1 n1.V q1 fun v2 d2 cs2 F2 H2 h2 x2 S2 r2 q2 => ?_
            have n2 := n1.step x2 S2
            unfold appC at q2
            split at q2
            · rename_i xs hc
              have g1' : cs2[m]? = some a := let ⟨_, q⟩ := x2.c; get_pre q g1
              obtain ⟨vs, k1, k2⟩ := cell_at S2 g1' hc
              refine ⟨a, vs, v2, rfl, rfl, k1, by rw [k2.length]; exact q2.1, ?_⟩
              exact d.nx _ _ _ _ _ _ (n2.cellSet g1' (show COk X.K Cl cs2 F2 _ a (.lst (xs ++ [d2])) from ⟨_, upd_same, k2.append (.cons r2.plain .nil)⟩)) q2.2
            · exact q2.elim
        · exact q1.elim
      · exact q1.elim
    · cases hag
  · cases hag
/-- o[k] = v by its weakest reading -/
def PSW (X : Cx) : TSet := fun o i v H Q => ∀ (pins : List (Addr × Obj)) (s : Shared) (σ : L2.St) (ov iv u : Value), Inv X pins σ H s → RelV o ov → RelV i iv → RelV v u → wpAny (model X.prog X.w) X.A (setItem ov iv u) (fun _ s' => ∃ H', Inv X pins σ H' s' ∧ Q H') X.xe s
theorem psw_ok : PSet X (PSW X) := fun pins s σ H o i v ov iv u Q I r1 r2 r3 h => h pins s σ ov iv u I r1 r2 r3
theorem psw_of {t : TSet} (p : PSet X t) {o i v : V} {H : Hp} {Q : Hp → Prop} (h : t o i v H Q) : PSW X o i v H Q := fun pins s σ ov iv u I r1 r2 r3 => p pins s σ H o i v ov iv u Q I r1 r2 r3 h
theorem set_dict (hu : X.A.units + 1 < cLine) : PSet X (fun o i v H Q => ∃ a H', o = .ref a ∧ DPut H a i v H' ∧ Q H') := by
  intro pins s σ H o i v ov iv u Q I r1 r2 r3 h
  obtain ⟨a, H', rfl, g, q⟩ := h
  cases r1
  exact d_setItem hu I g r2 r3 fun s' I' => ⟨H', I', q⟩
theorem putC_ok (hu : X.A.units + 1 < cLine) {a : Addr} {c : Cell} {k d : AV} {i v : V} {Q : Cell → Prop} {R : Hp → Prop} {b : Bool} (r : COk X.K Cl cs F H a c) (rk : RepB X.K cs F H b i k) (rv : Rep X.K cs F v d) (q : putC c k d Q)
    (p : ∀ o c', COk X.K Cl cs F (upd H a o) a c' → Q c' → R (upd H a o)) : PSW X (.ref a) i v H R := by
  unfold putC at q
  split at q
  · rename_i xs
    obtain ⟨vs, e1, e2⟩ := r
    split at q
    · cases rk.int
      split at q
      · rename_i j hj
        rw [← e2.length] at hj
        exact psw_of set_list ⟨a, vs, _, j, rfl, rfl, e1, hj, p _ (.lst (xs.set j d)) ⟨_, upd_same, e2.set rv j⟩ q⟩
      · exact q.elim
    · exact q.elim
  · rename_i kvs
    obtain ⟨us, e1, e2⟩ := r
    split at q
    · rename_i kk hk
      cases rk.key hk
      refine psw_of (set_dict hu) ⟨a, _, rfl, .k e1 ?_, p _ (.dct (putD kvs kk d)) ⟨_, upd_same, e2.put rv⟩ q.2⟩
      rw [e2.length, sizeLine_eq]
      have := q.1
      omega
    · exact q.elim
  · exact q.elim
theorem put_ps {o k x : Expr} {to : TE} {pk pos : Pos} (ho : PE X o to) (hk : notSlice k = true) : PS X (.Assign [.Subscript o k pk] x pos) (tAsg (WE X x) (gSub to (WE X k) (PSW X))) := by
  refine ps_asg pe_we (pg_sub ho pe_we psw_ok ?_) ?_ ?_
  · intro _
    cases k <;> first | rfl | cases hk
  · show swapsWith x (some (.Subscript o k pk)) pos.line X.env = pure false
    exact swaps_other (t := .Subscript o k pk) (fun _ _ z => by cases z) _ _
  · cases x <;> rfl
theorem st_put {i : Nat} {k e : E} {st : Stmt} (O : SOk C T Cl X) (hag : agS T X.env.scope X.N (.put i k e) st = true) : SS C Cl X (.put i k e) st := fun csb Fb cs0 F0 H0 D D' ρ h σ cs F H d n w => by
  simp only [agS] at hag
  split at hag
  · rename_i o k' pk x pos
    simp only [Bool.and_eq_true] at hag
    obtain ⟨⟨⟨ha, hk⟩, he⟩, hns⟩ := hag
    unfold agVar at ha
    split at ha
    · rename_i id p'
      simp only [Bool.and_eq_true, decide_eq_true_eq] at ha
      obtain ⟨⟨h1, h2⟩, h3⟩ := ha
      obtain ⟨n1, n2, _⟩ := plainName_ok h3
      simp only [WpS] at w
      split at w
      · rename_i c hc
        obtain ⟨a, e1, m1, m2, r⟩ := n.V.own i _ hc
        have n0 := n.o i _ a hc e1
        refine ws_of (put_ps (pe_var h1 (visB_ok h2) n1 n2) hns) (sE e false x X O.toXOk he _ _ _ _ _ _ _ _ n.S n.V w fun v1 d1 cs1 F1 H1 h1 x1 S1 r1 q1 => ?_)
        refine ⟨_, e1, ?_⟩
        refine sE k false k' X O.toXOk hk _ _ _ _ _ _ _ _ S1 (n.V.step x1) q1 fun v2 d2 cs2 F2 H2 h2 x2 S2 r2 q2 => ?_
        have x12 := x1.trans x2
        have nn := n.step x12 S2
        have hs := r.some
        have m1' : a ∉ cs2 := fun z => hs (x12.m a z m1)
        have m2' : F2 a = none := by
          cases w : F2 a with
          | none => rfl
          | some o => exact absurd (x12.n a m2 (by rw [w]; simp)) hs
        have r' : COk X.K Cl cs2 F2 H2 a c := r.mono x12.f x12.c fun o ho => x12.k a o ho m1
        refine putC_ok (by have := O.units; omega) r' r2 (r1.plain.mono x2.f x2.c) q2 fun o c' g1 g2 => ?_
        have z := nn.setO (i := i) (o := o) (c := c') n0 m1' m2' g1 (own_old nn.V hc e1)
        rw [set_self e1] at z
        exact d.nx _ _ _ _ _ _ z g2
      · exact w.elim
    · cases ha
  · cases hag
theorem st_putE {o k e : E} {st : Stmt} (O : SOk C T Cl X) (hag : agS T X.env.scope X.N (.putE o k e) st = true) : SS C Cl X (.putE o k e) st := fun csb Fb cs0 F0 H0 D D' ρ h σ cs F H d n w => by
  simp only [agS] at hag
  split at hag
  · rename_i o' k' pk x pos
    simp only [Bool.and_eq_true] at hag
    obtain ⟨⟨⟨ho, hk⟩, he⟩, hns⟩ := hag
    simp only [WpS] at w
    refine ws_of (put_ps pe_we hns) (sE e false x X O.toXOk he _ _ _ _ _ _ _ _ n.S n.V w fun v1 d1 cs1 F1 H1 h1 x1 S1 r1 q1 => ?_)
    refine sE o false o' X O.toXOk ho _ _ _ _ _ _ _ _ S1 (n.V.step x1) q1 fun v2 d2 cs2 F2 H2 h2 x2 S2 r2 q2 => ?_
    refine sE k false k' X O.toXOk hk _ _ _ _ _ _ _ _ S2 ((n.V.step x1).step x2) q2 fun v3 d3 cs3 F3 H3 h3 x3 S3 r3 q3 => ?_
    split at q3
    · rename_i m
      have r2 := r2.plain
      cases r2 with
      | adr g1 =>
        rename_i a
        have g1' : cs3[m]? = some a := let ⟨_, q⟩ := x3.c; get_pre q g1
        have x23 := x2.trans x3
        exact putC_ok (by have := O.units; omega) (S3.cell m a g1') r3 (r1.plain.mono x23.f x23.c) q3 fun o c' k1 k2 =>
          d.nx _ _ _ _ _ _ ((n.step ((x1.trans x2).trans x3) S3).cellSet g1' k1) k2
    · exact q3.elim
  · cases hag

theorem st_fld {o e : E} {f : Str} {st : Stmt} (O : SOk C T Cl X) (hag : agS T X.env.scope X.N (.fld o f e) st = true) : SS C Cl X (.fld o f e) st := fun csb Fb cs0 F0 H0 D D' ρ h σ cs F H d n w => by
  simp only [agS] at hag
  split at hag
  · rename_i o' g pk x pos
    simp only [Bool.and_eq_true, decide_eq_true_eq] at hag
    obtain ⟨⟨rfl, ho⟩, he⟩ := hag
    simp only [WpS] at w
    refine ws_of (ps_fld pe_we pe_we (swaps_other (t := .Attribute o' f pk) (fun _ _ z => by cases z) _ _)) (sE e false x X O.toXOk he _ _ _ _ _ _ _ _ n.S n.V w fun v1 d1 cs1 F1 H1 h1 x1 S1 r1 q1 => ?_)
    refine sE o false o' X O.toXOk ho _ _ _ _ _ _ _ _ S1 (n.V.step x1) q1 fun v2 d2 cs2 F2 H2 h2 x2 S2 r2 q2 => ?_
    split at q2
    · rename_i m
      split at q2
      · rename_i c fs hc
        obtain ⟨hf, hl, q2⟩ := q2
        obtain ⟨a, rfl, e2⟩ := Rep.adr_inv r2.plain
        obtain ⟨dx, fvs, e3, r⟩ := obj_at S2 e2 hc
        refine ⟨a, Cl c, dx, fvs, rfl, e3, (O.fld c f hf).1, (O.fld c f hf).2, by rw [r.length]; exact hl, ?_⟩
        exact d.nx _ _ _ _ _ _ ((n.step (x1.trans x2) S2).cellSet e2 (show COk X.K Cl cs2 F2 _ a (.obj c (putFA f d1 fs)) from ⟨dx, _, upd_same, r.put (r1.plain.mono x2.f x2.c)⟩)) q2
      · exact q2.elim
    · exact q2.elim
  · cases hag
theorem st_ite {c : E} {a b : Ss} {x : Expr} {p q : List Stmt} {pos : Pos} (O : SOk C T Cl X) (hc : agE T X.env.scope X.N c x = true) (ha : SSs C Cl X a p) (hb : SSs C Cl X b q) : SS C Cl X (.ite c a b) (.If x p q pos) := fun csb Fb cs0 F0 H0 D D' ρ h σ cs F H d n w => by
  simp only [WpS] at w
  refine ws_of (ps_if pt_we pss_we pss_we) (sT c x X O.toXOk hc _ _ _ _ _ _ _ _ n.S n.V w fun k cs1 F1 H1 h1 x1 S1 q1 => ?_)
  cases k with
  | true =>
    rw [if_pos rfl] at q1 ⊢
    exact ha _ _ _ _ _ _ _ _ _ _ _ _ _ d (n.step x1 S1) q1
  | false =>
    rw [if_neg Bool.false_ne_true] at q1 ⊢
    exact hb _ _ _ _ _ _ _ _ _ _ _ _ _ d (n.step x1 S1) q1
theorem st_wh {c : E} {b : Ss} {x : Expr} {p : List Stmt} {pos : Pos} (O : SOk C T Cl X) (hc : agE T X.env.scope X.N c x = true) (hb : SSs C Cl X b p) : SS C Cl X (.wh c b) (.While x p [] pos) := fun csb Fb cs0 F0 H0 D D' ρ h σ cs F H d n w => by
  simp only [WpS] at w
  obtain ⟨Wv, ⟨m0, w0⟩, turn⟩ := w
  refine ws_of (ps_while O.pass pt_we pss_we) ⟨fun m σ H => ∃ cs F h ρ, Nt X.K Cl csb Fb cs0 F0 H0 cs F H h σ ρ ∧ Wv m ρ h, ⟨m0, cs, F, h, ρ, n, w0⟩, ?_⟩
  rintro m σ' H' ⟨cs', F', h', ρ', n', w'⟩
  refine sT c x X O.toXOk hc _ _ _ _ _ _ _ _ n'.S n'.V (turn m ρ' h' w') fun k cs1 F1 H1 h1 x1 S1 q1 => ?_
  cases k with
  | true =>
    rw [if_pos rfl] at q1 ⊢
    refine ⟨fun σ H => ∃ m', m' < m ∧ ∃ cs F h ρ, Nt X.K Cl csb Fb cs0 F0 H0 cs F H h σ ρ ∧ Wv m' ρ h, fun σ2 H2 hq => hq, ?_⟩
    refine hb _ _ _ _ _ { D with nx := fun ρ' h' => ∃ m', m' < m ∧ Wv m' ρ' h', ct := fun ρ' h' => ∃ m', m' < m ∧ Wv m' ρ' h', bk := D.nx } _ _ _ _ _ _ _ ⟨?_, d.rt, d.nx, ?_⟩ (n'.step x1 S1) q1
    · rintro cs2 F2 H2 h2 σ2 ρ2 n2 ⟨m', hm, w2⟩
      exact ⟨m', hm, cs2, F2, h2, ρ2, n2, w2⟩
    · rintro cs2 F2 H2 h2 σ2 ρ2 n2 ⟨m', hm, w2⟩
      exact ⟨m', hm, cs2, F2, h2, ρ2, n2, w2⟩
  | false =>
    rw [if_neg Bool.false_ne_true] at q1 ⊢
    exact d.nx _ _ _ _ _ _ (n'.step x1 S1) q1
theorem Nt.base (n : Nt K Cl csb Fb cs0 F0 H0 cs F H h σ ρ) : Nt K Cl cs F cs0 F0 H0 cs F H h σ ρ := ⟨n.S, n.V, n.x, n.o, fun _ _ z => z, [], by simp⟩
theorem Nt.unbase {cs1 : List Addr} {F1 : Hp} (n : Nt K Cl cs1 F1 cs0 F0 H0 cs F H h σ ρ) (y : Ex Fb F1 ∧ ∃ r, cs1 = csb ++ r) : Nt K Cl csb Fb cs0 F0 H0 cs F H h σ ρ := ⟨n.S, n.V, n.x, n.o, y.1.trans n.y.1, by
  obtain ⟨r, e⟩ := n.y.2
  obtain ⟨r2, e2⟩ := y.2
  exact ⟨r2 ++ r, by rw [e, e2, List.append_assoc]⟩⟩
theorem nt_tg {σ : L2.St} {ρ : Env} {tg : Tg} {d : AV} {v : L2.V} {Q : Env → Prop} {R : L2.St → Hp → Prop} (n : Nt K Cl csb Fb cs0 F0 H0 cs F H h σ ρ) (r : Rep K cs F v d) (w : tgK tg d ρ Q)
    (k : ∀ σ' ρ', Nt K Cl csb Fb cs0 F0 H0 cs F H h σ' ρ' → Q ρ' → R σ' H) : gOf K tg v σ H R := by
  cases tg with
  | nm i => exact k _ _ (n.setV r) w
  | tup is =>
    unfold tgK at w
    simp only at w
    split at w
    · rename_i xs
      split at w
      · rename_i ρ' hs2
        cases r with
        | tup g1 g2 =>
          rename_i a vs
          have hl : ∀ {is : List Nat} {xs : List AV} {ρ : Env}, setsS ρ is xs = some ρ' → xs.length = is.length := by
            intro is
            induction is with
            | nil => intro xs ρ h; cases xs <;> simp [setsS] at h ⊢
            | cons i is ih => intro xs ρ h; cases xs <;> simp [setsS] at h ⊢; exact ih h
          refine ⟨a, vs, rfl, ex_t n.S.sub g1, by rw [g2.length, hl hs2], ?_⟩
          have go : ∀ {is : List Nat} {xs : List AV} {vs : List L2.V} {σ : L2.St} {ρ : Env}, Nt K Cl csb Fb cs0 F0 H0 cs F H h σ ρ → Reps K cs F vs xs → setsS ρ is xs = some ρ' → gNames is vs σ H R := by
            intro is
            induction is with
            | nil =>
              intro xs vs σ ρ n r e
              cases r with
              | nil => simp [setsS] at e; subst e; exact ⟨rfl, k _ _ n w⟩
              | cons _ _ => simp [setsS] at e
            | cons i is ih =>
              intro xs vs σ ρ n r e
              cases r with
              | nil => simp [setsS] at e
              | cons r rs =>
                simp only [setsS] at e
                exact ⟨_, _, rfl, ih (n.setV r) rs e⟩
          exact go n g2 hs2
      · exact w.elim
    · exact w.elim
theorem st_for {tg : Tg} {it : It} {b : Ss} {t x : Expr} {p : List Stmt} {pos : Pos} (O : SOk C T Cl X) (ht : agTg X.env.scope X.env.scope X.N tg t = true) (hi : agI T X.env.scope X.N it x = true) (hs : notSet x = true) (ho : ∀ i, it ≠ .own i)
    (hb : SSs C Cl X b p) : SS C Cl X (.for tg it b) (.For t x p [] pos) := fun csb Fb cs0 F0 H0 D D' ρ h σ cs F H d n w => by
  simp only [WpS] at w
  refine ws_of (ps_for O.pass O.calm pi_we (pg_ok O.nd O.calm O.sto ht) pss_we (folded_of hs _)) ?_
  refine sI it false t x X O.toXOk hi (fun ⟨i, e⟩ => absurd e (ho i)) _ _ _ _ _ _ _ _ n.S n.V w fun J items chk G Y cs1 F1 H1 h1 x1 S1 wk hG hY q1 => ?_
  have n1 := n.step x1 S1
  refine for_it wk (fun i σ' H' => ∃ cs2 F2 h2 ρ2, Nt X.K Cl cs1 F1 cs0 F0 H0 cs2 F2 H' h2 σ' ρ2 ∧ forL (fun x D ρ h => tgK tg x ρ fun ρ' => WpSs C b D ρ' h) chk D (items.drop i) ρ2 h2) ?_ ?_ ?_ ?_
  · exact ⟨cs1, F1, h1, ρ, n1.base, q1⟩
  · rintro i σ' H' hi ⟨cs2, F2, h2, ρ2, n2, q2⟩
    refine hG cs2 F2 H' h2 n2.y n2.S ?_
    cases hd : items.drop i with
    | nil => rw [hd] at q2; exact q2.1
    | cons z r => rw [hd] at q2; exact q2.1
  · rintro i v σ' H' H3 hi ⟨cs2, F2, h2, ρ2, n2, q2⟩ hy
    rw [List.drop_eq_getElem_cons hi] at q2
    obtain ⟨ck, q2⟩ := q2
    obtain ⟨F3, x3, S3, rv⟩ := hY i H' v H3 cs2 F2 h2 _ n2.S n2.y.1 n2.y.2 (List.getElem?_eq_getElem hi) ck hy
    have n3 := n2.step x3 S3
    refine nt_tg n3 rv q2 fun σ4 ρ4 n4 q4 => ?_
    refine hb _ _ _ _ _ { D with nx := forL (fun x D ρ h => tgK tg x ρ fun ρ' => WpSs C b D ρ' h) chk D (items.drop (i + 1)), ct := forL (fun x D ρ h => tgK tg x ρ fun ρ' => WpSs C b D ρ' h) chk D (items.drop (i + 1)), bk := D.nx } _ _ _ _ _ _ _ ⟨?_, d.rt, ?_, ?_⟩ n4 q4
    · intro cs5 F5 H5 h5 σ5 ρ5 n5 q5
      exact ⟨cs5, F5, h5, ρ5, n5, q5⟩
    · intro cs5 F5 H5 h5 σ5 ρ5 n5 q5
      exact d.nx _ _ _ _ _ _ (n5.unbase n1.y) q5
    · intro cs5 F5 H5 h5 σ5 ρ5 n5 q5
      exact ⟨cs5, F5, h5, ρ5, n5, q5⟩
  · rintro σ' H' ⟨cs2, F2, h2, ρ2, n2, q2⟩
    rw [List.drop_of_length_le (Nat.le_refl _)] at q2
    exact d.nx _ _ _ _ _ _ (n2.unbase n1.y) q2.2
end

/-! ### every statement that agrees -/
section
variable {C : Ctx} {T : Tab} {Cl : Nat → Addr} {X : Cx}
theorem agSs_cons {sc : Scope} {N : List Str} {s : S} {r : Ss} {st : List Stmt} (h : agSs T sc N (.cons s r) st = true) : (∃ i, s = .frz i ∧ agSs T sc N r st = true) ∨ ∃ x xs, st = x :: xs ∧ agS T sc N s x = true ∧ agSs T sc N r xs = true := by
  cases s with
  | frz i => exact .inl ⟨i, rfl, by simpa only [agSs] using h⟩
  | _ =>
    right
    cases st with
    | nil => simp [agSs] at h
    | cons x xs =>
      simp only [agSs, Bool.and_eq_true] at h
      exact ⟨_, _, rfl, h.1, h.2⟩
mutual
theorem sS (O : SOk C T Cl X) (hk : X.env.scope.kind = .function) : ∀ (s : S) (st : Stmt), agS T X.env.scope X.N s st = true → SS C Cl X s st
  | .asg tg e, st, h => st_asg O hk h
  | .asgO i n, st, h => st_asgO O hk h
  | .frz i, st, h => by simp [agS] at h
  | .par _ _ _ _, st, h => by simp [agS] at h
  | .aug i op e, st, h => st_aug O h
  | .app i e, st, h => st_app O h
  | .appE o e, st, h => st_appE O h
  | .put i k e, st, h => st_put O h
  | .putE o k e, st, h => st_putE O h
  | .fld o f e, st, h => st_fld O h
  | .expr e, st, h => fun csb Fb cs0 F0 H0 D D' ρ h' σ cs F H d n w => by
    simp only [agS] at h
    split at h
    · simp only [Bool.and_eq_true] at h
      simp only [WpS] at w
      exact ws_of (ps_expr pe_we (swaps_plain h.2 _ _ _)) (sE e false _ X O.toXOk h.1 _ _ _ _ _ _ _ _ n.S n.V w fun v1 d1 cs1 F1 H1 h1 x1 S1 r1 q1 => d.nx _ _ _ _ _ _ (n.step x1 S1) q1)
    · cases h
  | .ret e, st, h => fun csb Fb cs0 F0 H0 D D' ρ h' σ cs F H d n w => by
    simp only [agS] at h
    split at h
    · simp only [WpS] at w
      exact ws_of (ps_ret pe_we) (sE e false _ X O.toXOk h _ _ _ _ _ _ _ _ n.S n.V w fun v1 d1 cs1 F1 H1 h1 x1 S1 r1 q1 => d.rt _ _ _ _ _ _ (n.x.trans x1) S1 r1.plain q1)
    · cases h
  | .retN, st, h => fun csb Fb cs0 F0 H0 D D' ρ h' σ cs F H d n w => by
    simp only [agS] at h
    split at h
    · simp only [WpS] at w
      exact ws_of ps_retN (d.rt _ _ _ _ _ _ n.x n.S .non w)
    · cases h
  | .ite c a b, st, h => by
    simp only [agS] at h
    split at h
    · simp only [Bool.and_eq_true] at h
      exact st_ite O h.1.1 (sSs O hk a _ h.1.2) (sSs O hk b _ h.2)
    · cases h
  | .wh c b, st, h => by
    simp only [agS] at h
    split at h
    · simp only [Bool.and_eq_true] at h
      exact st_wh O h.1 (sSs O hk b _ h.2)
    · cases h
  | .for tg it b, st, h => by
    simp only [agS] at h
    split at h
    · simp only [Bool.and_eq_true] at h
      obtain ⟨⟨⟨⟨h1, h2⟩, h3⟩, h4⟩, h5⟩ := h
      refine st_for O h1 h2 h3 ?_ (sSs O hk b _ h5)
      intro i e
      subst e
      cases h4
    · cases h
  | .pass, st, h => fun csb Fb cs0 F0 H0 D D' ρ h' σ cs F H d n w => by
    simp only [agS] at h
    split at h
    · simp only [WpS] at w
      exact ws_of ps_pass (d.nx _ _ _ _ _ _ n w)
    · cases h
  | .brk, st, h => fun csb Fb cs0 F0 H0 D D' ρ h' σ cs F H d n w => by
    simp only [agS] at h
    split at h
    · simp only [WpS] at w
      exact ws_of ps_break (d.bk _ _ _ _ _ _ n w)
    · cases h
  | .cont, st, h => fun csb Fb cs0 F0 H0 D D' ρ h' σ cs F H d n w => by
    simp only [agS] at h
    split at h
    · simp only [WpS] at w
      exact ws_of ps_continue (d.ct _ _ _ _ _ _ n w)
    · cases h
theorem sSs (O : SOk C T Cl X) (hk : X.env.scope.kind = .function) : ∀ (s : Ss) (st : List Stmt), agSs T X.env.scope X.N s st = true → SSs C Cl X s st
  | .nil, st, h => fun csb Fb cs0 F0 H0 D D' ρ h' σ cs F H d n w => by
    simp only [agSs] at h
    split at h
    · simp only [WpSs] at w
      exact wss_of pss_nil (d.nx _ _ _ _ _ _ n w)
    · cases h
  | .cons s r, st, h => fun csb Fb cs0 F0 H0 D D' ρ h' σ cs F H d n w => by
    simp only [WpSs] at w
    rcases agSs_cons h with ⟨i, rfl, h⟩ | ⟨x, xs, rfl, h1, h2⟩
    · simp only [WpS] at w
      split at w
      · rename_i xs hx
        obtain ⟨F', n'⟩ := n.frz hx (.inl ⟨xs, rfl, rfl⟩)
        exact sSs O hk r st h _ _ _ _ _ _ _ _ _ _ _ _ _ d n' w
      · rename_i xs hx
        obtain ⟨F', n'⟩ := n.frz hx (.inr ⟨xs, rfl, rfl⟩)
        exact sSs O hk r st h _ _ _ _ _ _ _ _ _ _ _ _ _ d n' w
      · exact w.elim
    · refine wss_of (pss_cons ps_we pss_we) (sS O hk s _ h1 _ _ _ _ _ _ { D' with nx := WSs X _ D' } _ _ _ _ _ _ (d.seq fun cs2 F2 H2 h2' σ2 ρ2 n2 q2 => ?_) n w)
      exact sSs O hk r _ h2 _ _ _ _ _ _ _ _ _ _ _ _ _ d n2 q2
end
end
end VL

set_option maxRecDepth 100000
set_option maxHeartbeats 4000000
/-! VL: a program's defs keep what the transformers say; the end of a law. -/
namespace VL
open PySem L2 Evl PyProof.Rows PySem.Spec

/-! ### the scope of a def, by one check -/
def scB (N ps : List Str) (sc : Scope) : Bool :=
  (match sc.kind with | .function => true | _ => false) && !sc.isCoroutine && !sc.isGenerator && decide N.Nodup && decide (N.take ps.length = ps) && ps.all (fun x => locB sc x) && sc.names.all (fun y => decide (y.2 ≠ .free))
theorem scB_ok {N ps : List Str} {sc : Scope} (h : scB N ps sc = true) : FnScope N ps sc := by
  unfold scB at h
  simp only [Bool.and_eq_true, Bool.not_eq_true', decide_eq_true_eq, List.all_eq_true] at h
  obtain ⟨⟨⟨⟨⟨⟨h1, h2⟩, h3⟩, h4⟩, h5⟩, h6⟩, h7⟩ := h
  refine ⟨?_, h2, h3, h4, h5, fun x hx => ?_, fun y hy => h7 y hy⟩
  · split at h1
    · assumption
    · cases h1
  · rcases locB_ok (h6 x hx) with q | q
    · exact .inl q
    · exact .inr q
/-- a def of the text and what it is in our syntax -/
structure FnT where
  name : Str
  st : Stmt
  N : List Str
  ps : List Str
def agF (T : Tab) (t : FnT) (F : Fn) : Bool := scB t.N t.ps (defScope t.st) && agSs T (defScope t.st) t.N F.body (defBody t.st) && decide (t.N.length = F.ns) && decide (t.ps.length = F.np)

structure PFacts (P : Prg) (T : Tab) (Cl : Nat → Addr) (ts : Nat → Option FnT) (K : PySem.W.Frag) (mg : Str → Option Value) : Prop where
  blt : ∀ x, x ∈ bltNames → mg x = none
  glob : ∀ g d, P.glob[g]? = some d → ∃ u v, mg (T.gname g) = some u ∧ RelV v u ∧ ∀ cs F, Rep K cs F v d
  fn : ∀ f F, P.fns[f]? = some F → ∃ t a fd qual, ts f = some t ∧ Fun K t.name qual t.st a fd ∧ agF T t F = true ∧ Binds K fd t.ps [] ∧ ∀ x, T.fname f = some x → mg x = some (.ref a) ∧ PySem.W.keepIn K (.ref a) = true
  fnm : ∀ f x, T.fname f = some x → ∃ F, P.fns[f]? = some F
  cls : ∀ c x, T.cname c = some x → ∃ f F t a fd qual, P.init.lookup c = some f ∧ P.fns[f]? = some F ∧ ts f = some t ∧ Fun K t.name qual t.st a fd ∧ agF T t F = true ∧ Binds K fd t.ps [] ∧ mg x = some (.ref (Cl c)) ∧ Mk K (Cl c) a
  mth : ∀ c m f, P.meth.lookup (c, m) = some f → ∃ F t a fd qual, P.fns[f]? = some F ∧ ts f = some t ∧ Fun K t.name qual t.st a fd ∧ agF T t F = true ∧ Binds K fd t.ps [] ∧ Cls K (Cl c) ∧ Meth K (Cl c) m a
  fld : ∀ c f, P.flds.contains (c, f) = true → Cls K (Cl c) ∧ NoAttr K (Cl c) f

section
variable {prog : Program} {w : World} {K : PySem.W.Frag} {mg : Str → Option Value} {base : Heap} {P : Prg} {T : Tab} {Cl : Nat → Addr} {ts : Nat → Option FnT}
theorem getS_start {ds : List AV} : ∀ {vs : List V} {cs : List Addr} {F : Hp} {k i : Nat} {d : AV}, Reps K cs F vs ds → getS (ds.map Slot.val ++ List.replicate k Slot.no) i = .val d → ∃ v, vs[i]? = some v ∧ Rep K cs F v d := by
  induction ds with
  | nil =>
    intro vs cs F k i d r h
    have : ∀ (k i : Nat), getS (List.replicate k Slot.no) i = .no := by
      intro k
      induction k with
      | zero => intro i; rfl
      | succ k ih => intro i; cases i with
        | zero => rfl
        | succ i => exact ih i
    rw [List.map_nil, List.nil_append, this] at h
    cases h
  | cons x ds ih =>
    intro vs cs F k i d r h
    cases r with
    | cons r rs =>
      cases i with
      | zero => cases h; exact ⟨_, rfl, r⟩
      | succ i =>
        obtain ⟨v, h1, h2⟩ := ih (i := i) rs h
        exact ⟨v, by simpa using h1, h2⟩
theorem getS_startO {ds : List AV} : ∀ {k i : Nat} {c : Cell}, getS (ds.map Slot.val ++ List.replicate k Slot.no) i ≠ .own c := by
  induction ds with
  | nil =>
    intro k
    induction k with
    | zero => intro i c h; cases h
    | succ k ih => intro i c h; cases i with
      | zero => cases h
      | succ i => exact ih h
  | cons x ds ih =>
    intro k i c h
    cases i with
    | zero => cases h
    | succ i => exact ih h
theorem env_start {cs : List Addr} {F H : Hp} {N : List Str} {vs : List V} {ds : List AV} {ns : Nat} (hn : N.length = ns) (hl : vs.length ≤ N.length) (r : Reps K cs F vs ds) : EnvOk K Cl cs F H (L2.start N vs) (ds.map Slot.val ++ List.replicate (ns - ds.length) Slot.no) where
  len := by
    unfold L2.start
    simp only [List.length_append, List.length_map, List.length_replicate]
    rw [r.length, hn]
  val := fun i d h => by
    obtain ⟨v, h1, h2⟩ := getS_start r h
    refine ⟨v, ?_, h2⟩
    unfold L2.start
    rw [List.getElem?_append_left (by simpa using (List.getElem?_eq_some_iff.mp h1).1), List.getElem?_map, h1]
    rfl
  own := fun i c h => absurd h getS_startO
  dis := fun i j c c' a _ h => absurd h getS_startO
/-- every def, to any depth -/
theorem fn_all (hF : PFacts P T Cl ts K mg) : ∀ (n f : Nat) (F : Fn), P.fns[f]? = some F → ∀ (t : FnT) (a : Addr) (fd : FuncData) (qual : Str), ts f = some t → Fun K t.name qual t.st a fd → agF T t F = true →
    FnG prog w K mg base (2 * n) a fd t.ps (spOf K Cl (ctxOf P (callN P n)) f)
  | 0, f, F, hf, t, a, fd, qual, ht, hfun, hag =>
    ⟨fun vs H Q E ⟨_, _, _, _, _, _, _, z, _⟩ => (show False from z).elim, fun A outer s H args us vs Q E _ _ _ _ _ ⟨_, _, _, _, _, _, _, z, _⟩ => (show False from z).elim⟩
  | n + 1, f, F, hf, t, a, fd, qual, ht, hfun, hag => by
    unfold agF at hag
    simp only [Bool.and_eq_true, decide_eq_true_eq] at hag
    obtain ⟨⟨⟨h1, h2⟩, h3⟩, h4⟩ := hag
    have sc := scB_ok h1
    have call : ∀ ds h Qa, callN P (n + 1) f ds h Qa → ds.length = F.np ∧ WpSs (ctxOf P (callN P n)) F.body { nx := fun _ h => Qa .non h, rt := Qa } (startS F ds) h := fun ds h Qa z => by
      have z' : (match P.fns[f]? with | none => False | some F => ds.length = F.np ∧ WpSs (ctxOf P (callN P n)) F.body { nx := fun _ h => Qa .non h, rt := Qa } (startS F ds) h) := z
      rw [hf] at z'
      exact z'
    refine FnG.of_body (k := 2 * n + 1) hfun sc (fun vs H Q E ⟨cs, F', h, ds, Qa, _, r, z, _⟩ => ?_) (fun cdv A outer s H vs Q E hgd hr ⟨cs, F', h, ds, Qa, S, r, z, k⟩ => ?_)
    · rw [r.length, (call _ _ _ z).1, h4]
    · obtain ⟨z1, z2⟩ := call _ _ _ z
      have hN : vs.length ≤ t.N.length := by
        have := congrArg List.length sc.pre
        rw [List.length_take] at this
        rw [r.length, z1, ← h4]
        omega
      refine ⟨WSs _ (defBody t.st), pss_we, ?_⟩
      have O : SOk (ctxOf P (callN P n)) T Cl (cxOf CX0 prog w K mg base t.N qual (defScope t.st) a cdv A outer s H E).nox := by
        refine ⟨⟨sc.nd, rfl, ?_, hgd, hF.blt, hF.glob, fun g x hg => ?_, fun c x hx => ?_, fun c m g hx => ?_, hF.fld⟩, PassesOwn.never, fun id hid => ?_⟩
        · have := hr.un
          show (A.deeper (envOfC qual (defScope t.st) s.heap.objs.size a cdv)).units + 65 < cLine
          omega
        · obtain ⟨G, hG⟩ := hF.fnm g x hg
          obtain ⟨t', a', fd', qual', e1, e2, e3, e4, e5⟩ := hF.fn g G hG
          exact ⟨2 * n, a', fd', t'.ps, fn_all hF n g G hG t' a' fd' qual' e1 e2 e3, hr.mono (by omega), (e5 x hg).1, (e5 x hg).2, e4⟩
        · obtain ⟨g, G, t', a', fd', qual', e0, hG, e1, e2, e3, e4, e5, e6⟩ := hF.cls c x hx
          exact ⟨g, 2 * n, a', fd', t'.ps, e0, fn_all hF n g G hG t' a' fd' qual' e1 e2 e3, hr.mono (by omega), e5, e6, e4⟩
        · obtain ⟨G, t', a', fd', qual', hG, e1, e2, e3, e4, e5, e6⟩ := hF.mth c m g hx
          exact ⟨2 * n, a', fd', t'.ps, fn_all hF n g G hG t' a' fd' qual' e1 e2 e3, hr.mono (by omega), e5, e6, e4⟩
        · unfold tgN at hid
          simp only [Bool.or_eq_true, Bool.and_eq_true, decide_eq_true_eq] at hid
          rcases hid with hid | hid
          · exact ⟨.inl hid.1, .inl rfl⟩
          · exact ⟨.inr hid.1, .inl rfl⟩
      refine sSs O sc.kind F.body (defBody t.st) h2 cs F' cs F' H { nx := fun _ h => Qa .non h, rt := Qa } _ (startS F ds) h (L2.start t.N vs) cs F' H ⟨?_, ?_, ?_, ?_⟩ ⟨S, ?_, .refl, ?_, fun _ _ z => z, [], by simp⟩ z2
      · intro cs2 F2 H2 h2 σ2 ρ2 n2 q2
        exact k _ _ _ _ _ _ n2.x n2.S .non q2
      · intro v d cs2 F2 H2 h2 x2 S2 r2 q2
        exact k _ _ _ _ _ _ x2 S2 r2 q2
      · intro cs2 F2 H2 h2 σ2 ρ2 n2 q2
        exact q2.elim
      · intro cs2 F2 H2 h2 σ2 ρ2 n2 q2
        exact q2.elim
      · exact env_start h3 hN r
      · intro i c a' hh
        exact absurd hh getS_startO
end

/-! ### constants of the module -/
theorem relV_of {u : Value} {v : V} (h : absV u = some v) : RelV v u := by
  cases u <;> simp [absV] at h <;> subst h <;> first | rfl | exact ⟨_, rfl⟩
def valsOf : List Value → Option (List V)
  | [] => some []
  | u :: us => match absV u, valsOf us with
    | some v, some vs => some (v :: vs)
    | _, _ => none
theorem vals_of : ∀ {us : List Value} {vs : List V}, valsOf us = some vs → Vals vs us
  | [], vs, h => by simp [valsOf] at h; subst h; exact .nil
  | u :: us, vs, h => by
    simp only [valsOf] at h
    split at h
    · rename_i v vs' h1 h2
      cases h
      exact .cons (relV_of h1) (vals_of h2)
    · cases h
/-- plain items -/
def flatOf : List V → Option (List AV)
  | [] => some []
  | .non :: r => (flatOf r).map (.non :: ·)
  | .bl b :: r => (flatOf r).map (.bl b :: ·)
  | .int b :: r => (flatOf r).map (.int b :: ·)
  | .str b :: r => (flatOf r).map (.str b :: ·)
  | _ => none
theorem flat_reps {K : PySem.W.Frag} {cs : List Addr} {F : Hp} : ∀ {vs : List V} {ds : List AV}, flatOf vs = some ds → Reps K cs F vs ds
  | [], ds, h => by simp [flatOf] at h; subst h; exact .nil
  | v :: vs, ds, h => by
    cases v <;> simp [flatOf] at h <;> obtain ⟨l, h1, h2⟩ := h <;> subst h2 <;> refine .cons ?_ (flat_reps h1)
    · exact .non
    · exact .bl _
    · exact .int _
    · exact .str _
/-- a tuple of plain items that stands in the written part -/
theorem tup_glob {K : PySem.W.Frag} {a : Addr} {od : Option Addr} {its : Array Value} {n : Nat} {sl : Array (Option Value)} {vs : List V} {ds : List AV} (l : K.lookup a = some ⟨.type "tuple", od, .seq its n, sl⟩) (hz : its.size ≤ sizeLine)
    (hv : valsOf its.toList = some vs) (hd : flatOf vs = some ds) : ∀ cs F, Rep K cs F (.ref a) (.tup ds) := fun cs F =>
  .tup (.inr ⟨_, its, n, l, rfl, rfl, hz, vals_of hv⟩) (flat_reps hd)

/-! ### the end of a law -/
theorem law_sp {K : PySem.W.Frag} {Cl : Nat → Addr} {P : Prg} {n fl : Nat} (h : ∀ ns : List Int, ns.length ≤ 63 → callN P n fl [.ro (ns.map AV.int)] [] fun d _ => d = .bl true) :
    ∀ (H : Hp) (a : Addr) (ns : List Int), ns.length ≤ 63 → Only H → SqL K H a (ns.map V.int) → spOf K Cl (ctxOf P (callN P n)) fl [.ref a] H (fun v _ => v = .bl true) fun _ _ _ => False := by
  intro H a ns hl _ hS
  have S : StOk K Cl [] H H [] := ⟨fun _ _ z => z, rfl, by simp, fun n a q => by simp at q, fun a q => by simp at q⟩
  have rs : Reps K [] H (ns.map V.int) (ns.map AV.int) := by
    clear hS hl
    induction ns with
    | nil => exact .nil
    | cons n ns ih => exact .cons (.int n) ih
  refine ⟨[], H, [], [.ro (ns.map AV.int)], fun d _ => d = .bl true, S, .cons (.ro hS rs) .nil, h ns hl, fun v d cs' F' H' h' _ _ r q => ?_⟩
  subst q
  cases r
  rfl
/-- the head of a law whose def keeps what FnG says -/
theorem head_G {P : Program} {W : World} {K : PySem.W.Frag} {gl mb : Str → Option Value} {k : Nat} {fa a : Addr} {fd : FuncData} {x : Str} {sp : Sp} {s1 : Shared} {vs : List Value} {ns : List Int}
    (KX : K.In s1.heap) (hns : s1.heap.Ns mainGlobals gl) (hb : s1.heap.Ns builtinsNs mb) (hbb : ∀ x : Str, x ≠ "__name__" → mb x = bootBuiltins x) (hlim : s1.heap.NoLimit) (hg : s1.gens = #[])
    (ha : s1.heap.get? a = some ⟨.type "list", none, .seq vs.toArray 0, #[]⟩) (hi : IntsAre vs ns) (hl : ns.length ≤ sizeLine) (room : Room k callerA)
    (F : ∀ B : Heap, K.In B → B.Ns mainGlobals gl → FnG P W K gl B k fa fd [x] sp) (bnd : ∀ (s : Shared) (u : Value), BindsTo s fd ⟨[u], []⟩ [(x, u)])
    (want : ∀ H : Hp, Only H → SqL K H a (ns.map V.int) → sp [.ref a] H (fun v _ => v = .bl true) fun _ _ _ => False) :
    codeAny (model P W) callerA (.call (.ref fa) ⟨[.ref a], []⟩) (fun r s2 => r = .ok (.ret (.bool true)) ∧ OldK s1.heap s2.heap ∧ s2.os = s1.os ∧ AllBare s2.gens) s1 := by
  have rel : Vals (ns.map V.int) vs := vals_ints hi
  have core : ∀ H : Hp, Only H → SqL K H a (ns.map V.int) → HOk P W H s1.heap → (∀ b, H b ≠ none → b = a ∧ K.lookup a = none) →
      codeAny (model P W) callerA (.call (.ref fa) ⟨[.ref a], []⟩) (fun r s2 => r = .ok (.ret (.bool true)) ∧ OldK s1.heap s2.heap ∧ s2.os = s1.os ∧ AllBare s2.gens) s1 := by
    intro H only sq ok at_
    have off : ∀ b o es ep, s1.heap.get? b = some o → o.data = .dict es ep → H b = none := by
      intro b o es ep e d
      apply Classical.byContradiction
      intro z
      obtain ⟨rfl, _⟩ := at_ b z
      rw [ha] at e
      cases e
      cases d
    have nsH : ∀ b m, s1.heap.Ns b m → (hidT s1.heap H).Ns b m := by
      rintro b m ⟨o, es, ep, e, d, r⟩
      exact ⟨o, es, ep, hidT_get e (off b o es ep e d), d, r⟩
    have inK : K.In (hidT s1.heap H) := by
      intro b o e
      refine hidT_get (KX b o e) (Classical.byContradiction fun z => ?_)
      obtain ⟨rfl, n⟩ := at_ b z
      rw [n] at e
      cases e
    obtain ⟨mc, c1, c2⟩ := hlim
    have md : Mod K gl (hidT s1.heap H) := ⟨inK, nsH _ _ hns, ⟨mb, nsH _ _ hb, hbb⟩, ⟨mc, nsH _ _ c1, c2⟩⟩
    have nofr : ∀ b, b ∈ frs [] → False := fun b z => by cases z
    have env : Env0 P W K gl (hidT s1.heap H) callerA [] s1 H := by
      refine ⟨rfl, md, fun b o e => of_hidT e, ?_, trivial, fun b z => (nofr b z).elim, ok, .of_eq hg⟩
      rw [hidT_size]
      exact Nat.le_refl _
    refine codeAny_mono ((F _ inK (nsH _ _ hns)).go callerA [] s1 H ⟨[.ref a], []⟩ [.ref a] [.ref a] _ _ rfl room env (bnd s1 (.ref a)) (.cons rfl .nil) (want H only sq)) ?_
    intro r s2 z
    match r, z with
    | .ok (.ret u), ⟨v, H2, os, bare, un, ok2, rv, q⟩ =>
      have q : v = .bl true := q
      subst q
      have rv : u = Value.bool true := rv
      subst rv
      refine ⟨rfl, OldK.of_keep ?_, os, bare⟩
      intro b o e
      cases hb : H b with
      | none => exact un.keep b o e hb (fun z => nofr b z) (by simp)
      | some y =>
        rcases only b with z | ⟨ob, xs, z⟩
        · rw [hb] at z; cases z
        · have f1 := (ok b _ z).1
          have f2 := (ok2 b _ (un.frzs b ob _ z)).1
          rw [e] at f1
          cases f1
          exact f2
    | .ok .next, z => exact z.elim
    | .ok .brk, z => exact z.elim
    | .ok .cont, z => exact z.elim
    | .error _, z => exact z.elim
  cases at_ : K.lookup a with
  | some o =>
    have e := KX a o at_
    rw [ha] at e
    cases e
    refine core (fun _ => none) (fun _ => .inl rfl) (.inr ⟨_, vs.toArray, 0, at_, rfl, rfl, rfl, ?_, by simpa using rel⟩) (fun b u z => nomatch z) fun b z => absurd rfl z
    rw [List.size_toArray, hi.length]
    exact hl
  | none =>
    have me : (fun b => if b = a then some (HO.frz ⟨.type "list", none, .seq vs.toArray 0, #[]⟩ (.lst (ns.map V.int))) else none) a = some (HO.frz ⟨.type "list", none, .seq vs.toArray 0, #[]⟩ (.lst (ns.map V.int))) := if_pos rfl
    have no : ∀ b, b ≠ a → (fun b => if b = a then some (HO.frz ⟨.type "list", none, .seq vs.toArray 0, #[]⟩ (.lst (ns.map V.int))) else none) b = none := fun b z => if_neg z
    refine core _ (fun b => ?_) (.inl (.inr ⟨_, me⟩)) (fun b u z => ?_) fun b z => ⟨Classical.byContradiction fun n => z (no b n), at_⟩
    · by_cases n : b = a
      · subst n; exact .inr ⟨_, _, me⟩
      · exact .inl (no b n)
    · by_cases n : b = a
      · subst n
        cases me.symm.trans z
        exact ⟨ha, by rw [List.length_map]; exact hl, vs, _, rel, ha⟩
      · cases (no b n).symm.trans z
theorem walk_G {l : PySem.W.OpenLaw} {n k : Nat} {q : Program} {loose : List Str} {XP : (Str → Option Value) → Heap → Prop} {YP : World → Heap → Prop} {d : DefRec} {K : Params → PySem.W.Frag} {x : Str}
    (hn : l.most = some n) (hn2 : n ≤ sizeLine) (hdf : d.params.defaults = []) (room : Room k callerA) (hY : ∀ (w : World) (h : Heap), YP w h → (K w.params).In h)
    (F : ∀ (w : World) (gl : Str → Option Value) (fa : Addr) (h : Heap), (K w.params).In h → h.Ns mainGlobals gl → gl d.name = some (.ref fa) →
      ∃ (fd : FuncData) (sp : Sp), (∀ (s : Shared) (u : Value), BindsTo s fd ⟨[u], []⟩ [(x, u)]) ∧ (∀ B : Heap, (K w.params).In B → B.Ns mainGlobals gl → FnG l.prog w (K w.params) gl B k fa fd [x] sp) ∧
        ∀ (H : Hp) (a : Addr) (ns : List Int), ns.length ≤ n → Only H → SqL (K w.params) H a (ns.map V.int) → sp [.ref a] H (fun v _ => v = .bl true) fun _ _ _ => False) :
    PySem.W.WalkO q loose XP YP l.row.toRowW d [] (fun f vs => PySem.call f vs) := by
  refine Att.attach_call hn hdf fun w s0 s1 gl mb fa o pm cd dc a vs ns G Y ho hd hcd hm hobj hints hlen hg => ?_
  have KX := hY w s1.heap Y
  obtain ⟨fd, sp, bnd, hF, want⟩ := F w gl fa s1.heap KX G.T.g hm
  exact head_G KX G.T.g G.T.b G.T.builtins G.T.nolimit hg hobj hints (Nat.le_trans hlen hn2) room hF bnd fun H hO hS => want H a ns hlen hO hS
end VL

set_option maxRecDepth 100000
set_option maxHeartbeats 4000000
/-! VL: reasoning over the transformers. -/
namespace VL
open PySem L2

section
variable {h : AHeap} {Q : KA} {i j : Int} {x y : AV} {s t : Str} {b c : Bool} {xs ys : List AV}
theorem k_add : binK h .Add (.int i) (.int j) Q = Q (.int (i + j)) := rfl
theorem k_addS : binK h .Add (.str s) (.str t) Q = (s.length + t.length ≤ sizeLine ∧ Q (.str (s ++ t))) := rfl
theorem k_addT : binK h .Add (.tup xs) (.tup ys) Q = (xs.length + ys.length ≤ sizeLine ∧ Q (.tup (xs ++ ys))) := rfl
theorem k_sub : binK h .Sub (.int i) (.int j) Q = Q (.int (i - j)) := rfl
theorem k_mul : binK h .Mult (.int i) (.int j) Q = (CMulA i j ∧ Q (.int (i * j))) := rfl
theorem k_mulS : binK h .Mult (.str s) (.int j) Q = ((-(2 ^ 60) < j ∧ j < 2 ^ 60 ∧ s.length * j.toNat ≤ 1000000) ∧ Q (.str (strRep s j))) := rfl
theorem k_fdiv : binK h .FloorDiv (.int i) (.int j) Q = (CDivA j ∧ Q (.int (i / j))) := rfl
theorem k_mod : binK h .Mod (.int i) (.int j) Q = (0 < j ∧ Q (.int (i % j))) := rfl
theorem k_pow : binK h .Pow (.int i) (.int j) Q = (CPow i j ∧ Q (.int (i ^ j.toNat))) := rfl
theorem k_neg : negK (.int i) Q = Q (.int (-i)) := rfl
theorem k_lt : cmpK h .Lt (.int i) (.int j) Q = Q (.bl (decide (i < j))) := rfl
theorem k_le : cmpK h .LtE (.int i) (.int j) Q = Q (.bl (decide (i ≤ j))) := rfl
theorem k_gt : cmpK h .Gt (.int i) (.int j) Q = Q (.bl (decide (j < i))) := rfl
theorem k_ge : cmpK h .GtE (.int i) (.int j) Q = Q (.bl (decide (j ≤ i))) := rfl
theorem k_eqI : cmpK h .Eq (.int i) (.int j) Q = Q (.bl (decide (i = j))) := rfl
theorem k_neI : cmpK h .NotEq (.int i) (.int j) Q = Q (.bl (!decide (i = j))) := rfl
theorem k_eqS : cmpK h .Eq (.str s) (.str t) Q = Q (.bl (decide (s = t))) := rfl
theorem k_neS : cmpK h .NotEq (.str s) (.str t) Q = Q (.bl (!decide (s = t))) := rfl
theorem k_eqB : cmpK h .Eq (.bl b) (.bl c) Q = Q (.bl (decide (b = c))) := rfl
theorem k_neB : cmpK h .NotEq (.bl b) (.bl c) Q = Q (.bl (!decide (b = c))) := rfl
theorem k_is : cmpK h .Is x .non Q = Q (.bl (isNon x)) := rfl
theorem k_isn : cmpK h .IsNot x .non Q = Q (.bl (!isNon x)) := rfl
theorem k_in : cmpK h .In x y Q = inK h false x y Q := rfl
theorem k_nin : cmpK h .NotIn x y Q = inK h true x y Q := rfl
theorem k_inS {c : Nat} {b : Bool} : inK h b (.str ⟨#[c]⟩) (.str t) Q = Q (.bl (if b then !decide (c ∈ t.cps.toList) else decide (c ∈ t.cps.toList))) := rfl
theorem k_inF {b : Bool} (hx : flatA x = true) (hy : viewT h y = some xs) (hf : xs.all flatA = true) (hn : ∀ z, y ≠ .str z) (q : Q (.bl (if b then !(xs.any fun y => eqF y x) else xs.any fun y => eqF y x))) : inK h b x y Q := by
  unfold inK
  split
  · exact absurd rfl (hn _)
  · rw [hy]
    exact ⟨hx, hf, q⟩
theorem isNon_non : isNon .non = true := rfl
theorem isNon_int : isNon (.int i) = false := rfl
theorem isNon_str : isNon (.str s) = false := rfl
theorem isNon_lst : isNon (.lst xs) = false := rfl
theorem isNon_tup : isNon (.tup xs) = false := rfl
theorem isNon_adr {n : Nat} : isNon (.adr n) = false := rfl
theorem k_subL (hv : viewT h x = some xs) (hn : ∀ z, x ≠ .str z) {d : AV} (e : atI xs i = some d) (q : Q d) : subK h x (.int i) Q := by
  unfold subK
  split
  · exact absurd rfl (hn _)
  · rw [hv]
    simp only [e]
    exact q
theorem k_subS {k : Nat} (hz : s.length ≤ sizeLine) {c : Nat} (e : s.cps.toList[k]? = some c) (q : Q (.str ⟨#[c]⟩)) : subK h (.str s) (.int (k : Int)) Q := by
  have hk : k < s.cps.toList.length := (List.getElem?_eq_some_iff.mp e).1
  have : atI s.cps.toList (k : Int) = some c := by
    unfold atI
    rw [Evl.ixN_nat hk]
    exact e
  refine ⟨hz, ?_⟩
  rw [this]
  exact q
theorem atI_nat {α : Type} {l : List α} {k : Nat} (hk : k < l.length) : atI l (k : Int) = l[k]? := by
  unfold atI
  rw [Evl.ixN_nat hk]
  rfl
theorem k_lenS : bltK h .len [.str s] Q = (s.length ≤ sizeLine ∧ Q (.int s.length)) := rfl
theorem k_lenL : bltK h .len [.lst xs] Q = Q (.int xs.length) := rfl
theorem k_lenR : bltK h .len [.ro xs] Q = Q (.int xs.length) := rfl
theorem k_lenT : bltK h .len [.tup xs] Q = Q (.int xs.length) := rfl
theorem k_abs : bltK h .abs [.int i] Q = Q (.int (if i < 0 then -i else i)) := rfl
theorem k_int : bltK h .int [.int i] Q = Q (.int i) := rfl
theorem k_str : bltK h .str [.int i] Q = (i.natAbs.log2 < 1920 ∧ Q (.str (toString i))) := rfl
theorem k_max2 : bltK h .max2 [.int i, .int j] Q = Q (.int (if j > i then j else i)) := rfl
theorem k_min2 : bltK h .min2 [.int i, .int j] Q = Q (.int (if j < i then j else i)) := rfl
theorem k_sliceS {lo hi : Option Int} : sliceK h (.str s) lo hi Q = (s.length ≤ sizeLine ∧ Q (.str (cutS s lo hi))) := rfl
theorem k_sliceT {lo hi : Option Int} : sliceK h (.tup xs) lo hi Q = Q (.tup (cut xs lo hi)) := rfl
theorem viewT_lst : viewT h (.lst xs) = some xs := rfl
theorem viewT_ro : viewT h (.ro xs) = some xs := rfl
theorem viewT_tup : viewT h (.tup xs) = some xs := rfl
theorem view_lst : view h (.lst xs) = some xs := rfl
theorem view_ro : view h (.ro xs) = some xs := rfl
theorem viewW_lst : viewW h (.lst xs) = some xs := rfl
theorem tru_bl : truK h (.bl b) = fun Q => Q b := rfl
theorem asStrs_map (l : List Str) : asStrs (l.map AV.str) = some l := by
  induction l with
  | nil => rfl
  | cons x l ih => simp [asStrs, ih]
theorem asInts_map (l : List Int) : asInts (l.map AV.int) = some l := by
  induction l with
  | nil => rfl
  | cons x l ih => simp [asInts, ih]
theorem asBools_map (l : List Bool) : asBools (l.map AV.bl) = some l := by
  induction l with
  | nil => rfl
  | cons x l ih => simp [asBools, ih]
end
theorem mulA_r {i j : Int} (h1 : -18446744073709551616 < j) (h2 : j < 18446744073709551616) : CMulA i j := by
  have e : (2 ^ 64 : Int) = 18446744073709551616 := by decide
  refine .inl (.inr ⟨?_, ?_⟩) <;> omega
theorem mulA_l {i j : Int} (h1 : -18446744073709551616 < i) (h2 : i < 18446744073709551616) : CMulA i j := by
  have e : (2 ^ 64 : Int) = 18446744073709551616 := by decide
  refine .inl (.inl ⟨?_, ?_⟩) <;> omega
theorem divA {j : Int} (h1 : 0 < j) (h2 : j < 18446744073709551616) : CDivA j := ⟨h1, by
  have : j.natAbs < 2 ^ 64 := by
    have e : (2 ^ 64 : Nat) = 18446744073709551616 := by decide
    omega
  have := PySem.Flt.log2_lt_of (by decide : 0 < 64) this
  omega⟩

/-! ### loops -/
/-- a for by an invariant; the body is shown for any ends that follow from it -/
theorem for_inv {B : AV → Kt → Env → AHeap → Prop} {chk : AHeap → Prop} {D : Kt} {xs : List AV} {ρ : Env} {h : AHeap} (Inv : Nat → Env → AHeap → Prop) (h0 : Inv 0 ρ h) (hc : ∀ i ρ h, i ≤ xs.length → Inv i ρ h → chk h)
    (hs : ∀ i x ρ h (D' : Kt), xs[i]? = some x → Inv i ρ h → (∀ ρ h, Inv (i + 1) ρ h → D'.nx ρ h) → (∀ ρ h, Inv (i + 1) ρ h → D'.ct ρ h) → (∀ v h, D.rt v h → D'.rt v h) → (∀ ρ h, D.nx ρ h → D'.bk ρ h) → B x D' ρ h)
    (hd : ∀ ρ h, Inv xs.length ρ h → D.nx ρ h) : forL B chk D xs ρ h := by
  have key : ∀ (ys : List AV) (i : Nat), xs.drop i = ys → i ≤ xs.length → ∀ ρ h, Inv i ρ h → forL B chk D ys ρ h := by
    intro ys
    induction ys with
    | nil =>
      intro i e hi ρ h hI
      have : i = xs.length := by
        have := List.drop_eq_nil_iff.mp e
        omega
      subst this
      exact ⟨hc _ _ _ hi hI, hd _ _ hI⟩
    | cons y ys ih =>
      intro i e hi ρ h hI
      have hlt : i < xs.length := by
        cases Nat.lt_or_ge i xs.length with
        | inl q => exact q
        | inr q => rw [List.drop_of_length_le q] at e; cases e
      have hx : xs[i]? = some y := by
        rw [List.drop_eq_getElem_cons hlt] at e
        cases e
        exact List.getElem?_eq_getElem hlt
      have ht : xs.drop (i + 1) = ys := by
        rw [List.drop_eq_getElem_cons hlt] at e
        exact (List.cons.inj e).2
      exact ⟨hc _ _ _ hi hI, hs i y ρ h _ hx hI (fun ρ h q => ih (i + 1) ht hlt ρ h q) (fun ρ h q => ih (i + 1) ht hlt ρ h q) (fun _ _ q => q) (fun _ _ q => q)⟩
  exact key xs 0 rfl (Nat.zero_le _) ρ h h0
/-- a comprehension by an invariant over what it has made -/
theorem comp_inv {B : AV → AHeap → (Option AV → AHeap → Prop) → Prop} {chk : AHeap → Prop} {xs acc : List AV} {h : AHeap} {Q : List AV → AHeap → Prop} (Inv : Nat → List AV → AHeap → Prop) (h0 : Inv 0 acc h) (hc : ∀ i a h, i ≤ xs.length → Inv i a h → chk h)
    (hs : ∀ i x a h R, xs[i]? = some x → Inv i a h → (∀ (y : AV) h', Inv (i + 1) (a ++ [y]) h' → R (some y) h') → (∀ h', Inv (i + 1) a h' → R none h') → B x h R) (hd : ∀ a h, Inv xs.length a h → Q a h) : compL B chk xs acc h Q := by
  have key : ∀ (ys : List AV) (i : Nat), xs.drop i = ys → i ≤ xs.length → ∀ a h, Inv i a h → compL B chk ys a h Q := by
    intro ys
    induction ys with
    | nil =>
      intro i e hi a h hI
      have : i = xs.length := by
        have := List.drop_eq_nil_iff.mp e
        omega
      subst this
      exact ⟨hc _ _ _ hi hI, hd _ _ hI⟩
    | cons y ys ih =>
      intro i e hi a h hI
      have hlt : i < xs.length := by
        cases Nat.lt_or_ge i xs.length with
        | inl q => exact q
        | inr q => rw [List.drop_of_length_le q] at e; cases e
      have hx : xs[i]? = some y := by
        rw [List.drop_eq_getElem_cons hlt] at e
        cases e
        exact List.getElem?_eq_getElem hlt
      have ht : xs.drop (i + 1) = ys := by
        rw [List.drop_eq_getElem_cons hlt] at e
        exact (List.cons.inj e).2
      exact ⟨hc _ _ _ hi hI, hs i y a h _ hx hI (fun y h q => ih (i + 1) ht hlt _ h q) (fun h q => ih (i + 1) ht hlt _ h q)⟩
  exact key xs 0 rfl (Nat.zero_le _) acc h h0
/-- a comprehension without a test whose items make what f says, the heap as it was -/
theorem comp_map {B : AV → AHeap → (Option AV → AHeap → Prop) → Prop} {xs : List AV} {h : AHeap} {Q : List AV → AHeap → Prop} (f : Nat → AV) (hs : ∀ i x R, xs[i]? = some x → R (some (f i)) h → B x h R) (hd : Q ((List.range xs.length).map f) h) :
    compL B (fun _ => True) xs [] h Q := by
  refine comp_inv (fun i a h' => a = (List.range i).map f ∧ h' = h) ⟨rfl, rfl⟩ (fun _ _ _ _ _ => trivial) ?_ ?_
  · rintro i x a h' R hx ⟨rfl, rfl⟩ k1 k2
    exact hs i x R hx (k1 _ _ ⟨by rw [List.range_succ, List.map_append]; rfl, rfl⟩)
  · rintro a h' ⟨rfl, rfl⟩
    exact hd
/-- a while by an invariant and a measure -/
theorem wh_inv {T : Env → AHeap → (Bool → AHeap → Prop) → Prop} {B : Kt → Env → AHeap → Prop} {D : Kt} {ρ : Env} {h : AHeap} (W : Nat → Env → AHeap → Prop) (m0 : Nat) (h0 : W m0 ρ h)
    (hs : ∀ m ρ h (D' : Kt), W m ρ h → (∀ m' ρ h, m' < m → W m' ρ h → D'.nx ρ h) → (∀ m' ρ h, m' < m → W m' ρ h → D'.ct ρ h) → (∀ v h, D.rt v h → D'.rt v h) → (∀ ρ h, D.nx ρ h → D'.bk ρ h) → T ρ h fun b h1 => if b = true then B D' ρ h1 else D.nx ρ h1) : whL T B D ρ h :=
  ⟨W, ⟨m0, h0⟩, fun m ρ h w => hs m ρ h _ w (fun m' _ _ a b => ⟨m', a, b⟩) (fun m' _ _ a b => ⟨m', a, b⟩) (fun _ _ q => q) (fun _ _ q => q)⟩
theorem ite_b {c : Prop} [Decidable c] {A B : Prop} (h1 : c → A) (h2 : ¬ c → B) : if decide c = true then A else B := by
  by_cases h : c
  · rw [if_pos (decide_eq_true h)]; exact h1 h
  · rw [if_neg (by rw [decide_eq_false h]; decide)]; exact h2 h
theorem ite_p {c : Prop} [Decidable c] {A B : Prop} (h1 : c → A) (h2 : ¬ c → B) : if c then A else B := by
  by_cases h : c
  · rw [if_pos h]; exact h1 h
  · rw [if_neg h]; exact h2 h
theorem ctx_call {P : Prg} {c} : (ctxOf P c).call = c := rfl
theorem ctx_glob {P : Prg} {c} {g : Nat} : (ctxOf P c).glob g = P.glob[g]? := rfl
theorem items_range {n : Nat} {f : Nat → AV} {i : Nat} {x : AV} (h : ((List.range n).map f)[i]? = some x) : i < n ∧ x = f i := by
  rw [List.getElem?_map] at h
  obtain ⟨j, h1, rfl⟩ := Option.map_eq_some_iff.mp h
  have h2 := List.getElem?_eq_some_iff.mp h1
  obtain ⟨h3, h4⟩ := h2
  simp at h3 h4
  exact ⟨h3, by rw [h4]⟩
theorem items_map {α : Type} {l : List α} {f : α → AV} {i : Nat} {x : AV} (h : (l.map f)[i]? = some x) : ∃ a, l[i]? = some a ∧ x = f a := by
  rw [List.getElem?_map] at h
  obtain ⟨j, h1, rfl⟩ := Option.map_eq_some_iff.mp h
  exact ⟨j, h1, rfl⟩
theorem cut_take {α : Type} (l : List α) (i j n : Nat) (e : n = l.length) : (l.drop (min i n)).take (min j n - min i n) = (l.drop i).take (j - i) := by
  subst e
  by_cases hi : l.length ≤ i
  · rw [Nat.min_eq_right hi, List.drop_of_length_le (Nat.le_refl _), List.drop_of_length_le hi]; simp
  · rw [Nat.min_eq_left (by omega : i ≤ l.length)]
    by_cases hj : j ≤ l.length
    · rw [Nat.min_eq_left hj]
    · rw [Nat.min_eq_right (by omega : l.length ≤ j), List.take_of_length_le (by simp), List.take_of_length_le (by simp; omega)]
theorem cut_ss {α : Type} (l : List α) (i j : Nat) : cut l (some (i : Int)) (some (j : Int)) = (l.drop i).take (j - i) := by
  unfold cut
  rw [HT.sIx_nat, HT.sIx_nat, cut_take _ _ _ _ rfl]
theorem cut_ns {α : Type} (l : List α) (j : Nat) : cut l none (some (j : Int)) = l.take j := by
  have := cut_ss l 0 j
  rw [List.drop_zero, Nat.sub_zero] at this
  rw [← this]
  unfold cut
  rw [HT.sIx_nat, HT.sIx_nat, HT.sIx_none, Nat.zero_min]
theorem cut_sn {α : Type} (l : List α) (i : Nat) : cut l (some (i : Int)) none = l.drop i := by
  have := cut_ss l i l.length
  rw [List.take_of_length_le (by simp)] at this
  rw [← this]
  unfold cut
  rw [HT.sIx_nat, HT.sIx_nat, HT.sIx_none, Nat.min_self]
theorem look_mem {α β : Type} [BEq α] [LawfulBEq α] {l : List (α × β)} {k : α} {v : β} (h : l.lookup k = some v) : (k, v) ∈ l := by
  induction l with
  | nil => cases h
  | cons x l ih =>
    obtain ⟨a, b⟩ := x
    rw [List.lookup_cons] at h
    cases e : k == a with
    | true =>
      rw [e] at h
      have h : some b = some v := h
      cases h
      rw [eq_of_beq e]
      exact List.mem_cons_self ..
    | false =>
      rw [e] at h
      exact List.mem_cons_of_mem _ (ih h)
end VL

set_option maxRecDepth 100000
set_option maxHeartbeats 4000000
namespace K13
open PySem L2 VL
def b_Heights___init__ : Ss := (.cons (.fld (.var 0) "many" (.var 1)) (.cons (.fld (.var 0) "differences" (.new (.lst .nil))) (.cons (.fld (.var 0) "heights" (.new (.comp (.cint 0) (.nm 2) (.rng1 (.bin .Add (.var 1) (.cint 1))) .no [2]))) (.cons (.fld (.var 0) "under" (.new (.comp (.new (.lst .nil)) (.nm 2) (.rng1 (.bin .Add (.var 1) (.cint 1))) .no [2]))) .nil))))
def b_Heights_grow_1 : Ss := (.cons (.fld (.var 0) "many" (.bin .Add (.attr (.var 0) "many") (.cint 1))) (.cons (.appE (.attr (.var 0) "heights") (.cint 0)) (.cons (.appE (.attr (.var 0) "under") (.new (.lst .nil))) .nil)))
def b_Heights_grow : Ss := (.cons (.wh (.cmp .Lt (.attr (.var 0) "many") (.var 1)) b_Heights_grow_1) .nil)
def b_Heights_tie_1 : Ss := (.cons (.ret (.mcall (.var 0) "mend" (.cons (.var 5) .nil))) .nil)
def b_Heights_tie : Ss := (.cons (.asg (.tup [2, 3, 4]) (.var 1)) (.cons (.asg (.nm 5) (.blt .len (.cons (.attr (.var 0) "differences") .nil))) (.cons (.appE (.attr (.var 0) "differences") (.var 1)) (.cons (.appE (.sub (.attr (.var 0) "under") (.var 3)) (.var 5)) (.cons (.ite (.cmp .LtE (.sub (.attr (.var 0) "heights") (.var 2)) (.bin .Add (.sub (.attr (.var 0) "heights") (.var 3)) (.var 4))) (.cons (.ret .cnon) .nil) .nil) b_Heights_tie_1)))))
def b_law_cell_1 : Ss := (.cons (.ret (.cint 0)) .nil)
def b_law_cell : Ss := (.cons (.ite (.cmp .Gt (.blt .len (.cons (.var 0) .nil)) (.cint 0)) (.cons (.ret (.sub (.var 0) (.bin .Mod (.blt .int (.cons (.var 1) .nil)) (.blt .len (.cons (.var 0) .nil))))) .nil) .nil) b_law_cell_1)
def b_law_draws_1 : Ss := (.cons (.ite (.cmp .Gt (.var 5) (.cint 0)) (.cons (.app 6 (.bin .Mod (.blt .int (.cons (.var 5) .nil)) (.sub (.var 2) (.var 7)))) (.cons (.asg (.nm 5) (.bin .FloorDiv (.var 5) (.sub (.var 2) (.var 7)))) .nil)) (.cons (.asg (.nm 8) (.bin .Mod (.blt .int (.cons (.bin .Add (.bin .Mult (.bin .Add (.bin .Add (.bin .Add (.var 4) (.cint 1)) (.bin .Mult (.cint 31) (.var 1))) (.var 7)) (.cint 48271)) (.bin .Mult (.cint 69621) (.var 7))) .nil)) (.sub (.var 3) (.bin .Mod (.var 7) (.cint 8))))) (.cons (.asg (.nm 9) (.bin .Mod (.blt .int (.cons (.bin .Add (.bin .Add (.bin .Mult (.var 8) (.var 8)) (.bin .Mult (.cint 16807) (.var 7))) (.var 1)) .nil)) (.sub (.var 3) (.bin .Mod (.bin .Add (.var 7) (.cint 3)) (.cint 8))))) (.cons (.asg (.nm 9) (.bin .Mod (.blt .int (.cons (.bin .Add (.bin .Add (.bin .Mult (.var 9) (.cint 69621)) (.bin .Mult (.var 8) (.cint 16807))) (.var 7)) .nil)) (.sub (.var 3) (.bin .Mod (.bin .Add (.var 7) (.cint 5)) (.cint 8))))) (.cons (.app 6 (.bin .Mod (.blt .int (.cons (.bin .FloorDiv (.var 9) (.cint 16)) .nil)) (.sub (.var 2) (.var 7)))) .nil))))) .nil)
def b_law_draws_2 : Ss := (.cons (.frz 6) (.cons (.ret (.var 6)) .nil))
def b_law_draws_3 : Ss := (.cons (.asgO 6 (.lst .nil)) (.cons (.for (.nm 7) (.rng1 (.blt .len (.cons (.var 2) .nil))) b_law_draws_1) b_law_draws_2))
def b_law_draws : Ss := (.cons (.asg (.nm 3) (.fz (.lst (.cons (.cint 2147483647) (.cons (.cint 998244353) (.cons (.cint 1000000007) (.cons (.cint 1000000009) (.cons (.cint 4294967291) (.cons (.cint 1073741789) (.cons (.cint 536870909) (.cons (.cint 2305843009213693951) .nil))))))))))) (.cons (.asg (.nm 4) (.blt .abs (.cons (.call 3 (.cons (.var 0) (.cons (.var 1) .nil))) .nil))) (.cons (.asg (.nm 5) (.cint 0)) (.cons (.ite (.cmp .GtE (.var 4) (.bin .Pow (.cint 10) (.cint 18))) (.cons (.asg (.nm 5) (.var 4)) .nil) .nil) b_law_draws_3))))
def b_law_is_integer : Ss := (.cons (.ret (.and (.isi (.var 0) "int") (.not (.isi (.var 0) "bool")))) .nil)
def b_Heights_mend_1 : Ss := (.cons (.putE (.attr (.var 0) "heights") (.var 10) (.bin .Add (.sub (.attr (.var 0) "heights") (.var 11)) (.var 12))) (.cons (.appE (.var 6) (.var 10)) .nil))
def b_Heights_mend_2 : Ss := (.cons (.asg (.tup [10, 11, 12]) (.sub (.attr (.var 0) "differences") (.var 9))) (.cons (.ite (.cmp .Gt (.sub (.attr (.var 0) "heights") (.var 10)) (.bin .Add (.sub (.attr (.var 0) "heights") (.var 11)) (.var 12))) (.cons (.put 5 (.var 10) (.var 9)) (.cons (.ite (.cmp .Eq (.var 10) (.var 3)) (.cons (.frz 5) (.cons (.ret (.mcall (.var 0) "ring_from" (.cons (.var 3) (.cons (.var 1) (.cons (.var 5) .nil))))) .nil)) .nil) b_Heights_mend_1)) .nil) .nil))
def b_Heights_mend_3 : Ss := (.cons (.asg (.nm 8) (.sub (.var 6) (.var 7))) (.cons (.asg (.nm 7) (.bin .Add (.var 7) (.cint 1))) (.cons (.for (.nm 9) (.seq (.sub (.attr (.var 0) "under") (.var 8))) b_Heights_mend_2) .nil)))
def b_Heights_mend_4 : Ss := (.cons (.ret .cnon) .nil)
def b_Heights_mend_5 : Ss := (.cons (.putE (.attr (.var 0) "heights") (.var 2) (.bin .Add (.sub (.attr (.var 0) "heights") (.var 3)) (.var 4))) (.cons (.asg (.nm 6) (.new (.lst (.cons (.var 2) .nil)))) (.cons (.asg (.nm 7) (.cint 0)) (.cons (.wh (.cmp .Lt (.var 7) (.blt .len (.cons (.var 6) .nil))) b_Heights_mend_3) b_Heights_mend_4))))
def b_Heights_mend : Ss := (.cons (.asg (.tup [2, 3, 4]) (.sub (.attr (.var 0) "differences") (.var 1))) (.cons (.asgO 5 (.dct1 (.var 2) (.var 1))) (.cons (.ite (.cmp .Eq (.var 2) (.var 3)) (.cons (.ret (.tup (.cons (.var 1) .nil))) .nil) .nil) b_Heights_mend_5)))
def b_Heights_ring_from_1 : Ss := (.cons (.app 4 (.sub (.var 3) (.sub (.sub (.attr (.var 0) "differences") (.sub (.vw 4) (.neg (.cint 1)))) (.cint 1)))) .nil)
def b_Heights_ring_from_2 : Ss := (.cons (.ret (.blt .tuple (.cons (.vw 4) .nil))) .nil)
def b_Heights_ring_from : Ss := (.cons (.asgO 4 (.lst (.cons (.sub (.var 3) (.var 1)) .nil))) (.cons (.wh (.cmp .NotEq (.sub (.vw 4) (.neg (.cint 1))) (.var 2)) b_Heights_ring_from_1) b_Heights_ring_from_2))
def b_Heights_kept : Ss := (.cons (.asg (.nm 1) (.sub (.attr (.var 0) "heights") (.cint 0))) (.cons (.ret (.new (.comp (.bin .Sub (.var 2) (.var 1)) (.nm 2) (.seq (.fz (.slice (.attr (.var 0) "heights") (.so (.cint 1)) .no))) .no [2]))) .nil))
def b_Heights_twin : Ss := (.cons (.asg (.nm 1) (.make 0 (.cons (.attr (.var 0) "many") .nil))) (.cons (.fld (.var 1) "differences" (.new (.listOf (.attr (.var 0) "differences")))) (.cons (.fld (.var 1) "heights" (.new (.listOf (.attr (.var 0) "heights")))) (.cons (.fld (.var 1) "under" (.new (.comp (.new (.listOf (.var 2))) (.nm 2) (.seq (.attr (.var 0) "under")) .no [2]))) (.cons (.ret (.var 1)) .nil)))))
def b_law_sum_1 : Ss := (.cons (.asg (.nm 2) (.bin .Add (.var 2) (.sub (.sub (.var 0) (.sub (.var 1) (.var 3))) (.cint 2)))) .nil)
def b_law_sum_2 : Ss := (.cons (.ite (.and (.cmp .Gt (.var 3) (.cint 0)) (.cmp .NotEq (.sub (.sub (.var 0) (.sub (.var 1) (.bin .Sub (.var 3) (.cint 1)))) (.cint 1)) (.sub (.sub (.var 0) (.sub (.var 1) (.var 3))) (.cint 0)))) (.cons (.ret .cnon) .nil) .nil) b_law_sum_1)
def b_law_sum_3 : Ss := (.cons (.ite (.or (.cmp .Lt (.sub (.var 1) (.var 3)) (.cint 0)) (.cmp .GtE (.sub (.var 1) (.var 3)) (.blt .len (.cons (.var 0) .nil)))) (.cons (.ret .cnon) .nil) .nil) b_law_sum_2)
def b_law_sum_4 : Ss := (.cons (.ret (.tup (.cons (.sub (.sub (.var 0) (.sub (.var 1) (.cint 0))) (.cint 0)) (.cons (.sub (.sub (.var 0) (.sub (.var 1) (.neg (.cint 1)))) (.cint 1)) (.cons (.var 2) .nil))))) .nil)
def b_law_sum_5 : Ss := (.cons (.asg (.nm 2) (.cint 0)) (.cons (.for (.nm 3) (.rng1 (.blt .len (.cons (.var 1) .nil))) b_law_sum_3) b_law_sum_4))
def b_law_sum : Ss := (.cons (.ite (.cmp .Eq (.blt .len (.cons (.var 1) .nil)) (.cint 0)) (.cons (.ret .cnon) .nil) .nil) b_law_sum_5)
def b_law_kept : Ss := (.cons (.asg (.nm 2) (.fz (.cat (.fz (.lst (.cons (.cint 0) .nil))) (.var 1)))) (.cons (.ret (.blt .all (.cons (.fz (.comp (.cmp .LtE (.bin .Sub (.sub (.var 2) (.var 3)) (.sub (.var 2) (.var 4))) (.var 5)) (.tup [3, 4, 5]) (.seq (.var 0)) .no [3, 4, 5])) .nil))) .nil))
def b_law_weight_1 : Ss := (.cons (.ret (.bin .Sub (.bin .Mod (.blt .int (.cons (.var 2) .nil)) (.cint 13)) (.cint 6))) .nil)
def b_law_weight_2 : Ss := (.cons (.ite (.cmp .Eq (.var 1) (.cint 1)) (.cons (.ret (.bin .Mult (.bin .Sub (.cint 1) (.bin .Mult (.cint 2) (.bin .Mod (.blt .int (.cons (.var 2) .nil)) (.cint 2)))) (.bin .Mod (.blt .int (.cons (.bin .FloorDiv (.var 2) (.cint 2)) .nil)) (.bin .Pow (.cint 10) (.cint 10))))) .nil) .nil) b_law_weight_1)
def b_law_weight : Ss := (.cons (.asg (.nm 1) (.bin .Mod (.blt .int (.cons (.var 0) .nil)) (.cint 16))) (.cons (.asg (.nm 2) (.bin .FloorDiv (.var 0) (.cint 16))) (.cons (.ite (.cmp .Eq (.var 1) (.cint 0)) (.cons (.ret (.bin .Mult (.bin .Sub (.cint 1) (.bin .Mult (.cint 2) (.bin .Mod (.blt .int (.cons (.var 2) .nil)) (.cint 2)))) (.bin .Add (.bin .Pow (.cint 10) (.cint 39)) (.bin .Mod (.blt .int (.cons (.var 2) .nil)) (.bin .Pow (.cint 10) (.cint 20)))))) .nil) .nil) b_law_weight_2)))
def b_law_can_1 : Ss := (.cons (.ite (.cmp .Gt (.sub (.vw 2) (.var 5)) (.bin .Add (.sub (.vw 2) (.var 6)) (.var 7))) (.cons (.put 2 (.var 5) (.bin .Add (.sub (.vw 2) (.var 6)) (.var 7))) (.cons (.asg (.nm 4) (.cbl true)) .nil)) .nil) .nil)
def b_law_can_2 : Ss := (.cons (.ite (.not (.tru (.var 4))) (.cons (.ret (.cbl true)) .nil) .nil) .nil)
def b_law_can_3 : Ss := (.cons (.asg (.nm 4) (.cbl false)) (.cons (.for (.tup [5, 6, 7]) (.seq (.var 0)) b_law_can_1) b_law_can_2))
def b_law_can_4 : Ss := (.cons (.ret (.cbl false)) .nil)
def b_law_can : Ss := (.cons (.asgO 2 (.comp (.cint 0) (.nm 8) (.rng1 (.bin .Add (.var 1) (.cint 1))) .no [8])) (.cons (.for (.nm 3) (.rng1 (.bin .Add (.var 1) (.cint 2))) b_law_can_3) b_law_can_4))
def b_law_is_ring_1 : Ss := (.cons (.asg (.nm 2) (.call 10 (.cons (.var 0) (.cons (.var 1) .nil)))) (.cons (.ret (.and (.cmp .IsNot (.var 2) .cnon) (.and (.cmp .Eq (.sub (.var 2) (.cint 0)) (.sub (.var 2) (.cint 1))) (.cmp .Lt (.sub (.var 2) (.cint 2)) (.cint 0))))) .nil))
def b_law_is_ring : Ss := (.cons (.ite (.or (.not (.tru (.isi (.var 1) "tuple"))) (.not (.tru (.blt .all (.cons (.fz (.comp (.call 5 (.cons (.var 3) .nil)) (.nm 3) (.seq (.var 1)) .no [3])) .nil))))) (.cons (.ret (.cbl false)) .nil) .nil) b_law_is_ring_1)
def b_law_fits_1 : Ss := (.cons (.appE (.var 5) (.cint 0)) (.cons (.putE (.var 5) (.cint 0) (.bin .Add (.bin .Add (.sub (.var 5) (.cint 0)) (.var 3)) (.cint 1))) .nil))
def b_law_fits_2 : Ss := (.cons (.ite (.or (.not (.tru (.call 11 (.cons (.var 1) (.cons (.var 5) .nil))))) (.not (.tru (.blt .all (.cons (.fz (.comp (.cmp .LtE (.blt .abs (.cons (.var 9) .nil)) (.var 3)) (.nm 9) (.seq (.var 5)) .no [9])) .nil))))) (.cons (.ret (.cbl false)) .nil) .nil) b_law_fits_1)
def b_law_fits_3 : Ss := (.cons (.asg (.nm 5) (.mcall (.var 0) "kept" .nil)) (.cons (.ite (.or (.not (.tru (.isi (.var 5) "list"))) (.or (.cmp .NotEq (.blt .len (.cons (.var 5) .nil)) (.var 2)) (.not (.tru (.blt .all (.cons (.fz (.comp (.call 5 (.cons (.var 9) .nil)) (.nm 9) (.seq (.var 5)) .no [9])) .nil)))))) (.cons (.ret (.cbl false)) .nil) .nil) b_law_fits_2))
def b_law_fits_4 : Ss := (.cons (.ret (.cbl true)) .nil)
def b_law_fits_5 : Ss := (.cons (.asg (.nm 3) (.blt .sum (.cons (.fz (.comp (.blt .abs (.cons (.var 8) .nil)) (.tup [6, 7, 8]) (.seq (.var 1)) .no [6, 7, 8])) .nil))) (.cons (.for (.nm 4) (.rng1 (.cint 2)) b_law_fits_3) b_law_fits_4))
def b_law_fits : Ss := (.cons (.ite (.or (.not (.tru (.isi (.attr (.var 0) "differences") "list"))) (.cmp .NotEq (.attr (.var 0) "differences") (.var 1))) (.cons (.ret (.cbl false)) .nil) .nil) b_law_fits_5)
def b_law_more_1 : Ss := (.cons (.app 7 (.tup (.cons (.var 9) (.cons (.var 10) (.cons (.var 11) .nil))))) .nil)
def b_law_more_2 : Ss := (.cons (.asg (.nm 9) (.sub (.var 5) (.bin .Mult (.cint 2) (.var 8)))) (.cons (.asg (.nm 10) (.sub (.var 5) (.bin .Add (.bin .Mult (.cint 2) (.var 8)) (.cint 1)))) (.cons (.asg (.nm 11) (.call 12 (.cons (.sub (.var 6) (.var 8)) .nil))) (.cons (.ite (.cmp .Gt (.blt .len (.cons (.var 4) .nil)) (.cint 0)) (.cons (.asg (.nm 11) (.blt .max2 (.cons (.blt .int (.cons (.var 11) .nil)) (.cons (.blt .int (.cons (.bin .Sub (.sub (.var 4) (.var 9)) (.sub (.var 4) (.var 10))) .nil)) .nil)))) .nil) .nil) b_law_more_1))))
def b_law_more_3 : Ss := (.cons (.frz 7) (.cons (.ret (.var 7)) .nil))
def b_law_more : Ss := (.cons (.asg (.nm 5) (.call 4 (.cons (.var 0) (.cons (.var 1) (.cons (.fz (.comp (.bin .Add (.var 3) (.cint 1)) (.nm 8) (.rng1 (.bin .Mult (.cint 2) (.var 2))) .no [8])) .nil))))) (.cons (.asg (.nm 6) (.call 4 (.cons (.var 0) (.cons (.bin .Add (.var 1) (.cint 1)) (.cons (.fz (.comp (.bin .Pow (.cint 10) (.cint 42)) (.nm 8) (.rng1 (.var 2)) .no [8])) .nil))))) (.cons (.asgO 7 (.lst .nil)) (.cons (.for (.nm 8) (.rng1 (.var 2)) b_law_more_2) b_law_more_3))))
def b_law_goes_1 : Ss := (.cons (.ite (.or (.cmp .IsNot (.var 5) .cnon) (.not (.tru (.call 15 (.cons (.var 0) (.cons (.var 1) (.cons (.var 3) .nil))))))) (.cons (.ret (.fz (.lst (.cons (.cbl false) .nil)))) .nil) .nil) .nil)
def b_law_goes_2 : Ss := (.cons (.asg (.nm 5) (.mcall (.var 0) "tie" (.cons (.var 4) .nil))) (.cons (.appE (.var 1) (.var 4)) (.cons (.ite (.not (.tru (.call 13 (.cons (.var 1) (.cons (.var 3) .nil))))) (.cons (.ret (.fz (.lst (.cons (.call 14 (.cons (.var 1) (.cons (.var 5) .nil))) .nil)))) .nil) .nil) b_law_goes_1)))
def b_law_goes_3 : Ss := (.cons (.ret (.fz (.lst .nil))) .nil)
def b_law_goes : Ss := (.cons (.for (.nm 4) (.seq (.var 2)) b_law_goes_2) b_law_goes_3)
def b_law_1 : Ss := (.cons (.asg (.nm 13) (.cmp .Gt (.blt .len (.cons (.var 8) .nil)) (.cint 0))) (.cons (.asg (.nm 8) (.call 17 (.cons (.var 9) (.cons (.var 10) (.cons (.call 16 (.cons (.var 0) (.cons (.cint 6) (.cons (.sub (.var 1) (.cint 5)) (.cons (.var 2) (.cons (.var 4) .nil)))))) (.cons (.var 2) .nil)))))) (.cons (.ret (.and (.cmp .NotIn (.cbl false) (.var 8)) (.or (.var 13) (.call 15 (.cons (.var 5) (.cons (.var 6) (.cons (.var 3) .nil))))))) .nil)))
def b_law_2 : Ss := (.cons (.asg (.nm 8) (.call 17 (.cons (.var 5) (.cons (.var 6) (.cons (.call 16 (.cons (.var 0) (.cons (.cint 4) (.cons (.sub (.var 1) (.cint 4)) (.cons (.var 3) (.cons (.var 4) .nil)))))) (.cons (.var 3) .nil)))))) (.cons (.ite (.or (.cmp .In (.cbl false) (.var 8)) (.or (.not (.tru (.call 15 (.cons (.var 9) (.cons (.var 10) (.cons (.var 2) .nil)))))) (.not (.tru (.call 15 (.cons (.var 11) (.cons (.var 12) (.cons (.var 3) .nil)))))))) (.cons (.ret (.cbl false)) .nil) .nil) b_law_1))
def b_law_3 : Ss := (.cons (.asg (.nm 9) (.mcall (.var 5) "twin" .nil)) (.cons (.asg (.nm 10) (.new (.listOf (.var 6)))) (.cons (.expr (.mcall (.var 5) "grow" (.cons (.var 3) .nil))) (.cons (.asg (.nm 11) (.mcall (.var 5) "twin" .nil)) (.cons (.asg (.nm 12) (.new (.listOf (.var 6)))) (.cons (.ite (.or (.not (.tru (.call 15 (.cons (.var 5) (.cons (.var 6) (.cons (.var 3) .nil)))))) (.not (.tru (.call 15 (.cons (.var 11) (.cons (.var 12) (.cons (.var 3) .nil))))))) (.cons (.ret (.cbl false)) .nil) .nil) b_law_2))))))
def b_law_4 : Ss := (.cons (.asg (.nm 8) (.call 17 (.cons (.var 5) (.cons (.var 6) (.cons (.var 7) (.cons (.var 2) .nil)))))) (.cons (.ite (.cmp .Gt (.blt .len (.cons (.var 8) .nil)) (.cint 0)) (.cons (.ret (.sub (.var 8) (.cint 0))) .nil) .nil) b_law_3))
def b_law_5 : Ss := (.cons (.asg (.nm 7) (.call 16 (.cons (.var 0) (.cons (.cint 2) (.cons (.sub (.var 1) (.cint 2)) (.cons (.var 2) (.cons (.var 4) .nil))))))) (.cons (.ite (.and (.cmp .Eq (.sub (.var 1) (.cint 6)) (.cint 0)) (.cmp .Eq (.sub (.var 1) (.cint 0)) (.cint 0))) (.cons (.asg (.nm 7) (.fz (.cat (.fz (.slice (.var 7) .no (.so (.cint 2)))) (.fz (.rev (.fz (.comp (.tup (.cons (.var 15) (.cons (.bin .Add (.var 15) (.cint 1)) (.cons (.neg (.var 15)) .nil)))) (.nm 15) (.rng1 (.var 2)) .no [15]))))))) .nil) .nil) b_law_4))
def b_law_6 : Ss := (.cons (.asg (.nm 5) (.make 0 (.cons (.var 2) .nil))) (.cons (.asg (.nm 6) (.new (.lst .nil))) (.cons (.ite (.not (.tru (.call 15 (.cons (.var 5) (.cons (.var 6) (.cons (.var 2) .nil)))))) (.cons (.ret (.cbl false)) .nil) .nil) b_law_5)))
def b_law : Ss := (.cons (.asg (.nm 1) (.call 4 (.cons (.var 0) (.cons (.cint 0) (.cons (.fz (.lst (.cons (.cint 2) (.cons (.cint 9) (.cons (.cint 9) (.cons (.cint 5) (.cons (.cint 9) (.cons (.cint 6) (.cons (.cint 4) .nil))))))))) .nil))))) (.cons (.asg (.nm 2) (.sub (.var 1) (.cint 1))) (.cons (.asg (.nm 3) (.bin .Add (.var 2) (.sub (.var 1) (.cint 3)))) (.cons (.asg (.nm 4) (.fz (.lst .nil))) (.cons (.ite (.cmp .Eq (.sub (.var 1) (.cint 0)) (.cint 1)) (.cons (.asg (.nm 4) (.fz (.cat (.fz (.lst (.cons (.cint 0) .nil))) (.fz (.comp (.call 12 (.cons (.var 14) .nil)) (.nm 14) (.seq (.call 4 (.cons (.var 0) (.cons (.cint 1) (.cons (.fz (.comp (.bin .Pow (.cint 10) (.cint 42)) (.nm 15) (.rng1 (.var 3)) .no [15])) .nil))))) .no [14]))))) .nil) .nil) b_law_6)))))
def P : Prg where
  fns := [⟨2, 3, b_Heights___init__⟩, ⟨2, 2, b_Heights_grow⟩, ⟨2, 6, b_Heights_tie⟩, ⟨2, 2, b_law_cell⟩, ⟨3, 10, b_law_draws⟩, ⟨1, 1, b_law_is_integer⟩, ⟨2, 13, b_Heights_mend⟩, ⟨4, 5, b_Heights_ring_from⟩, ⟨1, 3, b_Heights_kept⟩, ⟨1, 3, b_Heights_twin⟩, ⟨2, 4, b_law_sum⟩, ⟨2, 6, b_law_kept⟩, ⟨1, 3, b_law_weight⟩, ⟨2, 9, b_law_can⟩, ⟨2, 4, b_law_is_ring⟩, ⟨3, 10, b_law_fits⟩, ⟨5, 12, b_law_more⟩, ⟨4, 6, b_law_goes⟩, ⟨1, 16, b_law⟩]
  glob := []
  meth := [((0, "grow"), 1), ((0, "tie"), 2), ((0, "mend"), 6), ((0, "ring_from"), 7), ((0, "kept"), 8), ((0, "twin"), 9)]
  init := [(0, 0)]
  flds := [(0, "many"), (0, "differences"), (0, "heights"), (0, "under")]
def T : Tab where
  fname := fun f => ([none, none, none, some "_law_cell", some "_law_draws", some "_law_is_integer", none, none, none, none, some "_law_sum", some "_law_kept", some "_law_weight", some "_law_can", some "_law_is_ring", some "_law_fits", some "_law_more", some "_law_goes", some "law"] : List (Option Str)).getD f none
  gname := fun g => ([] : List Str).getD g ""
  cname := fun c => ([some "Heights"] : List (Option Str)).getD c none
end K13

set_option maxRecDepth 100000
set_option maxHeartbeats 4000000
namespace K13
open PySem L2 VL
def top (i : Nat) : Stmt := PySem.Challenge.pw_swornrun_k13_heights.main.body.getD i (.Pass ⟨0, 0, 0, 0⟩)
def t0 : FnT := ⟨"__init__", inClass (top 1) 0, ["self", "many", "_"], ["self", "many"]⟩
def t1 : FnT := ⟨"grow", inClass (top 1) 1, ["self", "many"], ["self", "many"]⟩
def t2 : FnT := ⟨"tie", inClass (top 1) 2, ["self", "difference", "u", "v", "c", "number"], ["self", "difference"]⟩
def t3 : FnT := ⟨"_law_cell", top 3, ["_law_script", "_law_k"], ["_law_script", "_law_k"]⟩
def t4 : FnT := ⟨"_law_draws", top 4, ["_law_script", "_law_place", "_law_sizes", "_law_primes", "_law_cell_here", "_law_rest", "_law_draws_here", "_law_k", "_law_first", "_law_mixed"], ["_law_script", "_law_place", "_law_sizes"]⟩
def t5 : FnT := ⟨"_law_is_integer", top 5, ["_law_value"], ["_law_value"]⟩
def t6 : FnT := ⟨"mend", inClass (top 1) 3, ["self", "number", "u", "v", "c", "causes", "waiting", "at", "low", "other", "x", "y", "d"], ["self", "number"]⟩
def t7 : FnT := ⟨"ring_from", inClass (top 1) 4, ["self", "start", "number", "causes", "ring"], ["self", "start", "number", "causes"]⟩
def t8 : FnT := ⟨"kept", inClass (top 1) 5, ["self", "ground", "height"], ["self"]⟩
def t9 : FnT := ⟨"twin", inClass (top 1) 6, ["self", "other", "numbers"], ["self"]⟩
def t10 : FnT := ⟨"_law_sum", top 6, ["_law_differences", "_law_numbers", "_law_total", "_law_k"], ["_law_differences", "_law_numbers"]⟩
def t11 : FnT := ⟨"_law_kept", top 7, ["_law_differences", "_law_values", "_law_level", "_law_u", "_law_v", "_law_c"], ["_law_differences", "_law_values"]⟩
def t12 : FnT := ⟨"_law_weight", top 8, ["_law_draw", "_law_kind", "_law_rest"], ["_law_draw"]⟩
def t13 : FnT := ⟨"_law_can", top 9, ["_law_differences", "_law_many", "_law_level", "_law_step", "_law_moved", "_law_u", "_law_v", "_law_c", "_law_k"], ["_law_differences", "_law_many"]⟩
def t14 : FnT := ⟨"_law_is_ring", top 10, ["_law_differences", "_law_ring", "_law_total", "_law_number"], ["_law_differences", "_law_ring"]⟩
def t15 : FnT := ⟨"_law_fits", top 11, ["_law_heights", "_law_differences", "_law_many", "_law_room", "_law_again", "_law_kept_here", "_law_u", "_law_v", "_law_c", "_law_value"], ["_law_heights", "_law_differences", "_law_many"]⟩
def t16 : FnT := ⟨"_law_more", top 12, ["_law_script", "_law_place", "_law_count", "_law_many", "_law_values", "_law_draws_here", "_law_weights", "_law_more_here", "_law_k", "_law_u", "_law_v", "_law_c"], ["_law_script", "_law_place", "_law_count", "_law_many", "_law_values"]⟩
def t17 : FnT := ⟨"_law_goes", top 13, ["_law_heights", "_law_differences", "_law_more_here", "_law_many", "_law_difference", "_law_ring"], ["_law_heights", "_law_differences", "_law_more_here", "_law_many"]⟩
def t18 : FnT := ⟨"law", top 14, ["_law_script", "_law_shape", "_law_many", "_law_room", "_law_values", "_law_heights", "_law_differences", "_law_begin", "_law_told", "_law_twin", "_law_twins", "_law_late", "_law_lates", "_law_ended", "_law_draw", "_law_k"], ["_law_script"]⟩
def ts (f : Nat) : Option FnT := ([t0, t1, t2, t3, t4, t5, t6, t7, t8, t9, t10, t11, t12, t13, t14, t15, t16, t17, t18] : List FnT)[f]?
theorem ag0 : agF T t0 ⟨2, 3, b_Heights___init__⟩ = true := by decide +kernel
theorem ag1 : agF T t1 ⟨2, 2, b_Heights_grow⟩ = true := by decide +kernel
theorem ag2 : agF T t2 ⟨2, 6, b_Heights_tie⟩ = true := by decide +kernel
theorem ag3 : agF T t3 ⟨2, 2, b_law_cell⟩ = true := by decide +kernel
theorem ag4 : agF T t4 ⟨3, 10, b_law_draws⟩ = true := by decide +kernel
theorem ag5 : agF T t5 ⟨1, 1, b_law_is_integer⟩ = true := by decide +kernel
theorem ag6 : agF T t6 ⟨2, 13, b_Heights_mend⟩ = true := by decide +kernel
theorem ag7 : agF T t7 ⟨4, 5, b_Heights_ring_from⟩ = true := by decide +kernel
theorem ag8 : agF T t8 ⟨1, 3, b_Heights_kept⟩ = true := by decide +kernel
theorem ag9 : agF T t9 ⟨1, 3, b_Heights_twin⟩ = true := by decide +kernel
theorem ag10 : agF T t10 ⟨2, 4, b_law_sum⟩ = true := by decide +kernel
theorem ag11 : agF T t11 ⟨2, 6, b_law_kept⟩ = true := by decide +kernel
theorem ag12 : agF T t12 ⟨1, 3, b_law_weight⟩ = true := by decide +kernel
theorem ag13 : agF T t13 ⟨2, 9, b_law_can⟩ = true := by decide +kernel
theorem ag14 : agF T t14 ⟨2, 4, b_law_is_ring⟩ = true := by decide +kernel
theorem ag15 : agF T t15 ⟨3, 10, b_law_fits⟩ = true := by decide +kernel
theorem ag16 : agF T t16 ⟨5, 12, b_law_more⟩ = true := by decide +kernel
theorem ag17 : agF T t17 ⟨4, 6, b_law_goes⟩ = true := by decide +kernel
theorem ag18 : agF T t18 ⟨1, 16, b_law⟩ = true := by decide +kernel
end K13

set_option maxRecDepth 100000
set_option maxHeartbeats 4000000
namespace K13
open PySem L2 VL
abbrev Ed := Nat × Nat × Int
abbrev Ht := Nat → Int
def Feas (D : List Ed) (h : Ht) : Prop := ∀ e ∈ D, h e.1 ≤ h e.2.1 + e.2.2
def In (n : Nat) (D : List Ed) : Prop := ∀ e ∈ D, e.1 < n ∧ e.2.1 < n
/-- the greatest that keeps all, not above 0 -/
structure Great (D : List Ed) (n : Nat) (h : Ht) : Prop where
  feas : Feas D h
  neg : ∀ u, u < n → h u ≤ 0
  top : ∀ g, Feas D g → (∀ u, u < n → g u ≤ 0) → ∀ u, u < n → g u ≤ h u
/-- a tight difference over each height below 0 -/
theorem Great.cross {D : List Ed} {n : Nat} {h : Ht} (G : Great D n h) (I : In n D) {t : Int} (ht : t ≤ -1) {u : Nat} (hu : u < n) (hut : h u ≤ t) : ∃ e ∈ D, h e.1 = h e.2.1 + e.2.2 ∧ h e.1 ≤ t ∧ t < h e.2.1 := by
  apply Classical.byContradiction
  intro no
  have no : ∀ e ∈ D, h e.1 = h e.2.1 + e.2.2 → h e.1 ≤ t → ¬ t < h e.2.1 := fun e he h1 h2 h3 => no ⟨e, he, h1, h2, h3⟩
  have key := G.top (fun x => if h x ≤ t then h x + 1 else h x) ?_ ?_ u hu
  · rw [if_pos hut] at key
    omega
  · intro e he
    have f := G.feas e he
    show (if h e.1 ≤ t then h e.1 + 1 else h e.1) ≤ (if h e.2.1 ≤ t then h e.2.1 + 1 else h e.2.1) + e.2.2
    by_cases c1 : h e.1 ≤ t
    · by_cases c2 : h e.2.1 ≤ t
      · rw [if_pos c1, if_pos c2]; omega
      · rw [if_pos c1, if_neg c2]
        have := no e he
        by_cases c3 : h e.1 = h e.2.1 + e.2.2
        · exact absurd (by omega) (this c3 c1)
        · omega
    · by_cases c2 : h e.2.1 ≤ t
      · rw [if_neg c1, if_pos c2]; omega
      · rw [if_neg c1, if_neg c2]; omega
  · intro x hx
    have := G.neg x hx
    show (if h x ≤ t then h x + 1 else h x) ≤ 0
    split <;> omega
def absI (c : Int) : Int := if c < 0 then -c else c
def room (D : List Ed) : Int := (D.map fun e => absI e.2.2).sum
/-- how far a tight difference reaches above t -/
def ov (h : Ht) (t : Int) (e : Ed) : Int := if h e.1 = h e.2.1 + e.2.2 then (if h e.2.1 - max (h e.1) t < 0 then 0 else h e.2.1 - max (h e.1) t) else 0
theorem ov_mono (h : Ht) (t : Int) (e : Ed) : ov h (t + 1) e ≤ ov h t e := by
  unfold ov
  split
  · split <;> split <;> omega
  · omega
theorem ov_le (h : Ht) (t : Int) (e : Ed) : ov h t e ≤ absI e.2.2 := by
  unfold ov absI
  split
  · split <;> split <;> omega
  · split <;> omega
theorem ov_nonneg (h : Ht) (t : Int) (e : Ed) : 0 ≤ ov h t e := by
  unfold ov
  split
  · split <;> omega
  · omega
def ovs (h : Ht) (t : Int) (D : List Ed) : Int := (D.map (ov h t)).sum
theorem ovs_mono (h : Ht) (t : Int) : ∀ D : List Ed, ovs h (t + 1) D ≤ ovs h t D
  | [] => Int.le_refl _
  | e :: D => by
    have := ovs_mono h t D
    have := ov_mono h t e
    unfold ovs at *
    simp only [List.map_cons, List.sum_cons]
    omega
theorem ovs_step {h : Ht} {t : Int} : ∀ {D : List Ed} {e : Ed}, e ∈ D → h e.1 = h e.2.1 + e.2.2 → h e.1 ≤ t → t < h e.2.1 → ovs h (t + 1) D + 1 ≤ ovs h t D
  | d :: D, e, he, h1, h2, h3 => by
    have m := ovs_mono h t D
    have m2 := ov_mono h t d
    rcases List.mem_cons.mp he with rfl | he
    · have : ov h (t + 1) e + 1 ≤ ov h t e := by
        unfold ov
        rw [if_pos h1, if_pos h1]
        split <;> split <;> omega
      unfold ovs at *
      simp only [List.map_cons, List.sum_cons]
      omega
    · have := ovs_step he h1 h2 h3
      unfold ovs at *
      simp only [List.map_cons, List.sum_cons]
      omega
theorem ovs_le (h : Ht) (t : Int) : ∀ D : List Ed, ovs h t D ≤ room D
  | [] => Int.le_refl _
  | e :: D => by
    have := ovs_le h t D
    have := ov_le h t e
    unfold ovs room at *
    simp only [List.map_cons, List.sum_cons]
    omega
theorem ovs_nonneg (h : Ht) (t : Int) : ∀ D : List Ed, 0 ≤ ovs h t D
  | [] => Int.le_refl _
  | e :: D => by
    have := ovs_nonneg h t D
    have := ov_nonneg h t e
    unfold ovs at *
    simp only [List.map_cons, List.sum_cons]
    omega
theorem Great.low {D : List Ed} {n : Nat} {h : Ht} (G : Great D n h) (I : In n D) {u : Nat} (hu : u < n) : -(room D) ≤ h u := by
  have key : ∀ k : Nat, (k : Int) ≤ -(h u) → (k : Int) ≤ ovs h (-(k : Int)) D := by
    intro k
    induction k with
    | zero => intro _; exact ovs_nonneg _ _ _
    | succ k ih =>
      intro hk
      have ih := ih (by omega)
      obtain ⟨e, he, h1, h2, h3⟩ := G.cross I (t := -((k + 1 : Nat) : Int)) (by omega) hu (by omega)
      have s := ovs_step he h1 h2 h3
      have e1 : -((k + 1 : Nat) : Int) + 1 = -(k : Int) := by omega
      rw [e1] at s
      omega
  have neg := G.neg u hu
  obtain ⟨k, hk⟩ := Int.eq_ofNat_of_zero_le (show 0 ≤ -(h u) by omega)
  have := key k (by omega)
  have := ovs_le h (-(k : Int)) D
  omega
/-! ### lowering, round by round -/
def up (h : Ht) (x : Nat) (v : Int) : Ht := fun y => if y = x then v else h y
def rl (lv : Ht) (e : Ed) : Ht := if lv e.1 > lv e.2.1 + e.2.2 then up lv e.1 (lv e.2.1 + e.2.2) else lv
def rnd (lv : Ht) (D : List Ed) : Ht := D.foldl rl lv
theorem rl_le (lv : Ht) (e : Ed) (x : Nat) : rl lv e x ≤ lv x := by
  unfold rl
  split
  · unfold up
    split
    · rename_i h c; subst c; omega
    · omega
  · omega
theorem rl_ge {lv g : Ht} {e : Ed} (f : g e.1 ≤ g e.2.1 + e.2.2) (h : ∀ x, g x ≤ lv x) (x : Nat) : g x ≤ rl lv e x := by
  unfold rl
  split
  · unfold up
    split
    · rename_i c; subst c; have := h e.2.1; omega
    · exact h x
  · exact h x
theorem rnd_le (D : List Ed) : ∀ (lv : Ht) (x : Nat), rnd lv D x ≤ lv x := by
  induction D with
  | nil => intro lv x; exact Int.le_refl _
  | cons e D ih =>
    intro lv x
    exact Int.le_trans (ih (rl lv e) x) (rl_le lv e x)
theorem rnd_ge {g : Ht} : ∀ {D : List Ed} {lv : Ht}, Feas D g → (∀ x, g x ≤ lv x) → ∀ x, g x ≤ rnd lv D x
  | [], lv, _, h, x => h x
  | e :: D, lv, f, h, x => rnd_ge (D := D) (fun d hd => f d (List.mem_cons_of_mem _ hd)) (fun y => rl_ge (f e (List.mem_cons_self ..)) h y) x
theorem rnd_hit {g : Ht} : ∀ {D : List Ed} {lv : Ht} {e : Ed}, Feas D g → (∀ x, g x ≤ lv x) → e ∈ D → g e.1 = g e.2.1 + e.2.2 → lv e.2.1 = g e.2.1 → rnd lv D e.1 = g e.1
  | d :: D, lv, e, f, h, he, ht, hs => by
    have f2 : Feas D g := fun d hd => f d (List.mem_cons_of_mem _ hd)
    have h2 := fun y => rl_ge (lv := lv) (f d (List.mem_cons_self ..)) h y
    have s2 : rl lv d e.2.1 = g e.2.1 := by
      have a := rl_le lv d e.2.1
      have b := h2 e.2.1
      omega
    rcases List.mem_cons.mp he with rfl | he
    · have : rl lv e e.1 = g e.1 := by
        have b := h2 e.1
        have : rl lv e e.1 ≤ lv e.2.1 + e.2.2 := by
          unfold rl
          split
          · unfold up; rw [if_pos rfl]; omega
          · omega
        omega
      have a := rnd_le D (rl lv e) e.1
      have b := rnd_ge f2 h2 e.1
      show rnd (rl lv e) D e.1 = g e.1
      omega
    · exact rnd_hit (D := D) f2 h2 he ht s2
/-- how many are where they belong -/
def sett (n : Nat) (lv g : Ht) : Nat := (List.range n).countP fun x => decide (lv x = g x)
theorem sett_mono {n : Nat} {lv lv' g : Ht} (h : ∀ x, x < n → lv x = g x → lv' x = g x) : sett n lv g ≤ sett n lv' g := by
  unfold sett
  refine List.countP_mono_left fun x hx => ?_
  intro e
  exact decide_eq_true (h x (List.mem_range.mp hx) (of_decide_eq_true e))
theorem sett_more {n : Nat} {lv lv' g : Ht} (h : ∀ x, x < n → lv x = g x → lv' x = g x) {y : Nat} (hy : y < n) (h1 : lv y ≠ g y) (h2 : lv' y = g y) : sett n lv g + 1 ≤ sett n lv' g := by
  have key : ∀ (l : List Nat), (∀ x ∈ l, lv x = g x → lv' x = g x) → l.countP (fun x => decide (lv x = g x)) ≤ l.countP (fun x => decide (lv' x = g x)) ∧ (y ∈ l → l.countP (fun x => decide (lv x = g x)) + 1 ≤ l.countP (fun x => decide (lv' x = g x))) := by
    intro l
    induction l with
    | nil => intro _; exact ⟨Nat.le_refl _, fun h => by cases h⟩
    | cons x l ih =>
      intro hl
      have i := ih fun z hz => hl z (List.mem_cons_of_mem _ hz)
      have hx := hl x (List.mem_cons_self ..)
      rw [List.countP_cons, List.countP_cons]
      by_cases c : lv x = g x
      · have d1 : decide (lv x = g x) = true := decide_eq_true c
        have d2 : decide (lv' x = g x) = true := decide_eq_true (hx c)
        simp only [d1, d2, if_true]
        refine ⟨by omega, fun hm => ?_⟩
        rcases List.mem_cons.mp hm with rfl | hm
        · exact absurd c h1
        · have := i.2 hm; omega
      · have d1 : decide (lv x = g x) = false := decide_eq_false c
        simp only [d1, Bool.false_eq_true, if_false]
        refine ⟨by omega, fun hm => ?_⟩
        rcases List.mem_cons.mp hm with rfl | hm
        · have d2 : decide (lv' y = g y) = true := decide_eq_true h2
          simp only [d2, if_true]; omega
        · have := i.2 hm; omega
  exact (key (List.range n) fun x hx => h x (List.mem_range.mp hx)).2 (List.mem_range.mpr hy)
/-- a round settles one more -/
theorem rnd_more {D : List Ed} {n : Nat} {g lv : Ht} (G : Great D n g) (I : In n D) (hn : ∀ x, g x ≤ lv x) (h0 : ∀ x, x < n → lv x ≤ 0) (c : ∃ y, y < n ∧ lv y ≠ g y) : sett n lv g + 1 ≤ sett n (rnd lv D) g := by
  have keep : ∀ x, x < n → lv x = g x → rnd lv D x = g x := fun x _ e => by
    have a := rnd_le D lv x
    have b := rnd_ge G.feas hn x
    omega
  -- raise all that are not settled
  apply Classical.byContradiction
  intro no
  obtain ⟨y, hy, hyn⟩ := c
  have nohit : ∀ e ∈ D, g e.1 = g e.2.1 + e.2.2 → lv e.2.1 = g e.2.1 → lv e.1 = g e.1 := by
    intro e he ht hs
    apply Classical.byContradiction
    intro z
    exact no (sett_more keep (I e he).1 z (rnd_hit G.feas hn he ht hs))
  have key := G.top (fun x => if lv x = g x then g x else g x + 1) ?_ ?_ y hy
  · rw [if_neg hyn] at key; omega
  · intro e he
    have f := G.feas e he
    show (if lv e.1 = g e.1 then g e.1 else g e.1 + 1) ≤ (if lv e.2.1 = g e.2.1 then g e.2.1 else g e.2.1 + 1) + e.2.2
    by_cases c1 : lv e.1 = g e.1
    · by_cases c2 : lv e.2.1 = g e.2.1
      · rw [if_pos c1, if_pos c2]; omega
      · rw [if_pos c1, if_neg c2]; omega
    · by_cases c2 : lv e.2.1 = g e.2.1
      · rw [if_neg c1, if_pos c2]
        by_cases c3 : g e.1 = g e.2.1 + e.2.2
        · exact absurd (nohit e he c3 c2) c1
        · omega
      · rw [if_neg c1, if_neg c2]; omega
  · intro x hx
    show (if lv x = g x then g x else g x + 1) ≤ 0
    have := hn x
    have := h0 x hx
    have := G.neg x hx
    split <;> omega
theorem sett_le (n : Nat) (lv g : Ht) : sett n lv g ≤ n := by
  have : sett n lv g ≤ (List.range n).length := List.countP_le_length
  rwa [List.length_range] at this
end K13

set_option maxRecDepth 100000
set_option maxHeartbeats 4000000
namespace K13
open PySem L2 VL
/-- a chain gone on -/
def go (es : List Ed) : Nat → Int → List Int → Option (Nat × Int)
  | l, t, [] => some (l, t)
  | l, t, x :: r => match es[x.toNat]? with
    | none => none
    | some e => if e.1 = l then go es e.2.1 (t + e.2.2) r else none
theorem go_snoc {es : List Ed} : ∀ {ns : List Int} {l l' : Nat} {t t' : Int} {k : Nat} {e : Ed}, go es l t ns = some (l', t') → es[k]? = some e → e.1 = l' → go es l t (ns ++ [(k : Int)]) = some (e.2.1, t' + e.2.2)
  | [], l, l', t, t', k, e, h, he, hl => by
    cases h
    show (match es[((k : Int)).toNat]? with | none => none | some e => if e.1 = l then go es e.2.1 (t + e.2.2) [] else none) = _
    rw [Int.toNat_natCast, he]
    show (if e.1 = l then some (e.2.1, t + e.2.2) else none) = _
    rw [if_pos hl]
  | x :: r, l, l', t, t', k, e, h, he, hl => by
    unfold go at h
    show (match es[x.toNat]? with | none => none | some e => if e.1 = l then go es e.2.1 (t + e.2.2) (r ++ [(k : Int)]) else none) = _
    cases hx : es[x.toNat]? with
    | none => rw [hx] at h; cases h
    | some d =>
      rw [hx] at h
      have h : (if d.1 = l then go es d.2.1 (t + d.2.2) r else none) = some (l', t') := h
      show (if d.1 = l then go es d.2.1 (t + d.2.2) (r ++ [(k : Int)]) else none) = _
      by_cases c : d.1 = l
      · rw [if_pos c] at h ⊢
        exact go_snoc h he hl
      · rw [if_neg c] at h; cases h
/-- the differences with the new one (u, v, c) behind them -/
structure New (D' : List Ed) (n : Nat) (h0 : Ht) (u v : Nat) (c : Int) : Prop where
  great : Great D' n h0
  inn : In n D'
  hu : u < n
  hv : v < n
  ne : u ≠ v
  low : h0 v + c < h0 u
def dl (h0 : Ht) (u v : Nat) (c : Int) : Int := h0 u - (h0 v + c)
/-- in the midst of the mending -/
structure Mid (D' : List Ed) (n : Nat) (h0 : Ht) (u v : Nat) (c : Int) (h : Ht) (cz : Nat → Option Nat) (T : Nat → Nat) (τ : Nat) : Prop where
  hi : ∀ x, x < n → h x ≤ h0 x
  lo : ∀ x, x < n → h0 x - dl h0 u v c ≤ h x
  hv : h v = h0 v
  hu : h u = h0 v + c
  cu : cz u = some D'.length
  cv : cz v = none
  cs : ∀ x k, cz x = some k → x ≠ u → ∃ e, D'[k]? = some e ∧ e.1 = x ∧ (cz e.2.1).isSome = true ∧ h e.2.1 + e.2.2 ≤ h x ∧ (h x = h e.2.1 + e.2.2 → T e.2.1 < T x)
  ct : ∀ x, (cz x).isSome = true → x < n ∧ T x < τ
  top : ∀ g, Feas (D' ++ [(u, v, c)]) g → (∀ x, x < n → g x ≤ 0) → ∀ x, x < n → g x ≤ h x
section
variable {D' : List Ed} {n : Nat} {h0 : Ht} {u v : Nat} {c : Int}
theorem Mid.start (N : New D' n h0 u v c) : Mid D' n h0 u v c (up h0 u (h0 v + c)) (fun x => if x = u then some D'.length else none) (fun _ => 0) 1 := by
  have low := N.low
  have ne := N.ne
  refine ⟨fun x hx => ?_, fun x hx => ?_, ?_, ?_, if_pos rfl, if_neg (Ne.symm ne), fun x k hk hx => ?_, fun x hx => ?_, fun g f gn x hx => ?_⟩
  · unfold up
    split
    · rename_i e; subst e; omega
    · omega
  · unfold up dl
    split
    · rename_i e; subst e; omega
    · omega
  · unfold up; rw [if_neg (Ne.symm ne)]
  · unfold up; rw [if_pos rfl]
  · have hk : (if x = u then some D'.length else none) = some k := hk
    rw [if_neg hx] at hk; cases hk
  · by_cases e : x = u
    · subst e; exact ⟨N.hu, Nat.lt_succ_self _⟩
    · have hx : (if x = u then some D'.length else none).isSome = true := hx
      rw [if_neg e] at hx; cases hx
  · have g1 := N.great.top g (fun e he => f e (List.mem_append_left _ he)) gn
    unfold up
    split
    · rename_i e
      subst e
      have := f (x, v, c) (List.mem_append_right _ (List.mem_singleton.mpr rfl))
      have := g1 v N.hv
      simp only at *
      omega
    · exact g1 x hx
/-- what is lowered is neither the new one's first part nor the node it is lowered by -/
theorem Mid.side (N : New D' n h0 u v c) {h : Ht} {cz : Nat → Option Nat} {T : Nat → Nat} {τ : Nat} (M : Mid D' n h0 u v c h cz T τ) {k : Nat} {e : Ed} (hk : (D' ++ [(u, v, c)])[k]? = some e) (hl : h e.2.1 + e.2.2 < h e.1) : D'[k]? = some e ∧ e.1 ≠ u ∧ e.1 ≠ e.2.1 ∧ e.1 < n ∧ e.2.1 < n := by
  have h1 : D'[k]? = some e := by
    by_cases q : k < D'.length
    · rw [List.getElem?_append_left q] at hk; exact hk
    · rw [List.getElem?_append_right (by omega)] at hk
      have : k - D'.length = 0 := by
        cases w : k - D'.length with
        | zero => rfl
        | succ j => rw [w] at hk; simp at hk
      rw [this] at hk
      simp at hk
      subst hk
      have := M.hu
      have := M.hv
      simp only at hl
      omega
  have hm := List.mem_of_getElem? h1
  have f := N.great.feas e hm
  have i := N.inn e hm
  have l1 := M.lo e.2.1 i.2
  refine ⟨h1, fun z => ?_, fun z => ?_, i.1, i.2⟩
  · have := M.hu
    rw [z] at hl f
    unfold dl at l1
    omega
  · rw [z] at hl f
    omega
theorem Mid.step (N : New D' n h0 u v c) {h : Ht} {cz : Nat → Option Nat} {T : Nat → Nat} {τ : Nat} (M : Mid D' n h0 u v c h cz T τ) {k : Nat} {e : Ed} (hk : (D' ++ [(u, v, c)])[k]? = some e) (hl : h e.2.1 + e.2.2 < h e.1) (hc : (cz e.2.1).isSome = true) (hv : e.1 ≠ v) :
    Mid D' n h0 u v c (up h e.1 (h e.2.1 + e.2.2)) (fun x => if x = e.1 then some k else cz x) (fun x => if x = e.1 then τ else T x) (τ + 1) := by
  obtain ⟨h1, n1, n2, i1, i2⟩ := M.side N hk hl
  have hm := List.mem_of_getElem? h1
  have f := N.great.feas e hm
  have le : ∀ x, up h e.1 (h e.2.1 + e.2.2) x ≤ h x := fun x => by
    unfold up
    split
    · rename_i z; subst z; omega
    · omega
  refine ⟨fun x hx => Int.le_trans (le x) (M.hi x hx), fun x hx => ?_, ?_, ?_, ?_, ?_, fun x j hj hx => ?_, fun x hx => ?_, fun g fg gn x hx => ?_⟩
  · unfold up
    split
    · rename_i z
      subst z
      have := M.lo e.2.1 i2
      omega
    · exact M.lo x hx
  · unfold up; rw [if_neg (Ne.symm hv)]; exact M.hv
  · unfold up; rw [if_neg (Ne.symm n1)]; exact M.hu
  · show (if u = e.1 then some k else cz u) = _
    rw [if_neg (Ne.symm n1)]; exact M.cu
  · show (if v = e.1 then some k else cz v) = _
    rw [if_neg (Ne.symm hv)]; exact M.cv
  · have hj : (if x = e.1 then some k else cz x) = some j := hj
    have Tlt := fun y (hy : (cz y).isSome = true) => (M.ct y hy).2
    by_cases z : x = e.1
    · rw [if_pos z] at hj
      cases hj
      subst z
      refine ⟨e, h1, rfl, ?_, ?_, fun _ => ?_⟩
      · show (if e.2.1 = e.1 then some k else cz e.2.1).isSome = true
        rw [if_neg (Ne.symm n2)]; exact hc
      · unfold up; rw [if_pos rfl, if_neg (Ne.symm n2)]; exact Int.le_refl _
      · show (if e.2.1 = e.1 then τ else T e.2.1) < (if e.1 = e.1 then τ else T e.1)
        rw [if_neg (Ne.symm n2), if_pos rfl]
        exact Tlt _ hc
    · rw [if_neg z] at hj
      obtain ⟨d, d1, d2, d3, d4, d5⟩ := M.cs x j hj hx
      refine ⟨d, d1, d2, ?_, ?_, ?_⟩
      · show (if d.2.1 = e.1 then some k else cz d.2.1).isSome = true
        split
        · rfl
        · exact d3
      · have := le d.2.1
        have : up h e.1 (h e.2.1 + e.2.2) x = h x := by unfold up; rw [if_neg z]
        omega
      · have ex : up h e.1 (h e.2.1 + e.2.2) x = h x := by unfold up; rw [if_neg z]
        rw [ex]
        intro eq
        show (if d.2.1 = e.1 then τ else T d.2.1) < (if x = e.1 then τ else T x)
        rw [if_neg z]
        by_cases w : d.2.1 = e.1
        · exfalso
          have : up h e.1 (h e.2.1 + e.2.2) d.2.1 = h e.2.1 + e.2.2 := by unfold up; rw [if_pos w]
          rw [w] at d4
          omega
        · rw [if_neg w]
          have : up h e.1 (h e.2.1 + e.2.2) d.2.1 = h d.2.1 := by unfold up; rw [if_neg w]
          rw [this] at eq
          exact d5 eq
  · have hx : (if x = e.1 then some k else cz x).isSome = true := hx
    show x < n ∧ (if x = e.1 then τ else T x) < τ + 1
    by_cases z : x = e.1
    · rw [if_pos z]
      subst z
      exact ⟨i1, by omega⟩
    · rw [if_neg z] at hx ⊢
      have := M.ct x hx
      exact ⟨this.1, by omega⟩
  · have t := M.top g fg gn
    unfold up
    split
    · rename_i z
      subst z
      have := fg e (List.mem_append_left _ hm)
      have := t e.2.1 i2
      omega
    · exact t x hx
/-- at the end -/
theorem Mid.done (N : New D' n h0 u v c) {h : Ht} {cz : Nat → Option Nat} {T : Nat → Nat} {τ : Nat} (M : Mid D' n h0 u v c h cz T τ) (f : Feas (D' ++ [(u, v, c)]) h) : Great (D' ++ [(u, v, c)]) n h :=
  ⟨f, fun x hx => Int.le_trans (M.hi x hx) (N.great.neg x hx), M.top⟩
/-- the rank of a node in the chain of the causes -/
def rank (h0 : Ht) (u v : Nat) (c : Int) (h : Ht) (T : Nat → Nat) (τ : Nat) (x : Nat) : Nat := (h x - h0 x + dl h0 u v c).toNat * (τ + 1) + T x
theorem Mid.fall (N : New D' n h0 u v c) {h : Ht} {cz : Nat → Option Nat} {T : Nat → Nat} {τ : Nat} (M : Mid D' n h0 u v c h cz T τ) {x k : Nat} {e : Ed} (hk : cz x = some k) (hx : x ≠ u) (he : D'[k]? = some e) (h1 : e.1 = x) (h3 : (cz e.2.1).isSome = true) (h4 : h e.2.1 + e.2.2 ≤ h x) (h5 : h x = h e.2.1 + e.2.2 → T e.2.1 < T x) : rank h0 u v c h T τ e.2.1 < rank h0 u v c h T τ x := by
  have hm := List.mem_of_getElem? he
  have f := N.great.feas e hm
  have i := N.inn e hm
  have lo1 := M.lo e.2.1 i.2
  have lo2 := M.lo e.1 i.1
  rw [h1] at f lo2
  have t1 := (M.ct _ h3).2
  have t2 := (M.ct x (by rw [hk]; rfl)).2
  unfold rank
  obtain ⟨a, ha⟩ := Int.eq_ofNat_of_zero_le (show 0 ≤ h x - h0 x + dl h0 u v c by omega)
  obtain ⟨b, hb⟩ := Int.eq_ofNat_of_zero_le (show 0 ≤ h e.2.1 - h0 e.2.1 + dl h0 u v c by omega)
  rw [ha, hb, Int.toNat_natCast, Int.toNat_natCast]
  by_cases q : h x = h e.2.1 + e.2.2
  · have t3 := h5 q
    have : b ≤ a := by omega
    have : b * (τ + 1) ≤ a * (τ + 1) := Nat.mul_le_mul_right _ this
    omega
  · have : b + 1 ≤ a := by omega
    have : (b + 1) * (τ + 1) ≤ a * (τ + 1) := Nat.mul_le_mul_right _ this
    rw [Nat.succ_mul] at this
    omega
end
end K13

set_option maxRecDepth 100000
set_option maxHeartbeats 4000000
namespace K13
open PySem L2 VL
/-- all sums of some -/
def subs : List Int → List Int
  | [] => [0]
  | d :: r => subs r ++ (subs r).map (d + ·)
theorem subs_len : ∀ l : List Int, (subs l).length = 2 ^ l.length
  | [] => rfl
  | d :: r => by
    simp only [subs, List.length_append, List.length_map, subs_len r, List.length_cons, Nat.pow_succ]
    omega
/-- the sum over the numbers that p has -/
def pick (p : List Nat) : Nat → List Int → Int
  | _, [] => 0
  | k, d :: r => (if k ∈ p then d else 0) + pick p (k + 1) r
theorem pick_sub (p : List Nat) : ∀ (l : List Int) (k : Nat), pick p k l ∈ subs l
  | [], _ => List.mem_singleton.mpr rfl
  | d :: r, k => by
    have ih := pick_sub p r (k + 1)
    simp only [pick, subs]
    by_cases c : k ∈ p
    · rw [if_pos c]
      exact List.mem_append_right _ (List.mem_map.mpr ⟨_, ih, rfl⟩)
    · rw [if_neg c, Int.zero_add]
      exact List.mem_append_left _ ih
theorem pick_nil : ∀ (l : List Int) (k : Nat), pick [] k l = 0
  | [], _ => rfl
  | d :: r, k => by
    simp only [pick, pick_nil r (k + 1)]
    simp
theorem pick_out {p : List Nat} {j : Nat} : ∀ (l : List Int) (k : Nat), j < k → pick (j :: p) k l = pick p k l
  | [], _, _ => rfl
  | d :: r, k, h => by
    simp only [pick, pick_out (p := p) (j := j) r (k + 1) (by omega)]
    have : (k ∈ j :: p) ↔ k ∈ p := by
      rw [List.mem_cons]
      constructor
      · rintro (e | e)
        · omega
        · exact e
      · exact .inr
    simp only [this]
theorem pick_cons {p : List Nat} {j : Nat} (hj : j ∉ p) : ∀ (l : List Int) (k : Nat) (h1 : k ≤ j) (h2 : j - k < l.length), pick (j :: p) k l = l[j - k] + pick p k l
  | [], _, _, h2 => absurd h2 (Nat.not_lt_zero _)
  | d :: r, k, h1, h2 => by
    simp only [pick]
    by_cases c : k = j
    · subst c
      have : k ∈ k :: p := List.mem_cons_self ..
      rw [if_pos this, if_neg hj, pick_out r (k + 1) (Nat.lt_succ_self _)]
      simp
    · have h3 : k + 1 ≤ j := by omega
      have h4 : j - (k + 1) < r.length := by simp only [List.length_cons] at h2; omega
      rw [pick_cons hj r (k + 1) h3 h4]
      have : (k ∈ j :: p) ↔ k ∈ p := by
        rw [List.mem_cons]
        constructor
        · rintro (e | e)
          · exact absurd e c
          · exact e
        · exact .inr
      simp only [this]
      have e : j - k = (j - (k + 1)) + 1 := by omega
      have : (d :: r)[j - k] = r[j - (k + 1)] := by
        simp only [e, List.getElem_cons_succ]
      rw [this]
      omega
/-- a walk in D from x to u by the edges p -/
inductive Wk (D : List Ed) (u : Nat) : Nat → List Nat → Int → Prop
  | nil : Wk D u u [] 0
  | cons {k : Nat} {e : Ed} {p : List Nat} {s : Int} : D[k]? = some e → Wk D u e.2.1 p s → Wk D u e.1 (k :: p) (e.2.2 + s)
/-- what heights a walk has seen -/
inductive Seen (D : List Ed) (u : Nat) (b : Int) (h : Ht) : Nat → List Nat → Int → Prop
  | nil : h u ≤ b → Seen D u b h u [] 0
  | cons {k : Nat} {e : Ed} {p : List Nat} {s : Int} : D[k]? = some e → h e.1 ≤ b + (e.2.2 + s) → Seen D u b h e.2.1 p s → Seen D u b h e.1 (k :: p) (e.2.2 + s)
theorem Seen.mono {D : List Ed} {u : Nat} {b : Int} {h h' : Ht} (le : ∀ x, h' x ≤ h x) {x : Nat} {p : List Nat} {s : Int} (w : Seen D u b h x p s) : Seen D u b h' x p s := by
  induction w with
  | nil e => exact .nil (Int.le_trans (le _) e)
  | cons a e _ ih => exact .cons a (Int.le_trans (le _) e) ih
/-- a walk seen from y whose node x: the part from x on -/
theorem Seen.cyc {D : List Ed} {u : Nat} {b : Int} {h g : Ht} (f : Feas D g) {y : Nat} {p : List Nat} {s : Int} (w : Seen D u b h y p s) {x : Nat} : ∀ {k : Nat} {e : Ed}, k ∈ p → D[k]? = some e → e.1 = x → g y - g x ≤ s - (h x - b) := by
  induction w with
  | nil => intro k e hk; cases hk
  | @cons j d q t a le _ ih =>
    intro k e hk he hx
    rcases List.mem_cons.mp hk with rfl | hk
    · rw [a] at he
      cases he
      subst hx
      omega
    · have := ih hk he hx
      have := f d (List.mem_of_getElem? a)
      omega
theorem Seen.sum {D : List Ed} {u : Nat} {b : Int} {h : Ht} {x : Nat} {p : List Nat} {s : Int} (w : Seen D u b h x p s) (nd : p.Nodup) : s = pick p 0 (D.map fun e => e.2.2) ∧ ∀ k ∈ p, k < D.length := by
  induction w with
  | nil => exact ⟨(pick_nil _ _).symm, fun k h => by cases h⟩
  | @cons j d q t a le _ ih =>
    rw [List.nodup_cons] at nd
    obtain ⟨e, i⟩ := ih nd.2
    obtain ⟨hj, hd⟩ := List.getElem?_eq_some_iff.mp a
    refine ⟨?_, fun k hk => ?_⟩
    · rw [pick_cons nd.1 _ 0 (Nat.zero_le _) (by simpa using hj), ← e]
      simp [hd]
    · rcases List.mem_cons.mp hk with rfl | hk
      · exact hj
      · exact i k hk
end K13

set_option maxRecDepth 100000
set_option maxHeartbeats 4000000
namespace K13
open PySem L2 VL
theorem countP_less {α : Type} {p q : α → Bool} : ∀ {l : List α}, (∀ a ∈ l, q a = true → p a = true) → l.countP q ≤ l.countP p ∧ ((∃ a ∈ l, p a = true ∧ q a = false) → l.countP q + 1 ≤ l.countP p)
  | [], _ => ⟨Nat.le_refl _, fun ⟨a, h, _⟩ => by cases h⟩
  | x :: l, h => by
    have ih := countP_less (l := l) fun a ha => h a (List.mem_cons_of_mem _ ha)
    have hx := h x (List.mem_cons_self ..)
    rw [List.countP_cons, List.countP_cons]
    refine ⟨?_, ?_⟩
    · by_cases c : q x = true
      · rw [if_pos c, if_pos (hx c)]; omega
      · rw [if_neg c]; omega
    · rintro ⟨a, ha, h1, h2⟩
      rcases List.mem_cons.mp ha with rfl | ha
      · rw [if_pos h1, if_neg (by rw [h2]; decide)]; omega
      · have := ih.2 ⟨a, ha, h1, h2⟩
        by_cases c : q x = true
        · rw [if_pos c, if_pos (hx c)]; omega
        · rw [if_neg c]; omega
theorem sum_less {f g : Nat → Nat} : ∀ {l : List Nat}, (∀ a ∈ l, g a ≤ f a) → (l.map g).sum ≤ (l.map f).sum ∧ ∀ a ∈ l, g a + 1 ≤ f a → (l.map g).sum + 1 ≤ (l.map f).sum
  | [], _ => ⟨Nat.le_refl _, fun a h => by cases h⟩
  | x :: l, h => by
    have ih := sum_less (l := l) fun a ha => h a (List.mem_cons_of_mem _ ha)
    have hx := h x (List.mem_cons_self ..)
    simp only [List.map_cons, List.sum_cons]
    refine ⟨by omega, fun a ha h1 => ?_⟩
    rcases List.mem_cons.mp ha with rfl | ha
    · omega
    · have := ih.2 a ha h1; omega
/-- how far down each may still go -/
def phi1 (D' : List Ed) (b : Int) (h : Ht) (x : Nat) : Nat := (subs (D'.map fun e => e.2.2)).countP fun t => decide (b + t < h x)
def phi (n : Nat) (D' : List Ed) (b : Int) (h : Ht) : Nat := ((List.range n).map (phi1 D' b h)).sum
theorem phi_le (n : Nat) (D' : List Ed) (b : Int) (h : Ht) : phi n D' b h ≤ n * 2 ^ D'.length := by
  have one : ∀ x, phi1 D' b h x ≤ 2 ^ D'.length := fun x => by
    have : phi1 D' b h x ≤ (subs (D'.map fun e => e.2.2)).length := List.countP_le_length
    rwa [subs_len, List.length_map] at this
  have key : ∀ l : List Nat, (l.map (phi1 D' b h)).sum ≤ l.length * 2 ^ D'.length := by
    intro l
    induction l with
    | nil => simp
    | cons x l ih =>
      simp only [List.map_cons, List.sum_cons, List.length_cons, Nat.succ_mul]
      have := one x
      omega
  have := key (List.range n)
  rwa [List.length_range] at this
/-- each height that was lowered is a walk's sum -/
def Pa (D' : List Ed) (u : Nat) (b : Int) (h : Ht) (cz : Nat → Option Nat) : Prop := ∀ x, (cz x).isSome = true → ∃ p s, Seen D' u b h x p s ∧ p.Nodup ∧ h x = b + s
section
variable {D' : List Ed} {n : Nat} {h0 : Ht} {u v : Nat} {c : Int}
theorem Pa.start (N : New D' n h0 u v c) : Pa D' u (h0 v + c) (up h0 u (h0 v + c)) (fun x => if x = u then some D'.length else none) := by
  intro x hx
  by_cases e : x = u
  · subst e
    have : up h0 x (h0 v + c) x = h0 v + c := by unfold up; rw [if_pos rfl]
    exact ⟨[], 0, .nil (by omega), .nil, by omega⟩
  · have hx : (if x = u then some D'.length else none).isSome = true := hx
    rw [if_neg e] at hx; cases hx
theorem Pa.step (N : New D' n h0 u v c) {h : Ht} {cz : Nat → Option Nat} {T : Nat → Nat} {τ : Nat} (M : Mid D' n h0 u v c h cz T τ) (W : Pa D' u (h0 v + c) h cz) {k : Nat} {e : Ed} (hk : (D' ++ [(u, v, c)])[k]? = some e) (hl : h e.2.1 + e.2.2 < h e.1) (hc : (cz e.2.1).isSome = true) :
    Pa D' u (h0 v + c) (up h e.1 (h e.2.1 + e.2.2)) (fun x => if x = e.1 then some k else cz x) ∧ phi n D' (h0 v + c) (up h e.1 (h e.2.1 + e.2.2)) + 1 ≤ phi n D' (h0 v + c) h := by
  obtain ⟨h1, n1, n2, i1, i2⟩ := M.side N hk hl
  have le : ∀ x, up h e.1 (h e.2.1 + e.2.2) x ≤ h x := fun x => by
    unfold up
    split
    · rename_i z; subst z; omega
    · omega
  obtain ⟨p, s, w, nd, hs⟩ := W _ hc
  have f := N.great.feas
  have kp : k ∉ p := fun z => by
    have := w.cyc f z h1 rfl
    have := f e (List.mem_of_getElem? h1)
    omega
  have here : up h e.1 (h e.2.1 + e.2.2) e.1 = h e.2.1 + e.2.2 := by unfold up; rw [if_pos rfl]
  have w2 : Seen D' u (h0 v + c) (up h e.1 (h e.2.1 + e.2.2)) e.1 (k :: p) (e.2.2 + s) := .cons h1 (by omega) (w.mono le)
  have nd2 : (k :: p).Nodup := List.nodup_cons.mpr ⟨kp, nd⟩
  refine ⟨fun x hx => ?_, ?_⟩
  · by_cases z : x = e.1
    · subst z
      exact ⟨_, _, w2, nd2, by omega⟩
    · have hx : (if x = e.1 then some k else cz x).isSome = true := hx
      rw [if_neg z] at hx
      obtain ⟨p, s, w, nd, hs⟩ := W x hx
      exact ⟨p, s, w.mono le, nd, by unfold up; rw [if_neg z]; exact hs⟩
  · refine (sum_less (l := List.range n) (f := phi1 D' (h0 v + c) h) (g := phi1 D' (h0 v + c) (up h e.1 (h e.2.1 + e.2.2))) fun a _ => ?_).2 e.1 (List.mem_range.mpr i1) ?_
    · refine (countP_less fun t _ ht => ?_).1
      have := of_decide_eq_true ht
      have := le a
      exact decide_eq_true (by omega)
    · refine (countP_less fun t _ ht => ?_).2 ⟨e.2.2 + s, ?_, ?_, ?_⟩
      · have := of_decide_eq_true ht
        have := le e.1
        exact decide_eq_true (by omega)
      · rw [(w2.sum nd2).1]
        exact pick_sub _ _ _
      · exact decide_eq_true (by omega)
      · exact decide_eq_false (by omega)
end
end K13

set_option maxRecDepth 100000
set_option maxHeartbeats 4000000
namespace K13
open PySem L2 VL
abbrev il (ns : List Int) : List AV := ns.map AV.int
theorem il_get {ns : List Int} {j : Nat} (hj : j < ns.length) : atI (il ns) (j : Int) = some (.int ns[j]) := by
  rw [atI_nat (by simpa using hj)]
  simp [hj]
theorem k_subI {h : AHeap} {x : AV} {ns : List Int} {j : Nat} {Q : KA} (hv : viewT h x = some (il ns)) (hn : ∀ z, x ≠ .str z) (hj : j < ns.length) (q : Q (.int ns[j])) : subK h x (.int (j : Int)) Q := k_subL hv hn (il_get hj) q
theorem k_subIl {h : AHeap} {ns : List Int} {j : Nat} {Q : KA} (hj : j < ns.length) (q : Q (.int ns[j])) : subK h (.lst (il ns)) (.int (j : Int)) Q := k_subI viewT_lst (fun _ h => by cases h) hj q
theorem comp_ints {B : AV → AHeap → (Option AV → AHeap → Prop) → Prop} {xs : List AV} {h : AHeap} {Q : List AV → AHeap → Prop} (f : Nat → Int) (hs : ∀ i x R, xs[i]? = some x → R (some (.int (f i))) h → B x h R) (hd : Q (il ((List.range xs.length).map f)) h) :
    compL B (fun _ => True) xs [] h Q := comp_map (fun i => .int (f i)) hs (by rw [il, List.map_map] at hd; exact hd)
theorem int_one (ds : List Int) (x : Int) : il ds ++ [.int x] = il (ds ++ [x]) := by rw [il, il, List.map_append]; rfl
theorem set_int (ds : List Int) (j : Nat) (x : Int) : (il ds).set j (.int x) = il (ds.set j x) := by rw [il, il, List.map_set]
theorem int_app (ds es : List Int) : il ds ++ il es = il (ds ++ es) := (List.map_append ..).symm
theorem k_sum {h : AHeap} {ns : List Int} {Q : KA} (q : Q (.int ns.sum)) : bltK h .sum [.lst (il ns)] Q := by
  unfold bltK
  simp only [view_lst, Option.bind_some, asInts_map]
  exact q
theorem k_all {h : AHeap} {bs : List Bool} {Q : KA} (q : Q (.bl (bs.all id))) : bltK h .all [.lst (bs.map AV.bl)] Q := by
  unfold bltK
  simp only [view_lst, Option.bind_some, asBools_map]
  exact q
theorem nat_of {i : Int} (h : 0 ≤ i) : ∃ j : Nat, i = j := Int.eq_ofNat_of_zero_le h
/-- sizes that are drawn below -/
def Sizes (ss : List Int) : Prop := ∀ s ∈ ss, 0 < s ∧ s.natAbs.log2 < 9000
theorem law_cell_ok {n : Nat} {ns : List Int} {k : Int} {h Q} (q : ∀ c : Int, Q (.int c) h) : callN P (n+1) 3 [.ro (il ns), .int k] h Q := by
  refine ⟨rfl, ?_⟩
  show WpSs (ctxOf P (callN P n)) b_law_cell _ [.val (.ro (il ns)), .val (.int k)] h
  simp only [b_law_cell, List.length_map, WpSs, WpS, WpE, WpEs, WpBs, WpO, WpN, WpI, WpC, WpT, getS, setS, tgK, setsS, wipeS, k_add, k_addT, k_sub, k_mul, k_fdiv, k_mod, k_neg, k_lt, k_le, k_gt, k_ge, k_eqI, k_neI, k_eqS, k_neS, k_eqB, k_neB, k_is, k_isn, isNon_non, isNon_int, isNon_str, isNon_lst, isNon_tup, isNon_adr, k_lenS, k_lenL, k_lenR, k_lenT, k_int, k_str, k_abs, tru_bl, augK, ctx_call, ctx_glob, k_in, k_nin, k_inS]
  refine ite_b (fun c => ?_) (fun c => by simp only [b_law_cell_1, WpSs, WpS, WpE, WpEs, WpBs, WpO, WpN, WpI, WpC, WpT, getS, setS, tgK, setsS, wipeS, k_add, k_addT, k_sub, k_mul, k_fdiv, k_mod, k_neg, k_lt, k_le, k_gt, k_ge, k_eqI, k_neI, k_eqS, k_neS, k_eqB, k_neB, k_is, k_isn, isNon_non, isNon_int, isNon_str, isNon_lst, isNon_tup, isNon_adr, k_lenS, k_lenL, k_lenR, k_lenT, k_int, k_str, k_abs, tru_bl, augK, ctx_call, ctx_glob, k_in, k_nin, k_inS]; exact q _)
  have h1 := Int.emod_nonneg k (b := (ns.length : Int)) (by omega)
  have h2 := Int.emod_lt_of_pos k (b := (ns.length : Int)) (by omega)
  refine ⟨by omega, ?_⟩
  obtain ⟨j, hj⟩ := nat_of h1
  rw [hj] at h2 ⊢
  exact k_subI viewT_ro (fun _ h => by cases h) (by omega) (q _)
def primes : List Int := [2147483647, 998244353, 1000000007, 1000000009, 4294967291, 1073741789, 536870909, 2305843009213693951]
theorem primes_ok (j : Nat) (hj : j < primes.length) : 0 < primes[j] ∧ primes[j] ≤ 2305843009213693951 := by
  have : ∀ p ∈ primes, 0 < p ∧ p ≤ 2305843009213693951 := by decide
  exact this _ (List.getElem_mem hj)
theorem k_prime {h : AHeap} {i : Int} {Q : KA} (h0 : 0 ≤ i) (q : ∀ p : Int, 0 < p → p ≤ 2305843009213693951 → Q (.int p)) : subK h (.lst [.int 2147483647, .int 998244353, .int 1000000007, .int 1000000009, .int 4294967291, .int 1073741789, .int 536870909, .int 2305843009213693951]) (.int (i % 8)) Q := by
  have h1 := Int.emod_nonneg i (b := 8) (by omega)
  have h2 := Int.emod_lt_of_pos i (b := 8) (by omega)
  obtain ⟨j, hj⟩ := nat_of h1
  rw [hj] at h2 ⊢
  have hj : j < primes.length := by show j < 8; omega
  exact k_subIl (ns := primes) hj (q _ (primes_ok j hj).1 (primes_ok j hj).2)
theorem draws_ok {n : Nat} {ns ss : List Int} {p : Int} {h Q} (hs : Sizes ss) (hl : ss.length ≤ 1000) (q : ∀ ds : List Int, ds.length = ss.length → (∀ (i : Nat) (h1 : i < ds.length) (h2 : i < ss.length), 0 ≤ ds[i] ∧ ds[i] < ss[i]) → Q (.lst (il ds)) h) : callN P (n+2) 4 [.ro (il ns), .int p, .lst (il ss)] h Q := by
  refine ⟨rfl, ?_⟩
  show WpSs (ctxOf P (callN P (n+1))) b_law_draws _ [.val (.ro (il ns)), .val (.int p), .val (.lst (il ss)), .no, .no, .no, .no, .no, .no, .no] h
  have hz1 : sizeLine = 16777216 := rfl
  simp only [b_law_draws, WpSs, WpS, WpE, WpEs, WpBs, WpO, WpN, WpI, WpC, WpT, getS, setS, tgK, setsS, wipeS, k_add, k_addT, k_sub, k_mul, k_fdiv, k_mod, k_neg, k_lt, k_le, k_gt, k_ge, k_eqI, k_neI, k_eqS, k_neS, k_eqB, k_neB, k_is, k_isn, isNon_non, isNon_int, isNon_str, isNon_lst, isNon_tup, isNon_adr, k_lenS, k_lenL, k_lenR, k_lenT, k_int, k_str, k_abs, tru_bl, augK, ctx_call, ctx_glob, k_in, k_nin, k_inS]
  refine ⟨by decide, ?_⟩
  refine law_cell_ok fun c => ?_
  simp only [WpSs, WpS, WpE, WpEs, WpBs, WpO, WpN, WpI, WpC, WpT, getS, setS, tgK, setsS, wipeS, k_add, k_addT, k_sub, k_mul, k_fdiv, k_mod, k_neg, k_lt, k_le, k_gt, k_ge, k_eqI, k_neI, k_eqS, k_neS, k_eqB, k_neB, k_is, k_isn, isNon_non, isNon_int, isNon_str, isNon_lst, isNon_tup, isNon_adr, k_lenS, k_lenL, k_lenR, k_lenT, k_int, k_str, k_abs, tru_bl, augK, ctx_call, ctx_glob, k_in, k_nin, k_inS]
  refine ⟨⟨by decide, by decide, by decide⟩, ?_⟩
  generalize (if c < 0 then -c else c) = c
  have main : ∀ r : Int, WpSs (ctxOf P (callN P (n+1))) b_law_draws_3 { nx := fun _ h => Q .non h, rt := Q } [.val (.ro (il ns)), .val (.int p), .val (.lst (il ss)), .val (.lst (il primes)), .val (.int c), .val (.int r), .no, .no, .no, .no] h := by
    intro r
    simp only [b_law_draws_3, List.length_map, WpSs, WpS, WpE, WpEs, WpBs, WpO, WpN, WpI, WpC, WpT, getS, setS, tgK, setsS, wipeS, k_add, k_addT, k_sub, k_mul, k_fdiv, k_mod, k_neg, k_lt, k_le, k_gt, k_ge, k_eqI, k_neI, k_eqS, k_neS, k_eqB, k_neB, k_is, k_isn, isNon_non, isNon_int, isNon_str, isNon_lst, isNon_tup, isNon_adr, k_lenS, k_lenL, k_lenR, k_lenT, k_int, k_str, k_abs, tru_bl, augK, ctx_call, ctx_glob, k_in, k_nin, k_inS]
    refine ⟨Nat.zero_le _, ⟨by omega, by omega⟩, ?_⟩
    rw [Int.toNat_natCast]
    refine for_inv (fun k ρ h' => h' = h ∧ ∃ (ds : List Int) (r : Int) (s7 s8 s9 : Slot), ds.length = k ∧ (∀ (i : Nat) (h1 : i < ds.length) (h2 : i < ss.length), 0 ≤ ds[i] ∧ ds[i] < ss[i]) ∧ ρ = [.val (.ro (il ns)), .val (.int p), .val (.lst (il ss)), .val (.lst (il primes)), .val (.int c), .val (.int r), .own (.lst (il ds)), s7, s8, s9]) ⟨rfl, [], r, .no, .no, .no, rfl, by simp, rfl⟩ (fun _ _ _ _ _ => by trivial) ?_ ?_
    · rintro k x _ h D' hx ⟨rfl, ds, r, s7, s8, s9, rfl, hd, rfl⟩ kn kc kr kb
      obtain ⟨hk, rfl⟩ := items_range hx
      have hk : ds.length < ss.length := hk
      have hsz := hs _ (List.getElem_mem hk)
      have app : ∀ v : Int, ∀ (i : Nat) (h1 : i < (ds ++ [v % ss[ds.length]]).length) (h2 : i < ss.length), 0 ≤ (ds ++ [v % ss[ds.length]])[i] ∧ (ds ++ [v % ss[ds.length]])[i] < ss[i] := by
        intro v i h1 h2
        rw [List.length_append] at h1
        have h1 : i < ds.length + 1 := h1
        by_cases e : i < ds.length
        · rw [List.getElem_append_left e]
          exact hd i e h2
        · have e : i = ds.length := by omega
          subst e
          rw [List.getElem_append_right (Nat.le_refl _)]
          simp only [Nat.sub_self, List.getElem_cons_zero]
          exact ⟨Int.emod_nonneg _ (by omega), Int.emod_lt_of_pos _ hsz.1⟩
      simp only [b_law_draws_1, WpSs, WpS, WpE, WpEs, WpBs, WpO, WpN, WpI, WpC, WpT, getS, setS, tgK, setsS, wipeS, k_add, k_addT, k_sub, k_mul, k_fdiv, k_mod, k_neg, k_lt, k_le, k_gt, k_ge, k_eqI, k_neI, k_eqS, k_neS, k_eqB, k_neB, k_is, k_isn, isNon_non, isNon_int, isNon_str, isNon_lst, isNon_tup, isNon_adr, k_lenS, k_lenL, k_lenR, k_lenT, k_int, k_str, k_abs, tru_bl, augK, ctx_call, ctx_glob, k_in, k_nin, k_inS]
      refine ite_b (fun c1 => ?_) (fun c1 => ?_)
      · refine k_subIl hk ?_
        simp only [WpSs, WpS, WpE, WpEs, WpBs, WpO, WpN, WpI, WpC, WpT, getS, setS, tgK, setsS, wipeS, k_add, k_addT, k_sub, k_mul, k_fdiv, k_mod, k_neg, k_lt, k_le, k_gt, k_ge, k_eqI, k_neI, k_eqS, k_neS, k_eqB, k_neB, k_is, k_isn, isNon_non, isNon_int, isNon_str, isNon_lst, isNon_tup, isNon_adr, k_lenS, k_lenL, k_lenR, k_lenT, k_int, k_str, k_abs, tru_bl, augK, ctx_call, ctx_glob, k_in, k_nin, k_inS]
        refine ⟨hsz.1, by rw [List.length_map]; omega, ?_⟩
        refine k_subIl hk ?_
        simp only [int_one, WpSs, WpS, WpE, WpEs, WpBs, WpO, WpN, WpI, WpC, WpT, getS, setS, tgK, setsS, wipeS, k_add, k_addT, k_sub, k_mul, k_fdiv, k_mod, k_neg, k_lt, k_le, k_gt, k_ge, k_eqI, k_neI, k_eqS, k_neS, k_eqB, k_neB, k_is, k_isn, isNon_non, isNon_int, isNon_str, isNon_lst, isNon_tup, isNon_adr, k_lenS, k_lenL, k_lenR, k_lenT, k_int, k_str, k_abs, tru_bl, augK, ctx_call, ctx_glob, k_in, k_nin, k_inS]
        refine ⟨hsz, ?_⟩
        exact kn _ _ ⟨rfl, _, _, _, _, _, by simp, app _, rfl⟩
      · refine ⟨mulA_l (by decide) (by decide), mulA_r (by decide) (by decide), mulA_l (by decide) (by decide), by decide, ?_⟩
        refine k_prime (by omega) fun p1 h1 h2 => ?_
        simp only [WpSs, WpS, WpE, WpEs, WpBs, WpO, WpN, WpI, WpC, WpT, getS, setS, tgK, setsS, wipeS, k_add, k_addT, k_sub, k_mul, k_fdiv, k_mod, k_neg, k_lt, k_le, k_gt, k_ge, k_eqI, k_neI, k_eqS, k_neS, k_eqB, k_neB, k_is, k_isn, isNon_non, isNon_int, isNon_str, isNon_lst, isNon_tup, isNon_adr, k_lenS, k_lenL, k_lenR, k_lenT, k_int, k_str, k_abs, tru_bl, augK, ctx_call, ctx_glob, k_in, k_nin, k_inS]
        generalize ((c + 1 + 31 * p + (ds.length : Int)) * 48271 + 69621 * (ds.length : Int)) = a1
        have h3 := Int.emod_nonneg a1 (b := p1) (by omega)
        have h4 := Int.emod_lt_of_pos a1 h1
        refine ⟨h1, ?_⟩
        generalize a1 % p1 = a2 at h3 h4
        refine ⟨mulA_l (by omega) (by omega), mulA_l (by decide) (by decide), by decide, ?_⟩
        refine k_prime (by omega) fun p2 h1 h2 => ?_
        simp only [WpSs, WpS, WpE, WpEs, WpBs, WpO, WpN, WpI, WpC, WpT, getS, setS, tgK, setsS, wipeS, k_add, k_addT, k_sub, k_mul, k_fdiv, k_mod, k_neg, k_lt, k_le, k_gt, k_ge, k_eqI, k_neI, k_eqS, k_neS, k_eqB, k_neB, k_is, k_isn, isNon_non, isNon_int, isNon_str, isNon_lst, isNon_tup, isNon_adr, k_lenS, k_lenL, k_lenR, k_lenT, k_int, k_str, k_abs, tru_bl, augK, ctx_call, ctx_glob, k_in, k_nin, k_inS]
        refine ⟨h1, ?_⟩
        refine ⟨mulA_r (by decide) (by decide), mulA_r (by decide) (by decide), by decide, ?_⟩
        refine k_prime (by omega) fun p3 h1 h2 => ?_
        simp only [WpSs, WpS, WpE, WpEs, WpBs, WpO, WpN, WpI, WpC, WpT, getS, setS, tgK, setsS, wipeS, k_add, k_addT, k_sub, k_mul, k_fdiv, k_mod, k_neg, k_lt, k_le, k_gt, k_ge, k_eqI, k_neI, k_eqS, k_neS, k_eqB, k_neB, k_is, k_isn, isNon_non, isNon_int, isNon_str, isNon_lst, isNon_tup, isNon_adr, k_lenS, k_lenL, k_lenR, k_lenT, k_int, k_str, k_abs, tru_bl, augK, ctx_call, ctx_glob, k_in, k_nin, k_inS]
        refine ⟨h1, divA (by decide) (by decide), ?_⟩
        refine k_subIl hk ?_
        simp only [int_one, WpSs, WpS, WpE, WpEs, WpBs, WpO, WpN, WpI, WpC, WpT, getS, setS, tgK, setsS, wipeS, k_add, k_addT, k_sub, k_mul, k_fdiv, k_mod, k_neg, k_lt, k_le, k_gt, k_ge, k_eqI, k_neI, k_eqS, k_neS, k_eqB, k_neB, k_is, k_isn, isNon_non, isNon_int, isNon_str, isNon_lst, isNon_tup, isNon_adr, k_lenS, k_lenL, k_lenR, k_lenT, k_int, k_str, k_abs, tru_bl, augK, ctx_call, ctx_glob, k_in, k_nin, k_inS]
        refine ⟨hsz.1, by rw [List.length_map]; omega, ?_⟩
        exact kn _ _ ⟨rfl, _, _, _, _, _, by simp, app _, rfl⟩
    · rintro _ h ⟨rfl, ds, r, s7, s8, s9, hd1, hd, rfl⟩
      simp only [b_law_draws_2, WpSs, WpS, WpE, WpEs, WpBs, WpO, WpN, WpI, WpC, WpT, getS, setS, tgK, setsS, wipeS, k_add, k_addT, k_sub, k_mul, k_fdiv, k_mod, k_neg, k_lt, k_le, k_gt, k_ge, k_eqI, k_neI, k_eqS, k_neS, k_eqB, k_neB, k_is, k_isn, isNon_non, isNon_int, isNon_str, isNon_lst, isNon_tup, isNon_adr, k_lenS, k_lenL, k_lenR, k_lenT, k_int, k_str, k_abs, tru_bl, augK, ctx_call, ctx_glob, k_in, k_nin, k_inS]
      refine q ds ?_ hd
      simpa using hd1
  refine ite_b (fun _ => main _) (fun _ => main _)
end K13

set_option maxRecDepth 100000
set_option maxHeartbeats 4000000
namespace K13
open PySem L2 VL
theorem tens : ((10 : Int) ^ ((39 : Int).toNat) = 1000000000000000000000000000000000000000) ∧ ((10 : Int) ^ ((20 : Int).toNat) = 100000000000000000000) ∧ ((10 : Int) ^ ((10 : Int).toNat) = 10000000000) ∧ ((10 : Int) ^ ((42 : Int).toNat) = 1000000000000000000000000000000000000000000) := by decide
theorem log_small {i : Int} (h : 0 < i) (h2 : i ≤ 1000000000000000000000000000000000000000000) : i.natAbs.log2 < 9000 := by
  have : i.natAbs < 2 ^ 200 := by
    have e : (2 ^ 200 : Nat) = 1606938044258990275541962092341162602522202993782792835301376 := by decide
    omega
  have := PySem.Flt.log2_lt_of (by decide : 0 < 200) this
  omega
def ed (e : Ed) : AV := .tup [.int (e.1 : Int), .int (e.2.1 : Int), .int e.2.2]
abbrev dl' (es : List Ed) : List AV := es.map ed
theorem dl_get {es : List Ed} {j : Nat} (hj : j < es.length) : atI (dl' es) (j : Int) = some (ed es[j]) := by
  rw [atI_nat (by simpa using hj)]
  simp [hj]
theorem k_subD {h : AHeap} {x : AV} {es : List Ed} {j : Nat} {Q : KA} (hv : viewT h x = some (dl' es)) (hn : ∀ z, x ≠ .str z) (hj : j < es.length) (q : Q (ed es[j])) : subK h x (.int (j : Int)) Q := k_subL hv hn (dl_get hj) q
theorem k_subDl {h : AHeap} {es : List Ed} {j : Nat} {Q : KA} (hj : j < es.length) (q : Q (ed es[j])) : subK h (.lst (dl' es)) (.int (j : Int)) Q := k_subD viewT_lst (fun _ h => by cases h) hj q
theorem k_ed0 {h : AHeap} {e : Ed} {Q : KA} (q : Q (.int (e.1 : Int))) : subK h (ed e) (.int 0) Q := k_subL (xs := [.int (e.1 : Int), .int (e.2.1 : Int), .int e.2.2]) rfl (fun _ h => by cases h) rfl q
theorem k_ed1 {h : AHeap} {e : Ed} {Q : KA} (q : Q (.int (e.2.1 : Int))) : subK h (ed e) (.int 1) Q := k_subL (xs := [.int (e.1 : Int), .int (e.2.1 : Int), .int e.2.2]) rfl (fun _ h => by cases h) rfl q
theorem k_ed2 {h : AHeap} {e : Ed} {Q : KA} (q : Q (.int e.2.2)) : subK h (ed e) (.int 2) Q := k_subL (xs := [.int (e.1 : Int), .int (e.2.1 : Int), .int e.2.2]) rfl (fun _ h => by cases h) rfl q
theorem weight_ok {n : Nat} {d : Int} {h Q} (q : ∀ c : Int, -10000000000000000000000000000000000000000 ≤ c → c ≤ 10000000000000000000000000000000000000000 → Q (.int c) h) : callN P (n+1) 12 [.int d] h Q := by
  refine ⟨rfl, ?_⟩
  show WpSs (ctxOf P (callN P n)) b_law_weight _ [.val (.int d), .no, .no] h
  simp only [b_law_weight, tens.1, tens.2.1, WpSs, WpS, WpE, WpEs, WpBs, WpO, WpN, WpI, WpC, WpT, getS, setS, tgK, setsS, wipeS, k_add, k_addT, k_sub, k_mul, k_fdiv, k_mod, k_neg, k_lt, k_le, k_gt, k_ge, k_eqI, k_neI, k_eqS, k_neS, k_eqB, k_neB, k_is, k_isn, isNon_non, isNon_int, isNon_str, isNon_lst, isNon_tup, isNon_adr, k_lenS, k_lenL, k_lenR, k_lenT, k_int, k_str, k_abs, tru_bl, augK, ctx_call, ctx_glob, k_in, k_nin, k_inS]
  refine ⟨by decide, divA (by decide) (by decide), ?_⟩
  generalize d / 16 = e
  have h1 := Int.emod_nonneg e (b := 2) (by omega)
  have h2 := Int.emod_lt_of_pos e (b := 2) (by omega)
  refine ite_b (fun _ => ?_) (fun _ => ?_)
  · refine ⟨by decide, mulA_l (by decide) (by decide), ⟨by decide, by decide, by decide⟩, ⟨by decide, by decide, by decide⟩, by decide, mulA_l (by omega) (by omega), ?_⟩
    rw [tens.1, tens.2.1]
    have h3 := Int.emod_nonneg e (b := 100000000000000000000) (by omega)
    have h4 := Int.emod_lt_of_pos e (b := 100000000000000000000) (by omega)
    generalize e % 100000000000000000000 = f at h3 h4
    have : e % 2 = 0 ∨ e % 2 = 1 := by omega
    rcases this with z | z <;> rw [z] <;> refine q _ ?_ ?_ <;> omega
  simp only [b_law_weight_2, tens, WpSs, WpS, WpE, WpEs, WpBs, WpO, WpN, WpI, WpC, WpT, getS, setS, tgK, setsS, wipeS, k_add, k_addT, k_sub, k_mul, k_fdiv, k_mod, k_neg, k_lt, k_le, k_gt, k_ge, k_eqI, k_neI, k_eqS, k_neS, k_eqB, k_neB, k_is, k_isn, isNon_non, isNon_int, isNon_str, isNon_lst, isNon_tup, isNon_adr, k_lenS, k_lenL, k_lenR, k_lenT, k_int, k_str, k_abs, tru_bl, augK, ctx_call, ctx_glob, k_in, k_nin, k_inS]
  refine ite_b (fun _ => ?_) (fun _ => ?_)
  · refine ⟨by decide, mulA_l (by decide) (by decide), divA (by decide) (by decide), ⟨by decide, by decide, by decide⟩, by decide, mulA_l (by omega) (by omega), ?_⟩
    rw [tens.2.2.1]
    have h3 := Int.emod_nonneg (e / 2) (b := 10000000000) (by omega)
    have h4 := Int.emod_lt_of_pos (e / 2) (b := 10000000000) (by omega)
    generalize (e / 2) % 10000000000 = f at h3 h4
    have : e % 2 = 0 ∨ e % 2 = 1 := by omega
    rcases this with z | z <;> rw [z] <;> refine q _ ?_ ?_ <;> omega
  simp only [b_law_weight_1, WpSs, WpS, WpE, WpEs, WpBs, WpO, WpN, WpI, WpC, WpT, getS, setS, tgK, setsS, wipeS, k_add, k_addT, k_sub, k_mul, k_fdiv, k_mod, k_neg, k_lt, k_le, k_gt, k_ge, k_eqI, k_neI, k_eqS, k_neS, k_eqB, k_neB, k_is, k_isn, isNon_non, isNon_int, isNon_str, isNon_lst, isNon_tup, isNon_adr, k_lenS, k_lenL, k_lenR, k_lenT, k_int, k_str, k_abs, tru_bl, augK, ctx_call, ctx_glob, k_in, k_nin, k_inS]
  refine ⟨by decide, ?_⟩
  have h3 := Int.emod_nonneg e (b := 13) (by omega)
  have h4 := Int.emod_lt_of_pos e (b := 13) (by omega)
  refine q _ ?_ ?_ <;> omega
theorem ed_one (es : List Ed) (u v : Nat) (c : Int) : dl' es ++ [.tup [.int (u : Int), .int (v : Int), .int c]] = dl' (es ++ [(u, v, c)]) := by rw [dl', dl', List.map_append]; rfl
theorem cells_last (h : AHeap) (c : Cell) : cells (h ++ [c]) h.length = c := by simp [cells]
theorem set_last (h : AHeap) (c d : Cell) : (h ++ [c]).set h.length d = h ++ [d] := by simp
theorem view_adr {h : AHeap} {n : Nat} {xs : List AV} (e : cells h n = .lst xs) : viewT h (.adr n) = some xs := by
  show view h (.adr n) = _
  simp only [view, e]
theorem k_lenV {h : AHeap} {x : AV} {xs : List AV} {Q : KA} (e : viewT h x = some xs) (hn : ∀ z, x ≠ .str z) (q : Q (.int xs.length)) : bltK h .len [x] Q := by
  unfold bltK
  split
  · rename_i b vs z heq
    cases heq
    exact absurd rfl (hn _)
  · rename_i heq
    cases heq
    rw [e]
    exact q
  all_goals (rename_i heq; first | (cases heq; done) | skip)
  all_goals simp_all
theorem sizes_const {s : Int} (h1 : 0 < s) (h2 : s ≤ 1000000000000000000000000000000000000000000) (n : Nat) : Sizes ((List.range n).map fun _ => s) := by
  intro a ha
  obtain ⟨i, _, rfl⟩ := List.mem_map.mp ha
  exact ⟨h1, log_small h1 h2⟩
theorem modI {x : Int} {m : Nat} (h : 0 < m) : ∃ j : Nat, x % (m : Int) = j ∧ j < m := by
  have h1 := Int.emod_nonneg x (b := (m : Int)) (by omega)
  have h2 := Int.emod_lt_of_pos x (b := (m : Int)) (by omega)
  obtain ⟨j, hj⟩ := nat_of h1
  exact ⟨j, hj, by omega⟩
def Nums (n : Nat) (ns : List Int) : Prop := ∀ x ∈ ns, 0 ≤ x ∧ x < (n : Int)
theorem nums_get {n : Nat} {ns : List Int} (hn : Nums n ns) {j : Nat} (hj : j < ns.length) : ∃ k : Nat, ns[j] = k ∧ k < n := by
  have h := hn _ (List.getElem_mem hj)
  obtain ⟨k, hk⟩ := nat_of h.1
  exact ⟨k, hk, by omega⟩
theorem il_last {ns : List Int} (h : 0 < ns.length) : atI (il ns) (-1) = some (.int ns[ns.length - 1]) := by
  have : ixN (il ns).length (-1) = some (ns.length - 1) := by
    rw [List.length_map]
    unfold ixN
    rw [if_neg (by omega), if_pos (by omega)]
    congr 1
    omega
  unfold atI
  rw [this]
  simp [h]
def CS (es : List Ed) : List Int → Option Ed
  | [] => none
  | x :: r => if ∀ y ∈ x :: r, 0 ≤ y ∧ y < (es.length : Int) then match es[x.toNat]? with
    | none => none
    | some e => (go es e.1 0 (x :: r)).map fun p => (e.1, p.1, p.2)
    else none
def oa : Option Ed → AV
  | none => .non
  | some e => ed e
theorem cs_out {es : List Ed} {ns : List Int} {x : Int} (h : x ∈ ns) (h2 : ¬ (0 ≤ x ∧ x < (es.length : Int))) : CS es ns = none := by
  cases ns with
  | nil => rfl
  | cons y r =>
    simp only [CS]
    rw [if_neg fun k => h2 (k x h)]
theorem cs_in {es : List Ed} {ns : List Int} {e : Ed} (h : ∀ y ∈ ns, 0 ≤ y ∧ y < (es.length : Int)) (hn : 0 < ns.length) (h2 : es[(ns[0]).toNat]? = some e) : CS es ns = (go es e.1 0 ns).map fun p => (e.1, p.1, p.2) := by
  cases ns with
  | nil => cases hn
  | cons y r =>
    simp only [CS]
    rw [if_pos h]
    have h2 : es[y.toNat]? = some e := h2
    rw [h2]
theorem go_step {es : List Ed} {ns : List Int} {k j : Nat} {l : Nat} {t : Int} (hk : k < ns.length) (hj : ns[k] = (j : Int)) (hj2 : j < es.length) : go es l t (ns.drop k) = if es[j].1 = l then go es es[j].2.1 (t + es[j].2.2) (ns.drop (k + 1)) else none := by
  rw [List.drop_eq_getElem_cons hk, hj]
  show (match es[((j : Int)).toNat]? with | none => none | some e => if e.1 = l then go es e.2.1 (t + e.2.2) (ns.drop (k + 1)) else none) = _
  rw [Int.toNat_natCast, List.getElem?_eq_getElem hj2]
theorem law_sum_ok {n : Nat} {ns : List Int} {es : List Ed} {x4 y : AV} {h : AHeap} {Q} (hd : viewT h x4 = some (dl' es)) (hdn : ∀ z, x4 ≠ .str z) (hv : viewT h y = some (il ns)) (hn : ∀ z, y ≠ .str z) (hz : ns.length ≤ 1000) (q : Q (oa (CS es ns)) h) : callN P (n+1) 10 [x4, y] h Q := by
  refine ⟨rfl, ?_⟩
  show WpSs (ctxOf P (callN P n)) b_law_sum _ [.val x4, .val y, .no, .no] h
  simp only [b_law_sum, WpSs, WpS, WpE, WpEs, WpBs, WpO, WpN, WpI, WpC, WpT, getS, setS, tgK, setsS, wipeS, k_add, k_addT, k_sub, k_mul, k_fdiv, k_mod, k_neg, k_lt, k_le, k_gt, k_ge, k_eqI, k_neI, k_eqS, k_neS, k_eqB, k_neB, k_is, k_isn, isNon_non, isNon_int, isNon_str, isNon_lst, isNon_tup, isNon_adr, k_lenS, k_lenL, k_lenR, k_lenT, k_int, k_str, k_abs, tru_bl, augK, ctx_call, ctx_glob, k_in, k_nin, k_inS]
  refine k_lenV hv hn ?_
  simp only [List.length_map, WpSs, WpS, WpE, WpEs, WpBs, WpO, WpN, WpI, WpC, WpT, getS, setS, tgK, setsS, wipeS, k_add, k_addT, k_sub, k_mul, k_fdiv, k_mod, k_neg, k_lt, k_le, k_gt, k_ge, k_eqI, k_neI, k_eqS, k_neS, k_eqB, k_neB, k_is, k_isn, isNon_non, isNon_int, isNon_str, isNon_lst, isNon_tup, isNon_adr, k_lenS, k_lenL, k_lenR, k_lenT, k_int, k_str, k_abs, tru_bl, augK, ctx_call, ctx_glob, k_in, k_nin, k_inS]
  refine ite_b (fun c => ?_) (fun c => ?_)
  · have : ns = [] := List.eq_nil_of_length_eq_zero (by omega)
    subst this
    exact q
  have hl : 0 < ns.length := by omega
  simp only [b_law_sum_5, WpSs, WpS, WpE, WpEs, WpBs, WpO, WpN, WpI, WpC, WpT, getS, setS, tgK, setsS, wipeS, k_add, k_addT, k_sub, k_mul, k_fdiv, k_mod, k_neg, k_lt, k_le, k_gt, k_ge, k_eqI, k_neI, k_eqS, k_neS, k_eqB, k_neB, k_is, k_isn, isNon_non, isNon_int, isNon_str, isNon_lst, isNon_tup, isNon_adr, k_lenS, k_lenL, k_lenR, k_lenT, k_int, k_str, k_abs, tru_bl, augK, ctx_call, ctx_glob, k_in, k_nin, k_inS]
  refine k_lenV hv hn ?_
  rw [List.length_map]
  refine ⟨⟨by omega, by omega⟩, ?_⟩
  rw [Int.toNat_natCast]
  refine for_inv (fun k ρ h' => h' = h ∧ ∃ (s : Slot) (t : Int), ρ = [.val x4, .val y, .val (.int t), s] ∧ (∀ x ∈ ns.take k, 0 ≤ x ∧ x < (es.length : Int)) ∧ (k = 0 → t = 0) ∧
    (0 < k → ∃ (j0 jl : Nat) (h0 : j0 < es.length) (h1 : jl < es.length), ns[0] = (j0 : Int) ∧ ns[k - 1]? = some (jl : Int) ∧ go es es[j0].1 0 ns = go es es[jl].2.1 t (ns.drop k))) ⟨rfl, _, _, rfl, by simp, fun _ => rfl, fun h => absurd h (by omega)⟩ (fun _ _ _ _ _ => by trivial) ?_ ?_
  · rintro k x _ h D' hx ⟨rfl, s, t, rfl, hin, ht, hg⟩ kn kc kr kb
    obtain ⟨hk, rfl⟩ := items_range hx
    have hm : ns[k] ∈ ns := List.getElem_mem hk
    simp only [b_law_sum_3, List.length_map, WpSs, WpS, WpE, WpEs, WpBs, WpO, WpN, WpI, WpC, WpT, getS, setS, tgK, setsS, wipeS, k_add, k_addT, k_sub, k_mul, k_fdiv, k_mod, k_neg, k_lt, k_le, k_gt, k_ge, k_eqI, k_neI, k_eqS, k_neS, k_eqB, k_neB, k_is, k_isn, isNon_non, isNon_int, isNon_str, isNon_lst, isNon_tup, isNon_adr, k_lenS, k_lenL, k_lenR, k_lenT, k_int, k_str, k_abs, tru_bl, augK, ctx_call, ctx_glob, k_in, k_nin, k_inS]
    refine k_subI hv hn hk ?_
    simp only [List.length_map, WpSs, WpS, WpE, WpEs, WpBs, WpO, WpN, WpI, WpC, WpT, getS, setS, tgK, setsS, wipeS, k_add, k_addT, k_sub, k_mul, k_fdiv, k_mod, k_neg, k_lt, k_le, k_gt, k_ge, k_eqI, k_neI, k_eqS, k_neS, k_eqB, k_neB, k_is, k_isn, isNon_non, isNon_int, isNon_str, isNon_lst, isNon_tup, isNon_adr, k_lenS, k_lenL, k_lenR, k_lenT, k_int, k_str, k_abs, tru_bl, augK, ctx_call, ctx_glob, k_in, k_nin, k_inS]
    have bad : ¬ (0 ≤ ns[k] ∧ ns[k] < (es.length : Int)) → D'.rt .non h := fun c => kr _ _ (by rw [cs_out hm c] at q; exact q)
    refine ite_b (fun c => ?_) (fun c => ?_)
    · simp only [if_true]; exact bad (by omega)
    refine k_subI hv hn hk ?_
    refine k_lenV hd hdn ?_
    simp only [List.length_map, WpSs, WpS, WpE, WpEs, WpBs, WpO, WpN, WpI, WpC, WpT, getS, setS, tgK, setsS, wipeS, k_add, k_addT, k_sub, k_mul, k_fdiv, k_mod, k_neg, k_lt, k_le, k_gt, k_ge, k_eqI, k_neI, k_eqS, k_neS, k_eqB, k_neB, k_is, k_isn, isNon_non, isNon_int, isNon_str, isNon_lst, isNon_tup, isNon_adr, k_lenS, k_lenL, k_lenR, k_lenT, k_int, k_str, k_abs, tru_bl, augK, ctx_call, ctx_glob, k_in, k_nin, k_inS]
    refine ite_b (fun c2 => bad (by omega)) (fun c2 => ?_)
    obtain ⟨j, hj⟩ := nat_of (show 0 ≤ ns[k] by omega)
    have hj2 : j < es.length := by omega
    have hin2 : ∀ x ∈ ns.take (k + 1), 0 ≤ x ∧ x < (es.length : Int) := by
      intro x hx
      rw [List.take_succ, List.getElem?_eq_getElem hk] at hx
      rcases List.mem_append.mp hx with hx | hx
      · exact hin x hx
      · have : x = ns[k] := by simpa using hx
        subst this
        omega
    simp only [b_law_sum_2, WpSs, WpS, WpE, WpEs, WpBs, WpO, WpN, WpI, WpC, WpT, getS, setS, tgK, setsS, wipeS, k_add, k_addT, k_sub, k_mul, k_fdiv, k_mod, k_neg, k_lt, k_le, k_gt, k_ge, k_eqI, k_neI, k_eqS, k_neS, k_eqB, k_neB, k_is, k_isn, isNon_non, isNon_int, isNon_str, isNon_lst, isNon_tup, isNon_adr, k_lenS, k_lenL, k_lenR, k_lenT, k_int, k_str, k_abs, tru_bl, augK, ctx_call, ctx_glob, k_in, k_nin, k_inS]
    have add : ∀ t' : Int, t' = t + es[j].2.2 → ((∃ (j0 jl : Nat) (h0 : j0 < es.length) (h1 : jl < es.length), ns[0] = (j0 : Int) ∧ ns[k + 1 - 1]? = some (jl : Int) ∧ go es es[j0].1 0 ns = go es es[jl].2.1 t' (ns.drop (k + 1)))) → WpSs (ctxOf P (callN P n)) b_law_sum_1 D' [.val x4, .val y, .val (.int t), .val (.int k)] h := by
      intro t' e g
      subst e
      simp only [b_law_sum_1, WpSs, WpS, WpE, WpEs, WpBs, WpO, WpN, WpI, WpC, WpT, getS, setS, tgK, setsS, wipeS, k_add, k_addT, k_sub, k_mul, k_fdiv, k_mod, k_neg, k_lt, k_le, k_gt, k_ge, k_eqI, k_neI, k_eqS, k_neS, k_eqB, k_neB, k_is, k_isn, isNon_non, isNon_int, isNon_str, isNon_lst, isNon_tup, isNon_adr, k_lenS, k_lenL, k_lenR, k_lenT, k_int, k_str, k_abs, tru_bl, augK, ctx_call, ctx_glob, k_in, k_nin, k_inS]
      refine k_subI hv hn hk ?_
      rw [hj]
      refine k_subD hd hdn hj2 ?_
      refine k_ed2 ?_
      exact kn _ _ ⟨rfl, _, _, rfl, hin2, fun z => absurd z (by omega), fun _ => g⟩
    refine ite_b (fun c3 => ?_) (fun c3 => ?_)
    · have hk0 : 0 < k := by omega
      obtain ⟨j0, jl, h0, h1, e0, el, g⟩ := hg hk0
      obtain ⟨hkl, el⟩ := List.getElem?_eq_some_iff.mp el
      have e1 : (k : Int) - 1 = ((k - 1 : Nat) : Int) := by omega
      rw [e1]
      refine k_subI hv hn hkl ?_
      rw [el]
      refine k_subD hd hdn h1 ?_
      refine k_ed1 ?_
      refine k_subI hv hn hk ?_
      rw [hj]
      refine k_subD hd hdn hj2 ?_
      refine k_ed0 ?_
      have gs := go_step (l := es[jl].2.1) (t := t) hk hj hj2
      rw [gs] at g
      simp only [WpSs, WpS, WpE, WpEs, WpBs, WpO, WpN, WpI, WpC, WpT, getS, setS, tgK, setsS, wipeS, k_add, k_addT, k_sub, k_mul, k_fdiv, k_mod, k_neg, k_lt, k_le, k_gt, k_ge, k_eqI, k_neI, k_eqS, k_neS, k_eqB, k_neB, k_is, k_isn, isNon_non, isNon_int, isNon_str, isNon_lst, isNon_tup, isNon_adr, k_lenS, k_lenL, k_lenR, k_lenT, k_int, k_str, k_abs, tru_bl, augK, ctx_call, ctx_glob, k_in, k_nin, k_inS]
      by_cases c : es[j].1 = es[jl].2.1
      · have d : decide ((es[jl].2.1 : Int) = (es[j].1 : Int)) = true := decide_eq_true (by omega)
        rw [if_pos c] at g
        simp only [d, Bool.not_true, Bool.false_eq_true, if_false]
        exact add _ rfl ⟨j0, j, h0, hj2, e0, by rw [Nat.add_sub_cancel, List.getElem?_eq_getElem hk, hj], g⟩
      · have d : decide ((es[jl].2.1 : Int) = (es[j].1 : Int)) = false := decide_eq_false (by omega)
        rw [if_neg c] at g
        simp only [d, Bool.not_false, if_true, WpSs, WpS, WpE, WpEs, WpBs, WpO, WpN, WpI, WpC, WpT, getS, setS, tgK, setsS, wipeS, k_add, k_addT, k_sub, k_mul, k_fdiv, k_mod, k_neg, k_lt, k_le, k_gt, k_ge, k_eqI, k_neI, k_eqS, k_neS, k_eqB, k_neB, k_is, k_isn, isNon_non, isNon_int, isNon_str, isNon_lst, isNon_tup, isNon_adr, k_lenS, k_lenL, k_lenR, k_lenT, k_int, k_str, k_abs, tru_bl, augK, ctx_call, ctx_glob, k_in, k_nin, k_inS]
        refine kr _ _ ?_
        have : CS es ns = none := by
          by_cases all : ∀ y ∈ ns, 0 ≤ y ∧ y < (es.length : Int)
          · have he0 : es[(ns[0]).toNat]? = some es[j0] := by rw [e0, Int.toNat_natCast, List.getElem?_eq_getElem h0]
            rw [cs_in all hl he0, g]; rfl
          · simp only [Classical.not_forall] at all
            obtain ⟨y, hy, bad⟩ := all
            exact cs_out hy bad
        rw [this] at q
        exact q
    · simp only [Bool.false_eq_true, if_false]
      have hk0 : k = 0 := by omega
      subst hk0
      refine add _ rfl ⟨j, j, hj2, hj2, hj, by rw [Nat.add_sub_cancel, List.getElem?_eq_getElem hk, hj], ?_⟩
      have gs := go_step (l := es[j].1) (t := 0) hk hj hj2
      rw [if_pos rfl, List.drop_zero] at gs
      rw [gs, ht rfl]
  · rintro _ h ⟨rfl, s, t, rfl, hin, ht, hg⟩
    simp only [List.length_map, List.length_range] at hin hg
    rw [List.take_length] at hin
    obtain ⟨j0, jl, h0, h1, e0, el, g⟩ := hg hl
    obtain ⟨hkl, el⟩ := List.getElem?_eq_some_iff.mp el
    rw [List.drop_of_length_le (Nat.le_refl _)] at g
    have he0 : es[(ns[0]).toNat]? = some es[j0] := by rw [e0, Int.toNat_natCast, List.getElem?_eq_getElem h0]
    rw [cs_in hin hl he0, g] at q
    simp only [b_law_sum_4, WpSs, WpS, WpE, WpEs, WpBs, WpO, WpN, WpI, WpC, WpT, getS, setS, tgK, setsS, wipeS, k_add, k_addT, k_sub, k_mul, k_fdiv, k_mod, k_neg, k_lt, k_le, k_gt, k_ge, k_eqI, k_neI, k_eqS, k_neS, k_eqB, k_neB, k_is, k_isn, isNon_non, isNon_int, isNon_str, isNon_lst, isNon_tup, isNon_adr, k_lenS, k_lenL, k_lenR, k_lenT, k_int, k_str, k_abs, tru_bl, augK, ctx_call, ctx_glob, k_in, k_nin, k_inS]
    refine k_subL hv hn (il_get (j := 0) hl) ?_
    rw [e0]
    refine k_subD hd hdn h0 ?_
    refine k_ed0 ?_
    refine k_subL hv hn (il_last hl) ?_
    rw [el]
    refine k_subD hd hdn h1 ?_
    refine k_ed1 ?_
    exact ⟨by show 3 ≤ 16777216; omega, q⟩
theorem integer_ok {n : Nat} {i : Int} {h : AHeap} {Q} (q : Q (.bl true) h) : callN P (n+1) 5 [.int i] h Q := by
  refine ⟨rfl, ?_⟩
  show WpSs (ctxOf P (callN P n)) b_law_is_integer _ [.val (.int i)] h
  simp only [b_law_is_integer, WpSs, WpS, WpE, WpEs, WpBs, WpO, WpN, WpI, WpC, WpT, getS, setS, tgK, setsS, wipeS, k_add, k_addT, k_sub, k_mul, k_fdiv, k_mod, k_neg, k_lt, k_le, k_gt, k_ge, k_eqI, k_neI, k_eqS, k_neS, k_eqB, k_neB, k_is, k_isn, isNon_non, isNon_int, isNon_str, isNon_lst, isNon_tup, isNon_adr, k_lenS, k_lenL, k_lenR, k_lenT, k_int, k_str, k_abs, tru_bl, augK, ctx_call, ctx_glob, k_in, k_nin, k_inS]
  refine .inl ⟨rfl, ?_⟩
  exact .inr ⟨.inl rfl, q⟩
end K13

set_option maxRecDepth 100000
set_option maxHeartbeats 4000000
namespace K13
open PySem L2 VL
def hf (hs : List Int) : Ht := fun x => (hs[x]?).getD 0
theorem hf_get {hs : List Int} {x : Nat} (h : x < hs.length) : hs[x] = hf hs x := by
  unfold hf
  rw [List.getElem?_eq_getElem h]; rfl
theorem hf_set {hs : List Int} {x : Nat} {v : Int} (h : x < hs.length) : hf (hs.set x v) = up (hf hs) x v := by
  funext y
  unfold hf up
  by_cases c : y = x
  · subst c
    rw [if_pos rfl, List.getElem?_set_self h]; rfl
  · rw [if_neg c, List.getElem?_set_ne (Ne.symm c)]
/-- the numbers of the differences that end at y -/
def idx (D : List Ed) (y : Nat) : List Int := ((List.range D.length).filter fun k => decide ((D[k]?.map fun e => e.2.1) = some y)).map fun k : Nat => (k : Int)
theorem idx_mem {D : List Ed} {y : Nat} {x : Int} (h : x ∈ idx D y) : ∃ (k : Nat) (e : Ed), x = k ∧ D[k]? = some e ∧ e.2.1 = y := by
  obtain ⟨k, hk, rfl⟩ := List.mem_map.mp h
  obtain ⟨h1, h2⟩ := List.mem_filter.mp hk
  have h2 := of_decide_eq_true h2
  obtain ⟨e, he, hy⟩ := Option.map_eq_some_iff.mp h2
  exact ⟨k, e, rfl, he, hy⟩
theorem idx_all {D : List Ed} {k : Nat} {e : Ed} (h : D[k]? = some e) : (k : Int) ∈ idx D e.2.1 := by
  refine List.mem_map.mpr ⟨k, List.mem_filter.mpr ⟨?_, ?_⟩, rfl⟩
  · exact List.mem_range.mpr (List.getElem?_eq_some_iff.mp h).1
  · refine decide_eq_true ?_
    rw [h]; rfl
theorem idx_snoc (D : List Ed) (e : Ed) (y : Nat) : idx (D ++ [e]) y = idx D y ++ (if e.2.1 = y then [(D.length : Int)] else []) := by
  unfold idx
  rw [List.length_append]
  show (((List.range (D.length + 1)).filter _).map _) = _
  rw [List.range_succ, List.filter_append, List.map_append]
  congr 1
  · congr 1
    refine List.filter_congr fun k hk => ?_
    have := List.mem_range.mp hk
    rw [List.getElem?_append_left this]
  · have : (D ++ [e])[D.length]? = some e := by simp
    simp only [List.filter_cons, List.filter_nil, this, Option.map_some]
    by_cases c : e.2.1 = y
    · simp [c]
    · simp [c]
/-- an object of Heights: where its parts stand -/
structure Ob where
  a : Nat
  d : Nat
  hh : Nat
  uu : Nat
  us : List Nat
def Ob.fp (o : Ob) : List Nat := o.a :: o.d :: o.hh :: o.uu :: o.us
structure Hob (h : AHeap) (o : Ob) (m : Nat) (D : List Ed) (hs : List Int) : Prop where
  nd : o.fp.Nodup
  at_ : cells h o.a = .obj 0 [("many", .int (m : Int)), ("differences", .adr o.d), ("heights", .adr o.hh), ("under", .adr o.uu)]
  dd : cells h o.d = .lst (dl' D)
  hd : cells h o.hh = .lst (il hs)
  ud : cells h o.uu = .lst (o.us.map AV.adr)
  ul : o.us.length = m + 1
  hl : hs.length = m + 1
  un : ∀ (y x : Nat), o.us[y]? = some x → cells h x = .lst (il (idx D y))
  inn : In (m + 1) D
theorem fldH (f : Str) (h : ([(0, "many"), (0, "differences"), (0, "heights"), (0, "under")] : List (Nat × Str)).contains (0, f) = true) {n : Nat} : (ctxOf P (callN P n)).fld 0 f = true := h
theorem lkM {m ds hs us : AV} : ([("many", m), ("differences", ds), ("heights", hs), ("under", us)] : List (Str × AV)).lookup ("many" : Str) = some m := rfl
theorem lkD {m ds hs us : AV} : ([("many", m), ("differences", ds), ("heights", hs), ("under", us)] : List (Str × AV)).lookup ("differences" : Str) = some ds := rfl
theorem lkH {m ds hs us : AV} : ([("many", m), ("differences", ds), ("heights", hs), ("under", us)] : List (Str × AV)).lookup ("heights" : Str) = some hs := rfl
theorem lkU {m ds hs us : AV} : ([("many", m), ("differences", ds), ("heights", hs), ("under", us)] : List (Str × AV)).lookup ("under" : Str) = some us := rfl
/-- a dict of causes -/
def Cz (kvs : List (Key × AV)) (cz : Nat → Option Nat) : Prop := ∀ x : Nat, getD kvs (.inl (x : Int)) = (cz x).map fun k : Nat => AV.int (k : Int)
theorem k_subDct {h : AHeap} {kvs : List (Key × AV)} {cz : Nat → Option Nat} {x k : Nat} {Q : KA} (z : Cz kvs cz) (e : cz x = some k) (q : Q (.int (k : Int))) : subK h (.dct kvs) (.int (x : Int)) Q := by
  unfold subK
  simp only [viewT, view, viewD, keyOf, z x, e, Option.map_some]
  exact q
/-- the nodes of a less rank -/
def below (n : Nat) (r : Nat → Nat) (w : Nat) : Nat := (List.range n).countP fun x => decide (r x < r w)
theorem below_lt {n : Nat} {r : Nat → Nat} {w w' : Nat} (h : r w' < r w) (hw : w' < n) : below n r w' < below n r w := by
  unfold below
  have key : ∀ l : List Nat, l.countP (fun x => decide (r x < r w')) ≤ l.countP (fun x => decide (r x < r w)) ∧ (w' ∈ l → l.countP (fun x => decide (r x < r w')) + 1 ≤ l.countP (fun x => decide (r x < r w))) := by
    intro l
    induction l with
    | nil => exact ⟨Nat.le_refl _, fun h => by cases h⟩
    | cons x l ih =>
      rw [List.countP_cons, List.countP_cons]
      by_cases c1 : r x < r w'
      · have d1 : decide (r x < r w') = true := decide_eq_true c1
        have d2 : decide (r x < r w) = true := decide_eq_true (by omega)
        simp only [d1, d2, if_true]
        refine ⟨by omega, fun hm => ?_⟩
        rcases List.mem_cons.mp hm with rfl | hm
        · omega
        · have := ih.2 hm; omega
      · have d1 : decide (r x < r w') = false := decide_eq_false c1
        simp only [d1, Bool.false_eq_true, if_false]
        refine ⟨by omega, fun hm => ?_⟩
        rcases List.mem_cons.mp hm with rfl | hm
        · have d2 : decide (r w' < r w) = true := decide_eq_true h
          simp only [d2, if_true]; omega
        · have := ih.2 hm; omega
  exact (key (List.range n)).2 (List.mem_range.mpr hw)
theorem below_le (n : Nat) (r : Nat → Nat) (w : Nat) : below n r w ≤ n := by
  have : below n r w ≤ (List.range n).length := List.countP_le_length
  rwa [List.length_range] at this
theorem ed_get {es : List Ed} {j : Nat} {e : Ed} (h : es[j]? = some e) : ∃ hj : j < es.length, es[j] = e := List.getElem?_eq_some_iff.mp h
section
variable {D' : List Ed} {h0 : Ht} {u v : Nat} {c : Int}
/-- the ring that is told: from the cause of v back to the new difference -/
theorem ring_ok {n m : Nat} {h : AHeap} {o : Ob} {hs : List Int} {kvs : List (Key × AV)} {cz : Nat → Option Nat} {T : Nat → Nat} {τ k0 : Nat} {e0 : Ed} {Q} (N : New D' (m + 1) h0 u v c) (M : Mid D' (m + 1) h0 u v c (hf hs) cz T τ) (hob : Hob h o m (D' ++ [(u, v, c)]) hs) (z : Cz kvs (fun x => if x = v then some k0 else cz x))
    (he0 : D'[k0]? = some e0) (h1 : e0.1 = v) (h2 : (cz e0.2.1).isSome = true) (h3 : hf hs e0.2.1 + e0.2.2 < hf hs v) (hm : m ≤ 100)
    (q : ∀ (ring : List Int) (s : Int), 0 < ring.length → ring.length ≤ m + 4 → (∀ x ∈ ring, 0 ≤ x ∧ x < ((D' ++ [(u, v, c)]).length : Int)) → go (D' ++ [(u, v, c)]) v 0 ring = some (v, s) → s < 0 → Q (.tup (il ring)) h) :
    callN P (n+1) 7 [.adr o.a, .int (v : Int), .int (D'.length : Int), .dct kvs] h Q := by
  refine ⟨rfl, ?_⟩
  have hz1 : sizeLine = 16777216 := rfl
  have ka := hob.at_
  have dd := view_adr hob.dd
  show WpSs (ctxOf P (callN P n)) b_Heights_ring_from _ [.val (.adr o.a), .val (.int (v : Int)), .val (.int (D'.length : Int)), .val (.dct kvs), .no] h
  have hk0 : k0 < D'.length := (List.getElem?_eq_some_iff.mp he0).1
  have up_ : ∀ {k : Nat} {e : Ed}, D'[k]? = some e → (D' ++ [(u, v, c)])[k]? = some e := fun {k e} hk => by
    rw [List.getElem?_append_left (List.getElem?_eq_some_iff.mp hk).1]; exact hk
  have nl : (D' ++ [(u, v, c)]).length = D'.length + 1 := by simp
  simp only [b_Heights_ring_from, WpSs, WpS, WpE, WpEs, WpBs, WpO, WpN, WpI, WpC, WpT, getS, setS, tgK, setsS, wipeS, k_add, k_addT, k_sub, k_mul, k_fdiv, k_mod, k_neg, k_lt, k_le, k_gt, k_ge, k_eqI, k_neI, k_eqS, k_neS, k_eqB, k_neB, k_is, k_isn, isNon_non, isNon_int, isNon_str, isNon_lst, isNon_tup, isNon_adr, k_lenS, k_lenL, k_lenR, k_lenT, k_int, k_str, k_abs, tru_bl, augK, ctx_call, ctx_glob, k_in, k_nin, k_inS]
  refine k_subDct (x := v) (k := k0) z (if_pos rfl) ?_
  refine ⟨by show 1 ≤ _; omega, ?_⟩
  refine wh_inv (fun mm ρ h' => h' = h ∧ ∃ (ring : List Int) (s : Int) (w j : Nat) (e : Ed) (hr : 0 < ring.length), ρ = [.val (.adr o.a), .val (.int (v : Int)), .val (.int (D'.length : Int)), .val (.dct kvs), .own (.lst (il ring))] ∧ ring[ring.length - 1] = (j : Int) ∧ (D' ++ [(u, v, c)])[j]? = some e ∧ e.2.1 = w ∧
      (∀ x ∈ ring, 0 ≤ x ∧ x < ((D' ++ [(u, v, c)]).length : Int)) ∧ go (D' ++ [(u, v, c)]) v 0 ring = some (w, s) ∧ ring.length ≤ m + 3 ∧
      ((j = D'.length ∧ w = v ∧ s < 0) ∨ (j ≠ D'.length ∧ (cz w).isSome = true ∧ hf hs w + s < hf hs v ∧ ring.length + below (m + 1) (rank h0 u v c (hf hs) T τ) w ≤ m + 2 ∧ mm = below (m + 1) (rank h0 u v c (hf hs) T τ) w + 1)))
      (below (m + 1) (rank h0 u v c (hf hs) T τ) e0.2.1 + 1) ⟨rfl, [(k0 : Int)], 0 + e0.2.2, e0.2.1, k0, e0, by simp, rfl, rfl, up_ he0, rfl, ?_, ?_, by simp, .inr ⟨by omega, h2, by omega, ?_, rfl⟩⟩ ?_
  · intro x hx
    rw [List.mem_singleton.mp hx, nl]
    omega
  · have := go_snoc (es := D' ++ [(u, v, c)]) (ns := []) (l := v) (t := 0) rfl (up_ he0) h1
    exact this
  · have := below_le (m + 1) (rank h0 u v c (hf hs) T τ) e0.2.1
    show 1 + _ ≤ _
    omega
  rintro mm _ h D2 ⟨rfl, ring, s, w, j, e, hr, rfl, hj, he, hw, hin, hg, hlen, hcase⟩ kn kc kr kb
  simp only [k_neg, WpSs, WpS, WpE, WpEs, WpBs, WpO, WpN, WpI, WpC, WpT, getS, setS, tgK, setsS, wipeS, k_add, k_addT, k_sub, k_mul, k_fdiv, k_mod, k_neg, k_lt, k_le, k_gt, k_ge, k_eqI, k_neI, k_eqS, k_neS, k_eqB, k_neB, k_is, k_isn, isNon_non, isNon_int, isNon_str, isNon_lst, isNon_tup, isNon_adr, k_lenS, k_lenL, k_lenR, k_lenT, k_int, k_str, k_abs, tru_bl, augK, ctx_call, ctx_glob, k_in, k_nin, k_inS]
  refine k_subL viewT_lst (fun _ h => by cases h) (il_last hr) ?_
  rw [hj]
  simp only [WpSs, WpS, WpE, WpEs, WpBs, WpO, WpN, WpI, WpC, WpT, getS, setS, tgK, setsS, wipeS, k_add, k_addT, k_sub, k_mul, k_fdiv, k_mod, k_neg, k_lt, k_le, k_gt, k_ge, k_eqI, k_neI, k_eqS, k_neS, k_eqB, k_neB, k_is, k_isn, isNon_non, isNon_int, isNon_str, isNon_lst, isNon_tup, isNon_adr, k_lenS, k_lenL, k_lenR, k_lenT, k_int, k_str, k_abs, tru_bl, augK, ctx_call, ctx_glob, k_in, k_nin, k_inS]
  rcases hcase with ⟨rfl, rfl, hs0⟩ | ⟨hjn, hcw, hlt, hlen2, rfl⟩
  · have d : decide (((D'.length : Nat) : Int) = (D'.length : Int)) = true := decide_eq_true rfl
    simp only [d, Bool.not_true, Bool.false_eq_true, if_false, b_Heights_ring_from_2, WpSs, WpS, WpE, WpEs, WpBs, WpO, WpN, WpI, WpC, WpT, getS, setS, tgK, setsS, wipeS, k_add, k_addT, k_sub, k_mul, k_fdiv, k_mod, k_neg, k_lt, k_le, k_gt, k_ge, k_eqI, k_neI, k_eqS, k_neS, k_eqB, k_neB, k_is, k_isn, isNon_non, isNon_int, isNon_str, isNon_lst, isNon_tup, isNon_adr, k_lenS, k_lenL, k_lenR, k_lenT, k_int, k_str, k_abs, tru_bl, augK, ctx_call, ctx_glob, k_in, k_nin, k_inS]
    exact q ring s hr (by omega) hin hg hs0
  · have d : decide ((j : Int) = (D'.length : Int)) = false := decide_eq_false (by omega)
    simp only [d, Bool.not_false, if_true, b_Heights_ring_from_1, ka, lkD, fldH "differences" rfl, true_and, k_neg, WpSs, WpS, WpE, WpEs, WpBs, WpO, WpN, WpI, WpC, WpT, getS, setS, tgK, setsS, wipeS, k_add, k_addT, k_sub, k_mul, k_fdiv, k_mod, k_neg, k_lt, k_le, k_gt, k_ge, k_eqI, k_neI, k_eqS, k_neS, k_eqB, k_neB, k_is, k_isn, isNon_non, isNon_int, isNon_str, isNon_lst, isNon_tup, isNon_adr, k_lenS, k_lenL, k_lenR, k_lenT, k_int, k_str, k_abs, tru_bl, augK, ctx_call, ctx_glob, k_in, k_nin, k_inS]
    refine k_subL viewT_lst (fun _ h => by cases h) (il_last hr) ?_
    rw [hj]
    obtain ⟨hjl, hje⟩ := ed_get he
    refine k_subD dd (fun _ h => by cases h) hjl ?_
    refine k_ed1 ?_
    rw [hje, hw]
    have wv : w ≠ v := fun x => by rw [x, M.cv] at hcw; cases hcw
    obtain ⟨k, hk⟩ := Option.isSome_iff_exists.mp hcw
    refine k_subDct (x := w) (k := k) z (by show (if w = v then some k0 else cz w) = some k; rw [if_neg wv]; exact hk) ?_
    simp only [int_one, List.length_map]
    refine ⟨by omega, ?_⟩
    have last : (ring ++ [(k : Int)])[(ring ++ [(k : Int)]).length - 1]'(by simp) = (k : Int) := by simp
    by_cases wu : w = u
    · have kN : k = D'.length := by
        rw [wu, M.cu] at hk
        exact (Option.some.inj hk).symm
      subst kN
      have en : (D' ++ [(u, v, c)])[D'.length]? = some (u, v, c) := by simp
      refine kn 0 _ _ (by omega) ⟨rfl, ring ++ [(D'.length : Int)], s + c, v, D'.length, (u, v, c), by simp, rfl, last, en, rfl, ?_, ?_, by simp; omega, .inl ⟨rfl, rfl, ?_⟩⟩
      · intro x hx
        rcases List.mem_append.mp hx with hx | hx
        · exact hin x hx
        · rw [List.mem_singleton.mp hx, nl]; omega
      · exact go_snoc hg en wu.symm
      · have a := M.hu
        have b := M.hv
        rw [wu] at hlt
        omega
    · obtain ⟨d, d1, d2, d3, d4, d5⟩ := M.cs w k hk wu
      have fall := M.fall N hk wu d1 d2 d3 d4 d5
      have inn := (N.inn d (List.mem_of_getElem? d1)).2
      have bl := below_lt (r := rank h0 u v c (hf hs) T τ) fall inn
      have kl := (List.getElem?_eq_some_iff.mp d1).1
      refine kn _ _ _ (Nat.succ_lt_succ bl) ⟨rfl, ring ++ [(k : Int)], s + d.2.2, d.2.1, k, d, by simp, rfl, last, up_ d1, rfl, ?_, ?_, by simp; omega, .inr ⟨by omega, d3, by omega, by simp; omega, rfl⟩⟩
      · intro x hx
        rcases List.mem_append.mp hx with hx | hx
        · exact hin x hx
        · rw [List.mem_singleton.mp hx, nl]; omega
      · exact go_snoc hg (up_ d1) d2
end
end K13

set_option maxRecDepth 100000
set_option maxHeartbeats 4000000
namespace K13
open PySem L2 VL
theorem getD_cons (a : Key) (b : AV) (r : List (Key × AV)) (k : Key) : getD ((a, b) :: r) k = if a = k then some b else getD r k := by
  unfold getD
  rw [List.find?_cons]
  by_cases c : a = k
  · simp [c]
  · simp [c]
theorem getD_append (r s : List (Key × AV)) (k : Key) : getD (r ++ s) k = (getD r k).or (getD s k) := by
  induction r with
  | nil => rfl
  | cons x r ih =>
    obtain ⟨a, b⟩ := x
    rw [List.cons_append, getD_cons, getD_cons, ih]
    by_cases c : a = k
    · rw [if_pos c, if_pos c]; rfl
    · rw [if_neg c, if_neg c]
theorem any_getD (r : List (Key × AV)) (k : Key) : (r.any fun kv => decide (kv.1 = k)) = (getD r k).isSome := by
  induction r with
  | nil => rfl
  | cons x r ih =>
    obtain ⟨a, b⟩ := x
    rw [List.any_cons, getD_cons, ih]
    by_cases c : a = k
    · simp [c]
    · simp [c]
theorem getD_map (r : List (Key × AV)) (k k' : Key) (d : AV) : getD (r.map fun kv => if kv.1 = k then (kv.1, d) else kv) k' = if k' = k then (getD r k).map fun _ => d else getD r k' := by
  induction r with
  | nil => by_cases c : k' = k <;> simp [c, getD]
  | cons x r ih =>
    obtain ⟨a, b⟩ := x
    rw [List.map_cons]
    by_cases c : a = k
    · subst c
      simp only [if_true]
      rw [getD_cons, ih, getD_cons, getD_cons]
      by_cases e : k' = a
      · subst e; simp
      · simp [e, Ne.symm e]
    · simp only [if_neg c]
      rw [getD_cons, ih, getD_cons, getD_cons]
      by_cases e : k' = k
      · subst e
        simp [c]
      · simp [e]
theorem Cz.put {kvs : List (Key × AV)} {cz : Nat → Option Nat} (z : Cz kvs cz) (x k : Nat) : Cz (putD kvs (.inl (x : Int)) (.int (k : Int))) (fun y => if y = x then some k else cz y) := by
  intro y
  have inj : ((Sum.inl (y : Int) : Key) = .inl (x : Int)) ↔ y = x := by
    constructor
    · intro h; cases h; rfl
    · intro h; rw [h]
  unfold putD
  rw [any_getD]
  by_cases c : (getD kvs (.inl (x : Int))).isSome = true
  · rw [if_pos c, getD_map]
    by_cases e : y = x
    · subst e
      rw [if_pos rfl]
      show _ = (if y = y then some k else cz y).map _
      rw [if_pos rfl]
      obtain ⟨d, hd⟩ := Option.isSome_iff_exists.mp c
      rw [hd]; rfl
    · rw [if_neg fun h => e (inj.mp h), z y]
      show _ = (if y = x then some k else cz y).map _
      rw [if_neg e]
  · rw [if_neg c, getD_append, getD_cons]
    have none : getD kvs (.inl (x : Int)) = none := by
      cases w : getD kvs (.inl (x : Int)) with
      | none => rfl
      | some d => rw [w] at c; exact absurd rfl c
    by_cases e : y = x
    · subst e
      rw [none, if_pos rfl]
      show _ = (if y = y then some k else cz y).map _
      rw [if_pos rfl]
      rfl
    · rw [if_neg fun h => e (inj.mp h.symm), z y]
      show _ = (if y = x then some k else cz y).map _
      rw [if_neg e]
      cases cz y <;> rfl
def many (n : Nat) (cz : Nat → Option Nat) : Nat := (List.range n).countP fun x => (cz x).isSome
theorem put_len {kvs : List (Key × AV)} {cz : Nat → Option Nat} {n x k : Nat} (z : Cz kvs cz) (hx : x < n) (h : kvs.length ≤ many n cz) : (putD kvs (.inl (x : Int)) (.int (k : Int))).length ≤ many n (fun y => if y = x then some k else cz y) := by
  have up_ : ∀ a ∈ List.range n, (cz a).isSome = true → (if a = x then some k else cz a).isSome = true := fun a _ h => by
    split
    · rfl
    · exact h
  unfold putD
  rw [any_getD, z x]
  by_cases c : (cz x).isSome = true
  · have : ((cz x).map fun k : Nat => AV.int (k : Int)).isSome = true := by cases w : cz x <;> simp_all
    rw [if_pos this, List.length_map]
    exact Nat.le_trans h (countP_less up_).1
  · have : ¬ ((cz x).map fun k : Nat => AV.int (k : Int)).isSome = true := by cases w : cz x <;> simp_all
    rw [if_neg this, List.length_append]
    have e : (cz x).isSome = false := by simpa using c
    have := (countP_less (p := fun a => (if a = x then some k else cz a).isSome) (q := fun a => (cz a).isSome) up_).2 ⟨x, List.mem_range.mpr hx, by simp, e⟩
    unfold many at *
    simp only [List.length_cons, List.length_nil]
    omega
theorem many_le (n : Nat) (cz : Nat → Option Nat) : many n cz ≤ n := by
  have : many n cz ≤ (List.range n).length := List.countP_le_length
  rwa [List.length_range] at this
/-! ### objects side by side -/
structure Fr (o : Ob) (h h' : AHeap) : Prop where
  len : h.length ≤ h'.length
  keep : ∀ b, b < h.length → b ∉ o.fp → cells h' b = cells h b
theorem Fr.refl (o : Ob) (h : AHeap) : Fr o h h := ⟨Nat.le_refl _, fun _ _ _ => rfl⟩
theorem Fr.trans {o : Ob} {h h' h'' : AHeap} (a : Fr o h h') (b : Fr o h' h'') : Fr o h h'' := ⟨Nat.le_trans a.len b.len, fun x h1 h2 => (b.keep x (Nat.lt_of_lt_of_le h1 a.len) h2).trans (a.keep x h1 h2)⟩
theorem cells_ne {h : AHeap} {n : Nat} (e : cells h n ≠ .dead) : n < h.length := by
  cases Nat.lt_or_ge n h.length with
  | inl q => exact q
  | inr q => unfold cells at e; rw [List.getElem?_eq_none q] at e; exact absurd rfl e
theorem cells_put {h : AHeap} {n m : Nat} {c : Cell} (hn : n ≠ m) : cells (h.set n c) m = cells h m := by
  unfold cells
  rw [List.getElem?_set_ne hn]
theorem cells_set {h : AHeap} {n : Nat} {c : Cell} (hn : n < h.length) : cells (h.set n c) n = c := by
  unfold cells
  rw [List.getElem?_set_self hn]
  rfl
theorem cells_app {h : AHeap} {n : Nat} {c : Cell} (hn : n < h.length) : cells (h ++ [c]) n = cells h n := by
  unfold cells
  rw [List.getElem?_append_left hn]
section
variable {h h' : AHeap} {o : Ob} {m : Nat} {D : List Ed} {hs : List Int}
theorem Hob.frame (x : Hob h o m D hs) (e : ∀ b ∈ o.fp, cells h' b = cells h b) : Hob h' o m D hs where
  nd := x.nd
  at_ := (e _ (List.mem_cons_self ..)).trans x.at_
  dd := (e _ (by simp [Ob.fp])).trans x.dd
  hd := (e _ (by simp [Ob.fp])).trans x.hd
  ud := (e _ (by simp [Ob.fp])).trans x.ud
  ul := x.ul
  hl := x.hl
  un := fun y a ha => (e _ (by simp [Ob.fp, List.mem_of_getElem? ha])).trans (x.un y a ha)
  inn := x.inn
theorem Hob.lt (x : Hob h o m D hs) : ∀ b ∈ o.fp, b < h.length := by
  intro b hb
  simp only [Ob.fp, List.mem_cons] at hb
  rcases hb with rfl | rfl | rfl | rfl | hb
  · exact cells_ne (by rw [x.at_]; intro z; cases z)
  · exact cells_ne (by rw [x.dd]; intro z; cases z)
  · exact cells_ne (by rw [x.hd]; intro z; cases z)
  · exact cells_ne (by rw [x.ud]; intro z; cases z)
  · obtain ⟨y, hy, rfl⟩ := List.getElem_of_mem hb
    exact cells_ne (by rw [x.un y _ (List.getElem?_eq_getElem hy)]; intro z; cases z)
theorem Hob.setH (x : Hob h o m D hs) {hs' : List Int} (hl : hs'.length = m + 1) : Hob (h.set o.hh (.lst (il hs'))) o m D hs' := by
  have nd := x.nd
  simp only [Ob.fp, List.nodup_cons, List.mem_cons, not_or] at nd
  obtain ⟨⟨a1, a2, a3, a4⟩, ⟨b1, b2, b3⟩, ⟨c1, c2⟩, d1, _⟩ := nd
  have lt := x.lt o.hh (by simp [Ob.fp])
  refine ⟨x.nd, (cells_put (Ne.symm a2)).trans x.at_, (cells_put (Ne.symm b1)).trans x.dd, cells_set lt, (cells_put c1).trans x.ud, x.ul, hl, fun y a ha => ?_, x.inn⟩
  rw [cells_put]
  · exact x.un y a ha
  · intro z
    subst z
    exact c2 (List.mem_of_getElem? ha)
theorem Hob.push (x : Hob h o m D hs) (c : Cell) : Hob (h ++ [c]) o m D hs := x.frame fun b hb => cells_app (x.lt b hb)
theorem Fr.set {b : Nat} {c : Cell} (hb : b ∈ o.fp) : Fr o h (h.set b c) := ⟨by simp, fun a _ ha => cells_put fun z => ha (z ▸ hb)⟩
theorem Fr.push (c : Cell) : Fr o h (h ++ [c]) := ⟨by simp, fun a h1 _ => cells_app h1⟩
end
end K13

set_option maxRecDepth 100000
set_option maxHeartbeats 4000000
namespace K13
open PySem L2 VL
abbrev nl (l : List Nat) : List Int := l.map fun k : Nat => (k : Int)
/-- what a ring must be -/
structure Ring (D : List Ed) (m : Nat) (ring : List Int) : Prop where
  pos : 0 < ring.length
  len : ring.length ≤ m + 4
  inr : ∀ x ∈ ring, 0 ≤ x ∧ x < (D.length : Int)
  sum : ∃ w s, go D w 0 ring = some (w, s) ∧ s < 0
theorem k_subH {h : AHeap} {n : Nat} {hs : List Int} {x : Nat} {Q : KA} (e : cells h n = .lst (il hs)) (hx : x < hs.length) (q : Q (.int (hf hs x))) : subK h (.adr n) (.int (x : Int)) Q := by
  refine k_subL (view_adr e) (fun _ h => by cases h) (il_get hx) ?_
  rw [hf_get hx]
  exact q
theorem mem_drop_app {l : List Nat} {x y : Nat} {i : Nat} (h : x ∈ l.drop i) : x ∈ (l ++ [y]).drop i := by
  rw [List.drop_append]
  exact List.mem_append_left _ h
theorem mem_drop_last {l : List Nat} {y : Nat} {i : Nat} (h : i ≤ l.length) : y ∈ (l ++ [y]).drop i := by
  rw [List.drop_append_of_le_length h]
  exact List.mem_append_right _ (List.mem_singleton.mpr rfl)
theorem mend_ok {n m : Nat} {h : AHeap} {o : Ob} {D' : List Ed} {hs : List Int} {u v : Nat} {c : Int} {Q} (hob : Hob h o m (D' ++ [(u, v, c)]) hs) (g : Great D' (m + 1) (hf hs)) (inn : In (m + 1) D') (hu : u < m + 1) (hv : v < m + 1) (low : hf hs v + c < hf hs u) (hm : m ≤ 12) (hD : D'.length ≤ 18)
    (qn : ∀ h' hs', Hob h' o m (D' ++ [(u, v, c)]) hs' → Great (D' ++ [(u, v, c)]) (m + 1) (hf hs') → Fr o h h' → Q .non h') (qr : ∀ ring h', Ring (D' ++ [(u, v, c)]) m ring → Fr o h h' → Q (.tup (il ring)) h') :
    callN P (n+2) 6 [.adr o.a, .int (D'.length : Int)] h Q := by
  refine ⟨rfl, ?_⟩
  have hz1 : sizeLine = 16777216 := rfl
  have ka := hob.at_
  have en : (D' ++ [(u, v, c)])[D'.length]? = some (u, v, c) := by simp
  obtain ⟨hN, hNe⟩ := ed_get en
  have nlen : (D' ++ [(u, v, c)]).length = D'.length + 1 := by simp
  show WpSs (ctxOf P (callN P (n+1))) b_Heights_mend _ [.val (.adr o.a), .val (.int (D'.length : Int)), .no, .no, .no, .no, .no, .no, .no, .no, .no, .no, .no] h
  simp only [b_Heights_mend, ka, lkD, fldH "differences" rfl, true_and, WpSs, WpS, WpE, WpEs, WpBs, WpO, WpN, WpI, WpC, WpT, getS, setS, tgK, setsS, wipeS, k_add, k_addT, k_sub, k_mul, k_fdiv, k_mod, k_neg, k_lt, k_le, k_gt, k_ge, k_eqI, k_neI, k_eqS, k_neS, k_eqB, k_neB, k_is, k_isn, isNon_non, isNon_int, isNon_str, isNon_lst, isNon_tup, isNon_adr, k_lenS, k_lenL, k_lenR, k_lenT, k_int, k_str, k_abs, tru_bl, augK, ctx_call, ctx_glob, k_in, k_nin, k_inS]
  refine k_subD (view_adr hob.dd) (fun _ h => by cases h) hN ?_
  rw [hNe]
  simp only [ed, keyOf, WpSs, WpS, WpE, WpEs, WpBs, WpO, WpN, WpI, WpC, WpT, getS, setS, tgK, setsS, wipeS, k_add, k_addT, k_sub, k_mul, k_fdiv, k_mod, k_neg, k_lt, k_le, k_gt, k_ge, k_eqI, k_neI, k_eqS, k_neS, k_eqB, k_neB, k_is, k_isn, isNon_non, isNon_int, isNon_str, isNon_lst, isNon_tup, isNon_adr, k_lenS, k_lenL, k_lenR, k_lenT, k_int, k_str, k_abs, tru_bl, augK, ctx_call, ctx_glob, k_in, k_nin, k_inS]
  by_cases uv : u = v
  · subst uv
    have d : decide ((u : Int) = (u : Int)) = true := decide_eq_true rfl
    simp only [d, if_true, WpSs, WpS, WpE, WpEs, WpBs, WpO, WpN, WpI, WpC, WpT, getS, setS, tgK, setsS, wipeS, k_add, k_addT, k_sub, k_mul, k_fdiv, k_mod, k_neg, k_lt, k_le, k_gt, k_ge, k_eqI, k_neI, k_eqS, k_neS, k_eqB, k_neB, k_is, k_isn, isNon_non, isNon_int, isNon_str, isNon_lst, isNon_tup, isNon_adr, k_lenS, k_lenL, k_lenR, k_lenT, k_int, k_str, k_abs, tru_bl, augK, ctx_call, ctx_glob, k_in, k_nin, k_inS]
    refine ⟨by show 1 ≤ _; omega, ?_⟩
    refine qr [(D'.length : Int)] h ⟨by simp, by simp, ?_, u, 0 + c, ?_, by omega⟩ (.refl o h)
    · intro x hx
      rw [List.mem_singleton.mp hx, nlen]
      omega
    · exact go_snoc (es := D' ++ [(u, u, c)]) (ns := []) (l := u) (t := 0) rfl en rfl
  have N : New D' (m + 1) (hf hs) u v c := ⟨g, inn, hu, hv, uv, low⟩
  have d : decide ((u : Int) = (v : Int)) = false := decide_eq_false (by omega)
  have hlu : u < hs.length := by rw [hob.hl]; exact hu
  have hlv : v < hs.length := by rw [hob.hl]; exact hv
  have ixu : ixN (il hs).length (u : Int) = some u := by
    rw [List.length_map]
    exact Evl.ixN_nat hlu
  simp only [d, Bool.false_eq_true, if_false, b_Heights_mend_5, ka, lkH, fldH "heights" rfl, true_and, WpSs, WpS, WpE, WpEs, WpBs, WpO, WpN, WpI, WpC, WpT, getS, setS, tgK, setsS, wipeS, k_add, k_addT, k_sub, k_mul, k_fdiv, k_mod, k_neg, k_lt, k_le, k_gt, k_ge, k_eqI, k_neI, k_eqS, k_neS, k_eqB, k_neB, k_is, k_isn, isNon_non, isNon_int, isNon_str, isNon_lst, isNon_tup, isNon_adr, k_lenS, k_lenL, k_lenR, k_lenT, k_int, k_str, k_abs, tru_bl, augK, ctx_call, ctx_glob, k_in, k_nin, k_inS]
  refine k_subH hob.hd hlv ?_
  simp only [hob.hd, putC, ixu, set_int, WpSs, WpS, WpE, WpEs, WpBs, WpO, WpN, WpI, WpC, WpT, getS, setS, tgK, setsS, wipeS, k_add, k_addT, k_sub, k_mul, k_fdiv, k_mod, k_neg, k_lt, k_le, k_gt, k_ge, k_eqI, k_neI, k_eqS, k_neS, k_eqB, k_neB, k_is, k_isn, isNon_non, isNon_int, isNon_str, isNon_lst, isNon_tup, isNon_adr, k_lenS, k_lenL, k_lenR, k_lenT, k_int, k_str, k_abs, tru_bl, augK, ctx_call, ctx_glob, k_in, k_nin, k_inS]
  have hob1 := hob.setH (hs' := hs.set u (hf hs v + c)) (by rw [List.length_set]; exact hob.hl)
  have fr1 : Fr o h (h.set o.hh (.lst (il (hs.set u (hf hs v + c))))) := .set (by simp [Ob.fp])
  have hl1 : (h.set o.hh (.lst (il (hs.set u (hf hs v + c))))).length = h.length := by simp
  generalize h.set o.hh (.lst (il (hs.set u (hf hs v + c)))) = h1 at hob1 fr1 hl1
  refine ⟨by show 1 ≤ _; omega, ?_⟩
  have w0fp : h1.length ∉ o.fp := fun z => Nat.lt_irrefl _ (hob1.lt _ z)
  have e1 : hf (hs.set u (hf hs v + c)) = up (hf hs) u (hf hs v + c) := hf_set hlu
  have Bd : ∀ hh : Ht, phi (m + 1) D' (hf hs v + c) hh ≤ 13 * 2 ^ 18 := fun hh => by
    have a := phi_le (m + 1) D' (hf hs v + c) hh
    have b : 2 ^ D'.length ≤ 2 ^ 18 := Nat.pow_le_pow_right (by decide) hD
    have : (m + 1) * 2 ^ D'.length ≤ 13 * 2 ^ 18 := Nat.mul_le_mul (by omega) b
    omega
  have p18 : 13 * 2 ^ 18 = 3407872 := by decide
  rw [p18] at Bd
  refine wh_inv (fun mm ρ h' => ∃ (hs' : List Int) (wt : List Nat) (at_ : Nat) (cz : Nat → Option Nat) (T : Nat → Nat) (τ : Nat) (kvs : List (Key × AV)) (s8 s9 s10 s11 s12 : Slot), ρ = [.val (.adr o.a), .val (.int (D'.length : Int)), .val (.int (u : Int)), .val (.int (v : Int)), .val (.int c), .own (.dct kvs), .val (.adr h1.length), .val (.int (at_ : Int)), s8, s9, s10, s11, s12] ∧
      Hob h' o m (D' ++ [(u, v, c)]) hs' ∧ cells h' h1.length = .lst (il (nl wt)) ∧ Fr o h h' ∧ Mid D' (m + 1) (hf hs) u v c (hf hs') cz T τ ∧ Pa D' u (hf hs v + c) (hf hs') cz ∧ Cz kvs cz ∧ kvs.length ≤ many (m + 1) cz ∧ at_ ≤ wt.length ∧ (∀ w ∈ wt, (cz w).isSome = true) ∧
      (∀ e ∈ D' ++ [(u, v, c)], hf hs' e.1 ≤ hf hs' e.2.1 + e.2.2 ∨ e.2.1 ∈ wt.drop at_) ∧ wt.length + phi (m + 1) D' (hf hs v + c) (hf hs') ≤ 3407873 ∧ mm = phi (m + 1) D' (hf hs v + c) (hf hs') + (wt.length - at_))
    (phi (m + 1) D' (hf hs v + c) (hf (hs.set u (hf hs v + c))) + (1 - 0)) ⟨hs.set u (hf hs v + c), [u], 0, _, _, _, [(.inl (u : Int), .int (D'.length : Int))], .no, .no, .no, .no, .no, rfl, hob1.push _, cells_last _ _, fr1.trans (.push _), by rw [e1]; exact Mid.start N, by rw [e1]; exact Pa.start N, ?_, ?_, Nat.zero_le _, ?_, ?_, ?_, rfl⟩ ?_
  · intro x
    rw [getD_cons]
    by_cases q : x = u
    · subst q; simp
    · have : ¬ ((Sum.inl (u : Int) : Key) = .inl (x : Int)) := fun z => q (by cases z; rfl)
      rw [if_neg this]
      simp [q, getD]
  · have := (countP_less (l := List.range (m + 1)) (p := fun x => (if x = u then some D'.length else none).isSome) (q := fun _ => false) (fun _ _ h => by cases h)).2 ⟨u, List.mem_range.mpr hu, by simp, rfl⟩
    unfold many
    simp only [List.length_cons, List.length_nil]
    omega
  · intro w hw
    rw [List.mem_singleton.mp hw]
    simp
  · intro e he
    rw [e1]
    by_cases q : e.2.1 = u
    · exact .inr (by rw [q]; exact List.mem_singleton.mpr rfl)
    · refine .inl ?_
      have s1 : up (hf hs) u (hf hs v + c) e.2.1 = hf hs e.2.1 := by unfold up; rw [if_neg q]
      rw [s1]
      rcases List.mem_append.mp he with he | he
      · have f := g.feas e he
        have : up (hf hs) u (hf hs v + c) e.1 ≤ hf hs e.1 := by
          unfold up
          split
          · rename_i z; rw [z]; omega
          · omega
        omega
      · rw [List.mem_singleton.mp he]
        show up (hf hs) u (hf hs v + c) u ≤ hf hs v + c
        unfold up
        rw [if_pos rfl]
        omega
  · have := Bd (hf (hs.set u (hf hs v + c)))
    simp only [List.length_cons, List.length_nil]
    omega
  rintro mm ρ h2 D2 ⟨hs', wt, at_, cz, T, τ, kvs, s8, s9, s10, s11, s12, rfl, hob2, hw, fr, M, W, Z, kl, hat, hwc, hed, hph, hmm⟩ kn kc kr kb
  simp only [WpSs, WpS, WpE, WpEs, WpBs, WpO, WpN, WpI, WpC, WpT, getS, setS, tgK, setsS, wipeS, k_add, k_addT, k_sub, k_mul, k_fdiv, k_mod, k_neg, k_lt, k_le, k_gt, k_ge, k_eqI, k_neI, k_eqS, k_neS, k_eqB, k_neB, k_is, k_isn, isNon_non, isNon_int, isNon_str, isNon_lst, isNon_tup, isNon_adr, k_lenS, k_lenL, k_lenR, k_lenT, k_int, k_str, k_abs, tru_bl, augK, ctx_call, ctx_glob, k_in, k_nin, k_inS]
  refine k_lenV (view_adr hw) (fun _ h => by cases h) ?_
  simp only [List.length_map, WpSs, WpS, WpE, WpEs, WpBs, WpO, WpN, WpI, WpC, WpT, getS, setS, tgK, setsS, wipeS, k_add, k_addT, k_sub, k_mul, k_fdiv, k_mod, k_neg, k_lt, k_le, k_gt, k_ge, k_eqI, k_neI, k_eqS, k_neS, k_eqB, k_neB, k_is, k_isn, isNon_non, isNon_int, isNon_str, isNon_lst, isNon_tup, isNon_adr, k_lenS, k_lenL, k_lenR, k_lenT, k_int, k_str, k_abs, tru_bl, augK, ctx_call, ctx_glob, k_in, k_nin, k_inS]
  refine ite_b (fun ca => ?_) (fun ca => ?_)
  · have hal : at_ < wt.length := by omega
    have kb2 := hob2.at_
    have hlow := hwc _ (List.getElem_mem hal)
    obtain ⟨lw, hlw⟩ : ∃ lw, lw = wt[at_] := ⟨_, rfl⟩
    rw [← hlw] at hlow
    have lown := (M.ct lw hlow).1
    have nlg : (nl wt)[at_]'(by rw [List.length_map]; exact hal) = (lw : Int) := by rw [hlw]; simp
    have ea : (at_ : Int) + 1 = ((at_ + 1 : Nat) : Int) := by omega
    simp only [b_Heights_mend_3, WpSs, WpS, WpE, WpEs, WpBs, WpO, WpN, WpI, WpC, WpT, getS, setS, tgK, setsS, wipeS, k_add, k_addT, k_sub, k_mul, k_fdiv, k_mod, k_neg, k_lt, k_le, k_gt, k_ge, k_eqI, k_neI, k_eqS, k_neS, k_eqB, k_neB, k_is, k_isn, isNon_non, isNon_int, isNon_str, isNon_lst, isNon_tup, isNon_adr, k_lenS, k_lenL, k_lenR, k_lenT, k_int, k_str, k_abs, tru_bl, augK, ctx_call, ctx_glob, k_in, k_nin, k_inS]
    refine k_subL (view_adr hw) (fun _ h => by cases h) (il_get (j := at_) (by rw [List.length_map]; exact hal)) ?_
    rw [nlg]
    simp only [ea, kb2, lkU, fldH "under" rfl, true_and, WpSs, WpS, WpE, WpEs, WpBs, WpO, WpN, WpI, WpC, WpT, getS, setS, tgK, setsS, wipeS, k_add, k_addT, k_sub, k_mul, k_fdiv, k_mod, k_neg, k_lt, k_le, k_gt, k_ge, k_eqI, k_neI, k_eqS, k_neS, k_eqB, k_neB, k_is, k_isn, isNon_non, isNon_int, isNon_str, isNon_lst, isNon_tup, isNon_adr, k_lenS, k_lenL, k_lenR, k_lenT, k_int, k_str, k_abs, tru_bl, augK, ctx_call, ctx_glob, k_in, k_nin, k_inS]
    have hul : lw < o.us.length := by rw [hob2.ul]; exact lown
    have hug := List.getElem?_eq_getElem hul
    obtain ⟨ua, hua⟩ : ∃ ua, ua = o.us[lw] := ⟨_, rfl⟩
    rw [← hua] at hug
    refine k_subL (view_adr hob2.ud) (fun _ h => by cases h) (d := .adr ua) (by rw [atI_nat (by rw [List.length_map]; exact hul), List.getElem?_map, hug]; rfl) ?_
    have huv := fun (x : AHeap) (hx : Hob x o m (D' ++ [(u, v, c)]) hs') => view_adr (hx.un lw ua hug)
    simp only [view_adr (hob2.un lw ua hug), WpSs, WpS, WpE, WpEs, WpBs, WpO, WpN, WpI, WpC, WpT, getS, setS, tgK, setsS, wipeS, k_add, k_addT, k_sub, k_mul, k_fdiv, k_mod, k_neg, k_lt, k_le, k_gt, k_ge, k_eqI, k_neI, k_eqS, k_neS, k_eqB, k_neB, k_is, k_isn, isNon_non, isNon_int, isNon_str, isNon_lst, isNon_tup, isNon_adr, k_lenS, k_lenL, k_lenR, k_lenT, k_int, k_str, k_abs, tru_bl, augK, ctx_call, ctx_glob, k_in, k_nin, k_inS]
    have dropat : ∀ e : Ed, e.2.1 ∈ wt.drop at_ → e.2.1 = lw ∨ e.2.1 ∈ wt.drop (at_ + 1) := fun e he => by
      rw [List.drop_eq_getElem_cons hal, ← hlw] at he
      exact List.mem_cons.mp he
    refine for_inv (fun i ρ h' => ∃ (hs' : List Int) (wt : List Nat) (cz : Nat → Option Nat) (T : Nat → Nat) (τ : Nat) (kvs : List (Key × AV)) (s9 s10 s11 s12 : Slot), ρ = [.val (.adr o.a), .val (.int (D'.length : Int)), .val (.int (u : Int)), .val (.int (v : Int)), .val (.int c), .own (.dct kvs), .val (.adr h1.length), .val (.int ((at_ + 1 : Nat) : Int)), .val (.int (lw : Int)), s9, s10, s11, s12] ∧
        Hob h' o m (D' ++ [(u, v, c)]) hs' ∧ cells h' h1.length = .lst (il (nl wt)) ∧ Fr o h h' ∧ Mid D' (m + 1) (hf hs) u v c (hf hs') cz T τ ∧ Pa D' u (hf hs v + c) (hf hs') cz ∧ Cz kvs cz ∧ kvs.length ≤ many (m + 1) cz ∧ at_ + 1 ≤ wt.length ∧ (∀ w ∈ wt, (cz w).isSome = true) ∧ (cz lw).isSome = true ∧
        (∀ (k : Nat) (e : Ed), (D' ++ [(u, v, c)])[k]? = some e → hf hs' e.1 ≤ hf hs' e.2.1 + e.2.2 ∨ e.2.1 ∈ wt.drop (at_ + 1) ∨ (e.2.1 = lw ∧ (k : Int) ∈ (idx (D' ++ [(u, v, c)]) lw).drop i)) ∧ wt.length + phi (m + 1) D' (hf hs v + c) (hf hs') ≤ 3407873 ∧ wt.length + phi (m + 1) D' (hf hs v + c) (hf hs') ≤ mm + at_)
      ⟨hs', wt, cz, T, τ, kvs, s9, s10, s11, s12, rfl, hob2, hw, fr, M, W, Z, kl, hal, hwc, hlow, ?_, hph, by omega⟩ ?_ ?_ ?_
    · intro k e he
      rcases hed e (List.mem_of_getElem? he) with q | q
      · exact .inl q
      · rcases dropat e q with q | q
        · refine .inr (.inr ⟨q, ?_⟩)
          rw [List.drop_zero, ← q]
          exact idx_all he
        · exact .inr (.inl q)
    · rintro i ρ h' _ ⟨hs', wt, cz, T, τ, kvs, s9, s10, s11, s12, rfl, hob2, _⟩
      exact view_adr (hob2.un lw ua hug)
    · clear hob2 hw fr M W Z kl hat hwc hed hph hmm hal hlow nlg kb2 ca dropat huv hlw
      rintro i x ρ h3 D3 hx ⟨hs', wt, cz, T, τ, kvs, s9, s10, s11, s12, rfl, hob2, hw, fr, M, W, Z, kl, hal, hwc, hlow, hed, hph, hmm⟩ kn2 kc2 kr2 kb3
      obtain ⟨kk, hkk, rfl⟩ := items_map hx
      obtain ⟨k, e, rfl, he, hel⟩ := idx_mem (List.mem_of_getElem? hkk)
      obtain ⟨hkl, hke⟩ := ed_get he
      have kb2 := hob2.at_
      have inE := hob2.inn e (List.mem_of_getElem? he)
      have hxl : e.1 < hs'.length := by rw [hob2.hl]; exact inE.1
      have hyl : e.2.1 < hs'.length := by rw [hob2.hl]; exact inE.2
      have drp : (idx (D' ++ [(u, v, c)]) lw).drop i = (k : Int) :: (idx (D' ++ [(u, v, c)]) lw).drop (i + 1) := by
        obtain ⟨a, b⟩ := List.getElem?_eq_some_iff.mp hkk
        rw [List.drop_eq_getElem_cons a, b]
      simp only [b_Heights_mend_2, kb2, lkD, fldH "differences" rfl, true_and, WpSs, WpS, WpE, WpEs, WpBs, WpO, WpN, WpI, WpC, WpT, getS, setS, tgK, setsS, wipeS, k_add, k_addT, k_sub, k_mul, k_fdiv, k_mod, k_neg, k_lt, k_le, k_gt, k_ge, k_eqI, k_neI, k_eqS, k_neS, k_eqB, k_neB, k_is, k_isn, isNon_non, isNon_int, isNon_str, isNon_lst, isNon_tup, isNon_adr, k_lenS, k_lenL, k_lenR, k_lenT, k_int, k_str, k_abs, tru_bl, augK, ctx_call, ctx_glob, k_in, k_nin, k_inS]
      refine k_subD (view_adr hob2.dd) (fun _ h => by cases h) hkl ?_
      rw [hke]
      simp only [ed, kb2, lkH, fldH "heights" rfl, true_and, WpSs, WpS, WpE, WpEs, WpBs, WpO, WpN, WpI, WpC, WpT, getS, setS, tgK, setsS, wipeS, k_add, k_addT, k_sub, k_mul, k_fdiv, k_mod, k_neg, k_lt, k_le, k_gt, k_ge, k_eqI, k_neI, k_eqS, k_neS, k_eqB, k_neB, k_is, k_isn, isNon_non, isNon_int, isNon_str, isNon_lst, isNon_tup, isNon_adr, k_lenS, k_lenL, k_lenR, k_lenT, k_int, k_str, k_abs, tru_bl, augK, ctx_call, ctx_glob, k_in, k_nin, k_inS]
      refine k_subH hob2.hd hxl ?_
      refine k_subH hob2.hd hyl ?_
      simp only [WpSs, WpS, WpE, WpEs, WpBs, WpO, WpN, WpI, WpC, WpT, getS, setS, tgK, setsS, wipeS, k_add, k_addT, k_sub, k_mul, k_fdiv, k_mod, k_neg, k_lt, k_le, k_gt, k_ge, k_eqI, k_neI, k_eqS, k_neS, k_eqB, k_neB, k_is, k_isn, isNon_non, isNon_int, isNon_str, isNon_lst, isNon_tup, isNon_adr, k_lenS, k_lenL, k_lenR, k_lenT, k_int, k_str, k_abs, tru_bl, augK, ctx_call, ctx_glob, k_in, k_nin, k_inS]
      refine ite_b (fun cl => ?_) (fun cl => ?_)
      · have side := M.side N he cl
        have kn3 : kvs.length < 100000 := by
          have := many_le (m + 1) cz
          omega
        simp only [putC, keyOf, WpSs, WpS, WpE, WpEs, WpBs, WpO, WpN, WpI, WpC, WpT, getS, setS, tgK, setsS, wipeS, k_add, k_addT, k_sub, k_mul, k_fdiv, k_mod, k_neg, k_lt, k_le, k_gt, k_ge, k_eqI, k_neI, k_eqS, k_neS, k_eqB, k_neB, k_is, k_isn, isNon_non, isNon_int, isNon_str, isNon_lst, isNon_tup, isNon_adr, k_lenS, k_lenL, k_lenR, k_lenT, k_int, k_str, k_abs, tru_bl, augK, ctx_call, ctx_glob, k_in, k_nin, k_inS]
        refine ⟨kn3, ?_⟩
        by_cases xv : e.1 = v
        · have d2 : decide ((e.1 : Int) = (v : Int)) = true := decide_eq_true (by omega)
          have noR : ([("many", AV.int (m : Int)), ("differences", .adr o.d), ("heights", .adr o.hh), ("under", .adr o.uu)] : List (Str × AV)).lookup ("ring_from" : Str) = none := rfl
          have meR : (ctxOf P (callN P (n+1))).meth 0 "ring_from" = some 7 := rfl
          simp only [d2, if_true, kb2, noR, meR, WpSs, WpS, WpE, WpEs, WpBs, WpO, WpN, WpI, WpC, WpT, getS, setS, tgK, setsS, wipeS, k_add, k_addT, k_sub, k_mul, k_fdiv, k_mod, k_neg, k_lt, k_le, k_gt, k_ge, k_eqI, k_neI, k_eqS, k_neS, k_eqB, k_neB, k_is, k_isn, isNon_non, isNon_int, isNon_str, isNon_lst, isNon_tup, isNon_adr, k_lenS, k_lenL, k_lenR, k_lenT, k_int, k_str, k_abs, tru_bl, augK, ctx_call, ctx_glob, k_in, k_nin, k_inS]
          refine ring_ok (m := m) (hs := hs') (k0 := k) (e0 := e) N M hob2 ?_ side.1 xv (by rw [hel]; exact hlow) (by rw [xv] at cl; exact cl) (by omega) fun ring s p1 p2 p3 p4 p5 => ?_
          · rw [← xv]; exact Z.put e.1 k
          · exact kr2 _ _ (kr _ _ (qr ring h3 ⟨p1, p2, p3, v, s, p4, p5⟩ fr))
        · have d2 : decide ((e.1 : Int) = (v : Int)) = false := decide_eq_false (by omega)
          have M2 := M.step N he cl (by rw [hel]; exact hlow) xv
          have W2 := Pa.step N M W he cl (by rw [hel]; exact hlow)
          have hfs : hf (hs'.set e.1 (hf hs' e.2.1 + e.2.2)) = up (hf hs') e.1 (hf hs' e.2.1 + e.2.2) := hf_set hxl
          have ixx : ixN (il hs').length (e.1 : Int) = some e.1 := by
            rw [List.length_map]
            exact Evl.ixN_nat hxl
          simp only [d2, Bool.false_eq_true, if_false, b_Heights_mend_1, kb2, lkH, fldH "heights" rfl, true_and, WpSs, WpS, WpE, WpEs, WpBs, WpO, WpN, WpI, WpC, WpT, getS, setS, tgK, setsS, wipeS, k_add, k_addT, k_sub, k_mul, k_fdiv, k_mod, k_neg, k_lt, k_le, k_gt, k_ge, k_eqI, k_neI, k_eqS, k_neS, k_eqB, k_neB, k_is, k_isn, isNon_non, isNon_int, isNon_str, isNon_lst, isNon_tup, isNon_adr, k_lenS, k_lenL, k_lenR, k_lenT, k_int, k_str, k_abs, tru_bl, augK, ctx_call, ctx_glob, k_in, k_nin, k_inS]
          refine k_subH hob2.hd hyl ?_
          simp only [hob2.hd, putC, ixx, set_int, WpSs, WpS, WpE, WpEs, WpBs, WpO, WpN, WpI, WpC, WpT, getS, setS, tgK, setsS, wipeS, k_add, k_addT, k_sub, k_mul, k_fdiv, k_mod, k_neg, k_lt, k_le, k_gt, k_ge, k_eqI, k_neI, k_eqS, k_neS, k_eqB, k_neB, k_is, k_isn, isNon_non, isNon_int, isNon_str, isNon_lst, isNon_tup, isNon_adr, k_lenS, k_lenL, k_lenR, k_lenT, k_int, k_str, k_abs, tru_bl, augK, ctx_call, ctx_glob, k_in, k_nin, k_inS]
          have whh : o.hh ≠ h1.length := fun z => w0fp (by rw [← z]; simp [Ob.fp])
          have hw3 : cells (h3.set o.hh (.lst (il (hs'.set e.1 (hf hs' e.2.1 + e.2.2))))) h1.length = .lst (il (nl wt)) := (cells_put whh).trans hw
          have hob3 := hob2.setH (hs' := hs'.set e.1 (hf hs' e.2.1 + e.2.2)) (by rw [List.length_set]; exact hob2.hl)
          have fr3 : Fr o h (h3.set o.hh (.lst (il (hs'.set e.1 (hf hs' e.2.1 + e.2.2))))) := fr.trans (.set (by simp [Ob.fp]))
          have len3 : (h3.set o.hh (.lst (il (hs'.set e.1 (hf hs' e.2.1 + e.2.2))))).length = h3.length := by simp
          have w0lt : h1.length < h3.length := cells_ne (by rw [hw]; intro z; cases z)
          generalize h3.set o.hh (.lst (il (hs'.set e.1 (hf hs' e.2.1 + e.2.2)))) = h4 at hw3 hob3 fr3 len3
          have nl1 : il (nl wt) ++ [.int (e.1 : Int)] = il (nl (wt ++ [e.1])) := by rw [int_one]; simp [nl]
          simp only [hw3, appC, nl1, List.length_map]
          refine ⟨by omega, ?_⟩
          refine kn2 _ _ ⟨hs'.set e.1 (hf hs' e.2.1 + e.2.2), wt ++ [e.1], _, _, _, _, _, _, _, _, rfl, hob3.frame fun b hb => cells_put fun z => w0fp (z ▸ hb), cells_set (by omega), ⟨by rw [List.length_set]; exact fr3.len, fun b b1 b2 => (cells_put fun z => by omega).trans (fr3.keep b b1 b2)⟩, by rw [hfs]; exact M2, by rw [hfs]; exact W2.1, Z.put e.1 k, put_len Z inE.1 kl, by simp; omega, ?_, ?_, ?_, ?_, ?_⟩
          · intro w hw'
            rcases List.mem_append.mp hw' with hw' | hw'
            · have := hwc w hw'
              show (if w = e.1 then some k else cz w).isSome = true
              split
              · rfl
              · exact this
            · rw [List.mem_singleton.mp hw']
              simp
          · show (if lw = e.1 then some k else cz lw).isSome = true
            split
            · rfl
            · exact hlow
          · intro k' e' he'
            rw [hfs]
            have le : ∀ x, up (hf hs') e.1 (hf hs' e.2.1 + e.2.2) x ≤ hf hs' x := fun x => by
              unfold up
              split
              · rename_i z; rw [z]; omega
              · omega
            by_cases yx : e'.2.1 = e.1
            · exact .inr (.inl (by rw [yx]; exact mem_drop_last hal))
            · have sy : up (hf hs') e.1 (hf hs' e.2.1 + e.2.2) e'.2.1 = hf hs' e'.2.1 := by unfold up; rw [if_neg yx]
              rw [sy]
              rcases hed k' e' he' with q | q | ⟨q1, q2⟩
              · exact .inl (Int.le_trans (le _) q)
              · exact .inr (.inl (mem_drop_app q))
              · rw [drp] at q2
                rcases List.mem_cons.mp q2 with q2 | q2
                · have : k' = k := by omega
                  subst this
                  rw [he] at he'
                  cases he'
                  refine .inl ?_
                  unfold up
                  rw [if_pos rfl]
                  omega
                · exact .inr (.inr ⟨q1, q2⟩)
          · rw [hfs]
            have := W2.2
            simp only [List.length_append, List.length_cons, List.length_nil]
            omega
          · rw [hfs]
            have := W2.2
            simp only [List.length_append, List.length_cons, List.length_nil]
            omega
      · refine kn2 _ _ ⟨hs', wt, cz, T, τ, kvs, _, _, _, _, rfl, hob2, hw, fr, M, W, Z, kl, hal, hwc, hlow, ?_, hph, hmm⟩
        intro k' e' he'
        rcases hed k' e' he' with q | q | ⟨q1, q2⟩
        · exact .inl q
        · exact .inr (.inl q)
        · rw [drp] at q2
          rcases List.mem_cons.mp q2 with q2 | q2
          · have : k' = k := by omega
            subst this
            rw [he] at he'
            cases he'
            exact .inl (by omega)
          · exact .inr (.inr ⟨q1, q2⟩)
    · rintro ρ h3 ⟨hs', wt, cz, T, τ, kvs, s9, s10, s11, s12, rfl, hob2, hw, fr, M, W, Z, kl, hal, hwc, hlow, hed, hph, hmm2⟩
      rw [List.length_map] at hed
      refine kn (phi (m + 1) D' (hf hs v + c) (hf hs') + (wt.length - (at_ + 1))) _ _ (by omega) ⟨hs', wt, at_ + 1, cz, T, τ, kvs, _, s9, s10, s11, s12, rfl, hob2, hw, fr, M, W, Z, kl, hal, hwc, fun e he => ?_, hph, rfl⟩
      obtain ⟨k, hk, rfl⟩ := List.getElem_of_mem he
      rcases hed k _ (List.getElem?_eq_getElem hk) with q | q | ⟨q1, q2⟩
      · exact .inl q
      · exact .inr q
      · rw [List.drop_of_length_le (Nat.le_refl _)] at q2
        cases q2
  · simp only [b_Heights_mend_4, WpSs, WpS, WpE, WpEs, WpBs, WpO, WpN, WpI, WpC, WpT, getS, setS, tgK, setsS, wipeS, k_add, k_addT, k_sub, k_mul, k_fdiv, k_mod, k_neg, k_lt, k_le, k_gt, k_ge, k_eqI, k_neI, k_eqS, k_neS, k_eqB, k_neB, k_is, k_isn, isNon_non, isNon_int, isNon_str, isNon_lst, isNon_tup, isNon_adr, k_lenS, k_lenL, k_lenR, k_lenT, k_int, k_str, k_abs, tru_bl, augK, ctx_call, ctx_glob, k_in, k_nin, k_inS]
    refine qn h2 hs' hob2 (M.done N fun e he => ?_) fr
    rcases hed e he with q | q
    · exact q
    · rw [List.drop_of_length_le (by omega)] at q
      cases q
end K13

set_option maxRecDepth 100000
set_option maxHeartbeats 4000000
namespace K13
open PySem L2 VL
theorem dl_snoc (D : List Ed) (e : Ed) : dl' D ++ [ed e] = dl' (D ++ [e]) := by rw [dl', dl', List.map_append]; rfl
/-- one difference more, in both places -/
theorem Hob.more {h : AHeap} {o : Ob} {m : Nat} {D : List Ed} {hs : List Int} {u v : Nat} {c : Int} {ua : Nat} (x : Hob h o m D hs) (hu : u < m + 1) (hv : v < m + 1) (hua : o.us[v]? = some ua) :
    Hob ((h.set o.d (.lst (dl' (D ++ [(u, v, c)])))).set ua (.lst (il (idx D v ++ [(D.length : Int)])))) o m (D ++ [(u, v, c)]) hs := by
  have nd := x.nd
  simp only [Ob.fp, List.nodup_cons, List.mem_cons, not_or] at nd
  obtain ⟨⟨a1, a2, a3, a4⟩, ⟨b1, b2, b3⟩, ⟨c1, c2⟩, d1, nus⟩ := nd
  have mem := List.mem_of_getElem? hua
  have ne_a : ua ≠ o.a := fun z => a4 (z ▸ mem)
  have ne_d : ua ≠ o.d := fun z => b3 (z ▸ mem)
  have ne_h : ua ≠ o.hh := fun z => c2 (z ▸ mem)
  have ne_u : ua ≠ o.uu := fun z => d1 (z ▸ mem)
  have ltd := x.lt o.d (by simp [Ob.fp])
  have ltu := x.lt ua (by simp [Ob.fp, mem])
  refine ⟨x.nd, ?_, ?_, ?_, ?_, x.ul, x.hl, fun y b hb => ?_, fun e he => ?_⟩
  · rw [cells_put ne_a, cells_put (Ne.symm a1)]; exact x.at_
  · rw [cells_put ne_d, cells_set ltd]
  · rw [cells_put ne_h, cells_put b1]; exact x.hd
  · rw [cells_put ne_u, cells_put b2]; exact x.ud
  · have memb := List.mem_of_getElem? hb
    by_cases q : y = v
    · subst q
      have : b = ua := by rw [hua] at hb; exact (Option.some.inj hb).symm
      subst this
      rw [cells_set (by simpa using ltu), idx_snoc, if_pos rfl]
    · have nb : ua ≠ b := fun z => by
        subst z
        obtain ⟨i1, j1⟩ := List.getElem?_eq_some_iff.mp hua
        obtain ⟨i2, j2⟩ := List.getElem?_eq_some_iff.mp hb
        exact q ((List.getElem_inj nus).mp (j2.trans j1.symm))
      have nbd : o.d ≠ b := fun z => b3 (z ▸ memb)
      rw [cells_put nb, cells_put nbd, idx_snoc, if_neg (Ne.symm q), List.append_nil]
      exact x.un y b hb
  · rcases List.mem_append.mp he with he | he
    · exact x.inn e he
    · rw [List.mem_singleton.mp he]; exact ⟨hu, hv⟩
theorem idx_len (D : List Ed) (y : Nat) : (idx D y).length ≤ D.length := by
  unfold idx
  rw [List.length_map]
  have := List.length_filter_le (fun k => decide ((D[k]?.map fun e => e.2.1) = some y)) (List.range D.length)
  rwa [List.length_range] at this
theorem tie_ok {n m : Nat} {h : AHeap} {o : Ob} {D : List Ed} {hs : List Int} {u v : Nat} {c : Int} {Q} (hob : Hob h o m D hs) (g : Great D (m + 1) (hf hs)) (hu : u < m + 1) (hv : v < m + 1) (hm : m ≤ 12) (hD : D.length ≤ 18)
    (qn : ∀ h' hs', Hob h' o m (D ++ [(u, v, c)]) hs' → Great (D ++ [(u, v, c)]) (m + 1) (hf hs') → Fr o h h' → Q .non h') (qr : ∀ ring h', Ring (D ++ [(u, v, c)]) m ring → Fr o h h' → Q (.tup (il ring)) h') :
    callN P (n+3) 2 [.adr o.a, ed (u, v, c)] h Q := by
  refine ⟨rfl, ?_⟩
  have hz1 : sizeLine = 16777216 := rfl
  have ka := hob.at_
  have nd := hob.nd
  simp only [Ob.fp, List.nodup_cons, List.mem_cons, not_or] at nd
  obtain ⟨⟨a1, a2, a3, a4⟩, ⟨b1, b2, b3⟩, ⟨c1, c2⟩, d1, nus⟩ := nd
  have hul : v < o.us.length := by rw [hob.ul]; exact hv
  obtain ⟨ua, hua⟩ : ∃ ua, ua = o.us[v] := ⟨_, rfl⟩
  have hug : o.us[v]? = some ua := by rw [hua]; exact List.getElem?_eq_getElem hul
  have mem := List.mem_of_getElem? hug
  have mor := hob.more (c := c) hu hv hug
  show WpSs (ctxOf P (callN P (n+2))) b_Heights_tie _ [.val (.adr o.a), .val (ed (u, v, c)), .no, .no, .no, .no] h
  have ed3 : (AV.tup [.int (u : Int), .int (v : Int), .int c]) = ed (u, v, c) := rfl
  simp only [b_Heights_tie, ed, ka, lkD, fldH "differences" rfl, true_and, WpSs, WpS, WpE, WpEs, WpBs, WpO, WpN, WpI, WpC, WpT, getS, setS, tgK, setsS, wipeS, k_add, k_addT, k_sub, k_mul, k_fdiv, k_mod, k_neg, k_lt, k_le, k_gt, k_ge, k_eqI, k_neI, k_eqS, k_neS, k_eqB, k_neB, k_is, k_isn, isNon_non, isNon_int, isNon_str, isNon_lst, isNon_tup, isNon_adr, k_lenS, k_lenL, k_lenR, k_lenT, k_int, k_str, k_abs, tru_bl, augK, ctx_call, ctx_glob, k_in, k_nin, k_inS]
  refine k_lenV (view_adr hob.dd) (fun _ h => by cases h) ?_
  simp only [List.length_map, ka, lkD, fldH "differences" rfl, true_and, hob.dd, appC, ed3, dl_snoc, WpSs, WpS, WpE, WpEs, WpBs, WpO, WpN, WpI, WpC, WpT, getS, setS, tgK, setsS, wipeS, k_add, k_addT, k_sub, k_mul, k_fdiv, k_mod, k_neg, k_lt, k_le, k_gt, k_ge, k_eqI, k_neI, k_eqS, k_neS, k_eqB, k_neB, k_is, k_isn, isNon_non, isNon_int, isNon_str, isNon_lst, isNon_tup, isNon_adr, k_lenS, k_lenL, k_lenR, k_lenT, k_int, k_str, k_abs, tru_bl, augK, ctx_call, ctx_glob, k_in, k_nin, k_inS]
  refine ⟨by omega, ?_⟩
  have k1 : cells (h.set o.d (.lst (dl' (D ++ [(u, v, c)])))) o.a = .obj 0 [("many", .int (m : Int)), ("differences", .adr o.d), ("heights", .adr o.hh), ("under", .adr o.uu)] := (cells_put (Ne.symm a1)).trans ka
  have k2 : cells (h.set o.d (.lst (dl' (D ++ [(u, v, c)])))) o.uu = .lst (o.us.map AV.adr) := (cells_put b2).trans hob.ud
  have k3 : cells (h.set o.d (.lst (dl' (D ++ [(u, v, c)])))) ua = .lst (il (idx D v)) := (cells_put (show o.d ≠ ua from fun z => b3 (z ▸ mem))).trans (hob.un v ua hug)
  have fr : Fr o h ((h.set o.d (.lst (dl' (D ++ [(u, v, c)])))).set ua (.lst (il (idx D v ++ [(D.length : Int)])))) := (Fr.set (by simp [Ob.fp])).trans (Fr.set (by simp [Ob.fp, mem]))
  simp only [k1, lkU, fldH "under" rfl, true_and, WpSs, WpS, WpE, WpEs, WpBs, WpO, WpN, WpI, WpC, WpT, getS, setS, tgK, setsS, wipeS, k_add, k_addT, k_sub, k_mul, k_fdiv, k_mod, k_neg, k_lt, k_le, k_gt, k_ge, k_eqI, k_neI, k_eqS, k_neS, k_eqB, k_neB, k_is, k_isn, isNon_non, isNon_int, isNon_str, isNon_lst, isNon_tup, isNon_adr, k_lenS, k_lenL, k_lenR, k_lenT, k_int, k_str, k_abs, tru_bl, augK, ctx_call, ctx_glob, k_in, k_nin, k_inS]
  refine k_subL (view_adr k2) (fun _ h => by cases h) (d := .adr ua) (by rw [atI_nat (by rw [List.length_map]; exact hul), List.getElem?_map, hug]; rfl) ?_
  simp only [k3, appC, int_one, List.length_map, WpSs, WpS, WpE, WpEs, WpBs, WpO, WpN, WpI, WpC, WpT, getS, setS, tgK, setsS, wipeS, k_add, k_addT, k_sub, k_mul, k_fdiv, k_mod, k_neg, k_lt, k_le, k_gt, k_ge, k_eqI, k_neI, k_eqS, k_neS, k_eqB, k_neB, k_is, k_isn, isNon_non, isNon_int, isNon_str, isNon_lst, isNon_tup, isNon_adr, k_lenS, k_lenL, k_lenR, k_lenT, k_int, k_str, k_abs, tru_bl, augK, ctx_call, ctx_glob, k_in, k_nin, k_inS]
  have il1 := idx_len D v
  refine ⟨by omega, ?_⟩
  generalize (h.set o.d (.lst (dl' (D ++ [(u, v, c)])))).set ua (.lst (il (idx D v ++ [(D.length : Int)]))) = h2 at mor fr
  have kb := mor.at_
  simp only [kb, lkH, fldH "heights" rfl, true_and, WpSs, WpS, WpE, WpEs, WpBs, WpO, WpN, WpI, WpC, WpT, getS, setS, tgK, setsS, wipeS, k_add, k_addT, k_sub, k_mul, k_fdiv, k_mod, k_neg, k_lt, k_le, k_gt, k_ge, k_eqI, k_neI, k_eqS, k_neS, k_eqB, k_neB, k_is, k_isn, isNon_non, isNon_int, isNon_str, isNon_lst, isNon_tup, isNon_adr, k_lenS, k_lenL, k_lenR, k_lenT, k_int, k_str, k_abs, tru_bl, augK, ctx_call, ctx_glob, k_in, k_nin, k_inS]
  refine k_subH mor.hd (by rw [mor.hl]; exact hu) ?_
  refine k_subH mor.hd (by rw [mor.hl]; exact hv) ?_
  simp only [WpSs, WpS, WpE, WpEs, WpBs, WpO, WpN, WpI, WpC, WpT, getS, setS, tgK, setsS, wipeS, k_add, k_addT, k_sub, k_mul, k_fdiv, k_mod, k_neg, k_lt, k_le, k_gt, k_ge, k_eqI, k_neI, k_eqS, k_neS, k_eqB, k_neB, k_is, k_isn, isNon_non, isNon_int, isNon_str, isNon_lst, isNon_tup, isNon_adr, k_lenS, k_lenL, k_lenR, k_lenT, k_int, k_str, k_abs, tru_bl, augK, ctx_call, ctx_glob, k_in, k_nin, k_inS]
  refine ite_b (fun cl => ?_) (fun cl => ?_)
  · refine qn h2 hs mor ⟨fun e he => ?_, g.neg, fun g' f gn x hx => g.top g' (fun e he => f e (List.mem_append_left _ he)) gn x hx⟩ fr
    rcases List.mem_append.mp he with he | he
    · exact g.feas e he
    · rw [List.mem_singleton.mp he]; exact cl
  · have no : ([("many", AV.int (m : Int)), ("differences", .adr o.d), ("heights", .adr o.hh), ("under", .adr o.uu)] : List (Str × AV)).lookup ("mend" : Str) = none := rfl
    have me : (ctxOf P (callN P (n+2))).meth 0 "mend" = some 6 := rfl
    simp only [b_Heights_tie_1, kb, no, me, WpSs, WpS, WpE, WpEs, WpBs, WpO, WpN, WpI, WpC, WpT, getS, setS, tgK, setsS, wipeS, k_add, k_addT, k_sub, k_mul, k_fdiv, k_mod, k_neg, k_lt, k_le, k_gt, k_ge, k_eqI, k_neI, k_eqS, k_neS, k_eqB, k_neB, k_is, k_isn, isNon_non, isNon_int, isNon_str, isNon_lst, isNon_tup, isNon_adr, k_lenS, k_lenL, k_lenR, k_lenT, k_int, k_str, k_abs, tru_bl, augK, ctx_call, ctx_glob, k_in, k_nin, k_inS]
    exact mend_ok mor g hob.inn hu hv (by omega) hm hD (fun h' hs' a b f => qn h' hs' a b (fr.trans f)) fun ring h' r f => qr ring h' r (fr.trans f)
end K13

set_option maxRecDepth 100000
set_option maxHeartbeats 4000000
namespace K13
open PySem L2 VL
/-- the values that are told: all but the ground's, above the ground's -/
def kpt (hs : List Int) : List Int := (hs.drop 1).map fun x => x - hf hs 0
theorem kept_ok {n m : Nat} {h : AHeap} {o : Ob} {D : List Ed} {hs : List Int} {Q} (hob : Hob h o m D hs) (hm : m ≤ 1000) (q : Q (.adr h.length) (h ++ [.lst (il (kpt hs))])) : callN P (n+1) 8 [.adr o.a] h Q := by
  refine ⟨rfl, ?_⟩
  have hz1 : sizeLine = 16777216 := rfl
  have ka := hob.at_
  have hl := hob.hl
  show WpSs (ctxOf P (callN P n)) b_Heights_kept _ [.val (.adr o.a), .no, .no] h
  have hv : view h (.adr o.hh) = some (il hs) := by simp only [view, hob.hd]
  have c1 : cut (il hs) (some 1) none = il (hs.drop 1) := by
    have := cut_sn (il hs) 1
    exact this.trans (List.map_drop ..).symm
  simp only [b_Heights_kept, ka, lkH, fldH "heights" rfl, true_and, hv, c1, viewT_lst, WpSs, WpS, WpE, WpEs, WpBs, WpO, WpN, WpI, WpC, WpT, getS, setS, tgK, setsS, wipeS, k_add, k_addT, k_sub, k_mul, k_fdiv, k_mod, k_neg, k_lt, k_le, k_gt, k_ge, k_eqI, k_neI, k_eqS, k_neS, k_eqB, k_neB, k_is, k_isn, isNon_non, isNon_int, isNon_str, isNon_lst, isNon_tup, isNon_adr, k_lenS, k_lenL, k_lenR, k_lenT, k_int, k_str, k_abs, tru_bl, augK, ctx_call, ctx_glob, k_in, k_nin, k_inS]
  refine k_subH (x := 0) hob.hd (by omega) ?_
  refine ⟨by rw [List.length_map, List.length_drop]; omega, ?_⟩
  refine comp_ints (fun i => ((hs.drop 1)[i]?.getD 0) - hf hs 0) ?_ ?_
  · intro i x R hx r
    obtain ⟨a, ha, rfl⟩ := items_map hx
    simp only [if_true, WpSs, WpS, WpE, WpEs, WpBs, WpO, WpN, WpI, WpC, WpT, getS, setS, tgK, setsS, wipeS, k_add, k_addT, k_sub, k_mul, k_fdiv, k_mod, k_neg, k_lt, k_le, k_gt, k_ge, k_eqI, k_neI, k_eqS, k_neS, k_eqB, k_neB, k_is, k_isn, isNon_non, isNon_int, isNon_str, isNon_lst, isNon_tup, isNon_adr, k_lenS, k_lenL, k_lenR, k_lenT, k_int, k_str, k_abs, tru_bl, augK, ctx_call, ctx_glob, k_in, k_nin, k_inS]
    rw [ha] at r
    exact r
  · have e : (List.range (il (hs.drop 1)).length).map (fun i => ((hs.drop 1)[i]?.getD 0) - hf hs 0) = kpt hs := by
      unfold kpt
      rw [List.length_map]
      apply List.ext_getElem
      · simp
      · intro i h1 h2
        simp only [List.length_map, List.length_range] at h1
        simp only [List.getElem_map, List.getElem_range, List.getElem?_eq_getElem h1]
        rfl
    rw [e]
    exact q
theorem room_nonneg (D : List Ed) : 0 ≤ room D := by
  unfold room
  induction D with
  | nil => exact Int.le_refl _
  | cons e D ih =>
    simp only [List.map_cons, List.sum_cons]
    have : 0 ≤ absI e.2.2 := by unfold absI; split <;> omega
    omega
theorem kpt_get {hs : List Int} {i : Nat} (h : i < (kpt hs).length) : (kpt hs)[i] = hf hs (i + 1) - hf hs 0 := by
  unfold kpt at h ⊢
  simp only [List.length_map, List.length_drop] at h
  simp only [List.getElem_map, List.getElem_drop]
  rw [hf_get (by omega), Nat.add_comm]
theorem kpt_len (hs : List Int) : (kpt hs).length = hs.length - 1 := by simp [kpt]
theorem kpt_bd {m : Nat} {D : List Ed} {hs : List Int} (g : Great D (m + 1) (hf hs)) (i : In (m + 1) D) (hl : hs.length = m + 1) : ∀ x ∈ kpt hs, -(room D) ≤ x ∧ x ≤ room D := by
  intro x hx
  obtain ⟨j, hj, rfl⟩ := List.getElem_of_mem hx
  rw [kpt_get hj]
  rw [kpt_len] at hj
  have a := g.low i (u := j + 1) (by omega)
  have b := g.low i (u := 0) (by omega)
  have c := g.neg (j + 1) (by omega)
  have d := g.neg 0 (by omega)
  omega
def lv (vs : List Int) (u : Nat) : Int := ((0 :: vs)[u]?).getD 0
theorem kpt_lv {m : Nat} {hs : List Int} (hl : hs.length = m + 1) {u : Nat} (hu : u < m + 1) : lv (kpt hs) u = hf hs u - hf hs 0 := by
  unfold lv
  cases u with
  | zero => simp
  | succ u =>
    rw [List.getElem?_cons_succ, List.getElem?_eq_getElem (by rw [kpt_len]; omega)]
    exact kpt_get _
theorem kpt_keeps {m : Nat} {D : List Ed} {hs : List Int} (g : Feas D (hf hs)) (i : In (m + 1) D) (hl : hs.length = m + 1) : ∀ e ∈ D, lv (kpt hs) e.1 - lv (kpt hs) e.2.1 ≤ e.2.2 := by
  intro e he
  rw [kpt_lv hl (i e he).1, kpt_lv hl (i e he).2]
  have := g e he
  omega
end K13

set_option maxRecDepth 100000
set_option maxHeartbeats 4000000
namespace K13
open PySem L2 VL
theorem Great.zero {D : List Ed} {n : Nat} {g : Ht} (G : Great D n g) (I : In n D) (hn : 0 < n) : ∃ x, x < n ∧ g x = 0 := by
  apply Classical.byContradiction
  intro no
  have neg : ∀ x, x < n → g x ≤ -1 := fun x hx => by
    have := G.neg x hx
    have : g x ≠ 0 := fun z => no ⟨x, hx, z⟩
    omega
  have := G.top (fun x => g x + 1) (fun e he => by have := G.feas e he; show g e.1 + 1 ≤ g e.2.1 + 1 + e.2.2; omega) (fun x hx => by have := neg x hx; show g x + 1 ≤ 0; omega) 0 hn
  omega
theorem fold_take1 {D : List Ed} {i : Nat} {e : Ed} (h : D[i]? = some e) (lv : Ht) : (D.take (i + 1)).foldl rl lv = rl ((D.take i).foldl rl lv) e := by
  rw [List.take_succ, h, List.foldl_append]
  rfl
/-- the rounds, told by what each does -/
theorem can_run {n m : Nat} {h : AHeap} {x4 : AV} {D : List Ed} {Q} (hd : viewT h x4 = some (dl' D)) (inn : In (m + 1) D) (hm : m ≤ 1000) (Iv : Nat → Ht → Prop) (i0 : Iv 0 fun _ => 0)
    (stay : ∀ lv, Feas D lv → Q (.bl true) h) (move : ∀ k lv, k < m + 2 → Iv k lv → (∀ x, m + 1 ≤ x → lv x = 0) → (∃ x, x < m + 1 ∧ rnd lv D x < lv x) → Iv (k + 1) (rnd lv D)) (fin : ∀ lv, Iv (m + 2) lv → Q (.bl false) h) :
    callN P (n+1) 13 [x4, .int (m : Int)] h Q := by
  refine ⟨rfl, ?_⟩
  have hz1 : sizeLine = 16777216 := rfl
  show WpSs (ctxOf P (callN P n)) b_law_can _ [.val x4, .val (.int (m : Int)), .no, .no, .no, .no, .no, .no, .no] h
  have e1 : ((m : Int) + 1).toNat = m + 1 := by omega
  have e2 : ((m : Int) + 2).toNat = m + 2 := by omega
  simp only [b_law_can, WpSs, WpS, WpE, WpEs, WpBs, WpO, WpN, WpI, WpC, WpT, getS, setS, tgK, setsS, wipeS, k_add, k_addT, k_sub, k_mul, k_fdiv, k_mod, k_neg, k_lt, k_le, k_gt, k_ge, k_eqI, k_neI, k_eqS, k_neS, k_eqB, k_neB, k_is, k_isn, isNon_non, isNon_int, isNon_str, isNon_lst, isNon_tup, isNon_adr, k_lenS, k_lenL, k_lenR, k_lenT, k_int, k_str, k_abs, tru_bl, augK, ctx_call, ctx_glob, k_in, k_nin, k_inS]
  refine ⟨⟨by omega, by omega⟩, by simp; omega, ?_⟩
  rw [e1]
  refine comp_ints (fun _ => 0) (fun i x R hx r => by simp only [if_true, WpSs, WpS, WpE, WpEs, WpBs, WpO, WpN, WpI, WpC, WpT, getS, setS, tgK, setsS, wipeS, k_add, k_addT, k_sub, k_mul, k_fdiv, k_mod, k_neg, k_lt, k_le, k_gt, k_ge, k_eqI, k_neI, k_eqS, k_neS, k_eqB, k_neB, k_is, k_isn, isNon_non, isNon_int, isNon_str, isNon_lst, isNon_tup, isNon_adr, k_lenS, k_lenL, k_lenR, k_lenT, k_int, k_str, k_abs, tru_bl, augK, ctx_call, ctx_glob, k_in, k_nin, k_inS]; exact r) ?_
  simp only [List.length_map, List.length_range]
  refine ⟨⟨by omega, by omega⟩, ?_⟩
  rw [e2]
  have z0 : hf ((List.range (m + 1)).map fun _ => (0 : Int)) = fun _ => 0 := by
    funext x
    unfold hf
    rw [List.getElem?_map]
    cases (List.range (m + 1))[x]? <;> rfl
  refine for_inv (fun k ρ h' => h' = h ∧ ∃ (ls : List Int) (s3 s4 s5 s6 s7 : Slot), ls.length = m + 1 ∧ Iv k (hf ls) ∧ ρ = [.val x4, .val (.int (m : Int)), .own (.lst (il ls)), s3, s4, s5, s6, s7, .no]) ⟨rfl, _, .no, .no, .no, .no, .no, by simp, by rw [z0]; exact i0, rfl⟩ (fun _ _ _ _ _ => by trivial) ?_ ?_
  · rintro k x _ h D' hx ⟨rfl, ls, s3, s4, s5, s6, s7, hl, hI, rfl⟩ kn kc kr kb
    obtain ⟨hk, rfl⟩ := items_range hx
    simp only [b_law_can_3, hd, WpSs, WpS, WpE, WpEs, WpBs, WpO, WpN, WpI, WpC, WpT, getS, setS, tgK, setsS, wipeS, k_add, k_addT, k_sub, k_mul, k_fdiv, k_mod, k_neg, k_lt, k_le, k_gt, k_ge, k_eqI, k_neI, k_eqS, k_neS, k_eqB, k_neB, k_is, k_isn, isNon_non, isNon_int, isNon_str, isNon_lst, isNon_tup, isNon_adr, k_lenS, k_lenL, k_lenR, k_lenT, k_int, k_str, k_abs, tru_bl, augK, ctx_call, ctx_glob, k_in, k_nin, k_inS]
    refine for_inv (fun i ρ h' => h' = h ∧ ∃ (ls' : List Int) (mv : Bool) (s5 s6 s7 : Slot), ls'.length = m + 1 ∧ hf ls' = (D.take i).foldl rl (hf ls) ∧ (mv = false → hf ls' = hf ls ∧ ∀ e ∈ D.take i, hf ls e.1 ≤ hf ls e.2.1 + e.2.2) ∧ (mv = true → ∃ x, x < m + 1 ∧ hf ls' x < hf ls x) ∧
      ρ = [.val x4, .val (.int (m : Int)), .own (.lst (il ls')), .val (.int (k : Int)), .val (.bl mv), s5, s6, s7, .no]) ⟨rfl, ls, false, _, _, _, hl, rfl, (fun _ => ⟨rfl, by simp⟩), (fun h => by cases h), rfl⟩ (fun _ _ _ _ z => by obtain ⟨rfl, _⟩ := z; exact hd) ?_ ?_
    · rintro i y _ h D2 hy ⟨rfl, ls', mv, s5, s6, s7, hl', hf', h1, h2, rfl⟩ kn2 kc2 kr2 kb2
      obtain ⟨e, he, rfl⟩ := items_map hy
      have ie := inn e (List.mem_of_getElem? he)
      have ft := fold_take1 he (hf ls)
      rw [← hf'] at ft
      have lx : e.1 < ls'.length := by omega
      have ly : e.2.1 < ls'.length := by omega
      simp only [ed, b_law_can_1, WpSs, WpS, WpE, WpEs, WpBs, WpO, WpN, WpI, WpC, WpT, getS, setS, tgK, setsS, wipeS, k_add, k_addT, k_sub, k_mul, k_fdiv, k_mod, k_neg, k_lt, k_le, k_gt, k_ge, k_eqI, k_neI, k_eqS, k_neS, k_eqB, k_neB, k_is, k_isn, isNon_non, isNon_int, isNon_str, isNon_lst, isNon_tup, isNon_adr, k_lenS, k_lenL, k_lenR, k_lenT, k_int, k_str, k_abs, tru_bl, augK, ctx_call, ctx_glob, k_in, k_nin, k_inS]
      refine k_subIl lx ?_
      refine k_subIl ly ?_
      rw [hf_get lx, hf_get ly]
      simp only [WpSs, WpS, WpE, WpEs, WpBs, WpO, WpN, WpI, WpC, WpT, getS, setS, tgK, setsS, wipeS, k_add, k_addT, k_sub, k_mul, k_fdiv, k_mod, k_neg, k_lt, k_le, k_gt, k_ge, k_eqI, k_neI, k_eqS, k_neS, k_eqB, k_neB, k_is, k_isn, isNon_non, isNon_int, isNon_str, isNon_lst, isNon_tup, isNon_adr, k_lenS, k_lenL, k_lenR, k_lenT, k_int, k_str, k_abs, tru_bl, augK, ctx_call, ctx_glob, k_in, k_nin, k_inS]
      refine ite_b (fun c => ?_) (fun c => ?_)
      · refine k_subIl ly ?_
        have ix : ixN (il ls').length (e.1 : Int) = some e.1 := by
          rw [List.length_map]
          exact Evl.ixN_nat lx
        rw [hf_get ly]
        simp only [putC, ix, set_int, WpSs, WpS, WpE, WpEs, WpBs, WpO, WpN, WpI, WpC, WpT, getS, setS, tgK, setsS, wipeS, k_add, k_addT, k_sub, k_mul, k_fdiv, k_mod, k_neg, k_lt, k_le, k_gt, k_ge, k_eqI, k_neI, k_eqS, k_neS, k_eqB, k_neB, k_is, k_isn, isNon_non, isNon_int, isNon_str, isNon_lst, isNon_tup, isNon_adr, k_lenS, k_lenL, k_lenR, k_lenT, k_int, k_str, k_abs, tru_bl, augK, ctx_call, ctx_glob, k_in, k_nin, k_inS]
        have hs := hf_set (v := hf ls' e.2.1 + e.2.2) lx
        have r1 : rl (hf ls') e = up (hf ls') e.1 (hf ls' e.2.1 + e.2.2) := by unfold rl; rw [if_pos (show hf ls' e.1 > _ from c)]
        refine kn2 _ _ ⟨rfl, ls'.set e.1 (hf ls' e.2.1 + e.2.2), true, _, _, _, by simp [hl'], by rw [hs, ft, r1], (fun z => by cases z), (fun _ => ⟨e.1, ie.1, ?_⟩), rfl⟩
        have le : hf ls' e.1 ≤ hf ls e.1 := by
          rw [hf']
          exact rnd_le (D.take i) (hf ls) e.1
        rw [hs]
        unfold up
        rw [if_pos rfl]
        omega
      · have r1 : rl (hf ls') e = hf ls' := by unfold rl; rw [if_neg (show ¬ hf ls' e.1 > _ from c)]
        refine kn2 _ _ ⟨rfl, ls', mv, _, _, _, hl', by rw [ft, r1], (fun z => ?_), h2, rfl⟩
        obtain ⟨a, b⟩ := h1 z
        refine ⟨a, fun d hd2 => ?_⟩
        rw [List.take_succ, he] at hd2
        rcases List.mem_append.mp hd2 with hd2 | hd2
        · exact b d hd2
        · have : d = e := by simpa using hd2
          subst this
          rw [← a]
          omega
    · rintro _ h ⟨rfl, ls', mv, s5, s6, s7, hl', hf', h1, h2, rfl⟩
      rw [List.length_map, List.take_length] at hf' h1
      simp only [b_law_can_2, WpSs, WpS, WpE, WpEs, WpBs, WpO, WpN, WpI, WpC, WpT, getS, setS, tgK, setsS, wipeS, k_add, k_addT, k_sub, k_mul, k_fdiv, k_mod, k_neg, k_lt, k_le, k_gt, k_ge, k_eqI, k_neI, k_eqS, k_neS, k_eqB, k_neB, k_is, k_isn, isNon_non, isNon_int, isNon_str, isNon_lst, isNon_tup, isNon_adr, k_lenS, k_lenL, k_lenR, k_lenT, k_int, k_str, k_abs, tru_bl, augK, ctx_call, ctx_glob, k_in, k_nin, k_inS]
      cases mv with
      | false =>
        simp only [Bool.not_false, if_true, WpSs, WpS, WpE, WpEs, WpBs, WpO, WpN, WpI, WpC, WpT, getS, setS, tgK, setsS, wipeS, k_add, k_addT, k_sub, k_mul, k_fdiv, k_mod, k_neg, k_lt, k_le, k_gt, k_ge, k_eqI, k_neI, k_eqS, k_neS, k_eqB, k_neB, k_is, k_isn, isNon_non, isNon_int, isNon_str, isNon_lst, isNon_tup, isNon_adr, k_lenS, k_lenL, k_lenR, k_lenT, k_int, k_str, k_abs, tru_bl, augK, ctx_call, ctx_glob, k_in, k_nin, k_inS]
        exact kr _ _ (stay (hf ls) (h1 rfl).2)
      | true =>
        simp only [Bool.not_true, Bool.false_eq_true, if_false, WpSs, WpS, WpE, WpEs, WpBs, WpO, WpN, WpI, WpC, WpT, getS, setS, tgK, setsS, wipeS, k_add, k_addT, k_sub, k_mul, k_fdiv, k_mod, k_neg, k_lt, k_le, k_gt, k_ge, k_eqI, k_neI, k_eqS, k_neS, k_eqB, k_neB, k_is, k_isn, isNon_non, isNon_int, isNon_str, isNon_lst, isNon_tup, isNon_adr, k_lenS, k_lenL, k_lenR, k_lenT, k_int, k_str, k_abs, tru_bl, augK, ctx_call, ctx_glob, k_in, k_nin, k_inS]
        have out : ∀ x, m + 1 ≤ x → hf ls x = 0 := fun x hx => by unfold hf; rw [List.getElem?_eq_none (by omega)]; rfl
        have mv := h2 rfl
        rw [hf'] at mv
        refine kn _ _ ⟨rfl, ls', _, _, _, _, _, hl', ?_, rfl⟩
        rw [hf']
        exact move k (hf ls) hk hI out mv
  · rintro _ h ⟨rfl, ls, s3, s4, s5, s6, s7, hl, hI, rfl⟩
    simp only [List.length_map, List.length_range] at hI
    simp only [b_law_can_4, WpSs, WpS, WpE, WpEs, WpBs, WpO, WpN, WpI, WpC, WpT, getS, setS, tgK, setsS, wipeS, k_add, k_addT, k_sub, k_mul, k_fdiv, k_mod, k_neg, k_lt, k_le, k_gt, k_ge, k_eqI, k_neI, k_eqS, k_neS, k_eqB, k_neB, k_is, k_isn, isNon_non, isNon_int, isNon_str, isNon_lst, isNon_tup, isNon_adr, k_lenS, k_lenL, k_lenR, k_lenT, k_int, k_str, k_abs, tru_bl, augK, ctx_call, ctx_glob, k_in, k_nin, k_inS]
    exact fin _ hI
theorem can_false {n m : Nat} {h : AHeap} {x4 : AV} {D : List Ed} {Q} (hd : viewT h x4 = some (dl' D)) (inn : In (m + 1) D) (hm : m ≤ 1000) (no : ∀ lv, ¬ Feas D lv) (q : Q (.bl false) h) : callN P (n+1) 13 [x4, .int (m : Int)] h Q :=
  can_run hd inn hm (fun _ _ => True) trivial (fun lv f => (no lv f).elim) (fun _ _ _ _ _ _ => trivial) fun _ _ => q
theorem can_true {n m : Nat} {h : AHeap} {x4 : AV} {D : List Ed} {hs : List Int} {Q} (hd : viewT h x4 = some (dl' D)) (inn : In (m + 1) D) (hm : m ≤ 1000) (hl : hs.length = m + 1) (g : Great D (m + 1) (hf hs)) (q : Q (.bl true) h) : callN P (n+1) 13 [x4, .int (m : Int)] h Q := by
  have out : ∀ x, m + 1 ≤ x → hf hs x = 0 := fun x hx => by unfold hf; rw [List.getElem?_eq_none (by omega)]; rfl
  refine can_run hd inn hm (fun k lv => k + 1 ≤ sett (m + 1) lv (hf hs) ∧ (∀ x, hf hs x ≤ lv x) ∧ ∀ x, x < m + 1 → lv x ≤ 0) ⟨?_, fun x => ?_, fun _ _ => Int.le_refl _⟩ (fun _ _ => q) ?_ ?_
  · obtain ⟨x, hx, hz⟩ := g.zero inn (Nat.succ_pos _)
    have := sett_more (n := m + 1) (lv := fun y => hf hs y + 1) (lv' := fun _ => 0) (g := hf hs) (fun y _ e => by exfalso; have e : hf hs y + 1 = hf hs y := e; omega) hx (by show hf hs x + 1 ≠ _; omega) (by show (0 : Int) = _; omega)
    omega
  · by_cases c : x < m + 1
    · exact g.neg x c
    · rw [out x (by omega)]; exact Int.le_refl _
  · rintro k lv hk ⟨h1, h2, h3⟩ ho ⟨x, hx, hlt⟩
    have ge := rnd_ge g.feas h2
    have := ge x
    have more := rnd_more g inn h2 h3 ⟨x, hx, by omega⟩
    exact ⟨by omega, ge, fun y hy => Int.le_trans (rnd_le D lv y) (h3 y hy)⟩
  · rintro lv ⟨h1, _, _⟩
    have := sett_le (m + 1) lv (hf hs)
    omega
end K13

set_option maxRecDepth 100000
set_option maxHeartbeats 4000000
namespace K13
open PySem L2 VL
theorem go_feas {D : List Ed} {g : Ht} (f : Feas D g) : ∀ {ns : List Int} {l w : Nat} {t s : Int}, go D l t ns = some (w, s) → g l - g w ≤ s - t
  | [], l, w, t, s, h => by cases h; omega
  | x :: r, l, w, t, s, h => by
    unfold go at h
    cases hx : D[x.toNat]? with
    | none => rw [hx] at h; cases h
    | some e =>
      rw [hx] at h
      have h : (if e.1 = l then go D e.2.1 (t + e.2.2) r else none) = some (w, s) := h
      by_cases c : e.1 = l
      · rw [if_pos c] at h
        have := go_feas f h
        have := f e (List.mem_of_getElem? hx)
        rw [c] at this
        omega
      · rw [if_neg c] at h; cases h
theorem Ring.no {D : List Ed} {m : Nat} {ring : List Int} (r : Ring D m ring) : ∀ lv, ¬ Feas D lv := by
  intro lv f
  obtain ⟨w, s, h, hs⟩ := r.sum
  have := go_feas f h
  omega
theorem Ring.cs {D : List Ed} {m : Nat} {ring : List Int} (r : Ring D m ring) : ∃ w s, CS D ring = some (w, w, s) ∧ s < 0 := by
  obtain ⟨w, s, h, hs⟩ := r.sum
  have pos := r.pos
  have inr := r.inr
  cases ring with
  | nil => cases pos
  | cons x l =>
    cases hx : D[x.toNat]? with
    | none => unfold go at h; rw [hx] at h; cases h
    | some e =>
      have h' := h
      unfold go at h'
      rw [hx] at h'
      have h' : (if e.1 = w then go D e.2.1 (0 + e.2.2) l else none) = some (w, s) := h'
      have c : e.1 = w := by
        by_cases c : e.1 = w
        · exact c
        · rw [if_neg c] at h'; cases h'
      refine ⟨w, s, ?_, hs⟩
      rw [cs_in inr pos hx, c, h]
      rfl
theorem is_ring_ok {n m : Nat} {h : AHeap} {x4 : AV} {D : List Ed} {ring : List Int} {Q} (hd : viewT h x4 = some (dl' D)) (hdn : ∀ z, x4 ≠ .str z) (hm : m ≤ 100) (r : Ring D m ring) (q : Q (.bl true) h) : callN P (n+2) 14 [x4, .tup (il ring)] h Q := by
  refine ⟨rfl, ?_⟩
  have hz1 : sizeLine = 16777216 := rfl
  have len := r.len
  obtain ⟨w, s, hcs, hs⟩ := r.cs
  show WpSs (ctxOf P (callN P (n+1))) b_law_is_ring _ [.val x4, .val (.tup (il ring)), .no, .no] h
  simp only [b_law_is_ring, WpSs, WpS, WpE, WpEs, WpBs, WpO, WpN, WpI, WpC, WpT, getS, setS, tgK, setsS, wipeS, k_add, k_addT, k_sub, k_mul, k_fdiv, k_mod, k_neg, k_lt, k_le, k_gt, k_ge, k_eqI, k_neI, k_eqS, k_neS, k_eqB, k_neB, k_is, k_isn, isNon_non, isNon_int, isNon_str, isNon_lst, isNon_tup, isNon_adr, k_lenS, k_lenL, k_lenR, k_lenT, k_int, k_str, k_abs, tru_bl, augK, ctx_call, ctx_glob, k_in, k_nin, k_inS]
  refine .inl ⟨rfl, ?_⟩
  simp only [Bool.not_true, Bool.false_eq_true, if_false, viewT_tup, WpSs, WpS, WpE, WpEs, WpBs, WpO, WpN, WpI, WpC, WpT, getS, setS, tgK, setsS, wipeS, k_add, k_addT, k_sub, k_mul, k_fdiv, k_mod, k_neg, k_lt, k_le, k_gt, k_ge, k_eqI, k_neI, k_eqS, k_neS, k_eqB, k_neB, k_is, k_isn, isNon_non, isNon_int, isNon_str, isNon_lst, isNon_tup, isNon_adr, k_lenS, k_lenL, k_lenR, k_lenT, k_int, k_str, k_abs, tru_bl, augK, ctx_call, ctx_glob, k_in, k_nin, k_inS]
  refine ⟨by rw [List.length_map]; omega, ?_⟩
  refine comp_map (fun _ => .bl true) ?_ ?_
  · intro i x R hx k
    obtain ⟨a, ha, rfl⟩ := items_map hx
    simp only [if_true, WpSs, WpS, WpE, WpEs, WpBs, WpO, WpN, WpI, WpC, WpT, getS, setS, tgK, setsS, wipeS, k_add, k_addT, k_sub, k_mul, k_fdiv, k_mod, k_neg, k_lt, k_le, k_gt, k_ge, k_eqI, k_neI, k_eqS, k_neS, k_eqB, k_neB, k_is, k_isn, isNon_non, isNon_int, isNon_str, isNon_lst, isNon_tup, isNon_adr, k_lenS, k_lenL, k_lenR, k_lenT, k_int, k_str, k_abs, tru_bl, augK, ctx_call, ctx_glob, k_in, k_nin, k_inS]
    exact integer_ok k
  · have e : (List.range (il ring).length).map (fun _ => AV.bl true) = ((List.range (il ring).length).map fun _ => true).map AV.bl := by rw [List.map_map]; rfl
    rw [e]
    refine k_all ?_
    have a : ((List.range (il ring).length).map fun _ => true).all id = true := by
      rw [List.all_map]
      exact List.all_eq_true.mpr fun _ _ => rfl
    rw [a]
    simp only [Bool.not_true, Bool.false_eq_true, if_false, b_law_is_ring_1, WpSs, WpS, WpE, WpEs, WpBs, WpO, WpN, WpI, WpC, WpT, getS, setS, tgK, setsS, wipeS, k_add, k_addT, k_sub, k_mul, k_fdiv, k_mod, k_neg, k_lt, k_le, k_gt, k_ge, k_eqI, k_neI, k_eqS, k_neS, k_eqB, k_neB, k_is, k_isn, isNon_non, isNon_int, isNon_str, isNon_lst, isNon_tup, isNon_adr, k_lenS, k_lenL, k_lenR, k_lenT, k_int, k_str, k_abs, tru_bl, augK, ctx_call, ctx_glob, k_in, k_nin, k_inS]
    refine law_sum_ok hd hdn viewT_tup (fun _ h => by cases h) (by omega) ?_
    rw [hcs]
    simp only [oa, ed, Bool.not_false, WpSs, WpS, WpE, WpEs, WpBs, WpO, WpN, WpI, WpC, WpT, getS, setS, tgK, setsS, wipeS, k_add, k_addT, k_sub, k_mul, k_fdiv, k_mod, k_neg, k_lt, k_le, k_gt, k_ge, k_eqI, k_neI, k_eqS, k_neS, k_eqB, k_neB, k_is, k_isn, isNon_non, isNon_int, isNon_str, isNon_lst, isNon_tup, isNon_adr, k_lenS, k_lenL, k_lenR, k_lenT, k_int, k_str, k_abs, tru_bl, augK, ctx_call, ctx_glob, k_in, k_nin, k_inS]
    refine k_ed0 (e := (w, w, s)) ?_
    refine k_ed1 (e := (w, w, s)) ?_
    simp only [decide_true, WpSs, WpS, WpE, WpEs, WpBs, WpO, WpN, WpI, WpC, WpT, getS, setS, tgK, setsS, wipeS, k_add, k_addT, k_sub, k_mul, k_fdiv, k_mod, k_neg, k_lt, k_le, k_gt, k_ge, k_eqI, k_neI, k_eqS, k_neS, k_eqB, k_neB, k_is, k_isn, isNon_non, isNon_int, isNon_str, isNon_lst, isNon_tup, isNon_adr, k_lenS, k_lenL, k_lenR, k_lenT, k_int, k_str, k_abs, tru_bl, augK, ctx_call, ctx_glob, k_in, k_nin, k_inS]
    refine k_ed2 (e := (w, w, s)) ?_
    have d : decide (s < 0) = true := decide_eq_true hs
    simp only [d, WpSs, WpS, WpE, WpEs, WpBs, WpO, WpN, WpI, WpC, WpT, getS, setS, tgK, setsS, wipeS, k_add, k_addT, k_sub, k_mul, k_fdiv, k_mod, k_neg, k_lt, k_le, k_gt, k_ge, k_eqI, k_neI, k_eqS, k_neS, k_eqB, k_neB, k_is, k_isn, isNon_non, isNon_int, isNon_str, isNon_lst, isNon_tup, isNon_adr, k_lenS, k_lenL, k_lenR, k_lenT, k_int, k_str, k_abs, tru_bl, augK, ctx_call, ctx_glob, k_in, k_nin, k_inS]
    exact q
end K13

set_option maxRecDepth 100000
set_option maxHeartbeats 4000000
namespace K13
open PySem L2 VL
def EOk (m : Nat) (b : Int) (es : List Ed) : Prop := ∀ e ∈ es, e.1 ≤ m ∧ e.2.1 ≤ m
def keepB (vs : List Int) (e : Ed) : Bool := decide (lv vs e.1 - lv vs e.2.1 ≤ e.2.2)
theorem k_lv {h : AHeap} {vs : List Int} {u : Nat} {Q : KA} (hu : u ≤ vs.length) (q : Q (.int (lv vs u))) : subK h (.lst (il (0 :: vs))) (.int (u : Int)) Q := by
  have hl : u < (0 :: vs).length := by simp; omega
  refine k_subIl (ns := 0 :: vs) hl ?_
  have : lv vs u = (0 :: vs)[u] := by
    unfold lv
    rw [List.getElem?_eq_getElem hl]; rfl
  rw [← this]
  exact q
theorem law_kept_ok {n : Nat} {vs : List Int} {es : List Ed} {b : Int} {x4 y5 : AV} {h : AHeap} {Q} (hd : viewT h x4 = some (dl' es)) (hw : viewW h y5 = some (il vs)) (ho : EOk vs.length b es) (hz : vs.length ≤ 1000) (hz2 : es.length ≤ 1000) (q : Q (.bl (es.all (keepB vs))) h) : callN P (n+1) 11 [x4, y5] h Q := by
  refine ⟨rfl, ?_⟩
  show WpSs (ctxOf P (callN P n)) b_law_kept _ [.val x4, .val y5, .no, .no, .no, .no] h
  have hz1 : sizeLine = 16777216 := rfl
  have e0 : [AV.int 0] ++ il vs = il (0 :: vs) := rfl
  simp only [b_law_kept, hd, hw, viewW_lst, e0, List.length_map, WpSs, WpS, WpE, WpEs, WpBs, WpO, WpN, WpI, WpC, WpT, getS, setS, tgK, setsS, wipeS, k_add, k_addT, k_sub, k_mul, k_fdiv, k_mod, k_neg, k_lt, k_le, k_gt, k_ge, k_eqI, k_neI, k_eqS, k_neS, k_eqB, k_neB, k_is, k_isn, isNon_non, isNon_int, isNon_str, isNon_lst, isNon_tup, isNon_adr, k_lenS, k_lenL, k_lenR, k_lenT, k_int, k_str, k_abs, tru_bl, augK, ctx_call, ctx_glob, k_in, k_nin, k_inS]
  refine ⟨by show 1 ≤ _; omega, by show 1 + vs.length ≤ _; omega, by omega, ?_⟩
  refine comp_inv (fun i acc h' => h' = h ∧ acc = ((es.take i).map (keepB vs)).map AV.bl) ⟨rfl, rfl⟩ (fun _ _ _ _ k => by obtain ⟨rfl, _⟩ := k; first | trivial | exact hd) ?_ ?_
  · rintro i x _ _ R hx ⟨rfl, rfl⟩ k1 k2
    obtain ⟨e, he, rfl⟩ := items_map hx
    have hb := ho e (List.mem_of_getElem? he)
    simp only [ed, if_true, WpSs, WpS, WpE, WpEs, WpBs, WpO, WpN, WpI, WpC, WpT, getS, setS, tgK, setsS, wipeS, k_add, k_addT, k_sub, k_mul, k_fdiv, k_mod, k_neg, k_lt, k_le, k_gt, k_ge, k_eqI, k_neI, k_eqS, k_neS, k_eqB, k_neB, k_is, k_isn, isNon_non, isNon_int, isNon_str, isNon_lst, isNon_tup, isNon_adr, k_lenS, k_lenL, k_lenR, k_lenT, k_int, k_str, k_abs, tru_bl, augK, ctx_call, ctx_glob, k_in, k_nin, k_inS]
    refine k_lv hb.1 ?_
    refine k_lv hb.2 ?_
    refine k1 _ _ ⟨rfl, ?_⟩
    rw [List.take_succ, he]
    simp [keepB]
  · rintro _ _ ⟨rfl, rfl⟩
    refine k_all ?_
    rw [List.length_map, List.take_length, List.all_map]
    exact q
end K13

set_option maxRecDepth 100000
set_option maxHeartbeats 4000000
namespace K13
open PySem L2 VL
def pe (e : Ed) : PyData := .tuple [.int (e.1 : Int), .int (e.2.1 : Int), .int e.2.2]
theorem pds_dl (D : List Ed) : pds (dl' D) = some (D.map pe) := by
  induction D with
  | nil => rfl
  | cons e D ih =>
    have : pds (ed e :: dl' D) = (pd (ed e)).bind fun d => (pds (dl' D)).map (d :: ·) := by rw [pds]
    show pds (ed e :: dl' D) = _
    rw [this, ih]
    rfl
theorem sh_dl (D : List Ed) : PyData.canLayAll0 (D.map pe) = true ∧ PyData.depthAll (D.map pe) ≤ 1 ∧ PyData.eqvAll (D.map pe) (D.map pe) = true := by
  induction D with
  | nil => exact ⟨rfl, Nat.zero_le _, rfl⟩
  | cons e D ih =>
    obtain ⟨a, b, c⟩ := ih
    refine ⟨?_, ?_, ?_⟩
    · simp only [List.map_cons, PyData.canLayAll0, pe, PyData.canLay0, Bool.and_self]
      exact a
    · simp only [List.map_cons, PyData.depthAll, pe, PyData.depth]
      exact Nat.max_le.mpr ⟨by decide, b⟩
    · simp only [List.map_cons, PyData.eqvAll, pe, PyData.eqv, beq_self_eq_true, Bool.and_self, Bool.true_and]
      exact c
theorem k_neD {h : AHeap} {a b : Nat} {D : List Ed} {Q : KA} (ha : cells h a = .lst (dl' D)) (hb : cells h b = .lst (dl' D)) (q : Q (.bl false)) : cmpK h .NotEq (.adr a) (.adr b) Q := by
  show eqGen h true (.adr a) (.adr b) Q
  obtain ⟨s1, s2, s3⟩ := sh_dl D
  have pa : pdH h (.adr a) = some (.list (D.map pe)) := by simp only [pdH, ha, pds_dl, Option.map_some]
  have pb : pdH h (.adr b) = some (.list (D.map pe)) := by simp only [pdH, hb, pds_dl, Option.map_some]
  have sh : SeqAt.shaped (.list (D.map pe)) = true := by
    have d : (PyData.list (D.map pe)).depth ≤ 64 := by
      simp only [PyData.depth]
      omega
    unfold SeqAt.shaped
    rw [Bool.and_eq_true]
    exact ⟨by simp only [PyData.canLay0]; exact s1, decide_eq_true d⟩
  have ev : PyData.eqv (.list (D.map pe)) (.list (D.map pe)) = true := by simp only [PyData.eqv]; exact s3
  unfold eqGen
  simp only [pa, pb, ev]
  exact ⟨sh, sh, q⟩
end K13

set_option maxRecDepth 100000
set_option maxHeartbeats 4000000
namespace K13
open PySem L2 VL
/-- only more -/
structure Ext (h h' : AHeap) : Prop where
  len : h.length ≤ h'.length
  keep : ∀ a, a < h.length → cells h' a = cells h a
theorem Ext.refl (h : AHeap) : Ext h h := ⟨Nat.le_refl _, fun _ _ => rfl⟩
theorem Ext.hob {h h' : AHeap} {o : Ob} {m : Nat} {D : List Ed} {hs : List Int} (x : Ext h h') (a : Hob h o m D hs) : Hob h' o m D hs := a.frame fun b hb => x.keep b (a.lt b hb)
theorem isi_cell {h : AHeap} {n : Nat} {xs : List AV} {Q : KA} (e : cells h n = .lst xs) (q : Q (.bl true)) : isiK (.adr n) "list" h Q := by
  have v : view h (.adr n) = some xs := by simp only [view, e]
  unfold isiK
  split <;> simp_all
theorem fits_ok {n m b : Nat} {h : AHeap} {o : Ob} {D : List Ed} {hs : List Int} {Q} (hob : Hob h o m D hs) (g : Great D (m + 1) (hf hs)) (hb : cells h b = .lst (dl' D)) (hm : m ≤ 12) (hD : D.length ≤ 30) (q : ∀ h', Ext h h' → Q (.bl true) h') :
    callN P (n+2) 15 [.adr o.a, .adr b, .int (m : Int)] h Q := by
  refine ⟨rfl, ?_⟩
  have hz1 : sizeLine = 16777216 := rfl
  have ka := hob.at_
  have hl := hob.hl
  show WpSs (ctxOf P (callN P (n+1))) b_law_fits _ [.val (.adr o.a), .val (.adr b), .val (.int (m : Int)), .no, .no, .no, .no, .no, .no, .no] h
  simp only [b_law_fits, ka, lkD, fldH "differences" rfl, true_and, WpSs, WpS, WpE, WpEs, WpBs, WpO, WpN, WpI, WpC, WpT, getS, setS, tgK, setsS, wipeS, k_add, k_addT, k_sub, k_mul, k_fdiv, k_mod, k_neg, k_lt, k_le, k_gt, k_ge, k_eqI, k_neI, k_eqS, k_neS, k_eqB, k_neB, k_is, k_isn, isNon_non, isNon_int, isNon_str, isNon_lst, isNon_tup, isNon_adr, k_lenS, k_lenL, k_lenR, k_lenT, k_int, k_str, k_abs, tru_bl, augK, ctx_call, ctx_glob, k_in, k_nin, k_inS]
  refine isi_cell hob.dd ?_
  simp only [Bool.not_true, Bool.false_eq_true, if_false, ka, lkD, fldH "differences" rfl, true_and, WpSs, WpS, WpE, WpEs, WpBs, WpO, WpN, WpI, WpC, WpT, getS, setS, tgK, setsS, wipeS, k_add, k_addT, k_sub, k_mul, k_fdiv, k_mod, k_neg, k_lt, k_le, k_gt, k_ge, k_eqI, k_neI, k_eqS, k_neS, k_eqB, k_neB, k_is, k_isn, isNon_non, isNon_int, isNon_str, isNon_lst, isNon_tup, isNon_adr, k_lenS, k_lenL, k_lenR, k_lenT, k_int, k_str, k_abs, tru_bl, augK, ctx_call, ctx_glob, k_in, k_nin, k_inS]
  refine k_neD hob.dd hb ?_
  have hvb := view_adr hb
  simp only [Bool.false_eq_true, if_false, b_law_fits_5, hvb, WpSs, WpS, WpE, WpEs, WpBs, WpO, WpN, WpI, WpC, WpT, getS, setS, tgK, setsS, wipeS, k_add, k_addT, k_sub, k_mul, k_fdiv, k_mod, k_neg, k_lt, k_le, k_gt, k_ge, k_eqI, k_neI, k_eqS, k_neS, k_eqB, k_neB, k_is, k_isn, isNon_non, isNon_int, isNon_str, isNon_lst, isNon_tup, isNon_adr, k_lenS, k_lenL, k_lenR, k_lenT, k_int, k_str, k_abs, tru_bl, augK, ctx_call, ctx_glob, k_in, k_nin, k_inS]
  refine ⟨by rw [List.length_map]; omega, ?_⟩
  refine comp_inv (fun i acc h' => h' = h ∧ acc = il ((D.take i).map fun e => absI e.2.2)) ⟨rfl, rfl⟩ (fun _ _ _ _ z => by obtain ⟨rfl, _⟩ := z; exact hvb) ?_ ?_
  · rintro i x _ _ R hx ⟨rfl, rfl⟩ k1 k2
    obtain ⟨e, he, rfl⟩ := items_map hx
    simp only [ed, if_true, WpSs, WpS, WpE, WpEs, WpBs, WpO, WpN, WpI, WpC, WpT, getS, setS, tgK, setsS, wipeS, k_add, k_addT, k_sub, k_mul, k_fdiv, k_mod, k_neg, k_lt, k_le, k_gt, k_ge, k_eqI, k_neI, k_eqS, k_neS, k_eqB, k_neB, k_is, k_isn, isNon_non, isNon_int, isNon_str, isNon_lst, isNon_tup, isNon_adr, k_lenS, k_lenL, k_lenR, k_lenT, k_int, k_str, k_abs, tru_bl, augK, ctx_call, ctx_glob, k_in, k_nin, k_inS]
    refine k1 _ _ ⟨rfl, ?_⟩
    rw [List.take_succ, he, List.map_append]
    exact int_one _ _
  rintro _ h ⟨rfl, rfl⟩
  rw [List.length_map, List.take_length]
  refine k_sum ?_
  have er : ((D.map fun e => absI e.2.2).sum) = room D := rfl
  rw [er]
  refine ⟨⟨by decide, by decide⟩, ?_⟩
  refine for_inv (fun i ρ h' => Ext h h' ∧ ∃ s4 s5, ρ = [.val (.adr o.a), .val (.adr b), .val (.int (m : Int)), .val (.int (room D)), s4, s5, .no, .no, .no, .no]) ⟨.refl h, _, _, rfl⟩ (fun _ _ _ _ _ => by trivial) ?_ ?_
  · rintro i x _ h2 D2 hx ⟨ext, s4, s5, rfl⟩ kn kc kr kb
    have hob2 := ext.hob hob
    have ka2 := hob2.at_
    have no : ([("many", AV.int (m : Int)), ("differences", .adr o.d), ("heights", .adr o.hh), ("under", .adr o.uu)] : List (Str × AV)).lookup ("kept" : Str) = none := rfl
    have me : (ctxOf P (callN P (n+1))).meth 0 "kept" = some 8 := rfl
    simp only [b_law_fits_3, ka2, no, me, WpSs, WpS, WpE, WpEs, WpBs, WpO, WpN, WpI, WpC, WpT, getS, setS, tgK, setsS, wipeS, k_add, k_addT, k_sub, k_mul, k_fdiv, k_mod, k_neg, k_lt, k_le, k_gt, k_ge, k_eqI, k_neI, k_eqS, k_neS, k_eqB, k_neB, k_is, k_isn, isNon_non, isNon_int, isNon_str, isNon_lst, isNon_tup, isNon_adr, k_lenS, k_lenL, k_lenR, k_lenT, k_int, k_str, k_abs, tru_bl, augK, ctx_call, ctx_glob, k_in, k_nin, k_inS]
    refine kept_ok hob2 (by omega) ?_
    have hc := cells_last h2 (.lst (il (kpt hs)))
    have hbl : b < h.length := cells_ne (by rw [hb]; intro z; cases z)
    have hb3 : cells (h2 ++ [.lst (il (kpt hs))]) b = .lst (dl' D) := (cells_app (Nat.lt_of_lt_of_le hbl ext.len)).trans ((ext.keep b hbl).trans hb)
    have hv := view_adr hc
    have kl := kpt_len hs
    refine isi_cell hc ?_
    simp only [Bool.not_true, Bool.false_eq_true, if_false, WpSs, WpS, WpE, WpEs, WpBs, WpO, WpN, WpI, WpC, WpT, getS, setS, tgK, setsS, wipeS, k_add, k_addT, k_sub, k_mul, k_fdiv, k_mod, k_neg, k_lt, k_le, k_gt, k_ge, k_eqI, k_neI, k_eqS, k_neS, k_eqB, k_neB, k_is, k_isn, isNon_non, isNon_int, isNon_str, isNon_lst, isNon_tup, isNon_adr, k_lenS, k_lenL, k_lenR, k_lenT, k_int, k_str, k_abs, tru_bl, augK, ctx_call, ctx_glob, k_in, k_nin, k_inS]
    refine k_lenV hv (fun _ h => by cases h) ?_
    have dm : decide (((il (kpt hs)).length : Int) = (m : Int)) = true := decide_eq_true (by rw [List.length_map, kl]; omega)
    simp only [dm, Bool.not_true, Bool.false_eq_true, if_false, hv, WpSs, WpS, WpE, WpEs, WpBs, WpO, WpN, WpI, WpC, WpT, getS, setS, tgK, setsS, wipeS, k_add, k_addT, k_sub, k_mul, k_fdiv, k_mod, k_neg, k_lt, k_le, k_gt, k_ge, k_eqI, k_neI, k_eqS, k_neS, k_eqB, k_neB, k_is, k_isn, isNon_non, isNon_int, isNon_str, isNon_lst, isNon_tup, isNon_adr, k_lenS, k_lenL, k_lenR, k_lenT, k_int, k_str, k_abs, tru_bl, augK, ctx_call, ctx_glob, k_in, k_nin, k_inS]
    refine ⟨by rw [List.length_map]; omega, ?_⟩
    refine comp_inv (fun i acc h' => h' = h2 ++ [.lst (il (kpt hs))] ∧ acc = ((List.range i).map fun _ => true).map AV.bl) ⟨rfl, rfl⟩ (fun _ _ _ _ z => by obtain ⟨rfl, _⟩ := z; exact hv) ?_ ?_
    · rintro i x _ _ R hx ⟨rfl, rfl⟩ k1 k2
      obtain ⟨a, ha, rfl⟩ := items_map hx
      simp only [if_true, WpSs, WpS, WpE, WpEs, WpBs, WpO, WpN, WpI, WpC, WpT, getS, setS, tgK, setsS, wipeS, k_add, k_addT, k_sub, k_mul, k_fdiv, k_mod, k_neg, k_lt, k_le, k_gt, k_ge, k_eqI, k_neI, k_eqS, k_neS, k_eqB, k_neB, k_is, k_isn, isNon_non, isNon_int, isNon_str, isNon_lst, isNon_tup, isNon_adr, k_lenS, k_lenL, k_lenR, k_lenT, k_int, k_str, k_abs, tru_bl, augK, ctx_call, ctx_glob, k_in, k_nin, k_inS]
      refine integer_ok (k1 _ _ ⟨rfl, ?_⟩)
      rw [List.range_succ, List.map_append, List.map_append]; rfl
    rintro _ _ ⟨rfl, rfl⟩
    refine k_all ?_
    have tt : ∀ j : Nat, ((List.range j).map fun _ => true).all id = true := fun j => by
      rw [List.all_map]
      exact List.all_eq_true.mpr fun _ _ => rfl
    simp only [tt, Bool.not_true, Bool.false_eq_true, if_false, b_law_fits_2, WpSs, WpS, WpE, WpEs, WpBs, WpO, WpN, WpI, WpC, WpT, getS, setS, tgK, setsS, wipeS, k_add, k_addT, k_sub, k_mul, k_fdiv, k_mod, k_neg, k_lt, k_le, k_gt, k_ge, k_eqI, k_neI, k_eqS, k_neS, k_eqB, k_neB, k_is, k_isn, isNon_non, isNon_int, isNon_str, isNon_lst, isNon_tup, isNon_adr, k_lenS, k_lenL, k_lenR, k_lenT, k_int, k_str, k_abs, tru_bl, augK, ctx_call, ctx_glob, k_in, k_nin, k_inS]
    have hw : viewW (h2 ++ [.lst (il (kpt hs))]) (.adr h2.length) = some (il (kpt hs)) := by simp only [viewW, hc]
    have ek : EOk (kpt hs).length 0 D := fun e he => by
      have := hob.inn e he
      rw [kl]
      omega
    refine law_kept_ok (view_adr hb3) hw ek (by omega) (by omega) ?_
    have al : D.all (keepB (kpt hs)) = true := List.all_eq_true.mpr fun e he => decide_eq_true (kpt_keeps g.feas hob.inn hl e he)
    simp only [al, Bool.not_true, Bool.false_eq_true, if_false, hv, WpSs, WpS, WpE, WpEs, WpBs, WpO, WpN, WpI, WpC, WpT, getS, setS, tgK, setsS, wipeS, k_add, k_addT, k_sub, k_mul, k_fdiv, k_mod, k_neg, k_lt, k_le, k_gt, k_ge, k_eqI, k_neI, k_eqS, k_neS, k_eqB, k_neB, k_is, k_isn, isNon_non, isNon_int, isNon_str, isNon_lst, isNon_tup, isNon_adr, k_lenS, k_lenL, k_lenR, k_lenT, k_int, k_str, k_abs, tru_bl, augK, ctx_call, ctx_glob, k_in, k_nin, k_inS]
    refine ⟨by rw [List.length_map]; omega, ?_⟩
    refine comp_inv (fun i acc h' => h' = h2 ++ [.lst (il (kpt hs))] ∧ acc = ((List.range i).map fun _ => true).map AV.bl) ⟨rfl, rfl⟩ (fun _ _ _ _ z => by obtain ⟨rfl, _⟩ := z; exact hv) ?_ ?_
    · rintro i x _ _ R hx ⟨rfl, rfl⟩ k1 k2
      obtain ⟨a, ha, rfl⟩ := items_map hx
      have bd := kpt_bd g hob.inn hl a (List.mem_of_getElem? ha)
      have da : decide ((if a < 0 then -a else a) ≤ room D) = true := decide_eq_true (by split <;> omega)
      simp only [if_true, da, WpSs, WpS, WpE, WpEs, WpBs, WpO, WpN, WpI, WpC, WpT, getS, setS, tgK, setsS, wipeS, k_add, k_addT, k_sub, k_mul, k_fdiv, k_mod, k_neg, k_lt, k_le, k_gt, k_ge, k_eqI, k_neI, k_eqS, k_neS, k_eqB, k_neB, k_is, k_isn, isNon_non, isNon_int, isNon_str, isNon_lst, isNon_tup, isNon_adr, k_lenS, k_lenL, k_lenR, k_lenT, k_int, k_str, k_abs, tru_bl, augK, ctx_call, ctx_glob, k_in, k_nin, k_inS]
      refine k1 _ _ ⟨rfl, ?_⟩
      rw [List.range_succ, List.map_append, List.map_append]; rfl
    rintro _ _ ⟨rfl, rfl⟩
    refine k_all ?_
    simp only [tt, Bool.not_true, Bool.false_eq_true, if_false, b_law_fits_1, hc, appC, set_last, WpSs, WpS, WpE, WpEs, WpBs, WpO, WpN, WpI, WpC, WpT, getS, setS, tgK, setsS, wipeS, k_add, k_addT, k_sub, k_mul, k_fdiv, k_mod, k_neg, k_lt, k_le, k_gt, k_ge, k_eqI, k_neI, k_eqS, k_neS, k_eqB, k_neB, k_is, k_isn, isNon_non, isNon_int, isNon_str, isNon_lst, isNon_tup, isNon_adr, k_lenS, k_lenL, k_lenR, k_lenT, k_int, k_str, k_abs, tru_bl, augK, ctx_call, ctx_glob, k_in, k_nin, k_inS]
    have e0 : il (kpt hs) ++ [.int 0] = il (kpt hs ++ [0]) := int_one _ 0
    rw [e0]
    refine ⟨by rw [List.length_map]; omega, ?_⟩
    have hc2 := cells_last h2 (.lst (il (kpt hs ++ [0])))
    have p0 : 0 < (kpt hs ++ [0]).length := by simp
    refine k_subL (view_adr hc2) (fun _ h => by cases h) (il_get (j := 0) p0) ?_
    have ix : ixN (il (kpt hs ++ [0])).length 0 = some 0 := by
      rw [List.length_map]
      exact Evl.ixN_nat p0
    simp only [hc2, putC, ix, set_last, WpSs, WpS, WpE, WpEs, WpBs, WpO, WpN, WpI, WpC, WpT, getS, setS, tgK, setsS, wipeS, k_add, k_addT, k_sub, k_mul, k_fdiv, k_mod, k_neg, k_lt, k_le, k_gt, k_ge, k_eqI, k_neI, k_eqS, k_neS, k_eqB, k_neB, k_is, k_isn, isNon_non, isNon_int, isNon_str, isNon_lst, isNon_tup, isNon_adr, k_lenS, k_lenL, k_lenR, k_lenT, k_int, k_str, k_abs, tru_bl, augK, ctx_call, ctx_glob, k_in, k_nin, k_inS]
    refine kn _ _ ⟨⟨by have := ext.len; simp; omega, fun a ha => (cells_app (Nat.lt_of_lt_of_le ha ext.len)).trans (ext.keep a ha)⟩, _, _, rfl⟩
  · rintro _ h2 ⟨ext, s4, s5, rfl⟩
    simp only [b_law_fits_4, WpSs, WpS, WpE, WpEs, WpBs, WpO, WpN, WpI, WpC, WpT, getS, setS, tgK, setsS, wipeS, k_add, k_addT, k_sub, k_mul, k_fdiv, k_mod, k_neg, k_lt, k_le, k_gt, k_ge, k_eqI, k_neI, k_eqS, k_neS, k_eqB, k_neB, k_is, k_isn, isNon_non, isNon_int, isNon_str, isNon_lst, isNon_tup, isNon_adr, k_lenS, k_lenL, k_lenR, k_lenT, k_int, k_str, k_abs, tru_bl, augK, ctx_call, ctx_glob, k_in, k_nin, k_inS]
    exact q h2 ext
end K13

set_option maxRecDepth 100000
set_option maxHeartbeats 4000000
namespace K13
open PySem L2 VL
theorem Ext.trans {h h' h'' : AHeap} (a : Ext h h') (b : Ext h' h'') : Ext h h'' := ⟨Nat.le_trans a.len b.len, fun x h1 => (b.keep x (Nat.lt_of_lt_of_le h1 a.len)).trans (a.keep x h1)⟩
theorem Ext.push (h : AHeap) (c : Cell) : Ext h (h ++ [c]) := ⟨by simp, fun a h1 => cells_app h1⟩
theorem Ext.app (h : AHeap) (l : List Cell) : Ext h (h ++ l) := ⟨by simp, fun a h1 => by unfold cells; rw [List.getElem?_append_left h1]⟩
theorem cells_mid (h : AHeap) (c : Cell) (l : List Cell) : cells (h ++ c :: l) h.length = c := by
  unfold cells
  rw [List.getElem?_append_right (Nat.le_refl _), Nat.sub_self]; rfl
theorem set_mid (h : AHeap) (c d : Cell) (l : List Cell) : (h ++ c :: l).set h.length d = h ++ d :: l := by
  rw [List.set_append_right _ _ (Nat.le_refl _), Nat.sub_self]; rfl
theorem cells_off (h : AHeap) (l : List Cell) (k : Nat) : cells (h ++ l) (h.length + k) = (l[k]?).getD .dead := by
  unfold cells
  rw [List.getElem?_append_right (Nat.le_add_right _ _), Nat.add_sub_cancel_left]
theorem app_mid (h : AHeap) (c : Cell) (l r : List Cell) : (h ++ c :: l) ++ r = h ++ c :: (l ++ r) := by simp
theorem hf_zero (n : Nat) : hf (List.replicate n 0) = fun _ => 0 := by
  funext x
  unfold hf
  rw [List.getElem?_replicate]
  split <;> rfl
theorem great_nil (n m : Nat) : Great [] n (hf (List.replicate m 0)) := by
  rw [hf_zero]
  exact ⟨fun e he => (nomatch he), fun _ _ => Int.le_refl _, fun g _ hg x hx => hg x hx⟩
theorem idx_nil (y : Nat) : idx [] y = [] := rfl
/-- a new object's cells, in a row -/
theorem Hob.born {h : AHeap} {a d hh uu b m : Nat} {D : List Ed} {hs : List Int} (nd : (Ob.fp ⟨a, d, hh, uu, (List.range (m + 1)).map (b + ·)⟩).Nodup) (h1 : cells h a = .obj 0 [("many", .int (m : Int)), ("differences", .adr d), ("heights", .adr hh), ("under", .adr uu)])
    (h2 : cells h d = .lst (dl' D)) (h3 : cells h hh = .lst (il hs)) (h4 : cells h uu = .lst ((List.range (m + 1)).map fun k => AV.adr (b + k))) (hl : hs.length = m + 1) (h5 : ∀ k, k < m + 1 → cells h (b + k) = .lst (il (idx D k))) (inn : In (m + 1) D) :
    Hob h ⟨a, d, hh, uu, (List.range (m + 1)).map (b + ·)⟩ m D hs where
  nd := nd
  at_ := h1
  dd := h2
  hd := h3
  ud := by rw [h4]; simp
  ul := by simp
  hl := hl
  un := fun y x e => by
    simp only [List.getElem?_map, Option.map_eq_some_iff] at e
    obtain ⟨k, e1, rfl⟩ := e
    obtain ⟨e2, e3⟩ := List.getElem?_eq_some_iff.mp e1
    simp at e2 e3
    subst e3
    exact h5 y e2
  inn := inn
theorem nodup_off (b n : Nat) : ((List.range n).map (b + ·)).Nodup := by
  rw [List.nodup_iff_pairwise_ne, List.pairwise_map]
  exact (List.nodup_iff_pairwise_ne.mp List.nodup_range).imp fun h e => h (by omega)
theorem pf0 {v : AV} : putFA ("many" : Str) v [] = ([("many", v)] : List (Str × AV)) := rfl
theorem pf1 {v a : AV} : putFA ("differences" : Str) v [("many", a)] = ([("many", a), ("differences", v)] : List (Str × AV)) := rfl
theorem pf2 {v a b : AV} : putFA ("heights" : Str) v [("many", a), ("differences", b)] = ([("many", a), ("differences", b), ("heights", v)] : List (Str × AV)) := rfl
theorem pf3 {v a b c : AV} : putFA ("under" : Str) v [("many", a), ("differences", b), ("heights", c)] = ([("many", a), ("differences", b), ("heights", c), ("under", v)] : List (Str × AV)) := rfl
theorem pg0 {v a b c d : AV} : putFA ("many" : Str) v [("many", a), ("differences", b), ("heights", c), ("under", d)] = ([("many", v), ("differences", b), ("heights", c), ("under", d)] : List (Str × AV)) := rfl
theorem pg1 {v a b c d : AV} : putFA ("differences" : Str) v [("many", a), ("differences", b), ("heights", c), ("under", d)] = ([("many", a), ("differences", v), ("heights", c), ("under", d)] : List (Str × AV)) := rfl
theorem pg2 {v a b c d : AV} : putFA ("heights" : Str) v [("many", a), ("differences", b), ("heights", c), ("under", d)] = ([("many", a), ("differences", b), ("heights", v), ("under", d)] : List (Str × AV)) := rfl
theorem pg3 {v a b c d : AV} : putFA ("under" : Str) v [("many", a), ("differences", b), ("heights", c), ("under", d)] = ([("many", a), ("differences", b), ("heights", c), ("under", v)] : List (Str × AV)) := rfl
/-- a comprehension that makes cells -/
theorem comp_new {B : AV → AHeap → (Option AV → AHeap → Prop) → Prop} {chk : AHeap → Prop} {xs : List AV} {h0 : AHeap} {Q : List AV → AHeap → Prop} (c : Nat → Cell) (hc : ∀ l, chk (h0 ++ l))
    (hs : ∀ i x l R, xs[i]? = some x → R (some (.adr (h0 ++ l).length)) ((h0 ++ l) ++ [c i]) → B x (h0 ++ l) R) (q : Q ((List.range xs.length).map fun k => .adr (h0.length + k)) (h0 ++ (List.range xs.length).map c)) : compL B chk xs [] h0 Q := by
  refine comp_inv (fun i acc h' => h' = h0 ++ (List.range i).map c ∧ acc = (List.range i).map fun k => .adr (h0.length + k)) ⟨by simp, rfl⟩ (fun _ _ _ _ z => by obtain ⟨rfl, _⟩ := z; exact hc _) ?_ ?_
  · rintro i x _ _ R hx ⟨rfl, rfl⟩ k1 k2
    refine hs i x _ R hx (k1 _ _ ⟨?_, ?_⟩)
    · rw [List.range_succ, List.map_append, List.append_assoc]; rfl
    · rw [List.range_succ, List.map_append, List.length_append, List.length_map, List.length_range]; rfl
  · rintro _ _ ⟨rfl, rfl⟩
    exact q
theorem init_ok {n m : Nat} {h : AHeap} {Q} (hm : m ≤ 1000) (q : ∀ h' o, Ext h h' → (∀ b ∈ Ob.fp o, h.length ≤ b) → Hob h' o m [] (List.replicate (m + 1) 0) → o.a = h.length → Q .non h') :
    callN P (n+1) 0 [.adr h.length, .int (m : Int)] (h ++ [.obj 0 []]) Q := by
  refine ⟨rfl, ?_⟩
  have hz1 : sizeLine = 16777216 := rfl
  show WpSs (ctxOf P (callN P n)) b_Heights___init__ _ [.val (.adr h.length), .val (.int (m : Int)), .no] (h ++ [.obj 0 []])
  have tn : ((m : Int) + 1).toNat = m + 1 := by omega
  simp only [b_Heights___init__, cells_mid, set_mid, app_mid, fldH "many" rfl, fldH "differences" rfl, fldH "heights" rfl, fldH "under" rfl, true_and, pf0, pf1, pf2, pf3, tn, List.length_nil, List.nil_append, List.length_cons, List.length_append, List.length_map, List.length_range, WpSs, WpS, WpE, WpEs, WpBs, WpO, WpN, WpI, WpC, WpT, getS, setS, tgK, setsS, wipeS, k_add, k_addT, k_sub, k_mul, k_fdiv, k_mod, k_neg, k_lt, k_le, k_gt, k_ge, k_eqI, k_neI, k_eqS, k_neS, k_eqB, k_neB, k_is, k_isn, isNon_non, isNon_int, isNon_str, isNon_lst, isNon_tup, isNon_adr, k_lenS, k_lenL, k_lenR, k_lenT, k_int, k_str, k_abs, tru_bl, augK, ctx_call, ctx_glob, k_in, k_nin, k_inS]
  refine ⟨by omega, by omega, by omega, ⟨by omega, by omega⟩, by omega, ?_⟩
  refine comp_ints (fun _ => 0) (fun i x R hx r => ?_) ?_
  · simp only [if_true]; exact r
  rw [List.length_map, List.length_range]
  simp only [cells_mid, set_mid, app_mid, fldH "many" rfl, fldH "differences" rfl, fldH "heights" rfl, fldH "under" rfl, true_and, pf0, pf1, pf2, pf3, tn, List.length_nil, List.nil_append, List.cons_append, List.length_cons, List.length_append, List.length_map, List.length_range, WpSs, WpS, WpE, WpEs, WpBs, WpO, WpN, WpI, WpC, WpT, getS, setS, tgK, setsS, wipeS, k_add, k_addT, k_sub, k_mul, k_fdiv, k_mod, k_neg, k_lt, k_le, k_gt, k_ge, k_eqI, k_neI, k_eqS, k_neS, k_eqB, k_neB, k_is, k_isn, isNon_non, isNon_int, isNon_str, isNon_lst, isNon_tup, isNon_adr, k_lenS, k_lenL, k_lenR, k_lenT, k_int, k_str, k_abs, tru_bl, augK, ctx_call, ctx_glob, k_in, k_nin, k_inS]
  refine ⟨by omega, ⟨by omega, by omega⟩, by omega, ?_⟩
  refine comp_new (fun _ => .lst []) (fun _ => trivial) (fun i x l R hx r => ?_) ?_
  · simp only [if_true, hz1]; exact ⟨by omega, r⟩
  simp only [cells_mid, set_mid, app_mid, fldH "many" rfl, fldH "differences" rfl, fldH "heights" rfl, fldH "under" rfl, true_and, pf0, pf1, pf2, pf3, tn, List.length_nil, List.nil_append, List.cons_append, List.length_cons, List.length_append, List.length_map, List.length_range, WpSs, WpS, WpE, WpEs, WpBs, WpO, WpN, WpI, WpC, WpT, getS, setS, tgK, setsS, wipeS, k_add, k_addT, k_sub, k_mul, k_fdiv, k_mod, k_neg, k_lt, k_le, k_gt, k_ge, k_eqI, k_neI, k_eqS, k_neS, k_eqB, k_neB, k_is, k_isn, isNon_non, isNon_int, isNon_str, isNon_lst, isNon_tup, isNon_adr, k_lenS, k_lenL, k_lenR, k_lenT, k_int, k_str, k_abs, tru_bl, augK, ctx_call, ctx_glob, k_in, k_nin, k_inS]
  refine ⟨by omega, ?_⟩
  have z0 : (List.map (fun _ => (0 : Int)) (List.range (m + 1))) = List.replicate (m + 1) 0 := by
    rw [List.map_const']; simp
  rw [z0]
  obtain ⟨tl, hg⟩ : ∃ tl : AHeap, tl = Cell.obj 0 [("many", AV.int (m : Int)), ("differences", AV.adr (h.length + 1)), ("heights", AV.adr (h.length + 2)), ("under", AV.adr (h.length + 3 + (m + 1)))] :: Cell.lst [] :: Cell.lst (il (List.replicate (m + 1) 0)) :: (List.map (fun x => Cell.lst []) (List.range (m + 1)) ++ [Cell.lst (List.map (fun k => AV.adr (h.length + 3 + k)) (List.range (m + 1)))]) := ⟨_, rfl⟩
  have e3 : h.length + (m + 1 + 1 + 1 + 1) = h.length + 3 + (m + 1) := by omega
  rw [e3]
  show Q .non (h ++ _)
  rw [← hg]
  refine q (h ++ tl) ⟨h.length, h.length + 1, h.length + 2, h.length + 3 + (m + 1), (List.range (m + 1)).map (h.length + 3 + ·)⟩ ?_ ?_ ?_ rfl
  · exact .app _ _
  · intro b hb
    simp only [Ob.fp, List.mem_cons, List.mem_map] at hb
    omega
  · have c : ∀ k x, x = h.length + k → cells (h ++ tl) x = (tl[k]?).getD .dead := fun k x e => by rw [e]; exact cells_off _ _ k
    refine Hob.born ?_ ?_ ?_ ?_ ?_ (by simp) ?_ (fun e he => nomatch he)
    · simp only [Ob.fp, List.nodup_cons, List.mem_cons, List.mem_map, not_or]
      refine ⟨⟨by omega, by omega, by omega, ?_⟩, ⟨by omega, by omega, ?_⟩, ⟨by omega, ?_⟩, ?_, nodup_off _ _⟩
      all_goals
        rintro ⟨k, hk, e⟩
        have := List.mem_range.mp hk
        omega
    · rw [c 0 h.length rfl, hg]; rfl
    · rw [c 1 _ rfl, hg]; rfl
    · rw [c 2 _ rfl, hg]; rfl
    · rw [c (m + 1 + 1 + 1 + 1) _ (by omega), hg]
      simp only [List.getElem?_cons_succ]
      rw [List.getElem?_append_right (by simp)]
      simp
    · intro k hk
      rw [c (k + 1 + 1 + 1) _ (by omega), hg]
      simp only [List.getElem?_cons_succ]
      rw [List.getElem?_append_left (by simp; omega), List.getElem?_map, List.getElem?_range hk]
      rfl
end K13

set_option maxRecDepth 100000
set_option maxHeartbeats 4000000
namespace K13
open PySem L2 VL
theorem hf_grow (hs : List Int) : hf (hs ++ [0]) = hf hs := by
  funext x
  unfold hf
  rcases Nat.lt_trichotomy x hs.length with h | h | h
  · rw [List.getElem?_append_left h]
  · subst h
    simp
  · rw [List.getElem?_append_right (by omega), List.getElem?_eq_none (by omega : hs.length ≤ x), List.getElem?_eq_none (by simp; omega)]
theorem Great.grow {D : List Ed} {n : Nat} {hs : List Int} (g : Great D n (hf hs)) (hl : hs.length = n) : Great D (n + 1) (hf (hs ++ [0])) := by
  rw [hf_grow]
  have z : hf hs n = 0 := by
    unfold hf
    rw [List.getElem?_eq_none (by omega)]; rfl
  refine ⟨g.feas, fun x hx => ?_, fun p f hp x hx => ?_⟩
  · by_cases c : x = n
    · rw [c, z]; exact Int.le_refl _
    · exact g.neg x (by omega)
  · by_cases c : x = n
    · rw [c, z]; exact hp n (by omega)
    · exact g.top p f (fun y hy => hp y (by omega)) x (by omega)
theorem idx_out {D : List Ed} {n : Nat} (inn : In n D) : idx D n = [] := by
  unfold idx
  rw [List.map_eq_nil_iff, List.filter_eq_nil_iff]
  intro k hk z
  have z := of_decide_eq_true z
  obtain ⟨e, he, hy⟩ := Option.map_eq_some_iff.mp z
  have := (inn e (List.mem_of_getElem? he)).2
  omega
/-- what grows or is looked at: nothing else below the old length is touched, the footprint grows by new cells -/
structure Gr (o o' : Ob) (h h' : AHeap) : Prop where
  fr : Fr o h h'
  a : o'.a = o.a
  fp : ∀ b ∈ o'.fp, b ∈ o.fp ∨ h.length ≤ b
theorem grow_step {h : AHeap} {o : Ob} {m : Nat} {D : List Ed} {hs : List Int} (x : Hob h o m D hs) :
    Hob ((((h.set o.a (Cell.obj 0 [("many", .int ((m + 1 : Nat) : Int)), ("differences", .adr o.d), ("heights", .adr o.hh), ("under", .adr o.uu)])).set o.hh (Cell.lst (il (hs ++ [0])))) ++ [Cell.lst []]).set o.uu (Cell.lst ((o.us ++ [h.length]).map AV.adr))) { o with us := o.us ++ [h.length] } (m + 1) D (hs ++ [0]) := by
  have nd := x.nd
  simp only [Ob.fp, List.nodup_cons, List.mem_cons, not_or] at nd
  obtain ⟨⟨a1, a2, a3, a4⟩, ⟨b1, b2, b3⟩, ⟨c1, c2⟩, d1, nus⟩ := nd
  have la := x.lt o.a (by simp [Ob.fp])
  have ld := x.lt o.d (by simp [Ob.fp])
  have lh := x.lt o.hh (by simp [Ob.fp])
  have lu := x.lt o.uu (by simp [Ob.fp])
  have lus : ∀ b ∈ o.us, b < h.length := fun b hb => x.lt b (by simp [Ob.fp, hb])
  have hl := x.hl
  have ul := x.ul
  refine ⟨?_, ?_, ?_, ?_, ?_, by simp [ul], by simp [hl], ?_, fun e he => ⟨Nat.lt_succ_of_lt (x.inn e he).1, Nat.lt_succ_of_lt (x.inn e he).2⟩⟩
  · simp only [Ob.fp, List.nodup_cons, List.mem_cons, not_or, List.mem_append, List.not_mem_nil, or_false]
    refine ⟨⟨a1, a2, a3, a4, by omega⟩, ⟨b1, b2, b3, by omega⟩, ⟨c1, c2, by omega⟩, ⟨d1, by omega⟩, ?_⟩
    rw [List.nodup_append]
    refine ⟨nus, by simp, fun p hp q hq => ?_⟩
    have := lus p hp
    rw [List.mem_singleton.mp hq]
    omega
  · rw [cells_put (Ne.symm a3), cells_app (by simp; omega), cells_put (Ne.symm a2), cells_set la]
  · rw [cells_put (Ne.symm b2), cells_app (by simp; omega), cells_put (Ne.symm b1), cells_put a1]; exact x.dd
  · rw [cells_put (Ne.symm c1), cells_app (by simp; omega), cells_set (by simp; omega)]
  · rw [cells_set (by simp; omega)]
  · intro y b hb
    by_cases q : y < o.us.length
    · have hb : o.us[y]? = some b := by rwa [List.getElem?_append_left q] at hb
      have mem := List.mem_of_getElem? hb
      have := lus b mem
      rw [cells_put (fun z => d1 (by rw [z]; exact mem)), cells_app (by simp; omega), cells_put (fun z => c2 (by rw [z]; exact mem)), cells_put (fun z => a4 (by rw [z]; exact mem))]
      exact x.un y b hb
    · have hy : y = o.us.length := by
        have := (List.getElem?_eq_some_iff.mp hb).1
        simp at this; omega
      have hb : h.length = b := by
        rw [hy] at hb
        simpa using hb
      subst hb
      have e : ((h.set o.a (Cell.obj 0 [("many", .int ((m + 1 : Nat) : Int)), ("differences", .adr o.d), ("heights", .adr o.hh), ("under", .adr o.uu)])).set o.hh (Cell.lst (il (hs ++ [0])))).length = h.length := by simp
      rw [cells_put (by omega), hy, ul, idx_out x.inn]
      conv => lhs; arg 2; rw [← e]
      exact cells_last _ _
theorem grow_ok {n m r : Nat} {h : AHeap} {o : Ob} {D : List Ed} {hs : List Int} {Q} (hob : Hob h o m D hs) (g : Great D (m + 1) (hf hs)) (hr : m ≤ r) (h2 : r ≤ 1000) (q : ∀ h' o' hs', Gr o o' h h' → Hob h' o' r D hs' → Great D (r + 1) (hf hs') → Q .non h') :
    callN P (n+1) 1 [.adr o.a, .int (r : Int)] h Q := by
  refine ⟨rfl, ?_⟩
  have hz1 : sizeLine = 16777216 := rfl
  show WpSs (ctxOf P (callN P n)) b_Heights_grow _ [.val (.adr o.a), .val (.int (r : Int))] h
  simp only [b_Heights_grow, WpSs, WpS, WpE, WpEs, WpBs, WpO, WpN, WpI, WpC, WpT, getS, setS, tgK, setsS, wipeS, k_add, k_addT, k_sub, k_mul, k_fdiv, k_mod, k_neg, k_lt, k_le, k_gt, k_ge, k_eqI, k_neI, k_eqS, k_neS, k_eqB, k_neB, k_is, k_isn, isNon_non, isNon_int, isNon_str, isNon_lst, isNon_tup, isNon_adr, k_lenS, k_lenL, k_lenR, k_lenT, k_int, k_str, k_abs, tru_bl, augK, ctx_call, ctx_glob, k_in, k_nin, k_inS]
  refine wh_inv (fun mm ρ h' => ∃ k o' hs', mm = r - k ∧ k ≤ r ∧ ρ = [.val (.adr o'.a), .val (.int (r : Int))] ∧ Gr o o' h h' ∧ Hob h' o' k D hs' ∧ Great D (k + 1) (hf hs')) (r - m) ⟨m, o, hs, rfl, hr, rfl, ⟨.refl o h, rfl, fun b hb => .inl hb⟩, hob, g⟩ ?_
  rintro mm _ h' D2 ⟨k, o', hs', rfl, hk, rfl, gr, hob', g'⟩ kn kc kr kb
  have ka := hob'.at_
  simp only [ka, lkM, fldH "many" rfl, true_and, WpSs, WpS, WpE, WpEs, WpBs, WpO, WpN, WpI, WpC, WpT, getS, setS, tgK, setsS, wipeS, k_add, k_addT, k_sub, k_mul, k_fdiv, k_mod, k_neg, k_lt, k_le, k_gt, k_ge, k_eqI, k_neI, k_eqS, k_neS, k_eqB, k_neB, k_is, k_isn, isNon_non, isNon_int, isNon_str, isNon_lst, isNon_tup, isNon_adr, k_lenS, k_lenL, k_lenR, k_lenT, k_int, k_str, k_abs, tru_bl, augK, ctx_call, ctx_glob, k_in, k_nin, k_inS]
  refine ite_b (fun c => ?_) (fun c => ?_)
  · have la := hob'.lt o'.a (by simp [Ob.fp])
    have stp := grow_step hob'
    have nd := hob'.nd
    have hl' := hob'.hl
    have ul' := hob'.ul
    simp only [Ob.fp, List.nodup_cons, List.mem_cons, not_or] at nd
    obtain ⟨⟨a1, a2, a3, a4⟩, ⟨b1, b2, b3⟩, ⟨c1, c2⟩, d1, nus⟩ := nd
    have e1 : ((k : Int) + 1) = ((k + 1 : Nat) : Int) := by omega
    simp only [b_Heights_grow_1, ka, lkM, fldH "many" rfl, true_and, pg0, e1, WpSs, WpS, WpE, WpEs, WpBs, WpO, WpN, WpI, WpC, WpT, getS, setS, tgK, setsS, wipeS, k_add, k_addT, k_sub, k_mul, k_fdiv, k_mod, k_neg, k_lt, k_le, k_gt, k_ge, k_eqI, k_neI, k_eqS, k_neS, k_eqB, k_neB, k_is, k_isn, isNon_non, isNon_int, isNon_str, isNon_lst, isNon_tup, isNon_adr, k_lenS, k_lenL, k_lenR, k_lenT, k_int, k_str, k_abs, tru_bl, augK, ctx_call, ctx_glob, k_in, k_nin, k_inS]
    refine ⟨by show 4 < 1000; omega, ?_⟩
    have k1 : cells (h'.set o'.a (Cell.obj 0 [("many", .int ((k + 1 : Nat) : Int)), ("differences", .adr o'.d), ("heights", .adr o'.hh), ("under", .adr o'.uu)])) o'.a = _ := cells_set la
    have k2 : cells (h'.set o'.a (Cell.obj 0 [("many", .int ((k + 1 : Nat) : Int)), ("differences", .adr o'.d), ("heights", .adr o'.hh), ("under", .adr o'.uu)])) o'.hh = _ := (cells_put a2).trans hob'.hd
    have k3 : cells (h'.set o'.a (Cell.obj 0 [("many", .int ((k + 1 : Nat) : Int)), ("differences", .adr o'.d), ("heights", .adr o'.hh), ("under", .adr o'.uu)])) o'.uu = _ := (cells_put a3).trans hob'.ud
    have l1 : (h'.set o'.a (Cell.obj 0 [("many", .int ((k + 1 : Nat) : Int)), ("differences", .adr o'.d), ("heights", .adr o'.hh), ("under", .adr o'.uu)])).length = h'.length := by simp
    have fr1 : Fr o' h' (h'.set o'.a (Cell.obj 0 [("many", .int ((k + 1 : Nat) : Int)), ("differences", .adr o'.d), ("heights", .adr o'.hh), ("under", .adr o'.uu)])) := .set (by simp [Ob.fp])
    generalize (h'.set o'.a (Cell.obj 0 [("many", .int ((k + 1 : Nat) : Int)), ("differences", .adr o'.d), ("heights", .adr o'.hh), ("under", .adr o'.uu)])) = h1 at k1 k2 k3 l1 stp fr1 ⊢
    simp only [k1, k2, lkH, fldH "heights" rfl, true_and, appC, WpSs, WpS, WpE, WpEs, WpBs, WpO, WpN, WpI, WpC, WpT, getS, setS, tgK, setsS, wipeS, k_add, k_addT, k_sub, k_mul, k_fdiv, k_mod, k_neg, k_lt, k_le, k_gt, k_ge, k_eqI, k_neI, k_eqS, k_neS, k_eqB, k_neB, k_is, k_isn, isNon_non, isNon_int, isNon_str, isNon_lst, isNon_tup, isNon_adr, k_lenS, k_lenL, k_lenR, k_lenT, k_int, k_str, k_abs, tru_bl, augK, ctx_call, ctx_glob, k_in, k_nin, k_inS]
    have lh := hob'.lt o'.hh (by simp [Ob.fp])
    have lu := hob'.lt o'.uu (by simp [Ob.fp])
    refine ⟨by rw [List.length_map]; omega, ?_⟩
    have k4 : cells (h1.set o'.hh (Cell.lst (il hs' ++ [.int 0]))) o'.a = _ := (cells_put (Ne.symm a2)).trans k1
    have k5 : cells (h1.set o'.hh (Cell.lst (il hs' ++ [.int 0]))) o'.uu = _ := (cells_put c1).trans k3
    simp only [k4, k5, lkU, fldH "under" rfl, true_and, List.length_nil, hz1, Nat.zero_le, WpSs, WpS, WpE, WpEs, WpBs, WpO, WpN, WpI, WpC, WpT, getS, setS, tgK, setsS, wipeS, k_add, k_addT, k_sub, k_mul, k_fdiv, k_mod, k_neg, k_lt, k_le, k_gt, k_ge, k_eqI, k_neI, k_eqS, k_neS, k_eqB, k_neB, k_is, k_isn, isNon_non, isNon_int, isNon_str, isNon_lst, isNon_tup, isNon_adr, k_lenS, k_lenL, k_lenR, k_lenT, k_int, k_str, k_abs, tru_bl, augK, ctx_call, ctx_glob, k_in, k_nin, k_inS]
    have k6 : cells (h1.set o'.hh (Cell.lst (il hs' ++ [.int 0])) ++ [Cell.lst []]) o'.uu = _ := (cells_app (by simp; omega)).trans k5
    simp only [k6, appC, WpSs, WpS, WpE, WpEs, WpBs, WpO, WpN, WpI, WpC, WpT, getS, setS, tgK, setsS, wipeS, k_add, k_addT, k_sub, k_mul, k_fdiv, k_mod, k_neg, k_lt, k_le, k_gt, k_ge, k_eqI, k_neI, k_eqS, k_neS, k_eqB, k_neB, k_is, k_isn, isNon_non, isNon_int, isNon_str, isNon_lst, isNon_tup, isNon_adr, k_lenS, k_lenL, k_lenR, k_lenT, k_int, k_str, k_abs, tru_bl, augK, ctx_call, ctx_glob, k_in, k_nin, k_inS]
    refine ⟨by rw [List.length_map]; omega, ?_⟩
    have e2 : il hs' ++ [.int 0] = il (hs' ++ [0]) := int_one _ 0
    have e3 : o'.us.map AV.adr ++ [.adr (h1.set o'.hh (Cell.lst (il (hs' ++ [0])))).length] = (o'.us ++ [h'.length]).map AV.adr := by simp [l1]
    rw [e2, e3]
    have ln : o.a = o'.a := gr.a.symm
    have fr2 : Fr o' h' (((h1.set o'.hh (Cell.lst (il (hs' ++ [0])))) ++ [Cell.lst []]).set o'.uu (Cell.lst ((o'.us ++ [h'.length]).map AV.adr))) := fr1.trans ((Fr.set (by simp [Ob.fp])).trans ((Fr.push _).trans (Fr.set (by simp [Ob.fp]))))
    refine kn (r - (k + 1)) _ _ (by omega) ⟨k + 1, { o' with us := o'.us ++ [h'.length] }, _, rfl, by omega, rfl, ⟨⟨Nat.le_trans gr.fr.len fr2.len, fun b hb nb => ?_⟩, gr.a, fun b hb => ?_⟩, stp, g'.grow hl'⟩
    · rw [fr2.keep b (Nat.lt_of_lt_of_le hb gr.fr.len) fun z => ?_, gr.fr.keep b hb nb]
      rcases gr.fp b z with z | z
      · exact nb z
      · omega
    · have : b ∈ o'.fp ∨ b = h'.length := by
        have hb : b ∈ Ob.fp o' ++ [h'.length] := hb
        rcases List.mem_append.mp hb with z | z
        · exact .inl z
        · exact .inr (List.mem_singleton.mp z)
      rcases this with z | z
      · exact gr.fp b z
      · exact .inr (by rw [z]; exact gr.fr.len)
  · have : k = r := by omega
    subst this
    exact q h' o' hs' gr hob' g'
/-- one cell changed, and more behind -/
structure Fx (a : Nat) (h h' : AHeap) : Prop where
  len : h.length ≤ h'.length
  keep : ∀ b, b < h.length → b ≠ a → cells h' b = cells h b
theorem Fx.trans {a : Nat} {h h' h'' : AHeap} (x : Fx a h h') (y : Fx a h' h'') : Fx a h h'' := ⟨Nat.le_trans x.len y.len, fun b h1 h2 => (y.keep b (Nat.lt_of_lt_of_le h1 x.len) h2).trans (x.keep b h1 h2)⟩
theorem fx_step {h : AHeap} {a : Nat} (c X : Cell) (ha : a < h.length) : cells ((h ++ [c]).set a X) a = X ∧ cells ((h ++ [c]).set a X) h.length = c ∧ Fx a h ((h ++ [c]).set a X) ∧ ((h ++ [c]).set a X).length = h.length + 1 :=
  ⟨cells_set (by simp; omega), (cells_put (by omega)).trans (cells_last _ _), ⟨by simp, fun b h1 h2 => (cells_put (Ne.symm h2)).trans (cells_app h1)⟩, by simp⟩
theorem twin_ok {n m : Nat} {h : AHeap} {o : Ob} {D : List Ed} {hs : List Int} {Q} (hob : Hob h o m D hs) (hm : m ≤ 1000) (q : ∀ h' o', Ext h h' → (∀ b ∈ Ob.fp o', h.length ≤ b) → Hob h' o' m D hs → Q (.adr o'.a) h') :
    callN P (n+2) 9 [.adr o.a] h Q := by
  refine ⟨rfl, ?_⟩
  have hz1 : sizeLine = 16777216 := rfl
  have ka := hob.at_
  have ol := hob.lt
  show WpSs (ctxOf P (callN P (n+1))) b_Heights_twin _ [.val (.adr o.a), .no, .no] h
  have ini : (ctxOf P (callN P (n+1))).init 0 = some 0 := rfl
  simp only [b_Heights_twin, ka, lkM, fldH "many" rfl, true_and, ini, WpSs, WpS, WpE, WpEs, WpBs, WpO, WpN, WpI, WpC, WpT, getS, setS, tgK, setsS, wipeS, k_add, k_addT, k_sub, k_mul, k_fdiv, k_mod, k_neg, k_lt, k_le, k_gt, k_ge, k_eqI, k_neI, k_eqS, k_neS, k_eqB, k_neB, k_is, k_isn, isNon_non, isNon_int, isNon_str, isNon_lst, isNon_tup, isNon_adr, k_lenS, k_lenL, k_lenR, k_lenT, k_int, k_str, k_abs, tru_bl, augK, ctx_call, ctx_glob, k_in, k_nin, k_inS]
  refine init_ok hm fun h1 o1 ext new hob1 ea => ?_
  simp only [WpSs, WpS, WpE, WpEs, WpBs, WpO, WpN, WpI, WpC, WpT, getS, setS, tgK, setsS, wipeS, k_add, k_addT, k_sub, k_mul, k_fdiv, k_mod, k_neg, k_lt, k_le, k_gt, k_ge, k_eqI, k_neI, k_eqS, k_neS, k_eqB, k_neB, k_is, k_isn, isNon_non, isNon_int, isNon_str, isNon_lst, isNon_tup, isNon_adr, k_lenS, k_lenL, k_lenR, k_lenT, k_int, k_str, k_abs, tru_bl, augK, ctx_call, ctx_glob, k_in, k_nin, k_inS]
  have fE : ∀ {h' : AHeap}, Fx o1.a h1 h' → Hob h' o m D hs := fun {h'} f => (ext.hob hob).frame fun b hb => f.keep b (Nat.lt_of_lt_of_le (ol b hb) ext.len) (by rw [ea]; exact Nat.ne_of_lt (ol b hb))
  rw [← ea]
  have kb := (ext.hob hob).at_
  have vd := view_adr (ext.hob hob).dd
  have la1 := hob1.lt o1.a (by simp [Ob.fp])
  have ka1 := hob1.at_
  have kA : cells (h1 ++ [Cell.lst (dl' D)]) o1.a = _ := (cells_app la1).trans ka1
  simp only [kb, lkD, fldH "differences" rfl, true_and, vd, kA, pg1, List.length_cons, List.length_nil, WpSs, WpS, WpE, WpEs, WpBs, WpO, WpN, WpI, WpC, WpT, getS, setS, tgK, setsS, wipeS, k_add, k_addT, k_sub, k_mul, k_fdiv, k_mod, k_neg, k_lt, k_le, k_gt, k_ge, k_eqI, k_neI, k_eqS, k_neS, k_eqB, k_neB, k_is, k_isn, isNon_non, isNon_int, isNon_str, isNon_lst, isNon_tup, isNon_adr, k_lenS, k_lenL, k_lenR, k_lenT, k_int, k_str, k_abs, tru_bl, augK, ctx_call, ctx_glob, k_in, k_nin, k_inS]
  refine ⟨by show 4 < 1000; omega, ?_⟩
  obtain ⟨s1, s2, s3, s4⟩ := fx_step (Cell.lst (dl' D)) (Cell.obj 0 [("many", .int (m : Int)), ("differences", .adr h1.length), ("heights", .adr o1.hh), ("under", .adr o1.uu)]) la1
  generalize (h1 ++ [Cell.lst (dl' D)]).set o1.a (Cell.obj 0 [("many", .int (m : Int)), ("differences", .adr h1.length), ("heights", .adr o1.hh), ("under", .adr o1.uu)]) = h2 at s1 s2 s3 s4 ⊢
  have kb := (fE s3).at_
  have vd := view_adr (fE s3).hd
  have la2 : o1.a < h2.length := by omega
  have kA : cells (h2 ++ [Cell.lst (il hs)]) o1.a = _ := (cells_app la2).trans s1
  simp only [kb, lkH, fldH "heights" rfl, true_and, vd, kA, pg2, List.length_cons, List.length_nil, WpSs, WpS, WpE, WpEs, WpBs, WpO, WpN, WpI, WpC, WpT, getS, setS, tgK, setsS, wipeS, k_add, k_addT, k_sub, k_mul, k_fdiv, k_mod, k_neg, k_lt, k_le, k_gt, k_ge, k_eqI, k_neI, k_eqS, k_neS, k_eqB, k_neB, k_is, k_isn, isNon_non, isNon_int, isNon_str, isNon_lst, isNon_tup, isNon_adr, k_lenS, k_lenL, k_lenR, k_lenT, k_int, k_str, k_abs, tru_bl, augK, ctx_call, ctx_glob, k_in, k_nin, k_inS]
  refine ⟨by show 4 < 1000; omega, ?_⟩
  obtain ⟨t1, t2, t3, t4⟩ := fx_step (Cell.lst (il hs)) (Cell.obj 0 [("many", .int (m : Int)), ("differences", .adr h1.length), ("heights", .adr h2.length), ("under", .adr o1.uu)]) la2
  have t0 := t3.keep h1.length (by omega) (by omega)
  generalize (h2 ++ [Cell.lst (il hs)]).set o1.a (Cell.obj 0 [("many", .int (m : Int)), ("differences", .adr h1.length), ("heights", .adr h2.length), ("under", .adr o1.uu)]) = h3 at t0 t1 t2 t3 t4 ⊢
  have f3 := s3.trans t3
  have ob3 := fE f3
  have kb := ob3.at_
  have vd := view_adr ob3.ud
  have ul := ob3.ul
  simp only [kb, lkU, fldH "under" rfl, true_and, vd, List.length_map, WpSs, WpS, WpE, WpEs, WpBs, WpO, WpN, WpI, WpC, WpT, getS, setS, tgK, setsS, wipeS, k_add, k_addT, k_sub, k_mul, k_fdiv, k_mod, k_neg, k_lt, k_le, k_gt, k_ge, k_eqI, k_neI, k_eqS, k_neS, k_eqB, k_neB, k_is, k_isn, isNon_non, isNon_int, isNon_str, isNon_lst, isNon_tup, isNon_adr, k_lenS, k_lenL, k_lenR, k_lenT, k_int, k_str, k_abs, tru_bl, augK, ctx_call, ctx_glob, k_in, k_nin, k_inS]
  refine ⟨by omega, ?_⟩
  refine comp_new (fun k => .lst (il (idx D k))) (fun l => view_adr ((show cells (h3 ++ l) o.uu = cells h3 o.uu from by unfold cells; rw [List.getElem?_append_left (ob3.lt _ (by simp [Ob.fp]))]).trans ob3.ud)) (fun i x l R hx r => ?_) ?_
  · obtain ⟨b, hb, rfl⟩ := items_map hx
    have vb : viewT (h3 ++ l) (.adr b) = some (il (idx D i)) := view_adr ((show cells (h3 ++ l) b = cells h3 b from by unfold cells; rw [List.getElem?_append_left (ob3.lt _ (by simp [Ob.fp, List.mem_of_getElem? hb]))]).trans (ob3.un i b hb))
    simp only [if_true, vb, WpSs, WpS, WpE, WpEs, WpBs, WpO, WpN, WpI, WpC, WpT, getS, setS, tgK, setsS, wipeS, k_add, k_addT, k_sub, k_mul, k_fdiv, k_mod, k_neg, k_lt, k_le, k_gt, k_ge, k_eqI, k_neI, k_eqS, k_neS, k_eqB, k_neB, k_is, k_isn, isNon_non, isNon_int, isNon_str, isNon_lst, isNon_tup, isNon_adr, k_lenS, k_lenL, k_lenR, k_lenT, k_int, k_str, k_abs, tru_bl, augK, ctx_call, ctx_glob, k_in, k_nin, k_inS]
    exact r
  simp only [List.length_map, ul]
  obtain ⟨tl, htl⟩ : ∃ tl : AHeap, tl = (List.range (m + 1)).map fun k => Cell.lst (il (idx D k)) := ⟨_, rfl⟩
  have tll : tl.length = m + 1 := by rw [htl]; simp
  rw [← htl]
  have la3 : o1.a < (h3 ++ tl).length := by simp; omega
  have kB : cells (h3 ++ tl) o1.a = _ := (show cells (h3 ++ tl) o1.a = cells h3 o1.a from by unfold cells; rw [List.getElem?_append_left (by omega)]).trans t1
  have kA : ∀ c, cells (h3 ++ tl ++ [c]) o1.a = _ := fun c => (cells_app la3).trans kB
  simp only [kA, pg3, fldH "under" rfl, true_and, List.length_cons, List.length_nil, WpSs, WpS, WpE, WpEs, WpBs, WpO, WpN, WpI, WpC, WpT, getS, setS, tgK, setsS, wipeS, k_add, k_addT, k_sub, k_mul, k_fdiv, k_mod, k_neg, k_lt, k_le, k_gt, k_ge, k_eqI, k_neI, k_eqS, k_neS, k_eqB, k_neB, k_is, k_isn, isNon_non, isNon_int, isNon_str, isNon_lst, isNon_tup, isNon_adr, k_lenS, k_lenL, k_lenR, k_lenT, k_int, k_str, k_abs, tru_bl, augK, ctx_call, ctx_glob, k_in, k_nin, k_inS]
  refine ⟨by show 4 < 1000; omega, ?_⟩
  obtain ⟨u1, u2, u3, u4⟩ := fx_step (Cell.lst ((List.range (m + 1)).map fun k => AV.adr (h3.length + k))) (Cell.obj 0 [("many", .int (m : Int)), ("differences", .adr h1.length), ("heights", .adr h2.length), ("under", .adr (h3 ++ tl).length)]) la3
  have u0 := u3.keep h1.length (by simp; omega) (by omega)
  have v0 := u3.keep h2.length (by simp; omega) (by omega)
  have w0 : ∀ k, k < m + 1 → _ := fun k hk => u3.keep (h3.length + k) (by simp; omega) (by omega)
  have x0 : Ext h (((h3 ++ tl) ++ [Cell.lst ((List.range (m + 1)).map fun k => AV.adr (h3.length + k))]).set o1.a (Cell.obj 0 [("many", .int (m : Int)), ("differences", .adr h1.length), ("heights", .adr h2.length), ("under", .adr (h3 ++ tl).length)])) := by
    have el := ext.len
    refine ⟨by simp; omega, fun b hb => ?_⟩
    rw [u3.keep b (by simp; omega) (by omega)]
    have : cells (h3 ++ tl) b = cells h3 b := by unfold cells; rw [List.getElem?_append_left (by omega)]
    rw [this, f3.keep b (by omega) (by omega)]
    exact ext.keep b hb
  generalize (((h3 ++ tl) ++ [Cell.lst ((List.range (m + 1)).map fun k => AV.adr (h3.length + k))]).set o1.a (Cell.obj 0 [("many", .int (m : Int)), ("differences", .adr h1.length), ("heights", .adr h2.length), ("under", .adr (h3 ++ tl).length)])) = h4 at u0 v0 w0 u1 u2 u3 u4 x0 ⊢
  have el := ext.len
  refine q h4 ⟨o1.a, h1.length, h2.length, (h3 ++ tl).length, (List.range (m + 1)).map (h3.length + ·)⟩ x0 ?_ ?_
  · intro b hb
    simp only [Ob.fp, List.mem_cons, List.mem_map, List.length_append] at hb
    omega
  · refine Hob.born ?_ u1 ?_ ?_ u2 hob.hl ?_ hob.inn
    · simp only [Ob.fp, List.nodup_cons, List.mem_cons, List.mem_map, not_or, List.length_append]
      refine ⟨⟨by omega, by omega, by omega, ?_⟩, ⟨by omega, by omega, ?_⟩, ⟨by omega, ?_⟩, ?_, nodup_off _ _⟩
      all_goals
        rintro ⟨k, hk, e⟩
        have := List.mem_range.mp hk
        omega
    · rw [u0]
      have : cells (h3 ++ tl) h1.length = cells h3 h1.length := by unfold cells; rw [List.getElem?_append_left (by omega)]
      rw [this, t0, s2]
    · rw [v0]
      have : cells (h3 ++ tl) h2.length = cells h3 h2.length := by unfold cells; rw [List.getElem?_append_left (by omega)]
      rw [this, t2]
    · intro k hk
      rw [w0 k hk, cells_off, htl, List.getElem?_map, List.getElem?_range hk]
      rfl
end K13

set_option maxRecDepth 100000
set_option maxHeartbeats 4000000
namespace K13
open PySem L2 VL
theorem law_more_ok {n m r : Nat} {ns vs : List Int} {p : Int} {h : AHeap} {Q} (hr : r ≤ 100) (hm : m ≤ 1000) (hv : vs = [] ∨ m + 1 ≤ vs.length) (q : ∀ es : List Ed, es.length = r → In (m + 1) es → Q (.lst (dl' es)) h) : callN P (n+3) 16 [.ro (il ns), .int p, .int (r : Int), .int (m : Int), .lst (il vs)] h Q := by
  refine ⟨rfl, ?_⟩
  have hz1 : sizeLine = 16777216 := rfl
  show WpSs (ctxOf P (callN P (n+2))) b_law_more _ [.val (.ro (il ns)), .val (.int p), .val (.int (r : Int)), .val (.int (m : Int)), .val (.lst (il vs)), .no, .no, .no, .no, .no, .no, .no] h
  try simp only [b_law_more, k_pow, tens.2.2.2, WpSs, WpS, WpE, WpEs, WpBs, WpO, WpN, WpI, WpC, WpT, getS, setS, tgK, setsS, wipeS, k_add, k_addT, k_sub, k_mul, k_fdiv, k_mod, k_neg, k_lt, k_le, k_gt, k_ge, k_eqI, k_neI, k_eqS, k_neS, k_eqB, k_neB, k_is, k_isn, isNon_non, isNon_int, isNon_str, isNon_lst, isNon_tup, isNon_adr, k_lenS, k_lenL, k_lenR, k_lenT, k_int, k_str, k_abs, tru_bl, augK, ctx_call, ctx_glob, k_in, k_nin, k_inS]
  refine ⟨mulA_l (by decide) (by decide), ⟨by omega, by omega⟩, by simp; omega, ?_⟩
  refine comp_ints (fun _ => (m : Int) + 1) (fun i x R hx r => by simp only [if_true]; exact r) ?_
  rw [List.length_map, List.length_range]
  have tn : (2 * (r : Int)).toNat = 2 * r := by omega
  rw [tn]
  refine draws_ok (sizes_const (by omega) (by omega) _) (by simp; omega) fun ds hl hd => ?_
  simp only [List.length_map, List.length_range] at hl
  try simp only [k_pow, tens.2.2.2, WpSs, WpS, WpE, WpEs, WpBs, WpO, WpN, WpI, WpC, WpT, getS, setS, tgK, setsS, wipeS, k_add, k_addT, k_sub, k_mul, k_fdiv, k_mod, k_neg, k_lt, k_le, k_gt, k_ge, k_eqI, k_neI, k_eqS, k_neS, k_eqB, k_neB, k_is, k_isn, isNon_non, isNon_int, isNon_str, isNon_lst, isNon_tup, isNon_adr, k_lenS, k_lenL, k_lenR, k_lenT, k_int, k_str, k_abs, tru_bl, augK, ctx_call, ctx_glob, k_in, k_nin, k_inS]
  refine ⟨⟨by omega, by omega⟩, by simp; omega, ?_⟩
  refine comp_ints (fun _ => 1000000000000000000000000000000000000000000) (fun i x R hx r => by simp only [if_true]; exact ⟨⟨by decide, by decide, by decide⟩, r⟩) ?_
  rw [List.length_map, List.length_range, Int.toNat_natCast]
  refine draws_ok (sizes_const (by decide) (by decide) _) (by simp; omega) fun ws hw hd2 => ?_
  simp only [List.length_map, List.length_range] at hw
  try simp only [List.length_nil, Nat.zero_le, true_and, Int.toNat_natCast, WpSs, WpS, WpE, WpEs, WpBs, WpO, WpN, WpI, WpC, WpT, getS, setS, tgK, setsS, wipeS, k_add, k_addT, k_sub, k_mul, k_fdiv, k_mod, k_neg, k_lt, k_le, k_gt, k_ge, k_eqI, k_neI, k_eqS, k_neS, k_eqB, k_neB, k_is, k_isn, isNon_non, isNon_int, isNon_str, isNon_lst, isNon_tup, isNon_adr, k_lenS, k_lenL, k_lenR, k_lenT, k_int, k_str, k_abs, tru_bl, augK, ctx_call, ctx_glob, k_in, k_nin, k_inS]
  refine ⟨⟨by omega, by omega⟩, ?_⟩
  refine for_inv (fun i ρ h' => h' = h ∧ ∃ (es : List Ed) (s8 s9 s10 s11 : Slot), es.length = i ∧ In (m + 1) es ∧ ρ = [.val (.ro (il ns)), .val (.int p), .val (.int (r : Int)), .val (.int (m : Int)), .val (.lst (il vs)), .val (.lst (il ds)), .val (.lst (il ws)), .own (.lst (dl' es)), s8, s9, s10, s11]) ⟨rfl, [], _, _, _, _, rfl, fun e he => (nomatch he), rfl⟩ (fun _ _ _ _ _ => by trivial) ?_ ?_
  · rintro i x _ h D' hx ⟨rfl, es, s8, s9, s10, s11, hel, hin, rfl⟩ kn kc kr kb
    obtain ⟨hi, rfl⟩ := items_range hx
    have h1 : 2 * i < ds.length := by omega
    have h2 : 2 * i + 1 < ds.length := by omega
    have h3 : i < ws.length := by omega
    have g1 := hd _ h1 (by simp; omega)
    have g2 := hd _ h2 (by simp; omega)
    simp only [List.getElem_map] at g1 g2
    obtain ⟨u, hu⟩ := nat_of g1.1
    obtain ⟨v, hv'⟩ := nat_of g2.1
    have c1 : 2 * (i : Int) = ((2 * i : Nat) : Int) := by omega
    have c2 : ((2 * i : Nat) : Int) + 1 = ((2 * i + 1 : Nat) : Int) := by omega
    try simp only [b_law_more_2, WpSs, WpS, WpE, WpEs, WpBs, WpO, WpN, WpI, WpC, WpT, getS, setS, tgK, setsS, wipeS, k_add, k_addT, k_sub, k_mul, k_fdiv, k_mod, k_neg, k_lt, k_le, k_gt, k_ge, k_eqI, k_neI, k_eqS, k_neS, k_eqB, k_neB, k_is, k_isn, isNon_non, isNon_int, isNon_str, isNon_lst, isNon_tup, isNon_adr, k_lenS, k_lenL, k_lenR, k_lenT, k_int, k_str, k_abs, tru_bl, augK, ctx_call, ctx_glob, k_in, k_nin, k_inS]
    refine ⟨mulA_l (by decide) (by decide), ?_⟩
    rw [c1]
    refine k_subIl h1 ?_
    refine ⟨mulA_l (by decide) (by decide), ?_⟩
    rw [c2]
    refine k_subIl h2 ?_
    refine k_subIl h3 ?_
    refine weight_ok fun c _ _ => ?_
    rw [hu, hv']
    try simp only [List.length_map, WpSs, WpS, WpE, WpEs, WpBs, WpO, WpN, WpI, WpC, WpT, getS, setS, tgK, setsS, wipeS, k_add, k_addT, k_sub, k_mul, k_fdiv, k_mod, k_neg, k_lt, k_le, k_gt, k_ge, k_eqI, k_neI, k_eqS, k_neS, k_eqB, k_neB, k_is, k_isn, isNon_non, isNon_int, isNon_str, isNon_lst, isNon_tup, isNon_adr, k_lenS, k_lenL, k_lenR, k_lenT, k_int, k_str, k_abs, tru_bl, augK, ctx_call, ctx_glob, k_in, k_nin, k_inS]
    have fin : ∀ c : Int, WpSs (ctxOf P (callN P (n+2))) b_law_more_1 D' [.val (.ro (il ns)), .val (.int p), .val (.int (r : Int)), .val (.int (m : Int)), .val (.lst (il vs)), .val (.lst (il ds)), .val (.lst (il ws)), .own (.lst (dl' es)), .val (.int (i : Int)), .val (.int (u : Int)), .val (.int (v : Int)), .val (.int c)] h := by
      intro c
      try simp only [b_law_more_1, List.length_cons, List.length_nil, List.length_map, ed_one, WpSs, WpS, WpE, WpEs, WpBs, WpO, WpN, WpI, WpC, WpT, getS, setS, tgK, setsS, wipeS, k_add, k_addT, k_sub, k_mul, k_fdiv, k_mod, k_neg, k_lt, k_le, k_gt, k_ge, k_eqI, k_neI, k_eqS, k_neS, k_eqB, k_neB, k_is, k_isn, isNon_non, isNon_int, isNon_str, isNon_lst, isNon_tup, isNon_adr, k_lenS, k_lenL, k_lenR, k_lenT, k_int, k_str, k_abs, tru_bl, augK, ctx_call, ctx_glob, k_in, k_nin, k_inS]
      refine ⟨by omega, by omega, ?_⟩
      refine kn _ _ ⟨rfl, es ++ [(u, v, c)], _, _, _, _, by simp [hel], fun e he => ?_, rfl⟩
      rcases List.mem_append.mp he with he | he
      · exact hin e he
      · rw [List.mem_singleton.mp he]
        exact ⟨by show u < m + 1; omega, by show v < m + 1; omega⟩
    refine ite_b (fun cl => ?_) (fun cl => fin c)
    have hvl : m + 1 ≤ vs.length := by
      rcases hv with hv | hv
      · rw [hv] at cl; exact absurd cl (by decide)
      · exact hv
    refine k_subIl (j := u) (by omega) ?_
    refine k_subIl (j := v) (by omega) ?_
    try simp only [k_max2, WpSs, WpS, WpE, WpEs, WpBs, WpO, WpN, WpI, WpC, WpT, getS, setS, tgK, setsS, wipeS, k_add, k_addT, k_sub, k_mul, k_fdiv, k_mod, k_neg, k_lt, k_le, k_gt, k_ge, k_eqI, k_neI, k_eqS, k_neS, k_eqB, k_neB, k_is, k_isn, isNon_non, isNon_int, isNon_str, isNon_lst, isNon_tup, isNon_adr, k_lenS, k_lenL, k_lenR, k_lenT, k_int, k_str, k_abs, tru_bl, augK, ctx_call, ctx_glob, k_in, k_nin, k_inS]
    exact fin _
  · rintro _ h ⟨rfl, es, s8, s9, s10, s11, hel, hin, rfl⟩
    simp only [List.length_map, List.length_range] at hel
    try simp only [b_law_more_3, WpSs, WpS, WpE, WpEs, WpBs, WpO, WpN, WpI, WpC, WpT, getS, setS, tgK, setsS, wipeS, k_add, k_addT, k_sub, k_mul, k_fdiv, k_mod, k_neg, k_lt, k_le, k_gt, k_ge, k_eqI, k_neI, k_eqS, k_neS, k_eqB, k_neB, k_is, k_isn, isNon_non, isNon_int, isNon_str, isNon_lst, isNon_tup, isNon_adr, k_lenS, k_lenL, k_lenR, k_lenT, k_int, k_str, k_abs, tru_bl, augK, ctx_call, ctx_glob, k_in, k_nin, k_inS]
    exact q es hel hin
/-- differences are taken one by one -/
structure Fr2 (o : Ob) (b : Nat) (h h' : AHeap) : Prop where
  len : h.length ≤ h'.length
  keep : ∀ x, x < h.length → x ∉ o.fp → x ≠ b → cells h' x = cells h x
theorem Fr2.trans {o : Ob} {b : Nat} {h h' h'' : AHeap} (x : Fr2 o b h h') (y : Fr2 o b h' h'') : Fr2 o b h h'' := ⟨Nat.le_trans x.len y.len, fun a h1 h2 h3 => (y.keep a (Nat.lt_of_lt_of_le h1 x.len) h2 h3).trans (x.keep a h1 h2 h3)⟩
theorem Fr2.fr {o : Ob} {b : Nat} {h h' : AHeap} (x : Fr o h h') : Fr2 o b h h' := ⟨x.len, fun a h1 h2 _ => x.keep a h1 h2⟩
theorem Fr2.ext {o : Ob} {b : Nat} {h h' : AHeap} (x : Ext h h') : Fr2 o b h h' := ⟨x.len, fun a h1 _ _ => x.keep a h1⟩
theorem Fr2.set {o : Ob} {b : Nat} {h : AHeap} (c : Cell) : Fr2 o b h (h.set b c) := ⟨by simp, fun a _ _ h3 => cells_put (Ne.symm h3)⟩
theorem goes_ok {n m b : Nat} {h : AHeap} {o : Ob} {D es : List Ed} {hs : List Int} {Q} (hob : Hob h o m D hs) (g : Great D (m + 1) (hf hs)) (hb : cells h b = .lst (dl' D)) (nb : b ∉ o.fp) (ie : In (m + 1) es) (hm : m ≤ 12) (hD : D.length + es.length ≤ 18)
    (qn : ∀ h' hs', Hob h' o m (D ++ es) hs' → Great (D ++ es) (m + 1) (hf hs') → cells h' b = .lst (dl' (D ++ es)) → Fr2 o b h h' → Q (.lst []) h') (qr : ∀ h', Fr2 o b h h' → Q (.lst [.bl true]) h') :
    callN P (n+4) 17 [.adr o.a, .adr b, .lst (dl' es), .int (m : Int)] h Q := by
  refine ⟨rfl, ?_⟩
  have hz1 : sizeLine = 16777216 := rfl
  show WpSs (ctxOf P (callN P (n+3))) b_law_goes _ [.val (.adr o.a), .val (.adr b), .val (.lst (dl' es)), .val (.int (m : Int)), .no, .no] h
  try simp only [b_law_goes, viewT_lst, WpSs, WpS, WpE, WpEs, WpBs, WpO, WpN, WpI, WpC, WpT, getS, setS, tgK, setsS, wipeS, k_add, k_addT, k_sub, k_mul, k_fdiv, k_mod, k_neg, k_lt, k_le, k_gt, k_ge, k_eqI, k_neI, k_eqS, k_neS, k_eqB, k_neB, k_is, k_isn, isNon_non, isNon_int, isNon_str, isNon_lst, isNon_tup, isNon_adr, k_lenS, k_lenL, k_lenR, k_lenT, k_int, k_str, k_abs, tru_bl, augK, ctx_call, ctx_glob, k_in, k_nin, k_inS]
  refine for_inv (fun i ρ h' => ∃ (hs' : List Int) (s4 s5 : Slot), Hob h' o m (D ++ es.take i) hs' ∧ Great (D ++ es.take i) (m + 1) (hf hs') ∧ cells h' b = .lst (dl' (D ++ es.take i)) ∧ Fr2 o b h h' ∧ ρ = [.val (.adr o.a), .val (.adr b), .val (.lst (dl' es)), .val (.int (m : Int)), s4, s5])
    ⟨hs, _, _, by rw [List.take_zero, List.append_nil]; exact hob, by rw [List.take_zero, List.append_nil]; exact g, by rw [List.take_zero, List.append_nil]; exact hb, ⟨Nat.le_refl _, fun _ _ _ _ => rfl⟩, rfl⟩ (fun _ _ _ _ _ => by trivial) ?_ ?_
  · rintro i x _ h1 D2 hx ⟨hs1, s4, s5, ho1, g1, hb1, f1, rfl⟩ kn kc kr kb
    obtain ⟨e, he, rfl⟩ := items_map hx
    obtain ⟨hil, _⟩ := List.getElem?_eq_some_iff.mp he
    have ei := ie e (List.mem_of_getElem? he)
    have tk : D ++ es.take (i + 1) = (D ++ es.take i) ++ [e] := by rw [List.take_succ, he, List.append_assoc]; rfl
    have ka := ho1.at_
    have no : ([("many", AV.int (m : Int)), ("differences", .adr o.d), ("heights", .adr o.hh), ("under", .adr o.uu)] : List (Str × AV)).lookup ("tie" : Str) = none := rfl
    have me : (ctxOf P (callN P (n+3))).meth 0 "tie" = some 2 := rfl
    try simp only [b_law_goes_2, ka, no, me, WpSs, WpS, WpE, WpEs, WpBs, WpO, WpN, WpI, WpC, WpT, getS, setS, tgK, setsS, wipeS, k_add, k_addT, k_sub, k_mul, k_fdiv, k_mod, k_neg, k_lt, k_le, k_gt, k_ge, k_eqI, k_neI, k_eqS, k_neS, k_eqB, k_neB, k_is, k_isn, isNon_non, isNon_int, isNon_str, isNon_lst, isNon_tup, isNon_adr, k_lenS, k_lenL, k_lenR, k_lenT, k_int, k_str, k_abs, tru_bl, augK, ctx_call, ctx_glob, k_in, k_nin, k_inS]
    have tl : (es.take i).length = i := by rw [List.length_take]; omega
    have blt : b < h1.length := cells_ne (by rw [hb1]; intro z; cases z)
    have bk : ∀ {h2}, Fr o h1 h2 → cells h2 b = .lst (dl' (D ++ es.take i)) := fun {h2} f => (f.keep b blt nb).trans hb1
    have inn1 : In (m + 1) (D ++ es.take (i + 1)) := by
      intro x hx
      rw [tk] at hx
      rcases List.mem_append.mp hx with hx | hx
      · exact ho1.inn x hx
      · rw [List.mem_singleton.mp hx]; exact ei
    refine tie_ok (u := e.1) (v := e.2.1) (c := e.2.2) ho1 g1 ei.1 ei.2 hm (by rw [List.length_append]; omega) (fun h2 hs2 ho2 g2 f2 => ?_) (fun ring h2 r f2 => ?_)
    · have hb2 := bk f2
      rw [← tk] at ho2 g2
      have blt2 : b < h2.length := Nat.lt_of_lt_of_le blt f2.len
      have e1 : dl' (D ++ es.take i) ++ [ed e] = dl' (D ++ es.take (i + 1)) := by rw [dl_snoc, tk]
      try simp only [hb2, appC, e1, WpSs, WpS, WpE, WpEs, WpBs, WpO, WpN, WpI, WpC, WpT, getS, setS, tgK, setsS, wipeS, k_add, k_addT, k_sub, k_mul, k_fdiv, k_mod, k_neg, k_lt, k_le, k_gt, k_ge, k_eqI, k_neI, k_eqS, k_neS, k_eqB, k_neB, k_is, k_isn, isNon_non, isNon_int, isNon_str, isNon_lst, isNon_tup, isNon_adr, k_lenS, k_lenL, k_lenR, k_lenT, k_int, k_str, k_abs, tru_bl, augK, ctx_call, ctx_glob, k_in, k_nin, k_inS]
      refine ⟨by rw [List.length_map, List.length_append]; omega, ?_⟩
      have hb3 : cells (h2.set b (Cell.lst (dl' (D ++ es.take (i + 1))))) b = _ := cells_set blt2
      have ho3 : Hob (h2.set b (Cell.lst (dl' (D ++ es.take (i + 1))))) o m (D ++ es.take (i + 1)) hs2 := ho2.frame fun x hx => cells_put fun z => nb (z ▸ hx)
      refine can_true (view_adr hb3) inn1 (by omega) ho3.hl g2 ?_
      try simp only [Bool.not_true, Bool.false_eq_true, if_false, isNon_non, b_law_goes_1, WpSs, WpS, WpE, WpEs, WpBs, WpO, WpN, WpI, WpC, WpT, getS, setS, tgK, setsS, wipeS, k_add, k_addT, k_sub, k_mul, k_fdiv, k_mod, k_neg, k_lt, k_le, k_gt, k_ge, k_eqI, k_neI, k_eqS, k_neS, k_eqB, k_neB, k_is, k_isn, isNon_non, isNon_int, isNon_str, isNon_lst, isNon_tup, isNon_adr, k_lenS, k_lenL, k_lenR, k_lenT, k_int, k_str, k_abs, tru_bl, augK, ctx_call, ctx_glob, k_in, k_nin, k_inS]
      refine fits_ok ho3 g2 hb3 hm (by rw [List.length_append, List.length_take]; omega) fun h4 x4 => ?_
      try simp only [Bool.not_true, Bool.false_eq_true, if_false, WpSs, WpS, WpE, WpEs, WpBs, WpO, WpN, WpI, WpC, WpT, getS, setS, tgK, setsS, wipeS, k_add, k_addT, k_sub, k_mul, k_fdiv, k_mod, k_neg, k_lt, k_le, k_gt, k_ge, k_eqI, k_neI, k_eqS, k_neS, k_eqB, k_neB, k_is, k_isn, isNon_non, isNon_int, isNon_str, isNon_lst, isNon_tup, isNon_adr, k_lenS, k_lenL, k_lenR, k_lenT, k_int, k_str, k_abs, tru_bl, augK, ctx_call, ctx_glob, k_in, k_nin, k_inS]
      exact kn _ _ ⟨hs2, _, _, x4.hob ho3, g2, (x4.keep b (by simpa using blt2)).trans hb3, f1.trans ((Fr2.fr f2).trans ((Fr2.set _).trans (Fr2.ext x4))), rfl⟩
    · have hb2 := bk f2
      have blt2 : b < h2.length := Nat.lt_of_lt_of_le blt f2.len
      have e1 : dl' (D ++ es.take i) ++ [ed e] = dl' (D ++ es.take (i + 1)) := by rw [dl_snoc, tk]
      try simp only [hb2, appC, e1, WpSs, WpS, WpE, WpEs, WpBs, WpO, WpN, WpI, WpC, WpT, getS, setS, tgK, setsS, wipeS, k_add, k_addT, k_sub, k_mul, k_fdiv, k_mod, k_neg, k_lt, k_le, k_gt, k_ge, k_eqI, k_neI, k_eqS, k_neS, k_eqB, k_neB, k_is, k_isn, isNon_non, isNon_int, isNon_str, isNon_lst, isNon_tup, isNon_adr, k_lenS, k_lenL, k_lenR, k_lenT, k_int, k_str, k_abs, tru_bl, augK, ctx_call, ctx_glob, k_in, k_nin, k_inS]
      refine ⟨by rw [List.length_map, List.length_append]; omega, ?_⟩
      have hb3 : cells (h2.set b (Cell.lst (dl' (D ++ es.take (i + 1))))) b = _ := cells_set blt2
      have r' : Ring (D ++ es.take (i + 1)) m ring := by rw [tk]; exact r
      refine can_false (view_adr hb3) inn1 (by omega) r'.no ?_
      try simp only [Bool.not_false, if_true, WpSs, WpS, WpE, WpEs, WpBs, WpO, WpN, WpI, WpC, WpT, getS, setS, tgK, setsS, wipeS, k_add, k_addT, k_sub, k_mul, k_fdiv, k_mod, k_neg, k_lt, k_le, k_gt, k_ge, k_eqI, k_neI, k_eqS, k_neS, k_eqB, k_neB, k_is, k_isn, isNon_non, isNon_int, isNon_str, isNon_lst, isNon_tup, isNon_adr, k_lenS, k_lenL, k_lenR, k_lenT, k_int, k_str, k_abs, tru_bl, augK, ctx_call, ctx_glob, k_in, k_nin, k_inS]
      refine is_ring_ok (view_adr hb3) (fun _ h => by cases h) (by omega) r' ?_
      exact ⟨by show 1 ≤ _; omega, kr _ _ (qr _ (f1.trans ((Fr2.fr f2).trans (Fr2.set _))))⟩
  · rintro _ h' ⟨hs', s4, s5, ho', g', hb', f', rfl⟩
    rw [List.length_map, List.take_length] at ho' g' hb'
    try simp only [b_law_goes_3, WpSs, WpS, WpE, WpEs, WpBs, WpO, WpN, WpI, WpC, WpT, getS, setS, tgK, setsS, wipeS, k_add, k_addT, k_sub, k_mul, k_fdiv, k_mod, k_neg, k_lt, k_le, k_gt, k_ge, k_eqI, k_neI, k_eqS, k_neS, k_eqB, k_neB, k_is, k_isn, isNon_non, isNon_int, isNon_str, isNon_lst, isNon_tup, isNon_adr, k_lenS, k_lenL, k_lenR, k_lenT, k_int, k_str, k_abs, tru_bl, augK, ctx_call, ctx_glob, k_in, k_nin, k_inS]
    exact ⟨Nat.zero_le _, qn h' hs' ho' g' hb' f'⟩
end K13

set_option maxRecDepth 100000
set_option maxHeartbeats 4000000
namespace K13
open PySem L2 VL
def Ap (o p : Ob) : Prop := ∀ x ∈ o.fp, x ∉ p.fp
/-- an object with the list that the law keeps of it -/
structure Wt (h : AHeap) (o : Ob) (b m : Nat) (D : List Ed) (hs : List Int) : Prop where
  hob : Hob h o m D hs
  gr : Great D (m + 1) (hf hs)
  cb : cells h b = .lst (dl' D)
  nb : b ∉ o.fp
theorem Wt.lt {h : AHeap} {o : Ob} {b m : Nat} {D : List Ed} {hs : List Int} (w : Wt h o b m D hs) : b < h.length := cells_ne (by rw [w.cb]; intro z; cases z)
theorem Wt.ext {h h' : AHeap} {o : Ob} {b m : Nat} {D : List Ed} {hs : List Int} (w : Wt h o b m D hs) (x : Ext h h') : Wt h' o b m D hs := ⟨x.hob w.hob, w.gr, (x.keep b w.lt).trans w.cb, w.nb⟩
theorem Wt.fr {h h' : AHeap} {o p : Ob} {b c m : Nat} {D : List Ed} {hs : List Int} (w : Wt h o b m D hs) (x : Fr2 p c h h') (a : Ap o p) (h1 : c ∉ o.fp) (h2 : b ∉ p.fp) (h3 : b ≠ c) : Wt h' o b m D hs :=
  ⟨w.hob.frame fun y hy => x.keep y (w.hob.lt y hy) (a y hy) fun z => h1 (z ▸ hy), w.gr, (x.keep b w.lt h2 h3).trans w.cb, w.nb⟩
theorem k_notin {h : AHeap} {told : List AV} {Q : KA} (ht : told = [] ∨ told = [.bl true]) (q : Q (.bl true)) : inK h true (.bl false) (.lst told) Q := by
  rcases ht with rfl | rfl <;> exact ⟨rfl, rfl, q⟩
theorem k_isin {h : AHeap} {told : List AV} {Q : KA} (ht : told = [] ∨ told = [.bl true]) (q : Q (.bl false)) : inK h false (.bl false) (.lst told) Q := by
  rcases ht with rfl | rfl <;> exact ⟨rfl, rfl, q⟩
section
variable {n : Nat} {ns ds vs : List Int} {m r : Nat} {h : AHeap} {o p t : Ob} {b c e : Nat} {D E : List Ed} {hs ps ts : List Int} {told : List AV}
def Q1 : AV → AHeap → Prop := fun d _ => d = .bl true
abbrev D1 : Kt := { nx := fun _ h => Q1 .non h, rt := Q1 }
/-- what is drawn at the beginning -/
structure Shp (ds : List Int) (m r : Nat) (vs : List Int) : Prop where
  len : ds.length = 7
  g : ∀ i : Nat, (h : i < ds.length) → 0 ≤ ds[i] ∧ ds[i] < 10
  s2 : ∀ h : 2 < ds.length, ds[2] < 9
  s4 : ∀ h : 4 < ds.length, ds[4] < 9
  s5 : ∀ h : 5 < ds.length, ds[5] < 6
  m8 : m ≤ 8
  mr : m ≤ r
  r12 : r ≤ 12
  vs : vs = [] ∨ r + 1 ≤ vs.length
/-- the twin goes on by itself -/
theorem law_1_ok (sh : Shp ds m r vs) (w2 : Wt h p c m E ps) (hE : E.length ≤ 10) (ht : told = [] ∨ told = [.bl true]) (w1 : told = [] → Wt h o b r D hs ∧ D.length ≤ 18 ∧ Ap o p ∧ c ∉ o.fp ∧ b ∉ p.fp ∧ b ≠ c) {s7 s11 s12 s13 s14 s15 : Slot} :
    WpSs (ctxOf P (callN P (n+4))) b_law_1 D1 [.val (.ro (il ns)), .val (.lst (il ds)), .val (.int (m : Int)), .val (.int (r : Int)), .val (.lst (il vs)), .val (.adr o.a), .val (.adr b), s7, .val (.lst told), .val (.adr p.a), .val (.adr c), s11, s12, s13, s14, s15] h := by
  have l := sh.len
  have h5 := sh.g 5 (by omega)
  have h5' := sh.s5 (by omega)
  obtain ⟨r5, e5⟩ := nat_of h5.1
  have m8 := sh.m8
  have mr := sh.mr
  have r12 := sh.r12
  have vsk : vs = [] ∨ m + 1 ≤ vs.length := by rcases sh.vs with z | z; exact .inl z; exact .inr (by omega)
  try simp only [b_law_1, WpSs, WpS, WpE, WpEs, WpBs, WpO, WpN, WpI, WpC, WpT, getS, setS, tgK, setsS, wipeS, k_add, k_addT, k_sub, k_mul, k_fdiv, k_mod, k_neg, k_lt, k_le, k_gt, k_ge, k_eqI, k_neI, k_eqS, k_neS, k_eqB, k_neB, k_is, k_isn, isNon_non, isNon_int, isNon_str, isNon_lst, isNon_tup, isNon_adr, k_lenS, k_lenL, k_lenR, k_lenT, k_int, k_str, k_abs, tru_bl, augK, ctx_call, ctx_glob, k_in, k_nin, k_inS]
  refine k_subIl (j := 5) (by omega) ?_
  try simp only [e5, WpSs, WpS, WpE, WpEs, WpBs, WpO, WpN, WpI, WpC, WpT, getS, setS, tgK, setsS, wipeS, k_add, k_addT, k_sub, k_mul, k_fdiv, k_mod, k_neg, k_lt, k_le, k_gt, k_ge, k_eqI, k_neI, k_eqS, k_neS, k_eqB, k_neB, k_is, k_isn, isNon_non, isNon_int, isNon_str, isNon_lst, isNon_tup, isNon_adr, k_lenS, k_lenL, k_lenR, k_lenT, k_int, k_str, k_abs, tru_bl, augK, ctx_call, ctx_glob, k_in, k_nin, k_inS]
  refine law_more_ok (r := r5) (by omega) (by omega) vsk fun es hl ie => ?_
  try simp only [WpSs, WpS, WpE, WpEs, WpBs, WpO, WpN, WpI, WpC, WpT, getS, setS, tgK, setsS, wipeS, k_add, k_addT, k_sub, k_mul, k_fdiv, k_mod, k_neg, k_lt, k_le, k_gt, k_ge, k_eqI, k_neI, k_eqS, k_neS, k_eqB, k_neB, k_is, k_isn, isNon_non, isNon_int, isNon_str, isNon_lst, isNon_tup, isNon_adr, k_lenS, k_lenL, k_lenR, k_lenT, k_int, k_str, k_abs, tru_bl, augK, ctx_call, ctx_glob, k_in, k_nin, k_inS]
  have fin : ∀ (h' : AHeap) (told' : List AV), (told' = [] ∨ told' = [.bl true]) → Fr2 p c h h' → WpSs (ctxOf P (callN P (n+4))) (.cons (.ret (.and (.cmp .NotIn (.cbl false) (.var 8)) (.or (.var 13) (.call 15 (.cons (.var 5) (.cons (.var 6) (.cons (.var 3) .nil))))))) .nil) D1 [.val (.ro (il ns)), .val (.lst (il ds)), .val (.int (m : Int)), .val (.int (r : Int)), .val (.lst (il vs)), .val (.adr o.a), .val (.adr b), s7, .val (.lst told'), .val (.adr p.a), .val (.adr c), s11, s12, .val (.bl (decide ((0 : Int) < told.length))), s14, s15] h' := by
    intro h' told' ht' f
    try simp only [WpSs, WpS, WpE, WpEs, WpBs, WpO, WpN, WpI, WpC, WpT, getS, setS, tgK, setsS, wipeS, k_add, k_addT, k_sub, k_mul, k_fdiv, k_mod, k_neg, k_lt, k_le, k_gt, k_ge, k_eqI, k_neI, k_eqS, k_neS, k_eqB, k_neB, k_is, k_isn, isNon_non, isNon_int, isNon_str, isNon_lst, isNon_tup, isNon_adr, k_lenS, k_lenL, k_lenR, k_lenT, k_int, k_str, k_abs, tru_bl, augK, ctx_call, ctx_glob, k_in, k_nin, k_inS]
    refine k_notin ht' ?_
    rcases ht with rfl | rfl
    · obtain ⟨w, hD, a1, a2, a3, a4⟩ := w1 rfl
      have d : decide ((0 : Int) < (([] : List AV).length : Int)) = false := rfl
      try simp only [d, WpSs, WpS, WpE, WpEs, WpBs, WpO, WpN, WpI, WpC, WpT, getS, setS, tgK, setsS, wipeS, k_add, k_addT, k_sub, k_mul, k_fdiv, k_mod, k_neg, k_lt, k_le, k_gt, k_ge, k_eqI, k_neI, k_eqS, k_neS, k_eqB, k_neB, k_is, k_isn, isNon_non, isNon_int, isNon_str, isNon_lst, isNon_tup, isNon_adr, k_lenS, k_lenL, k_lenR, k_lenT, k_int, k_str, k_abs, tru_bl, augK, ctx_call, ctx_glob, k_in, k_nin, k_inS]
      have w' := w.fr f a1 a2 a3 a4
      exact fits_ok w'.hob w'.gr w'.cb r12 (by omega) fun _ _ => rfl
    · have d : decide ((0 : Int) < (([AV.bl true] : List AV).length : Int)) = true := rfl
      simp only [d]
      exact rfl
  refine goes_ok w2.hob w2.gr w2.cb w2.nb ie (by omega) (by omega) (fun h' hs' _ _ _ f => ?_) (fun h' f => ?_)
  · exact fin h' [] (.inl rfl) f
  · exact fin h' [.bl true] (.inr rfl) f
theorem law_2_ok (sh : Shp ds m r vs) (w1 : Wt h o b r D hs) (w2 : Wt h p c m E ps) (w3 : Wt h t e r D ts) (hE : E.length ≤ 10) (hD : D.length ≤ 10) (a12 : Ap o p ∧ c ∉ o.fp ∧ b ∉ p.fp ∧ b ≠ c) (a21 : Ap p o) (a31 : Ap t o ∧ e ∉ o.fp ∧ b ∉ t.fp ∧ b ≠ e) {s7 s8 s13 s14 s15 : Slot} :
    WpSs (ctxOf P (callN P (n+4))) b_law_2 D1 [.val (.ro (il ns)), .val (.lst (il ds)), .val (.int (m : Int)), .val (.int (r : Int)), .val (.lst (il vs)), .val (.adr o.a), .val (.adr b), s7, s8, .val (.adr p.a), .val (.adr c), .val (.adr t.a), .val (.adr e), s13, s14, s15] h := by
  have l := sh.len
  have h4 := sh.g 4 (by omega)
  have h4' := sh.s4 (by omega)
  obtain ⟨r4, e4⟩ := nat_of h4.1
  have m8 := sh.m8
  have mr := sh.mr
  have r12 := sh.r12
  try simp only [b_law_2, WpSs, WpS, WpE, WpEs, WpBs, WpO, WpN, WpI, WpC, WpT, getS, setS, tgK, setsS, wipeS, k_add, k_addT, k_sub, k_mul, k_fdiv, k_mod, k_neg, k_lt, k_le, k_gt, k_ge, k_eqI, k_neI, k_eqS, k_neS, k_eqB, k_neB, k_is, k_isn, isNon_non, isNon_int, isNon_str, isNon_lst, isNon_tup, isNon_adr, k_lenS, k_lenL, k_lenR, k_lenT, k_int, k_str, k_abs, tru_bl, augK, ctx_call, ctx_glob, k_in, k_nin, k_inS]
  refine k_subIl (j := 4) (by omega) ?_
  try simp only [e4, WpSs, WpS, WpE, WpEs, WpBs, WpO, WpN, WpI, WpC, WpT, getS, setS, tgK, setsS, wipeS, k_add, k_addT, k_sub, k_mul, k_fdiv, k_mod, k_neg, k_lt, k_le, k_gt, k_ge, k_eqI, k_neI, k_eqS, k_neS, k_eqB, k_neB, k_is, k_isn, isNon_non, isNon_int, isNon_str, isNon_lst, isNon_tup, isNon_adr, k_lenS, k_lenL, k_lenR, k_lenT, k_int, k_str, k_abs, tru_bl, augK, ctx_call, ctx_glob, k_in, k_nin, k_inS]
  refine law_more_ok (r := r4) (by omega) (by omega) sh.vs fun es hl ie => ?_
  try simp only [WpSs, WpS, WpE, WpEs, WpBs, WpO, WpN, WpI, WpC, WpT, getS, setS, tgK, setsS, wipeS, k_add, k_addT, k_sub, k_mul, k_fdiv, k_mod, k_neg, k_lt, k_le, k_gt, k_ge, k_eqI, k_neI, k_eqS, k_neS, k_eqB, k_neB, k_is, k_isn, isNon_non, isNon_int, isNon_str, isNon_lst, isNon_tup, isNon_adr, k_lenS, k_lenL, k_lenR, k_lenT, k_int, k_str, k_abs, tru_bl, augK, ctx_call, ctx_glob, k_in, k_nin, k_inS]
  have fin : ∀ (h' : AHeap) (told : List AV), (told = [] ∨ told = [.bl true]) → Fr2 o b h h' → (told = [] → ∃ D' hs', Wt h' o b r D' hs' ∧ D'.length ≤ 18) → WpSs (ctxOf P (callN P (n+4))) (.cons (.ite (.or (.cmp .In (.cbl false) (.var 8)) (.or (.not (.tru (.call 15 (.cons (.var 9) (.cons (.var 10) (.cons (.var 2) .nil)))))) (.not (.tru (.call 15 (.cons (.var 11) (.cons (.var 12) (.cons (.var 3) .nil)))))))) (.cons (.ret (.cbl false)) .nil) .nil) b_law_1) D1 [.val (.ro (il ns)), .val (.lst (il ds)), .val (.int (m : Int)), .val (.int (r : Int)), .val (.lst (il vs)), .val (.adr o.a), .val (.adr b), s7, .val (.lst told), .val (.adr p.a), .val (.adr c), .val (.adr t.a), .val (.adr e), s13, s14, s15] h' := by
    intro h' told ht f w1'
    have w2' := w2.fr f a21 a12.2.2.1 a12.2.1 (Ne.symm a12.2.2.2)
    have w3' := w3.fr f a31.1 a31.2.2.1 a31.2.1 (Ne.symm a31.2.2.2)
    try simp only [WpSs, WpS, WpE, WpEs, WpBs, WpO, WpN, WpI, WpC, WpT, getS, setS, tgK, setsS, wipeS, k_add, k_addT, k_sub, k_mul, k_fdiv, k_mod, k_neg, k_lt, k_le, k_gt, k_ge, k_eqI, k_neI, k_eqS, k_neS, k_eqB, k_neB, k_is, k_isn, isNon_non, isNon_int, isNon_str, isNon_lst, isNon_tup, isNon_adr, k_lenS, k_lenL, k_lenR, k_lenT, k_int, k_str, k_abs, tru_bl, augK, ctx_call, ctx_glob, k_in, k_nin, k_inS]
    refine k_isin ht ?_
    try simp only [Bool.false_eq_true, if_false, WpSs, WpS, WpE, WpEs, WpBs, WpO, WpN, WpI, WpC, WpT, getS, setS, tgK, setsS, wipeS, k_add, k_addT, k_sub, k_mul, k_fdiv, k_mod, k_neg, k_lt, k_le, k_gt, k_ge, k_eqI, k_neI, k_eqS, k_neS, k_eqB, k_neB, k_is, k_isn, isNon_non, isNon_int, isNon_str, isNon_lst, isNon_tup, isNon_adr, k_lenS, k_lenL, k_lenR, k_lenT, k_int, k_str, k_abs, tru_bl, augK, ctx_call, ctx_glob, k_in, k_nin, k_inS]
    refine fits_ok w2'.hob w2'.gr w2'.cb (by omega) (by omega) fun h2 x2 => ?_
    have w3'' := w3'.ext x2
    try simp only [Bool.not_true, Bool.false_eq_true, if_false, WpSs, WpS, WpE, WpEs, WpBs, WpO, WpN, WpI, WpC, WpT, getS, setS, tgK, setsS, wipeS, k_add, k_addT, k_sub, k_mul, k_fdiv, k_mod, k_neg, k_lt, k_le, k_gt, k_ge, k_eqI, k_neI, k_eqS, k_neS, k_eqB, k_neB, k_is, k_isn, isNon_non, isNon_int, isNon_str, isNon_lst, isNon_tup, isNon_adr, k_lenS, k_lenL, k_lenR, k_lenT, k_int, k_str, k_abs, tru_bl, augK, ctx_call, ctx_glob, k_in, k_nin, k_inS]
    refine fits_ok w3''.hob w3''.gr w3''.cb (by omega) (by omega) fun h3 x3 => ?_
    try simp only [Bool.not_true, Bool.false_eq_true, if_false, WpSs, WpS, WpE, WpEs, WpBs, WpO, WpN, WpI, WpC, WpT, getS, setS, tgK, setsS, wipeS, k_add, k_addT, k_sub, k_mul, k_fdiv, k_mod, k_neg, k_lt, k_le, k_gt, k_ge, k_eqI, k_neI, k_eqS, k_neS, k_eqB, k_neB, k_is, k_isn, isNon_non, isNon_int, isNon_str, isNon_lst, isNon_tup, isNon_adr, k_lenS, k_lenL, k_lenR, k_lenT, k_int, k_str, k_abs, tru_bl, augK, ctx_call, ctx_glob, k_in, k_nin, k_inS]
    refine law_1_ok sh ((w2'.ext x2).ext x3) hE ht (fun z => ?_) (D := (if hh : told = [] then Classical.choose (w1' hh) else [])) (hs := (if hh : told = [] then Classical.choose (Classical.choose_spec (w1' hh)) else []))
    rw [dif_pos z, dif_pos z]
    have w := Classical.choose_spec (Classical.choose_spec (w1' z))
    exact ⟨(w.1.ext x2).ext x3, w.2, a12⟩
  refine goes_ok w1.hob w1.gr w1.cb w1.nb ie (by omega) (by omega) (fun h' hs' a b c f => ?_) (fun h' f => ?_)
  · exact fin h' [] (.inl rfl) f fun _ => ⟨_, _, ⟨a, b, c, w1.nb⟩, by rw [List.length_append]; omega⟩
  · exact fin h' [.bl true] (.inr rfl) f fun z => by cases z
theorem law_3_ok (sh : Shp ds m r vs) (w1 : Wt h o b m D hs) (hD : D.length ≤ 10) {s7 s8 s9 s10 s11 s12 s13 s14 s15 : Slot} :
    WpSs (ctxOf P (callN P (n+4))) b_law_3 D1 [.val (.ro (il ns)), .val (.lst (il ds)), .val (.int (m : Int)), .val (.int (r : Int)), .val (.lst (il vs)), .val (.adr o.a), .val (.adr b), s7, s8, s9, s10, s11, s12, s13, s14, s15] h := by
  have m8 := sh.m8
  have mr := sh.mr
  have r12 := sh.r12
  have ka := w1.hob.at_
  have no : ∀ (k : Int) (f : Str), f = "twin" ∨ f = "grow" → ([("many", AV.int k), ("differences", .adr o.d), ("heights", .adr o.hh), ("under", .adr o.uu)] : List (Str × AV)).lookup f = none := by rintro k f (rfl | rfl) <;> rfl
  have me : (ctxOf P (callN P (n+4))).meth 0 "twin" = some 9 := rfl
  have me2 : (ctxOf P (callN P (n+4))).meth 0 "grow" = some 1 := rfl
  try simp only [b_law_3, ka, no _ "twin" (.inl rfl), me, WpSs, WpS, WpE, WpEs, WpBs, WpO, WpN, WpI, WpC, WpT, getS, setS, tgK, setsS, wipeS, k_add, k_addT, k_sub, k_mul, k_fdiv, k_mod, k_neg, k_lt, k_le, k_gt, k_ge, k_eqI, k_neI, k_eqS, k_neS, k_eqB, k_neB, k_is, k_isn, isNon_non, isNon_int, isNon_str, isNon_lst, isNon_tup, isNon_adr, k_lenS, k_lenL, k_lenR, k_lenT, k_int, k_str, k_abs, tru_bl, augK, ctx_call, ctx_glob, k_in, k_nin, k_inS]
  refine twin_ok w1.hob (by omega) fun h1 p x1 np hp => ?_
  have w1a := w1.ext x1
  have vb := view_adr w1a.cb
  try simp only [vb, WpSs, WpS, WpE, WpEs, WpBs, WpO, WpN, WpI, WpC, WpT, getS, setS, tgK, setsS, wipeS, k_add, k_addT, k_sub, k_mul, k_fdiv, k_mod, k_neg, k_lt, k_le, k_gt, k_ge, k_eqI, k_neI, k_eqS, k_neS, k_eqB, k_neB, k_is, k_isn, isNon_non, isNon_int, isNon_str, isNon_lst, isNon_tup, isNon_adr, k_lenS, k_lenL, k_lenR, k_lenT, k_int, k_str, k_abs, tru_bl, augK, ctx_call, ctx_glob, k_in, k_nin, k_inS]
  have x2 := Ext.push h1 (Cell.lst (dl' D))
  have w1b := w1a.ext x2
  have wp : Wt (h1 ++ [Cell.lst (dl' D)]) p h1.length m D hs := ⟨x2.hob hp, w1.gr, cells_last _ _, fun z => absurd (hp.lt _ z) (Nat.lt_irrefl _)⟩
  have ol1 := w1.hob.lt
  have bl1 := w1.lt
  have l01 := x1.len
  have l1p := hp.lt
  have kb := w1b.hob.at_
  generalize hh2 : h1 ++ [Cell.lst (dl' D)] = h2 at x2 w1b wp kb ⊢
  have l2 : h2.length = h1.length + 1 := by rw [← hh2]; simp
  try simp only [kb, no _ "grow" (.inr rfl), me2, WpSs, WpS, WpE, WpEs, WpBs, WpO, WpN, WpI, WpC, WpT, getS, setS, tgK, setsS, wipeS, k_add, k_addT, k_sub, k_mul, k_fdiv, k_mod, k_neg, k_lt, k_le, k_gt, k_ge, k_eqI, k_neI, k_eqS, k_neS, k_eqB, k_neB, k_is, k_isn, isNon_non, isNon_int, isNon_str, isNon_lst, isNon_tup, isNon_adr, k_lenS, k_lenL, k_lenR, k_lenT, k_int, k_str, k_abs, tru_bl, augK, ctx_call, ctx_glob, k_in, k_nin, k_inS]
  refine grow_ok w1b.hob w1b.gr mr (by omega) fun h3 o3 hs3 g3 ho3 gr3 => ?_
  try simp only [WpSs, WpS, WpE, WpEs, WpBs, WpO, WpN, WpI, WpC, WpT, getS, setS, tgK, setsS, wipeS, k_add, k_addT, k_sub, k_mul, k_fdiv, k_mod, k_neg, k_lt, k_le, k_gt, k_ge, k_eqI, k_neI, k_eqS, k_neS, k_eqB, k_neB, k_is, k_isn, isNon_non, isNon_int, isNon_str, isNon_lst, isNon_tup, isNon_adr, k_lenS, k_lenL, k_lenR, k_lenT, k_int, k_str, k_abs, tru_bl, augK, ctx_call, ctx_glob, k_in, k_nin, k_inS]
  have ap : Ap o p := fun y hy z => by have := ol1 y hy; have := np y z; omega
  have pa : Ap p o := fun y hy z => by have := ol1 y z; have := np y hy; omega
  have bo : b ∉ o.fp := w1.nb
  have cl : h1.length ∉ o.fp := fun z => by have := ol1 _ z; omega
  have wp3 : Wt h3 p h1.length m D hs := wp.fr (c := b) (p := o) ⟨g3.fr.len, fun x a b c => g3.fr.keep x a b⟩ pa (fun z => by have := np _ z; omega) cl (by omega)
  have cb3 : cells h3 b = .lst (dl' D) := (g3.fr.keep b w1b.lt bo).trans w1b.cb
  have nb3 : b ∉ o3.fp := fun z => by
    rcases g3.fp _ z with z | z
    · exact bo z
    · have := w1b.lt; omega
  have w3 : Wt h3 o3 b r D hs3 := ⟨ho3, gr3, cb3, nb3⟩
  have k3 := w3.hob.at_
  have ea := g3.a
  rw [ea] at k3
  try simp only [k3, no _ "twin" (.inl rfl), me, WpSs, WpS, WpE, WpEs, WpBs, WpO, WpN, WpI, WpC, WpT, getS, setS, tgK, setsS, wipeS, k_add, k_addT, k_sub, k_mul, k_fdiv, k_mod, k_neg, k_lt, k_le, k_gt, k_ge, k_eqI, k_neI, k_eqS, k_neS, k_eqB, k_neB, k_is, k_isn, isNon_non, isNon_int, isNon_str, isNon_lst, isNon_tup, isNon_adr, k_lenS, k_lenL, k_lenR, k_lenT, k_int, k_str, k_abs, tru_bl, augK, ctx_call, ctx_glob, k_in, k_nin, k_inS]
  rw [← ea]
  refine twin_ok w3.hob (by omega) fun h4 t x4 nt ht => ?_
  have w3a := w3.ext x4
  have vb := view_adr w3a.cb
  try simp only [vb, WpSs, WpS, WpE, WpEs, WpBs, WpO, WpN, WpI, WpC, WpT, getS, setS, tgK, setsS, wipeS, k_add, k_addT, k_sub, k_mul, k_fdiv, k_mod, k_neg, k_lt, k_le, k_gt, k_ge, k_eqI, k_neI, k_eqS, k_neS, k_eqB, k_neB, k_is, k_isn, isNon_non, isNon_int, isNon_str, isNon_lst, isNon_tup, isNon_adr, k_lenS, k_lenL, k_lenR, k_lenT, k_int, k_str, k_abs, tru_bl, augK, ctx_call, ctx_glob, k_in, k_nin, k_inS]
  have x5 := Ext.push h4 (Cell.lst (dl' D))
  have w3b := w3a.ext x5
  have wt : Wt (h4 ++ [Cell.lst (dl' D)]) t h4.length r D hs3 := ⟨x5.hob ht, gr3, cells_last _ _, fun z => absurd (ht.lt _ z) (Nat.lt_irrefl _)⟩
  have wp5 := (wp3.ext x4).ext x5
  generalize hh5 : h4 ++ [Cell.lst (dl' D)] = h5 at x5 w3b wt wp5 ⊢
  have l34 := x4.len
  have l23 := g3.fr.len
  have o3l := ho3.lt
  refine fits_ok w3b.hob w3b.gr w3b.cb r12 (by omega) fun h6 x6 => ?_
  have wt6 := wt.ext x6
  try simp only [Bool.not_true, Bool.false_eq_true, if_false, WpSs, WpS, WpE, WpEs, WpBs, WpO, WpN, WpI, WpC, WpT, getS, setS, tgK, setsS, wipeS, k_add, k_addT, k_sub, k_mul, k_fdiv, k_mod, k_neg, k_lt, k_le, k_gt, k_ge, k_eqI, k_neI, k_eqS, k_neS, k_eqB, k_neB, k_is, k_isn, isNon_non, isNon_int, isNon_str, isNon_lst, isNon_tup, isNon_adr, k_lenS, k_lenL, k_lenR, k_lenT, k_int, k_str, k_abs, tru_bl, augK, ctx_call, ctx_glob, k_in, k_nin, k_inS]
  refine fits_ok wt6.hob wt6.gr wt6.cb r12 (by omega) fun h7 x7 => ?_
  try simp only [Bool.not_true, Bool.false_eq_true, if_false, WpSs, WpS, WpE, WpEs, WpBs, WpO, WpN, WpI, WpC, WpT, getS, setS, tgK, setsS, wipeS, k_add, k_addT, k_sub, k_mul, k_fdiv, k_mod, k_neg, k_lt, k_le, k_gt, k_ge, k_eqI, k_neI, k_eqS, k_neS, k_eqB, k_neB, k_is, k_isn, isNon_non, isNon_int, isNon_str, isNon_lst, isNon_tup, isNon_adr, k_lenS, k_lenL, k_lenR, k_lenT, k_int, k_str, k_abs, tru_bl, augK, ctx_call, ctx_glob, k_in, k_nin, k_inS]
  have p3 : ∀ y ∈ p.fp, y < h1.length ∧ h.length ≤ y := fun y hy => ⟨l1p y hy, np y hy⟩
  have q3 : ∀ y ∈ o3.fp, y < h.length ∨ h2.length ≤ y := fun y hy => by
    rcases g3.fp y hy with z | z
    · exact .inl (ol1 y z)
    · exact .inr z
  refine law_2_ok sh ((w3b.ext x6).ext x7) ((wp5.ext x6).ext x7) (wt6.ext x7) hD hD ⟨fun y hy z => ?_, fun z => ?_, fun z => ?_, by omega⟩ (fun y hy z => ?_) ⟨fun y hy z => ?_, fun z => ?_, fun z => ?_, ?_⟩
  · have := p3 y z; have := q3 y hy; omega
  · have := q3 _ z; omega
  · have := p3 _ z; omega
  · have := p3 y hy; have := q3 y z; omega
  · have := o3l y z; have := nt y hy; omega
  · have := o3l _ z; omega
  · have := nt _ z; have := w3.lt; omega
  · have := w3.lt; omega
end
end K13

set_option maxRecDepth 100000
set_option maxHeartbeats 4000000
namespace K13
open PySem L2 VL
section
variable {n : Nat} {ns ds vs : List Int} {m r : Nat} {h : AHeap} {o : Ob} {b : Nat} {hs : List Int}
theorem law_4_ok (sh : Shp ds m r vs) (w1 : Wt h o b m [] hs) {es : List Ed} (ie : In (m + 1) es) (hE : es.length ≤ 10) {s8 s9 s10 s11 s12 s13 s14 s15 : Slot} :
    WpSs (ctxOf P (callN P (n+4))) b_law_4 D1 [.val (.ro (il ns)), .val (.lst (il ds)), .val (.int (m : Int)), .val (.int (r : Int)), .val (.lst (il vs)), .val (.adr o.a), .val (.adr b), .val (.lst (dl' es)), s8, s9, s10, s11, s12, s13, s14, s15] h := by
  have m8 := sh.m8
  try simp only [b_law_4, WpSs, WpS, WpE, WpEs, WpBs, WpO, WpN, WpI, WpC, WpT, getS, setS, tgK, setsS, wipeS, k_add, k_addT, k_sub, k_mul, k_fdiv, k_mod, k_neg, k_lt, k_le, k_gt, k_ge, k_eqI, k_neI, k_eqS, k_neS, k_eqB, k_neB, k_is, k_isn, isNon_non, isNon_int, isNon_str, isNon_lst, isNon_tup, isNon_adr, k_lenS, k_lenL, k_lenR, k_lenT, k_int, k_str, k_abs, tru_bl, augK, ctx_call, ctx_glob, k_in, k_nin, k_inS]
  refine goes_ok w1.hob w1.gr w1.cb w1.nb ie (by omega) (by simp only [List.length_nil]; omega) (fun h' hs' a g c f => ?_) (fun h' f => ?_)
  · have d : decide ((0 : Int) < (([] : List AV).length : Int)) = false := rfl
    try simp only [d, Bool.false_eq_true, if_false, WpSs, WpS, WpE, WpEs, WpBs, WpO, WpN, WpI, WpC, WpT, getS, setS, tgK, setsS, wipeS, k_add, k_addT, k_sub, k_mul, k_fdiv, k_mod, k_neg, k_lt, k_le, k_gt, k_ge, k_eqI, k_neI, k_eqS, k_neS, k_eqB, k_neB, k_is, k_isn, isNon_non, isNon_int, isNon_str, isNon_lst, isNon_tup, isNon_adr, k_lenS, k_lenL, k_lenR, k_lenT, k_int, k_str, k_abs, tru_bl, augK, ctx_call, ctx_glob, k_in, k_nin, k_inS]
    exact law_3_ok sh ⟨a, g, c, w1.nb⟩ (by rw [List.nil_append]; exact hE)
  · have d : decide ((0 : Int) < (([AV.bl true] : List AV).length : Int)) = true := rfl
    try simp only [d, if_true, WpSs, WpS, WpE, WpEs, WpBs, WpO, WpN, WpI, WpC, WpT, getS, setS, tgK, setsS, wipeS, k_add, k_addT, k_sub, k_mul, k_fdiv, k_mod, k_neg, k_lt, k_le, k_gt, k_ge, k_eqI, k_neI, k_eqS, k_neS, k_eqB, k_neB, k_is, k_isn, isNon_non, isNon_int, isNon_str, isNon_lst, isNon_tup, isNon_adr, k_lenS, k_lenL, k_lenR, k_lenT, k_int, k_str, k_abs, tru_bl, augK, ctx_call, ctx_glob, k_in, k_nin, k_inS]
    exact k_subL viewT_lst (fun _ h => by cases h) (d := .bl true) rfl rfl
theorem law_5_ok (sh : Shp ds m r vs) (w1 : Wt h o b m [] hs) {s7 s8 s9 s10 s11 s12 s13 s14 s15 : Slot} :
    WpSs (ctxOf P (callN P (n+4))) b_law_5 D1 [.val (.ro (il ns)), .val (.lst (il ds)), .val (.int (m : Int)), .val (.int (r : Int)), .val (.lst (il vs)), .val (.adr o.a), .val (.adr b), s7, s8, s9, s10, s11, s12, s13, s14, s15] h := by
  have m8 := sh.m8
  have mr := sh.mr
  have l := sh.len
  have hz1 : sizeLine = 16777216 := rfl
  have h2 := sh.g 2 (by omega)
  have h2' := sh.s2 (by omega)
  obtain ⟨r2, e2⟩ := nat_of h2.1
  have vsk : vs = [] ∨ m + 1 ≤ vs.length := by rcases sh.vs with z | z; exact .inl z; exact .inr (by omega)
  try simp only [b_law_5, WpSs, WpS, WpE, WpEs, WpBs, WpO, WpN, WpI, WpC, WpT, getS, setS, tgK, setsS, wipeS, k_add, k_addT, k_sub, k_mul, k_fdiv, k_mod, k_neg, k_lt, k_le, k_gt, k_ge, k_eqI, k_neI, k_eqS, k_neS, k_eqB, k_neB, k_is, k_isn, isNon_non, isNon_int, isNon_str, isNon_lst, isNon_tup, isNon_adr, k_lenS, k_lenL, k_lenR, k_lenT, k_int, k_str, k_abs, tru_bl, augK, ctx_call, ctx_glob, k_in, k_nin, k_inS]
  refine k_subIl (j := 2) (by omega) ?_
  try simp only [e2, WpSs, WpS, WpE, WpEs, WpBs, WpO, WpN, WpI, WpC, WpT, getS, setS, tgK, setsS, wipeS, k_add, k_addT, k_sub, k_mul, k_fdiv, k_mod, k_neg, k_lt, k_le, k_gt, k_ge, k_eqI, k_neI, k_eqS, k_neS, k_eqB, k_neB, k_is, k_isn, isNon_non, isNon_int, isNon_str, isNon_lst, isNon_tup, isNon_adr, k_lenS, k_lenL, k_lenR, k_lenT, k_int, k_str, k_abs, tru_bl, augK, ctx_call, ctx_glob, k_in, k_nin, k_inS]
  refine law_more_ok (r := r2) (by omega) (by omega) vsk fun es hl ie => ?_
  try simp only [WpSs, WpS, WpE, WpEs, WpBs, WpO, WpN, WpI, WpC, WpT, getS, setS, tgK, setsS, wipeS, k_add, k_addT, k_sub, k_mul, k_fdiv, k_mod, k_neg, k_lt, k_le, k_gt, k_ge, k_eqI, k_neI, k_eqS, k_neS, k_eqB, k_neB, k_is, k_isn, isNon_non, isNon_int, isNon_str, isNon_lst, isNon_tup, isNon_adr, k_lenS, k_lenL, k_lenR, k_lenT, k_int, k_str, k_abs, tru_bl, augK, ctx_call, ctx_glob, k_in, k_nin, k_inS]
  refine k_subIl (j := 6) (by omega) ?_
  have fin1 := law_4_ok (n := n) (ns := ns) sh w1 ie (by omega) (s8 := s8) (s9 := s9) (s10 := s10) (s11 := s11) (s12 := s12) (s13 := s13) (s14 := s14) (s15 := s15)
  have two : WpSs (ctxOf P (callN P (n+4))) (.cons (.asg (.nm 7) (.fz (.cat (.fz (.slice (.var 7) .no (.so (.cint 2)))) (.fz (.rev (.fz (.comp (.tup (.cons (.var 15) (.cons (.bin .Add (.var 15) (.cint 1)) (.cons (.neg (.var 15)) .nil)))) (.nm 15) (.rng1 (.var 2)) .no [15]))))))) .nil) { D1 with nx := WpSs (ctxOf P (callN P (n+4))) b_law_4 D1 } [.val (.ro (il ns)), .val (.lst (il ds)), .val (.int (m : Int)), .val (.int (r : Int)), .val (.lst (il vs)), .val (.adr o.a), .val (.adr b), .val (.lst (dl' es)), s8, s9, s10, s11, s12, s13, s14, s15] h := by
    have c1 : cut (dl' es) none (some 2) = dl' (es.take 2) := by
      have := cut_ns (dl' es) 2
      exact this.trans (List.map_take ..).symm
    try simp only [view_lst, c1, Int.toNat_natCast, List.length_map, List.length_range, WpSs, WpS, WpE, WpEs, WpBs, WpO, WpN, WpI, WpC, WpT, getS, setS, tgK, setsS, wipeS, k_add, k_addT, k_sub, k_mul, k_fdiv, k_mod, k_neg, k_lt, k_le, k_gt, k_ge, k_eqI, k_neI, k_eqS, k_neS, k_eqB, k_neB, k_is, k_isn, isNon_non, isNon_int, isNon_str, isNon_lst, isNon_tup, isNon_adr, k_lenS, k_lenL, k_lenR, k_lenT, k_int, k_str, k_abs, tru_bl, augK, ctx_call, ctx_glob, k_in, k_nin, k_inS]
    refine ⟨⟨by omega, by omega⟩, by omega, ?_⟩
    refine comp_map (fun i => ed (i, i + 1, -(i : Int))) (fun i x R hx r => ?_) ?_
    · obtain ⟨hi, rfl⟩ := items_range hx
      try simp only [if_true, WpSs, WpS, WpE, WpEs, WpBs, WpO, WpN, WpI, WpC, WpT, getS, setS, tgK, setsS, wipeS, k_add, k_addT, k_sub, k_mul, k_fdiv, k_mod, k_neg, k_lt, k_le, k_gt, k_ge, k_eqI, k_neI, k_eqS, k_neS, k_eqB, k_neB, k_is, k_isn, isNon_non, isNon_int, isNon_str, isNon_lst, isNon_tup, isNon_adr, k_lenS, k_lenL, k_lenR, k_lenT, k_int, k_str, k_abs, tru_bl, augK, ctx_call, ctx_glob, k_in, k_nin, k_inS]
      exact ⟨by show 3 ≤ _; omega, r⟩
    · try simp only [view_lst, viewW_lst, List.length_map, List.length_range, List.length_reverse, List.length_take, WpSs, WpS, WpE, WpEs, WpBs, WpO, WpN, WpI, WpC, WpT, getS, setS, tgK, setsS, wipeS, k_add, k_addT, k_sub, k_mul, k_fdiv, k_mod, k_neg, k_lt, k_le, k_gt, k_ge, k_eqI, k_neI, k_eqS, k_neS, k_eqB, k_neB, k_is, k_isn, isNon_non, isNon_int, isNon_str, isNon_lst, isNon_tup, isNon_adr, k_lenS, k_lenL, k_lenR, k_lenT, k_int, k_str, k_abs, tru_bl, augK, ctx_call, ctx_glob, k_in, k_nin, k_inS]
      refine ⟨by omega, ?_⟩
      have e3 : dl' (es.take 2) ++ (List.map (fun i : Nat => ed (i, i + 1, -(i : Int))) (List.range m)).reverse = dl' (es.take 2 ++ ((List.range m).map fun i => ((i, i + 1, -(i : Int)) : Ed)).reverse) := by
        rw [dl', dl', List.map_append, List.map_reverse, List.map_map]; rfl
      rw [e3]
      refine law_4_ok sh w1 (fun e he => ?_) (by simp; omega)
      rcases List.mem_append.mp he with he | he
      · exact ie e (List.mem_of_mem_take he)
      · rw [List.mem_reverse] at he
        obtain ⟨i, hi, rfl⟩ := List.mem_map.mp he
        have := List.mem_range.mp hi
        exact ⟨by show i < m + 1; omega, by show i + 1 < m + 1; omega⟩
  have g0 := sh.g 0 (by omega)
  have g6 := sh.g 6 (by omega)
  refine ite_b (fun _ => ?_) (fun _ => ?_)
  · refine k_subIl (j := 0) (by omega) ?_
    try simp only [WpSs, WpS, WpE, WpEs, WpBs, WpO, WpN, WpI, WpC, WpT, getS, setS, tgK, setsS, wipeS, k_add, k_addT, k_sub, k_mul, k_fdiv, k_mod, k_neg, k_lt, k_le, k_gt, k_ge, k_eqI, k_neI, k_eqS, k_neS, k_eqB, k_neB, k_is, k_isn, isNon_non, isNon_int, isNon_str, isNon_lst, isNon_tup, isNon_adr, k_lenS, k_lenL, k_lenR, k_lenT, k_int, k_str, k_abs, tru_bl, augK, ctx_call, ctx_glob, k_in, k_nin, k_inS]
    refine ite_b (fun _ => two) (fun _ => ?_)
    exact fin1
  · exact fin1
theorem law_6_ok (sh : Shp ds m r vs) {s5 s6 s7 s8 s9 s10 s11 s12 s13 s14 s15 : Slot} :
    WpSs (ctxOf P (callN P (n+4))) b_law_6 D1 [.val (.ro (il ns)), .val (.lst (il ds)), .val (.int (m : Int)), .val (.int (r : Int)), .val (.lst (il vs)), s5, s6, s7, s8, s9, s10, s11, s12, s13, s14, s15] h := by
  have m8 := sh.m8
  have ini : (ctxOf P (callN P (n+4))).init 0 = some 0 := rfl
  try simp only [b_law_6, ini, WpSs, WpS, WpE, WpEs, WpBs, WpO, WpN, WpI, WpC, WpT, getS, setS, tgK, setsS, wipeS, k_add, k_addT, k_sub, k_mul, k_fdiv, k_mod, k_neg, k_lt, k_le, k_gt, k_ge, k_eqI, k_neI, k_eqS, k_neS, k_eqB, k_neB, k_is, k_isn, isNon_non, isNon_int, isNon_str, isNon_lst, isNon_tup, isNon_adr, k_lenS, k_lenL, k_lenR, k_lenT, k_int, k_str, k_abs, tru_bl, augK, ctx_call, ctx_glob, k_in, k_nin, k_inS]
  refine init_ok (by omega) fun h1 o x1 no ho ea => ?_
  rw [← ea]
  try simp only [List.length_nil, Nat.zero_le, true_and, WpSs, WpS, WpE, WpEs, WpBs, WpO, WpN, WpI, WpC, WpT, getS, setS, tgK, setsS, wipeS, k_add, k_addT, k_sub, k_mul, k_fdiv, k_mod, k_neg, k_lt, k_le, k_gt, k_ge, k_eqI, k_neI, k_eqS, k_neS, k_eqB, k_neB, k_is, k_isn, isNon_non, isNon_int, isNon_str, isNon_lst, isNon_tup, isNon_adr, k_lenS, k_lenL, k_lenR, k_lenT, k_int, k_str, k_abs, tru_bl, augK, ctx_call, ctx_glob, k_in, k_nin, k_inS]
  have w : Wt (h1 ++ [Cell.lst []]) o h1.length m [] (List.replicate (m + 1) 0) := ⟨ho.push _, great_nil _ _, cells_last _ _, fun z => absurd (ho.lt _ z) (Nat.lt_irrefl _)⟩
  refine fits_ok w.hob w.gr w.cb (by omega) (by simp) fun h2 x2 => ?_
  try simp only [Bool.not_true, Bool.false_eq_true, if_false, WpSs, WpS, WpE, WpEs, WpBs, WpO, WpN, WpI, WpC, WpT, getS, setS, tgK, setsS, wipeS, k_add, k_addT, k_sub, k_mul, k_fdiv, k_mod, k_neg, k_lt, k_le, k_gt, k_ge, k_eqI, k_neI, k_eqS, k_neS, k_eqB, k_neB, k_is, k_isn, isNon_non, isNon_int, isNon_str, isNon_lst, isNon_tup, isNon_adr, k_lenS, k_lenL, k_lenR, k_lenT, k_int, k_str, k_abs, tru_bl, augK, ctx_call, ctx_glob, k_in, k_nin, k_inS]
  exact law_5_ok sh (w.ext x2)
end
theorem sz_small {ss : List Int} (h : ∀ x ∈ ss, 0 < x ∧ x < 100) : Sizes ss := fun s hs => ⟨(h s hs).1, log_small (h s hs).1 (by have := (h s hs).2; omega)⟩
theorem law_pure : ∀ ns : List Int, ns.length ≤ 63 → callN P 9 18 [.ro (ns.map AV.int)] [] fun d _ => d = .bl true := by
  intro ns _
  refine ⟨rfl, ?_⟩
  have hz1 : sizeLine = 16777216 := rfl
  show WpSs (ctxOf P (callN P 8)) b_law D1 [.val (.ro (il ns)), .no, .no, .no, .no, .no, .no, .no, .no, .no, .no, .no, .no, .no, .no, .no] []
  try simp only [b_law, WpSs, WpS, WpE, WpEs, WpBs, WpO, WpN, WpI, WpC, WpT, getS, setS, tgK, setsS, wipeS, k_add, k_addT, k_sub, k_mul, k_fdiv, k_mod, k_neg, k_lt, k_le, k_gt, k_ge, k_eqI, k_neI, k_eqS, k_neS, k_eqB, k_neB, k_is, k_isn, isNon_non, isNon_int, isNon_str, isNon_lst, isNon_tup, isNon_adr, k_lenS, k_lenL, k_lenR, k_lenT, k_int, k_str, k_abs, tru_bl, augK, ctx_call, ctx_glob, k_in, k_nin, k_inS]
  refine ⟨by decide, ?_⟩
  refine draws_ok (n := 6) (ss := [2, 9, 9, 5, 9, 6, 4]) (sz_small (by decide)) (by decide) fun ds hl hd => ?_
  have l : ds.length = 7 := hl
  try simp only [WpSs, WpS, WpE, WpEs, WpBs, WpO, WpN, WpI, WpC, WpT, getS, setS, tgK, setsS, wipeS, k_add, k_addT, k_sub, k_mul, k_fdiv, k_mod, k_neg, k_lt, k_le, k_gt, k_ge, k_eqI, k_neI, k_eqS, k_neS, k_eqB, k_neB, k_is, k_isn, isNon_non, isNon_int, isNon_str, isNon_lst, isNon_tup, isNon_adr, k_lenS, k_lenL, k_lenR, k_lenT, k_int, k_str, k_abs, tru_bl, augK, ctx_call, ctx_glob, k_in, k_nin, k_inS]
  have g1 := hd 1 (by omega) (by decide)
  have g3 := hd 3 (by omega) (by decide)
  obtain ⟨m, em⟩ := nat_of g1.1
  obtain ⟨q, eq⟩ := nat_of g3.1
  have m9 : ds[1] < 9 := g1.2
  have q5 : ds[3] < 5 := g3.2
  refine k_subIl (j := 1) (by omega) ?_
  rw [em]
  refine k_subIl (j := 3) (by omega) ?_
  rw [eq]
  have er : (m : Int) + (q : Int) = ((m + q : Nat) : Int) := by omega
  try simp only [er, List.length_nil, Nat.zero_le, true_and, WpSs, WpS, WpE, WpEs, WpBs, WpO, WpN, WpI, WpC, WpT, getS, setS, tgK, setsS, wipeS, k_add, k_addT, k_sub, k_mul, k_fdiv, k_mod, k_neg, k_lt, k_le, k_gt, k_ge, k_eqI, k_neI, k_eqS, k_neS, k_eqB, k_neB, k_is, k_isn, isNon_non, isNon_int, isNon_str, isNon_lst, isNon_tup, isNon_adr, k_lenS, k_lenL, k_lenR, k_lenT, k_int, k_str, k_abs, tru_bl, augK, ctx_call, ctx_glob, k_in, k_nin, k_inS]
  have sh : ∀ vs : List Int, (vs = [] ∨ m + q + 1 ≤ vs.length) → Shp ds m (m + q) vs := fun vs hv => by
    refine ⟨l, fun i hi => ?_, fun h => (hd 2 h (by decide)).2, fun h => (hd 4 h (by decide)).2, fun h => (hd 5 h (by decide)).2, by omega, by omega, by omega, hv⟩
    have g := hd i hi (by rw [← hl]; exact hi)
    refine ⟨g.1, Int.lt_of_lt_of_le g.2 ?_⟩
    have : ∀ x ∈ ([2, 9, 9, 5, 9, 6, 4] : List Int), x ≤ 10 := by decide
    exact this _ (List.getElem_mem _)
  refine k_subIl (j := 0) (by omega) ?_
  try simp only [WpSs, WpS, WpE, WpEs, WpBs, WpO, WpN, WpI, WpC, WpT, getS, setS, tgK, setsS, wipeS, k_add, k_addT, k_sub, k_mul, k_fdiv, k_mod, k_neg, k_lt, k_le, k_gt, k_ge, k_eqI, k_neI, k_eqS, k_neS, k_eqB, k_neB, k_is, k_isn, isNon_non, isNon_int, isNon_str, isNon_lst, isNon_tup, isNon_adr, k_lenS, k_lenL, k_lenR, k_lenT, k_int, k_str, k_abs, tru_bl, augK, ctx_call, ctx_glob, k_in, k_nin, k_inS]
  refine ite_b (fun _ => ?_) (fun _ => ?_)
  · try simp only [k_pow, tens.2.2.2, List.length_cons, List.length_nil, Int.toNat_natCast, List.length_map, List.length_range, WpSs, WpS, WpE, WpEs, WpBs, WpO, WpN, WpI, WpC, WpT, getS, setS, tgK, setsS, wipeS, k_add, k_addT, k_sub, k_mul, k_fdiv, k_mod, k_neg, k_lt, k_le, k_gt, k_ge, k_eqI, k_neI, k_eqS, k_neS, k_eqB, k_neB, k_is, k_isn, isNon_non, isNon_int, isNon_str, isNon_lst, isNon_tup, isNon_adr, k_lenS, k_lenL, k_lenR, k_lenT, k_int, k_str, k_abs, tru_bl, augK, ctx_call, ctx_glob, k_in, k_nin, k_inS]
    refine ⟨by omega, ⟨by omega, by omega⟩, by omega, ?_⟩
    refine comp_ints (fun _ => 1000000000000000000000000000000000000000000) (fun i x R hx r => by simp only [if_true]; exact ⟨⟨by decide, by decide, by decide⟩, r⟩) ?_
    rw [List.length_map, List.length_range]
    refine draws_ok (sizes_const (by decide) (by decide) _) (by simp; omega) fun ws hw _ => ?_
    simp only [List.length_map, List.length_range] at hw
    try simp only [viewT_lst, List.length_map, WpSs, WpS, WpE, WpEs, WpBs, WpO, WpN, WpI, WpC, WpT, getS, setS, tgK, setsS, wipeS, k_add, k_addT, k_sub, k_mul, k_fdiv, k_mod, k_neg, k_lt, k_le, k_gt, k_ge, k_eqI, k_neI, k_eqS, k_neS, k_eqB, k_neB, k_is, k_isn, isNon_non, isNon_int, isNon_str, isNon_lst, isNon_tup, isNon_adr, k_lenS, k_lenL, k_lenR, k_lenT, k_int, k_str, k_abs, tru_bl, augK, ctx_call, ctx_glob, k_in, k_nin, k_inS]
    refine ⟨by omega, ?_⟩
    refine comp_inv (fun i acc h' => h' = [] ∧ ∃ vs : List Int, vs.length = i ∧ acc = il vs) ⟨rfl, [], rfl, rfl⟩ (fun _ _ _ _ z => by obtain ⟨rfl, _⟩ := z; first | trivial | rfl) ?_ ?_
    · rintro i x _ _ R hx ⟨rfl, vs, hv, rfl⟩ k1 k2
      obtain ⟨a, ha, rfl⟩ := items_map hx
      try simp only [if_true, WpSs, WpS, WpE, WpEs, WpBs, WpO, WpN, WpI, WpC, WpT, getS, setS, tgK, setsS, wipeS, k_add, k_addT, k_sub, k_mul, k_fdiv, k_mod, k_neg, k_lt, k_le, k_gt, k_ge, k_eqI, k_neI, k_eqS, k_neS, k_eqB, k_neB, k_is, k_isn, isNon_non, isNon_int, isNon_str, isNon_lst, isNon_tup, isNon_adr, k_lenS, k_lenL, k_lenR, k_lenT, k_int, k_str, k_abs, tru_bl, augK, ctx_call, ctx_glob, k_in, k_nin, k_inS]
      refine weight_ok fun c _ _ => k1 _ _ ⟨rfl, vs ++ [c], by simp [hv], int_one _ _⟩
    rintro _ _ ⟨rfl, vs, hv, rfl⟩
    rw [List.length_map] at hv
    have e0 : [AV.int 0] ++ il vs = il (0 :: vs) := rfl
    try simp only [viewW_lst, e0, List.length_cons, List.length_nil, List.length_map, WpSs, WpS, WpE, WpEs, WpBs, WpO, WpN, WpI, WpC, WpT, getS, setS, tgK, setsS, wipeS, k_add, k_addT, k_sub, k_mul, k_fdiv, k_mod, k_neg, k_lt, k_le, k_gt, k_ge, k_eqI, k_neI, k_eqS, k_neS, k_eqB, k_neB, k_is, k_isn, isNon_non, isNon_int, isNon_str, isNon_lst, isNon_tup, isNon_adr, k_lenS, k_lenL, k_lenR, k_lenT, k_int, k_str, k_abs, tru_bl, augK, ctx_call, ctx_glob, k_in, k_nin, k_inS]
    refine ⟨by omega, ?_⟩
    exact law_6_ok (sh _ (.inr (by simp; omega)))
  · exact law_6_ok (vs := []) (sh _ (.inl rfl))
end K13

namespace K13
open PySem L2 VL
theorem all_mk {K : PySem.W.Frag} {h : Heap} {mg : Str → Option Value} {fa : Addr} (X : K.In h) (G : h.Ns mainGlobals mg) (hfa : mg "law" = some (.ref fa))
    {f0 f1 f2 f3 f4 f5 f6 f7 f8 f9 f10 f11 f12 f13 f14 f15 f16 f17 f18 C0 : Addr} {od0 an0 od1 an1 od2 an2 od3 an3 od4 an4 od5 an5 od6 an6 od7 an7 od8 an8 od9 an9 od10 an10 od11 an11 od12 an12 od13 an13 od14 an14 od15 an15 od16 an16 od17 an17 od18 an18 : Option Addr} {sl0 sl1 sl2 sl3 sl4 sl5 sl6 sl7 sl8 sl9 sl10 sl11 sl12 sl13 sl14 sl15 sl16 sl17 sl18 : Array (Option Value)} {oc0 kV0 dc0 pm0 cd0 ct0 oc1 kV1 dc1 pm1 cd1 ct1 oc2 kV2 dc2 pm2 cd2 ct2 oc3 kV3 dc3 pm3 cd3 ct3 oc4 kV4 dc4 pm4 cd4 ct4 oc5 kV5 dc5 pm5 cd5 ct5 oc6 kV6 dc6 pm6 cd6 ct6 oc7 kV7 dc7 pm7 cd7 ct7 oc8 kV8 dc8 pm8 cd8 ct8 oc9 kV9 dc9 pm9 cd9 ct9 oc10 kV10 dc10 pm10 cd10 ct10 oc11 kV11 dc11 pm11 cd11 ct11 oc12 kV12 dc12 pm12 cd12 ct12 oc13 kV13 dc13 pm13 cd13 ct13 oc14 kV14 dc14 pm14 cd14 ct14 oc15 kV15 dc15 pm15 cd15 ct15 oc16 kV16 dc16 pm16 cd16 ct16 oc17 kV17 dc17 pm17 cd17 ct17 oc18 kV18 dc18 pm18 cd18 ct18 : Value} 
    (a0 : PySem.W.findIn K (.ref C0) "__init__" = some (some (.ref f0)))
    (i0 : PySem.W.isFn K (.ref f0) = true)
    (l0 : K.lookup f0 = some ⟨oc0, od0, .func (PySem.W.fnOf "__init__" "Heights.__init__" (defArgs t0.st) (defBody t0.st) (defScope t0.st) .none kV0 dc0 pm0 an0 cd0 ct0), sl0⟩)
    (c0 : PySem.W.codeIn K cd0 "Heights.__init__" = true)
    (k0 : PySem.W.keepIn K (.ref f0) = true)
    (a1 : PySem.W.findIn K (.ref C0) "grow" = some (some (.ref f1)))
    (i1 : PySem.W.isFn K (.ref f1) = true)
    (l1 : K.lookup f1 = some ⟨oc1, od1, .func (PySem.W.fnOf "grow" "Heights.grow" (defArgs t1.st) (defBody t1.st) (defScope t1.st) .none kV1 dc1 pm1 an1 cd1 ct1), sl1⟩)
    (c1 : PySem.W.codeIn K cd1 "Heights.grow" = true)
    (k1 : PySem.W.keepIn K (.ref f1) = true)
    (a2 : PySem.W.findIn K (.ref C0) "tie" = some (some (.ref f2)))
    (i2 : PySem.W.isFn K (.ref f2) = true)
    (l2 : K.lookup f2 = some ⟨oc2, od2, .func (PySem.W.fnOf "tie" "Heights.tie" (defArgs t2.st) (defBody t2.st) (defScope t2.st) .none kV2 dc2 pm2 an2 cd2 ct2), sl2⟩)
    (c2 : PySem.W.codeIn K cd2 "Heights.tie" = true)
    (k2 : PySem.W.keepIn K (.ref f2) = true)
    (a3 : PySem.W.nsIn K mainGlobals "_law_cell" = some (some (.ref f3)))
    (l3 : K.lookup f3 = some ⟨oc3, od3, .func (PySem.W.fnOf "_law_cell" "_law_cell" (defArgs t3.st) (defBody t3.st) (defScope t3.st) .none kV3 dc3 pm3 an3 cd3 ct3), sl3⟩)
    (c3 : PySem.W.codeIn K cd3 "_law_cell" = true)
    (k3 : PySem.W.keepIn K (.ref f3) = true)
    (a4 : PySem.W.nsIn K mainGlobals "_law_draws" = some (some (.ref f4)))
    (l4 : K.lookup f4 = some ⟨oc4, od4, .func (PySem.W.fnOf "_law_draws" "_law_draws" (defArgs t4.st) (defBody t4.st) (defScope t4.st) .none kV4 dc4 pm4 an4 cd4 ct4), sl4⟩)
    (c4 : PySem.W.codeIn K cd4 "_law_draws" = true)
    (k4 : PySem.W.keepIn K (.ref f4) = true)
    (a5 : PySem.W.nsIn K mainGlobals "_law_is_integer" = some (some (.ref f5)))
    (l5 : K.lookup f5 = some ⟨oc5, od5, .func (PySem.W.fnOf "_law_is_integer" "_law_is_integer" (defArgs t5.st) (defBody t5.st) (defScope t5.st) .none kV5 dc5 pm5 an5 cd5 ct5), sl5⟩)
    (c5 : PySem.W.codeIn K cd5 "_law_is_integer" = true)
    (k5 : PySem.W.keepIn K (.ref f5) = true)
    (a6 : PySem.W.findIn K (.ref C0) "mend" = some (some (.ref f6)))
    (i6 : PySem.W.isFn K (.ref f6) = true)
    (l6 : K.lookup f6 = some ⟨oc6, od6, .func (PySem.W.fnOf "mend" "Heights.mend" (defArgs t6.st) (defBody t6.st) (defScope t6.st) .none kV6 dc6 pm6 an6 cd6 ct6), sl6⟩)
    (c6 : PySem.W.codeIn K cd6 "Heights.mend" = true)
    (k6 : PySem.W.keepIn K (.ref f6) = true)
    (a7 : PySem.W.findIn K (.ref C0) "ring_from" = some (some (.ref f7)))
    (i7 : PySem.W.isFn K (.ref f7) = true)
    (l7 : K.lookup f7 = some ⟨oc7, od7, .func (PySem.W.fnOf "ring_from" "Heights.ring_from" (defArgs t7.st) (defBody t7.st) (defScope t7.st) .none kV7 dc7 pm7 an7 cd7 ct7), sl7⟩)
    (c7 : PySem.W.codeIn K cd7 "Heights.ring_from" = true)
    (k7 : PySem.W.keepIn K (.ref f7) = true)
    (a8 : PySem.W.findIn K (.ref C0) "kept" = some (some (.ref f8)))
    (i8 : PySem.W.isFn K (.ref f8) = true)
    (l8 : K.lookup f8 = some ⟨oc8, od8, .func (PySem.W.fnOf "kept" "Heights.kept" (defArgs t8.st) (defBody t8.st) (defScope t8.st) .none kV8 dc8 pm8 an8 cd8 ct8), sl8⟩)
    (c8 : PySem.W.codeIn K cd8 "Heights.kept" = true)
    (k8 : PySem.W.keepIn K (.ref f8) = true)
    (a9 : PySem.W.findIn K (.ref C0) "twin" = some (some (.ref f9)))
    (i9 : PySem.W.isFn K (.ref f9) = true)
    (l9 : K.lookup f9 = some ⟨oc9, od9, .func (PySem.W.fnOf "twin" "Heights.twin" (defArgs t9.st) (defBody t9.st) (defScope t9.st) .none kV9 dc9 pm9 an9 cd9 ct9), sl9⟩)
    (c9 : PySem.W.codeIn K cd9 "Heights.twin" = true)
    (k9 : PySem.W.keepIn K (.ref f9) = true)
    (a10 : PySem.W.nsIn K mainGlobals "_law_sum" = some (some (.ref f10)))
    (l10 : K.lookup f10 = some ⟨oc10, od10, .func (PySem.W.fnOf "_law_sum" "_law_sum" (defArgs t10.st) (defBody t10.st) (defScope t10.st) .none kV10 dc10 pm10 an10 cd10 ct10), sl10⟩)
    (c10 : PySem.W.codeIn K cd10 "_law_sum" = true)
    (k10 : PySem.W.keepIn K (.ref f10) = true)
    (a11 : PySem.W.nsIn K mainGlobals "_law_kept" = some (some (.ref f11)))
    (l11 : K.lookup f11 = some ⟨oc11, od11, .func (PySem.W.fnOf "_law_kept" "_law_kept" (defArgs t11.st) (defBody t11.st) (defScope t11.st) .none kV11 dc11 pm11 an11 cd11 ct11), sl11⟩)
    (c11 : PySem.W.codeIn K cd11 "_law_kept" = true)
    (k11 : PySem.W.keepIn K (.ref f11) = true)
    (a12 : PySem.W.nsIn K mainGlobals "_law_weight" = some (some (.ref f12)))
    (l12 : K.lookup f12 = some ⟨oc12, od12, .func (PySem.W.fnOf "_law_weight" "_law_weight" (defArgs t12.st) (defBody t12.st) (defScope t12.st) .none kV12 dc12 pm12 an12 cd12 ct12), sl12⟩)
    (c12 : PySem.W.codeIn K cd12 "_law_weight" = true)
    (k12 : PySem.W.keepIn K (.ref f12) = true)
    (a13 : PySem.W.nsIn K mainGlobals "_law_can" = some (some (.ref f13)))
    (l13 : K.lookup f13 = some ⟨oc13, od13, .func (PySem.W.fnOf "_law_can" "_law_can" (defArgs t13.st) (defBody t13.st) (defScope t13.st) .none kV13 dc13 pm13 an13 cd13 ct13), sl13⟩)
    (c13 : PySem.W.codeIn K cd13 "_law_can" = true)
    (k13 : PySem.W.keepIn K (.ref f13) = true)
    (a14 : PySem.W.nsIn K mainGlobals "_law_is_ring" = some (some (.ref f14)))
    (l14 : K.lookup f14 = some ⟨oc14, od14, .func (PySem.W.fnOf "_law_is_ring" "_law_is_ring" (defArgs t14.st) (defBody t14.st) (defScope t14.st) .none kV14 dc14 pm14 an14 cd14 ct14), sl14⟩)
    (c14 : PySem.W.codeIn K cd14 "_law_is_ring" = true)
    (k14 : PySem.W.keepIn K (.ref f14) = true)
    (a15 : PySem.W.nsIn K mainGlobals "_law_fits" = some (some (.ref f15)))
    (l15 : K.lookup f15 = some ⟨oc15, od15, .func (PySem.W.fnOf "_law_fits" "_law_fits" (defArgs t15.st) (defBody t15.st) (defScope t15.st) .none kV15 dc15 pm15 an15 cd15 ct15), sl15⟩)
    (c15 : PySem.W.codeIn K cd15 "_law_fits" = true)
    (k15 : PySem.W.keepIn K (.ref f15) = true)
    (a16 : PySem.W.nsIn K mainGlobals "_law_more" = some (some (.ref f16)))
    (l16 : K.lookup f16 = some ⟨oc16, od16, .func (PySem.W.fnOf "_law_more" "_law_more" (defArgs t16.st) (defBody t16.st) (defScope t16.st) .none kV16 dc16 pm16 an16 cd16 ct16), sl16⟩)
    (c16 : PySem.W.codeIn K cd16 "_law_more" = true)
    (k16 : PySem.W.keepIn K (.ref f16) = true)
    (a17 : PySem.W.nsIn K mainGlobals "_law_goes" = some (some (.ref f17)))
    (l17 : K.lookup f17 = some ⟨oc17, od17, .func (PySem.W.fnOf "_law_goes" "_law_goes" (defArgs t17.st) (defBody t17.st) (defScope t17.st) .none kV17 dc17 pm17 an17 cd17 ct17), sl17⟩)
    (c17 : PySem.W.codeIn K cd17 "_law_goes" = true)
    (k17 : PySem.W.keepIn K (.ref f17) = true)
    (a18 : PySem.W.nsIn K mainGlobals "law" = some (some (.ref f18)))
    (l18 : K.lookup f18 = some ⟨oc18, od18, .func (PySem.W.fnOf "law" "law" (defArgs t18.st) (defBody t18.st) (defScope t18.st) .none kV18 dc18 pm18 an18 cd18 ct18), sl18⟩)
    (c18 : PySem.W.codeIn K cd18 "law" = true)
    (k18 : PySem.W.keepIn K (.ref f18) = true)
    (aC0 : PySem.W.nsIn K mainGlobals "Heights" = some (some (.ref C0)))
    (pg0 : PySem.W.plainGet K C0 Str.empty = true)
    (hd0 : PySem.W.hasDictIn K C0 = true)
    (po0 : PySem.W.plainOver K C0 = true)
    (sa0 : PySem.W.findIn K (.ref C0) "__setattr__" = some (some (.builtin "object.__setattr__")))
    (mk0 : PySem.W.makesIn K C0 = true)
    (kc0 : PySem.W.keepIn K (.ref C0) = true)
    (fl0 : PySem.W.findIn K (.ref C0) "many" = some none)
    (fl1 : PySem.W.findIn K (.ref C0) "differences" = some none)
    (fl2 : PySem.W.findIn K (.ref C0) "heights" = some none)
    (fl3 : PySem.W.findIn K (.ref C0) "under" = some none)
    (z0 : PySem.W.nsIn K mainGlobals "len" = some none)
    (z1 : PySem.W.nsIn K mainGlobals "abs" = some none)
    (z2 : PySem.W.nsIn K mainGlobals "int" = some none)
    (z3 : PySem.W.nsIn K mainGlobals "str" = some none)
    (z4 : PySem.W.nsIn K mainGlobals "max" = some none)
    (z5 : PySem.W.nsIn K mainGlobals "min" = some none)
    (z6 : PySem.W.nsIn K mainGlobals "sum" = some none)
    (z7 : PySem.W.nsIn K mainGlobals "all" = some none)
    (z8 : PySem.W.nsIn K mainGlobals "any" = some none)
    (z9 : PySem.W.nsIn K mainGlobals "tuple" = some none)
    (z10 : PySem.W.nsIn K mainGlobals "list" = some none)
    (z11 : PySem.W.nsIn K mainGlobals "range" = some none)
    (z12 : PySem.W.nsIn K mainGlobals "isinstance" = some none)
    (z13 : PySem.W.nsIn K mainGlobals "bool" = some none)
    (z14 : PySem.W.nsIn K mainGlobals "dict" = some none)
    (z15 : PySem.W.nsIn K mainGlobals "repr" = some none)
    (z16 : PySem.W.nsIn K mainGlobals "sorted" = some none)
    (z17 : PySem.W.nsIn K mainGlobals "zip" = some none)
    (z18 : PySem.W.nsIn K mainGlobals "enumerate" = some none)
    (z19 : PySem.W.nsIn K mainGlobals "reversed" = some none) :
    ∃ Cl : Nat → Addr, PFacts P T Cl ts K mg ∧ ∃ fd : FuncData, (∀ (s : Shared) (v : Value), BindsTo s fd ⟨[v], []⟩ [("_law_script", v)]) ∧ Fun K "law" "law" t18.st fa fd := by
  have e := hfa.symm.trans (PySem.W.mg_of X G a18)
  cases e
  refine ⟨fun c => ([C0] : List Addr).getD c 0, ⟨fun x hx => ?_, fun g d hg => ?_, fun f F hf => ?_, fun f x hx => ?_, fun c x hx => ?_, fun c m f hx => ?_, fun c f hx => ?_⟩, PySem.W.fnOf "law" "law" (defArgs t18.st) (defBody t18.st) (defScope t18.st) .none kV18 dc18 pm18 an18 cd18 ct18, fun s v => .of_eq rfl, fun_mk (st := t18.st) l18 c18 k18⟩
  · simp only [bltNames, List.mem_cons, List.not_mem_nil, or_false] at hx
    rcases hx with rfl | rfl | rfl | rfl | rfl | rfl | rfl | rfl | rfl | rfl | rfl | rfl | rfl | rfl | rfl | rfl | rfl | rfl | rfl | rfl
    · exact PySem.W.mg_none_of X G z0
    · exact PySem.W.mg_none_of X G z1
    · exact PySem.W.mg_none_of X G z2
    · exact PySem.W.mg_none_of X G z3
    · exact PySem.W.mg_none_of X G z4
    · exact PySem.W.mg_none_of X G z5
    · exact PySem.W.mg_none_of X G z6
    · exact PySem.W.mg_none_of X G z7
    · exact PySem.W.mg_none_of X G z8
    · exact PySem.W.mg_none_of X G z9
    · exact PySem.W.mg_none_of X G z10
    · exact PySem.W.mg_none_of X G z11
    · exact PySem.W.mg_none_of X G z12
    · exact PySem.W.mg_none_of X G z13
    · exact PySem.W.mg_none_of X G z14
    · exact PySem.W.mg_none_of X G z15
    · exact PySem.W.mg_none_of X G z16
    · exact PySem.W.mg_none_of X G z17
    · exact PySem.W.mg_none_of X G z18
    · exact PySem.W.mg_none_of X G z19
  · match g, hg with
    | g, hg => simp [P] at hg
  · match f, hf with
    | 0, hf =>
      cases hf
      have F := fun_mk (st := t0.st) l0 c0 k0
      exact ⟨t0, _, _, _, rfl, F, ag0, F.binds (ps := ["self", "many"]) fun _ _ _ _ _ _ us hl => match us, hl with | [_, _], _ => rfl, fun x hx => by cases hx⟩
    | 1, hf =>
      cases hf
      have F := fun_mk (st := t1.st) l1 c1 k1
      exact ⟨t1, _, _, _, rfl, F, ag1, F.binds (ps := ["self", "many"]) fun _ _ _ _ _ _ us hl => match us, hl with | [_, _], _ => rfl, fun x hx => by cases hx⟩
    | 2, hf =>
      cases hf
      have F := fun_mk (st := t2.st) l2 c2 k2
      exact ⟨t2, _, _, _, rfl, F, ag2, F.binds (ps := ["self", "difference"]) fun _ _ _ _ _ _ us hl => match us, hl with | [_, _], _ => rfl, fun x hx => by cases hx⟩
    | 3, hf =>
      cases hf
      have F := fun_mk (st := t3.st) l3 c3 k3
      exact ⟨t3, _, _, _, rfl, F, ag3, F.binds (ps := ["_law_script", "_law_k"]) fun _ _ _ _ _ _ us hl => match us, hl with | [_, _], _ => rfl, fun x hx => by cases hx; exact ⟨PySem.W.mg_of X G a3, k3⟩⟩
    | 4, hf =>
      cases hf
      have F := fun_mk (st := t4.st) l4 c4 k4
      exact ⟨t4, _, _, _, rfl, F, ag4, F.binds (ps := ["_law_script", "_law_place", "_law_sizes"]) fun _ _ _ _ _ _ us hl => match us, hl with | [_, _, _], _ => rfl, fun x hx => by cases hx; exact ⟨PySem.W.mg_of X G a4, k4⟩⟩
    | 5, hf =>
      cases hf
      have F := fun_mk (st := t5.st) l5 c5 k5
      exact ⟨t5, _, _, _, rfl, F, ag5, F.binds (ps := ["_law_value"]) fun _ _ _ _ _ _ us hl => match us, hl with | [_], _ => rfl, fun x hx => by cases hx; exact ⟨PySem.W.mg_of X G a5, k5⟩⟩
    | 6, hf =>
      cases hf
      have F := fun_mk (st := t6.st) l6 c6 k6
      exact ⟨t6, _, _, _, rfl, F, ag6, F.binds (ps := ["self", "number"]) fun _ _ _ _ _ _ us hl => match us, hl with | [_, _], _ => rfl, fun x hx => by cases hx⟩
    | 7, hf =>
      cases hf
      have F := fun_mk (st := t7.st) l7 c7 k7
      exact ⟨t7, _, _, _, rfl, F, ag7, F.binds (ps := ["self", "start", "number", "causes"]) fun _ _ _ _ _ _ us hl => match us, hl with | [_, _, _, _], _ => rfl, fun x hx => by cases hx⟩
    | 8, hf =>
      cases hf
      have F := fun_mk (st := t8.st) l8 c8 k8
      exact ⟨t8, _, _, _, rfl, F, ag8, F.binds (ps := ["self"]) fun _ _ _ _ _ _ us hl => match us, hl with | [_], _ => rfl, fun x hx => by cases hx⟩
    | 9, hf =>
      cases hf
      have F := fun_mk (st := t9.st) l9 c9 k9
      exact ⟨t9, _, _, _, rfl, F, ag9, F.binds (ps := ["self"]) fun _ _ _ _ _ _ us hl => match us, hl with | [_], _ => rfl, fun x hx => by cases hx⟩
    | 10, hf =>
      cases hf
      have F := fun_mk (st := t10.st) l10 c10 k10
      exact ⟨t10, _, _, _, rfl, F, ag10, F.binds (ps := ["_law_differences", "_law_numbers"]) fun _ _ _ _ _ _ us hl => match us, hl with | [_, _], _ => rfl, fun x hx => by cases hx; exact ⟨PySem.W.mg_of X G a10, k10⟩⟩
    | 11, hf =>
      cases hf
      have F := fun_mk (st := t11.st) l11 c11 k11
      exact ⟨t11, _, _, _, rfl, F, ag11, F.binds (ps := ["_law_differences", "_law_values"]) fun _ _ _ _ _ _ us hl => match us, hl with | [_, _], _ => rfl, fun x hx => by cases hx; exact ⟨PySem.W.mg_of X G a11, k11⟩⟩
    | 12, hf =>
      cases hf
      have F := fun_mk (st := t12.st) l12 c12 k12
      exact ⟨t12, _, _, _, rfl, F, ag12, F.binds (ps := ["_law_draw"]) fun _ _ _ _ _ _ us hl => match us, hl with | [_], _ => rfl, fun x hx => by cases hx; exact ⟨PySem.W.mg_of X G a12, k12⟩⟩
    | 13, hf =>
      cases hf
      have F := fun_mk (st := t13.st) l13 c13 k13
      exact ⟨t13, _, _, _, rfl, F, ag13, F.binds (ps := ["_law_differences", "_law_many"]) fun _ _ _ _ _ _ us hl => match us, hl with | [_, _], _ => rfl, fun x hx => by cases hx; exact ⟨PySem.W.mg_of X G a13, k13⟩⟩
    | 14, hf =>
      cases hf
      have F := fun_mk (st := t14.st) l14 c14 k14
      exact ⟨t14, _, _, _, rfl, F, ag14, F.binds (ps := ["_law_differences", "_law_ring"]) fun _ _ _ _ _ _ us hl => match us, hl with | [_, _], _ => rfl, fun x hx => by cases hx; exact ⟨PySem.W.mg_of X G a14, k14⟩⟩
    | 15, hf =>
      cases hf
      have F := fun_mk (st := t15.st) l15 c15 k15
      exact ⟨t15, _, _, _, rfl, F, ag15, F.binds (ps := ["_law_heights", "_law_differences", "_law_many"]) fun _ _ _ _ _ _ us hl => match us, hl with | [_, _, _], _ => rfl, fun x hx => by cases hx; exact ⟨PySem.W.mg_of X G a15, k15⟩⟩
    | 16, hf =>
      cases hf
      have F := fun_mk (st := t16.st) l16 c16 k16
      exact ⟨t16, _, _, _, rfl, F, ag16, F.binds (ps := ["_law_script", "_law_place", "_law_count", "_law_many", "_law_values"]) fun _ _ _ _ _ _ us hl => match us, hl with | [_, _, _, _, _], _ => rfl, fun x hx => by cases hx; exact ⟨PySem.W.mg_of X G a16, k16⟩⟩
    | 17, hf =>
      cases hf
      have F := fun_mk (st := t17.st) l17 c17 k17
      exact ⟨t17, _, _, _, rfl, F, ag17, F.binds (ps := ["_law_heights", "_law_differences", "_law_more_here", "_law_many"]) fun _ _ _ _ _ _ us hl => match us, hl with | [_, _, _, _], _ => rfl, fun x hx => by cases hx; exact ⟨PySem.W.mg_of X G a17, k17⟩⟩
    | 18, hf =>
      cases hf
      have F := fun_mk (st := t18.st) l18 c18 k18
      exact ⟨t18, _, _, _, rfl, F, ag18, F.binds (ps := ["_law_script"]) fun _ _ _ _ _ _ us hl => match us, hl with | [_], _ => rfl, fun x hx => by cases hx; exact ⟨PySem.W.mg_of X G a18, k18⟩⟩
    | f + 19, hf => simp [P] at hf
  · match f, hx with
    | 0, hx => first | exact ⟨_, rfl⟩ | cases hx
    | 1, hx => first | exact ⟨_, rfl⟩ | cases hx
    | 2, hx => first | exact ⟨_, rfl⟩ | cases hx
    | 3, hx => first | exact ⟨_, rfl⟩ | cases hx
    | 4, hx => first | exact ⟨_, rfl⟩ | cases hx
    | 5, hx => first | exact ⟨_, rfl⟩ | cases hx
    | 6, hx => first | exact ⟨_, rfl⟩ | cases hx
    | 7, hx => first | exact ⟨_, rfl⟩ | cases hx
    | 8, hx => first | exact ⟨_, rfl⟩ | cases hx
    | 9, hx => first | exact ⟨_, rfl⟩ | cases hx
    | 10, hx => first | exact ⟨_, rfl⟩ | cases hx
    | 11, hx => first | exact ⟨_, rfl⟩ | cases hx
    | 12, hx => first | exact ⟨_, rfl⟩ | cases hx
    | 13, hx => first | exact ⟨_, rfl⟩ | cases hx
    | 14, hx => first | exact ⟨_, rfl⟩ | cases hx
    | 15, hx => first | exact ⟨_, rfl⟩ | cases hx
    | 16, hx => first | exact ⟨_, rfl⟩ | cases hx
    | 17, hx => first | exact ⟨_, rfl⟩ | cases hx
    | 18, hx => first | exact ⟨_, rfl⟩ | cases hx
    | f + 19, hx => simp [T] at hx
  · match c, hx with
    | 0, hx =>
      cases hx
      exact ⟨0, _, t0, _, _, _, rfl, rfl, rfl, fun_mk (st := t0.st) l0 c0 k0, ag0, (fun_mk (st := t0.st) l0 c0 k0).binds (ps := ["self", "many"]) fun _ _ _ _ _ _ us hl => match us, hl with | [_, _], _ => rfl, PySem.W.mg_of X G aC0, ⟨mk0, a0, i0, kc0⟩⟩
    | c + 1, hx => simp [T] at hx
  · have hx := look_mem hx
    simp only [P, List.mem_cons, List.not_mem_nil, or_false, Prod.mk.injEq] at hx
    rcases hx with ⟨⟨rfl, rfl⟩, rfl⟩ | ⟨⟨rfl, rfl⟩, rfl⟩ | ⟨⟨rfl, rfl⟩, rfl⟩ | ⟨⟨rfl, rfl⟩, rfl⟩ | ⟨⟨rfl, rfl⟩, rfl⟩ | ⟨⟨rfl, rfl⟩, rfl⟩
    · exact ⟨_, t1, _, _, _, rfl, rfl, fun_mk (st := t1.st) l1 c1 k1, ag1, (fun_mk (st := t1.st) l1 c1 k1).binds (ps := ["self", "many"]) fun _ _ _ _ _ _ us hl => match us, hl with | [_, _], _ => rfl, ⟨pg0, hd0, po0, sa0⟩, ⟨a1, i1, k1⟩⟩
    · exact ⟨_, t2, _, _, _, rfl, rfl, fun_mk (st := t2.st) l2 c2 k2, ag2, (fun_mk (st := t2.st) l2 c2 k2).binds (ps := ["self", "difference"]) fun _ _ _ _ _ _ us hl => match us, hl with | [_, _], _ => rfl, ⟨pg0, hd0, po0, sa0⟩, ⟨a2, i2, k2⟩⟩
    · exact ⟨_, t6, _, _, _, rfl, rfl, fun_mk (st := t6.st) l6 c6 k6, ag6, (fun_mk (st := t6.st) l6 c6 k6).binds (ps := ["self", "number"]) fun _ _ _ _ _ _ us hl => match us, hl with | [_, _], _ => rfl, ⟨pg0, hd0, po0, sa0⟩, ⟨a6, i6, k6⟩⟩
    · exact ⟨_, t7, _, _, _, rfl, rfl, fun_mk (st := t7.st) l7 c7 k7, ag7, (fun_mk (st := t7.st) l7 c7 k7).binds (ps := ["self", "start", "number", "causes"]) fun _ _ _ _ _ _ us hl => match us, hl with | [_, _, _, _], _ => rfl, ⟨pg0, hd0, po0, sa0⟩, ⟨a7, i7, k7⟩⟩
    · exact ⟨_, t8, _, _, _, rfl, rfl, fun_mk (st := t8.st) l8 c8 k8, ag8, (fun_mk (st := t8.st) l8 c8 k8).binds (ps := ["self"]) fun _ _ _ _ _ _ us hl => match us, hl with | [_], _ => rfl, ⟨pg0, hd0, po0, sa0⟩, ⟨a8, i8, k8⟩⟩
    · exact ⟨_, t9, _, _, _, rfl, rfl, fun_mk (st := t9.st) l9 c9 k9, ag9, (fun_mk (st := t9.st) l9 c9 k9).binds (ps := ["self"]) fun _ _ _ _ _ _ us hl => match us, hl with | [_], _ => rfl, ⟨pg0, hd0, po0, sa0⟩, ⟨a9, i9, k9⟩⟩
  · have hx := List.contains_iff_mem.mp hx
    simp only [P, List.mem_cons, List.not_mem_nil, or_false, Prod.mk.injEq] at hx
    rcases hx with ⟨rfl, rfl⟩ | ⟨rfl, rfl⟩ | ⟨rfl, rfl⟩ | ⟨rfl, rfl⟩
    · exact ⟨⟨pg0, hd0, po0, sa0⟩, fl0⟩
    · exact ⟨⟨pg0, hd0, po0, sa0⟩, fl1⟩
    · exact ⟨⟨pg0, hd0, po0, sa0⟩, fl2⟩
    · exact ⟨⟨pg0, hd0, po0, sa0⟩, fl3⟩
theorem walk {l : PySem.W.OpenLaw} {q : Program} {loose : List Str} {XP : (Str → Option Value) → Heap → Prop} {YP : World → Heap → Prop} {d : DefRec} {K : Params → PySem.W.Frag} (hn : l.most = some 63) (hdf : d.params.defaults = [])
    (hY : ∀ (w : World) (h : Heap), YP w h → (K w.params).In h)
    (F : ∀ (w : World) (mg : Str → Option Value) (fa : Addr) (h : Heap), (K w.params).In h → h.Ns mainGlobals mg → mg d.name = some (.ref fa) → ∃ Cl : Nat → Addr, PFacts P T Cl ts (K w.params) mg ∧ ∃ fd : FuncData, (∀ (s : Shared) (v : Value), BindsTo s fd ⟨[v], []⟩ [("_law_script", v)]) ∧ Fun (K w.params) "law" "law" t18.st fa fd) :
    PySem.W.WalkO q loose XP YP l.row.toRowW d [] (fun f vs => PySem.call f vs) :=
  walk_G (n := 63) (k := 2 * 9) (x := "_law_script") hn (by decide) hdf ⟨rfl, by decide, by decide⟩ hY fun w mg fa h KX G hm => by
    obtain ⟨Cl, PF, fd, hb, hf⟩ := F w mg fa h KX G hm
    exact ⟨fd, _, hb, fun base _ _ => fn_all PF 9 18 ⟨1, 16, b_law⟩ rfl t18 fa fd _ rfl hf ag18, law_sp law_pure⟩
end K13
open PySem PySem.W PyProof.Rows in
set_option maxRecDepth 100000 in
set_option maxHeartbeats 0 in
theorem PySem.Challenge.cw_swornrun_k13_heights_holds : PySem.Challenge.rw_swornrun_k13_heights.Holds := by
  w_on; o_law; k_head; (case hw => w_witness2)
  k_fill
  refine K13.walk (l := PySem.Challenge.rw_swornrun_k13_heights) rfl rfl (fun w h Y => PySem.W.kIn_of Y) ?F
  case F =>
    intro w mg fa h KX G hmg
    refine' K13.all_mk KX G hmg ?a0 ?i0 ?l0 ?c0 ?k0 ?a1 ?i1 ?l1 ?c1 ?k1 ?a2 ?i2 ?l2 ?c2 ?k2 ?a3 ?l3 ?c3 ?k3 ?a4 ?l4 ?c4 ?k4 ?a5 ?l5 ?c5 ?k5 ?a6 ?i6 ?l6 ?c6 ?k6 ?a7 ?i7 ?l7 ?c7 ?k7 ?a8 ?i8 ?l8 ?c8 ?k8 ?a9 ?i9 ?l9 ?c9 ?k9 ?a10 ?l10 ?c10 ?k10 ?a11 ?l11 ?c11 ?k11 ?a12 ?l12 ?c12 ?k12 ?a13 ?l13 ?c13 ?k13 ?a14 ?l14 ?c14 ?k14 ?a15 ?l15 ?c15 ?k15 ?a16 ?l16 ?c16 ?k16 ?a17 ?l17 ?c17 ?k17 ?a18 ?l18 ?c18 ?k18 ?aC0 ?pg0 ?hd0 ?po0 ?sa0 ?mk0 ?kc0 ?fl0 ?fl1 ?fl2 ?fl3 ?z0 ?z1 ?z2 ?z3 ?z4 ?z5 ?z6 ?z7 ?z8 ?z9 ?z10 ?z11 ?z12 ?z13 ?z14 ?z15 ?z16 ?z17 ?z18 ?z19
    (case aC0 => k_is)
    (case a0 => k_is)
    (case i0 => k_is)
    (case l0 => k_is)
    (case c0 => k_is)
    (case k0 => k_is)
    (case a1 => k_is)
    (case i1 => k_is)
    (case l1 => k_is)
    (case c1 => k_is)
    (case k1 => k_is)
    (case a2 => k_is)
    (case i2 => k_is)
    (case l2 => k_is)
    (case c2 => k_is)
    (case k2 => k_is)
    (case a3 => k_is)
    (case l3 => k_is)
    (case c3 => k_is)
    (case k3 => k_is)
    (case a4 => k_is)
    (case l4 => k_is)
    (case c4 => k_is)
    (case k4 => k_is)
    (case a5 => k_is)
    (case l5 => k_is)
    (case c5 => k_is)
    (case k5 => k_is)
    (case a6 => k_is)
    (case i6 => k_is)
    (case l6 => k_is)
    (case c6 => k_is)
    (case k6 => k_is)
    (case a7 => k_is)
    (case i7 => k_is)
    (case l7 => k_is)
    (case c7 => k_is)
    (case k7 => k_is)
    (case a8 => k_is)
    (case i8 => k_is)
    (case l8 => k_is)
    (case c8 => k_is)
    (case k8 => k_is)
    (case a9 => k_is)
    (case i9 => k_is)
    (case l9 => k_is)
    (case c9 => k_is)
    (case k9 => k_is)
    (case a10 => k_is)
    (case l10 => k_is)
    (case c10 => k_is)
    (case k10 => k_is)
    (case a11 => k_is)
    (case l11 => k_is)
    (case c11 => k_is)
    (case k11 => k_is)
    (case a12 => k_is)
    (case l12 => k_is)
    (case c12 => k_is)
    (case k12 => k_is)
    (case a13 => k_is)
    (case l13 => k_is)
    (case c13 => k_is)
    (case k13 => k_is)
    (case a14 => k_is)
    (case l14 => k_is)
    (case c14 => k_is)
    (case k14 => k_is)
    (case a15 => k_is)
    (case l15 => k_is)
    (case c15 => k_is)
    (case k15 => k_is)
    (case a16 => k_is)
    (case l16 => k_is)
    (case c16 => k_is)
    (case k16 => k_is)
    (case a17 => k_is)
    (case l17 => k_is)
    (case c17 => k_is)
    (case k17 => k_is)
    (case a18 => k_is)
    (case l18 => k_is)
    (case c18 => k_is)
    (case k18 => k_is)
    (case pg0 => k_is)
    (case hd0 => k_is)
    (case po0 => k_is)
    (case sa0 => k_is)
    (case mk0 => k_is)
    (case kc0 => k_is)
    (case fl0 => k_is)
    (case fl1 => k_is)
    (case fl2 => k_is)
    (case fl3 => k_is)
    (case z0 => k_is)
    (case z1 => k_is)
    (case z2 => k_is)
    (case z3 => k_is)
    (case z4 => k_is)
    (case z5 => k_is)
    (case z6 => k_is)
    (case z7 => k_is)
    (case z8 => k_is)
    (case z9 => k_is)
    (case z10 => k_is)
    (case z11 => k_is)
    (case z12 => k_is)
    (case z13 => k_is)
    (case z14 => k_is)
    (case z15 => k_is)
    (case z16 => k_is)
    (case z17 => k_is)
    (case z18 => k_is)
    (case z19 => k_is)

