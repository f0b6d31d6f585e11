import PyProof.Rows.All
import Wide.All
import OpenK.AllK
import Wide.FinOn
import HandS.ForMost
import HandS.Evl
import HandS.Wide
import HandS.IsInst
import HandS.Conv
import HandS.Codes
import HandS.Style
import HandS.TupAny
import HandS.Walk
import PySem.Challenge.RW_swornrun_k03_conditions_read_back
set_option Elab.async false
set_option linter.all false
set_option maxRecDepth 100000
set_option maxHeartbeats 4000000
set_option maxRecDepth 100000
set_option maxHeartbeats 2000000
/-! VL: values without a heap, an own syntax of the defs, predicate transformers by recursion. -/
namespace VL
open PySem L2

/-- a value: immutable things as they are; what is changed stands in a cell -/
inductive AV where
  | non | bl (b : Bool) | int (i : Int) | str (s : Str)
  | tup (xs : List AV) | lst (xs : List AV) | ro (xs : List AV) | dct (kvs : List (Key × AV))
  | adr (n : Nat)
/-- what is changed -/
inductive Cell where
  | lst (xs : List AV) | dct (kvs : List (Key × AV)) | obj (c : Nat) (fs : List (Str × AV)) | dead
abbrev AHeap := List Cell
inductive Slot where
  | no | val (d : AV) | own (c : Cell)
abbrev Env := List Slot

inductive Tg where
  | nm (i : Nat) | tup (is : List Nat)
inductive Blt where
  | len | abs | int | str | max2 | min2 | maxL | minL | sum | all | any | tuple | repr
deriving DecidableEq
inductive Sm where
  | join
deriving DecidableEq
mutual
inductive E where
  | var (i : Nat) | vw (i : Nat)
  | cint (i : Int) | cstr (s : Str) | cbl (b : Bool) | cnon
  | glob (g : Nat)
  | bin (op : Operator) (a b : E)
  | neg (a : E)
  | cmp (op : CmpOp) (a b : E)
  | chain (o1 o2 : CmpOp) (a b c : E)
  | and (a b : E) | or (a b : E) | not (a : E)
  | ite (c a b : E)
  | tup (es : Es)
  | fz (n : Nw) | new (n : Nw)
  | sub (a i : E)
  | slice (a : E) (lo hi : Oe)
  | call (f : Nat) (es : Es)
  | blt (b : Blt) (es : Es)
  | isi (a : E) (t : String)
  | smt (m : Sm) (o : E) (a : E)
  | attr (a : E) (f : Str)
  | mcall (o : E) (m : Str) (es : Es)
  | make (c : Nat) (es : Es)
  | tru (a : E)
inductive Es where
  | nil | cons (e : E) (es : Es)
inductive Nw where
  | lst (es : Es)
  | comp (elt : E) (tg : Tg) (it : It) (cond : Oe) (own : List Nat)
  | slice (a : E) (lo hi : Oe)
  | listOf (a : E)
  | cat (a b : E)
  | rep (a b : E)
  | rev (a : E)
  | dct1 (k v : E)
inductive It where
  | rng1 (a : E) | rng2 (a b : E) | seq (a : E) | own (i : Nat) | chars (a : E)
inductive Oe where
  | no | so (e : E)
end
mutual
inductive S where
  | asg (tg : Tg) (e : E)
  | asgO (i : Nat) (n : Nw)
  | frz (i : Nat)
  | par (i j : Nat) (a b : E)
  | aug (i : Nat) (op : Operator) (e : E)
  | app (i : Nat) (e : E)
  | appE (o e : E)
  | put (i : Nat) (k e : E)
  | putE (o k e : E)
  | fld (o : E) (f : Str) (e : E)
  | expr (e : E)
  | ret (e : E) | retN
  | ite (c : E) (a b : Ss)
  | wh (c : E) (b : Ss)
  | for (tg : Tg) (it : It) (b : Ss)
  | pass | brk | cont | bad
inductive Ss where
  | nil | cons (s : S) (r : Ss)
end

/-! ### operations -/
abbrev KA := AV → Prop
def cells (h : AHeap) (n : Nat) : Cell := (h[n]?).getD .dead
/-- the items of a list -/
def view (h : AHeap) : AV → Option (List AV)
  | .lst xs => some xs
  | .ro xs => some xs
  | .adr n => match cells h n with
    | .lst xs => some xs
    | _ => none
  | _ => none
/-- a list that may be glued -/
def viewW (h : AHeap) : AV → Option (List AV)
  | .lst xs => some xs
  | .adr n => match cells h n with
    | .lst xs => some xs
    | _ => none
  | _ => none
def viewT (h : AHeap) : AV → Option (List AV)
  | .tup xs => some xs
  | x => view h x
def viewD (h : AHeap) : AV → Option (List (Key × AV))
  | .dct xs => some xs
  | .adr n => match cells h n with
    | .dct xs => some xs
    | _ => none
  | _ => none
def keyOf : AV → Option Key
  | .int i => some (.inl i)
  | .str s => some (.inr s)
  | _ => none
def getD (kvs : List (Key × AV)) (k : Key) : Option AV := (kvs.find? fun kv => decide (kv.1 = k)).map (·.2)
def putD (kvs : List (Key × AV)) (k : Key) (v : AV) : List (Key × AV) :=
  if (kvs.any fun kv => decide (kv.1 = k)) = true then kvs.map (fun kv => if kv.1 = k then (kv.1, v) else kv) else kvs ++ [(k, v)]
def asInts : List AV → Option (List Int)
  | [] => some []
  | .int i :: r => (asInts r).map (i :: ·)
  | _ => none
def asBools : List AV → Option (List Bool)
  | [] => some []
  | .bl i :: r => (asBools r).map (i :: ·)
  | _ => none
def asStrs : List AV → Option (List Str)
  | [] => some []
  | .str i :: r => (asStrs r).map (i :: ·)
  | _ => none
def cut {α : Type} (xs : List α) (lo hi : Option Int) : List α := (xs.drop (HT.sIx xs.length 0 lo)).take (HT.sIx xs.length xs.length hi - HT.sIx xs.length 0 lo)

mutual
def pd : AV → Option PyData
  | .non => some .none
  | .bl b => some (.bool b)
  | .int i => some (.int i)
  | .str s => some (.str s)
  | .tup xs => (pds xs).map .tuple
  | .lst xs => (pds xs).map .list
  | .ro xs => (pds xs).map .list
  | .dct _ => none
  | .adr _ => none
def pds : List AV → Option (List PyData)
  | [] => some []
  | x :: r => (pd x).bind fun d => (pds r).map (d :: ·)
end
mutual
def pdH (h : AHeap) : AV → Option PyData
  | .non => some .none
  | .bl b => some (.bool b)
  | .int i => some (.int i)
  | .str s => some (.str s)
  | .tup xs => (pdHs h xs).map .tuple
  | .lst xs => (pdHs h xs).map .list
  | .ro xs => (pdHs h xs).map .list
  | .dct _ => none
  | .adr n => match cells h n with
    | .lst xs => (pds xs).map .list
    | _ => none
def pdHs (h : AHeap) : List AV → Option (List PyData)
  | [] => some []
  | x :: r => (pdH h x).bind fun d => (pdHs h r).map (d :: ·)
end

def isNon : AV → Bool
  | .non => true
  | _ => false
def eqGen (h : AHeap) (neg : Bool) (x y : AV) (Q : KA) : Prop :=
  match pdH h x, pdH h y with
  | some d, some e => SeqAt.shaped d = true ∧ SeqAt.shaped e = true ∧ Q (.bl (if neg then !PyData.eqv d e else PyData.eqv d e))
  | _, _ => False
def eqK (h : AHeap) (x y : AV) (Q : KA) : Prop :=
  match x, y with
  | .int i, .int j => Q (.bl (decide (i = j)))
  | .str i, .str j => Q (.bl (decide (i = j)))
  | .bl i, .bl j => Q (.bl (decide (i = j)))
  | .non, .non => Q (.bl true)
  | .int _, .str _ => Q (.bl false)
  | .str _, .int _ => Q (.bl false)
  | x, y => eqGen h false x y Q
def neK (h : AHeap) (x y : AV) (Q : KA) : Prop :=
  match x, y with
  | .int i, .int j => Q (.bl (!decide (i = j)))
  | .str i, .str j => Q (.bl (!decide (i = j)))
  | .bl i, .bl j => Q (.bl (!decide (i = j)))
  | .non, .non => Q (.bl false)
  | .int _, .str _ => Q (.bl true)
  | .str _, .int _ => Q (.bl true)
  | x, y => eqGen h true x y Q
def flatA : AV → Bool
  | .non => true
  | .bl _ => true
  | .int _ => true
  | .str _ => true
  | _ => false
def eqF : AV → AV → Bool
  | .non, .non => true
  | .bl a, .bl b => a == b
  | .bl a, .int b => (if a then 1 else 0) == b
  | .int a, .bl b => a == (if b then 1 else 0)
  | .int a, .int b => a == b
  | .str a, .str b => a == b
  | _, _ => false
def inK (h : AHeap) (neg : Bool) (x y : AV) (Q : KA) : Prop :=
  match y with
  | .str z => match x with
    | .str w => match w.cps.toList with
      | [c] => Q (.bl (if neg then !decide (c ∈ z.cps.toList) else decide (c ∈ z.cps.toList)))
      | _ => False
    | _ => False
  | y => match viewT h y with
    | some xs => flatA x = true ∧ xs.all flatA = true ∧ Q (.bl (if neg then !(xs.any fun y => eqF y x) else xs.any fun y => eqF y x))
    | none => match viewD h y, keyOf x with
      | some kvs, some k => Q (.bl (if neg then !(getD kvs k).isSome else (getD kvs k).isSome))
      | _, _ => False
def cmpK (h : AHeap) (op : CmpOp) (x y : AV) (Q : KA) : Prop :=
  match op with
  | .Eq => eqK h x y Q
  | .NotEq => neK h x y Q
  | .Lt => match x, y with
    | .int i, .int j => Q (.bl (decide (i < j)))
    | _, _ => False
  | .LtE => match x, y with
    | .int i, .int j => Q (.bl (decide (i ≤ j)))
    | _, _ => False
  | .Gt => match x, y with
    | .int i, .int j => Q (.bl (decide (j < i)))
    | _, _ => False
  | .GtE => match x, y with
    | .int i, .int j => Q (.bl (decide (j ≤ i)))
    | _, _ => False
  | .Is => match y with
    | .non => Q (.bl (isNon x))
    | _ => False
  | .IsNot => match y with
    | .non => Q (.bl (!isNon x))
    | _ => False
  | .In => inK h false x y Q
  | .NotIn => inK h true x y Q
def CDivA (j : Int) : Prop := 0 < j ∧ j.natAbs.log2 < 9000
def CMulA (i j : Int) : Prop := CMul i j ∨ CMulW i j
def addK (h : AHeap) (x y : AV) (Q : KA) : Prop :=
  match x, y with
  | .int i, .int j => Q (.int (i + j))
  | .str i, .str j => i.length + j.length ≤ sizeLine ∧ Q (.str (i ++ j))
  | .tup xs, .tup ys => xs.length + ys.length ≤ sizeLine ∧ Q (.tup (xs ++ ys))
  | _, _ => False
def strRep (x : Str) (n : Int) : Str := if n < 1 then Str.empty else if (n == 1 || x.length == 0) = true then x else ⟨(List.replicate n.toNat x.cps).foldl (· ++ ·) #[]⟩
def binK (h : AHeap) (op : Operator) (x y : AV) (Q : KA) : Prop :=
  match op with
  | .Add => addK h x y Q
  | .Sub => match x, y with
    | .int i, .int j => Q (.int (i - j))
    | _, _ => False
  | .Mult => match x, y with
    | .int i, .int j => CMulA i j ∧ Q (.int (i * j))
    | .str z, .int j => (-(2 ^ 60) < j ∧ j < 2 ^ 60 ∧ z.length * j.toNat ≤ 1000000) ∧ Q (.str (strRep z j))
    | _, _ => False
  | .FloorDiv => match x, y with
    | .int i, .int j => CDivA j ∧ Q (.int (i / j))
    | _, _ => False
  | .Mod => match x, y with
    | .int i, .int j => 0 < j ∧ Q (.int (i % j))
    | _, _ => False
  | .Pow => match x, y with
    | .int i, .int j => CPow i j ∧ Q (.int (i ^ j.toNat))
    | _, _ => False
  | _ => False
def negK (x : AV) (Q : KA) : Prop :=
  match x with
  | .int i => Q (.int (-i))
  | _ => False
def subK (h : AHeap) (x y : AV) (Q : KA) : Prop :=
  match x with
  | .str z => match y with
    | .int i => z.length ≤ sizeLine ∧ match atI z.cps.toList i with
      | some c => Q (.str ⟨#[c]⟩)
      | none => False
    | _ => False
  | x => match viewT h x with
    | some xs => match y with
      | .int i => match atI xs i with
        | some d => Q d
        | none => False
      | _ => False
    | none => match viewD h x, keyOf y with
      | some kvs, some k => match getD kvs k with
        | some d => Q d
        | none => False
      | _, _ => False
def sliceK (h : AHeap) (x : AV) (lo hi : Option Int) (Q : KA) : Prop :=
  match x with
  | .str z => z.length ≤ sizeLine ∧ Q (.str (cutS z lo hi))
  | .tup xs => Q (.tup (cut xs lo hi))
  | _ => False
def truK (h : AHeap) (x : AV) (Q : Bool → Prop) : Prop :=
  match x with
  | .bl b => Q b
  | .non => Q false
  | .int i => Q (i != 0)
  | .str y => y.length ≤ sizeLine ∧ Q ((y.length : Int) != 0)
  | x => match viewT h x with
    | some xs => Q (!xs.isEmpty)
    | none => False
def bltK (h : AHeap) (b : Blt) (vs : List AV) (Q : KA) : Prop :=
  match b, vs with
  | .len, [.str z] => z.length ≤ sizeLine ∧ Q (.int z.length)
  | .len, [x] => match viewT h x with
    | some xs => Q (.int xs.length)
    | none => match viewD h x with
      | some kvs => Q (.int kvs.length)
      | none => False
  | .abs, [.int i] => Q (.int (if i < 0 then -i else i))
  | .int, [.int i] => Q (.int i)
  | .int, [.bl k] => Q (.int (if k then 1 else 0))
  | .int, [.str z] => match PySem.intText? z with
    | some n => z.length ≤ 640 ∧ Q (.int n)
    | none => False
  | .str, [.int i] => i.natAbs.log2 < 1920 ∧ Q (.str (toString i))
  | .max2, [.int i, .int j] => Q (.int (if j > i then j else i))
  | .min2, [.int i, .int j] => Q (.int (if j < i then j else i))
  | .maxL, [x] => match (view h x).bind asInts with
    | some ns => 0 < ns.length ∧ ∀ m, m ∈ ns → (∀ y, y ∈ ns → y ≤ m) → Q (.int m)
    | none => False
  | .minL, [x] => match (view h x).bind asInts with
    | some ns => 0 < ns.length ∧ ∀ m, m ∈ ns → (∀ y, y ∈ ns → m ≤ y) → Q (.int m)
    | none => False
  | .sum, [x] => match (view h x).bind asInts with
    | some ns => Q (.int ns.sum)
    | none => False
  | .all, [x] => match (view h x).bind asBools with
    | some bs => Q (.bl (bs.all id))
    | none => False
  | .any, [x] => match (view h x).bind asBools with
    | some bs => Q (.bl (bs.any id))
    | none => False
  | .repr, [x] => match pdH h x with
    | some d => (d.showable = true ∧ d.hasDict = false ∧ d.depth ≤ 50 ∧ d.shown.length ≤ sizeLine) ∧ Q (.str d.shown)
    | none => False
  | .tuple, [.tup xs] => Q (.tup xs)
  | .tuple, [x] => match view h x with
    | some xs => Q (.tup xs)
    | none => False
  | _, _ => False
/-- isinstance against a built-in type -/
def isiK (x : AV) (t : String) (h : AHeap) (Q : KA) : Prop :=
  match x with
  | .non => (t = "int" ∨ t = "bool" ∨ t = "str" ∨ t = "list" ∨ t = "tuple") ∧ Q (.bl false)
  | .bl _ => (t = "int" ∧ Q (.bl true)) ∨ (t = "bool" ∧ Q (.bl true)) ∨ ((t = "str" ∨ t = "list" ∨ t = "tuple") ∧ Q (.bl false))
  | .int _ => (t = "int" ∧ Q (.bl true)) ∨ ((t = "bool" ∨ t = "str" ∨ t = "list" ∨ t = "tuple") ∧ Q (.bl false))
  | .str _ => (t = "str" ∧ Q (.bl true)) ∨ ((t = "bool" ∨ t = "int" ∨ t = "list" ∨ t = "tuple") ∧ Q (.bl false))
  | .tup _ => (t = "tuple" ∧ Q (.bl true)) ∨ ((t = "bool" ∨ t = "int" ∨ t = "list" ∨ t = "str") ∧ Q (.bl false))
  | .dct _ => False
  | x => match view h x with
    | some _ => (t = "list" ∧ Q (.bl true)) ∨ ((t = "bool" ∨ t = "int" ∨ t = "tuple" ∨ t = "str") ∧ Q (.bl false))
    | none => False
def smtK (h : AHeap) (m : Sm) (z : Str) (a : AV) (Q : KA) : Prop :=
  match m with
  | .join => match (viewT h a).bind asStrs with
    | some ys => (ys.map (·.length)).sum + ys.length * z.length ≤ 16777216 ∧ Q (.str (Txt.join z ys))
    | none => False

/-! ### the transformers -/
structure Ctx where
  glob : Nat → Option AV
  call : Nat → List AV → AHeap → (AV → AHeap → Prop) → Prop
  meth : Nat → Str → Option Nat
  init : Nat → Option Nat
  fld : Nat → Str → Bool

def getS : Env → Nat → Slot
  | [], _ => .no
  | x :: _, 0 => x
  | _ :: r, n + 1 => getS r n
def setS : Env → Nat → Slot → Env
  | [], _, _ => []
  | _ :: r, 0, v => v :: r
  | x :: r, n + 1, v => x :: setS r n v
def wipeS (ρ : Env) : List Nat → Env
  | [] => ρ
  | v :: vs => setS (wipeS ρ vs) v .no
def setsS : Env → List Nat → List AV → Option Env
  | ρ, [], [] => some ρ
  | ρ, i :: is, x :: xs => setsS (setS ρ i (.val x)) is xs
  | _, _, _ => none
def tgK (tg : Tg) (x : AV) (ρ : Env) (Q : Env → Prop) : Prop :=
  match tg with
  | .nm i => Q (setS ρ i (.val x))
  | .tup is => match x with
    | .tup xs => match setsS ρ is xs with
      | some ρ' => Q ρ'
      | none => False
    | _ => False

/-- a comprehension's loop: B gives an item, or none -/
def compL (B : AV → AHeap → (Option AV → AHeap → Prop) → Prop) (chk : AHeap → Prop) : List AV → List AV → AHeap → (List AV → AHeap → Prop) → Prop
  | [], acc, h, Q => chk h ∧ Q acc h
  | x :: xs, acc, h, Q => chk h ∧ B x h fun r h' => compL B chk xs (match r with | some y => acc ++ [y] | none => acc) h' Q

mutual
def WpE (C : Ctx) : Bool → E → Env → AHeap → (AV → AHeap → Prop) → Prop
  | _, .var i, ρ, h, Q => match getS ρ i with
    | .val d => Q d h
    | _ => False
  | true, .vw i, ρ, h, Q => match getS ρ i with
    | .own (.lst xs) => Q (.lst xs) h
    | .own (.dct xs) => Q (.dct xs) h
    | _ => False
  | false, .vw _, _, _, _ => False
  | _, .tru _, _, _, _ => False
  | _, .cint i, _, h, Q => Q (.int i) h
  | _, .cstr s, _, h, Q => Q (.str s) h
  | _, .cbl b, _, h, Q => Q (.bl b) h
  | _, .cnon, _, h, Q => Q .non h
  | _, .glob g, _, h, Q => match C.glob g with
    | some d => Q d h
    | none => False
  | _, .bin op a b, ρ, h, Q => WpE C false a ρ h fun x h1 => WpE C false b ρ h1 fun y h2 => binK h2 op x y fun z => Q z h2
  | _, .neg a, ρ, h, Q => WpE C false a ρ h fun x h1 => negK x fun z => Q z h1
  | _, .cmp op a b, ρ, h, Q => WpE C true a ρ h fun x h1 => WpE C true b ρ h1 fun y h2 => cmpK h2 op x y fun z => Q z h2
  | _, .chain o1 o2 a b c, ρ, h, Q => WpE C false a ρ h fun x h1 => WpE C false b ρ h1 fun y h2 => cmpK h2 o1 x y fun z => match z with
    | .bl true => WpE C false c ρ h2 fun w h3 => cmpK h3 o2 y w fun z => Q z h3
    | .bl false => Q (.bl false) h2
    | _ => False
  | _, .and a b, ρ, h, Q => WpE C false a ρ h fun x h1 => match x with
    | .bl true => WpE C false b ρ h1 Q
    | .bl false => Q (.bl false) h1
    | _ => False
  | _, .or a b, ρ, h, Q => WpE C false a ρ h fun x h1 => match x with
    | .bl false => WpE C false b ρ h1 Q
    | .bl true => Q (.bl true) h1
    | _ => False
  | _, .not a, ρ, h, Q => WpE C false a ρ h fun x h1 => match x with
    | .bl b => Q (.bl (!b)) h1
    | _ => False
  | _, .ite c a b, ρ, h, Q => WpT C c ρ h fun k h1 => if k = true then WpE C false a ρ h1 Q else WpE C false b ρ h1 Q
  | _, .tup es, ρ, h, Q => WpEs C es ρ h fun xs h1 => xs.length ≤ sizeLine ∧ Q (.tup xs) h1
  | _, .fz n, ρ, h, Q => WpN C n ρ h fun c h1 => match c with
    | .lst xs => Q (.lst xs) h1
    | .dct xs => Q (.dct xs) h1
    | _ => False
  | _, .new n, ρ, h, Q => WpN C n ρ h fun c h1 => Q (.adr h1.length) (h1 ++ [c])
  | _, .sub a i, ρ, h, Q => WpE C true a ρ h fun x h1 => WpE C false i ρ h1 fun y h2 => subK h2 x y fun z => Q z h2
  | _, .slice a lo hi, ρ, h, Q => WpE C false a ρ h fun x h1 => WpO C lo ρ h1 fun l h2 => WpO C hi ρ h2 fun u h3 => sliceK h3 x l u fun z => Q z h3
  | _, .call f es, ρ, h, Q => WpEs C es ρ h fun xs h1 => C.call f xs h1 Q
  | _, .blt b es, ρ, h, Q => WpBs C es ρ h fun xs h1 => bltK h1 b xs fun z => Q z h1
  | _, .isi a t, ρ, h, Q => WpE C true a ρ h fun x h1 => isiK x t h1 fun z => Q z h1
  | _, .smt m o a, ρ, h, Q => WpE C false o ρ h fun x h1 => match x with
    | .str z => WpE C true a ρ h1 fun y h2 => smtK h2 m z y fun z => Q z h2
    | _ => False
  | _, .attr a f, ρ, h, Q => WpE C false a ρ h fun x h1 => match x with
    | .adr n => match cells h1 n with
      | .obj c fs => C.fld c f = true ∧ match fs.lookup f with
        | some d => Q d h1
        | none => False
      | _ => False
    | _ => False
  | _, .mcall o m es, ρ, h, Q => WpE C false o ρ h fun x h1 => match x with
    | .adr n => match cells h1 n with
      | .obj c fs => match fs.lookup m with
        | some _ => False
        | none => match C.meth c m with
          | some f => WpEs C es ρ h1 fun xs h2 => C.call f (x :: xs) h2 Q
          | none => False
      | _ => False
    | _ => False
  | _, .make c es, ρ, h, Q => WpEs C es ρ h fun xs h1 => match C.init c with
    | some f => C.call f (.adr h1.length :: xs) (h1 ++ [.obj c []]) fun r h2 => match r with
      | .non => Q (.adr h1.length) h2
      | _ => False
    | none => False
def WpEs (C : Ctx) : Es → Env → AHeap → (List AV → AHeap → Prop) → Prop
  | .nil, _, h, Q => Q [] h
  | .cons e es, ρ, h, Q => WpE C false e ρ h fun x h1 => WpEs C es ρ h1 fun xs h2 => Q (x :: xs) h2
def WpBs (C : Ctx) : Es → Env → AHeap → (List AV → AHeap → Prop) → Prop
  | .nil, _, h, Q => Q [] h
  | .cons e es, ρ, h, Q => WpE C true e ρ h fun x h1 => WpBs C es ρ h1 fun xs h2 => Q (x :: xs) h2
def WpO (C : Ctx) : Oe → Env → AHeap → (Option Int → AHeap → Prop) → Prop
  | .no, _, h, Q => Q none h
  | .so e, ρ, h, Q => WpE C false e ρ h fun x h1 => match x with
    | .int i => Q (some i) h1
    | _ => False
def WpN (C : Ctx) : Nw → Env → AHeap → (Cell → AHeap → Prop) → Prop
  | .lst es, ρ, h, Q => WpEs C es ρ h fun xs h1 => xs.length ≤ sizeLine ∧ Q (.lst xs) h1
  | .comp elt tg it cond own, ρ, h, Q => WpI C it ρ h fun xs chk h1 => xs.length ≤ sizeLine ∧ compL (fun x h2 R => tgK tg x (wipeS ρ own) fun ρ2 => WpC C cond ρ2 h2 fun k h3 => if k = true then WpE C false elt ρ2 h3 fun y h4 => R (some y) h4 else R none h3) chk xs [] h1 fun acc h2 => Q (.lst acc) h2
  | .slice a lo hi, ρ, h, Q => WpE C true a ρ h fun x h1 => WpO C lo ρ h1 fun l h2 => WpO C hi ρ h2 fun u h3 => match view h3 x with
    | some xs => Q (.lst (cut xs l u)) h3
    | none => False
  | .listOf a, ρ, h, Q => WpE C true a ρ h fun x h1 => match viewT h1 x with
    | some xs => Q (.lst xs) h1
    | none => False
  | .cat a b, ρ, h, Q => WpE C true a ρ h fun x h1 => WpE C true b ρ h1 fun y h2 => match viewW h2 x, viewW h2 y with
    | some xs, some ys => xs.length + ys.length ≤ sizeLine ∧ Q (.lst (xs ++ ys)) h2
    | _, _ => False
  | .rep a b, ρ, h, Q => WpE C true a ρ h fun x h1 => WpE C false b ρ h1 fun y h2 => match viewW h2 x, y with
    | some xs, .int k => (-(2 ^ 63) ≤ k ∧ k < 2 ^ 63) ∧ xs.length * k.toNat ≤ sizeLine ∧ Q (.lst (List.replicate k.toNat xs).flatten) h2
    | _, _ => False
  | .rev a, ρ, h, Q => WpE C true a ρ h fun x h1 => match view h1 x with
    | some xs => Q (.lst xs.reverse) h1
    | none => False
  | .dct1 k v, ρ, h, Q => WpE C false k ρ h fun x h1 => WpE C false v ρ h1 fun y h2 => match keyOf x with
    | some k => Q (.dct [(k, y)]) h2
    | none => False
/-- what is walked: the items; what must stay so while they are -/
def WpI (C : Ctx) : It → Env → AHeap → (List AV → (AHeap → Prop) → AHeap → Prop) → Prop
  | .rng1 a, ρ, h, Q => WpE C false a ρ h fun x h1 => match x with
    | .int n => (-(2 ^ 62) ≤ n ∧ n < 2 ^ 62) ∧ Q ((List.range n.toNat).map fun (k : Nat) => .int (k : Int)) (fun _ => True) h1
    | _ => False
  | .rng2 a b, ρ, h, Q => WpE C false a ρ h fun x h1 => WpE C false b ρ h1 fun y h2 => match x, y with
    | .int i, .int n => (-(2 ^ 62) ≤ i ∧ i < 2 ^ 62 ∧ -(2 ^ 62) ≤ n ∧ n < 2 ^ 62) ∧ Q ((List.range (n - i).toNat).map fun (k : Nat) => .int (i + (k : Int))) (fun _ => True) h2
    | _, _ => False
  | .own i, ρ, h, Q => match getS ρ i with
    | .own (.lst xs) => Q xs (fun _ => True) h
    | _ => False
  | .seq a, ρ, h, Q => WpE C false a ρ h fun x h1 => match viewT h1 x with
    | some xs => Q xs (fun h' => viewT h' x = some xs) h1
    | none => False
  | .chars a, ρ, h, Q => WpE C false a ρ h fun x h1 => match x with
    | .str z => Q (z.cps.toList.map fun c => .str ⟨#[c]⟩) (fun _ => True) h1
    | _ => False
def WpC (C : Ctx) : Oe → Env → AHeap → (Bool → AHeap → Prop) → Prop
  | .no, _, h, Q => Q true h
  | .so e, ρ, h, Q => WpT C e ρ h Q
/-- a test -/
def WpT (C : Ctx) : E → Env → AHeap → (Bool → AHeap → Prop) → Prop
  | .and a b, ρ, h, Q => WpT C a ρ h fun k h1 => if k = true then WpT C b ρ h1 Q else Q false h1
  | .or a b, ρ, h, Q => WpT C a ρ h fun k h1 => if k = true then Q true h1 else WpT C b ρ h1 Q
  | .not a, ρ, h, Q => WpT C a ρ h fun k h1 => Q (!k) h1
  | .cmp op a b, ρ, h, Q => WpE C true a ρ h fun x h1 => WpE C true b ρ h1 fun y h2 => cmpK h2 op x y fun z => match z with
    | .bl k => Q k h2
    | _ => False
  | .chain o1 o2 a b c, ρ, h, Q => WpE C false a ρ h fun x h1 => WpE C false b ρ h1 fun y h2 => cmpK h2 o1 x y fun z => match z with
    | .bl true => WpE C false c ρ h2 fun w h3 => cmpK h3 o2 y w fun z => match z with
      | .bl k => Q k h3
      | _ => False
    | .bl false => Q false h2
    | _ => False
  | .cbl b, _, h, Q => Q b h
  | .tru e, ρ, h, Q => WpE C false e ρ h fun x h1 => truK h1 x fun k => Q k h1
  | _, _, _, _ => False
end

/-! ### statements -/
structure Kt where
  nx : Env → AHeap → Prop
  rt : AV → AHeap → Prop
  bk : Env → AHeap → Prop := fun _ _ => False
  ct : Env → AHeap → Prop := fun _ _ => False
def forL (B : AV → Kt → Env → AHeap → Prop) (chk : AHeap → Prop) (D : Kt) : List AV → Env → AHeap → Prop
  | [], ρ, h => chk h ∧ D.nx ρ h
  | x :: xs, ρ, h => chk h ∧ B x { D with nx := forL B chk D xs, ct := forL B chk D xs, bk := D.nx } ρ h
def whL (T : Env → AHeap → (Bool → AHeap → Prop) → Prop) (B : Kt → Env → AHeap → Prop) (D : Kt) (ρ : Env) (h : AHeap) : Prop :=
  ∃ W : Nat → Env → AHeap → Prop, (∃ m, W m ρ h) ∧ ∀ m ρ h, W m ρ h → T ρ h fun b h1 =>
    if b = true then B { D with nx := fun ρ' h' => ∃ m', m' < m ∧ W m' ρ' h', ct := fun ρ' h' => ∃ m', m' < m ∧ W m' ρ' h', bk := D.nx } ρ h1 else D.nx ρ h1
def putFA (f : Str) (v : AV) : List (Str × AV) → List (Str × AV)
  | [] => [(f, v)]
  | (g, u) :: r => if g = f then (g, v) :: r else (g, u) :: putFA f v r
/-- a cell's item stored: o[k] = d -/
def putC (c : Cell) (k d : AV) (Q : Cell → Prop) : Prop :=
  match c with
  | .lst xs => match k with
    | .int i => match ixN xs.length i with
      | some j => Q (.lst (xs.set j d))
      | none => False
    | _ => False
  | .dct kvs => match keyOf k with
    | some k => kvs.length < 100000 ∧ Q (.dct (putD kvs k d))
    | none => False
  | _ => False
def appC (c : Cell) (d : AV) (Q : Cell → Prop) : Prop :=
  match c with
  | .lst xs => xs.length < sizeLine ∧ Q (.lst (xs ++ [d]))
  | _ => False
def augK (op : Operator) (x y : AV) (Q : KA) : Prop :=
  match op, x, y with
  | .Add, .int i, .int j => Q (.int (i + j))
  | .Sub, .int i, .int j => Q (.int (i - j))
  | _, _, _ => False
mutual
def WpS (C : Ctx) : S → Kt → Env → AHeap → Prop
  | .asg tg e, D, ρ, h => WpE C false e ρ h fun x h1 => tgK tg x ρ fun ρ' => D.nx ρ' h1
  | .asgO i n, D, ρ, h => WpN C n ρ h fun c h1 => D.nx (setS ρ i (.own c)) h1
  | .frz i, D, ρ, h => match getS ρ i with
    | .own (.lst xs) => D.nx (setS ρ i (.val (.lst xs))) h
    | .own (.dct xs) => D.nx (setS ρ i (.val (.dct xs))) h
    | _ => False
  | .par i j a b, D, ρ, h => WpE C false a ρ h fun x h1 => WpE C false b ρ h1 fun y h2 => D.nx (setS (setS ρ i (.val x)) j (.val y)) h2
  | .aug i op e, D, ρ, h => match getS ρ i with
    | .val x => WpE C false e ρ h fun y h1 => augK op x y fun z => D.nx (setS ρ i (.val z)) h1
    | _ => False
  | .app i e, D, ρ, h => match getS ρ i with
    | .own (.lst xs) => WpE C false e ρ h fun d h1 => xs.length < sizeLine ∧ D.nx (setS ρ i (.own (.lst (xs ++ [d])))) h1
    | _ => False
  | .appE o e, D, ρ, h => WpE C false o ρ h fun x h1 => match x with
    | .adr n => match cells h1 n with
      | .lst _ => WpE C false e ρ h1 fun d h2 => appC (cells h2 n) d fun c' => D.nx ρ (h2.set n c')
      | _ => False
    | _ => False
  | .put i k e, D, ρ, h => match getS ρ i with
    | .own c => WpE C false e ρ h fun d h1 => WpE C false k ρ h1 fun y h2 => putC c y d fun c' => D.nx (setS ρ i (.own c')) h2
    | _ => False
  | .putE o k e, D, ρ, h => WpE C false e ρ h fun d h1 => WpE C false o ρ h1 fun x h2 => WpE C false k ρ h2 fun y h3 => match x with
    | .adr n => putC (cells h3 n) y d fun c' => D.nx ρ (h3.set n c')
    | _ => False
  | .fld o f e, D, ρ, h => WpE C false e ρ h fun d h1 => WpE C false o ρ h1 fun x h2 => match x with
    | .adr n => match cells h2 n with
      | .obj c fs => C.fld c f = true ∧ fs.length < 1000 ∧ D.nx ρ (h2.set n (.obj c (putFA f d fs)))
      | _ => False
    | _ => False
  | .expr e, D, ρ, h => WpE C false e ρ h fun _ h1 => D.nx ρ h1
  | .ret e, D, ρ, h => WpE C false e ρ h fun d h1 => D.rt d h1
  | .retN, D, _, h => D.rt .non h
  | .ite c a b, D, ρ, h => WpT C c ρ h fun k h1 => if k = true then WpSs C a D ρ h1 else WpSs C b D ρ h1
  | .wh c b, D, ρ, h => whL (WpT C c) (WpSs C b) D ρ h
  | .for tg it b, D, ρ, h => WpI C it ρ h fun xs chk h1 => forL (fun x D ρ h => tgK tg x ρ fun ρ' => WpSs C b D ρ' h) chk D xs ρ h1
  | .pass, D, ρ, h => D.nx ρ h
  | .brk, D, ρ, h => D.bk ρ h
  | .cont, D, ρ, h => D.ct ρ h
  | .bad, _, _, _ => False
def WpSs (C : Ctx) : Ss → Kt → Env → AHeap → Prop
  | .nil, D, ρ, h => D.nx ρ h
  | .cons s r, D, ρ, h => WpS C s { D with nx := WpSs C r D } ρ h
end

/-! ### a program -/
structure Fn where
  np : Nat
  ns : Nat
  body : Ss
structure Prg where
  fns : List (Nat × Fn)
  glob : List (Nat × AV) := []
  meth : List ((Nat × Str) × Nat) := []
  init : List (Nat × Nat) := []
  flds : List (Nat × Str) := []
def startS (F : Fn) (args : List AV) : Env := args.map .val ++ List.replicate (F.ns - args.length) .no
def ctxOf (P : Prg) (call : Nat → List AV → AHeap → (AV → AHeap → Prop) → Prop) : Ctx where
  glob g := P.glob.lookup g
  call := call
  meth c m := P.meth.lookup (c, m)
  init c := P.init.lookup c
  fld c f := P.flds.contains (c, f)
def callN (P : Prg) : Nat → Nat → List AV → AHeap → (AV → AHeap → Prop) → Prop
  | 0, _, _, _, _ => False
  | n + 1, f, args, h, Q => match P.fns.lookup f with
    | none => False
    | some F => args.length = F.np ∧ WpSs (ctxOf P (callN P n)) F.body { nx := fun _ h => Q .non h, rt := Q } (startS F args) h
end VL

set_option maxRecDepth 100000
set_option maxHeartbeats 2000000
/-! VL: how values stand in the heap. -/
namespace VL
open PySem L2 Evl

mutual
inductive Rep (K : PySem.W.Frag) (cs : List Addr) (F : Hp) : V → AV → Prop
  | non : Rep K cs F .non .non
  | bl (b : Bool) : Rep K cs F (.bl b) (.bl b)
  | int (i : Int) : Rep K cs F (.int i) (.int i)
  | str (s : Str) : Rep K cs F (.str s) (.str s)
  | tup {a : Addr} {vs : List V} {xs : List AV} : SqT K F a vs → Reps K cs F vs xs → Rep K cs F (.ref a) (.tup xs)
  | lst {a : Addr} {vs : List V} {xs : List AV} : F a = some (.lst vs) → Reps K cs F vs xs → Rep K cs F (.ref a) (.lst xs)
  | ro {a : Addr} {vs : List V} {xs : List AV} : SqL K F a vs → Reps K cs F vs xs → Rep K cs F (.ref a) (.ro xs)
  | dct {a : Addr} {us : List (Key × V)} {xs : List (Key × AV)} : F a = some (.dK us) → RepK K cs F us xs → Rep K cs F (.ref a) (.dct xs)
  | adr {n : Nat} {a : Addr} : cs[n]? = some a → Rep K cs F (.ref a) (.adr n)
inductive Reps (K : PySem.W.Frag) (cs : List Addr) (F : Hp) : List V → List AV → Prop
  | nil : Reps K cs F [] []
  | cons {v : V} {vs : List V} {d : AV} {ds : List AV} : Rep K cs F v d → Reps K cs F vs ds → Reps K cs F (v :: vs) (d :: ds)
inductive RepK (K : PySem.W.Frag) (cs : List Addr) (F : Hp) : List (Key × V) → List (Key × AV) → Prop
  | nil : RepK K cs F [] []
  | cons {k : Key} {v : V} {vs : List (Key × V)} {d : AV} {ds : List (Key × AV)} : Rep K cs F v d → RepK K cs F vs ds → RepK K cs F ((k, v) :: vs) ((k, d) :: ds)
end
inductive RepF (K : PySem.W.Frag) (cs : List Addr) (F : Hp) : List (Str × V) → List (Str × AV) → Prop
  | nil : RepF K cs F [] []
  | cons {k : Str} {v : V} {vs : List (Str × V)} {d : AV} {ds : List (Str × AV)} : Rep K cs F v d → RepF K cs F vs ds → RepF K cs F ((k, v) :: vs) ((k, d) :: ds)

section
variable {K : PySem.W.Frag} {cs cs' : List Addr} {F F' : Hp}
theorem get_pre {r : List Addr} (hc : cs' = cs ++ r) {n : Nat} {a : Addr} (h : cs[n]? = some a) : cs'[n]? = some a := by
  subst hc
  rw [List.getElem?_append_left (List.getElem?_eq_some_iff.mp h).1]
  exact h
mutual
theorem Rep.mono (e : Ex F F') (hc : ∃ r, cs' = cs ++ r) : ∀ {v : V} {d : AV}, Rep K cs F v d → Rep K cs' F' v d
  | _, _, .non => .non
  | _, _, .bl b => .bl b
  | _, _, .int i => .int i
  | _, _, .str s => .str s
  | _, _, .tup h r => .tup (ex_t e h) (Reps.mono e hc r)
  | _, _, .lst h r => .lst (e _ _ h) (Reps.mono e hc r)
  | _, _, .ro h r => .ro (ex_l e h) (Reps.mono e hc r)
  | _, _, .dct h r => .dct (e _ _ h) (RepK.mono e hc r)
  | _, _, .adr h => .adr (let ⟨_, q⟩ := hc; get_pre q h)
theorem Reps.mono (e : Ex F F') (hc : ∃ r, cs' = cs ++ r) : ∀ {v : List V} {d : List AV}, Reps K cs F v d → Reps K cs' F' v d
  | _, _, .nil => .nil
  | _, _, .cons h r => .cons (Rep.mono e hc h) (Reps.mono e hc r)
theorem RepK.mono (e : Ex F F') (hc : ∃ r, cs' = cs ++ r) : ∀ {v : List (Key × V)} {d : List (Key × AV)}, RepK K cs F v d → RepK K cs' F' v d
  | _, _, .nil => .nil
  | _, _, .cons h r => .cons (Rep.mono e hc h) (RepK.mono e hc r)
end
theorem RepF.mono (e : Ex F F') (hc : ∃ r, cs' = cs ++ r) {v : List (Str × V)} {d : List (Str × AV)} (h : RepF K cs F v d) : RepF K cs' F' v d := by
  induction h with
  | nil => exact .nil
  | cons h _ ih => exact .cons (h.mono e hc) ih
theorem Reps.length {vs : List V} {xs : List AV} (h : Reps K cs F vs xs) : vs.length = xs.length := by
  revert xs
  induction vs with
  | nil => intro xs h; cases h; rfl
  | cons v vs ih => intro xs h; cases h with | cons h r => simp [ih r]
theorem Reps.get {vs : List V} {xs : List AV} (h : Reps K cs F vs xs) {i : Nat} {d : AV} (e : xs[i]? = some d) : ∃ v, vs[i]? = some v ∧ Rep K cs F v d := by
  revert xs i
  induction vs with
  | nil => intro xs h i e; cases h; simp at e
  | cons v vs ih =>
    intro xs h i e
    cases h with
    | cons h r =>
      cases i with
      | zero => simp at e; subst e; exact ⟨v, rfl, h⟩
      | succ i => simpa using ih r (by simpa using e)
theorem Reps.get' {vs : List V} {xs : List AV} (h : Reps K cs F vs xs) {i : Nat} {v : V} (e : vs[i]? = some v) : ∃ d, xs[i]? = some d ∧ Rep K cs F v d := by
  revert xs i
  induction vs with
  | nil => intro xs h i e; cases h; simp at e
  | cons w vs ih =>
    intro xs h i e
    cases h with
    | cons h r =>
      cases i with
      | zero => simp at e; subst e; exact ⟨_, rfl, h⟩
      | succ i => simpa using ih r (by simpa using e)
theorem Reps.append {vs ws : List V} {xs ys : List AV} (h : Reps K cs F vs xs) (g : Reps K cs F ws ys) : Reps K cs F (vs ++ ws) (xs ++ ys) := by
  revert xs
  induction vs with
  | nil => intro xs h; cases h; exact g
  | cons v vs ih => intro xs h; cases h with | cons h r => exact .cons h (ih r)
theorem Reps.drop {vs : List V} {xs : List AV} (h : Reps K cs F vs xs) (n : Nat) : Reps K cs F (vs.drop n) (xs.drop n) := by
  induction n generalizing vs xs with
  | zero => exact h
  | succ n ih => cases h with
    | nil => exact .nil
    | cons h r => exact ih r
theorem Reps.take {vs : List V} {xs : List AV} (h : Reps K cs F vs xs) (n : Nat) : Reps K cs F (vs.take n) (xs.take n) := by
  induction n generalizing vs xs with
  | zero => exact .nil
  | succ n ih => cases h with
    | nil => exact .nil
    | cons h r => exact .cons h (ih r)
theorem Reps.rev {vs : List V} {xs : List AV} (h : Reps K cs F vs xs) : Reps K cs F vs.reverse xs.reverse := by
  induction vs generalizing xs with
  | nil => cases h; exact .nil
  | cons v vs ih => cases h with
    | cons h r =>
      rw [List.reverse_cons, List.reverse_cons]
      exact (ih r).append (.cons h .nil)
theorem Reps.cut {vs : List V} {xs : List AV} (h : Reps K cs F vs xs) (lo hi : Option Int) : Reps K cs F (cutV vs lo hi) (cut xs lo hi) := by
  unfold cutV VL.cut
  rw [h.length]
  exact (h.drop _).take _
theorem Reps.set {vs : List V} {xs : List AV} (h : Reps K cs F vs xs) {v : V} {d : AV} (r : Rep K cs F v d) (i : Nat) : Reps K cs F (vs.set i v) (xs.set i d) := by
  induction i generalizing vs xs with
  | zero => cases h with
    | nil => exact .nil
    | cons h t => exact .cons r t
  | succ n ih => cases h with
    | nil => exact .nil
    | cons h t => exact .cons h (ih t)
theorem Reps.at {vs : List V} {xs : List AV} (h : Reps K cs F vs xs) {i : Int} {d : AV} (e : atI xs i = some d) : ∃ v, atI vs i = some v ∧ Rep K cs F v d := by
  unfold atI at e ⊢
  rw [h.length]
  cases q : ixN xs.length i with
  | none => rw [q] at e; cases e
  | some j => rw [q] at e; exact h.get e
theorem RepK.length {vs : List (Key × V)} {xs : List (Key × AV)} (h : RepK K cs F vs xs) : vs.length = xs.length := by
  revert xs
  induction vs with
  | nil => intro xs h; cases h; rfl
  | cons v vs ih => intro xs h; cases h with | cons h r => simp [ih r]
theorem RepK.get {vs : List (Key × V)} {xs : List (Key × AV)} (h : RepK K cs F vs xs) {k : Key} : (∃ v d, valV vs k = some v ∧ getD xs k = some d ∧ Rep K cs F v d) ∨ (valV vs k = none ∧ getD xs k = none) := by
  revert xs
  induction vs with
  | nil => intro xs h; cases h; exact .inr ⟨rfl, rfl⟩
  | cons v vs ih =>
    intro xs h
    cases h with
    | cons h r =>
      rename_i k' v' d' ds'
      unfold valV getD
      by_cases q : k' = k
      · subst q
        exact .inl ⟨v', d', by simp [List.find?_cons], by simp [List.find?_cons], h⟩
      · have := ih r
        unfold valV getD at this
        simpa [List.find?_cons, q] using this
theorem RepK.any {vs : List (Key × V)} {xs : List (Key × AV)} (h : RepK K cs F vs xs) {k : Key} : (vs.any fun kv => decide (kv.1 = k)) = (xs.any fun kv => decide (kv.1 = k)) := by
  revert xs
  induction vs with
  | nil => intro xs h; cases h; rfl
  | cons v vs ih =>
    intro xs h
    cases h with
    | cons h r => simp [ih r]
theorem RepK.append {vs ws : List (Key × V)} {xs ys : List (Key × AV)} (h : RepK K cs F vs xs) (g : RepK K cs F ws ys) : RepK K cs F (vs ++ ws) (xs ++ ys) := by
  revert xs
  induction vs with
  | nil => intro xs h; cases h; exact g
  | cons v vs ih => intro xs h; cases h with | cons h r => exact .cons h (ih r)
theorem RepK.mapPut {vs : List (Key × V)} {xs : List (Key × AV)} (h : RepK K cs F vs xs) {k : Key} {v : V} {d : AV} (r : Rep K cs F v d) :
    RepK K cs F (vs.map fun kv => if kv.1 = k then (kv.1, v) else kv) (xs.map fun kv => if kv.1 = k then (kv.1, d) else kv) := by
  revert xs
  induction vs with
  | nil => intro xs h; cases h; exact .nil
  | cons w vs ih =>
    intro xs h
    cases h with
    | cons h t =>
      rename_i k' v' d' ds'
      simp only [List.map_cons]
      by_cases q : k' = k
      · rw [if_pos q, if_pos q]; exact .cons r (ih t)
      · rw [if_neg q, if_neg q]; exact .cons h (ih t)
theorem RepK.put {vs : List (Key × V)} {xs : List (Key × AV)} (h : RepK K cs F vs xs) {k : Key} {v : V} {d : AV} (r : Rep K cs F v d) : RepK K cs F (putK vs k v) (putD xs k d) := by
  unfold putK putD
  rw [h.any]
  split
  · exact h.mapPut r
  · exact h.append (.cons r .nil)
theorem RepF.get {vs : List (Str × V)} {xs : List (Str × AV)} (h : RepF K cs F vs xs) {k : Str} {d : AV} (e : xs.lookup k = some d) : ∃ v, vs.lookup k = some v ∧ Rep K cs F v d := by
  induction h with
  | nil => simp at e
  | cons h r ih =>
    rw [List.lookup_cons] at e ⊢
    split at e
    · cases e
      exact ⟨_, rfl, h⟩
    · exact ih e
theorem RepF.none {vs : List (Str × V)} {xs : List (Str × AV)} (h : RepF K cs F vs xs) {k : Str} (e : xs.lookup k = none) : vs.lookup k = none := by
  induction h with
  | nil => rfl
  | cons h r ih =>
    rw [List.lookup_cons] at e ⊢
    split at e
    · cases e
    · exact ih e
theorem RepF.length {vs : List (Str × V)} {xs : List (Str × AV)} (h : RepF K cs F vs xs) : vs.length = xs.length := by
  induction h with
  | nil => rfl
  | cons h r ih => simp [ih]
theorem RepF.put {vs : List (Str × V)} {xs : List (Str × AV)} (h : RepF K cs F vs xs) {f : Str} {v : V} {d : AV} (r : Rep K cs F v d) : RepF K cs F (putF f v vs) (putFA f d xs) := by
  induction h with
  | nil => exact .cons r .nil
  | cons h t ih =>
    rename_i k v' vs' d' ds'
    show RepF K cs F (if k = f then (k, v) :: vs' else (k, v') :: putF f v vs') (if k = f then (k, d) :: ds' else (k, d') :: putFA f d ds')
    by_cases q : k = f
    · rw [if_pos q, if_pos q]; exact .cons r t
    · rw [if_neg q, if_neg q]; exact .cons h ih
theorem Reps.ints {vs : List V} {xs : List AV} (h : Reps K cs F vs xs) {ns : List Int} (e : asInts xs = some ns) : vs = ns.map V.int := by
  revert xs ns
  induction vs with
  | nil => intro xs h ns e; cases h; simp [asInts] at e; subst e; rfl
  | cons v vs ih =>
    intro xs h ns e
    cases h with
    | cons h r =>
      cases h <;> simp [asInts] at e
      obtain ⟨l, e1, e2⟩ := e
      subst e2
      rw [ih r e1]; rfl
theorem Reps.bools {vs : List V} {xs : List AV} (h : Reps K cs F vs xs) {ns : List Bool} (e : asBools xs = some ns) : vs = ns.map V.bl := by
  revert xs ns
  induction vs with
  | nil => intro xs h ns e; cases h; simp [asBools] at e; subst e; rfl
  | cons v vs ih =>
    intro xs h ns e
    cases h with
    | cons h r =>
      cases h <;> simp [asBools] at e
      obtain ⟨l, e1, e2⟩ := e
      subst e2
      rw [ih r e1]; rfl
theorem Reps.strs {vs : List V} {xs : List AV} (h : Reps K cs F vs xs) {ns : List Str} (e : asStrs xs = some ns) : vs = ns.map V.str := by
  revert xs ns
  induction vs with
  | nil => intro xs h ns e; cases h; simp [asStrs] at e; subst e; rfl
  | cons v vs ih =>
    intro xs h ns e
    cases h with
    | cons h r =>
      cases h <;> simp [asStrs] at e
      obtain ⟨l, e1, e2⟩ := e
      subst e2
      rw [ih r e1]; rfl
mutual
theorem Rep.dp {H : Hp} (e : Ex F H) : ∀ {v : V} {d : AV}, Rep K cs F v d → ∀ {p : PyData}, pd d = some p → Dp K H v p
  | _, _, .non, _, q => by simp [pd] at q; subst q; exact .non
  | _, _, .bl b, _, q => by simp [pd] at q; subst q; exact .bl b
  | _, _, .int i, _, q => by simp [pd] at q; subst q; exact .int i
  | _, _, .str s, _, q => by simp [pd] at q; subst q; exact .str s
  | _, _, .tup h r, _, q => by
    simp [pd] at q
    obtain ⟨l, e1, e2⟩ := q
    subst e2
    exact .tup (ex_t e h) (Reps.dp e r e1)
  | _, _, .lst h r, _, q => by
    simp [pd] at q
    obtain ⟨l, e1, e2⟩ := q
    subst e2
    exact .lst (sq_of (e _ _ h)) (Reps.dp e r e1)
  | _, _, .ro h r, _, q => by
    simp [pd] at q
    obtain ⟨l, e1, e2⟩ := q
    subst e2
    exact .lst (ex_l e h) (Reps.dp e r e1)
  | _, _, .dct h r, _, q => by simp [pd] at q
  | _, _, .adr h, _, q => by simp [pd] at q
theorem Reps.dp {H : Hp} (e : Ex F H) : ∀ {v : List V} {d : List AV}, Reps K cs F v d → ∀ {p : List PyData}, pds d = some p → DpAll K H v p
  | _, _, .nil, _, q => by simp [pds] at q; subst q; exact .nil
  | _, _, .cons h r, _, q => by
    simp [pds, Option.bind_eq_some_iff] at q
    obtain ⟨d1, e1, l, e2, e3⟩ := q
    subst e3
    exact .cons (Rep.dp e h e1) (Reps.dp e r e2)
end
end

/-! ### states -/
def COk (K : PySem.W.Frag) (Cl : Nat → Addr) (cs : List Addr) (F H : Hp) (a : Addr) : Cell → Prop
  | .lst xs => ∃ vs, H a = some (.lst vs) ∧ Reps K cs F vs xs
  | .dct xs => ∃ us, H a = some (.dK us) ∧ RepK K cs F us xs
  | .obj c fs => ∃ dx fvs, H a = some (.ins (Cl c) dx fvs) ∧ RepF K cs F fvs fs
  | .dead => H a ≠ none
structure StOk (K : PySem.W.Frag) (Cl : Nat → Addr) (cs : List Addr) (F H : Hp) (h : AHeap) : Prop where
  sub : Ex F H
  len : cs.length = h.length
  nd : cs.Nodup
  cell : ∀ n a, cs[n]? = some a → COk K Cl cs F H a (cells h n)
  free : ∀ a, a ∈ cs → F a = none
structure Stp (cs : List Addr) (F H : Hp) (cs' : List Addr) (F' H' : Hp) : Prop where
  f : Ex F F'
  c : ∃ r, cs' = cs ++ r
  k : ∀ b o, H b = some o → b ∉ cs → H' b = some o
  d : ∀ b, H b ≠ none → H' b ≠ none
  n : ∀ b, F b = none → F' b ≠ none → H b = none
  m : ∀ b, b ∈ cs' → b ∉ cs → H b = none
structure EnvOk (K : PySem.W.Frag) (Cl : Nat → Addr) (cs : List Addr) (F H : Hp) (σ : L2.St) (ρ : Env) : Prop where
  len : ρ.length = σ.length
  val : ∀ i d, getS ρ i = .val d → ∃ v, σ[i]? = some (some v) ∧ Rep K cs F v d
  own : ∀ i c, getS ρ i = .own c → ∃ a, σ[i]? = some (some (.ref a)) ∧ a ∉ cs ∧ F a = none ∧ COk K Cl cs F H a c
  dis : ∀ i j c c' a, i ≠ j → getS ρ i = .own c → getS ρ j = .own c' → σ[i]? = some (some (.ref a)) → σ[j]? ≠ some (some (.ref a))

section
variable {K : PySem.W.Frag} {Cl : Nat → Addr} {cs cs' cs'' : List Addr} {F F' F'' H H' H'' : Hp} {σ : L2.St} {ρ : Env} {h h' : AHeap} {a : Addr} {c : Cell}
theorem COk.some (x : COk K Cl cs F H a c) : H a ≠ none := by
  cases c with
  | lst xs => obtain ⟨vs, e, _⟩ := x; rw [e]; simp
  | dct xs => obtain ⟨vs, e, _⟩ := x; rw [e]; simp
  | obj c fs => obtain ⟨dx, vs, e, _⟩ := x; rw [e]; simp
  | dead => exact x
/-- the object at a as it was -/
theorem COk.mono (x : COk K Cl cs F H a c) (e : Ex F F') (hc : ∃ r, cs' = cs ++ r) (k : ∀ o, H a = Option.some o → H' a = Option.some o) : COk K Cl cs' F' H' a c := by
  cases c with
  | lst xs => obtain ⟨vs, q, r⟩ := x; exact ⟨vs, k _ q, r.mono e hc⟩
  | dct xs => obtain ⟨vs, q, r⟩ := x; exact ⟨vs, k _ q, r.mono e hc⟩
  | obj c fs => obtain ⟨dx, vs, q, r⟩ := x; exact ⟨dx, vs, k _ q, r.mono e hc⟩
  | dead =>
    show H' a ≠ none
    have x' : H a ≠ none := x
    cases q : H a with
    | none => exact absurd q x'
    | some o => rw [k o q]; simp
theorem Stp.refl : Stp cs F H cs F H := ⟨fun _ _ h => h, ⟨[], by simp⟩, fun _ _ h _ => h, fun _ h => h, fun b h1 h2 => absurd h1 h2, fun b h1 h2 => absurd h1 h2⟩
theorem Stp.trans (x : Stp cs F H cs' F' H') (y : Stp cs' F' H' cs'' F'' H'') : Stp cs F H cs'' F'' H'' where
  f := x.f.trans y.f
  c := by
    obtain ⟨r, e⟩ := x.c
    obtain ⟨s, e2⟩ := y.c
    exact ⟨r ++ s, by rw [e2, e, List.append_assoc]⟩
  k := fun b o e n => y.k b o (x.k b o e n) fun z => by
    have := x.m b z n
    rw [e] at this; cases this
  d := fun b e => y.d b (x.d b e)
  n := fun b e1 e2 => by
    by_cases q : F' b = none
    · have z := y.n b q e2
      cases w : H b with
      | none => rfl
      | some o => exact absurd z (x.d b (by rw [w]; simp))
    · exact x.n b e1 q
  m := fun b e1 e2 => by
    by_cases q : b ∈ cs'
    · exact x.m b q e2
    · have z := y.m b e1 q
      cases w : H b with
      | none => rfl
      | some o => exact absurd z (x.d b (by rw [w]; simp))
theorem Stp.fresh (x : Stp cs F H cs' F' H') {b : Addr} (h : H' b = none) : H b = none := by
  cases w : H b with
  | none => rfl
  | some o => exact absurd h (x.d b (by rw [w]; simp))
theorem EnvOk.step (E : EnvOk K Cl cs F H σ ρ) (x : Stp cs F H cs' F' H') : EnvOk K Cl cs' F' H' σ ρ where
  len := E.len
  val := fun i d e => by
    obtain ⟨v, q, r⟩ := E.val i d e
    exact ⟨v, q, r.mono x.f x.c⟩
  own := fun i c e => by
    obtain ⟨a, q, n1, n2, r⟩ := E.own i c e
    have hs := r.some
    refine ⟨a, q, fun z => hs (x.m a z n1), ?_, r.mono x.f x.c fun o ho => x.k a o ho n1⟩
    cases w : F' a with
    | none => rfl
    | some o => exact absurd (x.n a n2 (by rw [w]; simp)) hs
  dis := E.dis

/-! ### cells, slots -/
theorem cells_app {n : Nat} (hn : n < h.length) : cells (h ++ h') n = cells h n := by
  unfold cells
  rw [List.getElem?_append_left hn]
theorem cells_new : cells (h ++ [c]) h.length = c := by
  unfold cells
  simp
theorem cells_set_same {n : Nat} (hn : n < h.length) : cells (h.set n c) n = c := by
  unfold cells
  simp [hn]
theorem cells_set_ne {n m : Nat} (hn : n ≠ m) : cells (h.set n c) m = cells h m := by
  unfold cells
  rw [List.getElem?_set_ne hn]
theorem getS_set_same {i : Nat} {v : Slot} (hi : i < ρ.length) : getS (setS ρ i v) i = v := by
  induction ρ generalizing i with
  | nil => cases hi
  | cons x r ih => cases i with
    | zero => rfl
    | succ i => exact ih (by simpa using hi)
theorem getS_set_ne {i j : Nat} {v : Slot} (hi : i ≠ j) : getS (setS ρ i v) j = getS ρ j := by
  induction ρ generalizing i j with
  | nil => rfl
  | cons x r ih => cases i with
    | zero => cases j with
      | zero => exact absurd rfl hi
      | succ j => rfl
    | succ i => cases j with
      | zero => rfl
      | succ j => exact ih (fun e => hi (by rw [e]))
theorem setS_length {i : Nat} {v : Slot} : (setS ρ i v).length = ρ.length := by
  induction ρ generalizing i with
  | nil => rfl
  | cons x r ih => cases i with
    | zero => rfl
    | succ i => simp [setS, ih]
theorem getS_lt {i : Nat} (h : getS ρ i ≠ .no) : i < ρ.length := by
  induction ρ generalizing i with
  | nil => exact absurd rfl h
  | cons x r ih => cases i with
    | zero => simp
    | succ i => simpa using ih h
theorem setS_out {i : Nat} {v : Slot} (hi : ρ.length ≤ i) : setS ρ i v = ρ := by
  induction ρ generalizing i with
  | nil => rfl
  | cons x r ih => cases i with
    | zero => simp at hi
    | succ i => simp only [setS]; rw [ih (by simpa using hi)]
/-- a slot is given a value -/
theorem EnvOk.setV (E : EnvOk K Cl cs F H σ ρ) {i : Nat} {v : V} {d : AV} (r : Rep K cs F v d) : EnvOk K Cl cs F H (σ.set i (some v)) (setS ρ i (.val d)) := by
  by_cases hi : i < ρ.length
  · have hs : i < σ.length := by rw [← E.len]; exact hi
    refine ⟨by rw [setS_length, List.length_set, E.len], fun j e h => ?_, fun j c h => ?_, fun j k c c' a ne h1 h2 h3 => ?_⟩
    · by_cases hj : i = j
      · subst hj
        rw [getS_set_same hi] at h
        cases h
        exact ⟨v, by rw [List.getElem?_set_self hs], r⟩
      · rw [getS_set_ne hj] at h
        rw [List.getElem?_set_ne hj]
        exact E.val j e h
    · by_cases hj : i = j
      · subst hj
        rw [getS_set_same hi] at h
        cases h
      · rw [getS_set_ne hj] at h
        rw [List.getElem?_set_ne hj]
        exact E.own j c h
    · have n1 : i ≠ j := fun z => by subst z; rw [getS_set_same hi] at h1; cases h1
      have n2 : i ≠ k := fun z => by subst z; rw [getS_set_same hi] at h2; cases h2
      rw [getS_set_ne n1] at h1
      rw [getS_set_ne n2] at h2
      rw [List.getElem?_set_ne n1] at h3
      rw [List.getElem?_set_ne n2]
      exact E.dis j k c c' a ne h1 h2 h3
  · have hi' : ρ.length ≤ i := by omega
    have hs : σ.length ≤ i := by rw [← E.len]; exact hi'
    rw [setS_out hi', List.set_eq_of_length_le hs]
    exact E
/-- a slot is forgotten -/
theorem EnvOk.setN (E : EnvOk K Cl cs F H σ ρ) {i : Nat} {v : Option V} : EnvOk K Cl cs F H (σ.set i v) (setS ρ i .no) := by
  by_cases hi : i < ρ.length
  · refine ⟨by rw [setS_length, List.length_set, E.len], fun j e h => ?_, fun j c h => ?_, fun j k c c' a ne h1 h2 h3 => ?_⟩
    · by_cases hj : i = j
      · subst hj
        rw [getS_set_same hi] at h
        cases h
      · rw [getS_set_ne hj] at h
        rw [List.getElem?_set_ne hj]
        exact E.val j e h
    · by_cases hj : i = j
      · subst hj
        rw [getS_set_same hi] at h
        cases h
      · rw [getS_set_ne hj] at h
        rw [List.getElem?_set_ne hj]
        exact E.own j c h
    · have n1 : i ≠ j := fun z => by subst z; rw [getS_set_same hi] at h1; cases h1
      have n2 : i ≠ k := fun z => by subst z; rw [getS_set_same hi] at h2; cases h2
      rw [getS_set_ne n1] at h1
      rw [getS_set_ne n2] at h2
      rw [List.getElem?_set_ne n1] at h3
      rw [List.getElem?_set_ne n2]
      exact E.dis j k c c' a ne h1 h2 h3
  · have hi' : ρ.length ≤ i := by omega
    have hs : σ.length ≤ i := by rw [← E.len]; exact hi'
    rw [setS_out hi', List.set_eq_of_length_le hs]
    exact E
theorem EnvOk.wipe (E : EnvOk K Cl cs F H σ ρ) (vs : List Nat) : EnvOk K Cl cs F H (wipe σ vs) (wipeS ρ vs) := by
  induction vs with
  | nil => exact E
  | cons v vs ih => exact ih.setN
/-- a slot's own cell: new, or changed -/
theorem EnvOk.setO (E : EnvOk K Cl cs F H σ ρ) {i : Nat} {a : Addr} {c : Cell} {o : HO} (n1 : a ∉ cs) (n2 : F a = none) (r : COk K Cl cs F (upd H a o) a c)
    (old : ∀ j c', j ≠ i → getS ρ j = .own c' → σ[j]? ≠ some (some (.ref a))) : EnvOk K Cl cs F (upd H a o) (σ.set i (some (.ref a))) (setS ρ i (.own c)) := by
  have key : ∀ {j c'} , j ≠ i → getS ρ j = .own c' → ∃ b, σ[j]? = some (some (.ref b)) ∧ b ∉ cs ∧ F b = none ∧ COk K Cl cs F (upd H a o) b c' := fun {j c'} hj h => by
    obtain ⟨b, e1, e2, e3, e4⟩ := E.own j c' h
    refine ⟨b, e1, e2, e3, e4.mono (fun _ _ q => q) ⟨[], by simp⟩ fun u hu => ?_⟩
    rw [upd_ne]
    · exact hu
    · intro z
      subst z
      exact old j c' hj h e1
  by_cases hi : i < ρ.length
  · have hs : i < σ.length := by rw [← E.len]; exact hi
    refine ⟨by rw [setS_length, List.length_set, E.len], fun j e h => ?_, fun j c h => ?_, fun j k c1 c2 b ne h1 h2 h3 => ?_⟩
    · by_cases hj : i = j
      · subst hj
        rw [getS_set_same hi] at h
        cases h
      · rw [getS_set_ne hj] at h
        rw [List.getElem?_set_ne hj]
        exact E.val j e h
    · by_cases hj : i = j
      · subst hj
        rw [getS_set_same hi] at h
        cases h
        exact ⟨a, by rw [List.getElem?_set_self hs], n1, n2, r⟩
      · rw [getS_set_ne hj] at h
        rw [List.getElem?_set_ne hj]
        exact key (Ne.symm hj) h
    · by_cases hj : i = j
      · subst hj
        rw [List.getElem?_set_self hs] at h3
        cases h3
        rw [getS_set_ne ne] at h2
        rw [List.getElem?_set_ne ne]
        exact old k c2 (Ne.symm ne) h2
      · by_cases hk : i = k
        · subst hk
          rw [List.getElem?_set_self hs]
          rw [getS_set_ne hj] at h1
          rw [List.getElem?_set_ne hj] at h3
          intro z
          cases z
          exact old j c1 (Ne.symm hj) h1 h3
        · rw [getS_set_ne hj] at h1
          rw [getS_set_ne hk] at h2
          rw [List.getElem?_set_ne hj] at h3
          rw [List.getElem?_set_ne hk]
          exact E.dis j k c1 c2 b ne h1 h2 h3
  · have hi' : ρ.length ≤ i := by omega
    have hs : σ.length ≤ i := by rw [← E.len]; exact hi'
    rw [setS_out hi', List.set_eq_of_length_le hs]
    refine ⟨E.len, E.val, fun j c h => ?_, E.dis⟩
    have hj : j ≠ i := fun z => by
      subst z
      exact absurd (getS_lt (ρ := ρ) (i := j) (by rw [h]; simp)) hi
    exact key hj h
end
end VL

set_option maxRecDepth 100000
set_option maxHeartbeats 2000000
/-! VL: the operations. -/
namespace VL
open PySem L2 Evl PyProof.Rows PySem.Spec

theorem nd_inj {α : Type} {l : List α} (nd : l.Nodup) {i j : Nat} {x : α} (h : l[i]? = some x) (h2 : l[j]? = some x) : i = j :=
  (List.getElem?_inj (List.getElem?_eq_some_iff.mp h).1 nd).mp (h.trans h2.symm)
section
variable {K : PySem.W.Frag} {Cl : Nat → Addr} {cs cs' : List Addr} {F F' H H' : Hp} {σ : L2.St} {ρ : Env} {h h' : AHeap} {a p : Addr} {c : Cell} {o : HO}
/-- a new frozen object -/
theorem StOk.newF (S : StOk K Cl cs F H h) (hp : H p = none) : StOk K Cl cs (upd F p o) (upd H p o) h := by
  have hF : F p = none := by
    cases q : F p with
    | none => rfl
    | some u => rw [S.sub _ _ q] at hp; cases hp
  have e : Ex F (upd F p o) := Ex.new hF
  refine ⟨fun b u q => ?_, S.len, S.nd, fun n a q => ?_, fun a q => ?_⟩
  · by_cases hb : b = p
    · subst hb; rw [upd_same] at q ⊢; exact q
    · rw [upd_ne hb] at q ⊢; exact S.sub _ _ q
  · refine (S.cell n a q).mono e ⟨[], by simp⟩ fun u hu => ?_
    rw [upd_ne (ne_of_none hu hp)]
    exact hu
  · have hs := (List.mem_iff_getElem?.mp q)
    obtain ⟨n, hn⟩ := hs
    have hne : a ≠ p := fun z => by
      subst z
      exact (S.cell n a hn).some hp
    rw [upd_ne hne]
    exact S.free a q
theorem Stp.newF (S : StOk K Cl cs F H h) (hp : H p = none) : Stp cs F H cs (upd F p o) (upd H p o) := by
  have hF : F p = none := by
    cases q : F p with
    | none => rfl
    | some u => rw [S.sub _ _ q] at hp; cases hp
  refine ⟨Ex.new hF, ⟨[], by simp⟩, fun b u q _ => ?_, fun b q => ?_, fun b q1 q2 => ?_, fun b q1 q2 => absurd q1 q2⟩
  · rw [upd_ne (ne_of_none q hp)]; exact q
  · by_cases hb : b = p
    · subst hb; rw [upd_same]; simp
    · rw [upd_ne hb]; exact q
  · by_cases hb : b = p
    · subst hb; exact hp
    · rw [upd_ne hb] at q2; exact absurd q1 q2
/-- a new object that is nobody's yet -/
theorem StOk.newN (S : StOk K Cl cs F H h) (hp : H p = none) : StOk K Cl cs F (upd H p o) h := by
  refine ⟨fun b u q => ?_, S.len, S.nd, fun n a q => ?_, S.free⟩
  · rw [upd_ne (ne_of_none (S.sub _ _ q) hp)]; exact S.sub _ _ q
  · refine (S.cell n a q).mono (fun _ _ z => z) ⟨[], by simp⟩ fun u hu => ?_
    rw [upd_ne (ne_of_none hu hp)]
    exact hu
theorem Stp.newN (hp : H p = none) : Stp cs F H cs F (upd H p o) := by
  refine ⟨fun _ _ z => z, ⟨[], by simp⟩, fun b u q _ => ?_, fun b q => ?_, fun b q1 q2 => absurd q1 q2, fun b q1 q2 => absurd q1 q2⟩
  · rw [upd_ne (ne_of_none q hp)]; exact q
  · by_cases hb : b = p
    · subst hb; rw [upd_same]; simp
    · rw [upd_ne hb]; exact q
/-- nobody's object is changed -/
theorem StOk.chgN (S : StOk K Cl cs F H h) (hF : F p = none) (hc : p ∉ cs) : StOk K Cl cs F (upd H p o) h := by
  refine ⟨fun b u q => ?_, S.len, S.nd, fun n a q => ?_, S.free⟩
  · have hb : b ≠ p := fun z => by subst z; rw [hF] at q; cases q
    rw [upd_ne hb]; exact S.sub _ _ q
  · refine (S.cell n a q).mono (fun _ _ z => z) ⟨[], by simp⟩ fun u hu => ?_
    have hb : a ≠ p := fun z => by subst z; exact hc (List.mem_of_getElem? q)
    rw [upd_ne hb]
    exact hu
/-- nobody's object is frozen -/
theorem StOk.freeze (S : StOk K Cl cs F H h) (hF : F p = none) (hc : p ∉ cs) (hH : H p = some o) : StOk K Cl cs (upd F p o) H h := by
  refine ⟨fun b u q => ?_, S.len, S.nd, fun n a q => ?_, fun a q => ?_⟩
  · by_cases hb : b = p
    · subst hb; rw [upd_same] at q; rw [← q]; exact hH
    · rw [upd_ne hb] at q; exact S.sub _ _ q
  · exact (S.cell n a q).mono (Ex.new hF) ⟨[], by simp⟩ fun u hu => hu
  · have hb : a ≠ p := fun z => by subst z; exact hc q
    rw [upd_ne hb]; exact S.free a q
/-- nobody's object becomes a cell -/
theorem StOk.cellNew (S : StOk K Cl cs F H h) (hF : F p = none) (hc : p ∉ cs) (r : COk K Cl (cs ++ [p]) F H p c) : StOk K Cl (cs ++ [p]) F H (h ++ [c]) := by
  refine ⟨S.sub, by simp [S.len], ?_, fun n a q => ?_, fun a q => ?_⟩
  · rw [List.nodup_append]
    refine ⟨S.nd, by simp, fun x hx y hy => ?_⟩
    simp at hy
    subst hy
    exact fun z => hc (z ▸ hx)
  · by_cases hn : n < cs.length
    · rw [List.getElem?_append_left hn] at q
      rw [cells_app (by rw [← S.len]; exact hn)]
      exact (S.cell n a q).mono (fun _ _ z => z) ⟨[p], rfl⟩ fun _ z => z
    · have hn2 : n = cs.length := by
        have := (List.getElem?_eq_some_iff.mp q).1
        simp at this
        omega
      subst hn2
      rw [List.getElem?_append_right (Nat.le_refl _)] at q
      simp at q
      subst q
      rw [S.len, cells_new]
      exact r
  · simp at q
    rcases q with q | q
    · exact S.free a q
    · subst q; exact hF
/-- a cell is changed -/
theorem StOk.cellSet (S : StOk K Cl cs F H h) {n : Nat} (e : cs[n]? = some p) (r : COk K Cl cs F (upd H p o) p c) : StOk K Cl cs F (upd H p o) (h.set n c) := by
  have hn : n < h.length := by rw [← S.len]; exact (List.getElem?_eq_some_iff.mp e).1
  refine ⟨fun b u q => ?_, by simp [S.len], S.nd, fun m a q => ?_, S.free⟩
  · have hb : b ≠ p := fun z => by
      subst z
      rw [S.free b (List.mem_of_getElem? e)] at q
      cases q
    rw [upd_ne hb]; exact S.sub _ _ q
  · by_cases hm : n = m
    · subst hm
      rw [e] at q
      cases q
      rw [cells_set_same hn]
      exact r
    · rw [cells_set_ne hm]
      refine (S.cell m a q).mono (fun _ _ z => z) ⟨[], by simp⟩ fun u hu => ?_
      have hb : a ≠ p := fun z => by
        subst z
        have h1 := (List.getElem?_eq_some_iff.mp e)
        have h2 := (List.getElem?_eq_some_iff.mp q)
        exact hm (nd_inj S.nd e q)
      rw [upd_ne hb]
      exact hu
theorem Stp.chg {F H : Hp} (hc : p ∈ cs) : Stp cs F H cs F (upd H p o) := by
  refine ⟨fun _ _ z => z, ⟨[], by simp⟩, fun b u q n => ?_, fun b q => ?_, fun b q1 q2 => absurd q1 q2, fun b q1 q2 => absurd q1 q2⟩
  · rw [upd_ne fun z => by subst z; exact n hc]; exact q
  · by_cases hb : b = p
    · subst hb; rw [upd_same]; simp
    · rw [upd_ne hb]; exact q
end

/-- a container as it may be read -/
def RepB (K : PySem.W.Frag) (cs : List Addr) (F H : Hp) (b : Bool) (v : V) (d : AV) : Prop :=
  Rep K cs F v d ∨ (b = true ∧ ∃ a, v = .ref a ∧ a ∉ cs ∧ F a = none ∧ ((∃ vs xs, d = .lst xs ∧ H a = some (.lst vs) ∧ Reps K cs F vs xs) ∨ ∃ us xs, d = .dct xs ∧ H a = some (.dK us) ∧ RepK K cs F us xs))
section
variable {K : PySem.W.Frag} {Cl : Nat → Addr} {cs cs' : List Addr} {F F' H H' : Hp} {σ : L2.St} {ρ : Env} {h h' : AHeap} {b : Bool} {v : V} {d : AV}
theorem RepB.step (r : RepB K cs F H b v d) (x : Stp cs F H cs' F' H') : RepB K cs' F' H' b v d := by
  rcases r with r | ⟨hb, a, e, n1, n2, r⟩
  · exact .inl (r.mono x.f x.c)
  · have hs : H a ≠ none := by
      rcases r with ⟨vs, xs, _, q, _⟩ | ⟨vs, xs, _, q, _⟩ <;> rw [q] <;> simp
    have h1 : a ∉ cs' := fun z => hs (x.m a z n1)
    have h2 : F' a = none := by
      cases w : F' a with
      | none => rfl
      | some o => exact absurd (x.n a n2 (by rw [w]; simp)) hs
    refine .inr ⟨hb, a, e, h1, h2, ?_⟩
    rcases r with ⟨vs, xs, e1, q, r⟩ | ⟨vs, xs, e1, q, r⟩
    · exact .inl ⟨vs, xs, e1, x.k _ _ q n1, r.mono x.f x.c⟩
    · exact .inr ⟨vs, xs, e1, x.k _ _ q n1, r.mono x.f x.c⟩
theorem RepB.plain (r : RepB K cs F H false v d) : Rep K cs F v d := by
  rcases r with r | ⟨hb, _⟩
  · exact r
  · cases hb
theorem cell_at {n : Nat} {a : Addr} {xs : List AV} (S : StOk K Cl cs F H h) (e : cs[n]? = some a) (q : cells h n = .lst xs) : ∃ vs, H a = some (.lst vs) ∧ Reps K cs F vs xs := by
  have := S.cell n a e
  rw [q] at this
  exact this
theorem cell_atD {n : Nat} {a : Addr} {xs : List (Key × AV)} (S : StOk K Cl cs F H h) (e : cs[n]? = some a) (q : cells h n = .dct xs) : ∃ vs, H a = some (.dK vs) ∧ RepK K cs F vs xs := by
  have := S.cell n a e
  rw [q] at this
  exact this
theorem RepB.viewW (r : RepB K cs F H b v d) (S : StOk K Cl cs F H h) {xs : List AV} (e : viewW h d = some xs) : ∃ a vs, v = .ref a ∧ H a = some (.lst vs) ∧ Reps K cs F vs xs := by
  rcases r with r | ⟨hb, a, e1, n1, n2, r⟩
  · cases r with
    | lst q r => simp [VL.viewW] at e; subst e; exact ⟨_, _, rfl, S.sub _ _ q, r⟩
    | adr q =>
      rename_i n a
      simp only [VL.viewW] at e
      split at e
      · rename_i xs' hc
        cases e
        obtain ⟨vs, q1, q2⟩ := cell_at S q hc
        exact ⟨_, _, rfl, q1, q2⟩
      · cases e
    | _ => simp [VL.viewW] at e
  · rcases r with ⟨vs, xs', e2, q, r⟩ | ⟨vs, xs', e2, q, r⟩
    · subst e2; simp [VL.viewW] at e; subst e; exact ⟨_, _, e1, q, r⟩
    · subst e2; simp [VL.viewW] at e
theorem RepB.view (r : RepB K cs F H b v d) (S : StOk K Cl cs F H h) {xs : List AV} (e : view h d = some xs) : ∃ a vs, v = .ref a ∧ SqL K H a vs ∧ Reps K cs F vs xs := by
  rcases r with r | ⟨hb, a, e1, n1, n2, r⟩
  · cases r with
    | lst q r => simp [VL.view] at e; subst e; exact ⟨_, _, rfl, sq_of (S.sub _ _ q), r⟩
    | ro q r => simp [VL.view] at e; subst e; exact ⟨_, _, rfl, ex_l S.sub q, r⟩
    | adr q =>
      rename_i n a
      simp only [VL.view] at e
      split at e
      · rename_i xs' hc
        cases e
        obtain ⟨vs, q1, q2⟩ := cell_at S q hc
        exact ⟨_, _, rfl, sq_of q1, q2⟩
      · cases e
    | _ => simp [VL.view] at e
  · rcases r with ⟨vs, xs', e2, q, r⟩ | ⟨vs, xs', e2, q, r⟩
    · subst e2; simp [VL.view] at e; subst e; exact ⟨_, _, e1, sq_of q, r⟩
    · subst e2; simp [VL.view] at e
theorem viewT_eq {h : AHeap} {d : AV} {xs : List AV} (e : viewT h d = some xs) : d = .tup xs ∨ view h d = some xs := by
  unfold VL.viewT at e
  split at e
  · cases e; exact .inl rfl
  · exact .inr e
theorem RepB.viewT (r : RepB K cs F H b v d) (S : StOk K Cl cs F H h) {xs : List AV} (e : viewT h d = some xs) : ∃ a vs, v = .ref a ∧ (SqL K H a vs ∨ SqT K H a vs) ∧ Reps K cs F vs xs := by
  rcases viewT_eq e with q | q
  · subst q
    rcases r with r | ⟨hb, a, e1, n1, n2, r⟩
    · cases r with
      | tup q r => exact ⟨_, _, rfl, .inr (ex_t S.sub q), r⟩
    · rcases r with ⟨vs, xs', e2, q, r⟩ | ⟨vs, xs', e2, q, r⟩ <;> cases e2
  · obtain ⟨a, vs, h1, h2, h3⟩ := r.view S q
    exact ⟨a, vs, h1, .inl h2, h3⟩
theorem RepB.viewD (r : RepB K cs F H b v d) (S : StOk K Cl cs F H h) {xs : List (Key × AV)} (e : viewD h d = some xs) : ∃ a vs, v = .ref a ∧ H a = some (.dK vs) ∧ RepK K cs F vs xs := by
  rcases r with r | ⟨hb, a, e1, n1, n2, r⟩
  · cases r with
    | dct q r => simp [VL.viewD] at e; subst e; exact ⟨_, _, rfl, S.sub _ _ q, r⟩
    | adr q =>
      rename_i n a
      simp only [VL.viewD] at e
      split at e
      · rename_i xs' hc
        cases e
        obtain ⟨vs, q1, q2⟩ := cell_atD S q hc
        exact ⟨_, _, rfl, q1, q2⟩
      · cases e
    | _ => simp [VL.viewD] at e
  · rcases r with ⟨vs, xs', e2, q, r⟩ | ⟨vs, xs', e2, q, r⟩
    · subst e2; simp [VL.viewD] at e
    · subst e2; simp [VL.viewD] at e; subst e; exact ⟨_, _, e1, q, r⟩
mutual
theorem Rep.dpH (S : StOk K Cl cs F H h) : ∀ {v : V} {d : AV}, Rep K cs F v d → ∀ {p : PyData}, VL.pdH h d = some p → Dp K H v p
  | _, _, .non, _, q => by simp [VL.pdH] at q; subst q; exact .non
  | _, _, .bl b, _, q => by simp [VL.pdH] at q; subst q; exact .bl b
  | _, _, .int i, _, q => by simp [VL.pdH] at q; subst q; exact .int i
  | _, _, .str s, _, q => by simp [VL.pdH] at q; subst q; exact .str s
  | _, _, .tup h r, _, q => by
    simp [VL.pdH] at q
    obtain ⟨l, e1, e2⟩ := q
    subst e2
    exact .tup (ex_t S.sub h) (Reps.dpH S r e1)
  | _, _, .lst h r, _, q => by
    simp [VL.pdH] at q
    obtain ⟨l, e1, e2⟩ := q
    subst e2
    exact .lst (sq_of (S.sub _ _ h)) (Reps.dpH S r e1)
  | _, _, .ro h r, _, q => by
    simp [VL.pdH] at q
    obtain ⟨l, e1, e2⟩ := q
    subst e2
    exact .lst (ex_l S.sub h) (Reps.dpH S r e1)
  | _, _, .dct h r, _, q => by simp [VL.pdH] at q
  | _, _, .adr g, _, q => by
    simp only [VL.pdH] at q
    split at q
    · rename_i xs' hc
      simp at q
      obtain ⟨l, e1, e2⟩ := q
      subst e2
      obtain ⟨vs, q1, q2⟩ := cell_at S g hc
      exact .lst (sq_of q1) (q2.dp S.sub e1)
    · cases q
theorem Reps.dpH (S : StOk K Cl cs F H h) : ∀ {v : List V} {d : List AV}, Reps K cs F v d → ∀ {p : List PyData}, VL.pdHs h d = some p → DpAll K H v p
  | _, _, .nil, _, q => by simp [VL.pdHs] at q; subst q; exact .nil
  | _, _, .cons g r, _, q => by
    simp [VL.pdHs, Option.bind_eq_some_iff] at q
    obtain ⟨d1, e1, l, e2, e3⟩ := q
    subst e3
    exact .cons (Rep.dpH S g e1) (Reps.dpH S r e2)
end
theorem Reps.upH : ∀ {v : List V} {d : List AV}, Reps K cs F v d → StOk K Cl cs F H h → ∀ {p : List PyData}, VL.pdHs h d = some p → DpAll K H v p := fun r S _ q => Reps.dpH S r q
theorem RepB.pdH (r : RepB K cs F H b v d) (S : StOk K Cl cs F H h) {p : PyData} (e : pdH h d = some p) : Dp K H v p := by
  rcases r with r | ⟨hb, a, e1, n1, n2, r⟩
  · exact Rep.dpH S r e
  · rcases r with ⟨vs, xs', e2, q, r⟩ | ⟨vs, xs', e2, q, r⟩
    · subst e2
      simp [VL.pdH] at e
      obtain ⟨l, e3, e4⟩ := e
      subst e4 e1
      exact .lst (sq_of q) (r.dpH S e3)
    · subst e2; simp [VL.pdH] at e
theorem RepB.int {i : Int} (r : RepB K cs F H b v (.int i)) : v = .int i := by
  rcases r with r | ⟨_, _, _, _, _, ⟨_, _, e, _⟩ | ⟨_, _, e, _⟩⟩
  · cases r; rfl
  · cases e
  · cases e
theorem RepB.str {i : Str} (r : RepB K cs F H b v (.str i)) : v = .str i := by
  rcases r with r | ⟨_, _, _, _, _, ⟨_, _, e, _⟩ | ⟨_, _, e, _⟩⟩
  · cases r; rfl
  · cases e
  · cases e
theorem RepB.bl {i : Bool} (r : RepB K cs F H b v (.bl i)) : v = .bl i := by
  rcases r with r | ⟨_, _, _, _, _, ⟨_, _, e, _⟩ | ⟨_, _, e, _⟩⟩
  · cases r; rfl
  · cases e
  · cases e
theorem RepB.non (r : RepB K cs F H b v .non) : v = .non := by
  rcases r with r | ⟨_, _, _, _, _, ⟨_, _, e, _⟩ | ⟨_, _, e, _⟩⟩
  · cases r; rfl
  · cases e
  · cases e
theorem RepB.isNon (r : RepB K cs F H b v d) : decide (v = V.non) = isNon d := by
  rcases r with r | ⟨_, _, e1, _, _, ⟨_, _, e, _⟩ | ⟨_, _, e, _⟩⟩
  · cases r <;> rfl
  · subst e e1; rfl
  · subst e e1; rfl
theorem RepB.flat (r : RepB K cs F H b v d) (f : flatA d = true) : flatV v = true ∧ ∀ w e, Rep K cs F w e → flatA e = true → eqV w v = eqF e d := by
  have key : ∀ {v d}, Rep K cs F v d → flatA d = true → flatV v = true ∧ ∀ w e, Rep K cs F w e → flatA e = true → eqV w v = eqF e d := by
    intro v d r f
    cases r with
    | non => exact ⟨rfl, fun w e r f => by cases r <;> first | rfl | cases f⟩
    | bl x => exact ⟨rfl, fun w e r f => by cases r <;> first | rfl | cases f⟩
    | int x => exact ⟨rfl, fun w e r f => by cases r <;> first | rfl | cases f⟩
    | str x => exact ⟨rfl, fun w e r f => by cases r <;> first | rfl | cases f⟩
    | _ => cases f
  rcases r with r | ⟨_, _, _, _, _, ⟨_, _, e, _⟩ | ⟨_, _, e, _⟩⟩
  · exact key r f
  · subst e; cases f
  · subst e; cases f
theorem Reps.flat {vs : List V} {xs : List AV} (r : Reps K cs F vs xs) (f : xs.all flatA = true) {v : V} {d : AV} (rv : RepB K cs F H b v d) (fd : flatA d = true) :
    vs.all flatV = true ∧ inV v vs = xs.any (fun y => eqF y d) := by
  revert xs
  induction vs with
  | nil => intro xs r f; cases r; exact ⟨rfl, rfl⟩
  | cons w vs ih =>
    intro xs r f
    cases r with
    | cons h t =>
      rw [List.all_cons, Bool.and_eq_true] at f
      obtain ⟨i1, i2⟩ := ih t f.2
      have q : RepB K cs F H false w _ := .inl h
      refine ⟨by rw [List.all_cons, (q.flat f.1).1, i1]; rfl, ?_⟩
      unfold inV at i2 ⊢
      rw [List.any_cons, List.any_cons, i2, (rv.flat fd).2 w _ h f.1]
theorem RepB.key (r : RepB K cs F H b v d) {k : Key} (e : keyOf d = some k) : v = kV k := by
  cases d with
  | int i => simp [keyOf] at e; subst e; exact r.int
  | str i => simp [keyOf] at e; subst e; exact r.str
  | _ => simp [keyOf] at e
end

/-- what is wanted of a value -/
def PostV (K : PySem.W.Frag) (Cl : Nat → Addr) (cs : List Addr) (F H : Hp) (h : AHeap) (Q : KA) (R : VK) : Prop :=
  ∀ v d F' H', Stp cs F H cs F' H' → StOk K Cl cs F' H' h → Rep K cs F' v d → Q d → R v H'
section
variable {K : PySem.W.Frag} {Cl : Nat → Addr} {cs : List Addr} {F H : Hp} {h : AHeap} {Q : KA} {R : VK}
theorem PostV.here (p : PostV K Cl cs F H h Q R) (S : StOk K Cl cs F H h) {v : V} {d : AV} (r : Rep K cs F v d) (q : Q d) : R v H := p v d F H .refl S r q
theorem PostV.int (p : PostV K Cl cs F H h Q R) (S : StOk K Cl cs F H h) {i : Int} (q : Q (.int i)) : R (.int i) H := p.here S (.int i) q
theorem PostV.bl (p : PostV K Cl cs F H h Q R) (S : StOk K Cl cs F H h) {i : Bool} (q : Q (.bl i)) : R (.bl i) H := p.here S (.bl i) q
theorem PostV.str (p : PostV K Cl cs F H h Q R) (S : StOk K Cl cs F H h) {i : Str} (q : Q (.str i)) : R (.str i) H := p.here S (.str i) q
theorem PostV.newT (p : PostV K Cl cs F H h Q R) (S : StOk K Cl cs F H h) {vs : List V} {xs : List AV} (r : Reps K cs F vs xs) (q : Q (.tup xs)) : ∀ a, H a = none → R (.ref a) (upd H a (.tup vs)) := fun a ha =>
  p _ _ _ _ (.newF S ha) (S.newF ha) (.tup (st_of upd_same) (r.mono (Stp.newF (o := .tup vs) S ha).f ⟨[], by simp⟩)) q
theorem PostV.newL (p : PostV K Cl cs F H h Q R) (S : StOk K Cl cs F H h) {vs : List V} {xs : List AV} (r : Reps K cs F vs xs) (q : Q (.lst xs)) : ∀ a, H a = none → R (.ref a) (upd H a (.lst vs)) := fun a ha =>
  p _ _ _ _ (.newF S ha) (S.newF ha) (.lst upd_same (r.mono (Stp.newF (o := .lst vs) S ha).f ⟨[], by simp⟩)) q
end

/-- a two-place operation by its weakest reading -/
def OpW (X : Cx) (f : Value → Value → Sem Value) (x y : V) (H : Hp) (Q : VK) : Prop :=
  ∀ (pins : List (Addr × Obj)) (s : Shared) (σ : L2.St) (v u : Value), Inv X pins σ H s → RelV x v → RelV y u → wpAny (model X.prog X.w) X.A (f v u) (EP X pins σ Q) X.xe s
theorem opw_ok {X : Cx} {f : Value → Value → Sem Value} : OpR X f (OpW X f) := fun pins s σ H x y v u Q I rx ry h => h pins s σ v u I rx ry
theorem opw_of {X : Cx} {f : Value → Value → Sem Value} {r : R2} (o : OpR X f r) {x y : V} {H : Hp} {Q : VK} (h : r x y H Q) : OpW X f x y H Q := fun pins s σ v u I rx ry => o pins s σ H x y v u Q I rx ry h
section
variable {X : Cx} {Cl : Nat → Addr} {cs : List Addr} {F H : Hp} {h : AHeap} {Q : KA} {R : VK} {x y : V} {d e : AV} {b b' : Bool}
theorem CDivA.w {i j : Int} (h : CDivA j) : CDivW i j := h
theorem addK_ok (S : StOk X.K Cl cs F H h) (rx : RepB X.K cs F H false x d) (ry : RepB X.K cs F H false y e) (q : addK h d e Q) (p : PostV X.K Cl cs F H h Q R) : OpW X (binaryOp .Add) x y H R := by
  unfold addK at q
  split at q
  · cases rx.int; cases ry.int
    exact opw_of op_add ⟨_, _, rfl, rfl, p.int S q⟩
  · cases rx.str; cases ry.str
    exact opw_of op_add_str ⟨_, _, rfl, rfl, q.1, p.str S q.2⟩
  · rename_i xs ys
    have rx := rx.plain
    have ry := ry.plain
    cases rx with
    | tup h1 r1 =>
      cases ry with
      | tup h2 r2 =>
        rename_i vs _ ws
        refine opw_of op_catA ⟨_, _, vs, ws, rfl, rfl, ex_t S.sub h1, ex_t S.sub h2, by rw [r1.length, r2.length]; exact q.1, fun z => ?_, fun _ z => ?_, fun _ _ => p.newT S (r1.append r2) q.2⟩
        · subst z
          cases r1
          exact p.here S (.tup h2 r2) q.2
        · subst z
          cases r2
          have q2 := q.2
          rw [List.append_nil] at q2
          exact p.here S (.tup h1 r1) q2
  · exact q.elim
theorem strRep_len (x : Str) (n : Int) : (strRep x n).length ≤ x.length * n.toNat + x.length := by
  unfold strRep
  split
  · exact Nat.zero_le _
  · split
    · omega
    · have key : ∀ (k : Nat) (acc : Array Nat), ((List.replicate k x.cps).foldl (· ++ ·) acc).size = acc.size + k * x.cps.size := by
        intro k
        induction k with
        | zero => intro acc; simp
        | succ k ih => intro acc; rw [List.replicate_succ, List.foldl_cons, ih, Array.size_append, Nat.succ_mul]; omega
      show ((List.replicate n.toNat x.cps).foldl (· ++ ·) #[]).size ≤ x.cps.size * n.toNat + x.cps.size
      rw [key, Nat.mul_comm]
      simp
theorem op_mul_str : OpR X (binaryOp .Mult) (fun x y H Q => ∃ z k, x = .str z ∧ y = .int k ∧ (-(2 ^ 60) < k ∧ k < 2 ^ 60 ∧ z.length * k.toNat ≤ 1000000) ∧ Q (.str (strRep z k)) H) := by
  intro pins s σ H x y v u Q I rx ry h
  obtain ⟨z, k, rfl, rfl, ⟨h1, h2, h3⟩, q⟩ := h
  obtain ⟨t, rfl⟩ := rx
  obtain ⟨t', rfl⟩ := ry
  have hs : sizeLine = 16777216 := sizeLine_eq
  have e60 : (2 ^ 60 : Int) = 1152921504606846976 := by decide
  have e63 : (2 ^ 63 : Int) = 9223372036854775808 := by decide
  rw [e60] at h1 h2
  refine PySem.P.mul_str ?_ (fun a b => ?_) (fun a b => ?_) ?_
  · have e1 : decide (k < -(2 ^ 63 : Int)) = false := decide_eq_false (by rw [e63]; omega)
    have e2 : decide (k ≥ 2 ^ 63) = false := decide_eq_false (by rw [e63]; omega)
    rw [e1, e2]; rfl
  · intro c
    have hk : 0 < k := by omega
    have h4 : (z.length : Int) * k ≤ 1000000 := by
      have : ((z.length * k.toNat : Nat) : Int) ≤ ((1000000 : Nat) : Int) := Int.ofNat_le.mpr h3
      rw [Int.natCast_mul] at this
      rw [Int.toNat_of_nonneg (by omega)] at this
      exact this
    have h5 : (2 ^ 63 - 1 : Int) / k < z.length := c
    have h6 := Int.lt_mul_of_ediv_lt hk h5
    have e63 : (2 ^ 63 - 1 : Int) = 9223372036854775807 := by decide
    rw [e63] at h6
    omega
  · unfold Builtin.Str.tooLong
    exact decide_eq_false (by omega)
  · have hl := strRep_len z k
    by_cases a : k < 1
    · have e : strRep z k = Str.empty := if_pos a
      rw [e] at q
      rw [if_pos a]
      exact ⟨by decide, .str Str.empty, H, I.tok _, ⟨_, rfl⟩, q⟩
    · rw [if_neg a]
      by_cases b : (k == 1 || z.length == 0) = true
      · have e : strRep z k = z := by unfold strRep; rw [if_neg a, if_pos b]
        rw [e] at q
        rw [if_pos b]
        exact ⟨.str z, H, I, ⟨_, rfl⟩, q⟩
      · have e : strRep z k = ⟨(List.replicate k.toNat z.cps).foldl (· ++ ·) #[]⟩ := by unfold strRep; rw [if_neg a, if_neg b]
        rw [e] at q hl
        rw [if_neg b]
        refine ⟨?_, .str _, H, I.tok _, ⟨_, rfl⟩, q⟩
        have : z.length ≤ z.length * k.toNat := Nat.le_mul_of_pos_right _ (by omega)
        omega
theorem binK_ok {op : Operator} (S : StOk X.K Cl cs F H h) (rx : RepB X.K cs F H false x d) (ry : RepB X.K cs F H false y e) (q : binK h op d e Q) (p : PostV X.K Cl cs F H h Q R) : OpW X (binaryOp op) x y H R := by
  unfold binK at q
  split at q
  · exact addK_ok S rx ry q p
  · split at q
    · cases rx.int; cases ry.int
      exact opw_of op_sub ⟨_, _, rfl, rfl, p.int S q⟩
    · exact q.elim
  · split at q
    · cases rx.int; cases ry.int
      rcases q.1 with c | c
      · exact opw_of op_mul ⟨_, _, rfl, rfl, c, p.int S q.2⟩
      · exact opw_of op_mulW ⟨_, _, rfl, rfl, c, p.int S q.2⟩
    · cases rx.str; cases ry.int
      exact opw_of op_mul_str ⟨_, _, rfl, rfl, q.1, p.str S q.2⟩
    · exact q.elim
  · split at q
    · cases rx.int; cases ry.int
      exact opw_of op_fdivW ⟨_, _, rfl, rfl, CDivA.w q.1, p.int S q.2⟩
    · exact q.elim
  · split at q
    · cases rx.int; cases ry.int
      exact opw_of op_mod ⟨_, _, rfl, rfl, q.1, p.int S q.2⟩
    · exact q.elim
  · split at q
    · cases rx.int; cases ry.int
      exact opw_of op_pow ⟨_, _, rfl, rfl, q.1, p.int S q.2⟩
    · exact q.elim
  · exact q.elim
theorem eqGen_ok (hu : X.A.units + 64 < cLine) {neg : Bool} (S : StOk X.K Cl cs F H h) (rx : RepB X.K cs F H b x d) (ry : RepB X.K cs F H b' y e) (q : eqGen h neg d e Q) (p : PostV X.K Cl cs F H h Q R) : OpW X (compareOp (if neg then .NotEq else .Eq)) x y H R := by
  unfold eqGen at q
  split at q
  · rename_i d1 e1 h1 h2
    have dx := rx.pdH S h1
    have dy := ry.pdH S h2
    cases neg with
    | true => exact opw_of (op_neD hu) ⟨_, _, dx, dy, q.1, q.2.1, p.bl S q.2.2⟩
    | false => exact opw_of (op_eqD hu) ⟨_, _, dx, dy, q.1, q.2.1, p.bl S q.2.2⟩
  · exact q.elim
theorem eqK_ok (hu : X.A.units + 64 < cLine) (S : StOk X.K Cl cs F H h) (rx : RepB X.K cs F H b x d) (ry : RepB X.K cs F H b' y e) (q : eqK h d e Q) (p : PostV X.K Cl cs F H h Q R) : OpW X (compareOp .Eq) x y H R := by
  unfold eqK at q
  split at q
  · cases rx.int; cases ry.int
    exact opw_of op_eq ⟨rfl, p.bl S (by simpa using q)⟩
  · cases rx.str; cases ry.str
    exact opw_of op_eq ⟨rfl, p.bl S (by simpa using q)⟩
  · cases rx.bl; cases ry.bl
    exact opw_of op_eq ⟨rfl, p.bl S (by simpa using q)⟩
  · cases rx.non; cases ry.non
    exact opw_of op_eq ⟨rfl, p.bl S (by simpa using q)⟩
  · cases rx.int; cases ry.str
    exact opw_of op_eq ⟨rfl, p.bl S (by simpa using q)⟩
  · cases rx.str; cases ry.int
    exact opw_of op_eq ⟨rfl, p.bl S (by simpa using q)⟩
  · exact eqGen_ok (neg := false) hu S rx ry q p
theorem neK_ok (hu : X.A.units + 64 < cLine) (S : StOk X.K Cl cs F H h) (rx : RepB X.K cs F H b x d) (ry : RepB X.K cs F H b' y e) (q : neK h d e Q) (p : PostV X.K Cl cs F H h Q R) : OpW X (compareOp .NotEq) x y H R := by
  unfold neK at q
  split at q
  · cases rx.int; cases ry.int
    exact opw_of op_ne ⟨rfl, p.bl S (by simpa using q)⟩
  · cases rx.str; cases ry.str
    exact opw_of op_ne ⟨rfl, p.bl S (by simpa using q)⟩
  · cases rx.bl; cases ry.bl
    exact opw_of op_ne ⟨rfl, p.bl S (by simpa using q)⟩
  · cases rx.non; cases ry.non
    exact opw_of op_ne ⟨rfl, p.bl S (by simpa using q)⟩
  · cases rx.int; cases ry.str
    exact opw_of op_ne ⟨rfl, p.bl S (by simpa using q)⟩
  · cases rx.str; cases ry.int
    exact opw_of op_ne ⟨rfl, p.bl S (by simpa using q)⟩
  · exact eqGen_ok (neg := true) hu S rx ry q p
theorem op_dIn (hu : X.A.units + 1 < cLine) : OpR X (compareOp .In) (fun x y H Q => ∃ a o, y = .ref a ∧ DGet H a x o ∧ Q (.bl o.isSome) H) := by
  intro pins s σ H x y v u Q I rx ry h
  obtain ⟨a, o, rfl, g, q⟩ := h
  cases ry
  exact d_in hu I g rx fun s3 I3 => ⟨.bl o.isSome, H, I3, rfl, q⟩
theorem op_dNotIn (hu : X.A.units + 1 < cLine) : OpR X (compareOp .NotIn) (fun x y H Q => ∃ a o, y = .ref a ∧ DGet H a x o ∧ Q (.bl (!o.isSome)) H) := by
  intro pins s σ H x y v u Q I rx ry h
  obtain ⟨a, o, rfl, g, q⟩ := h
  cases ry
  exact d_notIn hu I g rx fun s3 I3 => ⟨.bl (!o.isSome), H, I3, rfl, q⟩
theorem inK_ok (hu : X.A.units + 64 < cLine) {neg : Bool} (S : StOk X.K Cl cs F H h) (rx : RepB X.K cs F H b x d) (ry : RepB X.K cs F H b' y e) (q : inK h neg d e Q) (p : PostV X.K Cl cs F H h Q R) : OpW X (compareOp (if neg then .NotIn else .In)) x y H R := by
  unfold inK at q
  split at q
  · rename_i z
    split at q
    · rename_i w
      split at q
      · rename_i c hc
        cases rx.str; cases ry.str
        have ew : w = ⟨#[c]⟩ := by
          obtain ⟨w⟩ := w
          obtain ⟨w⟩ := w
          simp at hc
          rw [hc]
        cases neg with
        | true => exact opw_of op_notIn_sign ⟨c, z, by rw [ew], rfl, p.bl S q⟩
        | false => exact opw_of op_in_sign ⟨c, z, by rw [ew], rfl, p.bl S q⟩
      · exact q.elim
    · exact q.elim
  · split at q
    · rename_i xs hv
      obtain ⟨a, vs, rfl, hq, r⟩ := ry.viewT S hv
      obtain ⟨f1, f2⟩ := r.flat q.2.1 rx q.1
      have q3 := q.2.2
      rw [← f2] at q3
      cases neg with
      | true => exact opw_of op_notIn_seq ⟨a, vs, rfl, hq, (rx.flat q.1).1, f1, p.bl S q3⟩
      | false => exact opw_of op_in_seq ⟨a, vs, rfl, hq, (rx.flat q.1).1, f1, p.bl S q3⟩
    · split at q
      · rename_i kvs k hd hk
        obtain ⟨a, vs, rfl, hq, r⟩ := ry.viewD S hd
        cases rx.key hk
        have e1 : (valV vs k).isSome = (getD kvs k).isSome := by
          rcases r.get (k := k) with ⟨v, d, e1, e2, _⟩ | ⟨e1, e2⟩ <;> rw [e1, e2] <;> rfl
        rw [← e1] at q
        cases neg with
        | true => exact opw_of (op_dNotIn (by omega)) ⟨a, _, rfl, .k hq, p.bl S q⟩
        | false => exact opw_of (op_dIn (by omega)) ⟨a, _, rfl, .k hq, p.bl S q⟩
      · exact q.elim
theorem cmpK_ok (hu : X.A.units + 64 < cLine) {op : CmpOp} (S : StOk X.K Cl cs F H h) (rx : RepB X.K cs F H b x d) (ry : RepB X.K cs F H b' y e) (q : cmpK h op d e Q) (p : PostV X.K Cl cs F H h Q R) : OpW X (compareOp op) x y H R := by
  unfold cmpK at q
  split at q
  · exact eqK_ok hu S rx ry q p
  · exact neK_ok hu S rx ry q p
  · split at q
    · cases rx.int; cases ry.int
      exact opw_of op_lt ⟨_, _, rfl, rfl, p.bl S q⟩
    · exact q.elim
  · split at q
    · cases rx.int; cases ry.int
      exact opw_of op_le ⟨_, _, rfl, rfl, p.bl S q⟩
    · exact q.elim
  · split at q
    · cases rx.int; cases ry.int
      exact opw_of op_gt ⟨_, _, rfl, rfl, p.bl S q⟩
    · exact q.elim
  · split at q
    · cases rx.int; cases ry.int
      exact opw_of op_ge ⟨_, _, rfl, rfl, p.bl S q⟩
    · exact q.elim
  · split at q
    · cases ry.non
      rw [← rx.isNon] at q
      exact opw_of op_isN ⟨rfl, p.bl S q⟩
    · exact q.elim
  · split at q
    · cases ry.non
      rw [← rx.isNon] at q
      exact opw_of op_notN ⟨rfl, p.bl S q⟩
    · exact q.elim
  · exact inK_ok (neg := false) hu S rx ry q p
  · exact inK_ok (neg := true) hu S rx ry q p
end
/-! items, slices, truth, calls of built-ins -/
def IxW (X : Cx) (x y : V) (H : Hp) (Q : VK) : Prop :=
  ∀ (value slice : Expr) (pins : List (Addr × Obj)) (s : Shared) (σ : L2.St) (v u : Value), Inv X pins σ H s → RelV x v → RelV y u → subscripted slice false v u = operate [v, u] (getItem v u) → wpAny (model X.prog X.w) X.A (subscriptTail value slice v u) (EP X pins σ Q) X.xe s
theorem ixw_ok {X : Cx} : IxR X (IxW X) := fun value slice pins s σ H x y v u Q I rx ry h hs => h value slice pins s σ v u I rx ry hs
theorem ixw_of {X : Cx} {r : R2} (o : IxR X r) {x y : V} {H : Hp} {Q : VK} (h : r x y H Q) : IxW X x y H Q := fun value slice pins s σ v u I rx ry hs => o value slice pins s σ H x y v u Q I rx ry h hs
def SlW (X : Cx) (x : V) (lo hi : Option Int) (H : Hp) (Q : VK) : Prop :=
  ∀ (pins : List (Addr × Obj)) (s : Shared) (σ : L2.St) (v vl vu : Value) (sl : Addr), Inv X pins σ H s → RelV x v → s.heap.IsSliceOf sl vl vu .none → IsPart vl lo → IsPart vu hi →
    ∃ T id, typeLookup (.type T) "__getitem__" = pure (some (.builtin id)) ∧ s.TypeIs v T ∧ wpAny (model X.prog X.w) X.A (getItem v (.ref sl)) (EP X pins σ Q) X.xe s
theorem slw_ok {X : Cx} : SlR X (SlW X) := fun pins s σ H x v vl vu lo hi sl Q I rx hs pl pu h => h pins s σ v vl vu sl I rx hs pl pu
theorem slw_of {X : Cx} {r : V → Option Int → Option Int → Hp → VK → Prop} (o : SlR X r) {x : V} {lo hi : Option Int} {H : Hp} {Q : VK} (h : r x lo hi H Q) : SlW X x lo hi H Q := fun pins s σ v vl vu sl I rx hs pl pu => o pins s σ H x v vl vu lo hi sl Q I rx hs pl pu h
def CallW (X : Cx) (f : Value) (xs : List V) (H : Hp) (Q : VK) : Prop :=
  ∀ (pins : List (Addr × Obj)) (s : Shared) (σ : L2.St) (us : List Value), Inv X pins σ H s → Vals xs us → wpAny (model X.prog X.w) X.A (call f us) (EP X pins σ Q) X.xe s
theorem callw_ok {X : Cx} {f : Value} : CallR X f (CallW X f) := fun pins s σ H xs us Q I r h => h pins s σ us I r
theorem callw_of {X : Cx} {f : Value} {r : List V → Hp → VK → Prop} (o : CallR X f r) {xs : List V} {H : Hp} {Q : VK} (h : r xs H Q) : CallW X f xs H Q := fun pins s σ us I rs => o pins s σ H xs us Q I rs h
section
variable {X : Cx} {Cl : Nat → Addr} {cs : List Addr} {F H : Hp} {h : AHeap} {Q : KA} {R : VK} {x y : V} {d e : AV} {b b' : Bool}
theorem ix_dict (hu : X.A.units + 1 < cLine) : IxR X (fun x y H Q => ∃ a v, x = .ref a ∧ DGet H a y (some v) ∧ Q v H) := by
  intro value slice pins s σ H x y v u Q I rx ry h hs
  obtain ⟨a, w, rfl, g, q⟩ := h
  cases rx
  exact tail_any (dict_typeIs I g) PySem.F.slot_dict_getitem.lookup (d_getItem hu I g ry fun w' s3 I3 rw' => ⟨w, H, I3, rw', q⟩) hs
theorem subK_ok (hu : X.A.units + 64 < cLine) (S : StOk X.K Cl cs F H h) (rx : RepB X.K cs F H b x d) (ry : RepB X.K cs F H b' y e) (q : subK h d e Q) (p : PostV X.K Cl cs F H h Q R) : IxW X x y H R := by
  unfold subK at q
  split at q
  · split at q
    · cases rx.str; cases ry.int
      obtain ⟨q1, q2⟩ := q
      split at q2
      · rename_i c hc
        exact ixw_of ix_str ⟨_, _, c, rfl, rfl, q1, hc, p.str S q2⟩
      · exact q2.elim
    · exact q.elim
  · split at q
    · rename_i xs hv
      obtain ⟨a, vs, rfl, hq, r⟩ := rx.viewT S hv
      split at q
      · cases ry.int
        split at q
        · rename_i d' hd
          obtain ⟨v, hv, rv⟩ := r.at hd
          rcases hq with hq | hq
          · exact ixw_of ix_list ⟨a, vs, _, v, rfl, rfl, hq, hv, p.here S rv q⟩
          · exact ixw_of ix_tup ⟨a, vs, _, v, rfl, rfl, hq, hv, p.here S rv q⟩
        · exact q.elim
      · exact q.elim
    · split at q
      · rename_i kvs k hd hk
        obtain ⟨a, vs, rfl, hq, r⟩ := rx.viewD S hd
        cases ry.key hk
        split at q
        · rename_i d' hd'
          rcases r.get (k := k) with ⟨v, d2, e1, e2, r2⟩ | ⟨e1, e2⟩
          · rw [hd'] at e2; cases e2
            refine ixw_of (ix_dict (by omega)) ⟨a, v, rfl, ?_, p.here S r2 q⟩
            rw [← e1]
            exact .k hq
          · rw [hd'] at e2; cases e2
        · exact q.elim
      · exact q.elim
theorem Reps.cut_whole {K : PySem.W.Frag} {vs : List V} {xs : List AV} (r : Reps K cs F vs xs) {lo hi : Option Int} (w : HT.sIx vs.length 0 lo = 0 ∧ HT.sIx vs.length vs.length hi = vs.length) : _root_.VL.cut xs lo hi = xs := by
  unfold VL.cut
  rw [← r.length, w.1, w.2, r.length]
  simp
theorem sliceK_ok (S : StOk X.K Cl cs F H h) (rx : RepB X.K cs F H false x d) {lo hi : Option Int} (q : sliceK h d lo hi Q) (p : PostV X.K Cl cs F H h Q R) : SlW X x lo hi H R := by
  unfold sliceK at q
  split at q
  · cases rx.str
    exact slw_of sl_str ⟨_, rfl, q.1, p.str S q.2⟩
  · have rx := rx.plain
    cases rx with
    | tup h1 r1 =>
      refine slw_of sl_tupA ⟨_, _, rfl, ex_t S.sub h1, fun w => ?_, fun _ => p.newT S (r1.cut lo hi) q⟩
      rw [r1.cut_whole w] at q
      exact p.here S (.tup h1 r1) q
  · exact q.elim
theorem truK_ok (S : StOk X.K Cl cs F H h) (rx : RepB X.K cs F H b x d) {Q : Bool → Prop} (q : truK h d Q) : ∃ k, TruV X.K x H k ∧ Q k := by
  unfold truK at q
  split at q
  · cases rx.bl; exact ⟨_, rfl, q⟩
  · cases rx.non; exact ⟨_, rfl, q⟩
  · cases rx.int; exact ⟨_, rfl, q⟩
  · cases rx.str; exact ⟨_, ⟨q.1, rfl⟩, q.2⟩
  · split at q
    · rename_i xs hv
      obtain ⟨a, vs, rfl, hq, r⟩ := rx.viewT S hv
      have e : xs.isEmpty = vs.isEmpty := by
        have := r.length
        cases vs <;> cases xs <;> simp at this ⊢
      rw [e] at q
      rcases hq with hq | hq
      · exact ⟨_, .inl ⟨vs, hq, rfl⟩, q⟩
      · exact ⟨_, .inr (.inl ⟨vs, hq, rfl⟩), q⟩
    · exact q.elim
def bVal : Blt → Value
  | .len => .builtin "len" | .abs => .builtin "abs" | .int => .type "int" | .str => .type "str" | .max2 => .builtin "max" | .min2 => .builtin "min" | .maxL => .builtin "max" | .minL => .builtin "min"
  | .sum => .builtin "sum" | .all => .builtin "all" | .any => .builtin "any" | .tuple => .type "tuple" | .repr => .builtin "repr"
inductive RepBs (K : PySem.W.Frag) (cs : List Addr) (F H : Hp) (b : Bool) : List V → List AV → Prop
  | nil : RepBs K cs F H b [] []
  | cons {v : V} {vs : List V} {d : AV} {ds : List AV} : RepB K cs F H b v d → RepBs K cs F H b vs ds → RepBs K cs F H b (v :: vs) (d :: ds)
theorem RepBs.step {K : PySem.W.Frag} {cs' : List Addr} {F' H' : Hp} {vs : List V} {ds : List AV} (r : RepBs K cs F H b vs ds) (x : Stp cs F H cs' F' H') : RepBs K cs' F' H' b vs ds := by
  induction r with
  | nil => exact .nil
  | cons h _ ih => exact .cons (h.step x) ih
theorem RepBs.plain {K : PySem.W.Frag} {vs : List V} {ds : List AV} (r : RepBs K cs F H false vs ds) : Reps K cs F vs ds := by
  induction r with
  | nil => exact .nil
  | cons h _ ih => exact .cons h.plain ih
/-- repr, where no guard is open -/
theorem call_repr_D (gd : X.A.guards = some []) (hu : X.A.units + 64 < cLine) : CallR X (.builtin "repr") fun vs H Q => ∃ v d, vs = [v] ∧ Dp X.K H v d ∧ (d.showable = true ∧ d.hasDict = false ∧ d.depth ≤ 50 ∧ d.shown.length ≤ sizeLine) ∧ Q (.str d.shown) H := by
  rintro pins s σ H vs us Q J rs ⟨v, d, rfl, hd, ⟨h1, h2, h3, h4⟩, q⟩
  cases rs with
  | cons r rs =>
    rename_i u us
    cases rs
    obtain ⟨as, rd⟩ := Dp.reads J d v u hd r
    have fin : ∀ h' tk, (∀ b o, s.heap.get? b = some o → h'.get? b = some o) → ∀ t, EP X pins σ Q (.str d.shown t) { s with heap := h', toks := tk } :=
      fun h' tk hk t => ⟨.str d.shown, H, J.kept hk, ⟨t, rfl⟩, q⟩
    have same : ∀ b o, s.heap.get? b = some o → s.heap.get? b = some o := fun _ _ e => e
    cases rd with
    | none => exact PySem.P.repr_of_none (fin s.heap _ same _)
    | bool b => exact PySem.P.repr_of_bool (fin s.heap _ same _)
    | int i t => exact PySem.P.repr_of_int (by simpa [PyData.showable] using h1) (fin s.heap _ same _)
    | str x t => exact PySem.P.repr_of_str (fin s.heap _ same _) h4
    | list a1 a2 a3 a4 => exact repr_of_reads' (.list a1 a2 a3 a4) h1 (PyData.noDict_hsm h2) gd (by omega) same (fun h' t tk hk => fin h' tk hk t) h4
    | tuple a1 a2 a3 a4 => exact repr_of_reads' (.tuple a1 a2 a3 a4) h1 (PyData.noDict_hsm h2) gd (by omega) same (fun h' t tk hk => fin h' tk hk t) h4
    | dict a1 a2 a3 a4 a5 => cases h2
theorem bltK_ok (hc : X.calm = true) (gd : X.A.guards = some []) (hu : X.A.units + 64 < cLine) (S : StOk X.K Cl cs F H h) {bt : Blt} {vs : List V} {ds : List AV} (rs : RepBs X.K cs F H b vs ds) (q : bltK h bt ds Q) (p : PostV X.K Cl cs F H h Q R) : CallW X (bVal bt) vs H R := by
  unfold bltK at q
  split at q
  · -- len of a text
    cases rs with | cons r1 rs => cases rs; cases r1.str; exact callw_of call_len_str ⟨_, rfl, q.1, p.int S q.2⟩
  · cases rs with
    | cons r1 rs =>
      cases rs
      split at q
      · rename_i xs hv
        obtain ⟨a, vs, rfl, hq, r⟩ := r1.viewT S hv
        refine callw_of call_len_seq ⟨a, vs, rfl, hq, ?_⟩
        rw [r.length]
        exact p.int S q
      · split at q
        · rename_i kvs hd
          obtain ⟨a, vs, rfl, hq, r⟩ := r1.viewD S hd
          refine callw_of call_lenD ⟨a, vs, rfl, hq, ?_⟩
          rw [r.length]
          exact p.int S q
        · exact q.elim
  · cases rs with | cons r1 rs => cases rs; cases r1.int; exact callw_of call_abs ⟨_, rfl, p.int S q⟩
  · cases rs with | cons r1 rs => cases rs; cases r1.int; exact callw_of call_int1 (.inl ⟨_, rfl, p.int S q⟩)
  · cases rs with | cons r1 rs => cases rs; cases r1.bl; exact callw_of call_int1 (.inr ⟨_, rfl, p.int S q⟩)
  · cases rs with
    | cons r1 rs =>
      cases rs
      cases r1.str
      split at q
      · rename_i n e
        exact callw_of call_int_str ⟨_, n, rfl, e, q.1, p.int S q.2⟩
      · exact q.elim
  · cases rs with | cons r1 rs => cases rs; cases r1.int; exact callw_of call_str_int ⟨_, rfl, q.1, p.str S q.2⟩
  · cases rs with | cons r1 rs => cases rs with | cons r2 rs => cases rs; cases r1.int; cases r2.int; exact callw_of (call_max2 hc) ⟨_, _, rfl, p.int S q⟩
  · cases rs with | cons r1 rs => cases rs with | cons r2 rs => cases rs; cases r1.int; cases r2.int; exact callw_of (call_min2 hc) ⟨_, _, rfl, p.int S q⟩
  · cases rs with
    | cons r1 rs =>
      cases rs
      split at q
      · rename_i ns hv
        obtain ⟨xs, hv, hn⟩ := Option.bind_eq_some_iff.mp hv
        obtain ⟨a, vs, rfl, hq, r⟩ := r1.view S hv
        rw [r.ints hn] at hq
        exact callw_of (cr_max hc) ⟨a, ns, rfl, hq, q.1, fun m h1 h2 => p.int S (q.2 m h1 h2)⟩
      · exact q.elim
  · cases rs with
    | cons r1 rs =>
      cases rs
      split at q
      · rename_i ns hv
        obtain ⟨xs, hv, hn⟩ := Option.bind_eq_some_iff.mp hv
        obtain ⟨a, vs, rfl, hq, r⟩ := r1.view S hv
        rw [r.ints hn] at hq
        exact callw_of (cr_min hc) ⟨a, ns, rfl, hq, q.1, fun m h1 h2 => p.int S (q.2 m h1 h2)⟩
      · exact q.elim
  · cases rs with
    | cons r1 rs =>
      cases rs
      split at q
      · rename_i ns hv
        obtain ⟨xs, hv, hn⟩ := Option.bind_eq_some_iff.mp hv
        obtain ⟨a, vs, rfl, hq, r⟩ := r1.view S hv
        rw [r.ints hn] at hq
        exact callw_of (cr_sum hc) ⟨a, ns, rfl, hq, p.int S q⟩
      · exact q.elim
  · cases rs with
    | cons r1 rs =>
      cases rs
      split at q
      · rename_i ns hv
        obtain ⟨xs, hv, hn⟩ := Option.bind_eq_some_iff.mp hv
        obtain ⟨a, vs, rfl, hq, r⟩ := r1.view S hv
        rw [r.bools hn] at hq
        exact callw_of (cr_all hc) ⟨a, ns, rfl, hq, p.bl S q⟩
      · exact q.elim
  · cases rs with
    | cons r1 rs =>
      cases rs
      split at q
      · rename_i ns hv
        obtain ⟨xs, hv, hn⟩ := Option.bind_eq_some_iff.mp hv
        obtain ⟨a, vs, rfl, hq, r⟩ := r1.view S hv
        rw [r.bools hn] at hq
        exact callw_of (cr_any hc) ⟨a, ns, rfl, hq, p.bl S q⟩
      · exact q.elim
  · cases rs with
    | cons r1 rs =>
      cases rs
      split at q
      · rename_i d hd
        exact callw_of (call_repr_D gd hu) ⟨_, d, rfl, r1.pdH S hd, q.1, p.str S q.2⟩
      · exact q.elim
  · cases rs with
    | cons r1 rs =>
      cases rs
      rcases r1 with r | ⟨_, _, _, _, _, ⟨_, _, e, _⟩ | ⟨_, _, e, _⟩⟩
      · cases r with
        | tup h1 r1 => exact callw_of call_tuple_of ⟨_, _, rfl, .inr ⟨ex_t S.sub h1, p.here S (.tup h1 r1) q⟩⟩
      · cases e
      · cases e
  · cases rs with
    | cons r1 rs =>
      cases rs
      split at q
      · rename_i xs hv
        obtain ⟨a, vs, rfl, hq, r⟩ := r1.view S hv
        exact callw_of call_tuple_of ⟨a, vs, rfl, .inl ⟨hq, p.newT S r q⟩⟩
      · exact q.elim
  · exact q.elim
end
end VL

set_option maxRecDepth 100000
set_option maxHeartbeats 4000000
/-! VL: the promise of a def where no guard stands open: what repr asks. -/
namespace VL
open PySem L2 Evl PyProof.Rows PySem.Spec
/-- what a def keeps, called where no guard is open; no exception leaves it -/
structure FnG (P : Program) (W : World) (K : PySem.W.Frag) (gl : Str → Option Value) (B : Heap) (k : Nat) (f : Addr) (fd : FuncData) (ps : List Str) (sp : Sp) : Prop where
  cnt : ∀ vs H Q E, sp vs H Q E → vs.length = ps.length
  go : ∀ (A : Around) (fr : List PySem.Env) (s : Shared) (H : Hp) (ar : Args) (us : List Value) (vs : List V) (Q : VK) (E : XK),
    A.guards = some [] → Room k A → Env0 P W K gl B A fr s H → BindsTo s fd ar (ps.zip us) → Vals vs us → sp vs H Q E →
    codeAny (model P W) A (.call (.ref f) ar) (CR CX0 fr P W H s Q E) s
section
variable {P : Program} {W : World} {K : PySem.W.Frag} {gl : Str → Option Value} {B : Heap}
theorem FnG.of_body {name qn : Str} {st : Stmt} {f : Addr} {fd : FuncData} {N ps : List Str} {k : Nat} {sp : Sp} (F : Fun K name qn st f fd) (S : FnScope N ps (defScope st)) (cnt : ∀ vs H Q E, sp vs H Q E → vs.length = ps.length)
    (body : ∀ (cv : Value) (A : Around) (fr : List PySem.Env) (s : Shared) (H : Hp) (vs : List V) (Q : VK) (E : XK), (A.deeper (envOfC qn (defScope st) s.heap.objs.size f cv)).guards = some [] →
      Room k (A.deeper (envOfC qn (defScope st) s.heap.objs.size f cv)) → sp vs H Q E →
      ∃ t, PSs (cxOf CX0 P W K gl B N qn (defScope st) f cv A fr s H E).nox (defBody st) t ∧ t { nx := fun _ H' => Q .non H', rt := Q } (L2.start N vs) H) :
    FnG P W K gl B (k + 1) f fd ps sp := by
  obtain ⟨oc, od, kV, dc, pm, an, cv, ct, sl, rfl, at_, code⟩ := F.ex
  constructor
  · exact cnt
  intro A fr s H ar us vs Q E gd room env bnd rel want
  have here : K.In s.heap := env.mod.kin.keeps fun b o z => (env.bs b o z).1
  have kinds : ∀ y ∈ ps.zip us, (defScope st).names.lookup y.1 = some .local ∨ ((defScope st).names.lookup y.1 = some .cell ∧ ((cellsFrom (s.heap.objs.size + 1) (defScope st).names []).lookup y.1).isSome = true) := by
    rintro ⟨nm, v⟩ hy
    rcases S.par nm (List.of_mem_zip hy).1 with z | z
    · exact Or.inl z
    · exact Or.inr ⟨z, PySem.W.cellsFrom_some _ _ _ (Or.inl z)⟩
  refine codeAny_call_function room.depth (here _ _ at_) rfl S.co S.gen rfl (PySem.W.codeRec_of here code) (bnd _ _ _ _ ?_)
  refine wpAny_newFunctionEnv_cells S.kind kinds fun e0 he s1 x => ?_
  cases he
  have calm : s.heap.NoLimit := env.mod.nolimit.keeps fun b o z => (env.bs b o z).1
  refine And.intro (calm.keeps x.toInCall.keep) (codeAny_func ?_)
  obtain ⟨t, pt, run⟩ := body cv A fr s H vs Q E gd (room.deeper _) want
  have J : Inv (cxOf CX0 P W K gl B N qn (defScope st) f cv A fr s H E) [] (L2.start N vs) H s1 := inv_start S room.hd env (cnt _ _ _ _ want) rel x
  refine wpAny_mono (pt.nox.run [] s1 (L2.start N vs) H _ J run) ?_ fun _ _ z => z
  intro fl s2 z
  match fl, z with
  | .ret u, ⟨v, _, H2, J2, rv, q⟩ => exact ⟨v, H2, J2.os, J2.bare, J2.base, J2.hok, rv, q⟩
  | .next, ⟨_, H2, J2, q⟩ => exact ⟨V.non, H2, J2.os, J2.bare, J2.base, J2.hok, rfl, q⟩
  | .brk, ⟨_, _, _, q⟩ => exact q.elim
  | .cont, ⟨_, _, _, q⟩ => exact q.elim
end
section
variable {X : Cx} {k : Nat} {f : Addr} {fd : FuncData} {ps : List Str} {sp : Sp} {x : Str} {p pos : Pos} {e : Expr} {es : List Expr} {t : TA}
theorem FnG.step {pins : List (Addr × Obj)} {σ : L2.St} {H : Hp} {s : Shared} {Q : VK} {us : List Value} {vs : List V} (F : FnG X.prog X.w X.K X.mg X.base k f fd ps sp) (gd : X.A.guards = some []) (room : Room k X.A) (bnd : Binds X.K fd ps [])
    (J : Inv X pins σ H s) (rel : Vals vs us) (want : sp vs H Q E0) : wpAny (model X.prog X.w) X.A (call (.ref f) us) (EP X pins σ Q) X.xe s := by
  have n1 : (us ++ []).length = ps.length := by
    rw [List.append_nil, ← rel.length]
    exact F.cnt _ _ _ _ want
  have b1 := bnd s us J.kIn n1
  rw [List.append_nil] at b1
  refine wpAny_call (codeAny_mono (F.go X.A X.stack s H ⟨us, []⟩ us vs Q E0 gd room J.env0 b1 rel want) ?_)
  intro r s2 z
  match r, z with
  | .ok (.ret u), z => exact J.after z
  | .ok .next, z => exact z.elim
  | .ok .brk, z => exact z.elim
  | .ok .cont, z => exact z.elim
  | .error _, z => exact z.elim
/-- f(e, ..) -/
theorem FnG.call (F : FnG X.prog X.w X.K X.mg X.base k f fd ps sp) (gd : X.A.guards = some []) (room : Room k X.A) (hg : Gl X x) (hm : X.mg x = some (.ref f)) (hk : PySem.W.keepIn X.K (.ref f) = true) (bnd : Binds X.K fd ps [])
    (ha : PA X (e :: es) t) (hdb : (x == ("__debug__" : Str)) = false) (he : starEach (e :: es) X.env = (false, eval e X.env) :: starEach es X.env) (hpl : (backTo pos (starEach es X.env)).any (·.1) = false) :
    PE X (.Call (.Name x p) (e :: es) [] pos) fun σ H Q => t σ H fun vs H1 => sp vs H1 Q E0 := by
  constructor
  intro pins s σ H Q J z
  refine wpAny_Call_Name_kw (ld_glob J hg hm ?_ hdb)
  refine PySem.W.callWith_K (h₀ := X.base) J.ok.mod.kin hk (thn (ha.run pos pins s σ H _ J z) ?_) he hpl
  rintro us s1 ⟨vs, H1, J1, rel, want⟩
  exact ⟨J1.kIn, F.step gd room bnd J1 rel want⟩
/-- f() -/
theorem FnG.call0 (F : FnG X.prog X.w X.K X.mg X.base k f fd ps sp) (gd : X.A.guards = some []) (room : Room k X.A) (hg : Gl X x) (hm : X.mg x = some (.ref f)) (hk : PySem.W.keepIn X.K (.ref f) = true) (bnd : Binds X.K fd ps [])
    (hdb : (x == ("__debug__" : Str)) = false) : PE X (.Call (.Name x p) [] [] pos) fun σ H Q => sp [] H Q E0 := by
  constructor
  intro pins s σ H Q J z
  exact wpAny_Call_Name_kw (ld_glob J hg hm (PySem.W.callWith_K0 J.kIn hk (F.step (us := []) gd room bnd J .nil z)) hdb)
theorem under_gd {A : Around} {C : Addr} {us : List Value} (h : A.guards = some []) : (A.under (.builtin "type.__call__" ⟨.ref C :: us, []⟩)).guards = some [] := by
  first | exact h | (simp [Around.under, Code.guards, Code.isGuard, guardIds, pushGuards, h])
/-- C(..): the new instance, then its __init__ -/
theorem FnG.born {C : Addr} {pins : List (Addr × Obj)} {σ : L2.St} {H : Hp} {s : Shared} {Q : VK} {us : List Value} {vs : List V} (M : Mk X.K C f) (F : FnG X.prog X.w X.K X.mg X.base k f fd ps sp) (gd : X.A.guards = some []) (room : Room (k + 1) X.A) (bnd : Binds X.K fd ps [])
    (J : Inv X pins σ H s) (rel : Vals vs us) (want : ∀ x dx, H x = none → H dx = none → dx ≠ x → sp (.ref x :: vs) (upd (upd H dx (.own x)) x (.ins C dx [])) (fun v H2 => v = .non ∧ Q (.ref x) H2) E0) :
    wpAny (model X.prog X.w) X.A (PySem.call (.ref C) us) (EP X pins σ Q) X.xe s := by
  have n0 : H s.heap.objs.size = none := J.hok.fresh (Nat.le_refl _)
  have n1 : H (s.heap.objs.size + 1) = none := J.hok.fresh (Nat.le_succ _)
  have want := want _ _ n1 n0 (Nat.ne_of_lt (Nat.lt_succ_self _))
  have J2 := Inv.made (C := C) J
  have rel2 : Vals (V.ref (s.heap.objs.size + 1) :: vs) (Value.ref (s.heap.objs.size + 1) :: us) := .cons rfl rel
  have cnt : (Value.ref (s.heap.objs.size + 1) :: us ++ []).length = ps.length := by
    rw [List.append_nil, ← rel2.length]
    exact F.cnt _ _ _ _ want
  have b1 := bnd _ (Value.ref (s.heap.objs.size + 1) :: us) J2.kIn cnt
  rw [List.append_nil] at b1
  refine wpAny_call (make_map (f := f) J.kIn M.makes M.init (beq_iff_eq.mp M.fn) (codeAny_mono (F.go _ X.stack _ _ ⟨Value.ref (s.heap.objs.size + 1) :: us, []⟩ _ _ _ E0 (under_gd gd) (room.make C us []) (J2.env0.make C us []) b1 rel2 want) ?_))
  intro r s2 z
  match r, z with
  | .ok (.ret u), z =>
    obtain ⟨v, H2, J3, rv, ev, q⟩ := J2.after z
    subst ev
    exact ⟨rv, V.ref _, H2, J3, rfl, q⟩
  | .ok .next, z => exact z.elim
  | .ok .brk, z => exact z.elim
  | .ok .cont, z => exact z.elim
  | .error _, z => exact z.elim
theorem FnG.make {C : Addr} (M : Mk X.K C f) (F : FnG X.prog X.w X.K X.mg X.base k f fd ps sp) (gd : X.A.guards = some []) (room : Room (k + 1) X.A) (hg : Gl X x) (hm : X.mg x = some (.ref C)) (bnd : Binds X.K fd ps [])
    (ha : PA X (e :: es) t) (hdb : (x == ("__debug__" : Str)) = false) (he : starEach (e :: es) X.env = (false, eval e X.env) :: starEach es X.env) (hpl : (backTo pos (starEach es X.env)).any (·.1) = false) :
    PE X (.Call (.Name x p) (e :: es) [] pos) fun σ H Q => t σ H fun vs H1 => ∀ a dx, H1 a = none → H1 dx = none → dx ≠ a → sp (.ref a :: vs) (upd (upd H1 dx (.own a)) a (.ins C dx [])) (fun v H2 => v = .non ∧ Q (.ref a) H2) E0 := by
  constructor
  intro pins s σ H Q J z
  refine wpAny_Call_Name_kw (ld_glob J hg hm ?_ hdb)
  refine PySem.W.callWith_K (h₀ := X.base) J.ok.mod.kin M.kp (thn (ha.run pos pins s σ H _ J z) ?_) he hpl
  rintro us s1 ⟨vs, H1, J1, rel, want⟩
  exact ⟨J1.kIn, F.born M gd room bnd J1 rel want⟩
/-- the def of a method, found at the object -/
theorem call_at {o : Expr} {m : Str} {apos : Pos} {env : PySem.Env} {args : List Expr} {A : Around} {M : Model} {Q : Value → Shared → Prop} {E : Value → Shared → Prop} {s : Shared} (hb : attributeBase o m env (eval o env) = eval o env) (hl : (apos.endLine == pos.line) = true) (hf : methodCallForm args.length (backTo pos (starEach args env)) [] = true)
    (h : wpAny M A (eval o env) (fun ov s1 => ∀ pl, wpAny M A (getMethod ov m pl) (fun g s2 => wpAny M A (callWith pos g.1 g.2 (backTo pos (starEach args env)) []) Q E s2) E s1) E s) : wpAny M A (eval (.Call (.Attribute o m apos) args [] pos) env) Q E s := by
  rw [arm_eval_Call, hb]
  refine wpAny_bind (thn h ?_)
  intro ov s1 z
  refine wpAny_bind (wpAny_standAt ?_)
  have same : ∀ few, methodCallPos few o env apos pos = pure pos := fun few => by unfold methodCallPos; simp [hl]
  unfold methodCall
  show wpAny M A (holding [ov] (calleeOf (methodCallForm args.length (backTo pos (starEach args env)) []) o env ov m) >>= _) Q E s1
  rw [hf]
  refine wpAny_bind (wpAny_holding (thn (z _) ?_))
  intro g s2 z2
  exact wpAny_bind (wpAny_of_eq (same _) z2)
/-- a method of the object that stands there, at its class -/
def MethAt (X : Cx) (C : Addr) (m : Str) (sp : Sp) : Prop := ∃ k f fd ps, Cls X.K C ∧ Meth X.K C m f ∧ FnG X.prog X.w X.K X.mg X.base k f fd ps sp ∧ Room k X.A ∧ Binds X.K fd ps []
theorem pe_methG {m : Str} {o : Expr} {apos : Pos} {ta : TE} (ho : PE X o ta) (hb : attributeBase o m X.env (eval o X.env) = eval o X.env) (hl : (apos.endLine == pos.line) = true) (hf : methodCallForm (e :: es).length (backTo pos (starEach (e :: es) X.env)) [] = true) (gd : X.A.guards = some [])
    (ha : PA X (e :: es) t) (he : starEach (e :: es) X.env = (false, eval e X.env) :: starEach es X.env) (hpl : (backTo pos (starEach es X.env)).any (·.1) = false) :
    PE X (.Call (.Attribute o m apos) (e :: es) [] pos) fun σ H Q => ta σ H fun x H1 => ∃ a C dx fs sp, x = .ref a ∧ H1 a = some (.ins C dx fs) ∧ fs.lookup m = none ∧ MethAt X C m sp ∧ t σ H1 fun vs H2 => sp (x :: vs) H2 Q E0 := by
  constructor
  intro pins s σ H Q J z
  refine call_at hb hl hf (thn (ho.run pins s σ H _ J z) ?_)
  rintro u s1 ⟨x, H1, J1, rx, a, C, dx, fs, sp, rfl, ea, l, ⟨k, f, fd, ps, c, hm, F, room, bnd⟩, q⟩ pl
  cases rx
  refine getmeth_ok J1 ea c hm l ?_
  refine PySem.W.callWith_K (first := [.ref a]) (h₀ := X.base) J1.ok.mod.kin hm.kp (thn (ha.run pos pins s1 σ H1 _ J1 q) ?_) he hpl
  rintro us s2 ⟨vs, H2, J2, rel, want⟩
  exact ⟨J2.kIn, F.step (us := .ref a :: us) (vs := .ref a :: vs) gd room bnd J2 (.cons rfl rel) want⟩
theorem pe_methG0 {m : Str} {o : Expr} {apos : Pos} {ta : TE} (ho : PE X o ta) (hb : attributeBase o m X.env (eval o X.env) = eval o X.env) (hl : (apos.endLine == pos.line) = true) (gd : X.A.guards = some []) :
    PE X (.Call (.Attribute o m apos) [] [] pos) fun σ H Q => ta σ H fun x H1 => ∃ a C dx fs sp, x = .ref a ∧ H1 a = some (.ins C dx fs) ∧ fs.lookup m = none ∧ MethAt X C m sp ∧ sp [x] H1 Q E0 := by
  constructor
  intro pins s σ H Q J z
  refine call_at hb hl rfl (thn (ho.run pins s σ H _ J z) ?_)
  rintro u s1 ⟨x, H1, J1, rx, a, C, dx, fs, sp, rfl, ea, l, ⟨k, f, fd, ps, c, hm, F, room, bnd⟩, want⟩ pl
  cases rx
  refine getmeth_ok J1 ea c hm l ?_
  exact PySem.W.callWith_K0 (first := [.ref a]) J1.kIn hm.kp (F.step (us := [.ref a]) (vs := [.ref a]) gd room bnd J1 (.cons rfl .nil) want)
end
end VL

set_option maxRecDepth 100000
set_option maxHeartbeats 2000000
/-! VL: the syntax against the text; each construct. -/
namespace VL
open PySem L2 Evl PyProof.Rows PySem.Spec

/-! ### names -/
structure Tab where
  fname : Nat → Option Str
  gname : Nat → Str
  cname : Nat → Option Str
def glB (sc : Scope) (x : Str) : Bool := decide (sc.names.lookup x = some .globalImplicit)
def visB (sc : Scope) (x : Str) : Bool := match sc.names.lookup x with
  | some .local => true
  | some .cell => true
  | some .free => true
  | _ => false
def locB (sc : Scope) (x : Str) : Bool := match sc.names.lookup x with
  | some .local => true
  | some .cell => true
  | _ => false
def plainName (x : Str) : Bool := !(x == ("__debug__" : Str)) && !(x == ("__classdict__" : Str)) && decide (x ≠ "__name__")
theorem glB_ok {X : Cx} {x : Str} (h : glB X.env.scope x = true) : Gl X x := by
  show X.env.scope.names.lookup x = some .globalImplicit
  exact of_decide_eq_true h
theorem visB_ok {sc : Scope} {x : Str} (h : visB sc x = true) : Vis sc x := by
  unfold visB at h
  split at h
  · exact .inl (by assumption)
  · exact .inr (.inl (by assumption))
  · exact .inr (.inr (by assumption))
  · cases h
theorem locB_ok {sc : Scope} {x : Str} (h : locB sc x = true) : Loc sc x := by
  unfold locB at h
  split at h
  · exact .inl (by assumption)
  · exact .inr (by assumption)
  · cases h
theorem plainName_ok {x : Str} (h : plainName x = true) : (x == ("__debug__" : Str)) = false ∧ (x == ("__classdict__" : Str)) = false ∧ x ≠ "__name__" := by
  unfold plainName at h
  simp only [Bool.and_eq_true, Bool.not_eq_true', decide_eq_true_eq] at h
  exact ⟨h.1.1, h.1.2, h.2⟩
def agVar (sc : Scope) (N : List Str) (i : Nat) (x : Expr) : Bool := match x with
  | .Name id _ => decide (N[i]? = some id) && visB sc id && plainName id
  | _ => false
def bName : Blt → Str
  | .len => "len" | .abs => "abs" | .int => "int" | .str => "str" | .max2 => "max" | .min2 => "min" | .maxL => "max" | .minL => "min"
  | .sum => "sum" | .all => "all" | .any => "any" | .tuple => "tuple" | .repr => "repr"
def bltNames : List Str := ["len", "abs", "int", "str", "max", "min", "sum", "all", "any", "tuple", "list", "range", "isinstance", "bool", "dict", "repr", "sorted", "zip", "enumerate", "reversed"]
theorem bName_mem (b : Blt) : bName b ∈ bltNames := by cases b <;> decide +kernel
theorem bName_boot (b : Blt) : bootBuiltins (bName b) = some (bVal b) := by cases b <;> decide +kernel
theorem bName_plain (b : Blt) : plainName (bName b) = true := by cases b <;> decide +kernel
def notStar : Expr → Bool
  | .Starred _ _ => false
  | _ => true
def notSlice : Expr → Bool
  | .Slice _ _ _ _ => false
  | _ => true
def notSet : Expr → Bool
  | .Set _ _ _ => false
  | _ => true
/-- no super() -/
def notSup : Expr → Bool
  | .Call _ _ _ _ => false
  | _ => true
theorem star_cons {x : Expr} (h : notStar x = true) (r : List Expr) (env : PySem.Env) : starEach (x :: r) env = (false, eval x env) :: starEach r env := by
  cases x <;> first | rfl | cases h
theorem star_all : ∀ {es : List Expr}, es.all notStar = true → ∀ (pos : Pos) (env : PySem.Env), (backTo pos (starEach es env)).any (·.1) = false
  | [], _, _, _ => rfl
  | e :: es, h, pos, env => by
    rw [List.all_cons, Bool.and_eq_true] at h
    rw [star_cons h.1]
    show (false || (backTo pos (starEach es env)).any (·.1)) = false
    rw [star_all h.2] <;> rfl
theorem plainIx_of {x : Expr} (h : notSlice x = true) : PlainIx x := fun o i => by
  cases x <;> first | rfl | cases h
theorem folded_of {x : Expr} (h : notSet x = true) (env : PySem.Env) : ∀ v, foldedSetIterable x env v = pure v := fun v => by
  cases x <;> first | rfl | cases h
theorem base_of {x : Expr} (h : notSup x = true) (f : Str) (env : PySem.Env) : attributeBase x f env (eval x env) = eval x env := by
  cases x <;> first | rfl | cases h
/-- a test that is its value's truth -/
def plainT : Expr → Bool
  | .UnaryOp .Not _ _ => false
  | .BoolOp _ _ _ => false
  | .IfExp _ _ _ _ => false
  | .Compare _ _ _ _ => false
  | _ => true
theorem plainT_ok {x : Expr} (h : plainT x = true) (env : PySem.Env) : ∀ whole, isTrue x env whole = (do let v ← whole; standAt x.pos; holding [v] (truthy v)) := fun whole => by
  cases x <;> first | rfl | cases h | (rename_i op _ _; cases op <;> first | rfl | cases h)

/-- a target: its name's kind by the block's scope as written and as it runs -/
def tgN (sc0 sc : Scope) (id : Str) : Bool := (decide (sc0.names.lookup id = some .local) && decide (sc.names.lookup id = some .local)) || (decide (sc0.names.lookup id = some .cell) && decide (sc.names.lookup id = some .cell))
def agNames (sc0 sc : Scope) (N : List Str) : List Nat → List Expr → Bool
  | [], [] => true
  | i :: is, .Name id _ :: es => decide (N[i]? = some id) && tgN sc0 sc id && agNames sc0 sc N is es
  | _, _ => false
def agTg (sc0 sc : Scope) (N : List Str) : Tg → Expr → Bool
  | .nm i, x => match x with
    | .Name id _ => decide (N[i]? = some id) && tgN sc0 sc id
    | _ => false
  | .tup is, x => match x with
    | .Tuple es _ _ => agNames sc0 sc N is es
    | _ => false
def tgIds : Tg → List Nat
  | .nm i => [i]
  | .tup is => is
def ownP (N : List Str) : List Nat → List (Str × Nat)
  | [] => []
  | i :: is => (N.getD i "", i) :: ownP N is
theorem ownP_ids (N : List Str) (is : List Nat) : (ownP N is).map (·.2) = is := by
  induction is with
  | nil => rfl
  | cons i is ih => simp [ownP, ih]

def tail2 (op : BoolOp) (z : Expr) (pos : Pos) : List Expr → Expr
  | [] => z
  | w :: r => .BoolOp op (z :: w :: r) pos
mutual
def agE (T : Tab) (sc : Scope) (N : List Str) : E → Expr → Bool
  | .var i, x => agVar sc N i x
  | .vw i, x => agVar sc N i x
  | .cint i, x => match x with
    | .Constant (.int j) _ _ => decide (i = j)
    | _ => false
  | .cstr i, x => match x with
    | .Constant (.str j) _ _ => decide (i = j)
    | _ => false
  | .cbl i, x => match x with
    | .Constant (.bool j) _ _ => decide (i = j)
    | _ => false
  | .cnon, x => match x with
    | .Constant .none _ _ => true
    | _ => false
  | .glob g, x => match x with
    | .Name id _ => decide (id = T.gname g) && glB sc id && plainName id
    | _ => false
  | .bin op a b, x => match x with
    | .BinOp l o r _ => decide (op = o) && agE T sc N a l && agE T sc N b r
    | _ => false
  | .neg a, x => match x with
    | .UnaryOp .USub y _ => agE T sc N a y
    | _ => false
  | .not a, x => match x with
    | .UnaryOp .Not y _ => agE T sc N a y
    | _ => false
  | .cmp op a b, x => match x with
    | .Compare l [o] [r] _ => decide (op = o) && agE T sc N a l && agE T sc N b r && !behindInMarks o r
    | _ => false
  | .chain o1 o2 a b c, x => match x with
    | .Compare l [p1, p2] [r1, r2] _ => decide (o1 = p1) && decide (o2 = p2) && agE T sc N a l && agE T sc N b r1 && agE T sc N c r2 && !lastMarks [p1, p2] [r1, r2]
    | _ => false
  | .and a b, x => match x with
    | .BoolOp .And (y :: z :: rest) p => agE T sc N a y && agE T sc N b (tail2 .And z p rest)
    | _ => false
  | .or a b, x => match x with
    | .BoolOp .Or (y :: z :: rest) p => agE T sc N a y && agE T sc N b (tail2 .Or z p rest)
    | _ => false
  | .ite c a b, x => match x with
    | .IfExp t l r _ => agE T sc N c t && agE T sc N a l && agE T sc N b r
    | _ => false
  | .tup es, x => match x with
    | .Tuple xs _ _ => agEs T sc N es xs
    | _ => false
  | .fz n, x => agN T sc N n x
  | .new n, x => agN T sc N n x
  | .sub a i, x => match x with
    | .Subscript l r _ => agE T sc N a l && agE T sc N i r && notSlice r
    | _ => false
  | .slice a lo hi, x => match x with
    | .Subscript l (.Slice u v none _) _ => agE T sc N a l && agO T sc N lo u && agO T sc N hi v
    | _ => false
  | .call f es, x => match x with
    | .Call (.Name id _) xs [] _ => decide (T.fname f = some id) && glB sc id && plainName id && agEs T sc N es xs
    | _ => false
  | .blt b es, x => match x with
    | .Call (.Name id _) (y :: xs) [] _ => decide (id = bName b) && glB sc id && agEs T sc N es (y :: xs)
    | _ => false
  | .isi a t, x => match x with
    | .Call (.Name id _) [y, .Name id2 _] [] _ => decide (id = "isinstance") && glB sc id && decide (id2 = Str.ofString t) && glB sc id2 && agE T sc N a y && notStar y && (["int", "bool", "str", "list", "tuple"] : List String).contains t
    | _ => false
  | .smt m o a, x => match x with
    | .Call (.Attribute y nm apos) [z] [] cpos => (match m with | .join => decide (nm = "join")) && agE T sc N o y && agE T sc N a z && notStar z && notSup y && (apos.endLine == cpos.line)
    | _ => false
  | .attr a f, x => match x with
    | .Attribute y g _ => decide (f = g) && agE T sc N a y && notSup y
    | _ => false
  | .mcall o m es, x => match x with
    | .Call (.Attribute y nm apos) xs [] cpos => decide (m = nm) && agE T sc N o y && agEs T sc N es xs && notSup y && (apos.endLine == cpos.line) && decide (xs.length < 30)
    | _ => false
  | .make c es, x => match x with
    | .Call (.Name id _) (y :: xs) [] _ => decide (T.cname c = some id) && glB sc id && plainName id && agEs T sc N es (y :: xs)
    | _ => false
  | .tru a, x => agE T sc N a x && plainT x
def agEs (T : Tab) (sc : Scope) (N : List Str) : Es → List Expr → Bool
  | .nil, xs => match xs with
    | [] => true
    | _ => false
  | .cons e es, xs => match xs with
    | y :: ys => agE T sc N e y && notStar y && agEs T sc N es ys
    | _ => false
def agO (T : Tab) (sc : Scope) (N : List Str) : Oe → Option Expr → Bool
  | .no, x => match x with
    | none => true
    | _ => false
  | .so e, x => match x with
    | some y => agE T sc N e y
    | _ => false
def agN (T : Tab) (sc : Scope) (N : List Str) : Nw → Expr → Bool
  | .lst es, x => match x with
    | .List xs _ => agEs T sc N es xs
    | _ => false
  | .comp elt tg it cond own, x => match x with
    | .ListComp y [⟨t, i, ifs, a⟩] scope _ => decide (a = 0) && blkC N sc scope (ownP N own) && (tgIds tg).all (fun i => own.contains i) && agTg scope (relS scope sc) N tg t && agI T sc N it i && notSet i && agE T (relS scope sc) N elt y &&
      (match ifs with
      | [] => match cond with
        | .no => true
        | _ => false
      | [c] => agC T (relS scope sc) N cond c
      | _ => false)
    | _ => false
  | .slice a lo hi, x => match x with
    | .Subscript l (.Slice u v none _) _ => agE T sc N a l && agO T sc N lo u && agO T sc N hi v
    | _ => false
  | .listOf a, x => match x with
    | .Call (.Name id _) [y] [] _ => decide (id = "list") && glB sc id && agE T sc N a y && notStar y
    | _ => false
  | .cat a b, x => match x with
    | .BinOp l o r _ => decide (o = .Add) && agE T sc N a l && agE T sc N b r
    | _ => false
  | .rep a b, x => match x with
    | .BinOp l o r _ => decide (o = .Mult) && agE T sc N a l && agE T sc N b r
    | _ => false
  | .rev a, x => match x with
    | .Subscript l (.Slice none none (some (.UnaryOp .USub (.Constant (.int 1) _ _) _)) _) _ => agE T sc N a l
    | _ => false
  | .dct1 k v, x => match x with
    | .Dict [some y] [z] _ => agE T sc N k y && agE T sc N v z
    | _ => false
def agC (T : Tab) (sc : Scope) (N : List Str) : Oe → Expr → Bool
  | .no, _ => false
  | .so e, x => agE T sc N e x
def agI (T : Tab) (sc : Scope) (N : List Str) : It → Expr → Bool
  | .rng1 a, x => match x with
    | .Call (.Name id _) [y] [] _ => decide (id = "range") && glB sc id && agE T sc N a y && notStar y
    | _ => false
  | .rng2 a b, x => match x with
    | .Call (.Name id _) [y, z] [] _ => decide (id = "range") && glB sc id && agE T sc N a y && notStar y && agE T sc N b z && notStar z
    | _ => false
  | .seq a, x => agE T sc N a x
  | .own i, x => agVar sc N i x
  | .chars a, x => agE T sc N a x
end

/-! ### the context -/
def spOf (K : PySem.W.Frag) (Cl : Nat → Addr) (C : Ctx) (f : Nat) : Sp := fun vs H Q _ => ∃ cs F h ds Qa, StOk K Cl cs F H h ∧ Reps K cs F vs ds ∧ C.call f ds h Qa ∧
  ∀ v d cs' F' H' h', Stp cs F H cs' F' H' → StOk K Cl cs' F' H' h' → Rep K cs' F' v d → Qa d h' → Q v H'
structure XOk (C : Ctx) (T : Tab) (Cl : Nat → Addr) (X : Cx) : Prop where
  nd : X.N.Nodup
  calm : X.calm = true
  units : X.A.units + 65 < cLine
  gd : X.A.guards = some []
  blt : ∀ x, x ∈ bltNames → X.mg x = none
  glob : ∀ g d, C.glob g = some d → ∃ u v, X.mg (T.gname g) = some u ∧ RelV v u ∧ ∀ cs F, Rep X.K cs F v d
  fn : ∀ f x, T.fname f = some x → ∃ k a fd ps, FnG X.prog X.w X.K X.mg X.base k a fd ps (spOf X.K Cl C f) ∧ Room k X.A ∧ X.mg x = some (.ref a) ∧ PySem.W.keepIn X.K (.ref a) = true ∧ Binds X.K fd ps []
  cls : ∀ c x, T.cname c = some x → ∃ f k a fd ps, C.init c = some f ∧ FnG X.prog X.w X.K X.mg X.base k a fd ps (spOf X.K Cl C f) ∧ Room (k + 1) X.A ∧ X.mg x = some (.ref (Cl c)) ∧ Mk X.K (Cl c) a ∧ Binds X.K fd ps []
  mth : ∀ c m f, C.meth c m = some f → ∃ k a fd ps, FnG X.prog X.w X.K X.mg X.base k a fd ps (spOf X.K Cl C f) ∧ Room k X.A ∧ Cls X.K (Cl c) ∧ Meth X.K (Cl c) m a ∧ Binds X.K fd ps []
  fld : ∀ c f, C.fld c f = true → Cls X.K (Cl c) ∧ NoAttr X.K (Cl c) f
theorem XOk.blk {C : Ctx} {T : Tab} {Cl : Nat → Addr} {X : Cx} (O : XOk C T Cl X) (s : Shared) (H : Hp) (scope : Scope) (cl : List (Str × Addr)) (c : Addr) (fp : List Addr) : XOk C T Cl (X.blk s H scope (compEnvC scope cl c X.env) fp) where
  nd := O.nd
  calm := O.calm
  units := O.units
  gd := O.gd
  blt := O.blt
  glob := O.glob
  fn := O.fn
  cls := O.cls
  mth := O.mth
  fld := O.fld

/-! ### weakest readings -/
def WE (X : Cx) (e : Expr) : TE := fun σ H Q => ∀ pins s, Inv X pins σ H s → wpAny (model X.prog X.w) X.A (eval e X.env) (EP X pins σ Q) X.xe s
def WT (X : Cx) (e : Expr) : TT := fun σ H Q => ∀ pins s, Inv X pins σ H s → wpAny (model X.prog X.w) X.A (isTrue e X.env (eval e X.env)) (TP X pins σ Q) X.xe s
def WW (X : Cx) (e : Expr) : TT := fun σ H Q => ∀ (whole : Sem Value) pins s, Inv X pins σ H s → wpAny (model X.prog X.w) X.A (isTrue e X.env whole) (TP X pins σ Q) X.xe s
def WA (X : Cx) (es : List Expr) : TA := fun σ H Q => ∀ (pos : Pos) pins s, Inv X pins σ H s → wpAny (model X.prog X.w) X.A (spliced (backTo pos (starEach es X.env))) (AP X pins σ Q) X.xe s
def WO (X : Cx) (e : Option Expr) : TO := fun σ H Q => ∀ pins s, Inv X pins σ H s → wpAny (model X.prog X.w) X.A (evalPart e X.env) (fun u s' => ∃ o H', Inv X pins σ H' s' ∧ IsPart u o ∧ Q o H') X.xe s
section
variable {X : Cx}
theorem pe_we {e : Expr} : PE X e (WE X e) := ⟨fun pins s σ H Q I h => h pins s I⟩
theorem pt_we {e : Expr} : PT X e (WT X e) := ⟨fun pins s σ H Q I h => h pins s I⟩
theorem po_we {e : Option Expr} : PO X e (WO X e) := ⟨fun pins s σ H Q I h => h pins s I⟩
theorem wo_of {e : Option Expr} {t : TO} (p : PO X e t) {σ : L2.St} {H : Hp} {Q : Option Int → Hp → Prop} (h : t σ H Q) : WO X e σ H Q := fun pins s I => p.run pins s σ H Q I h
theorem pa_we {e : List Expr} : PA X e (WA X e) := ⟨fun pos pins s σ H Q I h => h pos pins s I⟩
theorem we_of {e : Expr} {t : TE} (p : PE X e t) {σ : L2.St} {H : Hp} {Q : VK} (h : t σ H Q) : WE X e σ H Q := fun pins s I => p.run pins s σ H Q I h
theorem wt_of {e : Expr} {t : TT} (p : PT X e t) {σ : L2.St} {H : Hp} {Q : Bool → Hp → Prop} (h : t σ H Q) : WT X e σ H Q := fun pins s I => p.run pins s σ H Q I h
theorem wa_of {e : List Expr} {t : TA} (p : PA X e t) {σ : L2.St} {H : Hp} {Q : List V → Hp → Prop} (h : t σ H Q) : WA X e σ H Q := fun pos pins s I => p.run pos pins s σ H Q I h
end

/-! ### what is shown of each construct -/
def EOk (K : PySem.W.Frag) (Cl : Nat → Addr) (b : Bool) (cs : List Addr) (F H : Hp) (Q : AV → AHeap → Prop) (R : VK) : Prop :=
  ∀ v d cs' F' H' h', Stp cs F H cs' F' H' → StOk K Cl cs' F' H' h' → RepB K cs' F' H' b v d → Q d h' → R v H'
def BOk (K : PySem.W.Frag) (Cl : Nat → Addr) (cs : List Addr) (F H : Hp) (Q : Bool → AHeap → Prop) (R : Bool → Hp → Prop) : Prop :=
  ∀ k cs' F' H' h', Stp cs F H cs' F' H' → StOk K Cl cs' F' H' h' → Q k h' → R k H'
def AOk (K : PySem.W.Frag) (Cl : Nat → Addr) (b : Bool) (cs : List Addr) (F H : Hp) (Q : List AV → AHeap → Prop) (R : List V → Hp → Prop) : Prop :=
  ∀ v d cs' F' H' h', Stp cs F H cs' F' H' → StOk K Cl cs' F' H' h' → RepBs K cs' F' H' b v d → Q d h' → R v H'
def OOk (K : PySem.W.Frag) (Cl : Nat → Addr) (cs : List Addr) (F H : Hp) (Q : Option Int → AHeap → Prop) (R : Option Int → Hp → Prop) : Prop :=
  ∀ k cs' F' H' h', Stp cs F H cs' F' H' → StOk K Cl cs' F' H' h' → Q k h' → R k H'
def NOk (K : PySem.W.Frag) (Cl : Nat → Addr) (cs : List Addr) (F H : Hp) (Q : Cell → AHeap → Prop) (R : VK) : Prop :=
  ∀ p c cs' F' H' h', Stp cs F H cs' F' H' → StOk K Cl cs' F' H' h' → H p = none → F' p = none → p ∉ cs' → COk K Cl cs' F' H' p c → Q c h' → R (.ref p) H'
section
variable (C : Ctx) (T : Tab) (Cl : Nat → Addr)
def SE (X : Cx) (b : Bool) (e : E) (x : Expr) : Prop := ∀ ρ h Q σ cs F H R, StOk X.K Cl cs F H h → EnvOk X.K Cl cs F H σ ρ → WpE C b e ρ h Q → EOk X.K Cl b cs F H Q R → WE X x σ H R
def ST (X : Cx) (e : E) (x : Expr) : Prop := ∀ ρ h Q σ cs F H R, StOk X.K Cl cs F H h → EnvOk X.K Cl cs F H σ ρ → WpT C e ρ h Q → BOk X.K Cl cs F H Q R → WT X x σ H R
def SA (X : Cx) (es : Es) (x : List Expr) : Prop := ∀ ρ h Q σ cs F H R, StOk X.K Cl cs F H h → EnvOk X.K Cl cs F H σ ρ → WpEs C es ρ h Q → AOk X.K Cl false cs F H Q R → WA X x σ H R
def SB (X : Cx) (es : Es) (x : List Expr) : Prop := ∀ ρ h Q σ cs F H R, StOk X.K Cl cs F H h → EnvOk X.K Cl cs F H σ ρ → WpBs C es ρ h Q → AOk X.K Cl true cs F H Q R → WA X x σ H R
def SO (X : Cx) (e : Oe) (x : Option Expr) : Prop := ∀ ρ h Q σ cs F H R, StOk X.K Cl cs F H h → EnvOk X.K Cl cs F H σ ρ → WpO C e ρ h Q → OOk X.K Cl cs F H Q R → WO X x σ H R
def SN (X : Cx) (e : Nw) (x : Expr) : Prop := ∀ ρ h Q σ cs F H R, StOk X.K Cl cs F H h → EnvOk X.K Cl cs F H σ ρ → WpN C e ρ h Q → NOk X.K Cl cs F H Q R → WE X x σ H R
end

section
variable {C : Ctx} {T : Tab} {Cl : Nat → Addr} {X : Cx} {b : Bool} {K : PySem.W.Frag} {cs cs' cs'' : List Addr} {F F' F'' H H' H'' : Hp} {h : AHeap}
theorem EOk.lift {Q : AV → AHeap → Prop} {R : VK} (p : EOk K Cl b cs F H Q R) (x : Stp cs F H cs' F' H') : EOk K Cl b cs' F' H' Q R :=
  fun v d cs2 F2 H2 h2 y S r q => p v d cs2 F2 H2 h2 (x.trans y) S r q
theorem BOk.lift {Q : Bool → AHeap → Prop} {R : Bool → Hp → Prop} (p : BOk K Cl cs F H Q R) (x : Stp cs F H cs' F' H') : BOk K Cl cs' F' H' Q R :=
  fun k cs2 F2 H2 h2 y S q => p k cs2 F2 H2 h2 (x.trans y) S q
theorem NOk.lift {Q : Cell → AHeap → Prop} {R : VK} (p : NOk K Cl cs F H Q R) (x : Stp cs F H cs' F' H') : NOk K Cl cs' F' H' Q R :=
  fun v d cs2 F2 H2 h2 y S r1 r2 r3 r4 q => p v d cs2 F2 H2 h2 (x.trans y) S (x.fresh r1) r2 r3 r4 q
theorem EOk.post {Q : AV → AHeap → Prop} {R : VK} (p : EOk K Cl b cs F H Q R) : PostV K Cl cs F H h (fun z => Q z h) R := fun v d F' H' x S r q => p v d cs F' H' h x S (.inl r) q
theorem NOk.fz {Q : AV → AHeap → Prop} {R : VK} (p : EOk K Cl b cs F H Q R) : NOk K Cl cs F H (fun c h1 => match c with
    | .lst xs => Q (.lst xs) h1
    | .dct xs => Q (.dct xs) h1
    | _ => False) R := fun a c cs' F' H' h' x S n1 n2 n3 r q => by
  have key : ∀ o, H' a = some o → Stp cs' F' H' cs' (upd F' a o) H' → True := fun _ _ _ => trivial
  cases c with
  | lst xs =>
    obtain ⟨vs, e, r⟩ := r
    have x2 : Stp cs F H cs' (upd F' a (.lst vs)) H' := by
      refine ⟨x.f.trans (Ex.new n2), x.c, x.k, x.d, fun b q1 q2 => ?_, x.m⟩
      by_cases hb : b = a
      · subst hb; exact n1
      · rw [upd_ne hb] at q2; exact x.n b q1 q2
    exact p _ (.lst xs) _ _ _ _ x2 (S.freeze n2 n3 e) (.inl (.lst upd_same (r.mono (Ex.new n2) ⟨[], by simp⟩))) q
  | dct xs =>
    obtain ⟨vs, e, r⟩ := r
    have x2 : Stp cs F H cs' (upd F' a (.dK vs)) H' := by
      refine ⟨x.f.trans (Ex.new n2), x.c, x.k, x.d, fun b q1 q2 => ?_, x.m⟩
      by_cases hb : b = a
      · subst hb; exact n1
      · rw [upd_ne hb] at q2; exact x.n b q1 q2
    exact p _ (.dct xs) _ _ _ _ x2 (S.freeze n2 n3 e) (.inl (.dct upd_same (r.mono (Ex.new n2) ⟨[], by simp⟩))) q
  | obj c fs => exact q.elim
  | dead => exact q.elim
theorem NOk.new {Q : AV → AHeap → Prop} {R : VK} (p : EOk K Cl b cs F H Q R) : NOk K Cl cs F H (fun c h1 => Q (.adr h1.length) (h1 ++ [c])) R := fun a c cs' F' H' h' x S n1 n2 n3 r q => by
  have x2 : Stp cs F H (cs' ++ [a]) F' H' := by
    refine ⟨x.f, ?_, x.k, x.d, x.n, fun b q1 q2 => ?_⟩
    · obtain ⟨r, e⟩ := x.c
      exact ⟨r ++ [a], by rw [e, List.append_assoc]⟩
    · rw [List.mem_append] at q1
      rcases q1 with q1 | q1
      · exact x.m b q1 q2
      · simp at q1; subst q1; exact n1
  refine p _ (.adr h'.length) _ _ _ _ x2 (S.cellNew n2 n3 (r.mono (fun _ _ z => z) ⟨[a], rfl⟩ fun _ z => z)) (.inl (.adr ?_)) q
  rw [← S.len]
  simp

/-! ### expressions -/
theorem s_var {i : Nat} {x : Expr} (hag : agVar X.env.scope X.N i x = true) : SE C Cl X b (.var i) x := fun ρ h Q σ cs F H R S V w p => by
  unfold agVar at hag
  split at hag
  · rename_i id pos
    simp only [Bool.and_eq_true, decide_eq_true_eq] at hag
    obtain ⟨⟨h1, h2⟩, h3⟩ := hag
    obtain ⟨n1, n2, _⟩ := plainName_ok h3
    simp only [WpE] at w
    split at w
    · rename_i d hd
      obtain ⟨v, e, r⟩ := V.val i d hd
      exact we_of (pe_var h1 (visB_ok h2) n1 n2) ⟨v, e, p _ _ _ _ _ _ .refl S (.inl r) w⟩
    · exact w.elim
  · cases hag
theorem own_rep {i : Nat} {σ : L2.St} {ρ : Env} {c : Cell} (V : EnvOk K Cl cs F H σ ρ) (e : getS ρ i = .own c) : ∃ v, σ[i]? = some (some v) ∧ ∀ d, (∃ xs, c = .lst xs ∧ d = .lst xs) ∨ (∃ xs, c = .dct xs ∧ d = .dct xs) → RepB K cs F H true v d := by
  obtain ⟨a, h1, h2, h3, h4⟩ := V.own i c e
  refine ⟨_, h1, fun d q => ?_⟩
  rcases q with ⟨xs, rfl, rfl⟩ | ⟨xs, rfl, rfl⟩
  · obtain ⟨vs, q1, q2⟩ := h4
    exact .inr ⟨rfl, a, rfl, h2, h3, .inl ⟨vs, xs, rfl, q1, q2⟩⟩
  · obtain ⟨vs, q1, q2⟩ := h4
    exact .inr ⟨rfl, a, rfl, h2, h3, .inr ⟨vs, xs, rfl, q1, q2⟩⟩
theorem s_vw {i : Nat} {x : Expr} (hag : agVar X.env.scope X.N i x = true) : SE C Cl X b (.vw i) x := fun ρ h Q σ cs F H R S V w p => by
  unfold agVar at hag
  split at hag
  · rename_i id pos
    simp only [Bool.and_eq_true, decide_eq_true_eq] at hag
    obtain ⟨⟨h1, h2⟩, h3⟩ := hag
    obtain ⟨n1, n2, _⟩ := plainName_ok h3
    cases b with
    | false => simp only [WpE] at w
    | true =>
      simp only [WpE] at w
      split at w
      · rename_i xs hd
        obtain ⟨v, e, r⟩ := own_rep V hd
        exact we_of (pe_var h1 (visB_ok h2) n1 n2) ⟨v, e, p _ _ _ _ _ _ .refl S (r _ (.inl ⟨xs, rfl, rfl⟩)) w⟩
      · rename_i xs hd
        obtain ⟨v, e, r⟩ := own_rep V hd
        exact we_of (pe_var h1 (visB_ok h2) n1 n2) ⟨v, e, p _ _ _ _ _ _ .refl S (r _ (.inr ⟨xs, rfl, rfl⟩)) w⟩
      · exact w.elim
  · cases hag
theorem s_glob {g : Nat} {id : Str} {pos : Pos} (O : XOk C T Cl X) (h0 : id = T.gname g) (h1 : glB X.env.scope id = true) (h2 : plainName id = true) : SE C Cl X b (.glob g) (.Name id pos) := fun ρ h Q σ cs F H R S V w p => by
  simp only [WpE] at w
  split at w
  · rename_i d hd
    obtain ⟨u, v, e1, e2, r⟩ := O.glob g d hd
    rw [← h0] at e1
    exact we_of (pe_glob (glB_ok h1) e1 e2 (plainName_ok h2).1) (p _ _ _ _ _ _ .refl S (.inl (r _ _)) w)
  · exact w.elim
theorem s_bin {op : Operator} {a c : E} {l r : Expr} {pos : Pos} (ha : SE C Cl X false a l) (hc : SE C Cl X false c r) : SE C Cl X b (.bin op a c) (.BinOp l op r pos) := fun ρ h Q σ cs F H R S V w p => by
  simp only [WpE] at w
  refine we_of (pe_op opw_ok pe_we pe_we) (ha _ _ _ _ _ _ _ _ S V w fun v1 d1 cs1 F1 H1 h1 x1 S1 r1 q1 => ?_)
  refine hc _ _ _ _ _ _ _ _ S1 (V.step x1) q1 fun v2 d2 cs2 F2 H2 h2 x2 S2 r2 q2 => ?_
  exact binK_ok S2 (r1.step x2) r2 q2 ((p.lift (x1.trans x2)).post)
theorem un_w {f : Value → Sem Value} : UnR X f (fun x H Q => ∀ (pins : List (Addr × Obj)) (s : Shared) (σ : L2.St) (v : Value), Inv X pins σ H s → RelV x v → wpAny (model X.prog X.w) X.A (f v) (EP X pins σ Q) X.xe s) :=
  fun pins s σ H x v Q I rx h => h pins s σ v I rx
theorem s_neg {a : E} {l : Expr} {pos : Pos} (ha : SE C Cl X false a l) : SE C Cl X b (.neg a) (.UnaryOp .USub l pos) := fun ρ h Q σ cs F H R S V w p => by
  simp only [WpE] at w
  refine we_of (pe_un un_neg pe_we) (ha _ _ _ _ _ _ _ _ S V w fun v1 d1 cs1 F1 H1 h1 x1 S1 r1 q1 => ?_)
  unfold negK at q1
  split at q1
  · cases r1.int
    exact ⟨_, rfl, (p.lift x1).post.int S1 q1⟩
  · exact q1.elim
theorem s_cmp {op : CmpOp} {a c : E} {l r : Expr} {pos : Pos} (O : XOk C T Cl X) (ha : SE C Cl X true a l) (hc : SE C Cl X true c r) (hm : behindInMarks op r = false) : SE C Cl X b (.cmp op a c) (.Compare l [op] [r] pos) := fun ρ h Q σ cs F H R S V w p => by
  simp only [WpE] at w
  refine we_of (pe_cmpR opw_ok pe_we pe_we hm) (ha _ _ _ _ _ _ _ _ S V w fun v1 d1 cs1 F1 H1 h1 x1 S1 r1 q1 => ?_)
  refine hc _ _ _ _ _ _ _ _ S1 (V.step x1) q1 fun v2 d2 cs2 F2 H2 h2 x2 S2 r2 q2 => ?_
  exact cmpK_ok (by have := O.units; omega) S2 (r1.step x2) r2 q2 ((p.lift (x1.trans x2)).post)
theorem s_cmpT {op : CmpOp} {a c : E} {l r : Expr} {pos : Pos} (O : XOk C T Cl X) (ha : SE C Cl X true a l) (hc : SE C Cl X true c r) (hm : behindInMarks op r = false) : ST C Cl X (.cmp op a c) (.Compare l [op] [r] pos) := fun ρ h Q σ cs F H R S V w p => by
  simp only [WpT] at w
  refine wt_of (pt_cmpR opw_ok pe_we pe_we hm) (ha _ _ _ _ _ _ _ _ S V w fun v1 d1 cs1 F1 H1 h1 x1 S1 r1 q1 => ?_)
  refine hc _ _ _ _ _ _ _ _ S1 (V.step x1) q1 fun v2 d2 cs2 F2 H2 h2 x2 S2 r2 q2 => ?_
  refine cmpK_ok (by have := O.units; omega) S2 (r1.step x2) r2 q2 fun v d F' H' y S3 rv qv => ?_
  split at qv
  · cases rv
    exact ⟨_, rfl, p _ _ _ _ _ ((x1.trans x2).trans y) S3 qv⟩
  · exact qv.elim
theorem s_chain {o1 o2 : CmpOp} {a c e : E} {l r1 r2 : Expr} {pos : Pos} (O : XOk C T Cl X) (ha : SE C Cl X false a l) (hc : SE C Cl X false c r1) (he : SE C Cl X false e r2) (hm : lastMarks [o1, o2] [r1, r2] = false) :
    SE C Cl X b (.chain o1 o2 a c e) (.Compare l [o1, o2] [r1, r2] pos) := fun ρ h Q σ cs F H R S V w p => by
  simp only [WpE] at w
  refine we_of (pe_chain opw_ok opw_ok pe_we pe_we pe_we hm) (ha _ _ _ _ _ _ _ _ S V w fun v1 d1 cs1 F1 H1 h1 x1 S1 r1 q1 => ?_)
  refine hc _ _ _ _ _ _ _ _ S1 (V.step x1) q1 fun v2 d2 cs2 F2 H2 h2 x2 S2 r2 q2 => ?_
  refine cmpK_ok (by have := O.units; omega) S2 (r1.step x2) r2 q2 fun v d F' H' y S3 rv qv => ?_
  split at qv
  · cases rv
    refine ⟨true, rfl, ?_⟩
    rw [if_pos rfl]
    refine he _ _ _ _ _ _ _ _ S3 (V.step ((x1.trans x2).trans y)) qv fun v3 d3 cs3 F3 H3 h3 x3 S4 r3 q3 => ?_
    exact cmpK_ok (by have := O.units; omega) S4 ((r2.step y).step x3) r3 q3 ((p.lift (((x1.trans x2).trans y).trans x3)).post)
  · cases rv
    refine ⟨false, rfl, ?_⟩
    rw [if_neg Bool.false_ne_true]
    exact p _ _ _ _ _ _ ((x1.trans x2).trans y) S3 (.inl (.bl false)) qv
  · exact qv.elim
theorem s_chainT {o1 o2 : CmpOp} {a c e : E} {l r1 r2 : Expr} {pos : Pos} (O : XOk C T Cl X) (ha : SE C Cl X false a l) (hc : SE C Cl X false c r1) (he : SE C Cl X false e r2) (hm : lastMarks [o1, o2] [r1, r2] = false) :
    ST C Cl X (.chain o1 o2 a c e) (.Compare l [o1, o2] [r1, r2] pos) := fun ρ h Q σ cs F H R S V w p => by
  simp only [WpT] at w
  refine wt_of (pt_chain opw_ok opw_ok pe_we pe_we pe_we hm) (ha _ _ _ _ _ _ _ _ S V w fun v1 d1 cs1 F1 H1 h1 x1 S1 r1 q1 => ?_)
  refine hc _ _ _ _ _ _ _ _ S1 (V.step x1) q1 fun v2 d2 cs2 F2 H2 h2 x2 S2 r2 q2 => ?_
  refine cmpK_ok (by have := O.units; omega) S2 (r1.step x2) r2 q2 fun v d F' H' y S3 rv qv => ?_
  split at qv
  · cases rv
    refine ⟨true, rfl, ?_⟩
    rw [if_pos rfl]
    refine he _ _ _ _ _ _ _ _ S3 (V.step ((x1.trans x2).trans y)) qv fun v3 d3 cs3 F3 H3 h3 x3 S4 r3 q3 => ?_
    refine cmpK_ok (by have := O.units; omega) S4 ((r2.step y).step x3) r3 q3 fun v d F' H' y' S5 rv' qv' => ?_
    split at qv'
    · cases rv'
      exact ⟨_, rfl, p _ _ _ _ _ ((((x1.trans x2).trans y).trans x3).trans y') S5 qv'⟩
    · exact qv'.elim
  · cases rv
    refine ⟨false, rfl, ?_⟩
    rw [if_neg Bool.false_ne_true]
    exact ⟨false, rfl, p _ _ _ _ _ ((x1.trans x2).trans y) S3 qv⟩
  · exact qv.elim
theorem s_not {a : E} {l : Expr} {pos : Pos} (ha : SE C Cl X false a l) : SE C Cl X b (.not a) (.UnaryOp .Not l pos) := fun ρ h Q σ cs F H R S V w p => by
  simp only [WpE] at w
  refine we_of (pe_not pe_we) (ha _ _ _ _ _ _ _ _ S V w fun v1 d1 cs1 F1 H1 h1 x1 S1 r1 q1 => ?_)
  split at q1
  · cases r1.bl
    exact ⟨_, rfl, (p.lift x1).post.bl S1 q1⟩
  · exact q1.elim
theorem s_notT {a : E} {l : Expr} {pos : Pos} (ha : ST C Cl X a l) : ST C Cl X (.not a) (.UnaryOp .Not l pos) := fun ρ h Q σ cs F H R S V w p => by
  simp only [WpT] at w
  exact wt_of (pt_not pt_we) (ha _ _ _ _ _ _ _ _ S V w fun k cs1 F1 H1 h1 x1 S1 q1 => p _ _ _ _ _ x1 S1 q1)
theorem pe_two {op : BoolOp} {y z : Expr} {rest : List Expr} {pos : Pos} {tz : TE} (hz : PE X (tail2 op z pos rest) tz) : PE X (.BoolOp op (z :: rest) pos) tz := by
  cases rest with
  | nil => exact pe_one hz
  | cons w r => exact hz
theorem s_and {a c : E} {y z : Expr} {rest : List Expr} {pos : Pos} (ha : SE C Cl X false a y) (hc : SE C Cl X false c (tail2 .And z pos rest)) : SE C Cl X b (.and a c) (.BoolOp .And (y :: z :: rest) pos) := fun ρ h Q σ cs F H R S V w p => by
  simp only [WpE] at w
  refine we_of (pe_and pe_we (pe_two (y := y) pe_we)) (ha _ _ _ _ _ _ _ _ S V w fun v1 d1 cs1 F1 H1 h1 x1 S1 r1 q1 => ?_)
  split at q1
  · cases r1.bl
    refine ⟨true, rfl, ?_⟩
    rw [if_pos rfl]
    exact hc _ _ _ _ _ _ _ _ S1 (V.step x1) q1 fun v2 d2 cs2 F2 H2 h2 x2 S2 r2 q2 => p _ _ _ _ _ _ (x1.trans x2) S2 (.inl r2.plain) q2
  · cases r1.bl
    refine ⟨false, rfl, ?_⟩
    rw [if_neg Bool.false_ne_true]
    exact p _ _ _ _ _ _ x1 S1 (.inl (.bl false)) q1
  · exact q1.elim
theorem s_or {a c : E} {y z : Expr} {rest : List Expr} {pos : Pos} (ha : SE C Cl X false a y) (hc : SE C Cl X false c (tail2 .Or z pos rest)) : SE C Cl X b (.or a c) (.BoolOp .Or (y :: z :: rest) pos) := fun ρ h Q σ cs F H R S V w p => by
  simp only [WpE] at w
  refine we_of (pe_or pe_we (pe_two (y := y) pe_we)) (ha _ _ _ _ _ _ _ _ S V w fun v1 d1 cs1 F1 H1 h1 x1 S1 r1 q1 => ?_)
  split at q1
  · cases r1.bl
    refine ⟨false, rfl, ?_⟩
    rw [if_neg Bool.false_ne_true]
    exact hc _ _ _ _ _ _ _ _ S1 (V.step x1) q1 fun v2 d2 cs2 F2 H2 h2 x2 S2 r2 q2 => p _ _ _ _ _ _ (x1.trans x2) S2 (.inl r2.plain) q2
  · cases r1.bl
    refine ⟨true, rfl, ?_⟩
    rw [if_pos rfl]
    exact p _ _ _ _ _ _ x1 S1 (.inl (.bl true)) q1
  · exact q1.elim
/-- a conjunction's or disjunction's test asks its whole for nothing -/
theorem pw_of {op : BoolOp} {es : List Expr} {pos : Pos} {t : TT} (h : PT X (.BoolOp op es pos) t) : PW X (.BoolOp op es pos) t := ⟨fun whole pins s σ H Q I hw => by
  have := h.run pins s σ H Q I hw
  exact this⟩
theorem s_andT {a c : E} {y z : Expr} {rest : List Expr} {pos : Pos} (ha : ST C Cl X a y) (hc : ST C Cl X c (tail2 .And z pos rest)) : ST C Cl X (.and a c) (.BoolOp .And (y :: z :: rest) pos) := fun ρ h Q σ cs F H R S V w p => by
  simp only [WpT] at w
  have hz : PW X (.BoolOp .And (z :: rest) pos) (WT X (tail2 .And z pos rest)) := by
    cases rest with
    | nil => exact pw_and1 pt_we
    | cons w r => exact pw_of pt_we
  refine wt_of (pw_and pt_we hz).pt (ha _ _ _ _ _ _ _ _ S V w fun k cs1 F1 H1 h1 x1 S1 q1 => ?_)
  cases k with
  | true =>
    rw [if_pos rfl] at q1 ⊢
    exact hc _ _ _ _ _ _ _ _ S1 (V.step x1) q1 (p.lift x1)
  | false =>
    rw [if_neg Bool.false_ne_true] at q1 ⊢
    exact p _ _ _ _ _ x1 S1 q1
theorem s_orT {a c : E} {y z : Expr} {rest : List Expr} {pos : Pos} (ha : ST C Cl X a y) (hc : ST C Cl X c (tail2 .Or z pos rest)) : ST C Cl X (.or a c) (.BoolOp .Or (y :: z :: rest) pos) := fun ρ h Q σ cs F H R S V w p => by
  simp only [WpT] at w
  have hz : PW X (.BoolOp .Or (z :: rest) pos) (WT X (tail2 .Or z pos rest)) := by
    cases rest with
    | nil => exact pw_or1 pt_we
    | cons w r => exact pw_of pt_we
  refine wt_of (pw_or pt_we hz).pt (ha _ _ _ _ _ _ _ _ S V w fun k cs1 F1 H1 h1 x1 S1 q1 => ?_)
  cases k with
  | false =>
    rw [if_neg Bool.false_ne_true] at q1 ⊢
    exact hc _ _ _ _ _ _ _ _ S1 (V.step x1) q1 (p.lift x1)
  | true =>
    rw [if_pos rfl] at q1 ⊢
    exact p _ _ _ _ _ x1 S1 q1
theorem s_truT {a : E} {l : Expr} (ha : SE C Cl X false a l) (hl : plainT l = true) : ST C Cl X (.tru a) l := fun ρ h Q σ cs F H R S V w p => by
  simp only [WpT] at w
  refine wt_of (pt_truth pe_we (plainT_ok hl _)) (ha _ _ _ _ _ _ _ _ S V w fun v1 d1 cs1 F1 H1 h1 x1 S1 r1 q1 => ?_)
  obtain ⟨k, e1, e2⟩ := truK_ok S1 r1 q1
  exact ⟨k, e1, p _ _ _ _ _ x1 S1 e2⟩
theorem s_ite {c a d : E} {t l r : Expr} {pos : Pos} (hc : ST C Cl X c t) (ha : SE C Cl X false a l) (hd : SE C Cl X false d r) : SE C Cl X b (.ite c a d) (.IfExp t l r pos) := fun ρ h Q σ cs F H R S V w p => by
  simp only [WpE] at w
  refine we_of (pe_ifExp pt_we pe_we pe_we) (hc _ _ _ _ _ _ _ _ S V w fun k cs1 F1 H1 h1 x1 S1 q1 => ?_)
  cases k with
  | true =>
    rw [if_pos rfl] at q1 ⊢
    exact ha _ _ _ _ _ _ _ _ S1 (V.step x1) q1 fun v2 d2 cs2 F2 H2 h2 x2 S2 r2 q2 => p _ _ _ _ _ _ (x1.trans x2) S2 (.inl r2.plain) q2
  | false =>
    rw [if_neg Bool.false_ne_true] at q1 ⊢
    exact hd _ _ _ _ _ _ _ _ S1 (V.step x1) q1 fun v2 d2 cs2 F2 H2 h2 x2 S2 r2 q2 => p _ _ _ _ _ _ (x1.trans x2) S2 (.inl r2.plain) q2
theorem s_tup {es : Es} {xs : List Expr} {k : Nat} {pos : Pos} (ha : SA C Cl X es xs) : SE C Cl X b (.tup es) (.Tuple xs k pos) := fun ρ h Q σ cs F H R S V w p => by
  simp only [WpE] at w
  refine we_of (pe_tup pa_we) (ha _ _ _ _ _ _ _ _ S V w fun vs ds cs1 F1 H1 h1 x1 S1 rs q1 => ?_)
  have rs := rs.plain
  exact ⟨by rw [rs.length]; exact q1.1, (p.lift x1).post.newT S1 rs q1.2⟩
theorem s_fz {n : Nw} {x : Expr} (hn : SN C Cl X n x) : SE C Cl X b (.fz n) x := fun ρ h Q σ cs F H R S V w p => by
  simp only [WpE] at w
  exact hn _ _ _ _ _ _ _ _ S V w (NOk.fz p)
theorem s_new {n : Nw} {x : Expr} (hn : SN C Cl X n x) : SE C Cl X b (.new n) x := fun ρ h Q σ cs F H R S V w p => by
  simp only [WpE] at w
  exact hn _ _ _ _ _ _ _ _ S V w (NOk.new p)
theorem s_sub {a i : E} {l r : Expr} {pos : Pos} (O : XOk C T Cl X) (ha : SE C Cl X true a l) (hi : SE C Cl X false i r) (hs : notSlice r = true) : SE C Cl X b (.sub a i) (.Subscript l r pos) := fun ρ h Q σ cs F H R S V w p => by
  simp only [WpE] at w
  refine we_of (pe_ix ixw_ok pe_we pe_we (plainIx_of hs)) (ha _ _ _ _ _ _ _ _ S V w fun v1 d1 cs1 F1 H1 h1 x1 S1 r1 q1 => ?_)
  refine hi _ _ _ _ _ _ _ _ S1 (V.step x1) q1 fun v2 d2 cs2 F2 H2 h2 x2 S2 r2 q2 => ?_
  exact subK_ok (by have := O.units; omega) S2 (r1.step x2) r2 q2 ((p.lift (x1.trans x2)).post)
theorem s_so {e : E} {x : Expr} (he : SE C Cl X false e x) : SO C Cl X (.so e) (some x) := fun ρ h Q σ cs F H R S V w p => by
  simp only [WpO] at w
  refine wo_of (po_some pe_we) (he _ _ _ _ _ _ _ _ S V w fun v1 d1 cs1 F1 H1 h1 x1 S1 r1 q1 => ?_)
  split at q1
  · cases r1.int
    exact ⟨_, rfl, p _ _ _ _ _ x1 S1 q1⟩
  · exact q1.elim
theorem s_no : SO C Cl X .no none := fun ρ h Q σ cs F H R S V w p => by
  simp only [WpO] at w
  exact wo_of po_none (p _ _ _ _ _ .refl S w)
theorem OOk.lift {Q : Option Int → AHeap → Prop} {R : Option Int → Hp → Prop} (p : OOk K Cl cs F H Q R) (x : Stp cs F H cs' F' H') : OOk K Cl cs' F' H' Q R :=
  fun k cs2 F2 H2 h2 y S q => p k cs2 F2 H2 h2 (x.trans y) S q
theorem AOk.lift {Q : List AV → AHeap → Prop} {R : List V → Hp → Prop} (p : AOk K Cl b cs F H Q R) (x : Stp cs F H cs' F' H') : AOk K Cl b cs' F' H' Q R :=
  fun v d cs2 F2 H2 h2 y S r q => p v d cs2 F2 H2 h2 (x.trans y) S r q
theorem s_slice {a : E} {lo hi : Oe} {l : Expr} {u v : Option Expr} {p2 pos : Pos} (ha : SE C Cl X false a l) (hl : SO C Cl X lo u) (hh : SO C Cl X hi v) : SE C Cl X b (.slice a lo hi) (.Subscript l (.Slice u v none p2) pos) := fun ρ h Q σ cs F H R S V w p => by
  simp only [WpE] at w
  refine we_of (pe_slice slw_ok pe_we po_we po_we) (ha _ _ _ _ _ _ _ _ S V w fun v1 d1 cs1 F1 H1 h1 x1 S1 r1 q1 => ?_)
  refine hl _ _ _ _ _ _ _ _ S1 (V.step x1) q1 fun k2 cs2 F2 H2 h2 x2 S2 q2 => ?_
  refine hh _ _ _ _ _ _ _ _ S2 ((V.step x1).step x2) q2 fun k3 cs3 F3 H3 h3 x3 S3 q3 => ?_
  exact sliceK_ok S3 ((r1.step x2).step x3) q3 ((p.lift ((x1.trans x2).trans x3)).post)
theorem s_nil : SA C Cl X .nil [] := fun ρ h Q σ cs F H R S V w p => by
  simp only [WpEs] at w
  exact wa_of pa_nil (p _ _ _ _ _ _ .refl S .nil w)
theorem s_cons {e : E} {es : Es} {x : Expr} {xs : List Expr} (he : SE C Cl X false e x) (hs : SA C Cl X es xs) (hx : notStar x = true) : SA C Cl X (.cons e es) (x :: xs) := fun ρ h Q σ cs F H R S V w p => by
  simp only [WpEs] at w
  refine wa_of (pa_cons pe_we pa_we (star_cons hx _ _)) (he _ _ _ _ _ _ _ _ S V w fun v1 d1 cs1 F1 H1 h1 x1 S1 r1 q1 => ?_)
  refine hs _ _ _ _ _ _ _ _ S1 (V.step x1) q1 fun v2 d2 cs2 F2 H2 h2 x2 S2 r2 q2 => ?_
  exact p _ _ _ _ _ _ (x1.trans x2) S2 (.cons (r1.step x2) r2) q2
theorem s_nilB : SB C Cl X .nil [] := fun ρ h Q σ cs F H R S V w p => by
  simp only [WpBs] at w
  exact wa_of pa_nil (p _ _ _ _ _ _ .refl S .nil w)
theorem s_consB {e : E} {es : Es} {x : Expr} {xs : List Expr} (he : SE C Cl X true e x) (hs : SB C Cl X es xs) (hx : notStar x = true) : SB C Cl X (.cons e es) (x :: xs) := fun ρ h Q σ cs F H R S V w p => by
  simp only [WpBs] at w
  refine wa_of (pa_cons pe_we pa_we (star_cons hx _ _)) (he _ _ _ _ _ _ _ _ S V w fun v1 d1 cs1 F1 H1 h1 x1 S1 r1 q1 => ?_)
  refine hs _ _ _ _ _ _ _ _ S1 (V.step x1) q1 fun v2 d2 cs2 F2 H2 h2 x2 S2 r2 q2 => ?_
  exact p _ _ _ _ _ _ (x1.trans x2) S2 (.cons (r1.step x2) r2) q2
theorem s_call {f : Nat} {es : Es} {id : Str} {p1 pos : Pos} {xs : List Expr} (O : XOk C T Cl X) (h0 : T.fname f = some id) (h1 : glB X.env.scope id = true) (h2 : plainName id = true) (hx : xs.all notStar = true) (hn : xs = [] → es = .nil) (ha : SA C Cl X es xs) :
    SE C Cl X b (.call f es) (.Call (.Name id p1) xs [] pos) := fun ρ h Q σ cs F H R S V w p => by
  simp only [WpE] at w
  obtain ⟨k, a, fd, ps, G, hr, hm, hk, hb⟩ := O.fn f id h0
  have key : WA X xs σ H fun vs H1 => spOf X.K Cl C f vs H1 R E0 := by
    refine ha _ _ _ _ _ _ _ _ S V w fun vs ds cs1 F1 H1 h1 x1 S1 rs q1 => ?_
    exact ⟨cs1, F1, h1, ds, Q, S1, rs.plain, q1, fun v d cs' F' H' h' y S' r q => p _ _ _ _ _ _ (x1.trans y) S' (.inl r) q⟩
  cases xs with
  | nil =>
    refine we_of (G.call0 O.gd hr (glB_ok h1) hm hk hb (plainName_ok h2).1) ?_
    show spOf X.K Cl C f [] H R E0
    cases es with
    | nil =>
      simp only [WpEs] at w
      exact ⟨cs, F, h, [], Q, S, .nil, w, fun v d cs' F' H' h' y S' r q => p _ _ _ _ _ _ y S' (.inl r) q⟩
    | cons e es => cases hn rfl
  | cons x xs =>
    rw [List.all_cons, Bool.and_eq_true] at hx
    exact we_of (G.call O.gd hr (glB_ok h1) hm hk hb pa_we (plainName_ok h2).1 (star_cons hx.1 _ _) (star_all hx.2 _ _)) key
theorem s_blt {bt : Blt} {es : Es} {id : Str} {p1 pos : Pos} {y : Expr} {xs : List Expr} (O : XOk C T Cl X) (h0 : id = bName bt) (h1 : glB X.env.scope id = true) (hx : (y :: xs).all notStar = true) (ha : SB C Cl X es (y :: xs)) :
    SE C Cl X b (.blt bt es) (.Call (.Name id p1) (y :: xs) [] pos) := fun ρ h Q σ cs F H R S V w p => by
  simp only [WpE] at w
  subst h0
  rw [List.all_cons, Bool.and_eq_true] at hx
  have hm := O.blt _ (bName_mem bt)
  obtain ⟨n1, n2, n3⟩ := plainName_ok (bName_plain bt)
  have hv := bName_boot bt
  have key : WA X (y :: xs) σ H fun vs H1 => CallW X (bVal bt) vs H1 R := by
    refine ha _ _ _ _ _ _ _ _ S V w fun vs ds cs1 F1 H1 h1 x1 S1 rs q1 => ?_
    exact bltK_ok O.calm O.gd (by have := O.units; omega) S1 rs q1 ((p.lift x1).post)
  have hg : Gl X (bName bt) := glB_ok h1
  revert hm hv key hg n1 n3
  generalize bName bt = nm
  generalize hbv : bVal bt = bv
  intro hm n1 n3 hv key hg
  cases bt <;> cases hbv <;> first
    | exact we_of (pe_callB callw_ok hg hm hv pa_we n3 n1 (star_cons hx.1 _ _) (star_all hx.2 _ _)) key
    | exact we_of (pe_callTy callw_ok hg hm hv pa_we n3 n1 (star_cons hx.1 _ _) (star_all hx.2 _ _)) key
end
end VL

set_option maxRecDepth 100000
set_option maxHeartbeats 2000000
/-! VL: isinstance, join, new lists, what is walked, comprehensions. -/
namespace VL
open PySem L2 Evl PyProof.Rows PySem.Spec

section
variable {C : Ctx} {T : Tab} {Cl : Nat → Addr} {X : Cx} {b : Bool} {K : PySem.W.Frag} {cs cs' cs'' : List Addr} {F F' F'' H H' H'' : Hp} {h : AHeap}
theorem tyx_l {a : Addr} {vs : List V} (q : SqL K H a vs) : TyX K H (.ref a) (.type "list") := by
  rcases q with (q | ⟨o, q⟩) | ⟨o, its, n, h1, h2, _⟩
  · exact .base (.lst q)
  · exact .base (.frz q)
  · exact .kList h1 h2
theorem tyx_t {a : Addr} {vs : List V} (q : SqT K H a vs) : TyX K H (.ref a) (.type "tuple") := by
  rcases q with (q | ⟨o, q⟩) | ⟨o, its, n, h1, h2, _⟩
  · exact .base (.tup q)
  · exact .fTuple q
  · exact .kTuple h1 h2
def tyNames : List String := ["int", "bool", "str", "list", "tuple"]
theorem ty_boot {t : String} (h : tyNames.contains t = true) : bootBuiltins (Str.ofString t) = some (.type t) ∧ Str.ofString t ∈ bltNames ∧ plainName (Str.ofString t) = true := by
  have h' : t ∈ tyNames := by simpa using h
  simp only [tyNames, List.mem_cons, List.not_mem_nil, or_false] at h'
  rcases h' with rfl | rfl | rfl | rfl | rfl <;> exact ⟨by decide +kernel, by decide +kernel, by decide +kernel⟩
theorem isiK_ok (S : StOk X.K Cl cs F H h) {x : V} {d : AV} (rx : RepB X.K cs F H b x d) {t : String} {Q : KA} {R : VK} (q : isiK d t h Q) (p : PostV X.K Cl cs F H h Q R) : rIsi X.K [x, .ty t] H R := by
  have fin : ∀ {tx : String} {k : Bool}, TyX X.K H x (.type tx) → kitB tx t = some k → Q (.bl k) → rIsi X.K [x, .ty t] H R := fun {tx k} h1 h2 q => ⟨x, .ty t, .type tx, .type t, k, rfl, .ty t, h1, kit_ty h2, p.bl S q⟩
  unfold isiK at q
  split at q
  · cases rx.non
    obtain ⟨e, q⟩ := q
    rcases e with rfl | rfl | rfl | rfl | rfl <;> exact fin (.base .non) (by decide +kernel) q
  · cases rx.bl
    rcases q with ⟨rfl, q⟩ | ⟨rfl, q⟩ | ⟨rfl | rfl | rfl, q⟩ <;> exact fin (.base (.bl _)) (by decide +kernel) q
  · cases rx.int
    rcases q with ⟨rfl, q⟩ | ⟨rfl | rfl | rfl | rfl, q⟩ <;> exact fin (.base (.int _)) (by decide +kernel) q
  · cases rx.str
    rcases q with ⟨rfl, q⟩ | ⟨rfl | rfl | rfl | rfl, q⟩ <;> exact fin (.base (.str _)) (by decide +kernel) q
  · rename_i xs
    have hx : ∃ a vs, x = .ref a ∧ SqT X.K H a vs := by
      rcases rx with r | ⟨_, _, _, _, _, ⟨_, _, e, _⟩ | ⟨_, _, e, _⟩⟩
      · cases r with
        | tup h1 r1 => exact ⟨_, _, rfl, ex_t S.sub h1⟩
      · cases e
      · cases e
    obtain ⟨a, vs, rfl, hq⟩ := hx
    rcases q with ⟨rfl, q⟩ | ⟨rfl | rfl | rfl | rfl, q⟩ <;> exact fin (tyx_t hq) (by decide +kernel) q
  · exact q.elim
  · split at q
    · rename_i xs hv
      obtain ⟨a, vs, rfl, hq, _⟩ := rx.view S hv
      rcases q with ⟨rfl, q⟩ | ⟨rfl | rfl | rfl | rfl, q⟩ <;> exact fin (tyx_l hq) (by decide +kernel) q
    · exact q.elim
theorem s_isi {a : E} {t : String} {id id2 : Str} {p1 p2 pos : Pos} {y : Expr} (O : XOk C T Cl X) (h0 : id = "isinstance") (h1 : glB X.env.scope id = true) (h2 : id2 = Str.ofString t) (h3 : glB X.env.scope id2 = true) (ht : tyNames.contains t = true) (hy : notStar y = true)
    (ha : SE C Cl X true a y) : SE C Cl X b (.isi a t) (.Call (.Name id p1) [y, .Name id2 p2] [] pos) := fun ρ h Q σ cs F H R S V w p => by
  simp only [WpE] at w
  subst h0 h2
  obtain ⟨e1, e2, e3⟩ := ty_boot ht
  obtain ⟨n1, n2, n3⟩ := plainName_ok e3
  have pt : PE X (.Name (Str.ofString t) p2) (tC (.ty t)) := pe_bltn (glB_ok h3) (O.blt _ e2) e1 rfl n3 n1
  refine we_of (pe_callB call_isi (glB_ok h1) (O.blt _ (by decide +kernel)) (by decide +kernel) (pa_cons pe_we (pa_cons pt pa_nil) (star_cons hy _ _)) (by decide +kernel) (by decide +kernel) (star_cons hy _ _)) ?_
  refine ha _ _ _ _ _ _ _ _ S V w fun v1 d1 cs1 F1 H1 h1 x1 S1 r1 q1 => ?_
  exact isiK_ok S1 r1 q1 ((p.lift x1).post)
theorem s_smt {m : Sm} {o a : E} {nm : Str} {y z : Expr} {apos cpos : Pos} (hm : (match m with | .join => decide (nm = "join")) = true) (ho : SE C Cl X false o y) (ha : SE C Cl X true a z) (hz : notStar z = true) (hy : notSup y = true) (hl : (apos.endLine == cpos.line) = true) :
    SE C Cl X b (.smt m o a) (.Call (.Attribute y nm apos) [z] [] cpos) := fun ρ h Q σ cs F H R S V w p => by
  simp only [WpE] at w
  cases m with
  | join =>
    have hm : nm = "join" := of_decide_eq_true hm
    subst hm
    refine we_of (pe_join pe_we pe_we (star_cons hz _ _) (base_of hy _ _) hl) ?_
    refine ho _ _ _ _ _ _ _ _ S V w fun v1 d1 cs1 F1 H1 h1 x1 S1 r1 q1 => ?_
    split at q1
    · cases r1.str
      refine ⟨⟨_, rfl⟩, ha _ _ _ _ _ _ _ _ S1 (V.step x1) q1 fun v2 d2 cs2 F2 H2 h2 x2 S2 r2 q2 => ?_⟩
      unfold smtK at q2
      simp only at q2
      split at q2
      · rename_i ys hv
        obtain ⟨xs, hv, hn⟩ := Option.bind_eq_some_iff.mp hv
        obtain ⟨a, vs, rfl, hq, r⟩ := r2.viewT S2 hv
        rw [r.strs hn] at hq
        exact ⟨_, a, ys, rfl, rfl, hq, q2.1, (p.lift (x1.trans x2)).post.str S2 q2.2⟩
      · exact q2.elim
    · exact q1.elim

/-! ### objects of own classes -/
theorem Rep.adr_inv {K : PySem.W.Frag} {cs : List Addr} {F : Hp} {v : V} {n : Nat} (r : Rep K cs F v (.adr n)) : ∃ a, v = .ref a ∧ cs[n]? = some a := by
  cases r with
  | adr e => exact ⟨_, rfl, e⟩
theorem obj_at (S : StOk K Cl cs F H h) {n c : Nat} {a : Addr} {fs : List (Str × AV)} (e : cs[n]? = some a) (hc : cells h n = .obj c fs) : ∃ dx fvs, H a = some (.ins (Cl c) dx fvs) ∧ RepF K cs F fvs fs := by
  have := S.cell n a e
  rw [hc] at this
  exact this
theorem s_attr {a : E} {f : Str} {y : Expr} {pos : Pos} (O : XOk C T Cl X) (ha : SE C Cl X false a y) (hy : notSup y = true) : SE C Cl X b (.attr a f) (.Attribute y f pos) := fun ρ h Q σ cs F H R S V w p => by
  simp only [WpE] at w
  refine we_of (pe_fld pe_we (base_of hy _ _)) (ha _ _ _ _ _ _ _ _ S V w fun v1 d1 cs1 F1 H1 h1 x1 S1 r1 q1 => ?_)
  split at q1
  · rename_i n
    split at q1
    · rename_i c fs hc
      obtain ⟨hf, q1⟩ := q1
      split at q1
      · rename_i d hd
        obtain ⟨a, rfl, e⟩ := Rep.adr_inv r1.plain
        obtain ⟨dx, fvs, e2, r⟩ := obj_at S1 e hc
        obtain ⟨v, hv, rv⟩ := r.get hd
        exact ⟨a, Cl c, dx, fvs, v, rfl, e2, (O.fld c f hf).1, (O.fld c f hf).2, hv, p _ _ _ _ _ _ x1 S1 (.inl rv) q1⟩
      · exact q1.elim
    · exact q1.elim
  · exact q1.elim
theorem few_form {xs : List Expr} (hx : xs.all notStar = true) (hn : xs.length < 30) (pos : Pos) (env : PySem.Env) : methodCallForm xs.length (backTo pos (starEach xs env)) [] = true := by
  have := star_all hx pos env
  unfold methodCallForm
  rw [List.any_eq_false] at this
  have e : (backTo pos (starEach xs env)).all (fun x => !x.1) = true := by
    rw [List.all_eq_true]
    intro x hx
    have := this x hx
    simpa using this
  simp [e, hn]
theorem s_mcall {o : E} {m : Str} {es : Es} {y : Expr} {apos cpos : Pos} {xs : List Expr} (O : XOk C T Cl X) (ho : SE C Cl X false o y) (hy : notSup y = true) (hl : (apos.endLine == cpos.line) = true) (hx : xs.all notStar = true) (hn : xs.length < 30) (hnil : xs = [] → es = .nil) (ha : SA C Cl X es xs) :
    SE C Cl X b (.mcall o m es) (.Call (.Attribute y m apos) xs [] cpos) := fun ρ h Q σ cs F H R S V w p => by
  simp only [WpE] at w
  have key : ∀ v1 d1 cs1 F1 H1 h1, Stp cs F H cs1 F1 H1 → StOk X.K Cl cs1 F1 H1 h1 → RepB X.K cs1 F1 H1 false v1 d1 → (match d1 with
      | .adr n => match cells h1 n with
        | .obj c fs => match fs.lookup m with
          | some _ => False
          | none => match C.meth c m with
            | some f => WpEs C es ρ h1 fun xs h2 => C.call f (d1 :: xs) h2 Q
            | none => False
        | _ => False
      | _ => False) → ∃ a CC dx fs sp, v1 = .ref a ∧ H1 a = some (.ins CC dx fs) ∧ fs.lookup m = none ∧ MethAt X CC m sp ∧ WA X xs σ H1 fun vs H2 => sp (v1 :: vs) H2 R E0 := by
    intro v1 d1 cs1 F1 H1 h1 x1 S1 r1 q1
    split at q1
    · rename_i n
      split at q1
      · rename_i c fs hc
        split at q1
        · exact q1.elim
        · rename_i hlk
          split at q1
          · rename_i f hf
            obtain ⟨a, rfl, e⟩ := Rep.adr_inv r1.plain
            obtain ⟨dx, fvs, e2, r⟩ := obj_at S1 e hc
            obtain ⟨k, g, fd, ps, G, room, hc1, hm, hb⟩ := O.mth c m f hf
            refine ⟨a, Cl c, dx, fvs, spOf X.K Cl C f, rfl, e2, r.none hlk, ⟨k, g, fd, ps, hc1, hm, G, room, hb⟩, ?_⟩
            refine ha _ _ _ _ _ _ _ _ S1 (V.step x1) q1 fun vs ds cs2 F2 H2 h2 x2 S2 rs q2 => ?_
            exact ⟨cs2, F2, h2, .adr n :: ds, Q, S2, .cons (r1.plain.mono x2.f x2.c) rs.plain, q2, fun v d cs' F' H' h' y S' r q => p _ _ _ _ _ _ ((x1.trans x2).trans y) S' (.inl r) q⟩
          · exact q1.elim
      · exact q1.elim
    · exact q1.elim
  cases xs with
  | nil =>
    have := hnil rfl
    subst this
    refine we_of (pe_methG0 pe_we (base_of hy _ _) hl O.gd) (ho _ _ _ _ _ _ _ _ S V w fun v1 d1 cs1 F1 H1 h1 x1 S1 r1 q1 => ?_)
    obtain ⟨a, CC, dx, fs, sp, e1, e2, e3, e4, _⟩ := key v1 d1 cs1 F1 H1 h1 x1 S1 r1 q1
    subst e1
    split at q1
    · rename_i n
      split at q1
      · rename_i c fs' hc
        split at q1
        · exact q1.elim
        · rename_i hlk
          split at q1
          · rename_i f hf
            obtain ⟨a', ea, e⟩ := Rep.adr_inv r1.plain
            cases ea
            obtain ⟨dx', fvs, e2', r⟩ := obj_at S1 e hc
            obtain ⟨k, g, fd, ps, G, room, hc1, hm, hb⟩ := O.mth c m f hf
            simp only [WpEs] at q1
            exact ⟨a, Cl c, dx', fvs, spOf X.K Cl C f, rfl, e2', r.none hlk, ⟨k, g, fd, ps, hc1, hm, G, room, hb⟩, cs1, F1, h1, [.adr n], Q, S1, .cons r1.plain .nil, q1, fun v d cs' F' H' h' y S' r q => p _ _ _ _ _ _ (x1.trans y) S' (.inl r) q⟩
          · exact q1.elim
      · exact q1.elim
    · exact q1.elim
  | cons x xs =>
    have hx2 := hx
    rw [List.all_cons, Bool.and_eq_true] at hx2
    refine we_of (pe_methG pe_we (base_of hy _ _) hl (few_form hx hn _ _) O.gd pa_we (star_cons hx2.1 _ _) (star_all hx2.2 _ _)) (ho _ _ _ _ _ _ _ _ S V w fun v1 d1 cs1 F1 H1 h1 x1 S1 r1 q1 => ?_)
    exact key v1 d1 cs1 F1 H1 h1 x1 S1 r1 q1
theorem s_make {c : Nat} {es : Es} {id : Str} {p1 pos : Pos} {x : Expr} {xs : List Expr} (O : XOk C T Cl X) (h0 : T.cname c = some id) (h1 : glB X.env.scope id = true) (h2 : plainName id = true) (hx : (x :: xs).all notStar = true) (ha : SA C Cl X es (x :: xs)) :
    SE C Cl X b (.make c es) (.Call (.Name id p1) (x :: xs) [] pos) := fun ρ h Q σ cs F H R S V w p => by
  simp only [WpE] at w
  obtain ⟨f, k, g, fd, ps, hi, G, room, hm, M, hb⟩ := O.cls c id h0
  rw [List.all_cons, Bool.and_eq_true] at hx
  refine we_of (G.make M O.gd room (glB_ok h1) hm hb pa_we (plainName_ok h2).1 (star_cons hx.1 _ _) (star_all hx.2 _ _)) (ha _ _ _ _ _ _ _ _ S V w fun vs ds cs1 F1 H1 h1' x1 S1 rs q1 => ?_)
  rw [hi] at q1
  intro a dx na nd ne
  have ne2 : a ≠ dx := fun z => ne z.symm
  have hF : F1 a = none := by
    cases q : F1 a with
    | none => rfl
    | some u => rw [S1.sub _ _ q] at na; cases na
  have hc : a ∉ cs1 := fun z => by
    obtain ⟨n, hn⟩ := List.mem_iff_getElem?.mp z
    exact (S1.cell n a hn).some na
  have na2 : upd H1 dx (.own a) a = none := by rw [upd_ne ne2]; exact na
  have S2 := (S1.newN (o := .own a) nd).newN (o := .ins (Cl c) dx []) na2
  have y1 : Stp cs1 F1 H1 cs1 F1 (upd (upd H1 dx (.own a)) a (.ins (Cl c) dx [])) := (Stp.newN nd).trans (Stp.newN na2)
  have S3 := S2.cellNew (c := .obj c []) hF hc ⟨dx, [], upd_same, .nil⟩
  have y2 : Stp cs1 F1 H1 (cs1 ++ [a]) F1 (upd (upd H1 dx (.own a)) a (.ins (Cl c) dx [])) := by
    refine ⟨y1.f, ⟨[a], rfl⟩, y1.k, y1.d, y1.n, fun b q1 q2 => ?_⟩
    rw [List.mem_append] at q1
    rcases q1 with q1 | q1
    · exact absurd q1 q2
    · simp at q1; subst q1; exact na
  have ga : (cs1 ++ [a])[h1'.length]? = some a := by
    rw [← S1.len]
    simp
  refine ⟨cs1 ++ [a], F1, h1' ++ [.obj c []], .adr h1'.length :: ds, _, S3, .cons (.adr ga) (rs.plain.mono y2.f y2.c), q1, fun v d cs' F' H' h' y S' r q => ?_⟩
  split at q
  · cases r
    refine ⟨rfl, p _ _ _ _ _ _ ((x1.trans y2).trans y) S' (.inl (.adr ?_)) q⟩
    obtain ⟨r, e⟩ := y.c
    exact get_pre e ga
  · exact q.elim

/-! ### new lists -/
theorem NOk.made {Q : Cell → AHeap → Prop} {R : VK} (p : NOk K Cl cs F H Q R) (S : StOk K Cl cs F H h) {a : Addr} {o : HO} {c : Cell} (ha : H a = none) (r : COk K Cl cs F (upd H a o) a c) (q : Q c h) : R (.ref a) (upd H a o) := by
  have hF : F a = none := by
    cases w : F a with
    | none => rfl
    | some u => rw [S.sub _ _ w] at ha; cases ha
  have hc : a ∉ cs := fun z => by
    obtain ⟨n, hn⟩ := List.mem_iff_getElem?.mp z
    exact (S.cell n a hn).some ha
  exact p a c cs F _ h (.newN ha) (S.newN ha) ha hF hc r q
theorem n_lst {es : Es} {xs : List Expr} {pos : Pos} (ha : SA C Cl X es xs) : SN C Cl X (.lst es) (.List xs pos) := fun ρ h Q σ cs F H R S V w p => by
  simp only [WpN] at w
  refine we_of (pe_lst pa_we) (ha _ _ _ _ _ _ _ _ S V w fun vs ds cs1 F1 H1 h1 x1 S1 rs q1 => ?_)
  have rs := rs.plain
  exact ⟨by rw [rs.length]; exact q1.1, fun a ha => (p.lift x1).made S1 ha (show COk X.K Cl cs1 F1 _ a (.lst ds) from ⟨vs, upd_same, rs⟩) q1.2⟩
theorem n_slice {a : E} {lo hi : Oe} {l : Expr} {u v : Option Expr} {p2 pos : Pos} (ha : SE C Cl X true a l) (hl : SO C Cl X lo u) (hh : SO C Cl X hi v) : SN C Cl X (.slice a lo hi) (.Subscript l (.Slice u v none p2) pos) := fun ρ h Q σ cs F H R S V w p => by
  simp only [WpN] at w
  refine we_of (pe_slice sl_list pe_we po_we po_we) (ha _ _ _ _ _ _ _ _ S V w fun v1 d1 cs1 F1 H1 h1 x1 S1 r1 q1 => ?_)
  refine hl _ _ _ _ _ _ _ _ S1 (V.step x1) q1 fun k2 cs2 F2 H2 h2 x2 S2 q2 => ?_
  refine hh _ _ _ _ _ _ _ _ S2 ((V.step x1).step x2) q2 fun k3 cs3 F3 H3 h3 x3 S3 q3 => ?_
  split at q3
  · rename_i xs hv
    obtain ⟨a, vs, rfl, hq, r⟩ := ((r1.step x2).step x3).view S3 hv
    exact ⟨a, vs, rfl, hq, fun a ha => (p.lift ((x1.trans x2).trans x3)).made S3 ha (show COk X.K Cl cs3 F3 _ a (.lst (cut xs k2 k3)) from ⟨_, upd_same, r.cut k2 k3⟩) q3⟩
  · exact q3.elim
theorem n_list {a : E} {id : Str} {p1 pos : Pos} {y : Expr} (O : XOk C T Cl X) (h0 : id = "list") (h1 : glB X.env.scope id = true) (hy : notStar y = true) (ha : SE C Cl X true a y) : SN C Cl X (.listOf a) (.Call (.Name id p1) [y] [] pos) := fun ρ h Q σ cs F H R S V w p => by
  simp only [WpN] at w
  subst h0
  refine we_of (pe_callTy call_list_of (glB_ok h1) (O.blt _ (by decide +kernel)) (by decide +kernel) (pa_cons pe_we pa_nil (star_cons hy _ _)) (by decide +kernel) (by decide +kernel) (star_cons hy _ _)) ?_
  refine ha _ _ _ _ _ _ _ _ S V w fun v1 d1 cs1 F1 H1 h1 x1 S1 r1 q1 => ?_
  split at q1
  · rename_i xs hv
    obtain ⟨a, vs, rfl, hq, r⟩ := r1.viewT S1 hv
    exact ⟨a, vs, rfl, hq, fun a ha => (p.lift x1).made S1 ha (show COk X.K Cl cs1 F1 _ a (.lst xs) from ⟨_, upd_same, r⟩) q1⟩
  · exact q1.elim
theorem n_cat {a c : E} {l r : Expr} {pos : Pos} (ha : SE C Cl X true a l) (hc : SE C Cl X true c r) : SN C Cl X (.cat a c) (.BinOp l .Add r pos) := fun ρ h Q σ cs F H R S V w p => by
  simp only [WpN] at w
  refine we_of (pe_op op_cat pe_we pe_we) (ha _ _ _ _ _ _ _ _ S V w fun v1 d1 cs1 F1 H1 h1 x1 S1 r1 q1 => ?_)
  refine hc _ _ _ _ _ _ _ _ S1 (V.step x1) q1 fun v2 d2 cs2 F2 H2 h2 x2 S2 r2 q2 => ?_
  split at q2
  · rename_i xs ys hx hy
    obtain ⟨a1, vs, rfl, e1, t1⟩ := (r1.step x2).viewW S2 hx
    obtain ⟨a2, ws, rfl, e2, t2⟩ := r2.viewW S2 hy
    exact ⟨a1, a2, vs, ws, rfl, rfl, e1, e2, by rw [t1.length, t2.length]; exact q2.1, fun a ha => (p.lift (x1.trans x2)).made S2 ha (show COk X.K Cl cs2 F2 _ a (.lst (xs ++ ys)) from ⟨_, upd_same, t1.append t2⟩) q2.2⟩
  · exact q2.elim

theorem Reps.rep {vs : List V} {ds : List AV} (r : Reps K cs F vs ds) : ∀ n : Nat, Reps K cs F (List.replicate n vs).flatten (List.replicate n ds).flatten
  | 0 => .nil
  | n + 1 => by rw [List.replicate_succ, List.replicate_succ, List.flatten_cons, List.flatten_cons]; exact r.append (Reps.rep r n)
theorem n_rep {a c : E} {l r : Expr} {pos : Pos} (ha : SE C Cl X true a l) (hc : SE C Cl X false c r) : SN C Cl X (.rep a c) (.BinOp l .Mult r pos) := fun ρ h Q σ cs F H R S V w p => by
  simp only [WpN] at w
  refine we_of (pe_op op_rep pe_we pe_we) (ha _ _ _ _ _ _ _ _ S V w fun v1 d1 cs1 F1 H1 h1 x1 S1 r1 q1 => ?_)
  refine hc _ _ _ _ _ _ _ _ S1 (V.step x1) q1 fun v2 d2 cs2 F2 H2 h2 x2 S2 r2 q2 => ?_
  split at q2
  · rename_i xs k hx
    obtain ⟨a1, vs, rfl, e1, t1⟩ := (r1.step x2).viewW S2 hx
    have r2 := r2.plain
    cases r2
    exact ⟨a1, k, vs, rfl, rfl, e1, q2.1.1, q2.1.2, by rw [t1.length]; exact q2.2.1, fun a ha => (p.lift (x1.trans x2)).made S2 ha (show COk X.K Cl cs2 F2 _ a (.lst (List.replicate k.toNat xs).flatten) from ⟨_, upd_same, t1.rep k.toNat⟩) q2.2.2⟩
  · exact q2.elim

theorem Stp.chgNew {p : Addr} {o : HO} (x : Stp cs F H cs' F' H') (hp : H p = none) : Stp cs F H cs' F' (upd H' p o) := by
  refine ⟨x.f, x.c, fun b u q n => ?_, fun b q => ?_, x.n, x.m⟩
  · rw [upd_ne fun z => by subst z; rw [hp] at q; cases q]
    exact x.k b u q n
  · by_cases hb : b = p
    · subst hb; rw [upd_same]; simp
    · rw [upd_ne hb]; exact x.d b q
theorem keyOf_rep {d : AV} {v : V} {k : Key} (e : keyOf d = some k) (r : RepB K cs F H false v d) : v = kV k := by
  have r := r.plain
  cases d <;> simp only [keyOf] at e <;> cases e <;> cases r <;> rfl
theorem n_dct1 {k v : E} {x y : Expr} {pos : Pos} (hk : SE C Cl X false k x) (hv : SE C Cl X false v y) : SN C Cl X (.dct1 k v) (.Dict [some x] [y] pos) := fun ρ h Q σ cs F H R S V w p => by
  simp only [WpN] at w
  refine we_of (pe_disp (pps_cons pe_we pe_we pps_nil) rfl rfl (by simp) (by simp)) ?_
  intro a na
  have S1 := S.newN (o := .dK []) na
  have x0 : Stp cs F H cs F (upd H a (.dK [])) := Stp.newN na
  refine hk _ _ _ _ _ _ _ _ S1 (V.step x0) w fun v1 d1 cs1 F1 H1 h1 x1 S2 r1 q1 => ?_
  refine hv _ _ _ _ _ _ _ _ S2 ((V.step x0).step x1) q1 fun v2 d2 cs2 F2 H2 h2 x2 S3 r2 q2 => ?_
  split at q2
  · rename_i key e
    have x12 := x1.trans x2
    have here : upd H a (.dK []) a = some (.dK []) := upd_same
    have hc : a ∉ cs := fun z => by
      obtain ⟨n, hn⟩ := List.mem_iff_getElem?.mp z
      exact (S.cell n a hn).some na
    have hF : F a = none := by
      cases q : F a with
      | none => rfl
      | some u => rw [S.sub _ _ q] at na; cases na
    have e2 : H2 a = some (.dK []) := x12.k a _ here hc
    have hF2 : F2 a = none := by
      cases q : F2 a with
      | none => rfl
      | some u =>
        have := x12.n a hF (by rw [q]; simp)
        rw [here] at this; cases this
    have hn2 : a ∉ cs2 := fun z => by
      have := x12.m a z hc
      rw [here] at this; cases this
    refine ⟨e2, [(key, v2)], ?_, by simp, ?_⟩
    · rw [keyOf_rep e r1]; rfl
    · exact p a (.dct [(key, d2)]) cs2 F2 _ h2 ((x0.trans x12).chgNew na) (S3.chgN hF2 hn2) na hF2 hn2 ⟨_, upd_same, .cons r2.plain .nil⟩ q2
  · exact q2.elim
theorem n_rev {a : E} {l : Expr} {k : Nat} {p1 p2 p3 pos : Pos} (ha : SE C Cl X true a l) : SN C Cl X (.rev a) (.Subscript l (.Slice none none (some (.UnaryOp .USub (.Constant (.int 1) k p1) p2)) p3) pos) := fun ρ h Q σ cs F H R S V w p => by
  simp only [WpN] at w
  refine we_of (pe_revL pe_we) (ha _ _ _ _ _ _ _ _ S V w fun v1 d1 cs1 F1 H1 h1 x1 S1 r1 q1 => ?_)
  split at q1
  · rename_i xs hv
    obtain ⟨a, vs, rfl, hq, r⟩ := r1.view S1 hv
    exact ⟨a, vs, rfl, hq, fun a ha => (p.lift x1).made S1 ha (show COk X.K Cl cs1 F1 _ a (.lst xs.reverse) from ⟨_, upd_same, r.rev⟩) q1⟩
  · exact q1.elim

/-! ### what is walked -/
/-- from where the walk began: st, also through what the frame owns -/
def Rl (st : Bool) (cs : List Addr) (F H : Hp) (cs' : List Addr) (F' H' : Hp) : Prop := match st with
  | true => Stp cs F H cs' F' H'
  | false => Ex F F' ∧ ∃ r, cs' = cs ++ r
theorem Rl.of {st : Bool} (x : Stp cs F H cs' F' H') : Rl st cs F H cs' F' H' := by
  cases st with
  | true => exact x
  | false => exact ⟨x.f, x.c⟩
def IOk (K : PySem.W.Frag) (Cl : Nat → Addr) (st : Bool) (cs : List Addr) (F H : Hp) (Q : List AV → (AHeap → Prop) → AHeap → Prop) (R : L2.It → Hp → Prop) : Prop :=
  ∀ J items chk G Y cs' F' H' h', Stp cs F H cs' F' H' → StOk K Cl cs' F' H' h' → L2.Walk J items.length G Y →
    (∀ cs2 F2 H2 h2, Rl st cs' F' H' cs2 F2 H2 → StOk K Cl cs2 F2 H2 h2 → chk h2 → G H2) →
    (∀ i H2 v H3 cs2 F2 h2 d, StOk K Cl cs2 F2 H2 h2 → Ex F' F2 → (∃ r, cs2 = cs' ++ r) → items[i]? = some d → chk h2 → Y i H2 v H3 → ∃ F3, Stp cs2 F2 H2 cs2 F3 H3 ∧ StOk K Cl cs2 F3 H3 h2 ∧ Rep K cs2 F3 v d) →
    Q items chk h' → R J H'
def WI (X : Cx) (tg iter : Expr) : TI := fun σ H R => ∀ pins s, Inv X pins σ H s → wpAny (model X.prog X.w) X.A (eval iter X.env) (fun v s1 => wpAny (model X.prog X.w) X.A (pyIter v) (PIE X pins σ tg R) X.xe s1) X.xe s
theorem pi_we {tg iter : Expr} : PI X tg iter (WI X tg iter) := ⟨fun pins s σ H R I h => h pins s I⟩
theorem wi_of {tg iter : Expr} {t : TI} (p : PI X tg iter t) {σ : L2.St} {H : Hp} {R : L2.It → Hp → Prop} (h : t σ H R) : WI X tg iter σ H R := fun pins s I => p.run pins s σ H R I h
def SI (C : Ctx) (Cl : Nat → Addr) (X : Cx) (st : Bool) (tg : Expr) (e : It) (x : Expr) : Prop := ∀ ρ h Q σ cs F H (R : L2.It → Hp → Prop), StOk X.K Cl cs F H h → EnvOk X.K Cl cs F H σ ρ → WpI C e ρ h Q → IOk X.K Cl st cs F H Q R → WI X tg x σ H R
theorem i_rng1 {st : Bool} {tg : Expr} {a : E} {id : Str} {p1 pos : Pos} {y : Expr} (O : XOk C T Cl X) (h0 : id = "range") (h1 : glB X.env.scope id = true) (hy : notStar y = true) (ha : SE C Cl X false a y) : SI C Cl X st tg (.rng1 a) (.Call (.Name id p1) [y] [] pos) := fun ρ h Q σ cs F H R S V w p => by
  simp only [WpI] at w
  subst h0
  refine wi_of (pi_range1 (glB_ok h1) (O.blt _ (by decide +kernel)) (pa_cons pe_we pa_nil (star_cons hy _ _)) (star_cons hy _ _)) ?_
  refine ha _ _ _ _ _ _ _ _ S V w fun v1 d1 cs1 F1 H1 h1 x1 S1 r1 q1 => ?_
  split at q1
  · rename_i n
    cases r1.int
    refine ⟨n, rfl, q1.1.1, q1.1.2, p _ _ _ (fun _ => True) (YFn fun i => .int (0 + i)) _ _ _ _ x1 S1 (by rw [List.length_map, List.length_range]; exact walk_range) (fun _ _ _ _ _ _ _ => trivial) ?_ q1.2⟩
    intro i H2 v H3 cs2 F2 h2 d S e c hd _ ⟨y1, y2⟩
    subst y1 y2
    rw [List.getElem?_map] at hd
    obtain ⟨j, hj, rfl⟩ := Option.map_eq_some_iff.mp hd
    have hj' := (List.getElem?_eq_some_iff.mp hj).2
    simp at hj'
    subst hj'
    refine ⟨F2, .refl, S, ?_⟩
    show Rep X.K cs2 F2 (.int (0 + (i : Int))) (.int (i : Int))
    rw [Int.zero_add]
    exact .int _
  · exact q1.elim
theorem i_rng2 {st : Bool} {tg : Expr} {a c : E} {id : Str} {p1 pos : Pos} {y z : Expr} (O : XOk C T Cl X) (h0 : id = "range") (h1 : glB X.env.scope id = true) (hy : notStar y = true) (hz : notStar z = true) (ha : SE C Cl X false a y) (hc : SE C Cl X false c z) :
    SI C Cl X st tg (.rng2 a c) (.Call (.Name id p1) [y, z] [] pos) := fun ρ h Q σ cs F H R S V w p => by
  simp only [WpI] at w
  subst h0
  refine wi_of (pi_range2 (glB_ok h1) (O.blt _ (by decide +kernel)) (pa_cons pe_we (pa_cons pe_we pa_nil (star_cons hz _ _)) (star_cons hy _ _)) (by rw [star_cons hy, star_cons hz]; rfl) (star_cons hz _ _)) ?_
  refine ha _ _ _ _ _ _ _ _ S V w fun v1 d1 cs1 F1 H1 h1 x1 S1 r1 q1 => ?_
  refine hc _ _ _ _ _ _ _ _ S1 (V.step x1) q1 fun v2 d2 cs2 F2 H2 h2 x2 S2 r2 q2 => ?_
  split at q2
  · rename_i i0 n
    cases r1.int
    cases r2.int
    refine ⟨i0, n, rfl, q2.1, p _ _ _ (fun _ => True) (YFn fun i => .int (i0 + i)) _ _ _ _ (x1.trans x2) S2 (by simpa using walk_range) (fun _ _ _ _ _ _ _ => trivial) ?_ q2.2⟩
    intro i H2 v H3 cs2 F2 h2 d S e c hd _ ⟨y1, y2⟩
    subst y1 y2
    rw [List.getElem?_map] at hd
    obtain ⟨j, hj, rfl⟩ := Option.map_eq_some_iff.mp hd
    have hj' := (List.getElem?_eq_some_iff.mp hj).2
    simp at hj'
    subst hj'
    exact ⟨F2, .refl, S, .int _⟩
  · exact q2.elim
theorem i_chars {st : Bool} {tg : Expr} {a : E} {x : Expr} (ha : SE C Cl X false a x) : SI C Cl X st tg (.chars a) x := fun ρ h Q σ cs F H R S V w p => by
  simp only [WpI] at w
  refine wi_of (pi_str pe_we) (ha _ _ _ _ _ _ _ _ S V w fun v1 d1 cs1 F1 H1 h1 x1 S1 r1 q1 => ?_)
  split at q1
  · rename_i z
    cases r1.str
    refine ⟨z, rfl, p _ _ _ (fun _ => True) _ _ _ _ _ x1 S1 (by simpa using walk_str) (fun _ _ _ _ _ _ _ => trivial) ?_ q1⟩
    intro i H2 v H3 cs2 F2 h2 d S e c hd _ ⟨y1, cc, y2, y3⟩
    subst y1 y3
    rw [List.getElem?_map] at hd
    obtain ⟨j, hj, rfl⟩ := Option.map_eq_some_iff.mp hd
    have : z.cps[i]? = some j := by simpa using hj
    rw [y2] at this
    cases this
    exact ⟨F2, .refl, S, .str _⟩
  · exact q1.elim
theorem WpI_seq_vw {i : Nat} {ρ : Env} {h : AHeap} {Q} (w : WpI C (.seq (.vw i)) ρ h Q) : False := by
  simp only [WpI, WpE] at w
/-- a list or a tuple: which of the two shows where it is walked -/
theorem pi_seq {tg iter : Expr} {te : TE} (he : PE X iter te) : PI X tg iter (fun σ H R => te σ H fun x H1 => ∃ a, x = .ref a ∧ (((∃ xs, SqL X.K H1 a xs) ∧ R (Itl X.K a) H1) ∨ ((∃ xs, SqT X.K H1 a xs) ∧ R (Itt X.K a) H1))) := by
  refine ⟨fun pins s σ H R I h => ?_⟩
  refine thn (he.run pins s σ H _ I h) fun v s1 ⟨x, H1, I1, r1, a, e, q⟩ => ?_
  subst e
  rcases q with ⟨⟨xs, hq⟩, q⟩ | ⟨⟨xs, hq⟩, q⟩
  · obtain ⟨its, rv, pl, hz⟩ := I1.list hq
    cases r1
    have fresh : H1 s1.heap.objs.size = none := I1.hok.fresh (Nat.le_refl _)
    refine wpAny_pyIter_list pl.isList ⟨s1.heap.objs.size, [s1.heap.objs.size], _, Itl X.K a, H1, rfl, ?_, turn_list a _, ?_, ?_, q⟩
    · exact I1.kept (t' := s1.toks) fun _ _ z => Heap.get?_push_of_some _ z
    · exact ⟨_, Heap.get?_push_size _ rfl, rfl, rfl⟩
    · intro c hc
      obtain rfl : c = s1.heap.objs.size := by simpa using hc
      exact I1.fpOk (Nat.le_refl _) fresh
  · obtain ⟨its, rv, pl, hz⟩ := I1.tuple hq
    cases r1
    have fresh : H1 s1.heap.objs.size = none := I1.hok.fresh (Nat.le_refl _)
    refine wpAny_pyIter_tuple (show s1.heap.IsTuple a its.toArray from pl) ⟨s1.heap.objs.size, [s1.heap.objs.size], _, Itt X.K a, H1, rfl, ?_, turn_tuple a _, ?_, ?_, q⟩
    · exact I1.kept (t' := s1.toks) fun _ _ z => Heap.get?_push_of_some _ z
    · exact ⟨_, Heap.get?_push_size _ rfl, rfl, rfl⟩
    · intro c hc
      obtain rfl : c = s1.heap.objs.size := by simpa using hc
      exact I1.fpOk (Nat.le_refl _) fresh
theorem i_seq {st : Bool} {tg : Expr} {a : E} {x : Expr} (ha : SE C Cl X false a x) : SI C Cl X st tg (.seq a) x := fun ρ h Q σ cs F H R S V w p => by
  simp only [WpI] at w
  refine wi_of (pi_seq pe_we) (ha _ _ _ _ _ _ _ _ S V w fun v1 d1 cs1 F1 H1 h1 x1 S1 r1 q1 => ?_)
  split at q1
  · rename_i items hv
    have r1' := r1.plain
    rcases viewT_eq hv with e | hv'
    · subst e
      cases r1' with
      | tup g1 g2 =>
        rename_i a vs
        refine ⟨a, rfl, .inr ⟨⟨vs, ex_t S1.sub g1⟩, p _ items _ (fun H => SqT X.K H a vs) (YAt vs) _ _ _ _ x1 S1 (by rw [← g2.length]; exact walk_tup) (fun cs2 F2 H2 h2 rl S2 _ => ?_) ?_ q1⟩⟩
        · have mo : Ex F1 F2 := by
            cases st with
            | true => exact Stp.f rl
            | false => exact rl.1
          exact ex_t S2.sub (ex_t mo g1)
        · intro i H2 v H3 cs2 F2 h2 d S e c hd _ ⟨y1, y2⟩
          subst y1
          obtain ⟨v', e1, r2⟩ := g2.get hd
          rw [y2] at e1
          cases e1
          exact ⟨F2, .refl, S, r2.mono e c⟩
    · obtain ⟨a, vs, e, hq, r⟩ := r1.view S1 hv'
      have stay : ∀ cs2 F2 H2 h2, Ex F1 F2 → (∃ r, cs2 = cs1 ++ r) → StOk X.K Cl cs2 F2 H2 h2 → viewT h2 d1 = some items → ∃ vs2, SqL X.K H2 a vs2 ∧ Reps X.K cs2 F2 vs2 items := by
        intro cs2 F2 H2 h2 m1 m2 S2 hv2
        have r2 : RepB X.K cs2 F2 H2 false v1 d1 := .inl (r1'.mono m1 m2)
        have hv3 : view h2 d1 = some items := by
          rcases viewT_eq hv2 with z | z
          · subst z
            simp [VL.view] at hv'
          · exact z
        obtain ⟨a2, vs2, e2, hq2, rr⟩ := r2.view S2 hv3
        rw [e] at e2
        cases e2
        exact ⟨vs2, hq2, rr⟩
      refine ⟨a, e, .inl ⟨⟨vs, hq⟩, p (Itl X.K a) items _ (fun H => ∃ vs2, SqL X.K H a vs2 ∧ vs2.length = items.length) (fun i H v H' => H' = H ∧ ∀ vs2, SqL X.K H a vs2 → vs2[i]? = some v) _ _ _ _ x1 S1 ?_ (fun cs2 F2 H2 h2 rl S2 hc => ?_) ?_ q1⟩⟩
      · refine ⟨fun i H hi ⟨vs2, g1, g2⟩ => ⟨vs2, vs2[i], g1, by simp [hi, g2]⟩, fun H ⟨vs2, g1, g2⟩ => ⟨vs2, g1, Nat.le_of_eq g2⟩, fun i H v H' hi _ y => y⟩
      · have mo : Ex F1 F2 ∧ ∃ r, cs2 = cs1 ++ r := by
          cases st with
          | true => exact ⟨Stp.f rl, Stp.c rl⟩
          | false => exact rl
        obtain ⟨vs2, g1, g2⟩ := stay cs2 F2 H2 h2 mo.1 mo.2 S2 hc
        exact ⟨vs2, g1, g2.length⟩
      · intro i H2 v H3 cs2 F2 h2 d S2 e c hd hc ⟨y1, y2⟩
        subst y1
        obtain ⟨vs2, g1, g2⟩ := stay cs2 F2 H3 h2 e c S2 hc
        obtain ⟨v', e1, r2⟩ := g2.get hd
        rw [y2 vs2 g1] at e1
        cases e1
        exact ⟨F2, .refl, S2, r2⟩
  · exact q1.elim
theorem i_own {tg : Expr} {i : Nat} {x : Expr} (hag : agVar X.env.scope X.N i x = true) : SI C Cl X true tg (.own i) x := fun ρ h Q σ cs F H R S V w p => by
  unfold agVar at hag
  split at hag
  · rename_i id pos
    simp only [Bool.and_eq_true, decide_eq_true_eq] at hag
    obtain ⟨⟨h1, h2⟩, h3⟩ := hag
    obtain ⟨n1, n2, _⟩ := plainName_ok h3
    simp only [WpI] at w
    split at w
    · rename_i items hd
      obtain ⟨a, e1, e2, e3, vs, e4, r⟩ := V.own i _ hd
      refine wi_of (pi_list (pe_var h1 (visB_ok h2) n1 n2)) ⟨_, e1, a, rfl, ⟨vs, sq_of e4⟩, p _ items _ (fun H => SqL X.K H a vs) (YAt vs) _ _ _ _ .refl S (by rw [← r.length]; exact walk_list) (fun cs2 F2 H2 h2 rl S2 _ => ?_) ?_ w⟩
      · exact sq_of (Stp.k rl _ _ e4 e2)
      · intro j H2 v H3 cs2 F2 h2 d S2 e c hd _ ⟨y1, y2⟩
        subst y1
        obtain ⟨v', g1, r2⟩ := r.get hd
        rw [y2] at g1
        cases g1
        exact ⟨F2, .refl, S2, r2.mono e c⟩
    · exact w.elim
  · cases hag

/-! ### targets -/
def gNames : List Nat → TGs
  | [] => gNil
  | i :: is => gCons (gName i) (gNames is)
def gOf (K : PySem.W.Frag) : Tg → TG
  | .nm i => gName i
  | .tup is => gTup K is.length (gNames is)
/-- a name that may be stored to in this context -/
def Sto (sc0 : Scope) (X : Cx) : Prop := ∀ id, tgN sc0 X.env.scope id = true → Loc X.env.scope id ∧ (X.fn id = true ∨ X.env.scope.names.lookup id = some .local)
theorem pgs_names {sc0 : Scope} (nd : X.N.Nodup) (st : Sto sc0 X) : ∀ {is : List Nat} {es : List Expr}, agNames sc0 X.env.scope X.N is es = true → PGs X es (gNames is) ∧ (assignEach es X.env).length = is.length ∧ (assignEach es X.env).findIdx? (·.1) = none
  | [], [], _ => ⟨pgs_nil, rfl, rfl⟩
  | [], _ :: _, h => by simp [agNames] at h
  | i :: is, [], h => by simp [agNames] at h
  | i :: is, e :: es, h => by
    cases e <;> simp [agNames] at h
    rename_i id pos
    obtain ⟨⟨h1, h2⟩, h3⟩ := h
    obtain ⟨g1, g2, g3⟩ := pgs_names nd st h3
    obtain ⟨s1, s2⟩ := st id h2
    refine ⟨pgs_cons (pg_name nd h1 s1 s2) g1 rfl, ?_, ?_⟩
    · show (assignEach es X.env).length + 1 = is.length + 1
      rw [g2]
    · show ((false, assign (.Name id pos) X.env) :: assignEach es X.env).findIdx? (·.1) = none
      rw [List.findIdx?_cons, g3] <;> rfl
theorem pg_ok {sc0 : Scope} (nd : X.N.Nodup) (calm : X.calm = true) (st : Sto sc0 X) {tg : Tg} {x : Expr} (h : agTg sc0 X.env.scope X.N tg x = true) : PG X x (gOf X.K tg) := by
  cases tg with
  | nm i =>
    cases x <;> simp [agTg] at h
    obtain ⟨s1, s2⟩ := st _ h.2
    exact pg_name nd h.1 s1 s2
  | tup is =>
    cases x <;> simp [agTg] at h
    obtain ⟨g1, g2, g3⟩ := pgs_names nd st h
    exact pg_tup calm g1 g2 g3
theorem sets_ok {ρ' : Env} : ∀ {is : List Nat} {xs : List AV} {vs : List V} {σ : L2.St} {ρ : Env} {R : L2.St → Hp → Prop}, EnvOk K Cl cs F H σ ρ → Reps K cs F vs xs → setsS ρ is xs = some ρ' →
    (∀ σ', EnvOk K Cl cs F H σ' ρ' → (∀ own : List Nat, (∀ i ∈ is, i ∈ own) → wipe σ' own = wipe σ own) → R σ' H) → gNames is vs σ H R
  | [], [], _, σ, ρ, R, V, .nil, e, k => by
    simp [setsS] at e
    subst e
    exact ⟨rfl, k σ V fun _ _ => rfl⟩
  | [], _ :: _, _, _, _, _, _, _, e, _ => by simp [setsS] at e
  | _ :: _, [], _, _, _, _, _, _, e, _ => by simp [setsS] at e
  | i :: is, x :: xs, _, σ, ρ, R, V, .cons r rs, e, k => by
    rename_i v vs
    simp only [setsS] at e
    refine ⟨v, vs, rfl, sets_ok (V.setV r) rs e fun σ' V' hw => k σ' V' fun own ho => ?_⟩
    rw [hw own fun j hj => ho j (List.mem_cons_of_mem _ hj)]
    exact wipe_set (ho i List.mem_cons_self)
where
  wipe_set {σ : L2.St} {i : Nat} {v : Option V} : ∀ {own : List Nat}, i ∈ own → wipe (σ.set i v) own = wipe σ own
    | j :: own, h => by
      unfold wipe
      by_cases hj : i ∈ own
      · rw [wipe_set hj]
      · have e : i = j := by
          rcases List.mem_cons.mp h with e | e
          · exact e
          · exact absurd e hj
        subst e
        have : ∀ (own : List Nat) (σ : L2.St), i ∉ own → (wipe (σ.set i v) own) = (wipe σ own).set i v := by
          intro own
          induction own with
          | nil => intro σ _; rfl
          | cons k own ih =>
            intro σ hk
            unfold wipe
            rw [ih σ fun z => hk (List.mem_cons_of_mem _ z)]
            exact List.set_comm _ _ fun z => hk (z ▸ List.mem_cons_self)
        rw [this own σ hj, List.set_set]
theorem tg_ok {σ : L2.St} {ρ : Env} {tg : Tg} {d : AV} {v : V} {Q : Env → Prop} {R : L2.St → Hp → Prop} (S : StOk K Cl cs F H h) (V : EnvOk K Cl cs F H σ ρ) (r : Rep K cs F v d) (w : tgK tg d ρ Q)
    (k : ∀ σ' ρ', EnvOk K Cl cs F H σ' ρ' → (∀ own : List Nat, (∀ i ∈ tgIds tg, i ∈ own) → wipe σ' own = wipe σ own) → Q ρ' → R σ' H) : gOf K tg v σ H R := by
  cases tg with
  | nm i =>
    exact k _ _ (V.setV r) (fun own ho => sets_ok.wipe_set (ho i (by simp [tgIds]))) w
  | tup is =>
    unfold tgK at w
    simp only at w
    split at w
    · rename_i xs
      split at w
      · rename_i ρ' hs
        cases r with
        | tup g1 g2 =>
          rename_i a vs
          refine ⟨a, vs, rfl, ex_t S.sub g1, ?_, sets_ok V g2 hs fun σ' V' hw => k σ' ρ' V' hw w⟩
          have : ∀ {is : List Nat} {xs : List AV} {ρ : Env}, setsS ρ is xs = some ρ' → xs.length = is.length := by
            intro is
            induction is with
            | nil => intro xs ρ h; cases xs <;> simp [setsS] at h ⊢
            | cons i is ih => intro xs ρ h; cases xs <;> simp [setsS] at h ⊢; exact ih h
          rw [g2.length, this hs]
      · exact w.elim
    · exact w.elim

/-! ### comprehensions -/
def WEb (X : Cx) (scope : Scope) (e : Expr) : TE := fun σ H Q => ∀ (s : Shared) (H0 : Hp) (D : Addr) (cl : List (Str × Addr)) (fp : List Addr), WE (X.blk s H0 scope (compEnvC scope cl D X.env) fp) e σ H Q
def WTb (X : Cx) (scope : Scope) (e : Expr) : TT := fun σ H Q => ∀ (s : Shared) (H0 : Hp) (D : Addr) (cl : List (Str × Addr)) (fp : List Addr), WT (X.blk s H0 scope (compEnvC scope cl D X.env) fp) e σ H Q
/-- a test of a comprehension: none, or one -/
def WCb (X : Cx) (scope : Scope) : List Expr → TT
  | [] => tYes
  | c :: _ => WTb X scope c
theorem sto_blk {X : Cx} {scope : Scope} (s : Shared) (H0 : Hp) (D : Addr) (cl : List (Str × Addr)) (fp : List Addr) : Sto scope (X.blk s H0 scope (compEnvC scope cl D X.env) fp) := fun id h => by
  unfold tgN at h
  simp only [Bool.or_eq_true, Bool.and_eq_true, decide_eq_true_eq] at h
  rcases h with ⟨h1, h2⟩ | ⟨h1, h2⟩
  · exact ⟨.inl h2, .inr h2⟩
  · refine ⟨.inr h2, .inl ?_⟩
    show (scope.names.lookup id == some .cell) = true
    rw [h1]; rfl
theorem wipe_in {i : Nat} : ∀ {own : List Nat} (σ : L2.St), i ∈ own → (wipe σ own)[i]? = if i < σ.length then some none else none
  | j :: own, σ, hi => by
    unfold wipe
    by_cases hj : j = i
    · subst hj
      rw [List.getElem?_set]
      simp [wipe_length]
    · rw [List.getElem?_set_ne hj]
      exact wipe_in σ (by simpa [Ne.symm hj] using hi)
theorem wipe_idem {σ : L2.St} {own : List Nat} : wipe (wipe σ own) own = wipe σ own := by
  apply List.ext_getElem?
  intro i
  by_cases hi : i ∈ own
  · rw [wipe_in _ hi, wipe_in _ hi, wipe_length]
  · rw [wipe_out hi]
def compB (C : Ctx) (elt : E) (tg : Tg) (cond : Oe) (own : List Nat) (ρ : Env) : AV → AHeap → (Option AV → AHeap → Prop) → Prop := fun x h2 R => tgK tg x (wipeS ρ own) fun ρ2 => WpC C cond ρ2 h2 fun k h3 =>
  if k = true then WpE C false elt ρ2 h3 fun y h4 => R (some y) h4 else R none h3
/-- what stands between two turns of a comprehension -/
def CInv (K : PySem.W.Frag) (Cl : Nat → Addr) (cs1 : List Addr) (F1 H1 : Hp) (B : AV → AHeap → (Option AV → AHeap → Prop) → Prop) (chk : AHeap → Prop) (items : List AV) (Q : List AV → AHeap → Prop) (D : Addr) (i : Nat) (H' : Hp) : Prop :=
  ∃ cs2 F2 h2 acc vs, Stp cs1 F1 H1 cs2 F2 H' ∧ StOk K Cl cs2 F2 H' h2 ∧ H' D = some (.lst vs) ∧ Reps K cs2 F2 vs acc ∧ D ∉ cs2 ∧ F2 D = none ∧ acc.length ≤ i ∧ compL B chk (items.drop i) acc h2 Q
theorem n_comp {elt : E} {tg : Tg} {it : It} {cond : Oe} {own : List Nat} {y t i : Expr} {ifs : List Expr} {scope : Scope} {pos : Pos} (O : XOk C T Cl X) (hb : BlkOk X.N X.env.scope scope (ownP X.N own)) (ho : ∀ i ∈ tgIds tg, i ∈ own)
    (ht : agTg scope (relS scope X.env.scope) X.N tg t = true) (hi : SI C Cl X true t it i) (hs : notSet i = true) (he : ∀ s H0 D cl fp, SE C Cl (X.blk s H0 scope (compEnvC scope cl D X.env) fp) false elt y)
    (hc : (ifs = [] ∧ cond = .no) ∨ ∃ c e, ifs = [c] ∧ cond = .so e ∧ ∀ s H0 D cl fp, ST C Cl (X.blk s H0 scope (compEnvC scope cl D X.env) fp) e c) : ∀ ρ h Q σ cs F H R, StOk X.K Cl cs F H h → EnvOk X.K Cl cs F H σ ρ → WpN C (.comp elt tg it cond own) ρ h Q → NOk X.K Cl cs F H Q R →
      tLc (WI X t i) (gOf X.K tg) (WCb X scope ifs) (WEb X scope y) own σ H R := fun ρ h Q σ cs F H R S V w p => by
  simp only [WpN] at w
  unfold tLc
  refine hi _ _ _ _ _ _ _ _ S V w fun J items chk G Y cs1 F1 H1 h1 x1 S1 wk hG hY q1 => ?_
  obtain ⟨hlen, q1⟩ := q1
  intro D hD
  have hF1 : F1 D = none := by
    cases w : F1 D with
    | none => rfl
    | some u => rw [S1.sub _ _ w] at hD; cases hD
  have hc1 : D ∉ cs1 := fun z => by
    obtain ⟨n, hn⟩ := List.mem_iff_getElem?.mp z
    exact (S1.cell n D hn).some hD
  refine lc_it wk (CInv X.K Cl cs1 F1 H1 (compB C elt tg cond own ρ) chk items (fun acc h2 => Q (.lst acc) h2) D) ?_ ?_ ?_ ?_
  · exact ⟨cs1, F1, h1, [], [], .newN hD, S1.newN hD, upd_same, .nil, hc1, hF1, Nat.le_refl _, q1⟩
  · rintro j H' hj ⟨cs2, F2, h2, acc, vs, x2, S2, e1, e2, e3, e4, e5, e6⟩
    refine hG cs2 F2 H' h2 x2 S2 ?_
    cases hd : items.drop j with
    | nil => rw [hd] at e6; exact e6.1
    | cons d r => rw [hd] at e6; exact e6.1
  · rintro j v H' H3 hj ⟨cs2, F2, h2, acc, vs, x2, S2, e1, e2, e3, e4, e5, e6⟩ hy
    rw [List.drop_eq_getElem_cons hj] at e6
    obtain ⟨ck, e6⟩ := e6
    obtain ⟨F3, x3, S3, rv⟩ := hY j H' v H3 cs2 F2 h2 _ S2 x2.f x2.c (List.getElem?_eq_getElem hj) ck hy
    have V3 : EnvOk X.K Cl cs2 F3 H3 σ ρ := V.step ((x1.trans x2).trans x3)
    refine tg_ok S3 (V3.wipe own) rv e6 fun σ4 ρ4 V4 hw e7 => ⟨by rw [hw own ho, wipe_idem], ?_⟩
    have d3 : H3 D = some (.lst vs) := x3.k _ _ e1 e3
    have n3 : F3 D = none := by
      cases w : F3 D with
      | none => rfl
      | some o =>
        have z := x3.n D e4 (by rw [w]; simp)
        rw [e1] at z; cases z
    have x13 : Stp cs1 F1 H1 cs2 F3 H3 := x2.trans x3
    -- the test
    have test : ∀ {R2 : Bool → Hp → Prop}, BOk X.K Cl cs2 F3 H3 (fun k h3 => if k = true then WpE C false elt ρ4 h3 fun y h4 => compL (compB C elt tg cond own ρ) chk (items.drop (j + 1)) (acc ++ [y]) h4 (fun acc h2 => Q (.lst acc) h2) else compL (compB C elt tg cond own ρ) chk (items.drop (j + 1)) acc h3 (fun acc h2 => Q (.lst acc) h2)) R2 → WCb X scope ifs σ4 H3 R2 := by
      intro R2 post
      rcases hc with ⟨rfl, rfl⟩ | ⟨c, e, rfl, rfl, hc⟩
      · simp only [WpC] at e7
        exact post _ _ _ _ _ .refl S3 e7
      · simp only [WpC] at e7
        intro s H0 D' cl fp
        exact hc s H0 D' cl fp _ _ _ _ _ _ _ _ S3 V4 e7 post
    refine test fun k cs4 F4 H4 h4 x4 S4 q4 => ?_
    have d4 : H4 D = some (.lst vs) := x4.k _ _ d3 e3
    have n4 : F4 D = none := by
      cases w : F4 D with
      | none => rfl
      | some o =>
        have z := x4.n D n3 (by rw [w]; simp)
        rw [d3] at z; cases z
    have c4 : D ∉ cs4 := fun z => by
      have := x4.m D z e3
      rw [d3] at this; cases this
    cases k with
    | false =>
      rw [if_neg Bool.false_ne_true] at q4 ⊢
      exact ⟨cs4, F4, h4, acc, vs, x13.trans x4, S4, d4, (e2.mono (x3.trans x4).f (x3.trans x4).c), c4, n4, by omega, q4⟩
    | true =>
      rw [if_pos rfl] at q4 ⊢
      intro s H0 D' cl fp
      refine he s H0 D' cl fp _ _ _ _ _ _ _ _ S4 (V4.step x4) q4 fun v5 d5 cs5 F5 H5 h5 x5 S5 r5 q5 => ?_
      have d5' : H5 D = some (.lst vs) := x5.k _ _ d4 c4
      have n5 : F5 D = none := by
        cases w : F5 D with
        | none => rfl
        | some o =>
          have z := x5.n D n4 (by rw [w]; simp)
          rw [d4] at z; cases z
      have c5 : D ∉ cs5 := fun z => by
        have := x5.m D z c4
        rw [d4] at this; cases this
      have x35 := (x3.trans x4).trans x5
      have lv : vs.length = acc.length := e2.length
      refine ⟨vs, d5', by omega, cs5, F5, h5, acc ++ [d5], vs ++ [v5], ((x13.trans x4).trans x5).chgNew hD, S5.chgN n5 c5, upd_same, (e2.mono x35.f x35.c).append (.cons r5.plain .nil), c5, n5, by rw [List.length_append, List.length_singleton]; omega, q5⟩
  · rintro H' ⟨cs2, F2, h2, acc, vs, x2, S2, e1, e2, e3, e4, e5, e6⟩
    rw [List.drop_of_length_le (Nat.le_refl _)] at e6
    exact p D (.lst acc) cs2 F2 H' h2 (x1.trans x2) S2 (x1.fresh hD) e4 e3 ⟨vs, e1, e2⟩ e6.2
end
end VL

set_option maxRecDepth 100000
set_option maxHeartbeats 4000000
/-! VL: every expression that agrees with the text. -/
namespace VL
open PySem L2 Evl PyProof.Rows PySem.Spec

section
variable {C : Ctx} {T : Tab} {Cl : Nat → Addr}
theorem agEs_all {sc : Scope} {N : List Str} : ∀ {es : Es} {xs : List Expr}, agEs T sc N es xs = true → xs.all notStar = true ∧ (xs = [] → es = .nil)
  | .nil, [], _ => ⟨rfl, fun _ => rfl⟩
  | .nil, _ :: _, h => by simp [agEs] at h
  | .cons e es, [], h => by simp [agEs] at h
  | .cons e es, x :: xs, h => by
    simp only [agEs, Bool.and_eq_true] at h
    refine ⟨?_, fun z => by cases z⟩
    rw [List.all_cons, h.1.2, (agEs_all h.2).1]; rfl
theorem agC_so {sc : Scope} {N : List Str} {e : Oe} {c : Expr} (h : agC T sc N e c = true) : ∃ e', e = .so e' := by
  cases e with
  | no => simp [agC] at h
  | so e => exact ⟨e, rfl⟩
/-- what a comprehension of the text must show -/
structure CompOk (C : Ctx) (T : Tab) (Cl : Nat → Addr) (X : Cx) (elt : E) (tg : Tg) (it : It) (cond : Oe) (own : List Nat) (y t i : Expr) (ifs : List Expr) (scope : Scope) : Prop where
  hb : BlkOk X.N X.env.scope scope (ownP X.N own)
  ho : ∀ i ∈ tgIds tg, i ∈ own
  ht : agTg scope (relS scope X.env.scope) X.N tg t = true
  hi : SI C Cl X true t it i
  hs : notSet i = true
  he : ∀ s H0 D cl fp, SE C Cl (X.blk s H0 scope (compEnvC scope cl D X.env) fp) false elt y
  hc : (ifs = [] ∧ cond = .no) ∨ ∃ c e, ifs = [c] ∧ cond = .so e ∧ ∀ s H0 D cl fp, ST C Cl (X.blk s H0 scope (compEnvC scope cl D X.env) fp) e c
section
variable {X : Cx} {elt : E} {tg : Tg} {it : It} {cond : Oe} {own : List Nat} {y t i : Expr} {ifs : List Expr} {scope : Scope}
theorem CompOk.pg (K : CompOk C T Cl X elt tg it cond own y t i ifs scope) (O : XOk C T Cl X) : ∀ (s : Shared) (H0 : Hp) (D : Addr) (cl : List (Str × Addr)) (fp : List Addr), PG (X.blk s H0 scope (compEnvC scope cl D X.env) fp) t (gOf X.K tg) := fun s H0 D cl fp =>
  pg_ok (X := X.blk s H0 scope (compEnvC scope cl D X.env) fp) O.nd O.calm (sto_blk s H0 D cl fp) K.ht
theorem CompOk.pts (K : CompOk C T Cl X elt tg it cond own y t i ifs scope) : ∀ (s : Shared) (H0 : Hp) (D : Addr) (cl : List (Str × Addr)) (fp : List Addr), PTs (X.blk s H0 scope (compEnvC scope cl D X.env) fp) ifs (WCb X scope ifs) := fun s H0 D cl fp => by
  rcases K.hc with ⟨rfl, _⟩ | ⟨c, e, rfl, _, _⟩
  · exact pts_nil
  · exact pts_one ⟨fun pins s' σ H Q I h => h s H0 D cl fp pins s' I⟩
theorem CompOk.pe (K : CompOk C T Cl X elt tg it cond own y t i ifs scope) : ∀ (s : Shared) (H0 : Hp) (D : Addr) (cl : List (Str × Addr)) (fp : List Addr), PE (X.blk s H0 scope (compEnvC scope cl D X.env) fp) y (WEb X scope y) := fun s H0 D cl fp =>
  ⟨fun pins s' σ H Q I h => h s H0 D cl fp pins s' I⟩
theorem CompOk.reads (K : CompOk C T Cl X elt tg it cond own y t i ifs scope) (O : XOk C T Cl X) : ∀ ρ h Q σ cs F H R, StOk X.K Cl cs F H h → EnvOk X.K Cl cs F H σ ρ → WpN C (.comp elt tg it cond own) ρ h Q → NOk X.K Cl cs F H Q R →
    tLc (WI X t i) (gOf X.K tg) (WCb X scope ifs) (WEb X scope y) ((ownP X.N own).map (·.2)) σ H R := by
  rw [ownP_ids]
  exact n_comp O K.hb K.ho K.ht K.hi K.hs K.he K.hc (pos := ⟨0, 0, 0, 0⟩)
theorem CompOk.sn (K : CompOk C T Cl X elt tg it cond own y t i ifs scope) (O : XOk C T Cl X) {pos : Pos} : SN C Cl X (.comp elt tg it cond own) (.ListComp y [⟨t, i, ifs, 0⟩] scope pos) := fun ρ h Q σ cs F H R S V w p =>
  we_of (pe_lc O.calm O.nd pi_we K.hb (K.pg O) K.pts K.pe (folded_of K.hs _)) (K.reads O ρ h Q σ cs F H R S V w p)
end

mutual
theorem sE : ∀ (e : E) (b : Bool) (x : Expr) (X : Cx), XOk C T Cl X → agE T X.env.scope X.N e x = true → SE C Cl X b e x
  | .var i, b, x, X, O, h => s_var (by simpa only [agE] using h)
  | .vw i, b, x, X, O, h => s_vw (by simpa only [agE] using h)
  | .cint i, b, x, X, O, h => fun ρ h' Q σ cs F H R S V w p => by
    simp only [agE] at h
    split at h
    · have e := of_decide_eq_true h
      subst e
      simp only [WpE] at w
      exact we_of pe_int (p _ _ _ _ _ _ .refl S (.inl (.int i)) w)
    · cases h
  | .cstr i, b, x, X, O, h => fun ρ h' Q σ cs F H R S V w p => by
    simp only [agE] at h
    split at h
    · have e := of_decide_eq_true h
      subst e
      simp only [WpE] at w
      exact we_of pe_str (p _ _ _ _ _ _ .refl S (.inl (.str i)) w)
    · cases h
  | .cbl i, b, x, X, O, h => fun ρ h' Q σ cs F H R S V w p => by
    simp only [agE] at h
    split at h
    · have e := of_decide_eq_true h
      subst e
      simp only [WpE] at w
      exact we_of pe_bl (p _ _ _ _ _ _ .refl S (.inl (.bl i)) w)
    · cases h
  | .cnon, b, x, X, O, h => fun ρ h' Q σ cs F H R S V w p => by
    simp only [agE] at h
    split at h
    · simp only [WpE] at w
      exact we_of pe_non (p _ _ _ _ _ _ .refl S (.inl .non) w)
    · cases h
  | .glob g, b, x, X, O, h => by
    simp only [agE] at h
    split at h
    · simp only [Bool.and_eq_true, decide_eq_true_eq] at h
      exact s_glob O h.1.1 h.1.2 h.2
    · cases h
  | .bin op a c, b, x, X, O, h => by
    simp only [agE] at h
    split at h
    · simp only [Bool.and_eq_true, decide_eq_true_eq] at h
      obtain ⟨⟨rfl, h1⟩, h2⟩ := h
      exact s_bin (sE a false _ X O h1) (sE c false _ X O h2)
    · cases h
  | .neg a, b, x, X, O, h => by
    simp only [agE] at h
    split at h
    · exact s_neg (sE a false _ X O h)
    · cases h
  | .not a, b, x, X, O, h => by
    simp only [agE] at h
    split at h
    · exact s_not (sE a false _ X O h)
    · cases h
  | .cmp op a c, b, x, X, O, h => by
    simp only [agE] at h
    split at h
    · simp only [Bool.and_eq_true, decide_eq_true_eq, Bool.not_eq_true'] at h
      obtain ⟨⟨⟨rfl, h1⟩, h2⟩, h3⟩ := h
      exact s_cmp O (sE a true _ X O h1) (sE c true _ X O h2) h3
    · cases h
  | .chain o1 o2 a c d, b, x, X, O, h => by
    simp only [agE] at h
    split at h
    · simp only [Bool.and_eq_true, decide_eq_true_eq, Bool.not_eq_true'] at h
      obtain ⟨⟨⟨⟨⟨rfl, rfl⟩, h1⟩, h2⟩, h3⟩, h4⟩ := h
      exact s_chain O (sE a false _ X O h1) (sE c false _ X O h2) (sE d false _ X O h3) h4
    · cases h
  | .and a c, b, x, X, O, h => by
    simp only [agE] at h
    split at h
    · simp only [Bool.and_eq_true] at h
      exact s_and (sE a false _ X O h.1) (sE c false _ X O h.2)
    · cases h
  | .or a c, b, x, X, O, h => by
    simp only [agE] at h
    split at h
    · simp only [Bool.and_eq_true] at h
      exact s_or (sE a false _ X O h.1) (sE c false _ X O h.2)
    · cases h
  | .ite c a d, b, x, X, O, h => by
    simp only [agE] at h
    split at h
    · simp only [Bool.and_eq_true] at h
      exact s_ite (sT c _ X O h.1.1) (sE a false _ X O h.1.2) (sE d false _ X O h.2)
    · cases h
  | .tup es, b, x, X, O, h => by
    simp only [agE] at h
    split at h
    · exact s_tup (sEs es _ X O h)
    · cases h
  | .fz n, b, x, X, O, h => s_fz (sN n x X O (by simpa only [agE] using h))
  | .new n, b, x, X, O, h => s_new (sN n x X O (by simpa only [agE] using h))
  | .sub a i, b, x, X, O, h => by
    simp only [agE] at h
    split at h
    · simp only [Bool.and_eq_true] at h
      exact s_sub O (sE a true _ X O h.1.1) (sE i false _ X O h.1.2) h.2
    · cases h
  | .slice a lo hi, b, x, X, O, h => by
    simp only [agE] at h
    split at h
    · simp only [Bool.and_eq_true] at h
      exact s_slice (sE a false _ X O h.1.1) (sO lo _ X O h.1.2) (sO hi _ X O h.2)
    · cases h
  | .call f es, b, x, X, O, h => by
    simp only [agE] at h
    split at h
    · simp only [Bool.and_eq_true, decide_eq_true_eq] at h
      obtain ⟨⟨⟨h0, h1⟩, h2⟩, h3⟩ := h
      obtain ⟨q1, q2⟩ := agEs_all h3
      exact s_call O h0 h1 h2 q1 q2 (sEs es _ X O h3)
    · cases h
  | .blt bt es, b, x, X, O, h => by
    simp only [agE] at h
    split at h
    · simp only [Bool.and_eq_true, decide_eq_true_eq] at h
      obtain ⟨⟨h0, h1⟩, h3⟩ := h
      exact s_blt O h0 h1 (agEs_all h3).1 (sBs es _ X O h3)
    · cases h
  | .isi a t, b, x, X, O, h => by
    simp only [agE] at h
    split at h
    · simp only [Bool.and_eq_true, decide_eq_true_eq] at h
      obtain ⟨⟨⟨⟨⟨⟨h0, h1⟩, h2⟩, h3⟩, h4⟩, h5⟩, h6⟩ := h
      exact s_isi O h0 h1 h2 h3 h6 h5 (sE a true _ X O h4)
    · cases h
  | .smt m o a, b, x, X, O, h => by
    simp only [agE] at h
    split at h
    · simp only [Bool.and_eq_true] at h
      obtain ⟨⟨⟨⟨⟨h0, h1⟩, h2⟩, h3⟩, h4⟩, h5⟩ := h
      exact s_smt h0 (sE o false _ X O h1) (sE a true _ X O h2) h3 h4 h5
    · cases h
  | .attr a f, b, x, X, O, h => by
    simp only [agE] at h
    split at h
    · simp only [Bool.and_eq_true, decide_eq_true_eq] at h
      obtain ⟨⟨rfl, h1⟩, h2⟩ := h
      exact s_attr O (sE a false _ X O h1) h2
    · cases h
  | .mcall o m es, b, x, X, O, h => by
    simp only [agE] at h
    split at h
    · simp only [Bool.and_eq_true, decide_eq_true_eq] at h
      obtain ⟨⟨⟨⟨⟨rfl, h1⟩, h2⟩, h3⟩, h4⟩, h5⟩ := h
      exact s_mcall O (sE o false _ X O h1) h3 h4 (agEs_all h2).1 h5 (agEs_all h2).2 (sEs es _ X O h2)
    · cases h
  | .make c es, b, x, X, O, h => by
    simp only [agE] at h
    split at h
    · simp only [Bool.and_eq_true, decide_eq_true_eq] at h
      obtain ⟨⟨⟨h0, h1⟩, h2⟩, h3⟩ := h
      exact s_make O h0 h1 h2 (agEs_all h3).1 (sEs es _ X O h3)
    · cases h
  | .tru a, b, x, X, O, h => fun ρ h' Q σ cs F H R S V w p => by simp only [WpE] at w
theorem sT : ∀ (e : E) (x : Expr) (X : Cx), XOk C T Cl X → agE T X.env.scope X.N e x = true → ST C Cl X e x
  | .and a c, x, X, O, h => by
    simp only [agE] at h
    split at h
    · simp only [Bool.and_eq_true] at h
      exact s_andT (sT a _ X O h.1) (sT c _ X O h.2)
    · cases h
  | .or a c, x, X, O, h => by
    simp only [agE] at h
    split at h
    · simp only [Bool.and_eq_true] at h
      exact s_orT (sT a _ X O h.1) (sT c _ X O h.2)
    · cases h
  | .not a, x, X, O, h => by
    simp only [agE] at h
    split at h
    · exact s_notT (sT a _ X O h)
    · cases h
  | .cmp op a c, x, X, O, h => by
    simp only [agE] at h
    split at h
    · simp only [Bool.and_eq_true, decide_eq_true_eq, Bool.not_eq_true'] at h
      obtain ⟨⟨⟨rfl, h1⟩, h2⟩, h3⟩ := h
      exact s_cmpT O (sE a true _ X O h1) (sE c true _ X O h2) h3
    · cases h
  | .chain o1 o2 a c d, x, X, O, h => by
    simp only [agE] at h
    split at h
    · simp only [Bool.and_eq_true, decide_eq_true_eq, Bool.not_eq_true'] at h
      obtain ⟨⟨⟨⟨⟨rfl, rfl⟩, h1⟩, h2⟩, h3⟩, h4⟩ := h
      exact s_chainT O (sE a false _ X O h1) (sE c false _ X O h2) (sE d false _ X O h3) h4
    · cases h
  | .tru a, x, X, O, h => by
    simp only [agE, Bool.and_eq_true] at h
    exact s_truT (sE a false _ X O h.1) h.2
  | .cbl k, x, X, O, h => fun ρ h' Q σ cs F H R S V w p => by
    simp only [agE] at h
    split at h
    · have e := of_decide_eq_true h
      subst e
      simp only [WpT] at w
      exact wt_of (pt_truth pe_bl (plainT_ok rfl _)) ⟨_, rfl, p _ _ _ _ _ .refl S w⟩
    · cases h
  | .var _, _, _, _, _ => fun ρ h' Q σ cs F H R S V w p => by simp only [WpT] at w
  | .vw _, _, _, _, _ => fun ρ h' Q σ cs F H R S V w p => by simp only [WpT] at w
  | .cint _, _, _, _, _ => fun ρ h' Q σ cs F H R S V w p => by simp only [WpT] at w
  | .cstr _, _, _, _, _ => fun ρ h' Q σ cs F H R S V w p => by simp only [WpT] at w
  | .cnon, _, _, _, _ => fun ρ h' Q σ cs F H R S V w p => by simp only [WpT] at w
  | .glob _, _, _, _, _ => fun ρ h' Q σ cs F H R S V w p => by simp only [WpT] at w
  | .bin _ _ _, _, _, _, _ => fun ρ h' Q σ cs F H R S V w p => by simp only [WpT] at w
  | .neg _, _, _, _, _ => fun ρ h' Q σ cs F H R S V w p => by simp only [WpT] at w
  | .ite _ _ _, _, _, _, _ => fun ρ h' Q σ cs F H R S V w p => by simp only [WpT] at w
  | .tup _, _, _, _, _ => fun ρ h' Q σ cs F H R S V w p => by simp only [WpT] at w
  | .fz _, _, _, _, _ => fun ρ h' Q σ cs F H R S V w p => by simp only [WpT] at w
  | .new _, _, _, _, _ => fun ρ h' Q σ cs F H R S V w p => by simp only [WpT] at w
  | .sub _ _, _, _, _, _ => fun ρ h' Q σ cs F H R S V w p => by simp only [WpT] at w
  | .slice _ _ _, _, _, _, _ => fun ρ h' Q σ cs F H R S V w p => by simp only [WpT] at w
  | .call _ _, _, _, _, _ => fun ρ h' Q σ cs F H R S V w p => by simp only [WpT] at w
  | .blt _ _, _, _, _, _ => fun ρ h' Q σ cs F H R S V w p => by simp only [WpT] at w
  | .isi _ _, _, _, _, _ => fun ρ h' Q σ cs F H R S V w p => by simp only [WpT] at w
  | .smt _ _ _, _, _, _, _ => fun ρ h' Q σ cs F H R S V w p => by simp only [WpT] at w
  | .attr _ _, _, _, _, _ => fun ρ h' Q σ cs F H R S V w p => by simp only [WpT] at w
  | .mcall _ _ _, _, _, _, _ => fun ρ h' Q σ cs F H R S V w p => by simp only [WpT] at w
  | .make _ _, _, _, _, _ => fun ρ h' Q σ cs F H R S V w p => by simp only [WpT] at w
theorem sEs : ∀ (es : Es) (xs : List Expr) (X : Cx), XOk C T Cl X → agEs T X.env.scope X.N es xs = true → SA C Cl X es xs
  | .nil, xs, X, O, h => by
    simp only [agEs] at h
    split at h
    · exact s_nil
    · cases h
  | .cons e es, xs, X, O, h => by
    simp only [agEs] at h
    split at h
    · simp only [Bool.and_eq_true] at h
      exact s_cons (sE e false _ X O h.1.1) (sEs es _ X O h.2) h.1.2
    · cases h
theorem sBs : ∀ (es : Es) (xs : List Expr) (X : Cx), XOk C T Cl X → agEs T X.env.scope X.N es xs = true → SB C Cl X es xs
  | .nil, xs, X, O, h => by
    simp only [agEs] at h
    split at h
    · exact s_nilB
    · cases h
  | .cons e es, xs, X, O, h => by
    simp only [agEs] at h
    split at h
    · simp only [Bool.and_eq_true] at h
      exact s_consB (sE e true _ X O h.1.1) (sBs es _ X O h.2) h.1.2
    · cases h
theorem sO : ∀ (e : Oe) (x : Option Expr) (X : Cx), XOk C T Cl X → agO T X.env.scope X.N e x = true → SO C Cl X e x
  | .no, x, X, O, h => by
    simp only [agO] at h
    split at h
    · exact s_no
    · cases h
  | .so e, x, X, O, h => by
    simp only [agO] at h
    split at h
    · exact s_so (sE e false _ X O h)
    · cases h
theorem sC : ∀ (e : Oe) (c : Expr) (e' : E), e = .so e' → ∀ (X : Cx), XOk C T Cl X → agC T X.env.scope X.N e c = true → ST C Cl X e' c
  | .no, c, e', q, X, O, h => by cases q
  | .so e, c, e', q, X, O, h => by
    have q2 : e = e' := by injection q
    rw [← q2]
    exact sT e c X O (by simpa only [agC] using h)
theorem sN : ∀ (n : Nw) (x : Expr) (X : Cx), XOk C T Cl X → agN T X.env.scope X.N n x = true → SN C Cl X n x
  | .lst es, x, X, O, h => by
    simp only [agN] at h
    split at h
    · exact n_lst (sEs es _ X O h)
    · cases h
  | .comp elt tg it cond own, x, X, O, h => by
    simp only [agN] at h
    split at h
    · rename_i y t i ifs a scope pos
      simp only [Bool.and_eq_true, decide_eq_true_eq] at h
      obtain ⟨⟨⟨⟨⟨⟨⟨rfl, hb⟩, ho⟩, ht⟩, hi⟩, hs⟩, he⟩, hc⟩ := h
      have K : CompOk C T Cl X elt tg it cond own y t i ifs scope := by
        refine ⟨blkOk_by hb, fun j hj => by simpa using List.all_eq_true.mp ho j hj, ht, sI it true t i X O hi (fun _ => rfl), hs, fun s H0 D cl fp => sE elt false y _ (O.blk s H0 scope cl D fp) he, ?_⟩
        split at hc
        · split at hc
          · exact .inl ⟨rfl, rfl⟩
          · cases hc
        · rename_i c
          obtain ⟨e', q1⟩ := agC_so hc
          exact .inr ⟨c, e', rfl, q1, fun s H0 D cl fp => sC cond c e' q1 _ (O.blk s H0 scope cl D fp) hc⟩
        · cases hc
      exact K.sn O
    · cases h
  | .slice a lo hi, x, X, O, h => by
    simp only [agN] at h
    split at h
    · simp only [Bool.and_eq_true] at h
      exact n_slice (sE a true _ X O h.1.1) (sO lo _ X O h.1.2) (sO hi _ X O h.2)
    · cases h
  | .listOf a, x, X, O, h => by
    simp only [agN] at h
    split at h
    · simp only [Bool.and_eq_true, decide_eq_true_eq] at h
      exact n_list O h.1.1.1 h.1.1.2 h.2 (sE a true _ X O h.1.2)
    · cases h
  | .cat a c, x, X, O, h => by
    simp only [agN] at h
    split at h
    · simp only [Bool.and_eq_true, decide_eq_true_eq] at h
      obtain ⟨⟨rfl, h1⟩, h2⟩ := h
      exact n_cat (sE a true _ X O h1) (sE c true _ X O h2)
    · cases h
  | .rep a c, x, X, O, h => by
    simp only [agN] at h
    split at h
    · simp only [Bool.and_eq_true, decide_eq_true_eq] at h
      obtain ⟨⟨rfl, h1⟩, h2⟩ := h
      exact n_rep (sE a true _ X O h1) (sE c false _ X O h2)
    · cases h
  | .rev a, x, X, O, h => by
    simp only [agN] at h
    split at h
    · exact n_rev (sE a true _ X O h)
    · cases h
  | .dct1 k v, x, X, O, h => by
    simp only [agN] at h
    split at h
    · simp only [Bool.and_eq_true] at h
      exact n_dct1 (sE k false _ X O h.1) (sE v false _ X O h.2)
    · cases h
theorem sI : ∀ (it : It) (st : Bool) (tg x : Expr) (X : Cx), XOk C T Cl X → agI T X.env.scope X.N it x = true → ((∃ i, it = .own i) → st = true) → SI C Cl X st tg it x
  | .rng1 a, st, tg, x, X, O, h, _ => by
    simp only [agI] at h
    split at h
    · simp only [Bool.and_eq_true, decide_eq_true_eq] at h
      exact i_rng1 O h.1.1.1 h.1.1.2 h.2 (sE a false _ X O h.1.2)
    · cases h
  | .rng2 a c, st, tg, x, X, O, h, _ => by
    simp only [agI] at h
    split at h
    · simp only [Bool.and_eq_true, decide_eq_true_eq] at h
      obtain ⟨⟨⟨⟨⟨h0, h1⟩, h2⟩, h3⟩, h4⟩, h5⟩ := h
      exact i_rng2 O h0 h1 h3 h5 (sE a false _ X O h2) (sE c false _ X O h4)
    · cases h
  | .seq a, st, tg, x, X, O, h, _ => i_seq (sE a false _ X O (by simpa only [agI] using h))
  | .own i, st, tg, x, X, O, h, hst => by
    have e := hst ⟨i, rfl⟩
    subst e
    exact i_own (by simpa only [agI] using h)
  | .chars a, st, tg, x, X, O, h, _ => i_chars (sE a false _ X O (by simpa only [agI] using h))
end
end
end VL

set_option maxRecDepth 100000
set_option maxHeartbeats 4000000
/-! VL: statements, defs. -/
namespace VL
open PySem L2 Evl PyProof.Rows PySem.Spec

/-! ### agreement -/
def notComp : Expr → Bool
  | .ListComp _ _ _ _ => false
  | .SetComp _ _ _ _ => false
  | .DictComp _ _ _ _ _ => false
  | _ => true
def notTup : Expr → Bool
  | .Tuple _ _ _ => false
  | _ => true
def compN : E → Option Nw
  | .fz (.comp a b c d e) => some (.comp a b c d e)
  | .new (.comp a b c d e) => some (.comp a b c d e)
  | _ => none
def isCompN : Nw → Bool
  | .comp _ _ _ _ _ => true
  | _ => false
def agApp (x : Expr) : Option (Expr × Expr) := match x with
  | .Call (.Attribute o nm apos) [y] [] cpos => if (decide (nm = "append") && notSup o && (apos.endLine == cpos.line) && notStar y) = true then some (o, y) else none
  | _ => none
mutual
def agS (T : Tab) (sc : Scope) (N : List Str) : S → Stmt → Bool
  | .asg tg e, st => match st with
    | .Assign [t] x _ => agTg sc sc N tg t && agE T sc N e x && (match tg with
      | .nm _ => notComp x || (compN e).isSome
      | .tup _ => notTup x && notComp x)
    | _ => false
  | .asgO i n, st => match st with
    | .Assign [t] x _ => agTg sc sc N (.nm i) t && agN T sc N n x && (notComp x || isCompN n)
    | _ => false
  | .frz _, _ => false
  | .par _ _ _ _, _ => false
  | .aug i op e, st => match st with
    | .AugAssign (.Name id _) o x _ => decide (N[i]? = some id) && tgN sc sc id && decide (op = o) && (decide (op = .Add) || decide (op = .Sub)) && agE T sc N e x
    | _ => false
  | .app i e, st => match st with
    | .Expr x _ => match agApp x with
      | some (o, y) => agVar sc N i o && agE T sc N e y
      | none => false
    | _ => false
  | .appE o e, st => match st with
    | .Expr x _ => match agApp x with
      | some (o', y) => agE T sc N o o' && agE T sc N e y
      | none => false
    | _ => false
  | .put i k e, st => match st with
    | .Assign [.Subscript o k' _] x _ => agVar sc N i o && agE T sc N k k' && agE T sc N e x && notSlice k'
    | _ => false
  | .putE o k e, st => match st with
    | .Assign [.Subscript o' k' _] x _ => agE T sc N o o' && agE T sc N k k' && agE T sc N e x && notSlice k'
    | _ => false
  | .fld o f e, st => match st with
    | .Assign [.Attribute o' g _] x _ => decide (f = g) && agE T sc N o o' && agE T sc N e x
    | _ => false
  | .expr e, st => match st with
    | .Expr x _ => agE T sc N e x && notComp x
    | _ => false
  | .ret e, st => match st with
    | .Return (some x) _ => agE T sc N e x
    | _ => false
  | .retN, st => match st with
    | .Return none _ => true
    | _ => false
  | .ite c a b, st => match st with
    | .If x p q _ => agE T sc N c x && agSs T sc N a p && agSs T sc N b q
    | _ => false
  | .wh c b, st => match st with
    | .While x p [] _ => agE T sc N c x && agSs T sc N b p
    | _ => false
  | .for tg it b, st => match st with
    | .For t x p [] _ => agTg sc sc N tg t && agI T sc N it x && notSet x && (match it with | .own _ => false | _ => true) && agSs T sc N b p
    | _ => false
  | .pass, st => match st with
    | .Pass _ => true
    | _ => false
  | .brk, st => match st with
    | .Break _ => true
    | _ => false
  | .cont, st => match st with
    | .Continue _ => true
    | _ => false
  | .bad, _ => true
def agSs (T : Tab) (sc : Scope) (N : List Str) : Ss → List Stmt → Bool
  | .nil, st => match st with
    | [] => true
    | _ => false
  | .cons s r, st => match s with
    | .frz _ => agSs T sc N r st
    | s => match st with
      | x :: xs => agS T sc N s x && agSs T sc N r xs
      | [] => false
end

/-! ### what stands between statements: base of the innermost loop (csb, Fb), the def's entry (cs0, F0, H0) -/
structure Nt (K : PySem.W.Frag) (Cl : Nat → Addr) (csb : List Addr) (Fb : Hp) (cs0 : List Addr) (F0 H0 : Hp) (cs : List Addr) (F H : Hp) (h : AHeap) (σ : L2.St) (ρ : Env) : Prop where
  S : StOk K Cl cs F H h
  V : EnvOk K Cl cs F H σ ρ
  x : Stp cs0 F0 H0 cs F H
  o : ∀ i c a, getS ρ i = .own c → σ[i]? = some (some (.ref a)) → H0 a = none
  y : Ex Fb F ∧ ∃ r, cs = csb ++ r
structure DOk (K : PySem.W.Frag) (Cl : Nat → Addr) (csb : List Addr) (Fb : Hp) (cs0 : List Addr) (F0 H0 : Hp) (D : Kt) (D' : Ends) : Prop where
  nx : ∀ cs F H h σ ρ, Nt K Cl csb Fb cs0 F0 H0 cs F H h σ ρ → D.nx ρ h → D'.nx σ H
  rt : ∀ v d cs F H h, Stp cs0 F0 H0 cs F H → StOk K Cl cs F H h → Rep K cs F v d → D.rt d h → D'.rt v H
  bk : ∀ cs F H h σ ρ, Nt K Cl csb Fb cs0 F0 H0 cs F H h σ ρ → D.bk ρ h → D'.bk σ H
  ct : ∀ cs F H h σ ρ, Nt K Cl csb Fb cs0 F0 H0 cs F H h σ ρ → D.ct ρ h → D'.ct σ H
structure SOk (C : Ctx) (T : Tab) (Cl : Nat → Addr) (X : Cx) : Prop extends XOk C T Cl X where
  pass : PassesOwn (model X.prog X.w) X.A X.env X.xe
  sto : Sto X.env.scope X
def WS (X : Cx) (st : Stmt) : TS := fun D σ H => ∀ pins s, Inv X pins σ H s → wpAny (model X.prog X.w) X.A (exec st X.env) (SP X pins D) X.xe s
def WSs (X : Cx) (st : List Stmt) : TS := fun D σ H => ∀ pins s, Inv X pins σ H s → wpAny (model X.prog X.w) X.A (execs st X.env) (SP X pins D) X.xe s
section
variable {X : Cx}
theorem ps_we {e : Stmt} : PS X e (WS X e) := ⟨fun pins s σ H D I h => h pins s I⟩
theorem pss_we {e : List Stmt} : PSs X e (WSs X e) := ⟨fun pins s σ H D I h => h pins s I⟩
theorem ws_of {e : Stmt} {t : TS} (p : PS X e t) {σ : L2.St} {H : Hp} {D : Ends} (h : t D σ H) : WS X e D σ H := fun pins s I => p.run pins s σ H D I h
theorem wss_of {e : List Stmt} {t : TS} (p : PSs X e t) {σ : L2.St} {H : Hp} {D : Ends} (h : t D σ H) : WSs X e D σ H := fun pins s I => p.run pins s σ H D I h
end
section
variable (C : Ctx) (Cl : Nat → Addr)
def SS (X : Cx) (s : S) (st : Stmt) : Prop := ∀ csb Fb cs0 F0 H0 D D' ρ h σ cs F H, DOk X.K Cl csb Fb cs0 F0 H0 D D' → Nt X.K Cl csb Fb cs0 F0 H0 cs F H h σ ρ → WpS C s D ρ h → WS X st D' σ H
def SSs (X : Cx) (s : Ss) (st : List Stmt) : Prop := ∀ csb Fb cs0 F0 H0 D D' ρ h σ cs F H, DOk X.K Cl csb Fb cs0 F0 H0 D D' → Nt X.K Cl csb Fb cs0 F0 H0 cs F H h σ ρ → WpSs C s D ρ h → WSs X st D' σ H
end
section
variable {C : Ctx} {T : Tab} {Cl : Nat → Addr} {X : Cx} {K : PySem.W.Frag} {csb cs0 cs cs' : List Addr} {Fb F0 H0 F F' H H' : Hp} {h h' : AHeap} {σ σ' : L2.St} {ρ ρ' : Env}
theorem Nt.step (n : Nt K Cl csb Fb cs0 F0 H0 cs F H h σ ρ) (x : Stp cs F H cs' F' H') (S : StOk K Cl cs' F' H' h') : Nt K Cl csb Fb cs0 F0 H0 cs' F' H' h' σ ρ :=
  ⟨S, n.V.step x, n.x.trans x, n.o, n.y.1.trans x.f, by
    obtain ⟨r, e⟩ := n.y.2
    obtain ⟨r2, e2⟩ := x.c
    exact ⟨r ++ r2, by rw [e2, e, List.append_assoc]⟩⟩
theorem Nt.setV (n : Nt K Cl csb Fb cs0 F0 H0 cs F H h σ ρ) {i : Nat} {v : L2.V} {d : AV} (r : Rep K cs F v d) : Nt K Cl csb Fb cs0 F0 H0 cs F H h (σ.set i (some v)) (setS ρ i (.val d)) :=
  ⟨n.S, n.V.setV r, n.x, fun j c a h1 h2 => by
    by_cases hj : i = j
    · subst hj
      by_cases hi : i < ρ.length
      · rw [getS_set_same hi] at h1; cases h1
      · rw [setS_out (by omega)] at h1
        exact absurd (getS_lt (ρ := ρ) (i := i) (by rw [h1]; simp)) hi
    · rw [getS_set_ne hj] at h1
      rw [List.getElem?_set_ne hj] at h2
      exact n.o j c a h1 h2, n.y⟩
theorem upd_self {H : Hp} {a : Addr} {o : HO} (e : H a = some o) : upd H a o = H := by
  funext b
  unfold upd
  split
  · rename_i q; rw [q, e]
  · rfl
theorem set_self {σ : L2.St} {i : Nat} {v : Option V} (e : σ[i]? = some v) : σ.set i v = σ := by
  apply List.ext_getElem?
  intro j
  by_cases hj : i = j
  · subst hj
    rw [List.getElem?_set_self (List.getElem?_eq_some_iff.mp e).1, e]
  · rw [List.getElem?_set_ne hj]
/-- a slot's own cell -/
theorem Nt.setO (n : Nt K Cl csb Fb cs0 F0 H0 cs F H h σ ρ) {i : Nat} {a : Addr} {c : Cell} {o : HO} (n0 : H0 a = none) (n1 : a ∉ cs) (n2 : F a = none) (r : COk K Cl cs F (upd H a o) a c)
    (old : ∀ j c', j ≠ i → getS ρ j = .own c' → σ[j]? ≠ some (some (.ref a))) : Nt K Cl csb Fb cs0 F0 H0 cs F (upd H a o) h (σ.set i (some (.ref a))) (setS ρ i (.own c)) :=
  ⟨n.S.chgN n2 n1, n.V.setO n1 n2 r old, n.x.chgNew n0, fun j c a' h1 h2 => by
    by_cases hj : i = j
    · subst hj
      by_cases hi : i < ρ.length
      · rw [List.getElem?_set_self (by rw [← n.V.len]; exact hi)] at h2
        cases h2
        exact n0
      · rw [setS_out (by omega)] at h1
        exact absurd (getS_lt (ρ := ρ) (i := i) (by rw [h1]; simp)) hi
    · rw [getS_set_ne hj] at h1
      rw [List.getElem?_set_ne hj] at h2
      exact n.o j c a' h1 h2, n.y⟩
/-- a slot's own cell becomes a value -/
theorem Nt.frz (n : Nt K Cl csb Fb cs0 F0 H0 cs F H h σ ρ) {i : Nat} {c : Cell} {d : AV} (e : getS ρ i = .own c) (q : (∃ xs, c = .lst xs ∧ d = .lst xs) ∨ ∃ xs, c = .dct xs ∧ d = .dct xs) : ∃ F', Nt K Cl csb Fb cs0 F0 H0 cs F' H h σ (setS ρ i (.val d)) := by
  obtain ⟨a, e1, n1, n2, r⟩ := n.V.own i c e
  have n0 := n.o i c a e e1
  have core : ∀ o, H a = some o → Rep K cs (upd F a o) (.ref a) d → ∃ F', Nt K Cl csb Fb cs0 F0 H0 cs F' H h σ (setS ρ i (.val d)) := by
    intro o ho rd
    have ex : Ex F (upd F a o) := Ex.new n2
    refine ⟨upd F a o, ?_⟩
    have hi : i < ρ.length := getS_lt (by rw [e]; simp)
    have hs : i < σ.length := by rw [← n.V.len]; exact hi
    refine ⟨n.S.freeze n2 n1 ho, ⟨by rw [setS_length]; exact n.V.len, fun j d' h1 => ?_, fun j c' h1 => ?_, fun j k c1 c2 b ne h1 h2 h3 => ?_⟩, ⟨n.x.f.trans ex, n.x.c, n.x.k, n.x.d, fun b q1 q2 => ?_, n.x.m⟩, fun j c' b h1 h2 => ?_, n.y.1.trans ex, n.y.2⟩
    · by_cases hj : i = j
      · subst hj
        rw [getS_set_same hi] at h1
        cases h1
        exact ⟨_, e1, rd⟩
      · rw [getS_set_ne hj] at h1
        obtain ⟨v, g1, g2⟩ := n.V.val j d' h1
        exact ⟨v, g1, g2.mono ex ⟨[], by simp⟩⟩
    · have hj : i ≠ j := fun z => by subst z; rw [getS_set_same hi] at h1; cases h1
      rw [getS_set_ne hj] at h1
      obtain ⟨b, g1, g2, g3, g4⟩ := n.V.own j c' h1
      refine ⟨b, g1, g2, ?_, g4.mono ex ⟨[], by simp⟩ fun _ z => z⟩
      rw [upd_ne]
      · exact g3
      · intro z
        subst z
        exact n.V.dis i j c c' b hj e h1 e1 g1
    · have h1' : i ≠ j := fun z => by subst z; rw [getS_set_same hi] at h1; cases h1
      have h2' : i ≠ k := fun z => by subst z; rw [getS_set_same hi] at h2; cases h2
      rw [getS_set_ne h1'] at h1
      rw [getS_set_ne h2'] at h2
      exact n.V.dis j k c1 c2 b ne h1 h2 h3
    · by_cases hb : b = a
      · subst hb; exact n0
      · rw [upd_ne hb] at q2
        exact n.x.n b q1 q2
    · have hj : i ≠ j := fun z => by subst z; rw [getS_set_same hi] at h1; cases h1
      rw [getS_set_ne hj] at h1
      exact n.o j c' b h1 h2
  rcases q with ⟨xs, rfl, rfl⟩ | ⟨xs, rfl, rfl⟩
  · obtain ⟨vs, g1, g2⟩ := r
    exact core _ g1 (.lst upd_same (g2.mono (Ex.new n2) ⟨[], by simp⟩))
  · obtain ⟨vs, g1, g2⟩ := r
    exact core _ g1 (.dct upd_same (g2.mono (Ex.new n2) ⟨[], by simp⟩))
theorem DOk.seq {D : Kt} {D' : Ends} {A : Env → AHeap → Prop} {A' : L2.St → Hp → Prop} (d : DOk K Cl csb Fb cs0 F0 H0 D D') (k : ∀ cs F H h σ ρ, Nt K Cl csb Fb cs0 F0 H0 cs F H h σ ρ → A ρ h → A' σ H) :
    DOk K Cl csb Fb cs0 F0 H0 { D with nx := A } { D' with nx := A' } := ⟨k, d.rt, d.bk, d.ct⟩

/-! ### each statement -/
theorem swaps_plain {x : Expr} (hx : notComp x = true) (t : Option Expr) (l : Nat) (env : PySem.Env) : swapsWith x t l env = pure false := by
  cases x <;> first | rfl | cases hx
theorem swaps_other {x t : Expr} (ht : ∀ id p, t ≠ .Name id p) (l : Nat) (env : PySem.Env) : swapsWith x (some t) l env = pure false := by
  cases x <;> first | rfl | (cases t <;> first | rfl | exact absurd rfl (ht _ _))
def swB (sc scope : Scope) (id : Str) (pl xl : Nat) : Bool := decide (sc.names.lookup id = some .local) && (pl == xl) && !(scope.names.any fun (n, k) => n == id && (k == .local || k == .cell))
theorem sw_false {elt : Expr} {gs : List Comprehension} {scope : Scope} {pos py : Pos} {y : Str} {l : Nat} {env : PySem.Env} (hk : env.scope.kind = .function) (h : swB env.scope scope y py.line pos.line = false) :
    swapsWith (.ListComp elt gs scope pos) (some (.Name y py)) l env = pure false := by
  have hb : env.blockKind = .function := by unfold Env.blockKind; rw [hk]; rfl
  unfold swapsWith
  unfold swB at h
  have ky : (env.kindOf y == some .local) = decide (env.scope.names.lookup y = some .local) := by
    show (env.scope.names.lookup y == some .local) = _
    cases q : env.scope.names.lookup y with
    | none => rfl
    | some k => cases k <;> rfl
  simp only [hb, ky, Expr.pos]
  show pure ((ScopeKind.function == ScopeKind.function && decide (env.scope.names.lookup y = some .local) && (py.line == pos.line)) && !(scope.names.any fun (n, k) => n == y && (k == .local || k == .cell))) = pure false
  have : (ScopeKind.function == ScopeKind.function) = true := rfl
  rw [this, Bool.true_and, h]
/-- a comprehension given to a name -/
theorem comp_set {elt : E} {tg : Tg} {it : It} {cond : Oe} {own : List Nat} {y t i : Expr} {ifs : List Expr} {scope : Scope} {pos spos p' : Pos} {id : Str} {j : Nat} (O : SOk C T Cl X) (Kp : CompOk C T Cl X elt tg it cond own y t i ifs scope)
    (hj : X.N[j]? = some id) (hid : tgN X.env.scope X.env.scope id = true) {ρ : Env} {h : AHeap} {Q : Cell → AHeap → Prop} {D : Ends} (S : StOk X.K Cl cs F H h) (V : EnvOk X.K Cl cs F H σ ρ) (hk : X.env.scope.kind = .function) (w : WpN C (.comp elt tg it cond own) ρ h Q)
    (p : NOk X.K Cl cs F H Q (fun v H1 => D.nx (σ.set j (some v)) H1)) : WS X (.Assign [.Name id p'] (.ListComp y [⟨t, i, ifs, 0⟩] scope pos) spos) D σ H := by
  obtain ⟨s1, s2⟩ := O.sto id hid
  cases hs : swB X.env.scope scope id p'.line pos.line with
  | false => exact ws_of (ps_set O.nd hj s1 pe_we (sw_false hk hs) s2) (Kp.sn O.toXOk _ _ _ _ _ _ _ _ S V w p)
  | true =>
    unfold swB at hs
    simp only [Bool.and_eq_true, decide_eq_true_eq, Bool.not_eq_true'] at hs
    exact ws_of (ps_setLc O.calm O.nd hj hs.1.1 (sw_true hk hs.1.1 hs.1.2 hs.2) pi_we Kp.hb (Kp.pg O.toXOk) Kp.pts Kp.pe (folded_of Kp.hs _)) (Kp.reads O.toXOk _ _ _ _ _ _ _ _ S V w p)
theorem comp_of {elt : E} {tg : Tg} {it : It} {cond : Oe} {own : List Nat} {x : Expr} (O : XOk C T Cl X) (h : agN T X.env.scope X.N (.comp elt tg it cond own) x = true) :
    ∃ y t i ifs scope pos, x = .ListComp y [⟨t, i, ifs, 0⟩] scope pos ∧ CompOk C T Cl X elt tg it cond own y t i ifs scope := by
  simp only [agN] at h
  split at h
  · rename_i y t i ifs a scope pos
    simp only [Bool.and_eq_true, decide_eq_true_eq] at h
    obtain ⟨⟨⟨⟨⟨⟨⟨rfl, hb⟩, ho⟩, ht⟩, hi⟩, hs⟩, he⟩, hc⟩ := h
    refine ⟨y, t, i, ifs, scope, pos, rfl, blkOk_by hb, fun j hj => by simpa using List.all_eq_true.mp ho j hj, ht, sI it true t i X O hi (fun _ => rfl), hs, fun s H0 D cl fp => sE elt false y _ (O.blk s H0 scope cl D fp) he, ?_⟩
    split at hc
    · split at hc
      · exact .inl ⟨rfl, rfl⟩
      · cases hc
    · rename_i c
      obtain ⟨e', q1⟩ := agC_so hc
      exact .inr ⟨c, e', rfl, q1, fun s H0 D cl fp => sC cond c e' q1 _ (O.blk s H0 scope cl D fp) hc⟩
    · cases hc
  · cases h
theorem st_asg {tg : Tg} {e : E} {st : Stmt} (O : SOk C T Cl X) (hk : X.env.scope.kind = .function) (hag : agS T X.env.scope X.N (.asg tg e) st = true) : SS C Cl X (.asg tg e) st := fun csb Fb cs0 F0 H0 D D' ρ h σ cs F H d n w => by
  simp only [agS] at hag
  split at hag
  · rename_i t x pos
    simp only [Bool.and_eq_true] at hag
    obtain ⟨⟨ht, he⟩, hx⟩ := hag
    simp only [WpS] at w
    cases tg with
    | nm i =>
      simp only [agTg] at ht
      split at ht
      · rename_i id p'
        simp only [Bool.and_eq_true, decide_eq_true_eq] at ht
        obtain ⟨s1, s2⟩ := O.sto id ht.2
        have fin : EOk X.K Cl false cs F H (fun x h1 => tgK (.nm i) x ρ fun ρ' => D.nx ρ' h1) (fun v H1 => D'.nx (σ.set i (some v)) H1) := fun v d2 cs2 F2 H2 h2 y S r q =>
          d.nx _ _ _ _ _ _ ((n.step y S).setV r.plain) q
        simp only [Bool.or_eq_true] at hx
        rcases hx with hx | hx
        · exact ws_of (ps_set O.nd ht.1 s1 pe_we (swaps_plain hx _ _ _) s2) (sE e false x X O.toXOk he _ _ _ _ _ _ _ _ n.S n.V w fin)
        · cases hc : compN e with
          | none => rw [hc] at hx; cases hx
          | some n0 =>
            unfold compN at hc
            split at hc
            · cases hc
              simp only [agE] at he
              obtain ⟨y, t', i', ifs, scope, pos', rfl, Kp⟩ := comp_of O.toXOk he
              simp only [WpE] at w
              exact comp_set O Kp ht.1 ht.2 n.S n.V hk w (NOk.fz fin)
            · cases hc
              simp only [agE] at he
              obtain ⟨y, t', i', ifs, scope, pos', rfl, Kp⟩ := comp_of O.toXOk he
              simp only [WpE] at w
              exact comp_set O Kp ht.1 ht.2 n.S n.V hk w (NOk.new fin)
            · cases hc
      · cases ht
    | tup is =>
      simp only [Bool.and_eq_true] at hx
      have hw : swappedStores [t] x X.env = pure none := by
        cases t <;> first | (simp [agTg] at ht; done) | (cases x <;> first | rfl | cases hx.1)
      have hs : swapsWithSole [t] x pos.line X.env = pure false := swaps_plain hx.2 _ _ _
      refine ws_of (ps_asg pe_we (pg_ok O.nd O.calm O.sto ht) hs hw (by cases t <;> first | (simp [agTg] at ht; done) | rfl)) (sE e false x X O.toXOk he _ _ _ _ _ _ _ _ n.S n.V w fun v d2 cs2 F2 H2 h2 y S r q => ?_)
      have n2 := n.step y S
      -- the names are set one after another
      unfold tgK at q
      simp only at q
      split at q
      · rename_i xs
        split at q
        · rename_i ρ' hs2
          have r := r.plain
          cases r with
          | tup g1 g2 =>
            rename_i a vs
            have hl : ∀ {is : List Nat} {xs : List AV} {ρ : Env}, setsS ρ is xs = some ρ' → xs.length = is.length := by
              intro is
              induction is with
              | nil => intro xs ρ h; cases xs <;> simp [setsS] at h ⊢
              | cons i is ih => intro xs ρ h; cases xs <;> simp [setsS] at h ⊢; exact ih h
            refine ⟨a, vs, rfl, ex_t S.sub g1, by rw [g2.length, hl hs2], ?_⟩
            have go : ∀ {is : List Nat} {xs : List AV} {vs : List V} {σ : L2.St} {ρ : Env}, Nt X.K Cl csb Fb cs0 F0 H0 cs2 F2 H2 h2 σ ρ → Reps X.K cs2 F2 vs xs → setsS ρ is xs = some ρ' → gNames is vs σ H2 D'.nx := by
              intro is
              induction is with
              | nil =>
                intro xs vs σ ρ n r e
                cases r with
                | nil => simp [setsS] at e; subst e; exact ⟨rfl, d.nx _ _ _ _ _ _ n q⟩
                | cons _ _ => simp [setsS] at e
              | cons i is ih =>
                intro xs vs σ ρ n r e
                cases r with
                | nil => simp [setsS] at e
                | cons r rs =>
                  simp only [setsS] at e
                  exact ⟨_, _, rfl, ih (n.setV r) rs e⟩
            exact go n2 g2 hs2
        · exact q.elim
      · exact q.elim
  · cases hag
theorem own_old (V : EnvOk K Cl cs F H σ ρ) {i : Nat} {c : Cell} {a : Addr} (e : getS ρ i = .own c) (q : σ[i]? = some (some (.ref a))) : ∀ j c', j ≠ i → getS ρ j = .own c' → σ[j]? ≠ some (some (.ref a)) := fun j c' hj h1 =>
  V.dis i j c c' a (Ne.symm hj) e h1 q
theorem st_asgO {i : Nat} {m : Nw} {st : Stmt} (O : SOk C T Cl X) (hk : X.env.scope.kind = .function) (hag : agS T X.env.scope X.N (.asgO i m) st = true) : SS C Cl X (.asgO i m) st := fun csb Fb cs0 F0 H0 D D' ρ h σ cs F H d n w => by
  simp only [agS] at hag
  split at hag
  · rename_i t x pos
    simp only [Bool.and_eq_true] at hag
    obtain ⟨⟨ht, he⟩, hx⟩ := hag
    simp only [WpS] at w
    simp only [agTg] at ht
    split at ht
    · rename_i id p'
      simp only [Bool.and_eq_true, decide_eq_true_eq] at ht
      obtain ⟨s1, s2⟩ := O.sto id ht.2
      have fin : NOk X.K Cl cs F H (fun c h1 => D.nx (setS ρ i (.own c)) h1) (fun v H1 => D'.nx (σ.set i (some v)) H1) := fun a c cs2 F2 H2 h2 y S n1 n2 n3 r q => by
        have hs : H2 a ≠ none := r.some
        have n' := n.step y S
        cases ho : H2 a with
        | none => exact absurd ho hs
        | some o =>
          have e : upd H2 a o = H2 := upd_self ho
          have z := n'.setO (i := i) (o := o) (n.x.fresh n1) n3 n2 (by rw [e]; exact r) fun j c' hj h1 h2 => by
            obtain ⟨b, g1, _, _, g4⟩ := n.V.own j c' h1
            rw [g1] at h2
            cases h2
            exact g4.some n1
          rw [e] at z
          exact d.nx _ _ _ _ _ _ z q
      simp only [Bool.or_eq_true] at hx
      rcases hx with hx | hx
      · exact ws_of (ps_set O.nd ht.1 s1 pe_we (swaps_plain hx _ _ _) s2) (sN m x X O.toXOk he _ _ _ _ _ _ _ _ n.S n.V w fin)
      · cases m with
        | comp a b c e f =>
          obtain ⟨y, t', i', ifs, scope, pos', rfl, Kp⟩ := comp_of O.toXOk he
          exact comp_set O Kp ht.1 ht.2 n.S n.V hk w fin
        | _ => cases hx
    · cases ht
  · cases hag
theorem st_aug {i : Nat} {op : Operator} {e : E} {st : Stmt} (O : SOk C T Cl X) (hag : agS T X.env.scope X.N (.aug i op e) st = true) : SS C Cl X (.aug i op e) st := fun csb Fb cs0 F0 H0 D D' ρ h σ cs F H d n w => by
  simp only [agS] at hag
  split at hag
  · rename_i id p' o x pos
    simp only [Bool.and_eq_true, Bool.or_eq_true, decide_eq_true_eq] at hag
    obtain ⟨⟨⟨⟨h1, h2⟩, rfl⟩, h4⟩, h5⟩ := hag
    obtain ⟨s1, s2⟩ := O.sto id h2
    simp only [WpS] at w
    split at w
    · rename_i x0 hx0
      obtain ⟨v0, e0, r0⟩ := n.V.val i x0 hx0
      have fin : ∀ {f : Int → Int → Int}, (∀ x y Q, augK op x y Q → ∃ a b, x = .int a ∧ y = .int b ∧ Q (.int (f a b))) → tAug i (WE X x) (ipI f) D' σ H := by
        intro f hf
        refine ⟨v0, e0, sE e false x X O.toXOk h5 _ _ _ _ _ _ _ _ n.S n.V w fun v1 d1 cs1 F1 H1 h1 x1 S1 r1 q1 => ?_⟩
        obtain ⟨a, b, rfl, rfl, q⟩ := hf _ _ _ q1
        have := r1.int
        subst this
        cases r0
        exact ⟨a, b, rfl, rfl, d.nx _ _ _ _ _ _ ((n.step x1 S1).setV (.int _)) q⟩
      rcases h4 with rfl | rfl
      · refine ws_of (ps_aug O.nd h1 s1 pe_we ip_add s2) (fin fun x y Q q => ?_)
        cases x <;> cases y <;> first | exact ⟨_, _, rfl, rfl, q⟩ | exact q.elim
      · refine ws_of (ps_aug O.nd h1 s1 pe_we ip_sub s2) (fin fun x y Q q => ?_)
        cases x <;> cases y <;> first | exact ⟨_, _, rfl, rfl, q⟩ | exact q.elim
    · exact w.elim
  · cases hag
theorem app_ps {o y : Expr} {x : Expr} {pos : Pos} {to : TE} (hx : agApp x = some (o, y)) (ho : PE X o to) : PS X (.Expr x pos) (tDrop (tBM X.K "list" rAppend to (tCons (WE X y) tNil))) := by
  unfold agApp at hx
  split at hx
  · rename_i o' nm apos y' cpos
    split at hx
    · rename_i hc
      cases hx
      simp only [Bool.and_eq_true, decide_eq_true_eq] at hc
      obtain ⟨⟨⟨rfl, h2⟩, h3⟩, h4⟩ := hc
      refine ps_expr (pe_bm PySem.F.plainAttrs_list PySem.F.slot_list_append PySem.F.type_list_append mt_append ho (pa_cons pe_we pa_nil (star_cons h4 _ _)) (base_of h2 _ _) ?_ h3 (star_cons h4 _ _) rfl) rfl
      rw [star_cons h4]
      rfl
    · cases hx
  · cases hx
theorem st_app {i : Nat} {e : E} {st : Stmt} (O : SOk C T Cl X) (hag : agS T X.env.scope X.N (.app i e) st = true) : SS C Cl X (.app i e) st := fun csb Fb cs0 F0 H0 D D' ρ h σ cs F H d n w => by
  simp only [agS] at hag
  split at hag
  · rename_i x pos
    split at hag
    · rename_i o y hx
      simp only [Bool.and_eq_true] at hag
      obtain ⟨ha, he⟩ := hag
      unfold agVar at ha
      split at ha
      · rename_i id p'
        simp only [Bool.and_eq_true, decide_eq_true_eq] at ha
        obtain ⟨⟨h1, h2⟩, h3⟩ := ha
        obtain ⟨n1, n2, _⟩ := plainName_ok h3
        simp only [WpS] at w
        have po : PE X (.Name id p') (fun σ H Q => ∃ v, σ[i]? = some (some v) ∧ Q v H) := pe_var h1 (visB_ok h2) n1 n2
        split at w
        · rename_i xs hc
          obtain ⟨a, e1, m1, m2, vs, e2, r⟩ := n.V.own i _ hc
          have n0 := n.o i _ a hc e1
          refine ws_of (app_ps hx po) ⟨_, e1, .inl ⟨rfl, vs, sq_of e2⟩, ?_⟩
          refine sE e false y X O.toXOk he _ _ _ _ _ _ _ _ n.S n.V w fun v1 d1 cs1 F1 H1 h1 x1 S1 r1 q1 => ?_
          have nn := n.step x1 S1
          have e2' : H1 a = some (.lst vs) := x1.k _ _ e2 m1
          have m1' : a ∉ cs1 := fun z => by have := x1.m a z m1; rw [e2] at this; cases this
          have m2' : F1 a = none := by
            cases w : F1 a with
            | none => rfl
            | some o =>
              have z := x1.n a m2 (by rw [w]; simp)
              rw [e2] at z; cases z
          refine ⟨a, vs, v1, rfl, rfl, e2', by rw [r.length]; exact q1.1, ?_⟩
          have z := nn.setO (i := i) (o := .lst (vs ++ [v1])) (c := .lst (xs ++ [d1])) n0 m1' m2' ⟨_, upd_same, (r.mono x1.f x1.c).append (.cons r1.plain .nil)⟩ (own_old nn.V hc e1)
          rw [set_self e1] at z
          exact d.nx _ _ _ _ _ _ z q1.2
        · exact w.elim
      · cases ha
    · cases hag
  · cases hag
theorem Nt.cellSet (n : Nt K Cl csb Fb cs0 F0 H0 cs F H h σ ρ) {m : Nat} {a : Addr} {c : Cell} {o : HO} (e : cs[m]? = some a) (r : COk K Cl cs F (upd H a o) a c) : Nt K Cl csb Fb cs0 F0 H0 cs F (upd H a o) (h.set m c) σ ρ := by
  have x2 : Stp cs F H cs F (upd H a o) := Stp.chg (List.mem_of_getElem? e)
  exact ⟨n.S.cellSet e r, n.V.step x2, n.x.trans x2, n.o, n.y⟩
theorem st_appE {o e : E} {st : Stmt} (O : SOk C T Cl X) (hag : agS T X.env.scope X.N (.appE o e) st = true) : SS C Cl X (.appE o e) st := fun csb Fb cs0 F0 H0 D D' ρ h σ cs F H d n w => by
  simp only [agS] at hag
  split at hag
  · rename_i x pos
    split at hag
    · rename_i o' y hx
      simp only [Bool.and_eq_true] at hag
      simp only [WpS] at w
      refine ws_of (app_ps hx pe_we) (sE o false o' X O.toXOk hag.1 _ _ _ _ _ _ _ _ n.S n.V w fun v1 d1 cs1 F1 H1 h1 x1 S1 r1 q1 => ?_)
      have n1 := n.step x1 S1
      split at q1
      · rename_i m
        split at q1
        · rename_i xs0 hc0
          have r1 := r1.plain
          cases r1 with
          | adr g1 =>
            rename_i a
            obtain ⟨vs0, g2, g3⟩ := cell_at S1 g1 hc0
            refine ⟨.inl ⟨rfl, vs0, sq_of g2⟩, ?_⟩
            refine sE e false y X O.toXOk hag.2 _ _ _ _ _ _ _ _ S1 n1.V q1 fun v2 d2 cs2 F2 H2 h2 x2 S2 r2 q2 => ?_
            have n2 := n1.step x2 S2
            unfold appC at q2
            split at q2
            · rename_i xs hc
              have g1' : cs2[m]? = some a := let ⟨_, q⟩ := x2.c; get_pre q g1
              obtain ⟨vs, k1, k2⟩ := cell_at S2 g1' hc
              refine ⟨a, vs, v2, rfl, rfl, k1, by rw [k2.length]; exact q2.1, ?_⟩
              exact d.nx _ _ _ _ _ _ (n2.cellSet g1' (show COk X.K Cl cs2 F2 _ a (.lst (xs ++ [d2])) from ⟨_, upd_same, k2.append (.cons r2.plain .nil)⟩)) q2.2
            · exact q2.elim
        · exact q1.elim
      · exact q1.elim
    · cases hag
  · cases hag
/-- o[k] = v by its weakest reading -/
def PSW (X : Cx) : TSet := fun o i v H Q => ∀ (pins : List (Addr × Obj)) (s : Shared) (σ : L2.St) (ov iv u : Value), Inv X pins σ H s → RelV o ov → RelV i iv → RelV v u → wpAny (model X.prog X.w) X.A (setItem ov iv u) (fun _ s' => ∃ H', Inv X pins σ H' s' ∧ Q H') X.xe s
theorem psw_ok : PSet X (PSW X) := fun pins s σ H o i v ov iv u Q I r1 r2 r3 h => h pins s σ ov iv u I r1 r2 r3
theorem psw_of {t : TSet} (p : PSet X t) {o i v : V} {H : Hp} {Q : Hp → Prop} (h : t o i v H Q) : PSW X o i v H Q := fun pins s σ ov iv u I r1 r2 r3 => p pins s σ H o i v ov iv u Q I r1 r2 r3 h
theorem set_dict (hu : X.A.units + 1 < cLine) : PSet X (fun o i v H Q => ∃ a H', o = .ref a ∧ DPut H a i v H' ∧ Q H') := by
  intro pins s σ H o i v ov iv u Q I r1 r2 r3 h
  obtain ⟨a, H', rfl, g, q⟩ := h
  cases r1
  exact d_setItem hu I g r2 r3 fun s' I' => ⟨H', I', q⟩
theorem putC_ok (hu : X.A.units + 1 < cLine) {a : Addr} {c : Cell} {k d : AV} {i v : V} {Q : Cell → Prop} {R : Hp → Prop} {b : Bool} (r : COk X.K Cl cs F H a c) (rk : RepB X.K cs F H b i k) (rv : Rep X.K cs F v d) (q : putC c k d Q)
    (p : ∀ o c', COk X.K Cl cs F (upd H a o) a c' → Q c' → R (upd H a o)) : PSW X (.ref a) i v H R := by
  unfold putC at q
  split at q
  · rename_i xs
    obtain ⟨vs, e1, e2⟩ := r
    split at q
    · cases rk.int
      split at q
      · rename_i j hj
        rw [← e2.length] at hj
        exact psw_of set_list ⟨a, vs, _, j, rfl, rfl, e1, hj, p _ (.lst (xs.set j d)) ⟨_, upd_same, e2.set rv j⟩ q⟩
      · exact q.elim
    · exact q.elim
  · rename_i kvs
    obtain ⟨us, e1, e2⟩ := r
    split at q
    · rename_i kk hk
      cases rk.key hk
      refine psw_of (set_dict hu) ⟨a, _, rfl, .k e1 ?_, p _ (.dct (putD kvs kk d)) ⟨_, upd_same, e2.put rv⟩ q.2⟩
      rw [e2.length, sizeLine_eq]
      have := q.1
      omega
    · exact q.elim
  · exact q.elim
theorem put_ps {o k x : Expr} {to : TE} {pk pos : Pos} (ho : PE X o to) (hk : notSlice k = true) : PS X (.Assign [.Subscript o k pk] x pos) (tAsg (WE X x) (gSub to (WE X k) (PSW X))) := by
  refine ps_asg pe_we (pg_sub ho pe_we psw_ok ?_) ?_ ?_
  · intro _
    cases k <;> first | rfl | cases hk
  · show swapsWith x (some (.Subscript o k pk)) pos.line X.env = pure false
    exact swaps_other (t := .Subscript o k pk) (fun _ _ z => by cases z) _ _
  · cases x <;> rfl
theorem st_put {i : Nat} {k e : E} {st : Stmt} (O : SOk C T Cl X) (hag : agS T X.env.scope X.N (.put i k e) st = true) : SS C Cl X (.put i k e) st := fun csb Fb cs0 F0 H0 D D' ρ h σ cs F H d n w => by
  simp only [agS] at hag
  split at hag
  · rename_i o k' pk x pos
    simp only [Bool.and_eq_true] at hag
    obtain ⟨⟨⟨ha, hk⟩, he⟩, hns⟩ := hag
    unfold agVar at ha
    split at ha
    · rename_i id p'
      simp only [Bool.and_eq_true, decide_eq_true_eq] at ha
      obtain ⟨⟨h1, h2⟩, h3⟩ := ha
      obtain ⟨n1, n2, _⟩ := plainName_ok h3
      simp only [WpS] at w
      split at w
      · rename_i c hc
        obtain ⟨a, e1, m1, m2, r⟩ := n.V.own i _ hc
        have n0 := n.o i _ a hc e1
        refine ws_of (put_ps (pe_var h1 (visB_ok h2) n1 n2) hns) (sE e false x X O.toXOk he _ _ _ _ _ _ _ _ n.S n.V w fun v1 d1 cs1 F1 H1 h1 x1 S1 r1 q1 => ?_)
        refine ⟨_, e1, ?_⟩
        refine sE k false k' X O.toXOk hk _ _ _ _ _ _ _ _ S1 (n.V.step x1) q1 fun v2 d2 cs2 F2 H2 h2 x2 S2 r2 q2 => ?_
        have x12 := x1.trans x2
        have nn := n.step x12 S2
        have hs := r.some
        have m1' : a ∉ cs2 := fun z => hs (x12.m a z m1)
        have m2' : F2 a = none := by
          cases w : F2 a with
          | none => rfl
          | some o => exact absurd (x12.n a m2 (by rw [w]; simp)) hs
        have r' : COk X.K Cl cs2 F2 H2 a c := r.mono x12.f x12.c fun o ho => x12.k a o ho m1
        refine putC_ok (by have := O.units; omega) r' r2 (r1.plain.mono x2.f x2.c) q2 fun o c' g1 g2 => ?_
        have z := nn.setO (i := i) (o := o) (c := c') n0 m1' m2' g1 (own_old nn.V hc e1)
        rw [set_self e1] at z
        exact d.nx _ _ _ _ _ _ z g2
      · exact w.elim
    · cases ha
  · cases hag
theorem st_putE {o k e : E} {st : Stmt} (O : SOk C T Cl X) (hag : agS T X.env.scope X.N (.putE o k e) st = true) : SS C Cl X (.putE o k e) st := fun csb Fb cs0 F0 H0 D D' ρ h σ cs F H d n w => by
  simp only [agS] at hag
  split at hag
  · rename_i o' k' pk x pos
    simp only [Bool.and_eq_true] at hag
    obtain ⟨⟨⟨ho, hk⟩, he⟩, hns⟩ := hag
    simp only [WpS] at w
    refine ws_of (put_ps pe_we hns) (sE e false x X O.toXOk he _ _ _ _ _ _ _ _ n.S n.V w fun v1 d1 cs1 F1 H1 h1 x1 S1 r1 q1 => ?_)
    refine sE o false o' X O.toXOk ho _ _ _ _ _ _ _ _ S1 (n.V.step x1) q1 fun v2 d2 cs2 F2 H2 h2 x2 S2 r2 q2 => ?_
    refine sE k false k' X O.toXOk hk _ _ _ _ _ _ _ _ S2 ((n.V.step x1).step x2) q2 fun v3 d3 cs3 F3 H3 h3 x3 S3 r3 q3 => ?_
    split at q3
    · rename_i m
      have r2 := r2.plain
      cases r2 with
      | adr g1 =>
        rename_i a
        have g1' : cs3[m]? = some a := let ⟨_, q⟩ := x3.c; get_pre q g1
        have x23 := x2.trans x3
        exact putC_ok (by have := O.units; omega) (S3.cell m a g1') r3 (r1.plain.mono x23.f x23.c) q3 fun o c' k1 k2 =>
          d.nx _ _ _ _ _ _ ((n.step ((x1.trans x2).trans x3) S3).cellSet g1' k1) k2
    · exact q3.elim
  · cases hag

theorem st_fld {o e : E} {f : Str} {st : Stmt} (O : SOk C T Cl X) (hag : agS T X.env.scope X.N (.fld o f e) st = true) : SS C Cl X (.fld o f e) st := fun csb Fb cs0 F0 H0 D D' ρ h σ cs F H d n w => by
  simp only [agS] at hag
  split at hag
  · rename_i o' g pk x pos
    simp only [Bool.and_eq_true, decide_eq_true_eq] at hag
    obtain ⟨⟨rfl, ho⟩, he⟩ := hag
    simp only [WpS] at w
    refine ws_of (ps_fld pe_we pe_we (swaps_other (t := .Attribute o' f pk) (fun _ _ z => by cases z) _ _)) (sE e false x X O.toXOk he _ _ _ _ _ _ _ _ n.S n.V w fun v1 d1 cs1 F1 H1 h1 x1 S1 r1 q1 => ?_)
    refine sE o false o' X O.toXOk ho _ _ _ _ _ _ _ _ S1 (n.V.step x1) q1 fun v2 d2 cs2 F2 H2 h2 x2 S2 r2 q2 => ?_
    split at q2
    · rename_i m
      split at q2
      · rename_i c fs hc
        obtain ⟨hf, hl, q2⟩ := q2
        obtain ⟨a, rfl, e2⟩ := Rep.adr_inv r2.plain
        obtain ⟨dx, fvs, e3, r⟩ := obj_at S2 e2 hc
        refine ⟨a, Cl c, dx, fvs, rfl, e3, (O.fld c f hf).1, (O.fld c f hf).2, by rw [r.length]; exact hl, ?_⟩
        exact d.nx _ _ _ _ _ _ ((n.step (x1.trans x2) S2).cellSet e2 (show COk X.K Cl cs2 F2 _ a (.obj c (putFA f d1 fs)) from ⟨dx, _, upd_same, r.put (r1.plain.mono x2.f x2.c)⟩)) q2
      · exact q2.elim
    · exact q2.elim
  · cases hag
theorem st_ite {c : E} {a b : Ss} {x : Expr} {p q : List Stmt} {pos : Pos} (O : SOk C T Cl X) (hc : agE T X.env.scope X.N c x = true) (ha : SSs C Cl X a p) (hb : SSs C Cl X b q) : SS C Cl X (.ite c a b) (.If x p q pos) := fun csb Fb cs0 F0 H0 D D' ρ h σ cs F H d n w => by
  simp only [WpS] at w
  refine ws_of (ps_if pt_we pss_we pss_we) (sT c x X O.toXOk hc _ _ _ _ _ _ _ _ n.S n.V w fun k cs1 F1 H1 h1 x1 S1 q1 => ?_)
  cases k with
  | true =>
    rw [if_pos rfl] at q1 ⊢
    exact ha _ _ _ _ _ _ _ _ _ _ _ _ _ d (n.step x1 S1) q1
  | false =>
    rw [if_neg Bool.false_ne_true] at q1 ⊢
    exact hb _ _ _ _ _ _ _ _ _ _ _ _ _ d (n.step x1 S1) q1
theorem st_wh {c : E} {b : Ss} {x : Expr} {p : List Stmt} {pos : Pos} (O : SOk C T Cl X) (hc : agE T X.env.scope X.N c x = true) (hb : SSs C Cl X b p) : SS C Cl X (.wh c b) (.While x p [] pos) := fun csb Fb cs0 F0 H0 D D' ρ h σ cs F H d n w => by
  simp only [WpS] at w
  obtain ⟨Wv, ⟨m0, w0⟩, turn⟩ := w
  refine ws_of (ps_while O.pass pt_we pss_we) ⟨fun m σ H => ∃ cs F h ρ, Nt X.K Cl csb Fb cs0 F0 H0 cs F H h σ ρ ∧ Wv m ρ h, ⟨m0, cs, F, h, ρ, n, w0⟩, ?_⟩
  rintro m σ' H' ⟨cs', F', h', ρ', n', w'⟩
  refine sT c x X O.toXOk hc _ _ _ _ _ _ _ _ n'.S n'.V (turn m ρ' h' w') fun k cs1 F1 H1 h1 x1 S1 q1 => ?_
  cases k with
  | true =>
    rw [if_pos rfl] at q1 ⊢
    refine ⟨fun σ H => ∃ m', m' < m ∧ ∃ cs F h ρ, Nt X.K Cl csb Fb cs0 F0 H0 cs F H h σ ρ ∧ Wv m' ρ h, fun σ2 H2 hq => hq, ?_⟩
    refine hb _ _ _ _ _ { D with nx := fun ρ' h' => ∃ m', m' < m ∧ Wv m' ρ' h', ct := fun ρ' h' => ∃ m', m' < m ∧ Wv m' ρ' h', bk := D.nx } _ _ _ _ _ _ _ ⟨?_, d.rt, d.nx, ?_⟩ (n'.step x1 S1) q1
    · rintro cs2 F2 H2 h2 σ2 ρ2 n2 ⟨m', hm, w2⟩
      exact ⟨m', hm, cs2, F2, h2, ρ2, n2, w2⟩
    · rintro cs2 F2 H2 h2 σ2 ρ2 n2 ⟨m', hm, w2⟩
      exact ⟨m', hm, cs2, F2, h2, ρ2, n2, w2⟩
  | false =>
    rw [if_neg Bool.false_ne_true] at q1 ⊢
    exact d.nx _ _ _ _ _ _ (n'.step x1 S1) q1
theorem Nt.base (n : Nt K Cl csb Fb cs0 F0 H0 cs F H h σ ρ) : Nt K Cl cs F cs0 F0 H0 cs F H h σ ρ := ⟨n.S, n.V, n.x, n.o, fun _ _ z => z, [], by simp⟩
theorem Nt.unbase {cs1 : List Addr} {F1 : Hp} (n : Nt K Cl cs1 F1 cs0 F0 H0 cs F H h σ ρ) (y : Ex Fb F1 ∧ ∃ r, cs1 = csb ++ r) : Nt K Cl csb Fb cs0 F0 H0 cs F H h σ ρ := ⟨n.S, n.V, n.x, n.o, y.1.trans n.y.1, by
  obtain ⟨r, e⟩ := n.y.2
  obtain ⟨r2, e2⟩ := y.2
  exact ⟨r2 ++ r, by rw [e, e2, List.append_assoc]⟩⟩
theorem nt_tg {σ : L2.St} {ρ : Env} {tg : Tg} {d : AV} {v : L2.V} {Q : Env → Prop} {R : L2.St → Hp → Prop} (n : Nt K Cl csb Fb cs0 F0 H0 cs F H h σ ρ) (r : Rep K cs F v d) (w : tgK tg d ρ Q)
    (k : ∀ σ' ρ', Nt K Cl csb Fb cs0 F0 H0 cs F H h σ' ρ' → Q ρ' → R σ' H) : gOf K tg v σ H R := by
  cases tg with
  | nm i => exact k _ _ (n.setV r) w
  | tup is =>
    unfold tgK at w
    simp only at w
    split at w
    · rename_i xs
      split at w
      · rename_i ρ' hs2
        cases r with
        | tup g1 g2 =>
          rename_i a vs
          have hl : ∀ {is : List Nat} {xs : List AV} {ρ : Env}, setsS ρ is xs = some ρ' → xs.length = is.length := by
            intro is
            induction is with
            | nil => intro xs ρ h; cases xs <;> simp [setsS] at h ⊢
            | cons i is ih => intro xs ρ h; cases xs <;> simp [setsS] at h ⊢; exact ih h
          refine ⟨a, vs, rfl, ex_t n.S.sub g1, by rw [g2.length, hl hs2], ?_⟩
          have go : ∀ {is : List Nat} {xs : List AV} {vs : List L2.V} {σ : L2.St} {ρ : Env}, Nt K Cl csb Fb cs0 F0 H0 cs F H h σ ρ → Reps K cs F vs xs → setsS ρ is xs = some ρ' → gNames is vs σ H R := by
            intro is
            induction is with
            | nil =>
              intro xs vs σ ρ n r e
              cases r with
              | nil => simp [setsS] at e; subst e; exact ⟨rfl, k _ _ n w⟩
              | cons _ _ => simp [setsS] at e
            | cons i is ih =>
              intro xs vs σ ρ n r e
              cases r with
              | nil => simp [setsS] at e
              | cons r rs =>
                simp only [setsS] at e
                exact ⟨_, _, rfl, ih (n.setV r) rs e⟩
          exact go n g2 hs2
      · exact w.elim
    · exact w.elim
theorem st_for {tg : Tg} {it : It} {b : Ss} {t x : Expr} {p : List Stmt} {pos : Pos} (O : SOk C T Cl X) (ht : agTg X.env.scope X.env.scope X.N tg t = true) (hi : agI T X.env.scope X.N it x = true) (hs : notSet x = true) (ho : ∀ i, it ≠ .own i)
    (hb : SSs C Cl X b p) : SS C Cl X (.for tg it b) (.For t x p [] pos) := fun csb Fb cs0 F0 H0 D D' ρ h σ cs F H d n w => by
  simp only [WpS] at w
  refine ws_of (ps_for O.pass O.calm pi_we (pg_ok O.nd O.calm O.sto ht) pss_we (folded_of hs _)) ?_
  refine sI it false t x X O.toXOk hi (fun ⟨i, e⟩ => absurd e (ho i)) _ _ _ _ _ _ _ _ n.S n.V w fun J items chk G Y cs1 F1 H1 h1 x1 S1 wk hG hY q1 => ?_
  have n1 := n.step x1 S1
  refine for_it wk (fun i σ' H' => ∃ cs2 F2 h2 ρ2, Nt X.K Cl cs1 F1 cs0 F0 H0 cs2 F2 H' h2 σ' ρ2 ∧ forL (fun x D ρ h => tgK tg x ρ fun ρ' => WpSs C b D ρ' h) chk D (items.drop i) ρ2 h2) ?_ ?_ ?_ ?_
  · exact ⟨cs1, F1, h1, ρ, n1.base, q1⟩
  · rintro i σ' H' hi ⟨cs2, F2, h2, ρ2, n2, q2⟩
    refine hG cs2 F2 H' h2 n2.y n2.S ?_
    cases hd : items.drop i with
    | nil => rw [hd] at q2; exact q2.1
    | cons z r => rw [hd] at q2; exact q2.1
  · rintro i v σ' H' H3 hi ⟨cs2, F2, h2, ρ2, n2, q2⟩ hy
    rw [List.drop_eq_getElem_cons hi] at q2
    obtain ⟨ck, q2⟩ := q2
    obtain ⟨F3, x3, S3, rv⟩ := hY i H' v H3 cs2 F2 h2 _ n2.S n2.y.1 n2.y.2 (List.getElem?_eq_getElem hi) ck hy
    have n3 := n2.step x3 S3
    refine nt_tg n3 rv q2 fun σ4 ρ4 n4 q4 => ?_
    refine hb _ _ _ _ _ { D with nx := forL (fun x D ρ h => tgK tg x ρ fun ρ' => WpSs C b D ρ' h) chk D (items.drop (i + 1)), ct := forL (fun x D ρ h => tgK tg x ρ fun ρ' => WpSs C b D ρ' h) chk D (items.drop (i + 1)), bk := D.nx } _ _ _ _ _ _ _ ⟨?_, d.rt, ?_, ?_⟩ n4 q4
    · intro cs5 F5 H5 h5 σ5 ρ5 n5 q5
      exact ⟨cs5, F5, h5, ρ5, n5, q5⟩
    · intro cs5 F5 H5 h5 σ5 ρ5 n5 q5
      exact d.nx _ _ _ _ _ _ (n5.unbase n1.y) q5
    · intro cs5 F5 H5 h5 σ5 ρ5 n5 q5
      exact ⟨cs5, F5, h5, ρ5, n5, q5⟩
  · rintro σ' H' ⟨cs2, F2, h2, ρ2, n2, q2⟩
    rw [List.drop_of_length_le (Nat.le_refl _)] at q2
    exact d.nx _ _ _ _ _ _ (n2.unbase n1.y) q2.2
end

/-! ### every statement that agrees -/
section
variable {C : Ctx} {T : Tab} {Cl : Nat → Addr} {X : Cx}
theorem agSs_cons {sc : Scope} {N : List Str} {s : S} {r : Ss} {st : List Stmt} (h : agSs T sc N (.cons s r) st = true) : (∃ i, s = .frz i ∧ agSs T sc N r st = true) ∨ ∃ x xs, st = x :: xs ∧ agS T sc N s x = true ∧ agSs T sc N r xs = true := by
  cases s with
  | frz i => exact .inl ⟨i, rfl, by simpa only [agSs] using h⟩
  | _ =>
    right
    cases st with
    | nil => simp [agSs] at h
    | cons x xs =>
      simp only [agSs, Bool.and_eq_true] at h
      exact ⟨_, _, rfl, h.1, h.2⟩
mutual
theorem sS (O : SOk C T Cl X) (hk : X.env.scope.kind = .function) : ∀ (s : S) (st : Stmt), agS T X.env.scope X.N s st = true → SS C Cl X s st
  | .asg tg e, st, h => st_asg O hk h
  | .asgO i n, st, h => st_asgO O hk h
  | .frz i, st, h => by simp [agS] at h
  | .par _ _ _ _, st, h => by simp [agS] at h
  | .aug i op e, st, h => st_aug O h
  | .app i e, st, h => st_app O h
  | .appE o e, st, h => st_appE O h
  | .put i k e, st, h => st_put O h
  | .putE o k e, st, h => st_putE O h
  | .fld o f e, st, h => st_fld O h
  | .expr e, st, h => fun csb Fb cs0 F0 H0 D D' ρ h' σ cs F H d n w => by
    simp only [agS] at h
    split at h
    · simp only [Bool.and_eq_true] at h
      simp only [WpS] at w
      exact ws_of (ps_expr pe_we (swaps_plain h.2 _ _ _)) (sE e false _ X O.toXOk h.1 _ _ _ _ _ _ _ _ n.S n.V w fun v1 d1 cs1 F1 H1 h1 x1 S1 r1 q1 => d.nx _ _ _ _ _ _ (n.step x1 S1) q1)
    · cases h
  | .ret e, st, h => fun csb Fb cs0 F0 H0 D D' ρ h' σ cs F H d n w => by
    simp only [agS] at h
    split at h
    · simp only [WpS] at w
      exact ws_of (ps_ret pe_we) (sE e false _ X O.toXOk h _ _ _ _ _ _ _ _ n.S n.V w fun v1 d1 cs1 F1 H1 h1 x1 S1 r1 q1 => d.rt _ _ _ _ _ _ (n.x.trans x1) S1 r1.plain q1)
    · cases h
  | .retN, st, h => fun csb Fb cs0 F0 H0 D D' ρ h' σ cs F H d n w => by
    simp only [agS] at h
    split at h
    · simp only [WpS] at w
      exact ws_of ps_retN (d.rt _ _ _ _ _ _ n.x n.S .non w)
    · cases h
  | .ite c a b, st, h => by
    simp only [agS] at h
    split at h
    · simp only [Bool.and_eq_true] at h
      exact st_ite O h.1.1 (sSs O hk a _ h.1.2) (sSs O hk b _ h.2)
    · cases h
  | .wh c b, st, h => by
    simp only [agS] at h
    split at h
    · simp only [Bool.and_eq_true] at h
      exact st_wh O h.1 (sSs O hk b _ h.2)
    · cases h
  | .for tg it b, st, h => by
    simp only [agS] at h
    split at h
    · simp only [Bool.and_eq_true] at h
      obtain ⟨⟨⟨⟨h1, h2⟩, h3⟩, h4⟩, h5⟩ := h
      refine st_for O h1 h2 h3 ?_ (sSs O hk b _ h5)
      intro i e
      subst e
      cases h4
    · cases h
  | .pass, st, h => fun csb Fb cs0 F0 H0 D D' ρ h' σ cs F H d n w => by
    simp only [agS] at h
    split at h
    · simp only [WpS] at w
      exact ws_of ps_pass (d.nx _ _ _ _ _ _ n w)
    · cases h
  | .brk, st, h => fun csb Fb cs0 F0 H0 D D' ρ h' σ cs F H d n w => by
    simp only [agS] at h
    split at h
    · simp only [WpS] at w
      exact ws_of ps_break (d.bk _ _ _ _ _ _ n w)
    · cases h
  | .cont, st, h => fun csb Fb cs0 F0 H0 D D' ρ h' σ cs F H d n w => by
    simp only [agS] at h
    split at h
    · simp only [WpS] at w
      exact ws_of ps_continue (d.ct _ _ _ _ _ _ n w)
    · cases h
  | .bad, st, h => fun csb Fb cs0 F0 H0 D D' ρ h' σ cs F H d n w => by
    simp only [WpS] at w
theorem sSs (O : SOk C T Cl X) (hk : X.env.scope.kind = .function) : ∀ (s : Ss) (st : List Stmt), agSs T X.env.scope X.N s st = true → SSs C Cl X s st
  | .nil, st, h => fun csb Fb cs0 F0 H0 D D' ρ h' σ cs F H d n w => by
    simp only [agSs] at h
    split at h
    · simp only [WpSs] at w
      exact wss_of pss_nil (d.nx _ _ _ _ _ _ n w)
    · cases h
  | .cons s r, st, h => fun csb Fb cs0 F0 H0 D D' ρ h' σ cs F H d n w => by
    simp only [WpSs] at w
    rcases agSs_cons h with ⟨i, rfl, h⟩ | ⟨x, xs, rfl, h1, h2⟩
    · simp only [WpS] at w
      split at w
      · rename_i xs hx
        obtain ⟨F', n'⟩ := n.frz hx (.inl ⟨xs, rfl, rfl⟩)
        exact sSs O hk r st h _ _ _ _ _ _ _ _ _ _ _ _ _ d n' w
      · rename_i xs hx
        obtain ⟨F', n'⟩ := n.frz hx (.inr ⟨xs, rfl, rfl⟩)
        exact sSs O hk r st h _ _ _ _ _ _ _ _ _ _ _ _ _ d n' w
      · exact w.elim
    · refine wss_of (pss_cons ps_we pss_we) (sS O hk s _ h1 _ _ _ _ _ _ { D' with nx := WSs X _ D' } _ _ _ _ _ _ (d.seq fun cs2 F2 H2 h2' σ2 ρ2 n2 q2 => ?_) n w)
      exact sSs O hk r _ h2 _ _ _ _ _ _ _ _ _ _ _ _ _ d n2 q2
end
end
end VL

set_option maxRecDepth 100000
set_option maxHeartbeats 4000000
/-! VL: a program's defs keep what the transformers say; the end of a law. -/
namespace VL
open PySem L2 Evl PyProof.Rows PySem.Spec

/-! ### the scope of a def, by one check -/
def scB (N ps : List Str) (sc : Scope) : Bool :=
  (match sc.kind with | .function => true | _ => false) && !sc.isCoroutine && !sc.isGenerator && decide N.Nodup && decide (N.take ps.length = ps) && ps.all (fun x => locB sc x) && sc.names.all (fun y => decide (y.2 ≠ .free))
theorem scB_ok {N ps : List Str} {sc : Scope} (h : scB N ps sc = true) : FnScope N ps sc := by
  unfold scB at h
  simp only [Bool.and_eq_true, Bool.not_eq_true', decide_eq_true_eq, List.all_eq_true] at h
  obtain ⟨⟨⟨⟨⟨⟨h1, h2⟩, h3⟩, h4⟩, h5⟩, h6⟩, h7⟩ := h
  refine ⟨?_, h2, h3, h4, h5, fun x hx => ?_, fun y hy => h7 y hy⟩
  · split at h1
    · assumption
    · cases h1
  · rcases locB_ok (h6 x hx) with q | q
    · exact .inl q
    · exact .inr q
/-- a def of the text and what it is in our syntax -/
structure FnT where
  name : Str
  st : Stmt
  N : List Str
  ps : List Str
def agF (T : Tab) (t : FnT) (F : Fn) : Bool := scB t.N t.ps (defScope t.st) && agSs T (defScope t.st) t.N F.body (defBody t.st) && decide (t.N.length = F.ns) && decide (t.ps.length = F.np)

structure PFacts (P : Prg) (T : Tab) (Cl : Nat → Addr) (ts : Nat → Option FnT) (K : PySem.W.Frag) (mg : Str → Option Value) : Prop where
  blt : ∀ x, x ∈ bltNames → mg x = none
  glob : ∀ g d, P.glob.lookup g = some d → ∃ u v, mg (T.gname g) = some u ∧ RelV v u ∧ ∀ cs F, Rep K cs F v d
  fn : ∀ f F, P.fns.lookup f = some F → ∃ t a fd qual, ts f = some t ∧ Fun K t.name qual t.st a fd ∧ agF T t F = true ∧ Binds K fd t.ps [] ∧ ∀ x, T.fname f = some x → mg x = some (.ref a) ∧ PySem.W.keepIn K (.ref a) = true
  fnm : ∀ f x, T.fname f = some x → ∃ F, P.fns.lookup f = some F
  cls : ∀ c x, T.cname c = some x → ∃ f F t a fd qual, P.init.lookup c = some f ∧ P.fns.lookup f = some F ∧ ts f = some t ∧ Fun K t.name qual t.st a fd ∧ agF T t F = true ∧ Binds K fd t.ps [] ∧ mg x = some (.ref (Cl c)) ∧ Mk K (Cl c) a
  mth : ∀ c m f, P.meth.lookup (c, m) = some f → ∃ F t a fd qual, P.fns.lookup f = some F ∧ ts f = some t ∧ Fun K t.name qual t.st a fd ∧ agF T t F = true ∧ Binds K fd t.ps [] ∧ Cls K (Cl c) ∧ Meth K (Cl c) m a
  fld : ∀ c f, P.flds.contains (c, f) = true → Cls K (Cl c) ∧ NoAttr K (Cl c) f

section
variable {prog : Program} {w : World} {K : PySem.W.Frag} {mg : Str → Option Value} {base : Heap} {P : Prg} {T : Tab} {Cl : Nat → Addr} {ts : Nat → Option FnT}
theorem getS_start {ds : List AV} : ∀ {vs : List V} {cs : List Addr} {F : Hp} {k i : Nat} {d : AV}, Reps K cs F vs ds → getS (ds.map Slot.val ++ List.replicate k Slot.no) i = .val d → ∃ v, vs[i]? = some v ∧ Rep K cs F v d := by
  induction ds with
  | nil =>
    intro vs cs F k i d r h
    have : ∀ (k i : Nat), getS (List.replicate k Slot.no) i = .no := by
      intro k
      induction k with
      | zero => intro i; rfl
      | succ k ih => intro i; cases i with
        | zero => rfl
        | succ i => exact ih i
    rw [List.map_nil, List.nil_append, this] at h
    cases h
  | cons x ds ih =>
    intro vs cs F k i d r h
    cases r with
    | cons r rs =>
      cases i with
      | zero => cases h; exact ⟨_, rfl, r⟩
      | succ i =>
        obtain ⟨v, h1, h2⟩ := ih (i := i) rs h
        exact ⟨v, by simpa using h1, h2⟩
theorem getS_startO {ds : List AV} : ∀ {k i : Nat} {c : Cell}, getS (ds.map Slot.val ++ List.replicate k Slot.no) i ≠ .own c := by
  induction ds with
  | nil =>
    intro k
    induction k with
    | zero => intro i c h; cases h
    | succ k ih => intro i c h; cases i with
      | zero => cases h
      | succ i => exact ih h
  | cons x ds ih =>
    intro k i c h
    cases i with
    | zero => cases h
    | succ i => exact ih h
theorem env_start {cs : List Addr} {F H : Hp} {N : List Str} {vs : List V} {ds : List AV} {ns : Nat} (hn : N.length = ns) (hl : vs.length ≤ N.length) (r : Reps K cs F vs ds) : EnvOk K Cl cs F H (L2.start N vs) (ds.map Slot.val ++ List.replicate (ns - ds.length) Slot.no) where
  len := by
    unfold L2.start
    simp only [List.length_append, List.length_map, List.length_replicate]
    rw [r.length, hn]
  val := fun i d h => by
    obtain ⟨v, h1, h2⟩ := getS_start r h
    refine ⟨v, ?_, h2⟩
    unfold L2.start
    rw [List.getElem?_append_left (by simpa using (List.getElem?_eq_some_iff.mp h1).1), List.getElem?_map, h1]
    rfl
  own := fun i c h => absurd h getS_startO
  dis := fun i j c c' a _ h => absurd h getS_startO
/-- every def, to any depth -/
theorem fn_all (hF : PFacts P T Cl ts K mg) : ∀ (n f : Nat) (F : Fn), P.fns.lookup f = some F → ∀ (t : FnT) (a : Addr) (fd : FuncData) (qual : Str), ts f = some t → Fun K t.name qual t.st a fd → agF T t F = true →
    FnG prog w K mg base (2 * n) a fd t.ps (spOf K Cl (ctxOf P (callN P n)) f)
  | 0, f, F, hf, t, a, fd, qual, ht, hfun, hag =>
    ⟨fun vs H Q E ⟨_, _, _, _, _, _, _, z, _⟩ => (show False from z).elim, fun A outer s H args us vs Q E _ _ _ _ _ ⟨_, _, _, _, _, _, _, z, _⟩ => (show False from z).elim⟩
  | n + 1, f, F, hf, t, a, fd, qual, ht, hfun, hag => by
    unfold agF at hag
    simp only [Bool.and_eq_true, decide_eq_true_eq] at hag
    obtain ⟨⟨⟨h1, h2⟩, h3⟩, h4⟩ := hag
    have sc := scB_ok h1
    have call : ∀ ds h Qa, callN P (n + 1) f ds h Qa → ds.length = F.np ∧ WpSs (ctxOf P (callN P n)) F.body { nx := fun _ h => Qa .non h, rt := Qa } (startS F ds) h := fun ds h Qa z => by
      have z' : (match P.fns.lookup f with | none => False | some F => ds.length = F.np ∧ WpSs (ctxOf P (callN P n)) F.body { nx := fun _ h => Qa .non h, rt := Qa } (startS F ds) h) := z
      rw [hf] at z'
      exact z'
    refine FnG.of_body (k := 2 * n + 1) hfun sc (fun vs H Q E ⟨cs, F', h, ds, Qa, _, r, z, _⟩ => ?_) (fun cdv A outer s H vs Q E hgd hr ⟨cs, F', h, ds, Qa, S, r, z, k⟩ => ?_)
    · rw [r.length, (call _ _ _ z).1, h4]
    · obtain ⟨z1, z2⟩ := call _ _ _ z
      have hN : vs.length ≤ t.N.length := by
        have := congrArg List.length sc.pre
        rw [List.length_take] at this
        rw [r.length, z1, ← h4]
        omega
      refine ⟨WSs _ (defBody t.st), pss_we, ?_⟩
      have O : SOk (ctxOf P (callN P n)) T Cl (cxOf CX0 prog w K mg base t.N qual (defScope t.st) a cdv A outer s H E).nox := by
        refine ⟨⟨sc.nd, rfl, ?_, hgd, hF.blt, hF.glob, fun g x hg => ?_, fun c x hx => ?_, fun c m g hx => ?_, hF.fld⟩, PassesOwn.never, fun id hid => ?_⟩
        · have := hr.un
          show (A.deeper (envOfC qual (defScope t.st) s.heap.objs.size a cdv)).units + 65 < cLine
          omega
        · obtain ⟨G, hG⟩ := hF.fnm g x hg
          obtain ⟨t', a', fd', qual', e1, e2, e3, e4, e5⟩ := hF.fn g G hG
          exact ⟨2 * n, a', fd', t'.ps, fn_all hF n g G hG t' a' fd' qual' e1 e2 e3, hr.mono (by omega), (e5 x hg).1, (e5 x hg).2, e4⟩
        · obtain ⟨g, G, t', a', fd', qual', e0, hG, e1, e2, e3, e4, e5, e6⟩ := hF.cls c x hx
          exact ⟨g, 2 * n, a', fd', t'.ps, e0, fn_all hF n g G hG t' a' fd' qual' e1 e2 e3, hr.mono (by omega), e5, e6, e4⟩
        · obtain ⟨G, t', a', fd', qual', hG, e1, e2, e3, e4, e5, e6⟩ := hF.mth c m g hx
          exact ⟨2 * n, a', fd', t'.ps, fn_all hF n g G hG t' a' fd' qual' e1 e2 e3, hr.mono (by omega), e5, e6, e4⟩
        · unfold tgN at hid
          simp only [Bool.or_eq_true, Bool.and_eq_true, decide_eq_true_eq] at hid
          rcases hid with hid | hid
          · exact ⟨.inl hid.1, .inl rfl⟩
          · exact ⟨.inr hid.1, .inl rfl⟩
      refine sSs O sc.kind F.body (defBody t.st) h2 cs F' cs F' H { nx := fun _ h => Qa .non h, rt := Qa } _ (startS F ds) h (L2.start t.N vs) cs F' H ⟨?_, ?_, ?_, ?_⟩ ⟨S, ?_, .refl, ?_, fun _ _ z => z, [], by simp⟩ z2
      · intro cs2 F2 H2 h2 σ2 ρ2 n2 q2
        exact k _ _ _ _ _ _ n2.x n2.S .non q2
      · intro v d cs2 F2 H2 h2 x2 S2 r2 q2
        exact k _ _ _ _ _ _ x2 S2 r2 q2
      · intro cs2 F2 H2 h2 σ2 ρ2 n2 q2
        exact q2.elim
      · intro cs2 F2 H2 h2 σ2 ρ2 n2 q2
        exact q2.elim
      · exact env_start h3 hN r
      · intro i c a' hh
        exact absurd hh getS_startO
end

/-! ### constants of the module -/
theorem relV_of {u : Value} {v : V} (h : absV u = some v) : RelV v u := by
  cases u <;> simp [absV] at h <;> subst h <;> first | rfl | exact ⟨_, rfl⟩
def valsOf : List Value → Option (List V)
  | [] => some []
  | u :: us => match absV u, valsOf us with
    | some v, some vs => some (v :: vs)
    | _, _ => none
theorem vals_of : ∀ {us : List Value} {vs : List V}, valsOf us = some vs → Vals vs us
  | [], vs, h => by simp [valsOf] at h; subst h; exact .nil
  | u :: us, vs, h => by
    simp only [valsOf] at h
    split at h
    · rename_i v vs' h1 h2
      cases h
      exact .cons (relV_of h1) (vals_of h2)
    · cases h
/-- plain items -/
def flatOf : List V → Option (List AV)
  | [] => some []
  | .non :: r => (flatOf r).map (.non :: ·)
  | .bl b :: r => (flatOf r).map (.bl b :: ·)
  | .int b :: r => (flatOf r).map (.int b :: ·)
  | .str b :: r => (flatOf r).map (.str b :: ·)
  | _ => none
theorem flat_reps {K : PySem.W.Frag} {cs : List Addr} {F : Hp} : ∀ {vs : List V} {ds : List AV}, flatOf vs = some ds → Reps K cs F vs ds
  | [], ds, h => by simp [flatOf] at h; subst h; exact .nil
  | v :: vs, ds, h => by
    cases v <;> simp [flatOf] at h <;> obtain ⟨l, h1, h2⟩ := h <;> subst h2 <;> refine .cons ?_ (flat_reps h1)
    · exact .non
    · exact .bl _
    · exact .int _
    · exact .str _
/-- a tuple of plain items that stands in the written part -/
theorem tup_glob {K : PySem.W.Frag} {a : Addr} {od : Option Addr} {its : Array Value} {n : Nat} {sl : Array (Option Value)} {vs : List V} {ds : List AV} (l : K.lookup a = some ⟨.type "tuple", od, .seq its n, sl⟩) (hz : its.size ≤ sizeLine)
    (hv : valsOf its.toList = some vs) (hd : flatOf vs = some ds) : ∀ cs F, Rep K cs F (.ref a) (.tup ds) := fun cs F =>
  .tup (.inr ⟨_, its, n, l, rfl, rfl, hz, vals_of hv⟩) (flat_reps hd)

/-! ### the end of a law -/
theorem law_sp {K : PySem.W.Frag} {Cl : Nat → Addr} {P : Prg} {n fl : Nat} (h : ∀ ns : List Int, ns.length ≤ 63 → callN P n fl [.ro (ns.map AV.int)] [] fun d _ => d = .bl true) :
    ∀ (H : Hp) (a : Addr) (ns : List Int), ns.length ≤ 63 → Only H → SqL K H a (ns.map V.int) → spOf K Cl (ctxOf P (callN P n)) fl [.ref a] H (fun v _ => v = .bl true) fun _ _ _ => False := by
  intro H a ns hl _ hS
  have S : StOk K Cl [] H H [] := ⟨fun _ _ z => z, rfl, by simp, fun n a q => by simp at q, fun a q => by simp at q⟩
  have rs : Reps K [] H (ns.map V.int) (ns.map AV.int) := by
    clear hS hl
    induction ns with
    | nil => exact .nil
    | cons n ns ih => exact .cons (.int n) ih
  refine ⟨[], H, [], [.ro (ns.map AV.int)], fun d _ => d = .bl true, S, .cons (.ro hS rs) .nil, h ns hl, fun v d cs' F' H' h' _ _ r q => ?_⟩
  subst q
  cases r
  rfl
/-- the head of a law whose def keeps what FnG says -/
theorem head_G {P : Program} {W : World} {K : PySem.W.Frag} {gl mb : Str → Option Value} {k : Nat} {fa a : Addr} {fd : FuncData} {x : Str} {sp : Sp} {s1 : Shared} {vs : List Value} {ns : List Int}
    (KX : K.In s1.heap) (hns : s1.heap.Ns mainGlobals gl) (hb : s1.heap.Ns builtinsNs mb) (hbb : ∀ x : Str, x ≠ "__name__" → mb x = bootBuiltins x) (hlim : s1.heap.NoLimit) (hg : s1.gens = #[])
    (ha : s1.heap.get? a = some ⟨.type "list", none, .seq vs.toArray 0, #[]⟩) (hi : IntsAre vs ns) (hl : ns.length ≤ sizeLine) (room : Room k callerA)
    (F : ∀ B : Heap, K.In B → B.Ns mainGlobals gl → FnG P W K gl B k fa fd [x] sp) (bnd : ∀ (s : Shared) (u : Value), BindsTo s fd ⟨[u], []⟩ [(x, u)])
    (want : ∀ H : Hp, Only H → SqL K H a (ns.map V.int) → sp [.ref a] H (fun v _ => v = .bl true) fun _ _ _ => False) :
    codeAny (model P W) callerA (.call (.ref fa) ⟨[.ref a], []⟩) (fun r s2 => r = .ok (.ret (.bool true)) ∧ OldK s1.heap s2.heap ∧ s2.os = s1.os ∧ AllBare s2.gens) s1 := by
  have rel : Vals (ns.map V.int) vs := vals_ints hi
  have core : ∀ H : Hp, Only H → SqL K H a (ns.map V.int) → HOk P W H s1.heap → (∀ b, H b ≠ none → b = a ∧ K.lookup a = none) →
      codeAny (model P W) callerA (.call (.ref fa) ⟨[.ref a], []⟩) (fun r s2 => r = .ok (.ret (.bool true)) ∧ OldK s1.heap s2.heap ∧ s2.os = s1.os ∧ AllBare s2.gens) s1 := by
    intro H only sq ok at_
    have off : ∀ b o es ep, s1.heap.get? b = some o → o.data = .dict es ep → H b = none := by
      intro b o es ep e d
      apply Classical.byContradiction
      intro z
      obtain ⟨rfl, _⟩ := at_ b z
      rw [ha] at e
      cases e
      cases d
    have nsH : ∀ b m, s1.heap.Ns b m → (hidT s1.heap H).Ns b m := by
      rintro b m ⟨o, es, ep, e, d, r⟩
      exact ⟨o, es, ep, hidT_get e (off b o es ep e d), d, r⟩
    have inK : K.In (hidT s1.heap H) := by
      intro b o e
      refine hidT_get (KX b o e) (Classical.byContradiction fun z => ?_)
      obtain ⟨rfl, n⟩ := at_ b z
      rw [n] at e
      cases e
    obtain ⟨mc, c1, c2⟩ := hlim
    have md : Mod K gl (hidT s1.heap H) := ⟨inK, nsH _ _ hns, ⟨mb, nsH _ _ hb, hbb⟩, ⟨mc, nsH _ _ c1, c2⟩⟩
    have nofr : ∀ b, b ∈ frs [] → False := fun b z => by cases z
    have env : Env0 P W K gl (hidT s1.heap H) callerA [] s1 H := by
      refine ⟨rfl, md, fun b o e => of_hidT e, ?_, trivial, fun b z => (nofr b z).elim, ok, .of_eq hg⟩
      rw [hidT_size]
      exact Nat.le_refl _
    refine codeAny_mono ((F _ inK (nsH _ _ hns)).go callerA [] s1 H ⟨[.ref a], []⟩ [.ref a] [.ref a] _ _ rfl room env (bnd s1 (.ref a)) (.cons rfl .nil) (want H only sq)) ?_
    intro r s2 z
    match r, z with
    | .ok (.ret u), ⟨v, H2, os, bare, un, ok2, rv, q⟩ =>
      have q : v = .bl true := q
      subst q
      have rv : u = Value.bool true := rv
      subst rv
      refine ⟨rfl, OldK.of_keep ?_, os, bare⟩
      intro b o e
      cases hb : H b with
      | none => exact un.keep b o e hb (fun z => nofr b z) (by simp)
      | some y =>
        rcases only b with z | ⟨ob, xs, z⟩
        · rw [hb] at z; cases z
        · have f1 := (ok b _ z).1
          have f2 := (ok2 b _ (un.frzs b ob _ z)).1
          rw [e] at f1
          cases f1
          exact f2
    | .ok .next, z => exact z.elim
    | .ok .brk, z => exact z.elim
    | .ok .cont, z => exact z.elim
    | .error _, z => exact z.elim
  cases at_ : K.lookup a with
  | some o =>
    have e := KX a o at_
    rw [ha] at e
    cases e
    refine core (fun _ => none) (fun _ => .inl rfl) (.inr ⟨_, vs.toArray, 0, at_, rfl, rfl, rfl, ?_, by simpa using rel⟩) (fun b u z => nomatch z) fun b z => absurd rfl z
    rw [List.size_toArray, hi.length]
    exact hl
  | none =>
    have me : (fun b => if b = a then some (HO.frz ⟨.type "list", none, .seq vs.toArray 0, #[]⟩ (.lst (ns.map V.int))) else none) a = some (HO.frz ⟨.type "list", none, .seq vs.toArray 0, #[]⟩ (.lst (ns.map V.int))) := if_pos rfl
    have no : ∀ b, b ≠ a → (fun b => if b = a then some (HO.frz ⟨.type "list", none, .seq vs.toArray 0, #[]⟩ (.lst (ns.map V.int))) else none) b = none := fun b z => if_neg z
    refine core _ (fun b => ?_) (.inl (.inr ⟨_, me⟩)) (fun b u z => ?_) fun b z => ⟨Classical.byContradiction fun n => z (no b n), at_⟩
    · by_cases n : b = a
      · subst n; exact .inr ⟨_, _, me⟩
      · exact .inl (no b n)
    · by_cases n : b = a
      · subst n
        cases me.symm.trans z
        exact ⟨ha, by rw [List.length_map]; exact hl, vs, _, rel, ha⟩
      · cases (no b n).symm.trans z
theorem walk_G {l : PySem.W.OpenLaw} {n k : Nat} {q : Program} {loose : List Str} {XP : (Str → Option Value) → Heap → Prop} {YP : World → Heap → Prop} {d : DefRec} {K : Params → PySem.W.Frag} {x : Str}
    (hn : l.most = some n) (hn2 : n ≤ sizeLine) (hdf : d.params.defaults = []) (room : Room k callerA) (hY : ∀ (w : World) (h : Heap), YP w h → (K w.params).In h)
    (F : ∀ (w : World) (gl : Str → Option Value) (fa : Addr) (h : Heap), (K w.params).In h → h.Ns mainGlobals gl → gl d.name = some (.ref fa) →
      ∃ (fd : FuncData) (sp : Sp), (∀ (s : Shared) (u : Value), BindsTo s fd ⟨[u], []⟩ [(x, u)]) ∧ (∀ B : Heap, (K w.params).In B → B.Ns mainGlobals gl → FnG l.prog w (K w.params) gl B k fa fd [x] sp) ∧
        ∀ (H : Hp) (a : Addr) (ns : List Int), ns.length ≤ n → Only H → SqL (K w.params) H a (ns.map V.int) → sp [.ref a] H (fun v _ => v = .bl true) fun _ _ _ => False) :
    PySem.W.WalkO q loose XP YP l.row.toRowW d [] (fun f vs => PySem.call f vs) := by
  refine Att.attach_call hn hdf fun w s0 s1 gl mb fa o pm cd dc a vs ns G Y ho hd hcd hm hobj hints hlen hg => ?_
  have KX := hY w s1.heap Y
  obtain ⟨fd, sp, bnd, hF, want⟩ := F w gl fa s1.heap KX G.T.g hm
  exact head_G KX G.T.g G.T.b G.T.builtins G.T.nolimit hg hobj hints (Nat.le_trans hlen hn2) room hF bnd fun H hO hS => want H a ns hlen hO hS
end VL

set_option maxRecDepth 100000
set_option maxHeartbeats 4000000
/-! VL: reasoning over the transformers. -/
namespace VL
open PySem L2

section
variable {h : AHeap} {Q : KA} {i j : Int} {x y : AV} {s t : Str} {b c : Bool} {xs ys : List AV}
theorem k_add : binK h .Add (.int i) (.int j) Q = Q (.int (i + j)) := rfl
theorem k_addS : binK h .Add (.str s) (.str t) Q = (s.length + t.length ≤ sizeLine ∧ Q (.str (s ++ t))) := rfl
theorem k_addT : binK h .Add (.tup xs) (.tup ys) Q = (xs.length + ys.length ≤ sizeLine ∧ Q (.tup (xs ++ ys))) := rfl
theorem k_sub : binK h .Sub (.int i) (.int j) Q = Q (.int (i - j)) := rfl
theorem k_mul : binK h .Mult (.int i) (.int j) Q = (CMulA i j ∧ Q (.int (i * j))) := rfl
theorem k_mulS : binK h .Mult (.str s) (.int j) Q = ((-(2 ^ 60) < j ∧ j < 2 ^ 60 ∧ s.length * j.toNat ≤ 1000000) ∧ Q (.str (strRep s j))) := rfl
theorem k_fdiv : binK h .FloorDiv (.int i) (.int j) Q = (CDivA j ∧ Q (.int (i / j))) := rfl
theorem k_mod : binK h .Mod (.int i) (.int j) Q = (0 < j ∧ Q (.int (i % j))) := rfl
theorem k_pow : binK h .Pow (.int i) (.int j) Q = (CPow i j ∧ Q (.int (i ^ j.toNat))) := rfl
theorem k_neg : negK (.int i) Q = Q (.int (-i)) := rfl
theorem k_lt : cmpK h .Lt (.int i) (.int j) Q = Q (.bl (decide (i < j))) := rfl
theorem k_le : cmpK h .LtE (.int i) (.int j) Q = Q (.bl (decide (i ≤ j))) := rfl
theorem k_gt : cmpK h .Gt (.int i) (.int j) Q = Q (.bl (decide (j < i))) := rfl
theorem k_ge : cmpK h .GtE (.int i) (.int j) Q = Q (.bl (decide (j ≤ i))) := rfl
theorem k_eqI : cmpK h .Eq (.int i) (.int j) Q = Q (.bl (decide (i = j))) := rfl
theorem k_neI : cmpK h .NotEq (.int i) (.int j) Q = Q (.bl (!decide (i = j))) := rfl
theorem k_eqS : cmpK h .Eq (.str s) (.str t) Q = Q (.bl (decide (s = t))) := rfl
theorem k_neS : cmpK h .NotEq (.str s) (.str t) Q = Q (.bl (!decide (s = t))) := rfl
theorem k_eqB : cmpK h .Eq (.bl b) (.bl c) Q = Q (.bl (decide (b = c))) := rfl
theorem k_neB : cmpK h .NotEq (.bl b) (.bl c) Q = Q (.bl (!decide (b = c))) := rfl
theorem k_is : cmpK h .Is x .non Q = Q (.bl (isNon x)) := rfl
theorem k_isn : cmpK h .IsNot x .non Q = Q (.bl (!isNon x)) := rfl
theorem k_in : cmpK h .In x y Q = inK h false x y Q := rfl
theorem k_nin : cmpK h .NotIn x y Q = inK h true x y Q := rfl
theorem k_inS {c : Nat} {b : Bool} : inK h b (.str ⟨#[c]⟩) (.str t) Q = Q (.bl (if b then !decide (c ∈ t.cps.toList) else decide (c ∈ t.cps.toList))) := rfl
theorem k_inF {b : Bool} (hx : flatA x = true) (hy : viewT h y = some xs) (hf : xs.all flatA = true) (hn : ∀ z, y ≠ .str z) (q : Q (.bl (if b then !(xs.any fun y => eqF y x) else xs.any fun y => eqF y x))) : inK h b x y Q := by
  unfold inK
  split
  · exact absurd rfl (hn _)
  · rw [hy]
    exact ⟨hx, hf, q⟩
theorem isi_non_int : isiK .non "int" h Q = Q (.bl false) := by simp [isiK, view]
theorem isi_non_bool : isiK .non "bool" h Q = Q (.bl false) := by simp [isiK, view]
theorem isi_non_str : isiK .non "str" h Q = Q (.bl false) := by simp [isiK, view]
theorem isi_non_list : isiK .non "list" h Q = Q (.bl false) := by simp [isiK, view]
theorem isi_non_tuple : isiK .non "tuple" h Q = Q (.bl false) := by simp [isiK, view]
theorem isi_bl_int : isiK (.bl b) "int" h Q = Q (.bl true) := by simp [isiK, view]
theorem isi_bl_bool : isiK (.bl b) "bool" h Q = Q (.bl true) := by simp [isiK, view]
theorem isi_bl_str : isiK (.bl b) "str" h Q = Q (.bl false) := by simp [isiK, view]
theorem isi_bl_list : isiK (.bl b) "list" h Q = Q (.bl false) := by simp [isiK, view]
theorem isi_bl_tuple : isiK (.bl b) "tuple" h Q = Q (.bl false) := by simp [isiK, view]
theorem isi_int_int : isiK (.int i) "int" h Q = Q (.bl true) := by simp [isiK, view]
theorem isi_int_bool : isiK (.int i) "bool" h Q = Q (.bl false) := by simp [isiK, view]
theorem isi_int_str : isiK (.int i) "str" h Q = Q (.bl false) := by simp [isiK, view]
theorem isi_int_list : isiK (.int i) "list" h Q = Q (.bl false) := by simp [isiK, view]
theorem isi_int_tuple : isiK (.int i) "tuple" h Q = Q (.bl false) := by simp [isiK, view]
theorem isi_str_int : isiK (.str s) "int" h Q = Q (.bl false) := by simp [isiK, view]
theorem isi_str_bool : isiK (.str s) "bool" h Q = Q (.bl false) := by simp [isiK, view]
theorem isi_str_str : isiK (.str s) "str" h Q = Q (.bl true) := by simp [isiK, view]
theorem isi_str_list : isiK (.str s) "list" h Q = Q (.bl false) := by simp [isiK, view]
theorem isi_str_tuple : isiK (.str s) "tuple" h Q = Q (.bl false) := by simp [isiK, view]
theorem isi_tup_int : isiK (.tup xs) "int" h Q = Q (.bl false) := by simp [isiK, view]
theorem isi_tup_bool : isiK (.tup xs) "bool" h Q = Q (.bl false) := by simp [isiK, view]
theorem isi_tup_str : isiK (.tup xs) "str" h Q = Q (.bl false) := by simp [isiK, view]
theorem isi_tup_list : isiK (.tup xs) "list" h Q = Q (.bl false) := by simp [isiK, view]
theorem isi_tup_tuple : isiK (.tup xs) "tuple" h Q = Q (.bl true) := by simp [isiK, view]
theorem isi_lst_int : isiK (.lst xs) "int" h Q = Q (.bl false) := by simp [isiK, view]
theorem isi_lst_bool : isiK (.lst xs) "bool" h Q = Q (.bl false) := by simp [isiK, view]
theorem isi_lst_str : isiK (.lst xs) "str" h Q = Q (.bl false) := by simp [isiK, view]
theorem isi_lst_list : isiK (.lst xs) "list" h Q = Q (.bl true) := by simp [isiK, view]
theorem isi_lst_tuple : isiK (.lst xs) "tuple" h Q = Q (.bl false) := by simp [isiK, view]
theorem isi_ro_int : isiK (.ro xs) "int" h Q = Q (.bl false) := by simp [isiK, view]
theorem isi_ro_bool : isiK (.ro xs) "bool" h Q = Q (.bl false) := by simp [isiK, view]
theorem isi_ro_str : isiK (.ro xs) "str" h Q = Q (.bl false) := by simp [isiK, view]
theorem isi_ro_list : isiK (.ro xs) "list" h Q = Q (.bl true) := by simp [isiK, view]
theorem isi_ro_tuple : isiK (.ro xs) "tuple" h Q = Q (.bl false) := by simp [isiK, view]
theorem k_intB : bltK h .int [.bl b] Q = Q (.int (if b = true then 1 else 0)) := rfl
theorem isNon_non : isNon .non = true := rfl
theorem isNon_int : isNon (.int i) = false := rfl
theorem isNon_str : isNon (.str s) = false := rfl
theorem isNon_lst : isNon (.lst xs) = false := rfl
theorem isNon_tup : isNon (.tup xs) = false := rfl
theorem isNon_adr {n : Nat} : isNon (.adr n) = false := rfl
theorem k_subL (hv : viewT h x = some xs) (hn : ∀ z, x ≠ .str z) {d : AV} (e : atI xs i = some d) (q : Q d) : subK h x (.int i) Q := by
  unfold subK
  split
  · exact absurd rfl (hn _)
  · rw [hv]
    simp only [e]
    exact q
theorem k_subS {k : Nat} (hz : s.length ≤ sizeLine) {c : Nat} (e : s.cps.toList[k]? = some c) (q : Q (.str ⟨#[c]⟩)) : subK h (.str s) (.int (k : Int)) Q := by
  have hk : k < s.cps.toList.length := (List.getElem?_eq_some_iff.mp e).1
  have : atI s.cps.toList (k : Int) = some c := by
    unfold atI
    rw [Evl.ixN_nat hk]
    exact e
  refine ⟨hz, ?_⟩
  rw [this]
  exact q
theorem atI_nat {α : Type} {l : List α} {k : Nat} (hk : k < l.length) : atI l (k : Int) = l[k]? := by
  unfold atI
  rw [Evl.ixN_nat hk]
  rfl
theorem k_lenS : bltK h .len [.str s] Q = (s.length ≤ sizeLine ∧ Q (.int s.length)) := rfl
theorem k_lenL : bltK h .len [.lst xs] Q = Q (.int xs.length) := rfl
theorem k_lenR : bltK h .len [.ro xs] Q = Q (.int xs.length) := rfl
theorem k_lenT : bltK h .len [.tup xs] Q = Q (.int xs.length) := rfl
theorem k_abs : bltK h .abs [.int i] Q = Q (.int (if i < 0 then -i else i)) := rfl
theorem k_int : bltK h .int [.int i] Q = Q (.int i) := rfl
theorem k_intS {n : Int} (e : PySem.intText? s = some n) (hz : s.length ≤ 640) (q : Q (.int n)) : bltK h .int [.str s] Q := by
  show (match PySem.intText? s with | some n => s.length ≤ 640 ∧ Q (.int n) | none => False)
  rw [e]
  exact ⟨hz, q⟩
theorem k_str : bltK h .str [.int i] Q = (i.natAbs.log2 < 1920 ∧ Q (.str (toString i))) := rfl
theorem k_max2 : bltK h .max2 [.int i, .int j] Q = Q (.int (if j > i then j else i)) := rfl
theorem k_min2 : bltK h .min2 [.int i, .int j] Q = Q (.int (if j < i then j else i)) := rfl
theorem k_sliceS {lo hi : Option Int} : sliceK h (.str s) lo hi Q = (s.length ≤ sizeLine ∧ Q (.str (cutS s lo hi))) := rfl
theorem k_sliceT {lo hi : Option Int} : sliceK h (.tup xs) lo hi Q = Q (.tup (cut xs lo hi)) := rfl
theorem viewT_lst : viewT h (.lst xs) = some xs := rfl
theorem viewT_ro : viewT h (.ro xs) = some xs := rfl
theorem viewT_tup : viewT h (.tup xs) = some xs := rfl
theorem view_lst : view h (.lst xs) = some xs := rfl
theorem view_ro : view h (.ro xs) = some xs := rfl
theorem viewW_lst : viewW h (.lst xs) = some xs := rfl
theorem tru_bl : truK h (.bl b) = fun Q => Q b := rfl
theorem asStrs_map (l : List Str) : asStrs (l.map AV.str) = some l := by
  induction l with
  | nil => rfl
  | cons x l ih => simp [asStrs, ih]
theorem asInts_map (l : List Int) : asInts (l.map AV.int) = some l := by
  induction l with
  | nil => rfl
  | cons x l ih => simp [asInts, ih]
theorem asBools_map (l : List Bool) : asBools (l.map AV.bl) = some l := by
  induction l with
  | nil => rfl
  | cons x l ih => simp [asBools, ih]
end
theorem mulA_r {i j : Int} (h1 : -18446744073709551616 < j) (h2 : j < 18446744073709551616) : CMulA i j := by
  have e : (2 ^ 64 : Int) = 18446744073709551616 := by decide
  refine .inl (.inr ⟨?_, ?_⟩) <;> omega
theorem mulA_l {i j : Int} (h1 : -18446744073709551616 < i) (h2 : i < 18446744073709551616) : CMulA i j := by
  have e : (2 ^ 64 : Int) = 18446744073709551616 := by decide
  refine .inl (.inl ⟨?_, ?_⟩) <;> omega
theorem divA {j : Int} (h1 : 0 < j) (h2 : j < 18446744073709551616) : CDivA j := ⟨h1, by
  have : j.natAbs < 2 ^ 64 := by
    have e : (2 ^ 64 : Nat) = 18446744073709551616 := by decide
    omega
  have := PySem.Flt.log2_lt_of (by decide : 0 < 64) this
  omega⟩

/-! ### loops -/
/-- a for by an invariant; the body is shown for any ends that follow from it -/
theorem for_inv {B : AV → Kt → Env → AHeap → Prop} {chk : AHeap → Prop} {D : Kt} {xs : List AV} {ρ : Env} {h : AHeap} (Inv : Nat → Env → AHeap → Prop) (h0 : Inv 0 ρ h) (hc : ∀ i ρ h, i ≤ xs.length → Inv i ρ h → chk h)
    (hs : ∀ i x ρ h (D' : Kt), xs[i]? = some x → Inv i ρ h → (∀ ρ h, Inv (i + 1) ρ h → D'.nx ρ h) → (∀ ρ h, Inv (i + 1) ρ h → D'.ct ρ h) → (∀ v h, D.rt v h → D'.rt v h) → (∀ ρ h, D.nx ρ h → D'.bk ρ h) → B x D' ρ h)
    (hd : ∀ ρ h, Inv xs.length ρ h → D.nx ρ h) : forL B chk D xs ρ h := by
  have key : ∀ (ys : List AV) (i : Nat), xs.drop i = ys → i ≤ xs.length → ∀ ρ h, Inv i ρ h → forL B chk D ys ρ h := by
    intro ys
    induction ys with
    | nil =>
      intro i e hi ρ h hI
      have : i = xs.length := by
        have := List.drop_eq_nil_iff.mp e
        omega
      subst this
      exact ⟨hc _ _ _ hi hI, hd _ _ hI⟩
    | cons y ys ih =>
      intro i e hi ρ h hI
      have hlt : i < xs.length := by
        cases Nat.lt_or_ge i xs.length with
        | inl q => exact q
        | inr q => rw [List.drop_of_length_le q] at e; cases e
      have hx : xs[i]? = some y := by
        rw [List.drop_eq_getElem_cons hlt] at e
        cases e
        exact List.getElem?_eq_getElem hlt
      have ht : xs.drop (i + 1) = ys := by
        rw [List.drop_eq_getElem_cons hlt] at e
        exact (List.cons.inj e).2
      exact ⟨hc _ _ _ hi hI, hs i y ρ h _ hx hI (fun ρ h q => ih (i + 1) ht hlt ρ h q) (fun ρ h q => ih (i + 1) ht hlt ρ h q) (fun _ _ q => q) (fun _ _ q => q)⟩
  exact key xs 0 rfl (Nat.zero_le _) ρ h h0
/-- a comprehension by an invariant over what it has made -/
theorem comp_inv {B : AV → AHeap → (Option AV → AHeap → Prop) → Prop} {chk : AHeap → Prop} {xs acc : List AV} {h : AHeap} {Q : List AV → AHeap → Prop} (Inv : Nat → List AV → AHeap → Prop) (h0 : Inv 0 acc h) (hc : ∀ i a h, i ≤ xs.length → Inv i a h → chk h)
    (hs : ∀ i x a h R, xs[i]? = some x → Inv i a h → (∀ (y : AV) h', Inv (i + 1) (a ++ [y]) h' → R (some y) h') → (∀ h', Inv (i + 1) a h' → R none h') → B x h R) (hd : ∀ a h, Inv xs.length a h → Q a h) : compL B chk xs acc h Q := by
  have key : ∀ (ys : List AV) (i : Nat), xs.drop i = ys → i ≤ xs.length → ∀ a h, Inv i a h → compL B chk ys a h Q := by
    intro ys
    induction ys with
    | nil =>
      intro i e hi a h hI
      have : i = xs.length := by
        have := List.drop_eq_nil_iff.mp e
        omega
      subst this
      exact ⟨hc _ _ _ hi hI, hd _ _ hI⟩
    | cons y ys ih =>
      intro i e hi a h hI
      have hlt : i < xs.length := by
        cases Nat.lt_or_ge i xs.length with
        | inl q => exact q
        | inr q => rw [List.drop_of_length_le q] at e; cases e
      have hx : xs[i]? = some y := by
        rw [List.drop_eq_getElem_cons hlt] at e
        cases e
        exact List.getElem?_eq_getElem hlt
      have ht : xs.drop (i + 1) = ys := by
        rw [List.drop_eq_getElem_cons hlt] at e
        exact (List.cons.inj e).2
      exact ⟨hc _ _ _ hi hI, hs i y a h _ hx hI (fun y h q => ih (i + 1) ht hlt _ h q) (fun h q => ih (i + 1) ht hlt _ h q)⟩
  exact key xs 0 rfl (Nat.zero_le _) acc h h0
/-- a comprehension without a test whose items make what f says, the heap as it was -/
theorem comp_map {B : AV → AHeap → (Option AV → AHeap → Prop) → Prop} {xs : List AV} {h : AHeap} {Q : List AV → AHeap → Prop} (f : Nat → AV) (hs : ∀ i x R, xs[i]? = some x → R (some (f i)) h → B x h R) (hd : Q ((List.range xs.length).map f) h) :
    compL B (fun _ => True) xs [] h Q := by
  refine comp_inv (fun i a h' => a = (List.range i).map f ∧ h' = h) ⟨rfl, rfl⟩ (fun _ _ _ _ _ => trivial) ?_ ?_
  · rintro i x a h' R hx ⟨rfl, rfl⟩ k1 k2
    exact hs i x R hx (k1 _ _ ⟨by rw [List.range_succ, List.map_append]; rfl, rfl⟩)
  · rintro a h' ⟨rfl, rfl⟩
    exact hd
/-- a while by an invariant and a measure -/
theorem wh_inv {T : Env → AHeap → (Bool → AHeap → Prop) → Prop} {B : Kt → Env → AHeap → Prop} {D : Kt} {ρ : Env} {h : AHeap} (W : Nat → Env → AHeap → Prop) (m0 : Nat) (h0 : W m0 ρ h)
    (hs : ∀ m ρ h (D' : Kt), W m ρ h → (∀ m' ρ h, m' < m → W m' ρ h → D'.nx ρ h) → (∀ m' ρ h, m' < m → W m' ρ h → D'.ct ρ h) → (∀ v h, D.rt v h → D'.rt v h) → (∀ ρ h, D.nx ρ h → D'.bk ρ h) → T ρ h fun b h1 => if b = true then B D' ρ h1 else D.nx ρ h1) : whL T B D ρ h :=
  ⟨W, ⟨m0, h0⟩, fun m ρ h w => hs m ρ h _ w (fun m' _ _ a b => ⟨m', a, b⟩) (fun m' _ _ a b => ⟨m', a, b⟩) (fun _ _ q => q) (fun _ _ q => q)⟩
theorem ite_b {c : Prop} [Decidable c] {A B : Prop} (h1 : c → A) (h2 : ¬ c → B) : if decide c = true then A else B := by
  by_cases h : c
  · rw [if_pos (decide_eq_true h)]; exact h1 h
  · rw [if_neg (by rw [decide_eq_false h]; decide)]; exact h2 h
theorem ite_p {c : Prop} [Decidable c] {A B : Prop} (h1 : c → A) (h2 : ¬ c → B) : if c then A else B := by
  by_cases h : c
  · rw [if_pos h]; exact h1 h
  · rw [if_neg h]; exact h2 h
theorem ctx_call {P : Prg} {c} : (ctxOf P c).call = c := rfl
theorem ctx_glob {P : Prg} {c} {g : Nat} : (ctxOf P c).glob g = P.glob.lookup g := rfl
theorem items_range {n : Nat} {f : Nat → AV} {i : Nat} {x : AV} (h : ((List.range n).map f)[i]? = some x) : i < n ∧ x = f i := by
  rw [List.getElem?_map] at h
  obtain ⟨j, h1, rfl⟩ := Option.map_eq_some_iff.mp h
  have h2 := List.getElem?_eq_some_iff.mp h1
  obtain ⟨h3, h4⟩ := h2
  simp at h3 h4
  exact ⟨h3, by rw [h4]⟩
theorem items_map {α : Type} {l : List α} {f : α → AV} {i : Nat} {x : AV} (h : (l.map f)[i]? = some x) : ∃ a, l[i]? = some a ∧ x = f a := by
  rw [List.getElem?_map] at h
  obtain ⟨j, h1, rfl⟩ := Option.map_eq_some_iff.mp h
  exact ⟨j, h1, rfl⟩
theorem cut_take {α : Type} (l : List α) (i j n : Nat) (e : n = l.length) : (l.drop (min i n)).take (min j n - min i n) = (l.drop i).take (j - i) := by
  subst e
  by_cases hi : l.length ≤ i
  · rw [Nat.min_eq_right hi, List.drop_of_length_le (Nat.le_refl _), List.drop_of_length_le hi]; simp
  · rw [Nat.min_eq_left (by omega : i ≤ l.length)]
    by_cases hj : j ≤ l.length
    · rw [Nat.min_eq_left hj]
    · rw [Nat.min_eq_right (by omega : l.length ≤ j), List.take_of_length_le (by simp), List.take_of_length_le (by simp; omega)]
theorem cut_ss {α : Type} (l : List α) (i j : Nat) : cut l (some (i : Int)) (some (j : Int)) = (l.drop i).take (j - i) := by
  unfold cut
  rw [HT.sIx_nat, HT.sIx_nat, cut_take _ _ _ _ rfl]
theorem cut_ns {α : Type} (l : List α) (j : Nat) : cut l none (some (j : Int)) = l.take j := by
  have := cut_ss l 0 j
  rw [List.drop_zero, Nat.sub_zero] at this
  rw [← this]
  unfold cut
  rw [HT.sIx_nat, HT.sIx_nat, HT.sIx_none, Nat.zero_min]
theorem cut_sn {α : Type} (l : List α) (i : Nat) : cut l (some (i : Int)) none = l.drop i := by
  have := cut_ss l i l.length
  rw [List.take_of_length_le (by simp)] at this
  rw [← this]
  unfold cut
  rw [HT.sIx_nat, HT.sIx_nat, HT.sIx_none, Nat.min_self]
theorem look_mem {α β : Type} [BEq α] [LawfulBEq α] {l : List (α × β)} {k : α} {v : β} (h : l.lookup k = some v) : (k, v) ∈ l := by
  induction l with
  | nil => cases h
  | cons x l ih =>
    obtain ⟨a, b⟩ := x
    rw [List.lookup_cons] at h
    cases e : k == a with
    | true =>
      rw [e] at h
      have h : some b = some v := h
      cases h
      rw [eq_of_beq e]
      exact List.mem_cons_self ..
    | false =>
      rw [e] at h
      exact List.mem_cons_of_mem _ (ih h)
theorem call_of {P : Prg} {n f : Nat} {F : Fn} {args : List AV} {h : AHeap} {Q : AV → AHeap → Prop} (e : P.fns.lookup f = some F) (l : args.length = F.np) (w : WpSs (ctxOf P (callN P n)) F.body { nx := fun _ h => Q .non h, rt := Q } (startS F args) h) : callN P (n + 1) f args h Q := by
  show (match P.fns.lookup f with | none => False | some F => args.length = F.np ∧ WpSs (ctxOf P (callN P n)) F.body { nx := fun _ h => Q .non h, rt := Q } (startS F args) h)
  rw [e]
  exact ⟨l, w⟩
/-- of all that stand in a table -/
def AllP {α β : Type} (G : α → β → Prop) : List (α × β) → Prop
  | [] => True
  | (f, F) :: r => G f F ∧ AllP G r
theorem look_all {α β : Type} [BEq α] [LawfulBEq α] {G : α → β → Prop} {k : α} {v : β} : ∀ {l : List (α × β)}, AllP G l → l.lookup k = some v → G k v
  | [], _, h => by cases h
  | (a, b) :: l, g, h => by
    rw [List.lookup_cons] at h
    cases e : k == a with
    | true =>
      rw [e] at h
      have h : some b = some v := h
      cases h
      rw [eq_of_beq e]
      exact g.1
    | false =>
      rw [e] at h
      exact look_all g.2 h
end VL

set_option maxRecDepth 100000
set_option maxHeartbeats 4000000
namespace Wd
open PySem L2 VL
def signs : List Str := ["<=", ">=", "==", "!=", "<", ">", "=", "+", "-", "(", ")", "[", "]", ",", ":"]
def reserved : List Str := ["proc", "list", "needs", "gives", "keeps", "falls", "from", "to", "let", "while", "if", "else", "end", "choose", "check", "call", "swap", "return", "skip", "and", "or", "not", "all", "sorted", "below", "either", "len", "old", "moves", "result"]
def b_behind_run_1 : Ss := (.cons (.aug 3 .Add (.cint 1)) .nil)
def b_behind_run_2 : Ss := (.cons (.ret (.var 3)) .nil)
def b_behind_run : Ss := (.cons (.asg (.nm 3) (.var 1)) (.cons (.wh (.and (.cmp .Lt (.var 3) (.blt .len (.cons (.var 0) .nil))) (.cmp .In (.sub (.var 0) (.var 3)) (.var 2))) b_behind_run_1) b_behind_run_2))
def b_sign_at_1 : Ss := (.cons (.ite (.cmp .Eq (.slice (.var 0) (.so (.var 1)) (.so (.bin .Add (.var 1) (.blt .len (.cons (.var 2) .nil))))) (.var 2)) (.cons (.ret (.var 2)) .nil) .nil) .nil)
def b_sign_at_2 : Ss := (.cons (.ret (.cstr "")) .nil)
def b_sign_at : Ss := (.cons (.for (.nm 2) (.seq (.glob 0)) b_sign_at_1) b_sign_at_2)
def b_behind_word_1 : Ss := (.cons (.ret (.bin .Add (.var 1) (.blt .len (.cons (.call 1 (.cons (.var 0) (.cons (.var 1) .nil))) .nil)))) .nil)
def b_behind_word_2 : Ss := (.cons (.ite (.cmp .In (.sub (.var 0) (.var 1)) (.glob 2)) (.cons (.ret (.call 0 (.cons (.var 0) (.cons (.var 1) (.cons (.glob 2) .nil))))) .nil) .nil) b_behind_word_1)
def b_behind_word : Ss := (.cons (.ite (.cmp .In (.sub (.var 0) (.var 1)) (.glob 1)) (.cons (.ret (.call 0 (.cons (.var 0) (.cons (.var 1) (.cons (.glob 1) .nil))))) .nil) .nil) b_behind_word_2)
def b_split_row_1 : Ss := (.cons (.appE (.var 1) (.slice (.var 0) (.so (.var 2)) (.so (.var 3)))) (.cons (.asg (.nm 2) (.call 0 (.cons (.var 0) (.cons (.var 3) (.cons (.cstr " ") .nil))))) .nil))
def b_split_row_2 : Ss := (.cons (.asg (.nm 3) (.call 2 (.cons (.var 0) (.cons (.var 2) .nil)))) (.cons (.ite (.cmp .Eq (.var 3) (.var 2)) (.cons (.ret .cnon) .nil) .nil) b_split_row_1))
def b_split_row_3 : Ss := (.cons (.ret (.var 1)) .nil)
def b_split_row : Ss := (.cons (.asg (.nm 1) (.new (.lst .nil))) (.cons (.asg (.nm 2) (.call 0 (.cons (.var 0) (.cons (.cint 0) (.cons (.cstr " ") .nil))))) (.cons (.wh (.cmp .Lt (.var 2) (.blt .len (.cons (.var 0) .nil))) b_split_row_2) b_split_row_3)))
def b_is_name_1 : Ss := (.cons (.ret (.cmp .Eq (.call 0 (.cons (.var 0) (.cons (.cint 0) (.cons (.glob 1) .nil)))) (.blt .len (.cons (.var 0) .nil)))) .nil)
def b_is_name : Ss := (.cons (.ite (.or (.cmp .In (.var 0) (.glob 3)) (.not (.chain .LtE .LtE (.cint 1) (.blt .len (.cons (.var 0) .nil)) (.glob 4)))) (.cons (.ret (.cbl false)) .nil) .nil) b_is_name_1)
def b_is_number_1 : Ss := (.cons (.ret (.cmp .Eq (.call 0 (.cons (.var 0) (.cons (.cint 0) (.cons (.glob 2) .nil)))) (.blt .len (.cons (.var 0) .nil)))) .nil)
def b_is_number : Ss := (.cons (.ite (.or (.not (.chain .LtE .LtE (.cint 1) (.blt .len (.cons (.var 0) .nil)) (.glob 5))) (.and (.cmp .Eq (.sub (.var 0) (.cint 0)) (.cstr "0")) (.cmp .NotEq (.var 0) (.cstr "0")))) (.cons (.ret (.cbl false)) .nil) .nil) b_is_number_1)
class U (P : Prg) : Prop where
  f_behind_run : P.fns.lookup 0 = some ⟨3, 4, b_behind_run⟩
  f_sign_at : P.fns.lookup 1 = some ⟨2, 3, b_sign_at⟩
  f_behind_word : P.fns.lookup 2 = some ⟨2, 2, b_behind_word⟩
  f_split_row : P.fns.lookup 3 = some ⟨1, 4, b_split_row⟩
  f_is_name : P.fns.lookup 4 = some ⟨1, 1, b_is_name⟩
  f_is_number : P.fns.lookup 5 = some ⟨1, 1, b_is_number⟩
  g_LETTERS : P.glob.lookup 1 = some (.str "abcdefghijklmnopqrstuvwxyz")
  g_FIGURES : P.glob.lookup 2 = some (.str "0123456789")
  g_SIGNS : P.glob.lookup 0 = some (.tup (Wd.signs.map AV.str))
  g_RESERVED : P.glob.lookup 3 = some (.tup (Wd.reserved.map AV.str))
  g_MOST_LETTERS : P.glob.lookup 4 = some (.int 12)
  g_MOST_FIGURES : P.glob.lookup 5 = some (.int 10)
end Wd

set_option maxRecDepth 100000
set_option maxHeartbeats 4000000
namespace Tm
open PySem L2 VL

def b_word_at_1 : Ss := (.cons (.ret (.cstr "")) .nil)
def b_word_at : Ss := (.cons (.ite (.cmp .Lt (.var 1) (.blt .len (.cons (.var 0) .nil))) (.cons (.ret (.sub (.var 0) (.var 1))) .nil) .nil) b_word_at_1)
def b_whole_1 : Ss := (.cons (.ret (.sub (.var 0) (.cint 0))) .nil)
def b_whole : Ss := (.cons (.ite (.or (.cmp .Is (.var 0) .cnon) (.cmp .NotEq (.sub (.var 0) (.cint 1)) (.blt .len (.cons (.var 1) .nil)))) (.cons (.ret .cnon) .nil) .nil) b_whole_1)
def b_signed_at_1 : Ss := (.cons (.ret .cnon) .nil)
def b_signed_at_2 : Ss := (.cons (.ite (.and (.cmp .Eq (.call 6 (.cons (.var 0) (.cons (.var 1) .nil))) (.cstr "-")) (.tru (.call 5 (.cons (.call 6 (.cons (.var 0) (.cons (.bin .Add (.var 1) (.cint 1)) .nil))) .nil)))) (.cons (.ret (.tup (.cons (.neg (.blt .int (.cons (.sub (.var 0) (.bin .Add (.var 1) (.cint 1))) .nil))) (.cons (.bin .Add (.var 1) (.cint 2)) .nil)))) .nil) .nil) b_signed_at_1)
def b_signed_at : Ss := (.cons (.ite (.tru (.call 5 (.cons (.call 6 (.cons (.var 0) (.cons (.var 1) .nil))) .nil))) (.cons (.ret (.tup (.cons (.blt .int (.cons (.sub (.var 0) (.var 1)) .nil)) (.cons (.bin .Add (.var 1) (.cint 1)) .nil)))) .nil) .nil) b_signed_at_2)
def b_plus_at_1 : Ss := (.cons (.ret (.tup (.cons (.neg (.blt .int (.cons (.sub (.var 0) (.bin .Add (.var 1) (.cint 1))) .nil))) (.cons (.bin .Add (.var 1) (.cint 2)) .nil)))) .nil)
def b_plus_at_2 : Ss := (.cons (.ite (.cmp .Eq (.sub (.var 0) (.var 1)) (.cstr "+")) (.cons (.ret (.tup (.cons (.blt .int (.cons (.sub (.var 0) (.bin .Add (.var 1) (.cint 1))) .nil)) (.cons (.bin .Add (.var 1) (.cint 2)) .nil)))) .nil) .nil) b_plus_at_1)
def b_plus_at_3 : Ss := (.cons (.ite (.not (.tru (.call 5 (.cons (.call 6 (.cons (.var 0) (.cons (.bin .Add (.var 1) (.cint 1)) .nil))) .nil)))) (.cons (.ret .cnon) .nil) .nil) b_plus_at_2)
def b_plus_at : Ss := (.cons (.ite (.cmp .NotIn (.call 6 (.cons (.var 0) (.cons (.var 1) .nil))) (.tup (.cons (.cstr "+") (.cons (.cstr "-") .nil)))) (.cons (.ret (.tup (.cons (.cint 0) (.cons (.var 1) .nil)))) .nil) .nil) b_plus_at_3)
def b_named_at_1 : Ss := (.cons (.ret (.tup (.cons (.tup (.cons (.var 0) (.cons (.var 3) (.cons (.sub (.var 4) (.cint 0)) .nil)))) (.cons (.sub (.var 4) (.cint 1)) .nil)))) .nil)
def b_named_at : Ss := (.cons (.asg (.nm 3) (.call 6 (.cons (.var 1) (.cons (.var 2) .nil)))) (.cons (.asg (.nm 4) (.call 9 (.cons (.var 1) (.cons (.bin .Add (.var 2) (.cint 1)) .nil)))) (.cons (.ite (.or (.cmp .Is (.var 4) .cnon) (.and (.not (.tru (.call 4 (.cons (.var 3) .nil)))) (.or (.cmp .Eq (.var 0) (.cstr "len")) (.cmp .NotEq (.var 3) (.cstr "result"))))) (.cons (.ret .cnon) .nil) .nil) b_named_at_1)))
def b_plain_at_1 : Ss := (.cons (.ret (.call 10 (.cons (.cstr "var") (.cons (.var 0) (.cons (.var 1) .nil))))) .nil)
def b_plain_at_2 : Ss := (.cons (.ite (.cmp .Eq (.call 6 (.cons (.var 0) (.cons (.var 1) .nil))) (.cstr "len")) (.cons (.ret (.call 10 (.cons (.cstr "len") (.cons (.var 0) (.cons (.bin .Add (.var 1) (.cint 1)) .nil))))) .nil) .nil) b_plain_at_1)
def b_plain_at : Ss := (.cons (.asg (.nm 2) (.call 8 (.cons (.var 0) (.cons (.var 1) .nil)))) (.cons (.ite (.cmp .IsNot (.var 2) .cnon) (.cons (.ret (.tup (.cons (.tup (.cons (.cstr "num") (.cons (.sub (.var 2) (.cint 0)) .nil))) (.cons (.sub (.var 2) (.cint 1)) .nil)))) .nil) .nil) b_plain_at_2))
def b_list_at_1 : Ss := (.cons (.ret .cnon) .nil)
def b_list_at_2 : Ss := (.cons (.ite (.tru (.call 4 (.cons (.call 6 (.cons (.var 0) (.cons (.var 1) .nil))) .nil))) (.cons (.ret (.tup (.cons (.tup (.cons (.sub (.var 0) (.var 1)) (.cons (.cbl false) .nil))) (.cons (.bin .Add (.var 1) (.cint 1)) .nil)))) .nil) .nil) b_list_at_1)
def b_list_at : Ss := (.cons (.ite (.and (.cmp .Eq (.call 6 (.cons (.var 0) (.cons (.var 1) .nil))) (.cstr "old")) (.tru (.call 4 (.cons (.call 6 (.cons (.var 0) (.cons (.bin .Add (.var 1) (.cint 1)) .nil))) .nil)))) (.cons (.ret (.tup (.cons (.tup (.cons (.sub (.var 0) (.bin .Add (.var 1) (.cint 1))) (.cons (.cbl true) .nil))) (.cons (.bin .Add (.var 1) (.cint 2)) .nil)))) .nil) .nil) b_list_at_2)
def b_cell_at_1 : Ss := (.cons (.ret (.tup (.cons (.tup (.cons (.cstr "cell") (.cons (.sub (.var 2) (.cint 0)) (.cons (.sub (.var 3) (.cint 0)) (.cons (.sub (.var 4) (.cint 0)) .nil))))) (.cons (.sub (.var 4) (.cint 1)) .nil)))) .nil)
def b_cell_at_2 : Ss := (.cons (.asg (.nm 4) (.call 9 (.cons (.var 0) (.cons (.bin .Add (.sub (.var 3) (.cint 1)) (.cint 1)) .nil)))) (.cons (.ite (.cmp .Is (.var 4) .cnon) (.cons (.ret .cnon) .nil) .nil) b_cell_at_1))
def b_cell_at_3 : Ss := (.cons (.asg (.nm 3) (.call 11 (.cons (.var 0) (.cons (.bin .Add (.sub (.var 2) (.cint 1)) (.cint 1)) .nil)))) (.cons (.ite (.or (.cmp .Is (.var 3) .cnon) (.cmp .NotEq (.call 6 (.cons (.var 0) (.cons (.sub (.var 3) (.cint 1)) .nil))) (.cstr "]"))) (.cons (.ret .cnon) .nil) .nil) b_cell_at_2))
def b_cell_at : Ss := (.cons (.asg (.nm 2) (.call 12 (.cons (.var 0) (.cons (.var 1) .nil)))) (.cons (.ite (.or (.cmp .Is (.var 2) .cnon) (.cmp .NotEq (.call 6 (.cons (.var 0) (.cons (.sub (.var 2) (.cint 1)) .nil))) (.cstr "["))) (.cons (.ret .cnon) .nil) .nil) b_cell_at_3))
def b_term_at_1 : Ss := (.cons (.ret (.call 11 (.cons (.var 0) (.cons (.var 1) .nil)))) .nil)
def b_term_at : Ss := (.cons (.asg (.nm 2) (.call 12 (.cons (.var 0) (.cons (.var 1) .nil)))) (.cons (.ite (.and (.cmp .IsNot (.var 2) .cnon) (.cmp .Eq (.call 6 (.cons (.var 0) (.cons (.sub (.var 2) (.cint 1)) .nil))) (.cstr "["))) (.cons (.ret (.call 13 (.cons (.var 0) (.cons (.var 1) .nil)))) .nil) .nil) b_term_at_1))
class U (P : Prg) : Prop where
  f_word_at : P.fns.lookup 6 = some ⟨2, 2, b_word_at⟩
  f_whole : P.fns.lookup 7 = some ⟨2, 2, b_whole⟩
  f_signed_at : P.fns.lookup 8 = some ⟨2, 2, b_signed_at⟩
  f_plus_at : P.fns.lookup 9 = some ⟨2, 2, b_plus_at⟩
  f_named_at : P.fns.lookup 10 = some ⟨3, 5, b_named_at⟩
  f_plain_at : P.fns.lookup 11 = some ⟨2, 3, b_plain_at⟩
  f_list_at : P.fns.lookup 12 = some ⟨2, 2, b_list_at⟩
  f_cell_at : P.fns.lookup 13 = some ⟨2, 5, b_cell_at⟩
  f_term_at : P.fns.lookup 14 = some ⟨2, 3, b_term_at⟩
end Tm

set_option maxRecDepth 100000
set_option maxHeartbeats 4000000
namespace Tw
open PySem L2 VL

def b_write_plus_1 : Ss := (.cons (.ret (.cstr "")) .nil)
def b_write_plus_2 : Ss := (.cons (.ite (.cmp .Lt (.var 0) (.cint 0)) (.cons (.ret (.bin .Add (.cstr " - ") (.blt .str (.cons (.neg (.var 0)) .nil)))) .nil) .nil) b_write_plus_1)
def b_write_plus : Ss := (.cons (.ite (.cmp .Gt (.var 0) (.cint 0)) (.cons (.ret (.bin .Add (.cstr " + ") (.blt .str (.cons (.var 0) .nil)))) .nil) .nil) b_write_plus_2)
def b_write_list_1 : Ss := (.cons (.ret (.sub (.var 0) (.cint 0))) .nil)
def b_write_list : Ss := (.cons (.ite (.tru (.sub (.var 0) (.cint 1))) (.cons (.ret (.bin .Add (.cstr "old ") (.sub (.var 0) (.cint 0)))) .nil) .nil) b_write_list_1)
def b_write_term_1 : Ss := (.cons (.ret (.bin .Add (.bin .Add (.bin .Add (.bin .Add (.call 16 (.cons (.sub (.var 0) (.cint 1)) .nil)) (.cstr "[")) (.call 17 (.cons (.sub (.var 0) (.cint 2)) .nil))) (.cstr "]")) (.call 15 (.cons (.sub (.var 0) (.cint 3)) .nil)))) .nil)
def b_write_term_2 : Ss := (.cons (.ite (.cmp .Eq (.sub (.var 0) (.cint 0)) (.cstr "len")) (.cons (.ret (.bin .Add (.bin .Add (.cstr "len ") (.sub (.var 0) (.cint 1))) (.call 15 (.cons (.sub (.var 0) (.cint 2)) .nil)))) .nil) .nil) b_write_term_1)
def b_write_term_3 : Ss := (.cons (.ite (.cmp .Eq (.sub (.var 0) (.cint 0)) (.cstr "var")) (.cons (.ret (.bin .Add (.sub (.var 0) (.cint 1)) (.call 15 (.cons (.sub (.var 0) (.cint 2)) .nil)))) .nil) .nil) b_write_term_2)
def b_write_term : Ss := (.cons (.ite (.cmp .Eq (.sub (.var 0) (.cint 0)) (.cstr "num")) (.cons (.ret (.blt .str (.cons (.sub (.var 0) (.cint 1)) .nil))) .nil) .nil) b_write_term_3)
class U (P : Prg) : Prop where
  f_write_plus : P.fns.lookup 15 = some ⟨1, 1, b_write_plus⟩
  f_write_list : P.fns.lookup 16 = some ⟨1, 1, b_write_list⟩
  f_write_term : P.fns.lookup 17 = some ⟨1, 1, b_write_term⟩
end Tw

set_option maxRecDepth 100000
set_option maxHeartbeats 4000000
namespace Hd
open PySem L2 VL

def b_law_draws_1 : Ss := (.cons (.asg (.nm 7) (.bin .Mod (.blt .int (.cons (.bin .Add (.bin .Add (.bin .Mult (.var 5) (.cint 48271)) (.bin .Mult (.var 4) (.cint 69621))) (.cint 11)) .nil)) (.cint 2147483647))) (.cons (.asg (.nm 7) (.bin .Mod (.blt .int (.cons (.bin .Add (.bin .FloorDiv (.bin .Mult (.var 7) (.var 7)) (.cint 4096)) (.var 7)) .nil)) (.cint 2147483629))) (.cons (.app 3 (.bin .Mod (.blt .int (.cons (.bin .Add (.bin .FloorDiv (.bin .Mult (.var 7) (.var 7)) (.cint 4096)) (.bin .Mult (.var 4) (.cint 7919))) .nil)) (.cint 2147483629))) .nil)))
def b_law_draws_2 : Ss := (.cons (.asg (.nm 5) (.var 4)) (.cons (.ite (.cmp .Gt (.blt .len (.cons (.var 0) .nil)) (.cint 0)) (.cons (.asg (.nm 6) (.bin .Mod (.var 4) (.blt .len (.cons (.var 0) .nil)))) (.cons (.asg (.nm 5) (.blt .int (.cons (.sub (.var 0) (.var 6)) .nil))) (.cons (.ite (.and (.cmp .GtE (.var 5) (.bin .Pow (.cint 10) (.cint 18))) (.cmp .Gt (.sub (.vw 2) (.var 6)) (.cint 0))) (.cons (.app 3 (.bin .Mod (.blt .int (.cons (.sub (.vw 2) (.var 6)) .nil)) (.cint 1000003))) (.cons (.put 2 (.var 6) (.bin .FloorDiv (.blt .int (.cons (.sub (.vw 2) (.var 6)) .nil)) (.cint 1000003))) (.cons .cont .nil))) .nil) .nil))) .nil) b_law_draws_1))
def b_law_draws_3 : Ss := (.cons (.frz 3) (.cons (.ret (.var 3)) .nil))
def b_law_draws : Ss := (.cons (.asgO 2 (.comp (.blt .abs (.cons (.blt .int (.cons (.var 5) .nil)) .nil)) (.nm 5) (.seq (.var 0)) .no [5])) (.cons (.asgO 3 (.lst .nil)) (.cons (.for (.nm 4) (.rng1 (.var 1)) b_law_draws_2) b_law_draws_3)))
def b_law_take_1 : Ss := (.cons (.ret (.bin .Mod (.bin .FloorDiv (.blt .int (.cons (.sub (.var 3) (.var 2)) .nil)) (.cint 7)) (.var 1))) .nil)
def b_law_take : Ss := (.cons (.asg (.nm 2) (.sub (.var 0) (.cint 1))) (.cons (.putE (.var 0) (.cint 1) (.bin .Add (.var 2) (.cint 1))) (.cons (.asg (.nm 3) (.sub (.var 0) (.cint 0))) (.cons (.ite (.cmp .GtE (.var 2) (.blt .len (.cons (.var 3) .nil))) (.cons (.ret (.cint 0)) .nil) .nil) b_law_take_1))))
class U (P : Prg) : Prop where
  f__law_draws : P.fns.lookup 19 = some ⟨2, 8, b_law_draws⟩
  f__law_take : P.fns.lookup 20 = some ⟨2, 4, b_law_take⟩
end Hd

set_option maxRecDepth 100000
set_option maxHeartbeats 4000000
namespace Lw
open PySem L2 VL

def b_law_letters : Ss := (.cons (.ret (.cstr "abcdefghijklmnopqrstuvwxyz")) .nil)
def b_law_list_text : Ss := (.cons (.ret (.bin .Add (.sub (.fz (.lst (.cons (.cstr "") (.cons (.cstr "old ") .nil)))) (.blt .int (.cons (.sub (.var 0) (.cint 1)) .nil))) (.sub (.var 0) (.cint 0)))) .nil)
def b_law_joins_1 : Ss := (.cons (.ret (.and (.cmp .In (.sub (.var 0) (.neg (.cint 1))) (.cstr "<>=!")) (.cmp .In (.sub (.var 1) (.cint 0)) (.cstr "<>=!")))) .nil)
def b_law_joins_2 : Ss := (.cons (.ite (.and (.cmp .In (.sub (.var 0) (.neg (.cint 1))) (.cstr "0123456789")) (.cmp .In (.sub (.var 1) (.cint 0)) (.cstr "0123456789"))) (.cons (.ret (.cbl true)) .nil) .nil) b_law_joins_1)
def b_law_joins : Ss := (.cons (.ite (.and (.cmp .In (.sub (.var 0) (.neg (.cint 1))) (.call 21 .nil)) (.cmp .In (.sub (.var 1) (.cint 0)) (.call 21 .nil))) (.cons (.ret (.cbl true)) .nil) .nil) b_law_joins_2)
def b_law_same_1 : Ss := (.cons (.ite (.not (.tru (.call 24 (.cons (.sub (.var 0) (.var 2)) (.cons (.sub (.var 1) (.var 2)) .nil))))) (.cons (.ret (.cbl false)) .nil) .nil) .nil)
def b_law_same_2 : Ss := (.cons (.ret (.cbl true)) .nil)
def b_law_same_3 : Ss := (.cons (.for (.nm 2) (.rng1 (.blt .len (.cons (.var 1) .nil))) b_law_same_1) b_law_same_2)
def b_law_same_4 : Ss := (.cons (.ret (.and (.isi (.var 0) "int") (.and (.not (.isi (.var 0) "bool")) (.cmp .Eq (.var 0) (.var 1))))) .nil)
def b_law_same_5 : Ss := (.cons (.ite (.cmp .Is (.var 1) .cnon) (.cons (.ret (.cmp .Is (.var 0) .cnon)) .nil) .nil) b_law_same_4)
def b_law_same_6 : Ss := (.cons (.ite (.tru (.isi (.var 1) "str")) (.cons (.ret (.and (.isi (.var 0) "str") (.cmp .Eq (.var 0) (.var 1)))) .nil) .nil) b_law_same_5)
def b_law_same_7 : Ss := (.cons (.ite (.tru (.isi (.var 1) "bool")) (.cons (.ret (.and (.isi (.var 0) "bool") (.cmp .Eq (.var 0) (.var 1)))) .nil) .nil) b_law_same_6)
def b_law_same : Ss := (.cons (.ite (.tru (.isi (.var 1) "tuple")) (.cons (.ite (.or (.not (.tru (.isi (.var 0) "tuple"))) (.cmp .NotEq (.blt .len (.cons (.var 0) .nil)) (.blt .len (.cons (.var 1) .nil)))) (.cons (.ret (.cbl false)) .nil) .nil) b_law_same_3) .nil) b_law_same_7)
class U (P : Prg) : Prop where
  f__law_letters : P.fns.lookup 21 = some ⟨0, 0, b_law_letters⟩
  f__law_list_text : P.fns.lookup 22 = some ⟨1, 1, b_law_list_text⟩
  f__law_joins : P.fns.lookup 23 = some ⟨2, 2, b_law_joins⟩
  f__law_same : P.fns.lookup 24 = some ⟨2, 3, b_law_same⟩
end Lw

set_option maxRecDepth 100000
set_option maxHeartbeats 4000000
namespace Lr
open PySem L2 VL

def b_law_reserved : Ss := (.cons (.asg (.nm 0) (.fz (.lst (.cons (.cstr "proc") (.cons (.cstr "list") (.cons (.cstr "needs") (.cons (.cstr "gives") (.cons (.cstr "keeps") (.cons (.cstr "falls") (.cons (.cstr "from") (.cons (.cstr "to") (.cons (.cstr "let") (.cons (.cstr "while") (.cons (.cstr "if") (.cons (.cstr "else") (.cons (.cstr "end") .nil)))))))))))))))) (.cons (.asg (.nm 0) (.fz (.cat (.var 0) (.fz (.lst (.cons (.cstr "choose") (.cons (.cstr "check") (.cons (.cstr "call") (.cons (.cstr "swap") (.cons (.cstr "return") (.cons (.cstr "skip") (.cons (.cstr "or") (.cons (.cstr "and") (.cons (.cstr "not") (.cons (.cstr "all") (.cons (.cstr "sorted") (.cons (.cstr "below") .nil))))))))))))))))) (.cons (.ret (.fz (.cat (.var 0) (.fz (.lst (.cons (.cstr "either") (.cons (.cstr "len") (.cons (.cstr "old") (.cons (.cstr "moves") (.cons (.cstr "result") .nil)))))))))) .nil)))
def b_law_is_name_1 : Ss := (.cons (.ite (.cmp .NotIn (.var 1) (.call 21 .nil)) (.cons (.ret (.cbl false)) .nil) .nil) .nil)
def b_law_is_name_2 : Ss := (.cons (.ret (.cbl true)) .nil)
def b_law_is_name_3 : Ss := (.cons (.for (.nm 1) (.chars (.var 0)) b_law_is_name_1) b_law_is_name_2)
def b_law_is_name : Ss := (.cons (.ite (.or (.cmp .Lt (.blt .len (.cons (.var 0) .nil)) (.cint 1)) (.or (.cmp .Gt (.blt .len (.cons (.var 0) .nil)) (.cint 12)) (.cmp .In (.var 0) (.call 25 .nil)))) (.cons (.ret (.cbl false)) .nil) .nil) b_law_is_name_3)
def b_law_is_number_1 : Ss := (.cons (.ite (.cmp .NotIn (.var 1) (.cstr "0123456789")) (.cons (.ret (.cbl false)) .nil) .nil) .nil)
def b_law_is_number_2 : Ss := (.cons (.ret (.cbl true)) .nil)
def b_law_is_number_3 : Ss := (.cons (.for (.nm 1) (.chars (.var 0)) b_law_is_number_1) b_law_is_number_2)
def b_law_is_number : Ss := (.cons (.ite (.or (.cmp .Lt (.blt .len (.cons (.var 0) .nil)) (.cint 1)) (.or (.cmp .Gt (.blt .len (.cons (.var 0) .nil)) (.cint 10)) (.and (.cmp .Gt (.blt .len (.cons (.var 0) .nil)) (.cint 1)) (.cmp .Eq (.sub (.var 0) (.cint 0)) (.cstr "0"))))) (.cons (.ret (.cbl false)) .nil) .nil) b_law_is_number_3)
def b_law_list_words_1 : Ss := (.cons (.ret (.fz (.lst (.cons (.sub (.var 0) (.cint 0)) .nil)))) .nil)
def b_law_list_words : Ss := (.cons (.ite (.tru (.sub (.var 0) (.cint 1))) (.cons (.ret (.fz (.lst (.cons (.cstr "old") (.cons (.sub (.var 0) (.cint 0)) .nil))))) .nil) .nil) b_law_list_words_1)
def b_law_word_1 : Ss := (.cons (.ret (.cstr "")) .nil)
def b_law_word : Ss := (.cons (.ite (.cmp .Lt (.var 1) (.blt .len (.cons (.var 0) .nil))) (.cons (.ret (.sub (.var 0) (.var 1))) .nil) .nil) b_law_word_1)
def b_law_read_plus_1 : Ss := (.cons (.ret (.fz (.lst (.cons (.blt .int (.cons (.bin .Add (.sub (.var 0) (.var 1)) (.sub (.var 0) (.bin .Add (.var 1) (.cint 1)))) .nil)) (.cons (.bin .Add (.var 1) (.cint 2)) .nil))))) .nil)
def b_law_read_plus_2 : Ss := (.cons (.ret (.fz (.lst (.cons (.cint 0) (.cons (.var 1) .nil))))) .nil)
def b_law_read_plus : Ss := (.cons (.ite (.cmp .In (.call 29 (.cons (.var 0) (.cons (.var 1) .nil))) (.fz (.lst (.cons (.cstr "+") (.cons (.cstr "-") .nil))))) (.cons (.ite (.not (.tru (.call 27 (.cons (.call 29 (.cons (.var 0) (.cons (.bin .Add (.var 1) (.cint 1)) .nil))) .nil)))) (.cons (.ret .cnon) .nil) .nil) b_law_read_plus_1) .nil) b_law_read_plus_2)
def b_law_read_plain_1 : Ss := (.cons (.ret (.fz (.lst (.cons (.tup (.cons (.var 2) (.cons (.var 3) (.cons (.sub (.var 4) (.cint 0)) .nil)))) (.cons (.sub (.var 4) (.cint 1)) .nil))))) .nil)
def b_law_read_plain_2 : Ss := (.cons (.asg (.nm 4) (.call 30 (.cons (.var 0) (.cons (.bin .Add (.var 1) (.cint 1)) .nil)))) (.cons (.ite (.cmp .Is (.var 4) .cnon) (.cons (.ret .cnon) .nil) .nil) b_law_read_plain_1))
def b_law_read_plain_3 : Ss := (.cons (.asg (.nm 3) (.call 29 (.cons (.var 0) (.cons (.var 1) .nil)))) (.cons (.ite (.and (.not (.tru (.call 26 (.cons (.var 3) .nil)))) (.or (.cmp .Eq (.var 2) (.cstr "len")) (.cmp .NotEq (.var 3) (.cstr "result")))) (.cons (.ret .cnon) .nil) .nil) b_law_read_plain_2))
def b_law_read_plain_4 : Ss := (.cons (.asg (.nm 2) (.cstr "var")) (.cons (.ite (.cmp .Eq (.call 29 (.cons (.var 0) (.cons (.var 1) .nil))) (.cstr "len")) (.cons (.asg (.nm 2) (.cstr "len")) (.cons (.asg (.nm 1) (.bin .Add (.var 1) (.cint 1))) .nil)) .nil) b_law_read_plain_3))
def b_law_read_plain_5 : Ss := (.cons (.ite (.and (.cmp .Eq (.call 29 (.cons (.var 0) (.cons (.var 1) .nil))) (.cstr "-")) (.tru (.call 27 (.cons (.call 29 (.cons (.var 0) (.cons (.bin .Add (.var 1) (.cint 1)) .nil))) .nil)))) (.cons (.ret (.fz (.lst (.cons (.tup (.cons (.cstr "num") (.cons (.neg (.blt .int (.cons (.sub (.var 0) (.bin .Add (.var 1) (.cint 1))) .nil))) .nil))) (.cons (.bin .Add (.var 1) (.cint 2)) .nil))))) .nil) .nil) b_law_read_plain_4)
def b_law_read_plain : Ss := (.cons (.ite (.tru (.call 27 (.cons (.call 29 (.cons (.var 0) (.cons (.var 1) .nil))) .nil))) (.cons (.ret (.fz (.lst (.cons (.tup (.cons (.cstr "num") (.cons (.blt .int (.cons (.sub (.var 0) (.var 1)) .nil)) .nil))) (.cons (.bin .Add (.var 1) (.cint 1)) .nil))))) .nil) .nil) b_law_read_plain_5)
def b_law_read_list_1 : Ss := (.cons (.ret (.fz (.lst (.cons (.tup (.cons (.sub (.var 0) (.var 2)) (.cons (.cmp .Gt (.var 2) (.var 1)) .nil))) (.cons (.bin .Add (.var 2) (.cint 1)) .nil))))) .nil)
def b_law_read_list : Ss := (.cons (.asg (.nm 2) (.bin .Add (.var 1) (.blt .int (.cons (.cmp .Eq (.call 29 (.cons (.var 0) (.cons (.var 1) .nil))) (.cstr "old")) .nil)))) (.cons (.ite (.not (.tru (.call 26 (.cons (.call 29 (.cons (.var 0) (.cons (.var 2) .nil))) .nil)))) (.cons (.ret .cnon) .nil) .nil) b_law_read_list_1))
class U (P : Prg) : Prop where
  f__law_reserved : P.fns.lookup 25 = some ⟨0, 1, b_law_reserved⟩
  f__law_is_name : P.fns.lookup 26 = some ⟨1, 2, b_law_is_name⟩
  f__law_is_number : P.fns.lookup 27 = some ⟨1, 2, b_law_is_number⟩
  f__law_list_words : P.fns.lookup 28 = some ⟨1, 1, b_law_list_words⟩
  f__law_word : P.fns.lookup 29 = some ⟨2, 2, b_law_word⟩
  f__law_read_plus : P.fns.lookup 30 = some ⟨2, 2, b_law_read_plus⟩
  f__law_read_plain : P.fns.lookup 31 = some ⟨2, 5, b_law_read_plain⟩
  f__law_read_list : P.fns.lookup 32 = some ⟨2, 3, b_law_read_list⟩
end Lr

set_option maxRecDepth 100000
set_option maxHeartbeats 4000000
namespace Ln
open PySem L2 VL

def b_law_wide : Ss := (.cons (.asg (.nm 2) (.call 20 (.cons (.var 0) (.cons (.cint 100003) .nil)))) (.cons (.ret (.bin .Mod (.blt .int (.cons (.bin .Add (.bin .Mult (.var 2) (.cint 100003)) (.call 20 (.cons (.var 0) (.cons (.cint 100003) .nil)))) .nil)) (.var 1))) .nil))
def b_law_number_1 : Ss := (.cons (.ret (.call 20 (.cons (.var 0) (.cons (.cint 12) .nil)))) .nil)
def b_law_number_2 : Ss := (.cons (.ite (.cmp .Eq (.var 1) (.cint 1)) (.cons (.ret (.sub (.fz (.lst (.cons (.cint 0) (.cons (.cint 1) (.cons (.cint 9) (.cons (.cint 10) (.cons (.cint 999999) (.cons (.cint 9999999999) .nil)))))))) (.call 20 (.cons (.var 0) (.cons (.cint 6) .nil))))) .nil) .nil) b_law_number_1)
def b_law_number : Ss := (.cons (.asg (.nm 1) (.call 20 (.cons (.var 0) (.cons (.cint 4) .nil)))) (.cons (.ite (.cmp .Eq (.var 1) (.cint 0)) (.cons (.ret (.call 33 (.cons (.var 0) (.cons (.bin .Pow (.cint 10) (.cint 10)) .nil)))) .nil) .nil) b_law_number_2))
def b_law_plus : Ss := (.cons (.ret (.bin .Mult (.call 34 (.cons (.var 0) .nil)) (.bin .Sub (.call 20 (.cons (.var 0) (.cons (.cint 3) .nil))) (.cint 1)))) .nil)
def b_law_plus_text_1 : Ss := (.cons (.ret (.bin .Add (.bin .Add (.bin .Add (.cstr " ") (.sub (.fz (.lst (.cons (.cstr "-") (.cons (.cstr "+") .nil)))) (.blt .int (.cons (.cmp .Gt (.var 0) (.cint 0)) .nil)))) (.cstr " ")) (.blt .str (.cons (.blt .abs (.cons (.var 0) .nil)) .nil)))) .nil)
def b_law_plus_text : Ss := (.cons (.ite (.cmp .Eq (.var 0) (.cint 0)) (.cons (.ret (.cstr "")) .nil) .nil) b_law_plus_text_1)
def b_law_text_1 : Ss := (.cons (.ret (.bin .Add (.bin .Add (.bin .Add (.bin .Add (.call 22 (.cons (.sub (.var 0) (.cint 1)) .nil)) (.cstr "[")) (.call 37 (.cons (.sub (.var 0) (.cint 2)) .nil))) (.cstr "]")) (.call 36 (.cons (.sub (.var 0) (.cint 3)) .nil)))) .nil)
def b_law_text_2 : Ss := (.cons (.ite (.cmp .Eq (.sub (.var 0) (.cint 0)) (.cstr "len")) (.cons (.ret (.bin .Add (.bin .Add (.cstr "len ") (.sub (.var 0) (.cint 1))) (.call 36 (.cons (.sub (.var 0) (.cint 2)) .nil)))) .nil) .nil) b_law_text_1)
def b_law_text_3 : Ss := (.cons (.ite (.cmp .Eq (.sub (.var 0) (.cint 0)) (.cstr "var")) (.cons (.ret (.bin .Add (.sub (.var 0) (.cint 1)) (.call 36 (.cons (.sub (.var 0) (.cint 2)) .nil)))) .nil) .nil) b_law_text_2)
def b_law_text : Ss := (.cons (.ite (.cmp .Eq (.sub (.var 0) (.cint 0)) (.cstr "num")) (.cons (.ret (.blt .str (.cons (.sub (.var 0) (.cint 1)) .nil))) .nil) .nil) b_law_text_3)
class U (P : Prg) : Prop where
  f__law_wide : P.fns.lookup 33 = some ⟨2, 3, b_law_wide⟩
  f__law_number : P.fns.lookup 34 = some ⟨1, 2, b_law_number⟩
  f__law_plus : P.fns.lookup 35 = some ⟨1, 1, b_law_plus⟩
  f__law_plus_text : P.fns.lookup 36 = some ⟨1, 1, b_law_plus_text⟩
  f__law_text : P.fns.lookup 37 = some ⟨1, 1, b_law_text⟩
end Ln

set_option maxRecDepth 100000
set_option maxHeartbeats 4000000
namespace Lt
open PySem L2 VL

def b_law_plus_words_1 : Ss := (.cons (.ret (.fz (.lst (.cons (.sub (.fz (.lst (.cons (.cstr "-") (.cons (.cstr "+") .nil)))) (.blt .int (.cons (.cmp .Gt (.var 0) (.cint 0)) .nil))) (.cons (.blt .str (.cons (.blt .abs (.cons (.var 0) .nil)) .nil)) .nil))))) .nil)
def b_law_plus_words : Ss := (.cons (.ite (.cmp .Eq (.var 0) (.cint 0)) (.cons (.ret (.fz (.lst .nil))) .nil) .nil) b_law_plus_words_1)
def b_law_words_of_1 : Ss := (.cons (.ret (.fz (.lst (.cons (.blt .str (.cons (.sub (.var 0) (.cint 1)) .nil)) .nil)))) .nil)
def b_law_words_of_2 : Ss := (.cons (.ret (.fz (.cat (.fz (.cat (.fz (.cat (.fz (.cat (.call 28 (.cons (.sub (.var 0) (.cint 1)) .nil)) (.fz (.lst (.cons (.cstr "[") .nil))))) (.call 39 (.cons (.sub (.var 0) (.cint 2)) .nil)))) (.fz (.lst (.cons (.cstr "]") .nil))))) (.call 38 (.cons (.sub (.var 0) (.cint 3)) .nil))))) .nil)
def b_law_words_of_3 : Ss := (.cons (.ite (.cmp .Eq (.sub (.var 0) (.cint 0)) (.cstr "len")) (.cons (.ret (.fz (.cat (.fz (.lst (.cons (.cstr "len") (.cons (.sub (.var 0) (.cint 1)) .nil)))) (.call 38 (.cons (.sub (.var 0) (.cint 2)) .nil))))) .nil) .nil) b_law_words_of_2)
def b_law_words_of_4 : Ss := (.cons (.ite (.cmp .Eq (.sub (.var 0) (.cint 0)) (.cstr "var")) (.cons (.ret (.fz (.cat (.fz (.lst (.cons (.sub (.var 0) (.cint 1)) .nil))) (.call 38 (.cons (.sub (.var 0) (.cint 2)) .nil))))) .nil) .nil) b_law_words_of_3)
def b_law_words_of : Ss := (.cons (.ite (.cmp .Eq (.sub (.var 0) (.cint 0)) (.cstr "num")) (.cons (.ite (.cmp .Lt (.sub (.var 0) (.cint 1)) (.cint 0)) (.cons (.ret (.fz (.lst (.cons (.cstr "-") (.cons (.blt .str (.cons (.neg (.sub (.var 0) (.cint 1))) .nil)) .nil))))) .nil) .nil) b_law_words_of_1) .nil) b_law_words_of_4)
def b_law_spaced_1 : Ss := (.cons (.asg (.nm 2) (.bin .Add (.var 2) (.bin .Mult (.cstr " ") (.var 4)))) .nil)
def b_law_spaced_2 : Ss := (.cons (.asg (.nm 2) (.bin .Add (.var 2) (.sub (.var 1) (.var 3)))) (.cons (.asg (.nm 4) (.sub (.fz (.lst (.cons (.cint 0) (.cons (.cint 0) (.cons (.cint 1) (.cons (.cint 1) (.cons (.cint 2) (.cons (.bin .Add (.cint 2) (.call 20 (.cons (.var 0) (.cons (.cint 5) .nil)))) .nil)))))))) (.call 20 (.cons (.var 0) (.cons (.cint 6) .nil))))) (.cons (.ite (.and (.cmp .Eq (.var 4) (.cint 0)) (.and (.cmp .Lt (.bin .Add (.var 3) (.cint 1)) (.blt .len (.cons (.var 1) .nil))) (.tru (.call 23 (.cons (.sub (.var 1) (.var 3)) (.cons (.sub (.var 1) (.bin .Add (.var 3) (.cint 1))) .nil)))))) (.cons (.asg (.nm 4) (.cint 1)) .nil) .nil) b_law_spaced_1)))
def b_law_spaced_3 : Ss := (.cons (.ret (.var 2)) .nil)
def b_law_spaced : Ss := (.cons (.asg (.nm 2) (.bin .Mult (.cstr " ") (.sub (.fz (.lst (.cons (.cint 0) (.cons (.cint 0) (.cons (.cint 1) (.cons (.bin .Add (.cint 2) (.call 20 (.cons (.var 0) (.cons (.cint 4) .nil)))) .nil)))))) (.call 20 (.cons (.var 0) (.cons (.cint 4) .nil)))))) (.cons (.for (.nm 3) (.rng1 (.blt .len (.cons (.var 1) .nil))) b_law_spaced_2) b_law_spaced_3))
def b_law_read_1 : Ss := (.cons (.ret (.fz (.lst (.cons (.tup (.cons (.cstr "cell") (.cons (.sub (.var 2) (.cint 0)) (.cons (.sub (.var 3) (.cint 0)) (.cons (.sub (.var 4) (.cint 0)) .nil))))) (.cons (.sub (.var 4) (.cint 1)) .nil))))) .nil)
def b_law_read_2 : Ss := (.cons (.asg (.nm 4) (.call 30 (.cons (.var 0) (.cons (.bin .Add (.sub (.var 3) (.cint 1)) (.cint 1)) .nil)))) (.cons (.ite (.cmp .Is (.var 4) .cnon) (.cons (.ret .cnon) .nil) .nil) b_law_read_1))
def b_law_read_3 : Ss := (.cons (.asg (.nm 3) (.call 31 (.cons (.var 0) (.cons (.bin .Add (.sub (.var 2) (.cint 1)) (.cint 1)) .nil)))) (.cons (.ite (.or (.cmp .Is (.var 3) .cnon) (.cmp .NotEq (.call 29 (.cons (.var 0) (.cons (.sub (.var 3) (.cint 1)) .nil))) (.cstr "]"))) (.cons (.ret .cnon) .nil) .nil) b_law_read_2))
def b_law_read : Ss := (.cons (.asg (.nm 2) (.call 32 (.cons (.var 0) (.cons (.var 1) .nil)))) (.cons (.ite (.or (.cmp .Is (.var 2) .cnon) (.cmp .NotEq (.call 29 (.cons (.var 0) (.cons (.sub (.var 2) (.cint 1)) .nil))) (.cstr "["))) (.cons (.ret (.call 31 (.cons (.var 0) (.cons (.var 1) .nil)))) .nil) .nil) b_law_read_3))
class U (P : Prg) : Prop where
  f__law_plus_words : P.fns.lookup 38 = some ⟨1, 1, b_law_plus_words⟩
  f__law_words_of : P.fns.lookup 39 = some ⟨1, 1, b_law_words_of⟩
  f__law_spaced : P.fns.lookup 40 = some ⟨2, 5, b_law_spaced⟩
  f__law_read : P.fns.lookup 41 = some ⟨2, 5, b_law_read⟩
end Lt

set_option maxRecDepth 100000
set_option maxHeartbeats 4000000
namespace Cm
open PySem L2 VL
def comparing : List Str := ["<", "<=", ">", ">=", "==", "!="]
def b_comparison_at_1 : Ss := (.cons (.ret (.tup (.cons (.tup (.cons (.cstr "cmp") (.cons (.sub (.var 0) (.sub (.var 2) (.cint 1))) (.cons (.sub (.var 2) (.cint 0)) (.cons (.sub (.var 3) (.cint 0)) .nil))))) (.cons (.sub (.var 3) (.cint 1)) .nil)))) .nil)
def b_comparison_at_2 : Ss := (.cons (.asg (.nm 3) (.call 14 (.cons (.var 0) (.cons (.bin .Add (.sub (.var 2) (.cint 1)) (.cint 1)) .nil)))) (.cons (.ite (.cmp .Is (.var 3) .cnon) (.cons (.ret .cnon) .nil) .nil) b_comparison_at_1))
def b_comparison_at : Ss := (.cons (.asg (.nm 2) (.call 14 (.cons (.var 0) (.cons (.var 1) .nil)))) (.cons (.ite (.or (.cmp .Is (.var 2) .cnon) (.cmp .NotIn (.call 6 (.cons (.var 0) (.cons (.sub (.var 2) (.cint 1)) .nil))) (.glob 6))) (.cons (.ret .cnon) .nil) .nil) b_comparison_at_2))
class U (P : Prg) : Prop where
  f_comparison_at : P.fns.lookup 49 = some ⟨2, 4, b_comparison_at⟩
  g_COMPARING : P.glob.lookup 6 = some (.tup (Cm.comparing.map AV.str))
end Cm

set_option maxRecDepth 100000
set_option maxHeartbeats 4000000
namespace Wc
open PySem L2 VL

def b_write_part_1 : Ss := (.cons (.ret (.call 51 (.cons (.var 0) .nil))) .nil)
def b_write_part : Ss := (.cons (.ite (.cmp .In (.sub (.var 0) (.cint 0)) (.var 1)) (.cons (.ret (.bin .Add (.bin .Add (.cstr "(") (.call 51 (.cons (.var 0) .nil))) (.cstr ")"))) .nil) .nil) b_write_part_1)
def b_write_condition_1 : Ss := (.cons (.ret (.smt .join (.cstr " or ") (.fz (.comp (.call 50 (.cons (.var 1) (.cons (.tup (.cons (.cstr "or") .nil)) .nil))) (.nm 1) (.seq (.sub (.var 0) (.cint 1))) .no [1])))) .nil)
def b_write_condition_2 : Ss := (.cons (.ite (.cmp .Eq (.sub (.var 0) (.cint 0)) (.cstr "and")) (.cons (.ret (.smt .join (.cstr " and ") (.fz (.comp (.call 50 (.cons (.var 1) (.cons (.tup (.cons (.cstr "and") (.cons (.cstr "or") .nil))) .nil))) (.nm 1) (.seq (.sub (.var 0) (.cint 1))) .no [1])))) .nil) .nil) b_write_condition_1)
def b_write_condition_3 : Ss := (.cons (.ite (.cmp .Eq (.sub (.var 0) (.cint 0)) (.cstr "not")) (.cons (.ret (.bin .Add (.cstr "not ") (.call 50 (.cons (.sub (.var 0) (.cint 1)) (.cons (.tup (.cons (.cstr "and") (.cons (.cstr "or") .nil))) .nil))))) .nil) .nil) b_write_condition_2)
def b_write_condition : Ss := (.cons (.ite (.cmp .Eq (.sub (.var 0) (.cint 0)) (.cstr "cmp")) (.cons (.ret (.bin .Add (.bin .Add (.bin .Add (.bin .Add (.call 17 (.cons (.sub (.var 0) (.cint 2)) .nil)) (.cstr " ")) (.sub (.var 0) (.cint 1))) (.cstr " ")) (.call 17 (.cons (.sub (.var 0) (.cint 3)) .nil)))) .nil) .nil) b_write_condition_3)
class U (P : Prg) : Prop where
  f_write_part : P.fns.lookup 50 = some ⟨2, 2, b_write_part⟩
  f_write_condition : P.fns.lookup 51 = some ⟨1, 2, b_write_condition⟩
end Wc

set_option maxRecDepth 100000
set_option maxHeartbeats 4000000
namespace H3
open PySem L2 VL

def b_law_draws_1 : Ss := (.cons (.asg (.nm 7) (.bin .Mod (.blt .int (.cons (.bin .Add (.bin .Add (.bin .Mult (.var 5) (.cint 48271)) (.bin .Mult (.var 4) (.cint 69621))) (.cint 11)) .nil)) (.cint 2147483647))) (.cons (.asg (.nm 7) (.bin .Mod (.blt .int (.cons (.bin .Add (.bin .FloorDiv (.bin .Mult (.var 7) (.var 7)) (.cint 4096)) (.var 7)) .nil)) (.cint 2147483629))) (.cons (.app 3 (.bin .Mod (.blt .int (.cons (.bin .Add (.bin .FloorDiv (.bin .Mult (.var 7) (.var 7)) (.cint 4096)) (.bin .Mult (.var 4) (.cint 7919))) .nil)) (.cint 2147483629))) .nil)))
def b_law_draws_2 : Ss := (.cons (.asg (.nm 5) (.var 4)) (.cons (.ite (.cmp .Gt (.blt .len (.cons (.var 0) .nil)) (.cint 0)) (.cons (.asg (.nm 6) (.bin .Mod (.var 4) (.blt .len (.cons (.var 0) .nil)))) (.cons (.asg (.nm 5) (.blt .int (.cons (.sub (.var 0) (.var 6)) .nil))) (.cons (.ite (.and (.cmp .GtE (.var 5) (.bin .Pow (.cint 10) (.cint 18))) (.cmp .Gt (.sub (.vw 2) (.var 6)) (.cint 0))) (.cons (.app 3 (.bin .Mod (.blt .int (.cons (.sub (.vw 2) (.var 6)) .nil)) (.cint 1000003))) (.cons (.put 2 (.var 6) (.bin .FloorDiv (.blt .int (.cons (.sub (.vw 2) (.var 6)) .nil)) (.cint 1000003))) (.cons .cont .nil))) .nil) .nil))) .nil) b_law_draws_1))
def b_law_draws_3 : Ss := (.cons (.frz 3) (.cons (.ret (.var 3)) .nil))
def b_law_draws : Ss := (.cons (.asgO 2 (.comp (.blt .abs (.cons (.blt .int (.cons (.var 5) .nil)) .nil)) (.nm 5) (.seq (.var 0)) .no [5])) (.cons (.asgO 3 (.lst .nil)) (.cons (.for (.nm 4) (.rng1 (.var 1)) b_law_draws_2) b_law_draws_3)))
def b_law_take_1 : Ss := (.cons (.ret (.bin .Mod (.bin .FloorDiv (.blt .int (.cons (.sub (.var 3) (.var 2)) .nil)) (.cint 7)) (.var 1))) .nil)
def b_law_take : Ss := (.cons (.asg (.nm 2) (.sub (.var 0) (.cint 1))) (.cons (.putE (.var 0) (.cint 1) (.bin .Add (.var 2) (.cint 1))) (.cons (.asg (.nm 3) (.sub (.var 0) (.cint 0))) (.cons (.ite (.cmp .GtE (.var 2) (.blt .len (.cons (.var 3) .nil))) (.cons (.ret (.cint 0)) .nil) .nil) b_law_take_1))))
class U (P : Prg) : Prop where
  f__law_draws : P.fns.lookup 91 = some ⟨2, 8, b_law_draws⟩
  f__law_take : P.fns.lookup 92 = some ⟨2, 4, b_law_take⟩
end H3

set_option maxRecDepth 100000
set_option maxHeartbeats 4000000
namespace L3
open PySem L2 VL

def b_law_plus_words_1 : Ss := (.cons (.ret (.fz (.lst (.cons (.sub (.fz (.lst (.cons (.cstr "-") (.cons (.cstr "+") .nil)))) (.blt .int (.cons (.cmp .Gt (.var 0) (.cint 0)) .nil))) (.cons (.blt .str (.cons (.blt .abs (.cons (.var 0) .nil)) .nil)) .nil))))) .nil)
def b_law_plus_words : Ss := (.cons (.ite (.cmp .Eq (.var 0) (.cint 0)) (.cons (.ret (.fz (.lst .nil))) .nil) .nil) b_law_plus_words_1)
def b_law_words_of_1 : Ss := (.cons (.ret (.fz (.lst (.cons (.blt .str (.cons (.sub (.var 0) (.cint 1)) .nil)) .nil)))) .nil)
def b_law_words_of_2 : Ss := (.cons (.ret (.fz (.cat (.fz (.cat (.fz (.cat (.fz (.cat (.call 28 (.cons (.sub (.var 0) (.cint 1)) .nil)) (.fz (.lst (.cons (.cstr "[") .nil))))) (.call 94 (.cons (.sub (.var 0) (.cint 2)) .nil)))) (.fz (.lst (.cons (.cstr "]") .nil))))) (.call 93 (.cons (.sub (.var 0) (.cint 3)) .nil))))) .nil)
def b_law_words_of_3 : Ss := (.cons (.ite (.cmp .Eq (.sub (.var 0) (.cint 0)) (.cstr "len")) (.cons (.ret (.fz (.cat (.fz (.lst (.cons (.cstr "len") (.cons (.sub (.var 0) (.cint 1)) .nil)))) (.call 93 (.cons (.sub (.var 0) (.cint 2)) .nil))))) .nil) .nil) b_law_words_of_2)
def b_law_words_of_4 : Ss := (.cons (.ite (.cmp .Eq (.sub (.var 0) (.cint 0)) (.cstr "var")) (.cons (.ret (.fz (.cat (.fz (.lst (.cons (.sub (.var 0) (.cint 1)) .nil))) (.call 93 (.cons (.sub (.var 0) (.cint 2)) .nil))))) .nil) .nil) b_law_words_of_3)
def b_law_words_of : Ss := (.cons (.ite (.cmp .Eq (.sub (.var 0) (.cint 0)) (.cstr "num")) (.cons (.ite (.cmp .Lt (.sub (.var 0) (.cint 1)) (.cint 0)) (.cons (.ret (.fz (.lst (.cons (.cstr "-") (.cons (.blt .str (.cons (.neg (.sub (.var 0) (.cint 1))) .nil)) .nil))))) .nil) .nil) b_law_words_of_1) .nil) b_law_words_of_4)
def b_law_plus_text_1 : Ss := (.cons (.ret (.bin .Add (.bin .Add (.bin .Add (.cstr " ") (.sub (.fz (.lst (.cons (.cstr "-") (.cons (.cstr "+") .nil)))) (.blt .int (.cons (.cmp .Gt (.var 0) (.cint 0)) .nil)))) (.cstr " ")) (.blt .str (.cons (.blt .abs (.cons (.var 0) .nil)) .nil)))) .nil)
def b_law_plus_text : Ss := (.cons (.ite (.cmp .Eq (.var 0) (.cint 0)) (.cons (.ret (.cstr "")) .nil) .nil) b_law_plus_text_1)
def b_law_text_1 : Ss := (.cons (.ret (.bin .Add (.bin .Add (.bin .Add (.bin .Add (.call 22 (.cons (.sub (.var 0) (.cint 1)) .nil)) (.cstr "[")) (.call 96 (.cons (.sub (.var 0) (.cint 2)) .nil))) (.cstr "]")) (.call 95 (.cons (.sub (.var 0) (.cint 3)) .nil)))) .nil)
def b_law_text_2 : Ss := (.cons (.ite (.cmp .Eq (.sub (.var 0) (.cint 0)) (.cstr "len")) (.cons (.ret (.bin .Add (.bin .Add (.cstr "len ") (.sub (.var 0) (.cint 1))) (.call 95 (.cons (.sub (.var 0) (.cint 2)) .nil)))) .nil) .nil) b_law_text_1)
def b_law_text_3 : Ss := (.cons (.ite (.cmp .Eq (.sub (.var 0) (.cint 0)) (.cstr "var")) (.cons (.ret (.bin .Add (.sub (.var 0) (.cint 1)) (.call 95 (.cons (.sub (.var 0) (.cint 2)) .nil)))) .nil) .nil) b_law_text_2)
def b_law_text : Ss := (.cons (.ite (.cmp .Eq (.sub (.var 0) (.cint 0)) (.cstr "num")) (.cons (.ret (.blt .str (.cons (.sub (.var 0) (.cint 1)) .nil))) .nil) .nil) b_law_text_3)
def b_law_spaced_1 : Ss := (.cons (.asg (.nm 2) (.bin .Add (.var 2) (.bin .Mult (.cstr " ") (.var 4)))) .nil)
def b_law_spaced_2 : Ss := (.cons (.asg (.nm 2) (.bin .Add (.var 2) (.sub (.var 1) (.var 3)))) (.cons (.asg (.nm 4) (.sub (.fz (.lst (.cons (.cint 0) (.cons (.cint 0) (.cons (.cint 1) (.cons (.cint 1) (.cons (.cint 2) (.cons (.bin .Add (.cint 2) (.call 92 (.cons (.var 0) (.cons (.cint 5) .nil)))) .nil)))))))) (.call 92 (.cons (.var 0) (.cons (.cint 6) .nil))))) (.cons (.ite (.and (.cmp .Eq (.var 4) (.cint 0)) (.and (.cmp .Lt (.bin .Add (.var 3) (.cint 1)) (.blt .len (.cons (.var 1) .nil))) (.tru (.call 23 (.cons (.sub (.var 1) (.var 3)) (.cons (.sub (.var 1) (.bin .Add (.var 3) (.cint 1))) .nil)))))) (.cons (.asg (.nm 4) (.cint 1)) .nil) .nil) b_law_spaced_1)))
def b_law_spaced_3 : Ss := (.cons (.ret (.var 2)) .nil)
def b_law_spaced : Ss := (.cons (.asg (.nm 2) (.bin .Mult (.cstr " ") (.sub (.fz (.lst (.cons (.cint 0) (.cons (.cint 0) (.cons (.cint 1) (.cons (.bin .Add (.cint 2) (.call 92 (.cons (.var 0) (.cons (.cint 4) .nil)))) .nil)))))) (.call 92 (.cons (.var 0) (.cons (.cint 4) .nil)))))) (.cons (.for (.nm 3) (.rng1 (.blt .len (.cons (.var 1) .nil))) b_law_spaced_2) b_law_spaced_3))
def b_law_read_1 : Ss := (.cons (.ret (.fz (.lst (.cons (.tup (.cons (.cstr "cell") (.cons (.sub (.var 2) (.cint 0)) (.cons (.sub (.var 3) (.cint 0)) (.cons (.sub (.var 4) (.cint 0)) .nil))))) (.cons (.sub (.var 4) (.cint 1)) .nil))))) .nil)
def b_law_read_2 : Ss := (.cons (.asg (.nm 4) (.call 30 (.cons (.var 0) (.cons (.bin .Add (.sub (.var 3) (.cint 1)) (.cint 1)) .nil)))) (.cons (.ite (.cmp .Is (.var 4) .cnon) (.cons (.ret .cnon) .nil) .nil) b_law_read_1))
def b_law_read_3 : Ss := (.cons (.asg (.nm 3) (.call 31 (.cons (.var 0) (.cons (.bin .Add (.sub (.var 2) (.cint 1)) (.cint 1)) .nil)))) (.cons (.ite (.or (.cmp .Is (.var 3) .cnon) (.cmp .NotEq (.call 29 (.cons (.var 0) (.cons (.sub (.var 3) (.cint 1)) .nil))) (.cstr "]"))) (.cons (.ret .cnon) .nil) .nil) b_law_read_2))
def b_law_read : Ss := (.cons (.asg (.nm 2) (.call 32 (.cons (.var 0) (.cons (.var 1) .nil)))) (.cons (.ite (.or (.cmp .Is (.var 2) .cnon) (.cmp .NotEq (.call 29 (.cons (.var 0) (.cons (.sub (.var 2) (.cint 1)) .nil))) (.cstr "["))) (.cons (.ret (.call 31 (.cons (.var 0) (.cons (.var 1) .nil)))) .nil) .nil) b_law_read_3))
class U (P : Prg) : Prop where
  f__law_plus_words : P.fns.lookup 93 = some ⟨1, 1, b_law_plus_words⟩
  f__law_words_of : P.fns.lookup 94 = some ⟨1, 1, b_law_words_of⟩
  f__law_plus_text : P.fns.lookup 95 = some ⟨1, 1, b_law_plus_text⟩
  f__law_text : P.fns.lookup 96 = some ⟨1, 1, b_law_text⟩
  f__law_spaced : P.fns.lookup 97 = some ⟨2, 5, b_law_spaced⟩
  f__law_read : P.fns.lookup 98 = some ⟨2, 5, b_law_read⟩
end L3

set_option maxRecDepth 100000
set_option maxHeartbeats 4000000
namespace Cd
open PySem L2 VL

def b_part_at_1 : Ss := (.cons (.ret (.tup (.cons (.tup (.cons (.cstr "not") (.cons (.sub (.var 4) (.cint 0)) .nil))) (.cons (.sub (.var 4) (.cint 1)) .nil)))) .nil)
def b_part_at_2 : Ss := (.cons (.ret (.tup (.cons (.sub (.var 4) (.cint 0)) (.cons (.bin .Add (.sub (.var 4) (.cint 1)) (.cint 1)) .nil)))) .nil)
def b_part_at_3 : Ss := (.cons (.asg (.nm 4) (.call 89 (.cons (.var 0) (.cons (.bin .Add (.var 1) (.cint 1)) (.cons (.bin .Add (.var 2) (.cint 1)) .nil))))) (.cons (.ite (.or (.cmp .Is (.var 4) .cnon) (.cmp .NotEq (.call 6 (.cons (.var 0) (.cons (.sub (.var 4) (.cint 1)) .nil))) (.cstr ")"))) (.cons (.ret .cnon) .nil) .nil) b_part_at_2))
def b_part_at_4 : Ss := (.cons (.ite (.cmp .Eq (.var 3) (.cstr "not")) (.cons (.asg (.nm 4) (.call 86 (.cons (.var 0) (.cons (.bin .Add (.var 1) (.cint 1)) (.cons (.bin .Add (.var 2) (.cint 1)) .nil))))) (.cons (.ite (.cmp .Is (.var 4) .cnon) (.cons (.ret .cnon) .nil) .nil) b_part_at_1)) .nil) b_part_at_3)
def b_part_at_5 : Ss := (.cons (.ite (.cmp .Eq (.var 2) (.glob 7)) (.cons (.ret .cnon) .nil) .nil) b_part_at_4)
def b_part_at : Ss := (.cons (.asg (.nm 3) (.call 6 (.cons (.var 0) (.cons (.var 1) .nil)))) (.cons (.ite (.cmp .NotIn (.var 3) (.tup (.cons (.cstr "not") (.cons (.cstr "(") .nil)))) (.cons (.ret (.call 49 (.cons (.var 0) (.cons (.var 1) .nil)))) .nil) .nil) b_part_at_5))
def b_joined_1 : Ss := (.cons (.ret (.tup (.cons (.var 0) (.cons (.blt .tuple (.cons (.var 1) .nil)) .nil)))) .nil)
def b_joined : Ss := (.cons (.ite (.cmp .Eq (.blt .len (.cons (.var 1) .nil)) (.cint 1)) (.cons (.ret (.sub (.var 1) (.cint 0))) .nil) .nil) b_joined_1)
def b_and_at_1 : Ss := (.cons (.app 4 (.sub (.var 3) (.cint 0))) .nil)
def b_and_at_2 : Ss := (.cons (.asg (.nm 3) (.call 86 (.cons (.var 0) (.cons (.bin .Add (.sub (.var 3) (.cint 1)) (.cint 1)) (.cons (.var 2) .nil))))) (.cons (.ite (.cmp .Is (.var 3) .cnon) (.cons (.ret .cnon) .nil) .nil) b_and_at_1))
def b_and_at_3 : Ss := (.cons (.frz 4) (.cons (.ret (.tup (.cons (.call 87 (.cons (.cstr "and") (.cons (.var 4) .nil))) (.cons (.sub (.var 3) (.cint 1)) .nil)))) .nil))
def b_and_at_4 : Ss := (.cons (.asgO 4 (.lst (.cons (.sub (.var 3) (.cint 0)) .nil))) (.cons (.wh (.cmp .Eq (.call 6 (.cons (.var 0) (.cons (.sub (.var 3) (.cint 1)) .nil))) (.cstr "and")) b_and_at_2) b_and_at_3))
def b_and_at : Ss := (.cons (.asg (.nm 3) (.call 86 (.cons (.var 0) (.cons (.var 1) (.cons (.var 2) .nil))))) (.cons (.ite (.cmp .Is (.var 3) .cnon) (.cons (.ret .cnon) .nil) .nil) b_and_at_4))
def b_or_at_1 : Ss := (.cons (.app 4 (.sub (.var 3) (.cint 0))) .nil)
def b_or_at_2 : Ss := (.cons (.asg (.nm 3) (.call 88 (.cons (.var 0) (.cons (.bin .Add (.sub (.var 3) (.cint 1)) (.cint 1)) (.cons (.var 2) .nil))))) (.cons (.ite (.cmp .Is (.var 3) .cnon) (.cons (.ret .cnon) .nil) .nil) b_or_at_1))
def b_or_at_3 : Ss := (.cons (.frz 4) (.cons (.ret (.tup (.cons (.call 87 (.cons (.cstr "or") (.cons (.var 4) .nil))) (.cons (.sub (.var 3) (.cint 1)) .nil)))) .nil))
def b_or_at_4 : Ss := (.cons (.asgO 4 (.lst (.cons (.sub (.var 3) (.cint 0)) .nil))) (.cons (.wh (.cmp .Eq (.call 6 (.cons (.var 0) (.cons (.sub (.var 3) (.cint 1)) .nil))) (.cstr "or")) b_or_at_2) b_or_at_3))
def b_or_at : Ss := (.cons (.asg (.nm 3) (.call 88 (.cons (.var 0) (.cons (.var 1) (.cons (.var 2) .nil))))) (.cons (.ite (.cmp .Is (.var 3) .cnon) (.cons (.ret .cnon) .nil) .nil) b_or_at_4))
def b_condition_of : Ss := (.cons (.ret (.call 7 (.cons (.call 89 (.cons (.var 0) (.cons (.cint 0) (.cons (.cint 0) .nil)))) (.cons (.var 0) .nil)))) .nil)
class U (P : Prg) : Prop where
  f_part_at : P.fns.lookup 86 = some ⟨3, 5, b_part_at⟩
  f_joined : P.fns.lookup 87 = some ⟨2, 2, b_joined⟩
  f_and_at : P.fns.lookup 88 = some ⟨3, 5, b_and_at⟩
  f_or_at : P.fns.lookup 89 = some ⟨3, 5, b_or_at⟩
  f_condition_of : P.fns.lookup 90 = some ⟨1, 1, b_condition_of⟩
  g_MOST_OPEN : P.glob.lookup 7 = some (.int 8)
end Cd

set_option maxRecDepth 100000
set_option maxHeartbeats 4000000
namespace K03
open PySem L2 VL

def b_read_condition : Ss := (.cons (.asg (.nm 1) (.call 3 (.cons (.var 0) .nil))) (.cons (.ret (.ite (.cmp .Is (.var 1) .cnon) .cnon (.call 90 (.cons (.var 1) .nil)))) .nil))
def b_law_simple_1 : Ss := (.cons (.ret (.tup (.cons (.cstr "cell") (.cons (.tup (.cons (.sub (.fz (.lst (.cons (.cstr "xs") (.cons (.cstr "y") .nil)))) (.call 92 (.cons (.var 0) (.cons (.cint 2) .nil)))) (.cons (.cmp .Eq (.var 1) (.cint 5)) .nil))) (.cons (.var 3) (.cons (.bin .Sub (.call 92 (.cons (.var 0) (.cons (.cint 3) .nil))) (.cint 1)) .nil)))))) .nil)
def b_law_simple_2 : Ss := (.cons (.ite (.cmp .Eq (.var 1) (.cint 4)) (.cons (.ret (.tup (.cons (.cstr "len") (.cons (.sub (.fz (.lst (.cons (.cstr "xs") (.cons (.cstr "y") .nil)))) (.call 92 (.cons (.var 0) (.cons (.cint 2) .nil)))) (.cons (.var 2) .nil))))) .nil) .nil) b_law_simple_1)
def b_law_simple_3 : Ss := (.cons (.ite (.cmp .Lt (.var 1) (.cint 4)) (.cons (.ret (.tup (.cons (.cstr "var") (.cons (.sub (.fz (.lst (.cons (.cstr "a") (.cons (.cstr "b") (.cons (.cstr "c") (.cons (.cstr "i") (.cons (.cstr "result") (.cons (.cstr "turns") .nil)))))))) (.call 92 (.cons (.var 0) (.cons (.cint 6) .nil)))) (.cons (.var 2) .nil))))) .nil) .nil) b_law_simple_2)
def b_law_simple : Ss := (.cons (.asg (.nm 1) (.call 92 (.cons (.var 0) (.cons (.cint 8) .nil)))) (.cons (.asg (.nm 2) (.sub (.fz (.lst (.cons (.bin .Sub (.call 92 (.cons (.var 0) (.cons (.cint 5) .nil))) (.cint 2)) (.cons (.bin .Sub (.call 92 (.cons (.var 0) (.cons (.cint 100003) .nil))) (.cint 50000)) .nil)))) (.bin .FloorDiv (.call 92 (.cons (.var 0) (.cons (.cint 4) .nil))) (.cint 3)))) (.cons (.asg (.nm 3) (.sub (.fz (.lst (.cons (.tup (.cons (.cstr "num") (.cons (.bin .Sub (.call 92 (.cons (.var 0) (.cons (.cint 60) .nil))) (.cint 9)) .nil))) (.cons (.tup (.cons (.cstr "var") (.cons (.cstr "i") (.cons (.var 2) .nil)))) (.cons (.tup (.cons (.cstr "len") (.cons (.cstr "xs") (.cons (.neg (.cint 1)) .nil)))) (.cons (.tup (.cons (.cstr "var") (.cons (.cstr "result") (.cons (.cint 1) .nil)))) .nil)))))) (.call 92 (.cons (.var 0) (.cons (.cint 4) .nil))))) (.cons (.ite (.cmp .Lt (.var 1) (.cint 2)) (.cons (.ret (.tup (.cons (.cstr "num") (.cons (.sub (.fz (.lst (.cons (.bin .Sub (.call 92 (.cons (.var 0) (.cons (.cint 12) .nil))) (.cint 3)) (.cons (.cint 9999999999) (.cons (.cint 10) (.cons (.neg (.cint 27)) .nil)))))) (.call 92 (.cons (.var 0) (.cons (.cint 4) .nil)))) .nil)))) .nil) .nil) b_law_simple_3))))
def b_law_tree_1 : Ss := (.cons (.asg (.nm 7) (.blt .tuple (.cons (.fz (.comp (.call 101 (.cons (.var 0) (.cons (.bin .Sub (.var 1) (.cint 1)) (.cons (.var 8) .nil)))) (.nm 8) (.own 6) .no [8])) .nil))) (.cons (.ret (.tup (.cons (.sub (.fz (.lst (.cons (.cstr "and") (.cons (.cstr "or") .nil)))) (.call 92 (.cons (.var 0) (.cons (.cint 2) .nil)))) (.cons (.var 7) .nil)))) .nil))
def b_law_tree_2 : Ss := (.cons (.asgO 6 (.rep (.fz (.lst (.cons (.bin .FloorDiv (.var 2) (.var 5)) .nil))) (.var 5))) (.cons (.ite (.cmp .Eq (.call 92 (.cons (.var 0) (.cons (.cint 2) .nil))) (.cint 0)) (.cons (.asgO 6 (.rep (.fz (.lst (.cons (.cint 1) .nil))) (.var 5))) (.cons (.put 6 (.call 92 (.cons (.var 0) (.cons (.var 5) .nil))) (.bin .Add (.bin .Sub (.var 2) (.var 5)) (.cint 1))) .nil)) .nil) b_law_tree_1))
def b_law_tree_3 : Ss := (.cons (.asg (.nm 5) (.bin .Add (.cint 2) (.bin .FloorDiv (.call 92 (.cons (.var 0) (.cons (.bin .Sub (.bin .Mult (.cint 3) (.var 2)) (.cint 3)) .nil))) (.cint 3)))) (.cons (.ite (.cmp .Eq (.call 92 (.cons (.var 0) (.cons (.cint 2) .nil))) (.cint 0)) (.cons (.asg (.nm 5) (.cint 2)) .nil) .nil) b_law_tree_2))
def b_law_tree_4 : Ss := (.cons (.ite (.cmp .Eq (.var 3) (.cint 2)) (.cons (.ret (.tup (.cons (.cstr "not") (.cons (.call 101 (.cons (.var 0) (.cons (.bin .Sub (.var 1) (.cint 1)) (.cons (.var 2) .nil)))) .nil)))) .nil) .nil) b_law_tree_3)
def b_law_tree : Ss := (.cons (.asg (.nm 3) (.call 92 (.cons (.var 0) (.cons (.cint 7) .nil)))) (.cons (.ite (.or (.cmp .Eq (.var 1) (.cint 0)) (.or (.cmp .Lt (.var 3) (.cint 2)) (.and (.cmp .Gt (.var 3) (.cint 2)) (.cmp .Lt (.var 2) (.cint 2))))) (.cons (.asg (.nm 4) (.sub (.fz (.lst (.cons (.cstr "<") (.cons (.cstr "<=") (.cons (.cstr ">") (.cons (.cstr ">=") (.cons (.cstr "==") (.cons (.cstr "!=") .nil)))))))) (.call 92 (.cons (.var 0) (.cons (.cint 6) .nil))))) (.cons (.ret (.tup (.cons (.cstr "cmp") (.cons (.var 4) (.cons (.call 100 (.cons (.var 0) .nil)) (.cons (.call 100 (.cons (.var 0) .nil)) .nil)))))) .nil)) .nil) b_law_tree_4))
def b_law_needs_1 : Ss := (.cons (.ret (.cmp .In (.sub (.var 1) (.cint 0)) (.fz (.lst (.cons (.cstr "and") (.cons (.cstr "or") .nil)))))) .nil)
def b_law_needs : Ss := (.cons (.ite (.cmp .Eq (.var 0) (.cstr "or")) (.cons (.ret (.cmp .Eq (.sub (.var 1) (.cint 0)) (.cstr "or"))) .nil) .nil) b_law_needs_1)
def b_law_condition_text_1 : Ss := (.cons (.app 2 (.var 4)) .nil)
def b_law_condition_text_2 : Ss := (.cons (.asg (.nm 4) (.call 103 (.cons (.var 3) .nil))) (.cons (.ite (.tru (.call 102 (.cons (.sub (.var 0) (.cint 0)) (.cons (.var 3) .nil)))) (.cons (.asg (.nm 4) (.bin .Add (.bin .Add (.cstr "(") (.var 4)) (.cstr ")"))) .nil) .nil) b_law_condition_text_1))
def b_law_condition_text_3 : Ss := (.cons (.ret (.smt .join (.bin .Add (.bin .Add (.cstr " ") (.sub (.var 0) (.cint 0))) (.cstr " ")) (.vw 2))) .nil)
def b_law_condition_text_4 : Ss := (.cons (.ite (.cmp .Eq (.sub (.var 0) (.cint 0)) (.cstr "not")) (.cons (.ret (.bin .Add (.cstr "not ") (.sub (.vw 2) (.cint 0)))) .nil) .nil) b_law_condition_text_3)
def b_law_condition_text_5 : Ss := (.cons (.asgO 2 (.lst .nil)) (.cons (.for (.nm 3) (.seq (.var 1)) b_law_condition_text_2) b_law_condition_text_4))
def b_law_condition_text_6 : Ss := (.cons (.asg (.nm 1) (.sub (.var 0) (.cint 1))) (.cons (.ite (.cmp .Eq (.sub (.var 0) (.cint 0)) (.cstr "not")) (.cons (.asg (.nm 1) (.fz (.lst (.cons (.sub (.var 0) (.cint 1)) .nil)))) .nil) .nil) b_law_condition_text_5))
def b_law_condition_text : Ss := (.cons (.ite (.cmp .Eq (.sub (.var 0) (.cint 0)) (.cstr "cmp")) (.cons (.ret (.bin .Add (.bin .Add (.bin .Add (.bin .Add (.call 96 (.cons (.sub (.var 0) (.cint 2)) .nil)) (.cstr " ")) (.sub (.var 0) (.cint 1))) (.cstr " ")) (.call 96 (.cons (.sub (.var 0) (.cint 3)) .nil)))) .nil) .nil) b_law_condition_text_6)
def b_law_spoilt_1 : Ss := (.cons (.asgO 9 (.listOf (.var 1))) (.cons (.put 9 (.var 3) (.sub (.var 1) (.var 6))) (.cons (.put 9 (.var 6) (.sub (.var 1) (.var 3))) (.cons (.frz 9) (.cons (.ret (.var 9)) .nil)))))
def b_law_spoilt_2 : Ss := (.cons (.asg (.nm 6) (.call 92 (.cons (.var 0) (.cons (.blt .len (.cons (.var 1) .nil)) .nil)))) (.cons (.ite (.cmp .Eq (.var 4) (.cint 5)) (.cons (.asg (.nm 7) (.blt .min2 (.cons (.blt .int (.cons (.var 3) .nil)) (.cons (.blt .int (.cons (.var 6) .nil)) .nil)))) (.cons (.asg (.nm 8) (.bin .Add (.blt .max2 (.cons (.blt .int (.cons (.var 3) .nil)) (.cons (.blt .int (.cons (.var 6) .nil)) .nil))) (.cint 1))) (.cons (.ret (.fz (.cat (.fz (.cat (.fz (.cat (.fz (.cat (.fz (.slice (.var 1) .no (.so (.var 7)))) (.fz (.lst (.cons (.cstr "(") .nil))))) (.fz (.slice (.var 1) (.so (.var 7)) (.so (.var 8)))))) (.fz (.lst (.cons (.cstr ")") .nil))))) (.fz (.slice (.var 1) (.so (.var 8)) .no))))) .nil))) .nil) b_law_spoilt_1))
def b_law_spoilt_3 : Ss := (.cons (.ite (.cmp .Eq (.var 4) (.cint 4)) (.cons (.ret (.fz (.cat (.fz (.cat (.fz (.slice (.var 1) .no (.so (.var 3)))) (.fz (.lst (.cons (.cstr "x") (.cons (.cstr "[") (.cons (.cstr "0") (.cons (.cstr "]") .nil)))))))) (.fz (.slice (.var 1) (.so (.bin .Add (.var 3) (.cint 1))) .no))))) .nil) .nil) b_law_spoilt_2)
def b_law_spoilt_4 : Ss := (.cons (.ite (.cmp .Eq (.var 4) (.cint 3)) (.cons (.ret (.fz (.cat (.fz (.cat (.fz (.slice (.var 1) .no (.so (.var 3)))) (.fz (.lst (.cons (.var 5) .nil))))) (.fz (.slice (.var 1) (.so (.bin .Add (.var 3) (.cint 1))) .no))))) .nil) .nil) b_law_spoilt_3)
def b_law_spoilt_5 : Ss := (.cons (.ite (.cmp .Eq (.var 4) (.cint 2)) (.cons (.ret (.fz (.cat (.fz (.cat (.fz (.slice (.var 1) .no (.so (.var 3)))) (.fz (.lst (.cons (.var 5) .nil))))) (.fz (.slice (.var 1) (.so (.var 3)) .no))))) .nil) .nil) b_law_spoilt_4)
def b_law_spoilt_6 : Ss := (.cons (.ite (.cmp .Eq (.var 4) (.cint 1)) (.cons (.ret (.fz (.cat (.fz (.cat (.fz (.slice (.var 1) .no (.so (.var 3)))) (.fz (.lst (.cons (.sub (.var 1) (.var 3)) .nil))))) (.fz (.slice (.var 1) (.so (.var 3)) .no))))) .nil) .nil) b_law_spoilt_5)
def b_law_spoilt_7 : Ss := (.cons (.ite (.cmp .Eq (.var 4) (.cint 0)) (.cons (.ret (.fz (.cat (.fz (.slice (.var 1) .no (.so (.var 3)))) (.fz (.slice (.var 1) (.so (.bin .Add (.var 3) (.cint 1))) .no))))) .nil) .nil) b_law_spoilt_6)
def b_law_spoilt : Ss := (.cons (.asg (.nm 2) (.fz (.lst (.cons (.cstr "a") (.cons (.cstr "ab") (.cons (.cstr "7") (.cons (.cstr "0") (.cons (.cstr "007") (.cons (.cstr "01") (.cons (.cstr "00") (.cons (.cstr "12345678901") (.cons (.cstr "-") (.cons (.cstr "+") (.cons (.cstr "[") (.cons (.cstr "]") (.cons (.cstr "(") (.cons (.cstr ")") (.cons (.cstr "and") (.cons (.cstr "or") (.cons (.cstr "not") (.cons (.cstr "<") .nil))))))))))))))))))))) (.cons (.asg (.nm 2) (.fz (.cat (.var 2) (.fz (.lst (.cons (.cstr "==") (.cons (.cstr "=") (.cons (.cstr ",") (.cons (.cstr ":") (.cons (.cstr "abcdefghijklm") (.cons (.cstr "len") (.cons (.cstr "old") (.cons (.cstr "result") (.cons (.cstr "len") (.cons (.cstr "old") (.cons (.cstr "result") .nil)))))))))))))))) (.cons (.asg (.nm 3) (.call 92 (.cons (.var 0) (.cons (.blt .len (.cons (.var 1) .nil)) .nil)))) (.cons (.asg (.nm 4) (.call 92 (.cons (.var 0) (.cons (.cint 7) .nil)))) (.cons (.asg (.nm 5) (.sub (.var 2) (.call 92 (.cons (.var 0) (.cons (.blt .len (.cons (.var 2) .nil)) .nil))))) (.cons (.ite (.cmp .Eq (.call 92 (.cons (.var 0) (.cons (.cint 3) .nil))) (.cint 0)) (.cons (.asg (.nm 5) (.sub (.call 25 .nil) (.call 92 (.cons (.var 0) (.cons (.cint 30) .nil))))) .nil) .nil) b_law_spoilt_7))))))
def b_law_many_1 : Ss := (.cons (.ret (.sub (.fz (.lst (.cons (.cint 0) (.cons (.cint 1) (.cons (.cint 2) .nil))))) (.blt .max2 (.cons (.cint 0) (.cons (.bin .Sub (.var 1) (.cint 35)) .nil))))) .nil)
def b_law_many_2 : Ss := (.cons (.ite (.cmp .Eq (.var 1) (.cint 38)) (.cons (.ret (.cint 8)) .nil) .nil) b_law_many_1)
def b_law_many : Ss := (.cons (.asg (.nm 1) (.call 92 (.cons (.var 0) (.cons (.cint 40) .nil)))) (.cons (.ite (.cmp .Eq (.var 1) (.cint 39)) (.cons (.ret (.cint 9)) .nil) .nil) b_law_many_2))
def b_law_dressed_1 : Ss := (.cons (.asgO 4 (.cat (.vw 4) (.sub (.var 5) (.cint 0)))) (.cons (.ite (.cmp .Gt (.sub (.var 5) (.cint 1)) (.var 6)) (.cons (.asg (.nm 6) (.sub (.var 5) (.cint 1))) .nil) .nil) .nil))
def b_law_dressed_2 : Ss := (.cons (.asg (.nm 5) (.call 106 (.cons (.var 0) (.cons (.var 7) (.cons (.blt .int (.cons (.call 102 (.cons (.sub (.var 1) (.cint 0)) (.cons (.var 7) .nil))) .nil)) (.cons (.var 3) .nil)))))) (.cons (.ite (.cmp .Gt (.blt .len (.cons (.vw 4) .nil)) (.cint 0)) (.cons (.app 4 (.sub (.var 1) (.cint 0))) .nil) .nil) b_law_dressed_1))
def b_law_dressed_3 : Ss := (.cons (.ret (.fz (.lst (.cons (.fz (.cat (.fz (.cat (.fz (.rep (.fz (.lst (.cons (.cstr "(") .nil))) (.var 2))) (.vw 4))) (.fz (.rep (.fz (.lst (.cons (.cstr ")") .nil))) (.var 2))))) (.cons (.bin .Add (.var 2) (.var 6)) .nil))))) .nil)
def b_law_dressed_4 : Ss := (.cons (.asgO 4 (.lst .nil)) (.cons (.asg (.nm 6) (.cint 0)) (.cons (.for (.nm 7) (.seq (.sub (.var 1) (.cint 1))) b_law_dressed_2) b_law_dressed_3)))
def b_law_dressed_5 : Ss := (.cons (.ite (.cmp .Eq (.sub (.var 1) (.cint 0)) (.cstr "not")) (.cons (.asg (.nm 5) (.call 106 (.cons (.var 0) (.cons (.sub (.var 1) (.cint 1)) (.cons (.blt .int (.cons (.call 102 (.cons (.cstr "not") (.cons (.sub (.var 1) (.cint 1)) .nil))) .nil)) (.cons (.var 3) .nil)))))) (.cons (.ret (.fz (.lst (.cons (.fz (.cat (.fz (.cat (.fz (.cat (.fz (.rep (.fz (.lst (.cons (.cstr "(") .nil))) (.var 2))) (.fz (.lst (.cons (.cstr "not") .nil))))) (.sub (.var 5) (.cint 0)))) (.fz (.rep (.fz (.lst (.cons (.cstr ")") .nil))) (.var 2))))) (.cons (.bin .Add (.bin .Add (.var 2) (.cint 1)) (.sub (.var 5) (.cint 1))) .nil))))) .nil)) .nil) b_law_dressed_4)
def b_law_dressed_6 : Ss := (.cons (.ite (.cmp .Eq (.sub (.var 1) (.cint 0)) (.cstr "cmp")) (.cons (.asgO 4 (.cat (.fz (.cat (.call 94 (.cons (.sub (.var 1) (.cint 2)) .nil)) (.fz (.lst (.cons (.sub (.var 1) (.cint 1)) .nil))))) (.call 94 (.cons (.sub (.var 1) (.cint 3)) .nil)))) (.cons (.ret (.fz (.lst (.cons (.fz (.cat (.fz (.cat (.fz (.rep (.fz (.lst (.cons (.cstr "(") .nil))) (.var 2))) (.vw 4))) (.fz (.rep (.fz (.lst (.cons (.cstr ")") .nil))) (.var 2))))) (.cons (.var 2) .nil))))) .nil)) .nil) b_law_dressed_5)
def b_law_dressed : Ss := (.cons (.ite (.tru (.var 3)) (.cons (.asg (.nm 2) (.bin .Add (.var 2) (.call 105 (.cons (.var 0) .nil)))) .nil) .nil) b_law_dressed_6)
def b_law_read_cmp_1 : Ss := (.cons (.ret (.fz (.lst (.cons (.tup (.cons (.cstr "cmp") (.cons (.sub (.var 0) (.sub (.var 2) (.cint 1))) (.cons (.sub (.var 2) (.cint 0)) (.cons (.sub (.var 3) (.cint 0)) .nil))))) (.cons (.sub (.var 3) (.cint 1)) .nil))))) .nil)
def b_law_read_cmp_2 : Ss := (.cons (.asg (.nm 3) (.call 98 (.cons (.var 0) (.cons (.bin .Add (.sub (.var 2) (.cint 1)) (.cint 1)) .nil)))) (.cons (.ite (.cmp .Is (.var 3) .cnon) (.cons (.ret .cnon) .nil) .nil) b_law_read_cmp_1))
def b_law_read_cmp : Ss := (.cons (.asg (.nm 2) (.call 98 (.cons (.var 0) (.cons (.var 1) .nil)))) (.cons (.ite (.or (.cmp .Is (.var 2) .cnon) (.or (.cmp .GtE (.sub (.var 2) (.cint 1)) (.blt .len (.cons (.var 0) .nil))) (.cmp .NotIn (.sub (.var 0) (.sub (.var 2) (.cint 1))) (.fz (.lst (.cons (.cstr "<") (.cons (.cstr "<=") (.cons (.cstr ">") (.cons (.cstr ">=") (.cons (.cstr "==") (.cons (.cstr "!=") .nil))))))))))) (.cons (.ret .cnon) .nil) .nil) b_law_read_cmp_2))
def b_law_read_not_1 : Ss := (.cons (.ret (.fz (.lst (.cons (.tup (.cons (.cstr "not") (.cons (.sub (.var 3) (.cint 0)) .nil))) (.cons (.sub (.var 3) (.cint 1)) .nil))))) .nil)
def b_law_read_not_2 : Ss := (.cons (.ret (.fz (.lst (.cons (.sub (.var 3) (.cint 0)) (.cons (.bin .Add (.sub (.var 3) (.cint 1)) (.cint 1)) .nil))))) .nil)
def b_law_read_not_3 : Ss := (.cons (.asg (.nm 3) (.call 110 (.cons (.var 0) (.cons (.bin .Add (.var 1) (.cint 1)) (.cons (.bin .Add (.var 2) (.cint 1)) .nil))))) (.cons (.ite (.or (.cmp .Is (.var 3) .cnon) (.or (.cmp .GtE (.sub (.var 3) (.cint 1)) (.blt .len (.cons (.var 0) .nil))) (.cmp .NotEq (.sub (.var 0) (.sub (.var 3) (.cint 1))) (.cstr ")")))) (.cons (.ret .cnon) .nil) .nil) b_law_read_not_2))
def b_law_read_not_4 : Ss := (.cons (.ite (.cmp .Eq (.sub (.var 0) (.var 1)) (.cstr "not")) (.cons (.asg (.nm 3) (.call 108 (.cons (.var 0) (.cons (.bin .Add (.var 1) (.cint 1)) (.cons (.bin .Add (.var 2) (.cint 1)) .nil))))) (.cons (.ite (.cmp .Is (.var 3) .cnon) (.cons (.ret .cnon) .nil) .nil) b_law_read_not_1)) .nil) b_law_read_not_3)
def b_law_read_not_5 : Ss := (.cons (.ite (.cmp .Eq (.var 2) (.cint 8)) (.cons (.ret .cnon) .nil) .nil) b_law_read_not_4)
def b_law_read_not : Ss := (.cons (.ite (.or (.cmp .GtE (.var 1) (.blt .len (.cons (.var 0) .nil))) (.cmp .NotIn (.sub (.var 0) (.var 1)) (.fz (.lst (.cons (.cstr "not") (.cons (.cstr "(") .nil)))))) (.cons (.ret (.call 107 (.cons (.var 0) (.cons (.var 1) .nil)))) .nil) .nil) b_law_read_not_5)
def b_law_read_and_1 : Ss := (.cons (.asg (.nm 1) (.bin .Add (.var 1) (.cint 1))) .nil)
def b_law_read_and_2 : Ss := (.cons (.app 3 (.sub (.var 5) (.cint 0))) (.cons (.asg (.nm 1) (.sub (.var 5) (.cint 1))) (.cons (.ite (.or (.cmp .GtE (.var 1) (.blt .len (.cons (.var 0) .nil))) (.cmp .NotEq (.sub (.var 0) (.var 1)) (.cstr "and"))) (.cons .brk .nil) .nil) b_law_read_and_1)))
def b_law_read_and_3 : Ss := (.cons (.asg (.nm 5) (.call 108 (.cons (.var 0) (.cons (.var 1) (.cons (.var 2) .nil))))) (.cons (.ite (.cmp .Is (.var 5) .cnon) (.cons (.ret .cnon) .nil) .nil) b_law_read_and_2))
def b_law_read_and_4 : Ss := (.cons (.ret (.fz (.lst (.cons (.tup (.cons (.cstr "and") (.cons (.blt .tuple (.cons (.vw 3) .nil)) .nil))) (.cons (.var 1) .nil))))) .nil)
def b_law_read_and_5 : Ss := (.cons (.ite (.cmp .Eq (.blt .len (.cons (.vw 3) .nil)) (.cint 1)) (.cons (.ret (.fz (.lst (.cons (.sub (.vw 3) (.cint 0)) (.cons (.var 1) .nil))))) .nil) .nil) b_law_read_and_4)
def b_law_read_and : Ss := (.cons (.asgO 3 (.lst .nil)) (.cons (.for (.nm 4) (.rng1 (.bin .Add (.blt .len (.cons (.var 0) .nil)) (.cint 1))) b_law_read_and_3) b_law_read_and_5))
def b_law_read_or_1 : Ss := (.cons (.asg (.nm 1) (.bin .Add (.var 1) (.cint 1))) .nil)
def b_law_read_or_2 : Ss := (.cons (.app 3 (.sub (.var 5) (.cint 0))) (.cons (.asg (.nm 1) (.sub (.var 5) (.cint 1))) (.cons (.ite (.or (.cmp .GtE (.var 1) (.blt .len (.cons (.var 0) .nil))) (.cmp .NotEq (.sub (.var 0) (.var 1)) (.cstr "or"))) (.cons .brk .nil) .nil) b_law_read_or_1)))
def b_law_read_or_3 : Ss := (.cons (.asg (.nm 5) (.call 109 (.cons (.var 0) (.cons (.var 1) (.cons (.var 2) .nil))))) (.cons (.ite (.cmp .Is (.var 5) .cnon) (.cons (.ret .cnon) .nil) .nil) b_law_read_or_2))
def b_law_read_or_4 : Ss := (.cons (.ret (.fz (.lst (.cons (.tup (.cons (.cstr "or") (.cons (.blt .tuple (.cons (.vw 3) .nil)) .nil))) (.cons (.var 1) .nil))))) .nil)
def b_law_read_or_5 : Ss := (.cons (.ite (.cmp .Eq (.blt .len (.cons (.vw 3) .nil)) (.cint 1)) (.cons (.ret (.fz (.lst (.cons (.sub (.vw 3) (.cint 0)) (.cons (.var 1) .nil))))) .nil) .nil) b_law_read_or_4)
def b_law_read_or : Ss := (.cons (.asgO 3 (.lst .nil)) (.cons (.for (.nm 4) (.rng1 (.bin .Add (.blt .len (.cons (.var 0) .nil)) (.cint 1))) b_law_read_or_3) b_law_read_or_5))
def b_law_read_condition_1 : Ss := (.cons (.ret (.sub (.var 1) (.cint 0))) .nil)
def b_law_read_condition : Ss := (.cons (.asg (.nm 1) (.call 110 (.cons (.var 0) (.cons (.cint 0) (.cons (.cint 0) .nil))))) (.cons (.ite (.or (.cmp .Is (.var 1) .cnon) (.cmp .NotEq (.sub (.var 1) (.cint 1)) (.blt .len (.cons (.var 0) .nil)))) (.cons (.ret .cnon) .nil) .nil) b_law_read_condition_1))
def b_law_1 : Ss := (.cons (.ite (.cmp .Eq (.blt .len (.cons (.var 11) .nil)) (.cint 0)) (.cons (.ret (.cbl true)) .nil) .nil) .nil)
def b_law_2 : Ss := (.cons (.asg (.nm 11) (.call 104 (.cons (.var 1) (.cons (.var 11) .nil)))) (.cons (.ite (.not (.tru (.call 24 (.cons (.call 99 (.cons (.call 97 (.cons (.var 1) (.cons (.var 11) .nil))) .nil)) (.cons (.call 111 (.cons (.var 11) .nil)) .nil))))) (.cons (.ret (.cbl false)) .nil) .nil) b_law_1))
def b_law_3 : Ss := (.cons (.asg (.nm 13) (.tup (.cons (.cstr "not") (.cons (.var 13) .nil)))) .nil)
def b_law_4 : Ss := (.cons (.ite (.not (.tru (.call 24 (.cons (.call 99 (.cons (.bin .Add (.bin .Mult (.cstr "not ") (.var 14)) (.var 3)) .nil)) (.cons (.var 6) .nil))))) (.cons (.ret (.cbl false)) .nil) .nil) .nil)
def b_law_5 : Ss := (.cons (.ret (.cmp .Is (.call 99 (.cons (.cstr "") .nil)) .cnon)) .nil)
def b_law_6 : Ss := (.cons (.ite (.cmp .Eq (.sub (.var 2) (.cint 0)) (.cstr "cmp")) (.cons (.asg (.nm 6) (.var 13)) (.cons (.ite (.cmp .Gt (.var 14) (.cint 8)) (.cons (.asg (.nm 6) .cnon) .nil) .nil) b_law_4)) .nil) b_law_5)
def b_law_7 : Ss := (.cons (.asg (.nm 13) (.var 2)) (.cons (.asg (.nm 14) (.bin .Add (.cint 4) (.call 92 (.cons (.var 1) (.cons (.cint 6) .nil))))) (.cons (.for (.nm 12) (.rng1 (.var 14)) b_law_3) b_law_6)))
def b_law_8 : Ss := (.cons (.asg (.nm 11) (.sub (.var 7) (.cint 0))) (.cons (.for (.nm 12) (.rng1 (.cint 3)) b_law_2) b_law_7))
def b_law_9 : Ss := (.cons (.ite (.cmp .IsNot (.call 99 (.cons (.bin .Add (.bin .Add (.slice (.var 3) .no (.so (.var 8))) (.var 10)) (.slice (.var 3) (.so (.var 8)) .no)) .nil)) .cnon) (.cons (.ret (.cbl false)) .nil) .nil) b_law_8)
def b_law_10 : Ss := (.cons (.asg (.nm 8) (.call 92 (.cons (.var 1) (.cons (.bin .Add (.blt .len (.cons (.var 3) .nil)) (.cint 1)) .nil)))) (.cons (.asg (.nm 9) (.cstr "ABCDEFGHIJKLMNOPQRSTUVWXYZ!\"#$&'*./;?@\\^_`{|}~\n\t")) (.cons (.asg (.nm 10) (.sub (.var 9) (.call 92 (.cons (.var 1) (.cons (.blt .len (.cons (.var 9) .nil)) .nil))))) (.cons (.ite (.and (.cmp .Eq (.var 10) (.cstr "!")) (.cmp .Eq (.slice (.var 3) (.so (.var 8)) (.so (.bin .Add (.var 8) (.cint 1)))) (.cstr "="))) (.cons (.asg (.nm 10) (.cstr "A")) .nil) .nil) b_law_9))))
def b_law_11 : Ss := (.cons (.ite (.not (.tru (.call 24 (.cons (.call 99 (.cons (.call 97 (.cons (.var 1) (.cons (.sub (.var 7) (.cint 0)) .nil))) .nil)) (.cons (.var 6) .nil))))) (.cons (.ret (.cbl false)) .nil) .nil) b_law_10)
def b_law_12 : Ss := (.cons (.asg (.nm 7) (.call 106 (.cons (.var 1) (.cons (.var 2) (.cons (.call 105 (.cons (.var 1) .nil)) (.cons (.cbl true) .nil)))))) (.cons (.asg (.nm 6) (.var 2)) (.cons (.ite (.cmp .Gt (.sub (.var 7) (.cint 1)) (.cint 8)) (.cons (.asg (.nm 6) .cnon) .nil) .nil) b_law_11)))
def b_law_13 : Ss := (.cons (.ite (.or (.not (.tru (.call 24 (.cons (.call 99 (.cons (.var 3) .nil)) (.cons (.var 6) .nil))))) (.not (.tru (.call 24 (.cons (.call 99 (.cons (.call 97 (.cons (.var 1) (.cons (.sub (.var 5) (.cint 0)) .nil))) .nil)) (.cons (.var 6) .nil)))))) (.cons (.ret (.cbl false)) .nil) .nil) b_law_12)
def b_law_14 : Ss := (.cons (.asg (.nm 6) (.var 2)) (.cons (.ite (.cmp .Gt (.sub (.var 5) (.cint 1)) (.cint 8)) (.cons (.asg (.nm 6) .cnon) .nil) .nil) b_law_13))
def b_law : Ss := (.cons (.asg (.nm 1) (.new (.lst (.cons (.call 91 (.cons (.var 0) (.cons (.cint 1400) .nil))) (.cons (.cint 0) .nil))))) (.cons (.asg (.nm 2) (.call 101 (.cons (.var 1) (.cons (.bin .Add (.cint 1) (.call 92 (.cons (.var 1) (.cons (.cint 5) .nil)))) (.cons (.cint 8) .nil))))) (.cons (.asg (.nm 3) (.call 103 (.cons (.var 2) .nil))) (.cons (.asg (.nm 4) (.call 51 (.cons (.var 2) .nil))) (.cons (.asg (.nm 5) (.call 106 (.cons (.var 1) (.cons (.var 2) (.cons (.cint 0) (.cons (.cbl false) .nil)))))) (.cons (.ite (.or (.not (.tru (.isi (.var 4) "str"))) (.cmp .NotEq (.var 4) (.var 3))) (.cons (.ret (.cbl false)) .nil) .nil) b_law_14))))))
class U (P : Prg) : Prop where
  f_read_condition : P.fns.lookup 99 = some ⟨1, 2, b_read_condition⟩
  f__law_simple : P.fns.lookup 100 = some ⟨1, 4, b_law_simple⟩
  f__law_tree : P.fns.lookup 101 = some ⟨3, 9, b_law_tree⟩
  f__law_needs : P.fns.lookup 102 = some ⟨2, 2, b_law_needs⟩
  f__law_condition_text : P.fns.lookup 103 = some ⟨1, 5, b_law_condition_text⟩
  f__law_spoilt : P.fns.lookup 104 = some ⟨2, 10, b_law_spoilt⟩
  f__law_many : P.fns.lookup 105 = some ⟨1, 2, b_law_many⟩
  f__law_dressed : P.fns.lookup 106 = some ⟨4, 8, b_law_dressed⟩
  f__law_read_cmp : P.fns.lookup 107 = some ⟨2, 4, b_law_read_cmp⟩
  f__law_read_not : P.fns.lookup 108 = some ⟨3, 4, b_law_read_not⟩
  f__law_read_and : P.fns.lookup 109 = some ⟨3, 6, b_law_read_and⟩
  f__law_read_or : P.fns.lookup 110 = some ⟨3, 6, b_law_read_or⟩
  f__law_read_condition : P.fns.lookup 111 = some ⟨1, 2, b_law_read_condition⟩
  f_law : P.fns.lookup 112 = some ⟨1, 15, b_law⟩
end K03

set_option maxRecDepth 100000
set_option maxHeartbeats 4000000
namespace K03
open PySem L2 VL
def P : Prg where
  fns := [(0, Fn.mk 3 4 Wd.b_behind_run), (1, Fn.mk 2 3 Wd.b_sign_at), (2, Fn.mk 2 2 Wd.b_behind_word), (3, Fn.mk 1 4 Wd.b_split_row), (4, Fn.mk 1 1 Wd.b_is_name), (5, Fn.mk 1 1 Wd.b_is_number), (6, Fn.mk 2 2 Tm.b_word_at), (7, Fn.mk 2 2 Tm.b_whole), (8, Fn.mk 2 2 Tm.b_signed_at), (9, Fn.mk 2 2 Tm.b_plus_at), (10, Fn.mk 3 5 Tm.b_named_at), (11, Fn.mk 2 3 Tm.b_plain_at), (12, Fn.mk 2 2 Tm.b_list_at), (13, Fn.mk 2 5 Tm.b_cell_at), (14, Fn.mk 2 3 Tm.b_term_at), (15, Fn.mk 1 1 Tw.b_write_plus), (16, Fn.mk 1 1 Tw.b_write_list), (17, Fn.mk 1 1 Tw.b_write_term), (21, Fn.mk 0 0 Lw.b_law_letters), (22, Fn.mk 1 1 Lw.b_law_list_text), (23, Fn.mk 2 2 Lw.b_law_joins), (24, Fn.mk 2 3 Lw.b_law_same), (25, Fn.mk 0 1 Lr.b_law_reserved), (26, Fn.mk 1 2 Lr.b_law_is_name), (27, Fn.mk 1 2 Lr.b_law_is_number), (28, Fn.mk 1 1 Lr.b_law_list_words), (29, Fn.mk 2 2 Lr.b_law_word), (30, Fn.mk 2 2 Lr.b_law_read_plus), (31, Fn.mk 2 5 Lr.b_law_read_plain), (32, Fn.mk 2 3 Lr.b_law_read_list), (49, Fn.mk 2 4 Cm.b_comparison_at), (50, Fn.mk 2 2 Wc.b_write_part), (51, Fn.mk 1 2 Wc.b_write_condition), (86, Fn.mk 3 5 Cd.b_part_at), (87, Fn.mk 2 2 Cd.b_joined), (88, Fn.mk 3 5 Cd.b_and_at), (89, Fn.mk 3 5 Cd.b_or_at), (90, Fn.mk 1 1 Cd.b_condition_of), (91, Fn.mk 2 8 H3.b_law_draws), (92, Fn.mk 2 4 H3.b_law_take), (93, Fn.mk 1 1 L3.b_law_plus_words), (94, Fn.mk 1 1 L3.b_law_words_of), (95, Fn.mk 1 1 L3.b_law_plus_text), (96, Fn.mk 1 1 L3.b_law_text), (97, Fn.mk 2 5 L3.b_law_spaced), (98, Fn.mk 2 5 L3.b_law_read), (99, Fn.mk 1 2 K03.b_read_condition), (100, Fn.mk 1 4 K03.b_law_simple), (101, Fn.mk 3 9 K03.b_law_tree), (102, Fn.mk 2 2 K03.b_law_needs), (103, Fn.mk 1 5 K03.b_law_condition_text), (104, Fn.mk 2 10 K03.b_law_spoilt), (105, Fn.mk 1 2 K03.b_law_many), (106, Fn.mk 4 8 K03.b_law_dressed), (107, Fn.mk 2 4 K03.b_law_read_cmp), (108, Fn.mk 3 4 K03.b_law_read_not), (109, Fn.mk 3 6 K03.b_law_read_and), (110, Fn.mk 3 6 K03.b_law_read_or), (111, Fn.mk 1 2 K03.b_law_read_condition), (112, Fn.mk 1 15 K03.b_law)]
  glob := [(1, .str "abcdefghijklmnopqrstuvwxyz"), (2, .str "0123456789"), (0, .tup (Wd.signs.map AV.str)), (3, .tup (Wd.reserved.map AV.str)), (4, .int 12), (5, .int 10), (6, .tup (Cm.comparing.map AV.str)), (7, .int 8)]
  meth := []
  init := []
  flds := []
instance : Wd.U P := ⟨rfl, rfl, rfl, rfl, rfl, rfl, rfl, rfl, rfl, rfl, rfl, rfl⟩
instance : Tm.U P := ⟨rfl, rfl, rfl, rfl, rfl, rfl, rfl, rfl, rfl⟩
instance : Tw.U P := ⟨rfl, rfl, rfl⟩
instance : Lw.U P := ⟨rfl, rfl, rfl, rfl⟩
instance : Lr.U P := ⟨rfl, rfl, rfl, rfl, rfl, rfl, rfl, rfl⟩
instance : Cm.U P := ⟨rfl, rfl⟩
instance : Wc.U P := ⟨rfl, rfl⟩
instance : Cd.U P := ⟨rfl, rfl, rfl, rfl, rfl, rfl⟩
instance : H3.U P := ⟨rfl, rfl⟩
instance : L3.U P := ⟨rfl, rfl, rfl, rfl, rfl, rfl⟩
instance : K03.U P := ⟨rfl, rfl, rfl, rfl, rfl, rfl, rfl, rfl, rfl, rfl, rfl, rfl, rfl, rfl⟩
end K03

set_option maxRecDepth 100000
set_option maxHeartbeats 4000000
namespace Wd
open PySem L2 VL
def mkS (l : List Nat) : Str := ⟨l.toArray⟩
theorem mkS_L (s : Str) : ∃ l, s = mkS l := ⟨s.cps.toList, rfl⟩
theorem mkS_len (l : List Nat) : (mkS l).length = l.length := by simp [mkS, Str.length]
theorem mkS_list (l : List Nat) : (mkS l).cps.toList = l := rfl
theorem mkS_inj {a b : List Nat} : mkS a = mkS b ↔ a = b := by simp [mkS]
theorem mkS_eq {a b : List Nat} : decide (mkS a = mkS b) = decide (a = b) := by simp [mkS_inj]
theorem mkS_app (a b : List Nat) : mkS a ++ mkS b = mkS (a ++ b) := by
  show (⟨a.toArray ++ b.toArray⟩ : Str) = _
  simp [mkS]
theorem cut_list {α : Type} (l : List α) (i j n : Nat) (e : n = l.length) : (l.drop (min i n)).take (min j n - min i n) = (l.drop i).take (j - i) := by
  subst e
  by_cases hi : l.length ≤ i
  · rw [Nat.min_eq_right hi, List.drop_of_length_le (Nat.le_refl _), List.drop_of_length_le hi]; simp
  · rw [Nat.min_eq_left (by omega : i ≤ l.length)]
    by_cases hj : j ≤ l.length
    · rw [Nat.min_eq_left hj]
    · rw [Nat.min_eq_right (by omega : l.length ≤ j), List.take_of_length_le (by simp), List.take_of_length_le (by simp; omega)]
theorem mkS_cut (l : List Nat) (i j : Nat) : cutS (mkS l) (some (i : Int)) (some (j : Int)) = mkS ((l.drop i).take (j - i)) := by
  unfold cutS
  rw [mkS_len, HT.sIx_nat, HT.sIx_nat, mkS_list, cut_list _ _ _ _ rfl]
  rfl
def letters : List Nat := List.range' 97 26
def figures : List Nat := List.range' 48 10
def twos : List (List Nat) := [[60, 61], [62, 61], [61, 61], [33, 61]]
def ones : List Nat := [60, 62, 61, 43, 45, 40, 41, 91, 93, 44, 58]
def SG : List (List Nat) := twos ++ ones.map fun c => [c]
def runLen (sg l : List Nat) : Nat := (l.takeWhile fun c => decide (c ∈ sg)).length
theorem runLen_le (sg l : List Nat) : runLen sg l ≤ l.length := by
  unfold runLen
  exact (List.takeWhile_sublist _).length_le
theorem runLen_in {sg r : List Nat} {c : Nat} (h : c ∈ sg) : runLen sg (c :: r) = runLen sg r + 1 := by simp [runLen, h]
theorem runLen_out {sg r : List Nat} {c : Nat} (h : c ∉ sg) : runLen sg (c :: r) = 0 := by simp [runLen, h]
theorem runLen_nil {sg : List Nat} : runLen sg [] = 0 := rfl
theorem runLen_all {sg l : List Nat} : runLen sg l = l.length ↔ ∀ c ∈ l, c ∈ sg := by
  induction l with
  | nil => simp [runLen]
  | cons c r ih =>
    by_cases h : c ∈ sg
    · rw [runLen_in h]; simp [ih, h]
    · rw [runLen_out h]; simp [h]
theorem runLen_app {sg l t : List Nat} (ht : ∀ c ∈ t, c ∉ sg) : runLen sg (l ++ t) = runLen sg l := by
  induction l with
  | nil => cases t with
    | nil => rfl
    | cons a t => rw [List.nil_append, runLen_out (ht a (List.mem_cons_self ..))]; rfl
  | cons c r ih =>
    by_cases h : c ∈ sg
    · rw [List.cons_append, runLen_in h, runLen_in h, ih]
    · rw [List.cons_append, runLen_out h, runLen_out h]
def signLen (d : List Nat) : Nat := ((SG.find? fun g => decide (d.take g.length = g)).getD []).length
theorem find_len (G : List (List Nat)) (d : List Nat) (k : Nat) (hG : ∀ g ∈ G, g.length = k) : (G.find? fun g => decide (d.take g.length = g)) = if d.take k ∈ G then some (d.take k) else none := by
  induction G with
  | nil => rfl
  | cons g G ih =>
    have hg := hG g (List.mem_cons_self ..)
    have ih := ih fun g h => hG g (List.mem_cons_of_mem _ h)
    by_cases e : d.take k = g
    · rw [List.find?_cons_of_pos (by rw [hg]; exact decide_eq_true e), if_pos (by rw [e]; exact List.mem_cons_self ..), e]
    · rw [List.find?_cons_of_neg (by rw [hg]; simpa using e), ih]
      by_cases m : d.take k ∈ G
      · rw [if_pos m, if_pos (List.mem_cons_of_mem _ m)]
      · rw [if_neg m, if_neg (by simp [e, m])]
theorem signLen_eq (c : Nat) (r : List Nat) : signLen (c :: r) = if (c :: r).take 2 ∈ twos then 2 else if c ∈ ones then 1 else 0 := by
  unfold signLen SG
  rw [List.find?_append, find_len twos _ 2 (by decide), find_len _ _ 1 (by intro g h; obtain ⟨c, _, rfl⟩ := List.mem_map.mp h; rfl)]
  by_cases h : (c :: r).take 2 ∈ twos
  · rw [if_pos h, if_pos h]
    have : ∀ g ∈ twos, g.length = 2 := by decide
    exact this _ h
  · rw [if_neg h, if_neg h]
    by_cases k : c ∈ ones
    · simp [k]
    · simp [k]
def stepLen (d : List Nat) : Nat := match d with
  | [] => 0
  | c :: r => if c ∈ letters then runLen letters (c :: r) else if c ∈ figures then runLen figures (c :: r) else signLen (c :: r)
theorem stepLen_le (d : List Nat) : stepLen d ≤ d.length := by
  cases d with
  | nil => exact Nat.le_refl _
  | cons c r =>
    simp only [stepLen]
    split
    · exact runLen_le _ _
    · split
      · exact runLen_le _ _
      · rw [signLen_eq]
        split
        · rename_i h
          cases r with
          | nil =>
            have : ∀ g ∈ twos, g.length = 2 := by decide
            have := this _ h
            simp at this
          | cons a r => simp
        · split <;> simp
theorem step_app (d t : List Nat) (hd : d ≠ []) (ht : ∀ c ∈ t, c = 32) : stepLen (d ++ t) = stepLen d := by
  cases d with
  | nil => exact absurd rfl hd
  | cons c r =>
    have h1 : ∀ c ∈ t, c ∉ letters := fun c hc => by rw [ht c hc]; decide
    have h2 : ∀ c ∈ t, c ∉ figures := fun c hc => by rw [ht c hc]; decide
    have e1 := runLen_app (l := c :: r) h1
    have e2 := runLen_app (l := c :: r) h2
    simp only [List.cons_append] at e1 e2
    simp only [List.cons_append, stepLen, e1, e2]
    split
    · rfl
    · split
      · rfl
      · rw [signLen_eq, signLen_eq]
        have : ((c :: (r ++ t)).take 2 ∈ twos) ↔ ((c :: r).take 2 ∈ twos) := by
          cases r with
          | cons a r => simp
          | nil =>
            cases t with
            | nil => simp
            | cons a t =>
              rw [ht a (List.mem_cons_self ..)]
              simp [twos]
        simp only [this]
inductive Tk : List Nat → Option (List (List Nat)) → Prop
  | nil : Tk [] (some [])
  | sp {r x} : Tk r x → Tk (32 :: r) x
  | bad {c r} : c ≠ 32 → stepLen (c :: r) = 0 → Tk (c :: r) none
  | tok {c r x} : c ≠ 32 → stepLen (c :: r) ≠ 0 → Tk ((c :: r).drop (stepLen (c :: r))) x → Tk (c :: r) (x.map ((c :: r).take (stepLen (c :: r)) :: ·))
theorem Tk.det {l x y} (a : Tk l x) (b : Tk l y) : x = y := by
  induction a generalizing y with
  | nil => cases b; rfl
  | sp _ ih => cases b with
    | sp b => exact ih b
    | bad h => exact absurd rfl h
    | tok h => exact absurd rfl h
  | bad h e => cases b with
    | sp b => exact absurd rfl h
    | bad h => rfl
    | tok _ k => exact absurd e k
  | tok h e _ ih => cases b with
    | sp b => exact absurd rfl h
    | bad _ k => exact absurd k e
    | tok _ _ b => rw [ih b]
theorem Tk.len {l x} (a : Tk l x) : ∀ ws, x = some ws → ∀ w ∈ ws, w.length ≤ l.length := by
  induction a with
  | nil => intro ws e; cases e; simp
  | sp _ ih => intro ws e w hw; have := ih ws e w hw; simp; omega
  | bad => intro ws e; cases e
  | @tok c r x h e b ih =>
    intro ws e w hw
    obtain ⟨v, rfl, rfl⟩ := Option.map_eq_some_iff.mp e
    rcases List.mem_cons.mp hw with rfl | hw
    · rw [List.length_take]; exact Nat.min_le_right _ _
    · have := ih v rfl w hw
      rw [List.length_drop] at this
      omega
theorem Tk.spaces {t : List Nat} (ht : ∀ c ∈ t, c = 32) : Tk t (some []) := by
  induction t with
  | nil => exact .nil
  | cons c t ih =>
    rw [ht c (List.mem_cons_self ..)]
    exact .sp (ih fun c h => ht c (List.mem_cons_of_mem _ h))
theorem Tk.pre {t l : List Nat} {x} (ht : ∀ c ∈ t, c = 32) (a : Tk l x) : Tk (t ++ l) x := by
  induction t with
  | nil => exact a
  | cons c t ih =>
    rw [ht c (List.mem_cons_self ..)]
    exact .sp (ih fun c h => ht c (List.mem_cons_of_mem _ h))
theorem Tk.post {t l : List Nat} {x} (ht : ∀ c ∈ t, c = 32) (a : Tk l x) : Tk (l ++ t) x := by
  induction a with
  | nil => exact .spaces ht
  | sp _ ih => exact .sp ih
  | @bad c r h e => exact .bad h ((step_app (c :: r) t (by simp) ht).trans e)
  | @tok c r x h e b ih =>
    have s := step_app (c :: r) t (by simp) ht
    have := Tk.tok (c := c) (r := r ++ t) (x := x) h (by rw [← List.cons_append, s]; exact e) (by
      rw [← List.cons_append, s, List.drop_append_of_le_length (stepLen_le _)]
      exact ih)
    rw [← List.cons_append, s, List.take_append_of_le_length (stepLen_le _)] at this
    exact this
/-- what is left, and what has been cut -/
def Way (l : List Nat) (i : Nat) (acc : List (List Nat)) : Prop := ∀ x, Tk (l.drop i) x → Tk l (x.map (acc ++ ·))
theorem Way.start (l : List Nat) : Way l 0 [] := fun x h => by
  rw [List.drop_zero] at h
  cases x <;> exact h
theorem Way.done {l : List Nat} {i acc} (w : Way l i acc) (h : l.length ≤ i) : Tk l (some acc) := by
  have := w (some []) (by rw [List.drop_of_length_le h]; exact .nil)
  simpa using this
theorem drop_get {l : List Nat} {i c : Nat} (h : l[i]? = some c) : l.drop i = c :: l.drop (i + 1) := by
  obtain ⟨h1, rfl⟩ := List.getElem?_eq_some_iff.mp h
  exact List.drop_eq_getElem_cons h1
theorem Way.space {l : List Nat} {i acc} (w : Way l i acc) (h : l[i]? = some 32) : Way l (i + 1) acc := fun x k => w x (by rw [drop_get h]; exact .sp k)
theorem Way.run {l : List Nat} {i acc} (w : Way l i acc) : Way l (i + runLen [32] (l.drop i)) acc := by
  intro x k
  refine w x ?_
  have e : ∀ (d : List Nat), (∀ c ∈ d.take (runLen [32] d), c = 32) := by
    intro d
    induction d with
    | nil => simp
    | cons c r ih =>
      by_cases h : c ∈ [32]
      · rw [runLen_in h, List.take_succ_cons]
        intro a ha
        rcases List.mem_cons.mp ha with rfl | ha
        · simpa using h
        · exact ih a ha
      · rw [runLen_out h]; simp
  have := Tk.pre (e (l.drop i)) k
  rwa [← List.drop_drop, List.take_append_drop] at this
theorem Way.bad {l : List Nat} {i acc c} (w : Way l i acc) (h : l[i]? = some c) (h1 : c ≠ 32) (h2 : stepLen (l.drop i) = 0) : Tk l none := by
  rw [drop_get h] at h2
  exact w none (by rw [drop_get h]; exact .bad h1 h2)
theorem Way.tok {l : List Nat} {i acc c} (w : Way l i acc) (h : l[i]? = some c) (h1 : c ≠ 32) (h2 : stepLen (l.drop i) ≠ 0) : Way l (i + stepLen (l.drop i)) (acc ++ [(l.drop i).take (stepLen (l.drop i))]) := by
  intro x k
  rw [← List.drop_drop] at k
  have := w (x.map ((l.drop i).take (stepLen (l.drop i)) :: ·)) (by
    rw [drop_get h] at h2 k ⊢
    exact .tok h1 h2 k)
  cases x with
  | none => exact this
  | some x => simpa using this
end Wd

set_option maxRecDepth 100000
set_option maxHeartbeats 4000000
namespace Wd
open PySem L2 VL
local macro_rules
  | `(tactic| push_cast [$xs,*]) => `(tactic| try simp only [$xs,*, WpSs, WpS, WpE, WpEs, WpBs, WpO, WpN, WpI, WpC, WpT, getS, setS, tgK, setsS, wipeS, k_add, k_addT, k_sub, k_mul, k_fdiv, k_mod, k_neg, k_lt, k_le, k_gt, k_ge, k_eqI, k_neI, k_eqS, k_neS, k_eqB, k_neB, k_is, k_isn, isNon_non, isNon_int, isNon_str, isNon_lst, isNon_tup, isNon_adr, k_lenS, k_lenL, k_lenR, k_lenT, k_int, k_str, k_abs, tru_bl, augK, ctx_call, ctx_glob, k_in, k_nin, k_inS, k_addS, k_intB, isi_non_int, isi_non_bool, isi_non_str, isi_non_list, isi_non_tuple, isi_bl_int, isi_bl_bool, isi_bl_str, isi_bl_list, isi_bl_tuple, isi_int_int, isi_int_bool, isi_int_str, isi_int_list, isi_int_tuple, isi_str_int, isi_str_bool, isi_str_str, isi_str_list, isi_str_tuple, isi_tup_int, isi_tup_bool, isi_tup_str, isi_tup_list, isi_tup_tuple, isi_lst_int, isi_lst_bool, isi_lst_str, isi_lst_list, isi_lst_tuple, isi_ro_int, isi_ro_bool, isi_ro_str, isi_ro_list, isi_ro_tuple])
section
variable {P : Prg} [U P]
theorem run_step {sg l : List Nat} {j : Nat} (hj : j < l.length) (hm : l[j] ∈ sg) : runLen sg (l.drop j) = runLen sg (l.drop (j + 1)) + 1 := by
  rw [List.drop_eq_getElem_cons hj, runLen_in hm]
theorem run_stop {sg l : List Nat} {j : Nat} (hj : j < l.length) (hm : l[j] ∉ sg) : runLen sg (l.drop j) = 0 := by
  rw [List.drop_eq_getElem_cons hj, runLen_out hm]
theorem run_end {sg l : List Nat} {j : Nat} (hj : l.length ≤ j) : runLen sg (l.drop j) = 0 := by
  rw [List.drop_of_length_le hj]; rfl
theorem behind_run_ok {n : Nat} {l sg : List Nat} {i : Nat} {h Q} (hz : l.length ≤ sizeLine) (hi : i ≤ l.length) (q : Q (.int ((i + runLen sg (l.drop i) : Nat) : Int)) h) : callN P (n+1) 0 [.str (mkS l), .int (i : Int), .str (mkS sg)] h Q := by
  refine call_of U.f_behind_run rfl ?_
  show WpSs (ctxOf P (callN P n)) b_behind_run _ [.val (.str (mkS l)), .val (.int i), .val (.str (mkS sg)), .no] h
  push_cast [b_behind_run]
  refine wh_inv (fun m ρ h' => ∃ j : Nat, j ≤ l.length ∧ m = l.length - j ∧ ρ = [.val (.str (mkS l)), .val (.int i), .val (.str (mkS sg)), .val (.int j)] ∧ h' = h ∧ j + runLen sg (l.drop j) = i + runLen sg (l.drop i)) (l.length - i) ⟨i, hi, rfl, rfl, rfl, rfl⟩ ?_
  rintro m _ h D' ⟨j, hj, rfl, rfl, rfl, e⟩ kn kc kr kb
  have stop : runLen sg (l.drop j) = 0 → WpSs (ctxOf P (callN P n)) b_behind_run_2 { nx := fun x h => Q .non h, rt := Q } [.val (.str (mkS l)), .val (.int i), .val (.str (mkS sg)), .val (.int j)] h := by
    intro z
    push_cast [b_behind_run_2]
    rw [z] at e
    rw [← e] at q
    exact q
  push_cast [mkS_len]
  refine ⟨hz, ?_⟩
  refine ite_b (fun c => ?_) (fun c => ?_)
  · have hj' : j < l.length := by omega
    refine k_subS (by rw [mkS_len]; exact hz) (k := j) (c := l[j]) (List.getElem?_eq_getElem hj') ?_
    push_cast [mkS_list]
    refine ite_b (fun c => ?_) (fun c => ?_)
    · push_cast [b_behind_run_1]
      refine kn (l.length - (j + 1)) _ _ (by omega) ⟨j + 1, by omega, rfl, rfl, rfl, ?_⟩
      rw [← e, run_step hj' c]
      omega
    · exact stop (run_stop hj' c)
  · exact stop (run_end (by omega))
theorem signs_eq : signs = SG.map mkS := by decide +kernel
theorem letters_eq : ("abcdefghijklmnopqrstuvwxyz" : Str) = mkS letters := by decide +kernel
theorem figures_eq : ("0123456789" : Str) = mkS figures := by decide +kernel
theorem sp_eq : (" " : Str) = mkS [32] := by decide +kernel
theorem em_eq : ("" : Str) = mkS [] := by decide +kernel
theorem sign_at_ok {n : Nat} {l : List Nat} {i : Nat} {h Q} (hz : l.length ≤ sizeLine) (q : Q (.str (mkS ((SG.find? fun g => decide ((l.drop i).take g.length = g)).getD []))) h) : callN P (n+1) 1 [.str (mkS l), .int (i : Int)] h Q := by
  refine call_of U.f_sign_at rfl ?_
  show WpSs (ctxOf P (callN P n)) b_sign_at _ [.val (.str (mkS l)), .val (.int i), .no] h
  have eg : P.glob.lookup 0 = some (.tup (SG.map fun g => .str (mkS g))) := by
    rw [U.g_SIGNS]
    show some (AV.tup (signs.map AV.str)) = _
    rw [signs_eq, List.map_map]
    rfl
  push_cast [b_sign_at, eg, viewT_tup]
  refine for_inv (fun k ρ h' => h' = h ∧ (∃ s, ρ = [.val (.str (mkS l)), .val (.int i), s]) ∧ (SG.find? fun g => decide ((l.drop i).take g.length = g)) = ((SG.drop k).find? fun g => decide ((l.drop i).take g.length = g))) ⟨rfl, ⟨_, rfl⟩, rfl⟩ (fun _ _ _ _ _ => by trivial) ?_ ?_
  · rintro k x _ _ D' hx ⟨rfl, ⟨s, rfl⟩, e⟩ kn kc kr kb
    obtain ⟨g, hg, rfl⟩ := items_map hx
    have hgl : g.length ≤ 2 := by
      have : ∀ g ∈ SG, g.length ≤ 2 := by decide
      exact this g (List.mem_of_getElem? hg)
    push_cast [b_sign_at_1, mkS_len]
    refine ⟨by have : 2 ≤ sizeLine := by decide
               omega, hz, ?_⟩
    have ei : (i : Int) + (g.length : Int) = ((i + g.length : Nat) : Int) := by omega
    rw [ei, mkS_cut]
    push_cast [mkS_eq]
    have es : i + g.length - i = g.length := by omega
    rw [es]
    obtain ⟨h1, h2⟩ := List.getElem?_eq_some_iff.mp hg
    rw [List.drop_eq_getElem_cons h1, h2] at e
    refine ite_b (fun c => ?_) (fun c => ?_)
    · refine kr _ _ ?_
      rw [e, List.find?_cons_of_pos (by simpa using c)] at q
      exact q
    · refine kn _ _ ⟨rfl, ⟨_, rfl⟩, ?_⟩
      rw [e, List.find?_cons_of_neg (by simpa using c)]
  · rintro _ _ ⟨rfl, ⟨s, rfl⟩, e⟩
    push_cast [b_sign_at_2]
    rw [List.length_map, List.drop_of_length_le (Nat.le_refl _)] at e
    rw [e] at q
    exact q
theorem behind_word_ok {n : Nat} {l : List Nat} {i : Nat} {h Q} (hz : l.length ≤ sizeLine) (hi : i < l.length) (q : Q (.int ((i + stepLen (l.drop i) : Nat) : Int)) h) : callN P (n+2) 2 [.str (mkS l), .int (i : Int)] h Q := by
  refine call_of U.f_behind_word rfl ?_
  show WpSs (ctxOf P (callN P (n+1))) b_behind_word _ [.val (.str (mkS l)), .val (.int i)] h
  have e0 : P.glob.lookup 1 = some (.str (mkS letters)) := by rw [U.g_LETTERS, letters_eq]
  have e1 : P.glob.lookup 2 = some (.str (mkS figures)) := by rw [U.g_FIGURES, figures_eq]
  have ed := List.drop_eq_getElem_cons hi
  have es : stepLen (l.drop i) = if l[i] ∈ letters then runLen letters (l.drop i) else if l[i] ∈ figures then runLen figures (l.drop i) else signLen (l.drop i) := by
    rw [ed]; rfl
  push_cast [b_behind_word, e0]
  refine k_subS (by rw [mkS_len]; exact hz) (k := i) (c := l[i]) (List.getElem?_eq_getElem hi) ?_
  push_cast [mkS_list]
  refine ite_b (fun c => ?_) (fun c => ?_)
  · refine behind_run_ok hz (by omega) ?_
    rw [es, if_pos c] at q
    exact q
  push_cast [b_behind_word_2, e1]
  refine k_subS (by rw [mkS_len]; exact hz) (k := i) (c := l[i]) (List.getElem?_eq_getElem hi) ?_
  push_cast [mkS_list]
  refine ite_b (fun c2 => ?_) (fun c2 => ?_)
  · refine behind_run_ok hz (by omega) ?_
    rw [es, if_neg c, if_pos c2] at q
    exact q
  push_cast [b_behind_word_1]
  refine sign_at_ok hz ?_
  rw [es, if_neg c, if_neg c2] at q
  push_cast [mkS_len]
  have : ((SG.find? fun g => decide ((l.drop i).take g.length = g)).getD []).length ≤ sizeLine := by
    have := signLen_eq l[i] (l.drop (i + 1))
    rw [← ed] at this
    unfold signLen at this
    rw [this]
    split
    · decide
    · split <;> decide
  refine ⟨this, ?_⟩
  exact q
/-- the words as a value -/
def wl (ws : List (List Nat)) : List AV := ws.map fun w => .str (mkS w)
theorem wl_app (a b : List (List Nat)) : wl a ++ wl b = wl (a ++ b) := (List.map_append ..).symm
theorem wl_one (a : List (List Nat)) (w : List Nat) : wl a ++ [.str (mkS w)] = wl (a ++ [w]) := wl_app a [w]
theorem wl_len (a : List (List Nat)) : (wl a).length = a.length := List.length_map ..
theorem cells_last (h : AHeap) (c : Cell) : cells (h ++ [c]) h.length = c := by simp [cells]
theorem set_last (h : AHeap) (c d : Cell) : (h ++ [c]).set h.length d = h ++ [d] := by simp
theorem run_next {sg l : List Nat} {i : Nat} : ∀ c, l[i + runLen sg (l.drop i)]? = some c → c ∉ sg := by
  have key : ∀ d : List Nat, ∀ c, d[runLen sg d]? = some c → c ∉ sg := by
    intro d
    induction d with
    | nil => intro c h; simp at h
    | cons a r ih =>
      intro c h
      by_cases m : a ∈ sg
      · rw [runLen_in m] at h; exact ih c (by simpa using h)
      · rw [runLen_out m] at h
        simp at h
        rw [← h]; exact m
  intro c h
  refine key (l.drop i) c ?_
  rw [List.getElem?_drop]
  exact h
theorem run_room {sg l : List Nat} {i : Nat} (hi : i ≤ l.length) : i + runLen sg (l.drop i) ≤ l.length := by
  have := runLen_le sg (l.drop i)
  rw [List.length_drop] at this
  omega
theorem step_room {l : List Nat} {i : Nat} (hi : i ≤ l.length) : i + stepLen (l.drop i) ≤ l.length := by
  have := stepLen_le (l.drop i)
  rw [List.length_drop] at this
  omega
theorem split_row_ok {n : Nat} {l : List Nat} {h Q} (hz : l.length ≤ sizeLine) (qn : Tk l none → ∀ c, Q .non (h ++ [c])) (qs : ∀ ws, Tk l (some ws) → Q (.adr h.length) (h ++ [.lst (wl ws)])) : callN P (n+3) 3 [.str (mkS l)] h Q := by
  refine call_of U.f_split_row rfl ?_
  show WpSs (ctxOf P (callN P (n+2))) b_split_row _ [.val (.str (mkS l)), .no, .no, .no] h
  push_cast [b_split_row, sp_eq]
  refine ⟨Nat.zero_le _, ?_⟩
  refine behind_run_ok (i := 0) hz (Nat.zero_le _) ?_
  refine wh_inv (fun m ρ h' => ∃ (j : Nat) (acc : List (List Nat)) (s : Slot), j ≤ l.length ∧ acc.length ≤ j ∧ m = l.length - j ∧ ρ = [.val (.str (mkS l)), .val (.adr h.length), .val (.int j), s] ∧ h' = h ++ [.lst (wl acc)] ∧ Way l j acc ∧ ∀ c, l[j]? = some c → c ≠ 32) _ ⟨0 + runLen [32] (l.drop 0), [], .no, run_room (Nat.zero_le _), Nat.zero_le _, rfl, rfl, rfl, (Way.start l).run, ?_⟩ ?_
  · intro c hc
    have := run_next c hc
    simpa using this
  rintro m _ _ D' ⟨j, acc, s, hj, ha, rfl, rfl, rfl, hw, hs⟩ kn kc kr kb
  push_cast [mkS_len]
  refine ⟨hz, ?_⟩
  refine ite_b (fun c => ?_) (fun c => ?_)
  · have hj' : j < l.length := by omega
    have hg := List.getElem?_eq_getElem hj'
    have hs := hs _ hg
    push_cast [b_split_row_2]
    refine behind_word_ok hz hj' ?_
    push_cast [WpSs]
    refine ite_b (fun c2 => ?_) (fun c2 => ?_)
    · refine kr _ _ (qn (hw.bad hg hs (by omega)) _)
    · push_cast [b_split_row_1, cells_last, appC, set_last, mkS_cut, k_sliceS, mkS_len, sp_eq, wl_one, wl_len]
      refine ⟨hz, by omega, ?_⟩
      have hr := step_room (l := l) (i := j) (by omega)
      refine behind_run_ok hz hr ?_
      have e : j + stepLen (l.drop j) - j = stepLen (l.drop j) := by omega
      have hr2 := run_room (sg := [32]) hr
      refine kn (l.length - _) _ _ ?_ ⟨j + stepLen (l.drop j) + runLen [32] (l.drop (j + stepLen (l.drop j))), _, _, hr2, ?_, rfl, rfl, rfl, ?_, ?_⟩
      · omega
      · rw [List.length_append]; show acc.length + 1 ≤ _; omega
      · rw [e]
        exact (hw.tok hg hs (by omega)).run
      · intro c hc
        have := run_next c hc
        simpa using this
  · push_cast [b_split_row_3]
    exact qs _ (hw.done (by omega))
def RS0 : List (List Nat) := reserved.map (·.cps.toList)
theorem reserved_eq : reserved = RS0.map mkS := by decide +kernel
theorem any_str (ws : List (List Nat)) (v : List Nat) : ((wl ws).any fun y => eqF y (.str (mkS v))) = decide (v ∈ ws) := by
  induction ws with
  | nil => rfl
  | cons w ws ih =>
    show (eqF (.str (mkS w)) (.str (mkS v)) || (wl ws).any fun y => eqF y (.str (mkS v))) = _
    rw [ih]
    show ((mkS w == mkS v) || _) = _
    have : (mkS w == mkS v) = decide (w = v) := by
      by_cases h : w = v
      · rw [h]; simp
      · rw [decide_eq_false h]
        exact beq_false_of_ne fun k => h (mkS_inj.mp k)
    rw [this]
    by_cases h : w = v
    · subst h; simp
    · have h2 : ¬ v = w := fun k => h k.symm
      simp [h, h2]
theorem flat_wl (ws : List (List Nat)) : (wl ws).all flatA = true := by
  induction ws with
  | nil => rfl
  | cons w ws ih => exact ih
theorem in_wl {h : AHeap} {b : Bool} {v : List Nat} {y : AV} {ws : List (List Nat)} {Q : KA} (hy : viewT h y = some (wl ws)) (hn : ∀ z, y ≠ .str z) (q : Q (.bl (if b then !decide (v ∈ ws) else decide (v ∈ ws)))) : inK h b (.str (mkS v)) y Q := by
  refine k_inF rfl hy (flat_wl _) hn ?_
  rw [any_str]
  exact q
def RS : List (List Nat) := RS0
/-- a name as the program wants it -/
def nameOk (w : List Nat) : Bool := decide (w ∉ RS0 ∧ 1 ≤ w.length ∧ w.length ≤ 12 ∧ ∀ c ∈ w, c ∈ letters)
def numOk (w : List Nat) : Bool := decide (1 ≤ w.length ∧ w.length ≤ 10 ∧ ¬ (w[0]? = some 48 ∧ 1 < w.length) ∧ ∀ c ∈ w, c ∈ figures)
theorem is_name_ok {n : Nat} {w : List Nat} {h Q} (hz : w.length ≤ sizeLine) (q : Q (.bl (nameOk w)) h) : callN P (n+2) 4 [.str (mkS w)] h Q := by
  refine call_of U.f_is_name rfl ?_
  show WpSs (ctxOf P (callN P (n+1))) b_is_name _ [.val (.str (mkS w))] h
  have e0 : P.glob.lookup 1 = some (.str (mkS letters)) := by rw [U.g_LETTERS, letters_eq]
  have e3 : P.glob.lookup 3 = some (.tup (wl RS0)) := by
    rw [U.g_RESERVED]
    show some (AV.tup (reserved.map AV.str)) = _
    rw [reserved_eq, List.map_map]
    rfl
  have e4 : P.glob.lookup 4 = some (.int 12) := U.g_MOST_LETTERS
  push_cast [b_is_name, e3]
  refine in_wl rfl (fun _ h => by cases h) ?_
  refine ite_b (fun c => ?_) (fun c => ?_)
  · push_cast [if_true]
    have : nameOk w = false := by simp [nameOk, c]
    rw [this] at q
    exact q
  have fin : w ∉ RS0 → 1 ≤ w.length → w.length ≤ 12 → WpSs (ctxOf P (callN P (n+1))) b_is_name_1 { nx := fun x h => Q .non h, rt := Q } [.val (.str (mkS w))] h := by
    intro h1 h2 h3
    push_cast [b_is_name_1, e0]
    refine behind_run_ok (i := 0) hz (Nat.zero_le _) ?_
    push_cast [mkS_len]
    refine ⟨hz, ?_⟩
    have : decide (((0 + runLen letters (w.drop 0) : Nat) : Int) = (w.length : Int)) = nameOk w := by
      simp only [nameOk, Nat.zero_add, List.drop_zero]
      rw [decide_eq_decide]
      have := runLen_all (sg := letters) (l := w)
      constructor
      · intro h; exact ⟨h1, h2, h3, this.mp (by omega)⟩
      · intro h; have := this.mpr h.2.2.2; omega
    rw [this]
    exact q
  push_cast [mkS_len, e4]
  refine ⟨hz, ?_⟩
  by_cases c1 : 1 ≤ w.length
  · by_cases c2 : w.length ≤ 12
    · have d1 : decide ((1 : Int) ≤ (w.length : Int)) = true := decide_eq_true (by omega)
      have d2 : decide ((w.length : Int) ≤ 12) = true := decide_eq_true (by omega)
      push_cast [d1, d2, Bool.not_true, Bool.false_eq_true, if_false]
      exact fin c c1 c2
    · have d1 : decide ((1 : Int) ≤ (w.length : Int)) = true := decide_eq_true (by omega)
      have d2 : decide ((w.length : Int) ≤ 12) = false := decide_eq_false (by omega)
      push_cast [d1, d2, Bool.not_false, if_true]
      have : nameOk w = false := by simp [nameOk, c2]
      rw [this] at q
      exact q
  · have d1 : decide ((1 : Int) ≤ (w.length : Int)) = false := decide_eq_false (by omega)
    push_cast [d1, Bool.not_false, if_true]
    have : nameOk w = false := by simp [nameOk, c1]
    rw [this] at q
    exact q
theorem one_of {w : List Nat} (hw : 0 < w.length) (c3 : w[0] = 48) (c4 : w.length = 1) : w = [48] := by
  cases w with
  | nil => cases hw
  | cons a r => cases r with
    | nil => have : a = 48 := c3
             rw [this]
    | cons b r => simp at c4
theorem zero_eq : ("0" : Str) = mkS [48] := by decide +kernel
theorem is_number_ok {n : Nat} {w : List Nat} {h Q} (hz : w.length ≤ sizeLine) (q : Q (.bl (numOk w)) h) : callN P (n+2) 5 [.str (mkS w)] h Q := by
  refine call_of U.f_is_number rfl ?_
  show WpSs (ctxOf P (callN P (n+1))) b_is_number _ [.val (.str (mkS w))] h
  have e1 : P.glob.lookup 2 = some (.str (mkS figures)) := by rw [U.g_FIGURES, figures_eq]
  have e5 : P.glob.lookup 5 = some (.int 10) := U.g_MOST_FIGURES
  have fin : 1 ≤ w.length → w.length ≤ 10 → ¬ (w[0]? = some 48 ∧ 1 < w.length) → WpSs (ctxOf P (callN P (n+1))) b_is_number_1 { nx := fun x h => Q .non h, rt := Q } [.val (.str (mkS w))] h := by
    intro h1 h2 h3
    push_cast [b_is_number_1, e1]
    refine behind_run_ok (i := 0) hz (Nat.zero_le _) ?_
    push_cast [mkS_len]
    refine ⟨hz, ?_⟩
    have : decide (((0 + runLen figures (w.drop 0) : Nat) : Int) = (w.length : Int)) = numOk w := by
      simp only [numOk, Nat.zero_add, List.drop_zero]
      rw [decide_eq_decide]
      have := runLen_all (sg := figures) (l := w)
      constructor
      · intro h; exact ⟨h1, h2, h3, this.mp (by omega)⟩
      · intro h; have := this.mpr h.2.2.2; omega
    rw [this]
    exact q
  push_cast [b_is_number, mkS_len, e5]
  refine ⟨hz, ?_⟩
  by_cases c1 : 1 ≤ w.length
  · have d1 : decide ((1 : Int) ≤ (w.length : Int)) = true := decide_eq_true (by omega)
    by_cases c2 : w.length ≤ 10
    · have d2 : decide ((w.length : Int) ≤ 10) = true := decide_eq_true (by omega)
      push_cast [d1, d2, Bool.not_true, Bool.false_eq_true, if_false]
      have hw : (0 : Nat) < w.length := by omega
      refine k_subS (by rw [mkS_len]; exact hz) (k := 0) (c := w[0]) (List.getElem?_eq_getElem hw) ?_
      have z2 : (⟨#[w[0]]⟩ : Str) = mkS [w[0]] := rfl
      push_cast [z2, zero_eq, mkS_eq]
      have g0 : w[0]? = some w[0] := List.getElem?_eq_getElem hw
      by_cases c3 : w[0] = 48
      · by_cases c4 : w.length = 1
        · have : w = [48] := one_of hw c3 c4
          have d3 : decide ([w[0]] = [48]) = true := decide_eq_true (by rw [c3])
          have d4 : decide (w = [48]) = true := decide_eq_true this
          push_cast [d3, d4, if_true, Bool.not_true, Bool.false_eq_true, if_false]
          exact fin c1 c2 (by omega)
        · have : w ≠ [48] := fun e => c4 (by rw [e]; rfl)
          have d3 : decide ([w[0]] = [48]) = true := decide_eq_true (by rw [c3])
          have d4 : decide (w = [48]) = false := decide_eq_false this
          push_cast [d3, d4, if_true, Bool.not_false]
          have : numOk w = false := by
            have c5 : 1 < w.length := by omega
            simp [numOk, g0, c3, c5]
          rw [this] at q
          exact q
      · have d3 : decide ([w[0]] = [48]) = false := decide_eq_false (by simpa using c3)
        push_cast [d3, Bool.false_eq_true, if_false]
        exact fin c1 c2 (by rw [g0]; simp [c3])
    · have d2 : decide ((w.length : Int) ≤ 10) = false := decide_eq_false (by omega)
      push_cast [d1, d2, Bool.not_false, if_true]
      have : numOk w = false := by simp [numOk, c2]
      rw [this] at q
      exact q
  · have d1 : decide ((1 : Int) ≤ (w.length : Int)) = false := decide_eq_false (by omega)
    push_cast [d1, Bool.not_false, if_true]
    have : numOk w = false := by simp [numOk, c1]
    rw [this] at q
    exact q
end
end Wd

set_option maxRecDepth 100000
set_option maxHeartbeats 4000000
namespace Tm
open PySem L2 VL Wd
abbrev W := List Nat
def wa (ws : List W) (i : Nat) : W := (ws[i]?).getD []
def nv (w : W) : Int := ((NumText.digitsVal w : Nat) : Int)
def Wb (ws : List W) : Prop := ∀ w ∈ ws, w.length ≤ 1000 ∧ ∀ c ∈ w, c < 1114112
theorem wa_len {ws : List W} (h : Wb ws) (i : Nat) : (wa ws i).length ≤ 1000 := by
  unfold wa
  cases e : ws[i]? with
  | none => exact Nat.zero_le _
  | some w => exact (h w (List.mem_of_getElem? e)).1
theorem wa_ch {ws : List W} (h : Wb ws) (i : Nat) : ∀ c ∈ wa ws i, c < 1114112 := by
  unfold wa
  cases e : ws[i]? with
  | none => exact fun _ h => nomatch h
  | some w => exact (h w (List.mem_of_getElem? e)).2
theorem wa_z {ws : List W} (h : Wb ws) (i : Nat) : (wa ws i).length ≤ sizeLine := Nat.le_trans (wa_len h i) (by decide)
theorem wa_get {ws : List W} {i : Nat} (h : i < ws.length) : wa ws i = ws[i] := by unfold wa; rw [List.getElem?_eq_getElem h]; rfl
theorem wa_in {ws : List W} {i : Nat} (h : wa ws i ≠ []) : i < ws.length := by
  cases Nat.lt_or_ge i ws.length with
  | inl q => exact q
  | inr q => exact absurd (by unfold wa; rw [List.getElem?_eq_none q]; rfl) h
/-! ### words as lists of signs -/
def cL (s : Str) : W := s.cps.toList
theorem cL_mk (s : Str) : s = mkS (cL s) := rfl
def sgP : W := [43]
def sgM : W := [45]
def brO : W := [91]
def brC : W := [93]
def wLen : W := [108, 101, 110]
def wOld : W := [111, 108, 100]
def wRes : W := [114, 101, 115, 117, 108, 116]
theorem lits : ("+" : Str) = mkS sgP ∧ ("-" : Str) = mkS sgM ∧ ("[" : Str) = mkS brO ∧ ("]" : Str) = mkS brC ∧ ("len" : Str) = mkS wLen ∧ ("old" : Str) = mkS wOld ∧ ("result" : Str) = mkS wRes ∧ ("" : Str) = mkS [] := by decide +kernel
/-! ### terms -/
inductive Pl where
  | num (n : Int) | var (w : W) (p : Int) | len (w : W) (p : Int)
inductive Te where
  | pl (p : Pl) | cell (w : W) (old : Bool) (ix : Pl) (p : Int)
def Pl.av : Pl → AV
  | .num n => .tup [.str "num", .int n]
  | .var w p => .tup [.str "var", .str (mkS w), .int p]
  | .len w p => .tup [.str "len", .str (mkS w), .int p]
def Te.av : Te → AV
  | .pl p => p.av
  | .cell w o ix p => .tup [.str "cell", .tup [.str (mkS w), .bl o], ix.av, .int p]
/-! ### reading -/
def signedAt (ws : List W) (i : Nat) : Option (Int × Nat) :=
  if numOk (wa ws i) = true then some (nv (wa ws i), i + 1) else if wa ws i = sgM ∧ numOk (wa ws (i + 1)) = true then some (-nv (wa ws (i + 1)), i + 2) else none
def plusAt (ws : List W) (i : Nat) : Option (Int × Nat) :=
  if wa ws i ∉ [sgP, sgM] then some (0, i) else if numOk (wa ws (i + 1)) = true then (if wa ws i = sgP then some (nv (wa ws (i + 1)), i + 2) else some (-nv (wa ws (i + 1)), i + 2)) else none
def mkN (k : Bool) (w : W) (p : Int) : Pl := if k = true then .len w p else .var w p
def namedAt (k : Bool) (ws : List W) (i : Nat) : Option (Pl × Nat) :=
  match plusAt ws (i + 1) with
  | none => none
  | some (p, j) => if nameOk (wa ws i) = true ∨ (k = false ∧ wa ws i = wRes) then some (mkN k (wa ws i) p, j) else none
def plainAt (ws : List W) (i : Nat) : Option (Pl × Nat) :=
  match signedAt ws i with
  | some (n, j) => some (.num n, j)
  | none => if wa ws i = wLen then namedAt true ws (i + 1) else namedAt false ws i
def listAt (ws : List W) (i : Nat) : Option ((W × Bool) × Nat) :=
  if wa ws i = wOld ∧ nameOk (wa ws (i + 1)) = true then some ((wa ws (i + 1), true), i + 2) else if nameOk (wa ws i) = true then some ((wa ws i, false), i + 1) else none
def cellOf (ws : List W) (l : (W × Bool) × Nat) : Option (Te × Nat) :=
  match plainAt ws (l.2 + 1) with
  | none => none
  | some (ix, j) => if wa ws j = brC then (match plusAt ws (j + 1) with
    | none => none
    | some (p, k) => some (.cell l.1.1 l.1.2 ix p, k)) else none
def termAt (ws : List W) (i : Nat) : Option (Te × Nat) :=
  match listAt ws i with
  | none => (plainAt ws i).map fun r => (.pl r.1, r.2)
  | some l => if wa ws l.2 = brO then cellOf ws l else (plainAt ws i).map fun r => (.pl r.1, r.2)
def termOf (ws : List W) : Option Te :=
  match termAt ws 0 with
  | none => none
  | some (t, j) => if j = ws.length then some t else none
def oI : Option (Int × Nat) → AV
  | none => .non
  | some (n, j) => .tup [.int n, .int (j : Int)]
def oP : Option (Pl × Nat) → AV
  | none => .non
  | some (n, j) => .tup [n.av, .int (j : Int)]
def oL : Option ((W × Bool) × Nat) → AV
  | none => .non
  | some (n, j) => .tup [.tup [.str (mkS n.1), .bl n.2], .int (j : Int)]
def oT : Option (Te × Nat) → AV
  | none => .non
  | some (n, j) => .tup [n.av, .int (j : Int)]
def oV : Option Te → AV
  | none => .non
  | some t => t.av
/-! ### what reading a number gives -/
theorem num_digits {w : W} (h : ∀ c ∈ w, c ∈ figures) : NumText.AllDigits w := fun c hc => by
  have := List.mem_range'.mp (h c hc)
  obtain ⟨i, h1, h2⟩ := this
  omega
theorem numOk_iff {w : W} : numOk w = true ↔ (1 ≤ w.length ∧ w.length ≤ 10 ∧ ¬ (w[0]? = some 48 ∧ 1 < w.length) ∧ ∀ c ∈ w, c ∈ figures) := by
  unfold numOk
  rw [decide_eq_true_iff]
theorem num_int {w : W} (h : numOk w = true) : PySem.intText? (mkS w) = some (nv w) := by
  obtain ⟨h1, h2, _, h4⟩ := numOk_iff.mp h
  have := PySem.intText_digits (x := mkS w) (by rw [mkS_list]; exact num_digits h4) (by rw [mkS_list]; intro e; rw [e] at h1; exact absurd h1 (by decide)) (by rw [mkS_len]; omega)
  rw [mkS_list] at this
  exact this
theorem num_neg {w : W} (h : numOk w = true) : PySem.intText? (mkS (sgM ++ w)) = some (-nv w) := by
  obtain ⟨h1, h2, _, h4⟩ := numOk_iff.mp h
  exact PySem.intText_neg (x := mkS (sgM ++ w)) (cs := w) rfl (num_digits h4) (by intro e; rw [e] at h1; exact absurd h1 (by decide)) (by rw [mkS_len]; simp [sgM]; omega)
theorem num_pos {w : W} (h : numOk w = true) : PySem.intText? (mkS (sgP ++ w)) = some (nv w) := by
  obtain ⟨h1, h2, _, h4⟩ := numOk_iff.mp h
  have hd := num_digits h4
  have hne : w ≠ [] := by intro e; rw [e] at h1; exact absurd h1 (by decide)
  have hx : (mkS (sgP ++ w)).cps.toList = 43 :: w := rfl
  have hs : ∀ c ∈ (43 :: w), 33 ≤ c ∧ c < 128 := by
    intro c hc
    rcases List.mem_cons.mp hc with e | hc
    · omega
    · have := hd c hc; omega
  have e1 : numTextOf (mkS (sgP ++ w)) = 43 :: w := by
    unfold numTextOf
    rw [if_pos]
    · exact hx
    · rw [← Array.all_toList, hx, List.all_eq_true]
      intro c hc
      exact decide_eq_true (hs c hc).2
  have e2 : numSeenOf (mkS (sgP ++ w)) = 43 :: w := by
    unfold numSeenOf
    rw [e1]
    exact NumText.takeWhile_all fun c hc => by have := (hs c hc).1; simp; omega
  have es : NumText.sign ((43 :: w).dropWhile NumText.blank) = (false, w) := by rw [NumText.dropWhile_of (by decide)]; rfl
  have ec : NumText.core (43 :: w) = w := by
    unfold NumText.core
    rw [es]
    show (w.reverse.dropWhile NumText.blank).reverse = w
    rw [NumText.dropWhile_digits hd.reverse, List.reverse_reverse]
  unfold PySem.intText?
  rw [e1, e2, if_pos (beq_self_eq_true _), ec, es, NumText.digits_of hd hne]
  have hsz := NumText.push_size w #[]
  have hv := NumText.push_foldl w #[]
  show (if _ ≤ 4300 then some (NumText.worth false _) else none) = _
  rw [if_pos (by rw [hsz]; simp only [Array.size_empty]; omega)]
  unfold NumText.worth nv NumText.digitsVal
  rw [hv]
  rfl
end Tm

set_option maxRecDepth 100000
set_option maxHeartbeats 4000000
namespace Tm
open PySem L2 VL Wd
local macro_rules
  | `(tactic| push_cast [$xs,*]) => `(tactic| try simp only [$xs,*, WpSs, WpS, WpE, WpEs, WpBs, WpO, WpN, WpI, WpC, WpT, getS, setS, tgK, setsS, wipeS, k_add, k_addT, k_sub, k_mul, k_fdiv, k_mod, k_neg, k_lt, k_le, k_gt, k_ge, k_eqI, k_neI, k_eqS, k_neS, k_eqB, k_neB, k_is, k_isn, isNon_non, isNon_int, isNon_str, isNon_lst, isNon_tup, isNon_adr, k_lenS, k_lenL, k_lenR, k_lenT, k_int, k_str, k_abs, tru_bl, augK, ctx_call, ctx_glob, k_in, k_nin, k_inS, k_addS, k_intB, isi_non_int, isi_non_bool, isi_non_str, isi_non_list, isi_non_tuple, isi_bl_int, isi_bl_bool, isi_bl_str, isi_bl_list, isi_bl_tuple, isi_int_int, isi_int_bool, isi_int_str, isi_int_list, isi_int_tuple, isi_str_int, isi_str_bool, isi_str_str, isi_str_list, isi_str_tuple, isi_tup_int, isi_tup_bool, isi_tup_str, isi_tup_list, isi_tup_tuple, isi_lst_int, isi_lst_bool, isi_lst_str, isi_lst_list, isi_lst_tuple, isi_ro_int, isi_ro_bool, isi_ro_str, isi_ro_list, isi_ro_tuple])
section
variable {P : Prg} [Wd.U P] [U P] {n : Nat} {x : AV} {ws : List W} {i : Nat} {h : AHeap} {Q : AV → AHeap → Prop}
theorem sz1 : sizeLine = 16777216 := rfl
/-- a list of words that is read -/
structure Rd (h : AHeap) (x : AV) (ws : List W) : Prop where
  v : viewT h x = some (wl ws)
  n : ∀ z, x ≠ .str z
  b : Wb ws
theorem wl_get {i : Nat} (hi : i < ws.length) : atI (wl ws) (i : Int) = some (.str (mkS (wa ws i))) := by
  rw [atI_nat (by rw [wl_len]; exact hi), wa_get hi]
  simp [wl, hi]
theorem k_lenW {Q : KA} (r : Rd h x ws) (q : Q (.int (ws.length : Int))) : bltK h .len [x] Q := by
  have e := r.v
  have nn := r.n
  have l := wl_len ws
  unfold bltK
  split
  · rename_i z heq
    cases heq
    exact absurd rfl (nn _)
  · rename_i heq
    cases heq
    rw [e]
    show Q (.int (wl ws).length)
    rw [l]
    exact q
  all_goals (rename_i heq; first | (cases heq; done) | skip)
  all_goals simp_all
theorem k_subW {Q : KA} (r : Rd h x ws) (hi : i < ws.length) (q : Q (.str (mkS (wa ws i)))) : subK h x (.int (i : Int)) Q := k_subL r.v r.n (wl_get hi) q
theorem word_at_ok (r : Rd h x ws) (q : Q (.str (mkS (wa ws i))) h) : callN P (n+1) 6 [x, .int (i : Int)] h Q := by
  refine call_of U.f_word_at rfl ?_
  show WpSs (ctxOf P (callN P n)) b_word_at _ [.val x, .val (.int (i : Int))] h
  push_cast [b_word_at]
  refine k_lenW r ?_
  push_cast [WpSs]
  refine ite_b (fun c => k_subW r (by omega) q) (fun c => ?_)
  push_cast [b_word_at_1, lits.2.2.2.2.2.2.2]
  have : wa ws i = [] := by unfold wa; rw [List.getElem?_eq_none (by omega)]; rfl
  rw [this] at q
  exact q
theorem i1 : (i : Int) + 1 = ((i + 1 : Nat) : Int) := by omega
theorem i2 : (i : Int) + 2 = ((i + 2 : Nat) : Int) := by omega
theorem num_in {j : Nat} (h : numOk (wa ws j) = true) : j < ws.length := wa_in fun e => by rw [e] at h; exact absurd h (by decide)
theorem name_in {j : Nat} (h : nameOk (wa ws j) = true) : j < ws.length := wa_in fun e => by rw [e] at h; exact absurd h (by decide)
theorem num_l {w : W} (h : numOk w = true) : w.length ≤ 10 := (numOk_iff.mp h).2.1
theorem k_intW {w : W} {Q : KA} (h0 : numOk w = true) (q : Q (.int (nv w))) : bltK h .int [.str (mkS w)] Q := k_intS (num_int h0) (by rw [mkS_len]; have := num_l h0; omega) q
theorem le2 : 2 ≤ sizeLine := by decide
theorem le3 : 3 ≤ sizeLine := by decide
theorem le4 : 4 ≤ sizeLine := by decide
theorem signed_at_ok (r : Rd h x ws) (q : Q (oI (signedAt ws i)) h) : callN P (n+3) 8 [x, .int (i : Int)] h Q := by
  refine call_of U.f_signed_at rfl ?_
  show WpSs (ctxOf P (callN P (n+2))) b_signed_at _ [.val x, .val (.int (i : Int))] h
  push_cast [b_signed_at]
  refine word_at_ok r ?_
  refine is_number_ok (wa_z r.b _) ?_
  push_cast [WpSs]
  unfold signedAt at q
  by_cases c : numOk (wa ws i) = true
  · rw [if_pos c] at q
    push_cast [c, if_true]
    refine k_subW r (num_in c) ?_
    refine k_intW c ?_
    rw [i1]
    exact ⟨le2, q⟩
  · rw [if_neg c] at q
    push_cast [c, Bool.false_eq_true, if_false, b_signed_at_2, lits, i1]
    refine word_at_ok r ?_
    push_cast [mkS_eq]
    have no : ¬ (wa ws i = sgM ∧ numOk (wa ws (i + 1)) = true) → WpSs (ctxOf P (callN P (n+2))) b_signed_at_1 { nx := fun _ h => Q .non h, rt := Q } [.val x, .val (.int (i : Int))] h := by
      intro z
      rw [if_neg z] at q
      push_cast [b_signed_at_1]
      exact q
    refine ite_b (fun c1 => ?_) (fun c1 => no fun z => c1 z.1)
    refine word_at_ok r ?_
    refine is_number_ok (wa_z r.b _) ?_
    push_cast [WpSs]
    by_cases c2 : numOk (wa ws (i + 1)) = true
    · rw [if_pos ⟨c1, c2⟩] at q
      push_cast [c2, if_true]
      refine k_subW r (num_in c2) ?_
      refine k_intW c2 ?_
      push_cast [i2]
      exact ⟨le2, q⟩
    · simp only [c2, Bool.false_eq_true, if_false]
      exact no fun z => c2 z.2
theorem in2 {w a b : W} {ng : Bool} {Q : KA} {t : AV} (ht : viewT h t = some [.str (mkS a), .str (mkS b)]) (hn : ∀ z, t ≠ .str z) (q : Q (.bl (if ng then !decide (w ∈ [a, b]) else decide (w ∈ [a, b])))) : inK h ng (.str (mkS w)) t Q :=
  in_wl (ws := [a, b]) ht hn q
theorem plus_at_ok (r : Rd h x ws) (q : Q (oI (plusAt ws i)) h) : callN P (n+3) 9 [x, .int (i : Int)] h Q := by
  refine call_of U.f_plus_at rfl ?_
  show WpSs (ctxOf P (callN P (n+2))) b_plus_at _ [.val x, .val (.int (i : Int))] h
  push_cast [b_plus_at, lits]
  refine word_at_ok r ?_
  refine ⟨le2, ?_⟩
  refine in2 rfl (fun _ h => by cases h) ?_
  push_cast [if_true]
  unfold plusAt at q
  by_cases c : wa ws i ∈ [sgP, sgM]
  · rw [if_neg (not_not_intro c)] at q
    push_cast [c, decide_true, Bool.not_true, Bool.false_eq_true, if_false, b_plus_at_3, i1]
    refine word_at_ok r ?_
    refine is_number_ok (wa_z r.b _) ?_
    push_cast [WpSs]
    by_cases c2 : numOk (wa ws (i + 1)) = true
    · rw [if_pos c2] at q
      push_cast [c2, Bool.not_true, Bool.false_eq_true, if_false, b_plus_at_2, lits, i1]
      have i1l := num_in c2
      refine k_subW r (by omega) ?_
      push_cast [mkS_eq]
      refine ite_b (fun c3 => ?_) (fun c3 => ?_)
      · rw [if_pos c3] at q
        refine k_subW r i1l ?_
        refine k_intW c2 ?_
        push_cast [i2]
        exact ⟨le2, q⟩
      · rw [if_neg c3] at q
        push_cast [b_plus_at_1, i1]
        refine k_subW r i1l ?_
        refine k_intW c2 ?_
        push_cast [i2]
        exact ⟨le2, q⟩
    · rw [if_neg c2] at q
      push_cast [c2, Bool.not_false, if_true]
      exact q
  · rw [if_pos c] at q
    push_cast [c, decide_false, Bool.not_false, if_true]
    exact ⟨le2, q⟩
theorem k_t0 {a b : AV} {Q : KA} (q : Q a) : subK h (.tup [a, b]) (.int 0) Q := k_subL (xs := [a, b]) rfl (fun _ h => by cases h) rfl q
theorem k_t1 {a b : AV} {Q : KA} (q : Q b) : subK h (.tup [a, b]) (.int 1) Q := k_subL (xs := [a, b]) rfl (fun _ h => by cases h) rfl q
def kS (k : Bool) : W := if k = true then wLen else [118, 97, 114]
theorem kS_eq : ("len" : Str) = mkS (kS true) ∧ ("var" : Str) = mkS (kS false) := by decide +kernel
theorem mkN_av (k : Bool) (w : W) (p : Int) : (mkN k w p).av = .tup [.str (mkS (kS k)), .str (mkS w), .int p] := by
  cases k
  · show AV.tup [.str "var", .str (mkS w), .int p] = _
    rw [kS_eq.2]
  · show AV.tup [.str "len", .str (mkS w), .int p] = _
    rw [kS_eq.1]
theorem kS_len (k : Bool) : decide (kS k = wLen) = k := by cases k <;> decide
theorem named_at_ok {k : Bool} (r : Rd h x ws) (q : Q (oP (namedAt k ws i)) h) : callN P (n+4) 10 [.str (mkS (kS k)), x, .int (i : Int)] h Q := by
  refine call_of U.f_named_at rfl ?_
  show WpSs (ctxOf P (callN P (n+3))) b_named_at _ [.val (.str (mkS (kS k))), .val x, .val (.int (i : Int)), .no, .no] h
  push_cast [b_named_at, lits, i1]
  refine word_at_ok r ?_
  refine plus_at_ok r ?_
  unfold namedAt at q
  cases e : plusAt ws (i + 1) with
  | none =>
    rw [e] at q
    push_cast [oI, isNon_non, if_true]
    exact q
  | some pj =>
    obtain ⟨p, j⟩ := pj
    rw [e] at q
    have q : Q (oP (if nameOk (wa ws i) = true ∨ (k = false ∧ wa ws i = wRes) then some (mkN k (wa ws i) p, j) else none)) h := q
    push_cast [oI, isNon_tup, Bool.false_eq_true, if_false]
    refine is_name_ok (wa_z r.b _) ?_
    have fin : (nameOk (wa ws i) = true ∨ (k = false ∧ wa ws i = wRes)) → WpSs (ctxOf P (callN P (n+3))) b_named_at_1 { nx := fun _ h => Q .non h, rt := Q } [.val (.str (mkS (kS k))), .val x, .val (.int (i : Int)), .val (.str (mkS (wa ws i))), .val (.tup [.int p, .int (j : Int)])] h := by
      intro z
      rw [if_pos z] at q
      push_cast [b_named_at_1]
      refine k_t0 ⟨le3, ?_⟩
      refine k_t1 ⟨le2, ?_⟩
      have q : Q (.tup [(mkN k (wa ws i) p).av, .int (j : Int)]) h := q
      rw [mkN_av] at q
      exact q
    push_cast [mkS_eq, kS_len]
    by_cases c : nameOk (wa ws i) = true
    · simp only [c, Bool.not_true, Bool.false_eq_true, if_false]
      exact fin (.inl c)
    · simp only [c, Bool.not_false, if_true]
      cases k with
      | true =>
        rw [if_neg (by rintro (z | ⟨z, _⟩); exact c z; cases z)] at q
        push_cast [if_true]
        exact q
      | false =>
        push_cast [Bool.false_eq_true, if_false, mkS_eq]
        by_cases c2 : wa ws i = wRes
        · have d : decide (wa ws i = wRes) = true := decide_eq_true c2
          simp only [d, Bool.not_true, Bool.false_eq_true, if_false]
          exact fin (.inr ⟨rfl, c2⟩)
        · have d : decide (wa ws i = wRes) = false := decide_eq_false c2
          rw [if_neg (by rintro (z | ⟨_, z⟩); exact c z; exact c2 z)] at q
          push_cast [d, Bool.not_false, if_true]
          exact q
theorem plain_at_ok (r : Rd h x ws) (q : Q (oP (plainAt ws i)) h) : callN P (n+5) 11 [x, .int (i : Int)] h Q := by
  refine call_of U.f_plain_at rfl ?_
  show WpSs (ctxOf P (callN P (n+4))) b_plain_at _ [.val x, .val (.int (i : Int)), .no] h
  push_cast [b_plain_at]
  refine signed_at_ok r ?_
  unfold plainAt at q
  cases e : signedAt ws i with
  | some pj =>
    obtain ⟨p, j⟩ := pj
    rw [e] at q
    push_cast [oI, isNon_tup, Bool.not_false, if_true]
    refine k_t0 ⟨le2, ?_⟩
    refine k_t1 ⟨le2, ?_⟩
    exact q
  | none =>
    rw [e] at q
    have q : Q (oP (if wa ws i = wLen then namedAt true ws (i + 1) else namedAt false ws i)) h := q
    push_cast [oI, isNon_non, Bool.not_true, Bool.false_eq_true, if_false, b_plain_at_2, i1]
    refine word_at_ok r ?_
    have ew : ("len" : Str) = mkS wLen := lits.2.2.2.2.1
    push_cast [ew, mkS_eq]
    refine ite_b (fun c => ?_) (fun c => ?_)
    · rw [if_pos c] at q
      exact named_at_ok (k := true) r q
    · rw [if_neg c] at q
      push_cast [b_plain_at_1, kS_eq.2]
      exact named_at_ok (k := false) r q
theorem list_at_ok (r : Rd h x ws) (q : Q (oL (listAt ws i)) h) : callN P (n+3) 12 [x, .int (i : Int)] h Q := by
  refine call_of U.f_list_at rfl ?_
  show WpSs (ctxOf P (callN P (n+2))) b_list_at _ [.val x, .val (.int (i : Int))] h
  push_cast [b_list_at, lits, i1]
  refine word_at_ok r ?_
  unfold listAt at q
  have rest : ¬ (wa ws i = wOld ∧ nameOk (wa ws (i + 1)) = true) → WpSs (ctxOf P (callN P (n+2))) b_list_at_2 { nx := fun _ h => Q .non h, rt := Q } [.val x, .val (.int (i : Int))] h := by
    intro z
    rw [if_neg z] at q
    push_cast [b_list_at_2, i1]
    refine word_at_ok r ?_
    refine is_name_ok (wa_z r.b _) ?_
    push_cast [WpSs]
    by_cases c : nameOk (wa ws i) = true
    · rw [if_pos c] at q
      push_cast [c, if_true]
      refine k_subW r (name_in c) ?_
      exact ⟨le2, le2, q⟩
    · rw [if_neg c] at q
      push_cast [c, Bool.false_eq_true, if_false, b_list_at_1]
      exact q
  push_cast [mkS_eq]
  refine ite_b (fun c1 => ?_) (fun c1 => rest fun z => c1 z.1)
  refine word_at_ok r ?_
  refine is_name_ok (wa_z r.b _) ?_
  push_cast [WpSs]
  by_cases c2 : nameOk (wa ws (i + 1)) = true
  · rw [if_pos ⟨c1, c2⟩] at q
    push_cast [c2, if_true]
    refine k_subW r (name_in c2) ?_
    push_cast [i2]
    exact ⟨le2, le2, q⟩
  · simp only [c2, Bool.false_eq_true, if_false]
    exact rest fun z => c2 z.2
theorem cell_at_ok {l : (W × Bool) × Nat} (r : Rd h x ws) (e : listAt ws i = some l) (hb : wa ws l.2 = brO) (q : Q (oT (cellOf ws l)) h) : callN P (n+6) 13 [x, .int (i : Int)] h Q := by
  refine call_of U.f_cell_at rfl ?_
  obtain ⟨⟨w, o⟩, j⟩ := l
  have hb : wa ws j = brO := hb
  show WpSs (ctxOf P (callN P (n+5))) b_cell_at _ [.val x, .val (.int (i : Int)), .no, .no, .no] h
  push_cast [b_cell_at]
  refine list_at_ok r ?_
  rw [e]
  have eo : ("[" : Str) = mkS brO := lits.2.2.1
  have ec : ("]" : Str) = mkS brC := lits.2.2.2.1
  push_cast [oL, isNon_tup, Bool.false_eq_true, if_false, eo]
  refine k_t1 ?_
  refine word_at_ok r ?_
  rw [hb]
  push_cast [mkS_eq, decide_true, Bool.not_true, Bool.false_eq_true, if_false, b_cell_at_3, ec]
  refine k_t1 ?_
  push_cast [i1]
  refine plain_at_ok r ?_
  unfold cellOf at q
  cases e2 : plainAt ws (j + 1) with
  | none =>
    rw [e2] at q
    push_cast [oP, isNon_non, if_true]
    exact q
  | some pk =>
    obtain ⟨ix, k⟩ := pk
    rw [e2] at q
    have q : Q (oT (if wa ws k = brC then (match plusAt ws (k + 1) with
      | none => none
      | some (p, k) => some (.cell w o ix p, k)) else none)) h := q
    push_cast [oP, isNon_tup, Bool.false_eq_true, if_false]
    refine k_t1 ?_
    refine word_at_ok r ?_
    push_cast [mkS_eq]
    by_cases c : wa ws k = brC
    · rw [if_pos c] at q
      have d : decide (wa ws k = brC) = true := decide_eq_true c
      push_cast [d, Bool.not_true, Bool.false_eq_true, if_false, b_cell_at_2]
      refine k_t1 ?_
      push_cast [i1]
      refine plus_at_ok r ?_
      cases e3 : plusAt ws (k + 1) with
      | none =>
        rw [e3] at q
        push_cast [oI, isNon_non, if_true]
        exact q
      | some pm =>
        obtain ⟨p, m⟩ := pm
        rw [e3] at q
        push_cast [oI, isNon_tup, Bool.false_eq_true, if_false, b_cell_at_1]
        refine k_t0 ?_
        refine k_t0 ?_
        refine k_t0 ⟨le4, ?_⟩
        refine k_t1 ⟨le2, ?_⟩
        exact q
    · rw [if_neg c] at q
      have d : decide (wa ws k = brC) = false := decide_eq_false c
      push_cast [d, Bool.not_false, if_true]
      exact q
theorem term_at_ok (r : Rd h x ws) (q : Q (oT (termAt ws i)) h) : callN P (n+7) 14 [x, .int (i : Int)] h Q := by
  refine call_of U.f_term_at rfl ?_
  show WpSs (ctxOf P (callN P (n+6))) b_term_at _ [.val x, .val (.int (i : Int)), .no] h
  push_cast [b_term_at]
  refine list_at_ok r ?_
  have eo : ("[" : Str) = mkS brO := lits.2.2.1
  unfold termAt at q
  have pl : ∀ s, Q (oT ((plainAt ws i).map fun r => (.pl r.1, r.2))) h → WpSs (ctxOf P (callN P (n+6))) b_term_at_1 { nx := fun _ h => Q .non h, rt := Q } [.val x, .val (.int (i : Int)), s] h := by
    intro s q
    push_cast [b_term_at_1]
    refine plain_at_ok r ?_
    have e : oT ((plainAt ws i).map fun r => (.pl r.1, r.2)) = oP (plainAt ws i) := by
      cases plainAt ws i with
      | none => rfl
      | some l => rfl
    rw [e] at q
    exact q
  cases e : listAt ws i with
  | none =>
    rw [e] at q
    simp only [oL, isNon_non, Bool.not_true, Bool.false_eq_true, if_false]
    exact pl _ q
  | some l =>
    obtain ⟨⟨w, o⟩, j⟩ := l
    rw [e] at q
    have q : Q (oT (if wa ws j = brO then cellOf ws ((w, o), j) else (plainAt ws i).map fun r => (.pl r.1, r.2))) h := q
    push_cast [oL, isNon_tup, Bool.not_false, if_true, eo]
    refine k_t1 ?_
    refine word_at_ok r ?_
    push_cast [mkS_eq]
    refine ite_b (fun c => ?_) (fun c => ?_)
    · rw [if_pos c] at q
      exact cell_at_ok r e c q
    · rw [if_neg c] at q
      exact pl _ q
end
end Tm

set_option maxRecDepth 100000
set_option maxHeartbeats 4000000
namespace Tw
open PySem L2 VL Wd Tm PySem.W PySem.W.KIN PyProof.Rows
/-! ### numbers written -/
def dg (n : Int) : W := (Str.ofString (toString n)).cps.toList
theorem dg_str (n : Int) : (Str.ofString (toString n)) = mkS (dg n) := rfl
theorem dg_nat (m : Nat) : dg (m : Int) = (Nat.toDigits 10 m).map Char.toNat := signs_num m
theorem dg_neg {m : Nat} (h : 0 < m) : dg (-(m : Int)) = 45 :: dg (m : Int) := by
  obtain ⟨k, rfl⟩ : ∃ k, m = k + 1 := ⟨m - 1, by omega⟩
  unfold dg
  have e : -((k + 1 : Nat) : Int) = Int.negSucc k := rfl
  rw [signs_ofString, signs_ofString, e]
  show List.map Char.toNat ("-" ++ Nat.repr (k + 1)).toList = 45 :: List.map Char.toNat (Nat.repr (k + 1)).toList
  rw [String.toList_append]
  rfl
def Bd (n : Int) : Prop := -10000000000 < n ∧ n < 10000000000
theorem digits_len : ∀ (k m : Nat), m < 10 ^ (k + 1) → (Nat.toDigits 10 m).length ≤ k + 1
  | 0, m, h => by rw [Nat.toDigits_of_lt_base (by omega)]; exact Nat.le_refl _
  | k + 1, m, h => by
    by_cases c : m < 10
    · rw [Nat.toDigits_of_lt_base c]; simp
    · have hm : m % 10 < 10 := Nat.mod_lt m (by decide)
      have t : Nat.toDigits 10 (m / 10) ++ Nat.toDigits 10 (m % 10) = Nat.toDigits 10 (10 * (m / 10) + m % 10) := Nat.toDigits_append_toDigits (by decide) (by omega) hm
      rw [Nat.div_add_mod] at t
      rw [← t, List.length_append, Nat.toDigits_of_lt_base hm]
      have := digits_len k (m / 10) (by rw [Nat.div_lt_iff_lt_mul (by decide), ← Nat.pow_succ]; exact h)
      simp
      omega
theorem digits_head : ∀ (m : Nat), 0 < m → (Nat.toDigits 10 m).head? ≠ some '0' := by
  intro m
  induction m using Nat.strongRecOn with
  | _ m ih =>
    intro hm
    by_cases c : m < 10
    · rw [Nat.toDigits_of_lt_base c]
      have : ∀ d : Nat, d < 10 → 0 < d → [Nat.digitChar d].head? ≠ some '0' := by decide
      exact this m c hm
    · have h1 : m % 10 < 10 := Nat.mod_lt m (by decide)
      have t : Nat.toDigits 10 (m / 10) ++ Nat.toDigits 10 (m % 10) = Nat.toDigits 10 (10 * (m / 10) + m % 10) := Nat.toDigits_append_toDigits (by decide) (by omega) h1
      rw [Nat.div_add_mod] at t
      rw [← t]
      have i := ih (m / 10) (by omega) (by omega)
      cases e : Nat.toDigits 10 (m / 10) with
      | nil => have := PySem.toDigits_len_ge 10 (m / 10); rw [e] at this; exact absurd this (by decide)
      | cons a r => rw [e] at i; exact i
theorem digit_fig {c : Char} {m : Nat} (h : c ∈ Nat.toDigits 10 m) : c.toNat ∈ figures := by
  have := Nat.isDigit_of_mem_toDigits (by decide) (by decide) h
  have r : 48 ≤ c.toNat ∧ c.toNat ≤ 57 := by
    simp only [Char.isDigit, Bool.and_eq_true, decide_eq_true_eq] at this
    exact ⟨this.1, this.2⟩
  unfold figures
  rw [List.mem_range']
  exact ⟨c.toNat - 48, by omega, by omega⟩
theorem dg_num {m : Nat} (h : m < 10000000000) : numOk (dg (m : Int)) = true := by
  rw [numOk_iff, dg_nat, List.length_map]
  have l1 : 1 ≤ (Nat.toDigits 10 m).length := by
    cases e : Nat.toDigits 10 m with
    | nil => have := PySem.toDigits_len_ge 10 m; rw [e] at this; exact absurd this (by decide)
    | cons a r => simp
  refine ⟨l1, digits_len 9 m h, ?_, ?_⟩
  · rintro ⟨h1, h2⟩
    by_cases c : m = 0
    · subst c
      rw [Nat.toDigits_of_lt_base (by decide)] at h2
      exact absurd h2 (by decide)
    · have hd := digits_head m (by omega)
      cases e : Nat.toDigits 10 m with
      | nil => rw [e] at l1; exact absurd l1 (by decide)
      | cons a r =>
        rw [e] at h1 hd
        simp at h1 hd
        apply hd
        apply Char.ext
        have : a.val.toNat = ('0' : Char).val.toNat := h1
        exact UInt32.toNat_inj.mp this
  · intro c hc
    obtain ⟨ch, h1, rfl⟩ := List.mem_map.mp hc
    exact digit_fig h1
theorem dg_val (m : Nat) : nv (dg (m : Int)) = m := by
  unfold nv
  rw [dg_nat, val_back]
/-! ### texts and words -/
def pT (p : Int) : W := if 0 < p then [32, 43, 32] ++ dg p else if p < 0 then [32, 45, 32] ++ dg (-p) else []
def pW (p : Int) : List W := if 0 < p then [sgP, dg p] else if p < 0 then [sgM, dg (-p)] else []
def lT (w : W) (o : Bool) : W := if o = true then [111, 108, 100, 32] ++ w else w
def lW (w : W) (o : Bool) : List W := if o = true then [wOld, w] else [w]
def plT : Pl → W
  | .num n => dg n
  | .var w p => w ++ pT p
  | .len w p => [108, 101, 110, 32] ++ w ++ pT p
def nW (n : Int) : List W := if n < 0 then [sgM, dg (-n)] else [dg n]
def plW : Pl → List W
  | .num n => nW n
  | .var w p => w :: pW p
  | .len w p => wLen :: w :: pW p
def teT : Te → W
  | .pl p => plT p
  | .cell w o ix p => lT w o ++ brO ++ plT ix ++ brC ++ pT p
def teW : Te → List W
  | .pl p => plW p
  | .cell w o ix p => lW w o ++ [brO] ++ plW ix ++ [brC] ++ pW p
def Pl.Ok : Pl → Prop
  | .num n => Bd n
  | .var w p => (nameOk w = true ∨ w = wRes) ∧ Bd p
  | .len w p => nameOk w = true ∧ Bd p
def Te.Ok : Te → Prop
  | .pl p => Pl.Ok p
  | .cell w _ ix p => nameOk w = true ∧ Pl.Ok ix ∧ Bd p
theorem nameOk_iff {w : W} : nameOk w = true ↔ (w ∉ RS0 ∧ 1 ≤ w.length ∧ w.length ≤ 12 ∧ ∀ c ∈ w, c ∈ letters) := by
  unfold nameOk
  rw [decide_eq_true_iff]
/-- a number below the bound, as a natural one and a sign -/
theorem bd_cases {n : Int} (h : Bd n) : (∃ m : Nat, m < 10000000000 ∧ n = m) ∨ ∃ m : Nat, 0 < m ∧ m < 10000000000 ∧ n = -(m : Int) := by
  obtain ⟨h1, h2⟩ := h
  by_cases c : 0 ≤ n
  · obtain ⟨m, hm⟩ := Int.eq_ofNat_of_zero_le c
    exact .inl ⟨m, by omega, by omega⟩
  · obtain ⟨m, hm⟩ := Int.eq_ofNat_of_zero_le (show 0 ≤ -n by omega)
    exact .inr ⟨m, by omega, by omega, by omega⟩
theorem dg_len {m : Nat} (h : m < 10000000000) : (dg (m : Int)).length ≤ 10 := num_l (dg_num h)
/-! ### words in a text -/
def IsW (w : W) : Prop := (w ≠ [] ∧ ∀ c ∈ w, c ∈ letters) ∨ (w ≠ [] ∧ ∀ c ∈ w, c ∈ figures) ∨ w ∈ SG
def marks : List Nat := [60, 62, 61, 33]
/-- a sign behind a word that would go on with it -/
def Ext (w : W) (c : Nat) : Prop := (w.getLast?.getD 0 ∈ letters ∧ c ∈ letters) ∨ (w.getLast?.getD 0 ∈ figures ∧ c ∈ figures) ∨ (w.getLast?.getD 0 ∈ marks ∧ c ∈ marks)
inductive Sp : List W → W → Prop
  | nil {s : W} : (∀ c ∈ s, c = 32) → Sp [] s
  | cons {s w l : W} {ws : List W} : (∀ c ∈ s, c = 32) → IsW w → Sp ws l → (∀ c, l.head? = some c → ¬ Ext w c) → Sp (w :: ws) (s ++ w ++ l)
theorem last_mem {w : W} (h : w ≠ []) : w.getLast?.getD 0 ∈ w := by
  rw [List.getLast?_eq_some_getLast h]
  exact List.getLast_mem h
theorem runLen_stop {sg w l : W} (h : ∀ c ∈ w, c ∈ sg) (hl : ∀ c, l.head? = some c → c ∉ sg) : runLen sg (w ++ l) = w.length := by
  induction w with
  | nil =>
    cases l with
    | nil => rfl
    | cons c r => exact runLen_out (hl c rfl)
  | cons c w ih => rw [List.cons_append, runLen_in (h c (List.mem_cons_self ..)), ih fun d hd => h d (List.mem_cons_of_mem _ hd)]; rfl
theorem fig_not {c : Nat} (h : c ∈ figures) : c ∉ letters ∧ c ≠ 32 := by
  have : ∀ c ∈ figures, c ∉ letters ∧ c ≠ 32 := by decide
  exact this c h
theorem let_not {c : Nat} (h : c ∈ letters) : c ≠ 32 := by
  have : ∀ c ∈ letters, c ≠ 32 := by decide
  exact this c h
theorem step_cons (c : Nat) (r : W) : stepLen (c :: r) = if c ∈ letters then runLen letters (c :: r) else if c ∈ figures then runLen figures (c :: r) else signLen (c :: r) := rfl
theorem step_word {w l : W} (hw : IsW w) (hl : ∀ c, l.head? = some c → ¬ Ext w c) : stepLen (w ++ l) = w.length := by
  rcases hw with ⟨hn, h⟩ | ⟨hn, h⟩ | h
  · have hlast := h _ (last_mem hn)
    have st : ∀ c, l.head? = some c → c ∉ letters := fun c hc z => hl c hc (.inl ⟨hlast, z⟩)
    have := runLen_stop h st
    cases w with
    | nil => exact absurd rfl hn
    | cons c r =>
      show stepLen (c :: (r ++ l)) = _
      rw [step_cons, if_pos (h c (List.mem_cons_self ..))]
      exact this
  · have hlast := h _ (last_mem hn)
    have st : ∀ c, l.head? = some c → c ∉ figures := fun c hc z => hl c hc (.inr (.inl ⟨hlast, z⟩))
    have := runLen_stop h st
    cases w with
    | nil => exact absurd rfl hn
    | cons c r =>
      show stepLen (c :: (r ++ l)) = _
      rw [step_cons, if_neg (fig_not (h c (List.mem_cons_self ..))).1, if_pos (h c (List.mem_cons_self ..))]
      exact this
  · have two : ∀ g ∈ twos, ∃ a b, g = [a, b] ∧ a ∉ letters ∧ a ∉ figures := by
      intro g hg
      simp only [twos, List.mem_cons, List.not_mem_nil, or_false] at hg
      rcases hg with rfl | rfl | rfl | rfl <;> exact ⟨_, _, rfl, by decide, by decide⟩
    unfold SG at h
    rcases List.mem_append.mp h with h | h
    · obtain ⟨a, b, rfl, n1, n2⟩ := two w h
      show stepLen (a :: b :: l) = 2
      rw [step_cons, if_neg n1, if_neg n2, signLen_eq]
      rw [if_pos (show (a :: b :: l).take 2 ∈ twos from h)]
    · obtain ⟨a, ha, rfl⟩ := List.mem_map.mp h
      have on : ∀ a ∈ ones, a ∉ letters ∧ a ∉ figures := by decide
      show stepLen (a :: l) = 1
      rw [step_cons, if_neg (on a ha).1, if_neg (on a ha).2, signLen_eq, if_neg, if_pos ha]
      intro z
      cases l with
      | nil =>
        have : ∀ g ∈ twos, g.length = 2 := by decide
        exact absurd (this _ z) (by simp)
      | cons c r =>
        have z : [a, c] ∈ twos := z
        have : ∀ g ∈ twos, ∀ a c, g = [a, c] → a ∈ marks ∧ c ∈ marks := by
          intro g hg a c e
          subst e
          simp only [twos, List.mem_cons, List.cons.injEq, and_true, List.not_mem_nil, or_false] at hg
          rcases hg with ⟨rfl, rfl⟩ | ⟨rfl, rfl⟩ | ⟨rfl, rfl⟩ | ⟨rfl, rfl⟩ <;> decide
        exact hl c rfl (.inr (.inr ⟨(this _ z a c rfl).1, (this _ z a c rfl).2⟩))
theorem isw_ne {w : W} (h : IsW w) : ∃ c r, w = c :: r ∧ c ≠ 32 := by
  have sg : ∀ g ∈ SG, g ≠ [] ∧ ∀ c, g.head? = some c → c ≠ 32 := by decide
  rcases h with ⟨hn, h⟩ | ⟨hn, h⟩ | h
  · cases w with
    | nil => exact absurd rfl hn
    | cons c r => exact ⟨c, r, rfl, let_not (h c (List.mem_cons_self ..))⟩
  · cases w with
    | nil => exact absurd rfl hn
    | cons c r => exact ⟨c, r, rfl, (fig_not (h c (List.mem_cons_self ..))).2⟩
  · have := sg w h
    cases w with
    | nil => exact absurd rfl this.1
    | cons c r => exact ⟨c, r, rfl, this.2 c rfl⟩
theorem Sp.tk {ws : List W} {l : W} (h : Sp ws l) : Tk l (some ws) := by
  induction h with
  | nil h => exact Tk.spaces h
  | @cons s w l ws hs hw _ hl ih =>
    rw [List.append_assoc]
    refine Tk.pre hs ?_
    obtain ⟨c, r, rfl, hc⟩ := isw_ne hw
    have st := step_word hw hl
    have t : Tk ((c :: (r ++ l)).drop (stepLen (c :: (r ++ l)))) (some ws) := by
      have e : stepLen (c :: (r ++ l)) = (c :: r).length := st
      rw [e]
      have : (c :: (r ++ l)).drop (c :: r).length = l := by
        show ((c :: r) ++ l).drop (c :: r).length = l
        rw [List.drop_left]
      rw [this]
      exact ih
    have e : stepLen (c :: (r ++ l)) = (c :: r).length := st
    have key := Tk.tok hc (by rw [e]; simp) t
    have e2 : (c :: (r ++ l)).take (stepLen (c :: (r ++ l))) = c :: r := by
      rw [e]
      show ((c :: r) ++ l).take (c :: r).length = c :: r
      rw [List.take_left]
    rw [e2] at key
    exact key
theorem isw_ch {w : W} (h : IsW w) : ∀ c ∈ w, c < 1114112 := by
  have k1 : ∀ c ∈ letters, c < 1114112 := by decide
  have k2 : ∀ c ∈ figures, c < 1114112 := by decide
  have k3 : ∀ g ∈ SG, ∀ c ∈ g, c < 1114112 := by decide
  intro c hc
  rcases h with ⟨_, h⟩ | ⟨_, h⟩ | h
  · exact k1 c (h c hc)
  · exact k2 c (h c hc)
  · exact k3 w h c hc
theorem Sp.isw {ws : List W} {l : W} (h : Sp ws l) : ∀ w ∈ ws, IsW w := by
  induction h with
  | nil _ => exact fun _ h => nomatch h
  | cons _ hw _ _ ih =>
    intro v hv
    rcases List.mem_cons.mp hv with rfl | hv
    · exact hw
    · exact ih v hv
theorem Sp.pre {ws : List W} {l s : W} (hs : ∀ c ∈ s, c = 32) (h : Sp ws l) : Sp ws (s ++ l) := by
  cases h with
  | nil h => exact .nil fun c hc => by rcases List.mem_append.mp hc with z | z; exact hs c z; exact h c z
  | @cons s' w l' ws' h1 h2 h3 h4 =>
    have : s ++ (s' ++ w ++ l') = (s ++ s') ++ w ++ l' := by simp
    rw [this]
    exact .cons (fun c hc => by rcases List.mem_append.mp hc with z | z; exact hs c z; exact h1 c z) h2 h3 h4
end Tw

set_option maxRecDepth 100000
set_option maxHeartbeats 4000000
namespace Tw
open PySem L2 VL Wd Tm
/-! ### the written form shows its words -/
def Nx (l : W) : Prop := ∀ c, l.head? = some c → c ∉ letters ∧ c ∉ figures ∧ c ∉ marks
theorem Nx.ext {l w : W} (h : Nx l) : ∀ c, l.head? = some c → ¬ Ext w c := fun c hc z => by
  obtain ⟨h1, h2, h3⟩ := h c hc
  rcases z with z | z | z
  · exact h1 z.2
  · exact h2 z.2
  · exact h3 z.2
theorem nx_nil : Nx [] := fun c h => by cases h
theorem nx_cons {c : Nat} {l : W} (h : c ∉ letters ∧ c ∉ figures ∧ c ∉ marks) : Nx (c :: l) := fun d e => by cases e; exact h
theorem sp_w {w l : W} {ws : List W} (hw : IsW w) (h : Sp ws l) (n : Nx l) : Sp (w :: ws) (w ++ l) := .cons (s := []) (fun _ h => nomatch h) hw h n.ext
theorem sp_s {l : W} {ws : List W} (h : Sp ws l) : Sp ws (32 :: l) := h.pre (s := [32]) (fun c hc => List.mem_singleton.mp hc)
theorem isw_let {w : W} (h : w ≠ []) (h2 : ∀ c ∈ w, c ∈ letters) : IsW w := .inl ⟨h, h2⟩
theorem isw_name {w : W} (h : nameOk w = true) : IsW w := by
  obtain ⟨_, h1, _, h2⟩ := nameOk_iff.mp h
  exact .inl ⟨by intro e; rw [e] at h1; exact absurd h1 (by decide), h2⟩
theorem isw_num {w : W} (h : numOk w = true) : IsW w := by
  obtain ⟨h1, _, _, h2⟩ := numOk_iff.mp h
  exact .inr (.inl ⟨by intro e; rw [e] at h1; exact absurd h1 (by decide), h2⟩)
theorem isw_lits : IsW wOld ∧ IsW wLen ∧ IsW wRes ∧ IsW sgP ∧ IsW sgM ∧ IsW brO ∧ IsW brC := ⟨.inl (by decide), .inl (by decide), .inl (by decide), .inr (.inr (by decide)), .inr (.inr (by decide)), .inr (.inr (by decide)), .inr (.inr (by decide))⟩
theorem sp_p {p : Int} {l : W} {ws : List W} (b : Bd p) (h : Sp ws l) (n : Nx l) : Sp (pW p ++ ws) (pT p ++ l) ∧ Nx (pT p ++ l) := by
  have sp : Nx ([32] : W) := nx_cons (by decide)
  have core : ∀ (g : W) (m : Nat), IsW g → m < 10000000000 → Sp (g :: dg (m : Int) :: ws) ([32] ++ (g ++ ([32] ++ (dg (m : Int) ++ l)))) := by
    intro g m hg hm
    exact sp_s (sp_w hg (sp_s (sp_w (isw_num (dg_num hm)) h n)) (nx_cons (by decide)))
  unfold pW pT
  rcases bd_cases b with ⟨m, hm, rfl⟩ | ⟨m, h0, hm, rfl⟩
  · by_cases c : 0 < (m : Int)
    · rw [if_pos c, if_pos c]
      exact ⟨by have := core sgP m isw_lits.2.2.2.1 hm; simpa [sgP] using this, nx_cons (by decide)⟩
    · rw [if_neg c, if_neg c, if_neg (by omega), if_neg (by omega)]
      exact ⟨h, n⟩
  · have c1 : ¬ 0 < -(m : Int) := by omega
    have c2 : -(m : Int) < 0 := by omega
    simp only [if_neg c1, if_pos c2, Int.neg_neg]
    exact ⟨by have := core sgM m isw_lits.2.2.2.2.1 hm; simpa [sgM] using this, nx_cons (by decide)⟩
theorem sp_pl {p : Pl} {l : W} {ws : List W} (b : Pl.Ok p) (h : Sp ws l) (n : Nx l) : Sp (plW p ++ ws) (plT p ++ l) := by
  cases p with
  | num k =>
    have b : Bd k := b
    show Sp (nW k ++ ws) (dg k ++ l)
    unfold nW
    rcases bd_cases b with ⟨m, hm, rfl⟩ | ⟨m, h0, hm, rfl⟩
    · rw [if_neg (by omega)]
      exact sp_w (isw_num (dg_num hm)) h n
    · rw [if_pos (by omega), Int.neg_neg, dg_neg h0]
      have d := dg_num hm
      refine Sp.cons (s := []) (w := sgM) (fun _ h => nomatch h) isw_lits.2.2.2.2.1 (sp_w (isw_num d) h n) fun c hc z => ?_
      have : sgM.getLast?.getD 0 = 45 := rfl
      unfold Ext at z
      rw [this] at z
      revert z
      have : ¬ (45 ∈ letters) ∧ ¬ (45 ∈ figures) ∧ ¬ (45 ∈ marks) := by decide
      rintro (z | z | z)
      · exact this.1 z.1
      · exact this.2.1 z.1
      · exact this.2.2 z.1
  | var w p =>
    obtain ⟨b1, b2⟩ := b
    obtain ⟨s1, s2⟩ := sp_p b2 h n
    show Sp (w :: (pW p ++ ws)) ((w ++ pT p) ++ l)
    rw [List.append_assoc]
    refine sp_w ?_ s1 s2
    rcases b1 with b1 | b1
    · exact isw_name b1
    · rw [b1]; exact isw_lits.2.2.1
  | len w p =>
    obtain ⟨b1, b2⟩ := b
    obtain ⟨s1, s2⟩ := sp_p b2 h n
    show Sp (wLen :: w :: (pW p ++ ws)) (([108, 101, 110, 32] ++ w ++ pT p) ++ l)
    have : ([108, 101, 110, 32] ++ w ++ pT p) ++ l = wLen ++ (32 :: (w ++ (pT p ++ l))) := by simp [wLen]
    rw [this]
    exact sp_w isw_lits.2.1 (sp_s (sp_w (isw_name b1) s1 s2)) (nx_cons (by decide))
theorem sp_teG {t : Te} {l : W} {ws : List W} (b : Te.Ok t) (e0 : Sp ws l) (n : Nx l) : Sp (teW t ++ ws) (teT t ++ l) := by
  cases t with
  | pl p => exact sp_pl (p := p) b e0 n
  | cell w o ix p =>
    obtain ⟨b1, b2, b3⟩ := b
    obtain ⟨s1, s2⟩ := sp_p b3 e0 n
    have s3 := sp_w isw_lits.2.2.2.2.2.2 s1 s2
    have s4 := sp_pl b2 s3 (nx_cons (by decide))
    have nb : ∀ c, (plT ix ++ (brC ++ (pT p ++ l))).head? = some c → ¬ Ext brO c := fun c _ z => by
      have : brO.getLast?.getD 0 = 91 := rfl
      unfold Ext at z
      rw [this] at z
      have : ¬ (91 ∈ letters) ∧ ¬ (91 ∈ figures) ∧ ¬ (91 ∈ marks) := by decide
      rcases z with z | z | z
      · exact this.1 z.1
      · exact this.2.1 z.1
      · exact this.2.2 z.1
    have s5 : Sp (brO :: (plW ix ++ (brC :: (pW p ++ ws)))) (brO ++ (plT ix ++ (brC ++ (pT p ++ l)))) := .cons (s := []) (fun _ h => nomatch h) isw_lits.2.2.2.2.2.1 s4 nb
    have s6 := sp_w (isw_name b1) s5 (nx_cons (by decide))
    show Sp (lW w o ++ [brO] ++ plW ix ++ [brC] ++ pW p ++ ws) (lT w o ++ brO ++ plT ix ++ brC ++ pT p ++ l)
    unfold lW lT
    cases o with
    | false => simpa using s6
    | true =>
      have s7 := sp_w isw_lits.1 (sp_s s6) (nx_cons (by decide))
      simpa [wOld] using s7
theorem sp_te {t : Te} (b : Te.Ok t) : Sp (teW t) (teT t) := by
  have := sp_teG (t := t) b (.nil fun _ h => nomatch h : Sp [] []) nx_nil
  rwa [List.append_nil, List.append_nil] at this
/-! ### the words are read back -/
def At (ws : List W) (i : Nat) (B : List W) : Prop := ws.drop i = B
def hw (B : List W) : W := (B.head?).getD []
theorem At.wa {ws B : List W} {i : Nat} (h : At ws i B) : wa ws i = hw B := by
  unfold Tm.wa hw
  rw [← h, List.head?_drop]
theorem At.next {ws B : List W} {i : Nat} {w : W} (h : At ws i (w :: B)) : At ws (i + 1) B := by
  show ws.drop (i + 1) = B
  rw [← List.drop_drop, show ws.drop i = w :: B from h]; rfl
theorem At.len {ws : List W} {i : Nat} (h : At ws i []) (hi : i ≤ ws.length) : i = ws.length := by
  have := List.drop_eq_nil_iff.mp h
  omega
def noP (B : List W) : Prop := hw B ≠ sgP ∧ hw B ≠ sgM
theorem noP.mem {B : List W} (h : noP B) : hw B ∉ [sgP, sgM] := by
  intro z
  simp only [List.mem_cons, List.not_mem_nil, or_false] at z
  rcases z with z | z
  · exact h.1 z
  · exact h.2 z
theorem plus_read {ws B : List W} {i : Nat} {p : Int} (b : Bd p) (h : At ws i (pW p ++ B)) (n : noP B) : plusAt ws i = some (p, i + (pW p).length) ∧ At ws (i + (pW p).length) B := by
  unfold pW at h ⊢
  rcases bd_cases b with ⟨m, hm, rfl⟩ | ⟨m, h0, hm, rfl⟩
  · by_cases c : 0 < (m : Int)
    · rw [if_pos c] at h ⊢
      have h : At ws i (sgP :: dg (m : Int) :: B) := h
      have w0 := h.wa
      have w1 := h.next.wa
      refine ⟨?_, h.next.next⟩
      unfold plusAt
      rw [w0, w1]
      show (if sgP ∉ [sgP, sgM] then _ else if numOk (dg (m : Int)) = true then (if sgP = sgP then some (nv (dg (m : Int)), i + 2) else _) else none) = _
      rw [if_neg (by decide), if_pos (dg_num hm), if_pos rfl, dg_val]; rfl
    · rw [if_neg c, if_neg (by omega)] at h ⊢
      have h : At ws i B := h
      refine ⟨?_, h⟩
      unfold plusAt
      rw [h.wa, if_pos n.mem]
      have : m = 0 := by omega
      subst this; rfl
  · rw [if_neg (by omega), if_pos (by omega), Int.neg_neg] at h ⊢
    have h : At ws i (sgM :: dg (m : Int) :: B) := h
    have w0 := h.wa
    have w1 := h.next.wa
    refine ⟨?_, h.next.next⟩
    unfold plusAt
    rw [w0, w1]
    show (if sgM ∉ [sgP, sgM] then _ else if numOk (dg (m : Int)) = true then (if sgM = sgP then _ else some (-nv (dg (m : Int)), i + 2)) else none) = _
    rw [if_neg (by decide), if_pos (dg_num hm), if_neg (by decide), dg_val]; rfl
theorem name_num {w : W} (h : nameOk w = true ∨ w = wRes ∨ w = wLen) : numOk w = false ∧ w ≠ sgM := by
  have key : ∀ c ∈ letters, c ∉ figures ∧ c ≠ 45 := by decide
  have lw : w ≠ [] ∧ ∀ c ∈ w, c ∈ letters := by
    rcases h with h | h | h
    · obtain ⟨_, h1, _, h2⟩ := nameOk_iff.mp h
      exact ⟨by intro e; rw [e] at h1; exact absurd h1 (by decide), h2⟩
    · rw [h]; decide
    · rw [h]; decide
  obtain ⟨h1, h2⟩ := lw
  cases w with
  | nil => exact absurd rfl h1
  | cons c r =>
    have k := key c (h2 c (List.mem_cons_self ..))
    refine ⟨?_, ?_⟩
    · cases e : numOk (c :: r) with
      | false => rfl
      | true => exact absurd ((numOk_iff.mp e).2.2.2 c (List.mem_cons_self ..)) k.1
    · intro e
      cases e
      exact k.2 rfl
theorem res_facts : nameOk wRes = false ∧ nameOk wLen = false ∧ nameOk wOld = false ∧ nameOk sgM = false ∧ nameOk [] = false := by decide +kernel
theorem name_ne {w : W} (h : nameOk w = true) : w ≠ wLen ∧ w ≠ wOld ∧ w ≠ wRes := by
  refine ⟨?_, ?_, ?_⟩ <;> (intro e; rw [e] at h; revert h; decide +kernel)
theorem plain_read {ws B : List W} {i : Nat} {p : Pl} (b : Pl.Ok p) (h : At ws i (plW p ++ B)) (n : noP B) : plainAt ws i = some (p, i + (plW p).length) ∧ At ws (i + (plW p).length) B := by
  cases p with
  | num k =>
    have b : Bd k := b
    have h : At ws i (nW k ++ B) := h
    show plainAt ws i = some (.num k, i + (nW k).length) ∧ At ws (i + (nW k).length) B
    unfold nW at h ⊢
    rcases bd_cases b with ⟨m, hm, rfl⟩ | ⟨m, h0, hm, rfl⟩
    · rw [if_neg (by omega)] at h ⊢
      have h : At ws i (dg (m : Int) :: B) := h
      refine ⟨?_, h.next⟩
      unfold plainAt signedAt
      rw [h.wa]
      show (match (if numOk (dg (m : Int)) = true then some (nv (dg (m : Int)), i + 1) else _) with | some (n, j) => _ | none => _) = _
      rw [if_pos (dg_num hm), dg_val]; rfl
    · rw [if_pos (by omega), Int.neg_neg] at h ⊢
      have h : At ws i (sgM :: dg (m : Int) :: B) := h
      refine ⟨?_, h.next.next⟩
      unfold plainAt signedAt
      rw [h.wa, h.next.wa]
      show (match (if numOk sgM = true then _ else if sgM = sgM ∧ numOk (dg (m : Int)) = true then some (-nv (dg (m : Int)), i + 2) else none) with | some (n, j) => _ | none => _) = _
      rw [if_neg (by decide), if_pos ⟨rfl, dg_num hm⟩, dg_val]; rfl
  | var w p =>
    obtain ⟨b1, b2⟩ := b
    have h : At ws i (w :: (pW p ++ B)) := h
    obtain ⟨e1, e2⟩ := plus_read b2 h.next n
    have l : i + (plW (.var w p)).length = i + 1 + (pW p).length := by simp [plW]; omega
    rw [l]
    refine ⟨?_, e2⟩
    have nn := name_num (w := w) (by rcases b1 with z | z; exact .inl z; exact .inr (.inl z))
    have w0 : wa ws i = w := h.wa
    have s : signedAt ws i = none := by
      unfold signedAt
      rw [w0, if_neg (by rw [nn.1]; decide), if_neg (fun z => nn.2 z.1)]
    unfold plainAt
    rw [s]
    show (if wa ws i = wLen then _ else namedAt false ws i) = _
    rw [w0, if_neg (by rcases b1 with z | z; exact (name_ne z).1; rw [z]; decide)]
    unfold namedAt
    rw [e1, w0]
    show (if nameOk w = true ∨ (false = false ∧ w = wRes) then some (mkN false w p, _) else none) = _
    rw [if_pos (by rcases b1 with z | z; exact .inl z; exact .inr ⟨rfl, z⟩)]; rfl
  | len w p =>
    obtain ⟨b1, b2⟩ := b
    have h : At ws i (wLen :: w :: (pW p ++ B)) := h
    obtain ⟨e1, e2⟩ := plus_read b2 h.next.next n
    have l : i + (plW (.len w p)).length = i + 1 + 1 + (pW p).length := by simp [plW]; omega
    rw [l]
    refine ⟨?_, e2⟩
    have nn := name_num (w := wLen) (.inr (.inr rfl))
    have w0 : wa ws i = wLen := h.wa
    have w1 : wa ws (i + 1) = w := h.next.wa
    have s : signedAt ws i = none := by
      unfold signedAt
      rw [w0, if_neg (by rw [nn.1]; decide), if_neg (fun z => nn.2 z.1)]
    unfold plainAt
    rw [s]
    show (if wa ws i = wLen then namedAt true ws (i + 1) else _) = _
    rw [w0, if_pos rfl]
    unfold namedAt
    rw [e1, w1]
    show (if nameOk w = true ∨ (true = false ∧ w = wRes) then some (mkN true w p, _) else none) = _
    rw [if_pos (.inl b1)]; rfl
theorem list_read {ws B : List W} {i : Nat} {w : W} {o : Bool} (b : nameOk w = true) (h : At ws i (lW w o ++ B)) : listAt ws i = some ((w, o), i + (lW w o).length) ∧ At ws (i + (lW w o).length) B := by
  cases o with
  | false =>
    have h : At ws i (w :: B) := h
    refine ⟨?_, h.next⟩
    have w0 : wa ws i = w := h.wa
    unfold listAt
    rw [w0, if_neg (fun z => (name_ne b).2.1 z.1), if_pos b]; rfl
  | true =>
    have h : At ws i (wOld :: w :: B) := h
    refine ⟨?_, h.next.next⟩
    have w0 : wa ws i = wOld := h.wa
    have w1 : wa ws (i + 1) = w := h.next.wa
    unfold listAt
    rw [w0, w1, if_pos ⟨rfl, b⟩]; rfl
/-- what stands behind a term -/
structure Bh (B : List W) : Prop where
  p : noP B
  o : hw B ≠ brO
theorem hw_p {p : Int} {B : List W} (n : Bh B) : hw (pW p ++ B) ≠ brO := by
  unfold pW
  split
  · show sgP ≠ brO; decide
  · split
    · show sgM ≠ brO; decide
    · exact n.o
theorem list_not {ws B : List W} {i : Nat} {p : Pl} (b : Pl.Ok p) (h : At ws i (plW p ++ B)) (n : Bh B) : ∀ l, listAt ws i = some l → wa ws l.2 ≠ brO := by
  intro l e
  have w0 := h.wa
  unfold listAt at e
  cases p with
  | num k =>
    exfalso
    have b : Bd k := b
    have w0 : wa ws i = hw (nW k ++ B) := w0
    unfold nW at w0
    rcases bd_cases b with ⟨m, hm, rfl⟩ | ⟨m, h0, hm, rfl⟩
    · rw [if_neg (by omega)] at w0
      have w0 : wa ws i = dg (m : Int) := w0
      have nn := dg_num hm
      have no : nameOk (dg (m : Int)) = false := by
        cases z : nameOk (dg (m : Int)) with
        | false => rfl
        | true => have := (name_num (.inl z)).1; rw [nn] at this; cases this
      have no2 : dg (m : Int) ≠ wOld := fun z => by rw [z] at nn; exact absurd nn (by decide)
      rw [w0, if_neg (fun z => no2 z.1), if_neg (by rw [no]; decide)] at e
      cases e
    · rw [if_pos (by omega)] at w0
      have w0 : wa ws i = sgM := w0
      rw [w0, if_neg (fun z => absurd z.1 (by decide)), if_neg (by rw [res_facts.2.2.2.1]; decide)] at e
      cases e
  | var w p =>
    have h : At ws i (w :: (pW p ++ B)) := h
    have w0 : wa ws i = w := h.wa
    obtain ⟨b1, b2⟩ := b
    have no : w ≠ wOld := by rcases b1 with z | z; exact (name_ne z).2.1; rw [z]; decide
    rw [w0, if_neg (fun z => no z.1)] at e
    by_cases c : nameOk w = true
    · rw [if_pos c] at e
      cases e
      show wa ws (i + 1) ≠ brO
      rw [h.next.wa]
      exact hw_p n
    · rw [if_neg c] at e
      cases e
  | len w p =>
    have h : At ws i (wLen :: w :: (pW p ++ B)) := h
    have w0 : wa ws i = wLen := h.wa
    rw [w0, if_neg (fun z => absurd z.1 (by decide)), if_neg (by rw [res_facts.2.1]; decide)] at e
    cases e
theorem term_read {ws B : List W} {i : Nat} {t : Te} (b : Te.Ok t) (h : At ws i (teW t ++ B)) (n : Bh B) : termAt ws i = some (t, i + (teW t).length) ∧ At ws (i + (teW t).length) B := by
  cases t with
  | pl p =>
    have b : Pl.Ok p := b
    have h : At ws i (plW p ++ B) := h
    obtain ⟨e1, e2⟩ := plain_read b h n.p
    refine ⟨?_, e2⟩
    have nl := list_not b h n
    unfold termAt
    cases e : listAt ws i with
    | none =>
      show (plainAt ws i).map _ = _
      rw [e1]; rfl
    | some l =>
      show (if wa ws l.2 = brO then _ else (plainAt ws i).map _) = _
      rw [if_neg (nl l e), e1]; rfl
  | cell w o ix p =>
    obtain ⟨b1, b2, b3⟩ := b
    have h : At ws i (lW w o ++ (brO :: (plW ix ++ (brC :: (pW p ++ B))))) := by
      have e : teW (.cell w o ix p) ++ B = lW w o ++ (brO :: (plW ix ++ (brC :: (pW p ++ B)))) := by simp [teW]
      rw [← e]; exact h
    obtain ⟨e1, h1⟩ := list_read b1 h
    have w1 : wa ws (i + (lW w o).length) = brO := h1.wa
    obtain ⟨e2, h2⟩ := plain_read b2 h1.next ⟨by show brC ≠ sgP; decide, by show brC ≠ sgM; decide⟩
    have w2 : wa ws (i + (lW w o).length + 1 + (plW ix).length) = brC := h2.wa
    obtain ⟨e3, h3⟩ := plus_read b3 h2.next n.p
    have l : i + (teW (.cell w o ix p)).length = i + (lW w o).length + 1 + (plW ix).length + 1 + (pW p).length := by simp [teW]; omega
    rw [l]
    refine ⟨?_, h3⟩
    unfold termAt
    rw [e1]
    show (if wa ws (i + (lW w o).length) = brO then Tm.cellOf ws ((w, o), i + (lW w o).length) else _) = _
    rw [w1, if_pos rfl]
    unfold Tm.cellOf
    simp only [e2, w2, e3, if_true]
theorem term_back {t : Te} (b : Te.Ok t) : termOf (teW t) = some t := by
  obtain ⟨e, h⟩ := term_read (ws := teW t) (i := 0) (B := []) b (by show (teW t).drop 0 = _; rw [List.drop_zero, List.append_nil]) ⟨⟨by decide, by decide⟩, by decide⟩
  unfold termOf
  rw [e]
  show (if 0 + (teW t).length = (teW t).length then some t else none) = _
  rw [if_pos (Nat.zero_add _)]
end Tw

set_option maxRecDepth 100000
set_option maxHeartbeats 4000000
namespace Tw
open PySem L2 VL Wd Tm
local macro_rules
  | `(tactic| push_cast [$xs,*]) => `(tactic| try simp only [$xs,*, WpSs, WpS, WpE, WpEs, WpBs, WpO, WpN, WpI, WpC, WpT, getS, setS, tgK, setsS, wipeS, k_add, k_addT, k_sub, k_mul, k_fdiv, k_mod, k_neg, k_lt, k_le, k_gt, k_ge, k_eqI, k_neI, k_eqS, k_neS, k_eqB, k_neB, k_is, k_isn, isNon_non, isNon_int, isNon_str, isNon_lst, isNon_tup, isNon_adr, k_lenS, k_lenL, k_lenR, k_lenT, k_int, k_str, k_abs, tru_bl, augK, ctx_call, ctx_glob, k_in, k_nin, k_inS, k_addS, k_intB, isi_non_int, isi_non_bool, isi_non_str, isi_non_list, isi_non_tuple, isi_bl_int, isi_bl_bool, isi_bl_str, isi_bl_list, isi_bl_tuple, isi_int_int, isi_int_bool, isi_int_str, isi_int_list, isi_int_tuple, isi_str_int, isi_str_bool, isi_str_str, isi_str_list, isi_str_tuple, isi_tup_int, isi_tup_bool, isi_tup_str, isi_tup_list, isi_tup_tuple, isi_lst_int, isi_lst_bool, isi_lst_str, isi_lst_list, isi_lst_tuple, isi_ro_int, isi_ro_bool, isi_ro_str, isi_ro_list, isi_ro_tuple])
/-! ### what the writing of texts asks -/
theorem bd_log {n : Int} (b : Bd n) : n.natAbs.log2 < 1920 := by
  obtain ⟨h1, h2⟩ := b
  have : n.natAbs < 2 ^ 40 := by
    have e : (2 ^ 40 : Nat) = 1099511627776 := by decide
    omega
  have := PySem.Flt.log2_lt_of (by decide : 0 < 40) this
  omega
theorem Bd.neg {n : Int} (b : Bd n) : Bd (-n) := ⟨by have := b.2; omega, by have := b.1; omega⟩
theorem bd_len {n : Int} (b : Bd n) : (dg n).length ≤ 11 := by
  rcases bd_cases b with ⟨m, hm, rfl⟩ | ⟨m, h0, hm, rfl⟩
  · have := dg_len hm; omega
  · rw [dg_neg h0]
    have := dg_len hm
    simp; omega
theorem pT_len {p : Int} (b : Bd p) : (pT p).length ≤ 14 := by
  unfold pT
  split
  · have := bd_len b; simp; omega
  · split
    · have := bd_len b.neg; simp; omega
    · simp
def nmL (w : W) : Prop := w.length ≤ 12
theorem ok_len {w : W} (h : nameOk w = true ∨ w = wRes) : w.length ≤ 12 := by
  rcases h with h | h
  · exact (nameOk_iff.mp h).2.2.1
  · rw [h]; decide
theorem plT_len {p : Pl} (b : Pl.Ok p) : (plT p).length ≤ 40 := by
  cases p with
  | num n => have := bd_len b; show (dg n).length ≤ 40; omega
  | var w p => have := ok_len b.1; have := pT_len b.2; show (w ++ pT p).length ≤ 40; simp; omega
  | len w p => have := ok_len (.inl b.1); have := pT_len b.2; show ([108, 101, 110, 32] ++ w ++ pT p).length ≤ 40; simp; omega
theorem lT_len {w : W} {o : Bool} (b : nameOk w = true) : (lT w o).length ≤ 20 := by
  have := ok_len (.inl b)
  unfold lT
  split <;> simp <;> omega
theorem teT_len {t : Te} (b : Te.Ok t) : (teT t).length ≤ 100 := by
  cases t with
  | pl p => have := plT_len b; show (plT p).length ≤ 100; omega
  | cell w o ix p =>
    have := lT_len (o := o) b.1; have := plT_len b.2.1; have := pT_len b.2.2
    show (lT w o ++ brO ++ plT ix ++ brC ++ pT p).length ≤ 100
    simp [brO, brC]; omega
theorem tlits : (" + " : Str) = mkS [32, 43, 32] ∧ (" - " : Str) = mkS [32, 45, 32] ∧ ("old " : Str) = mkS [111, 108, 100, 32] ∧ ("len " : Str) = mkS [108, 101, 110, 32] ∧ (" " : Str) = mkS [32] ∧ ("" : Str) = mkS [] := by decide +kernel
theorem kinds_ne : decide (("var" : Str) = "num") = false ∧ decide (("len" : Str) = "num") = false ∧ decide (("cell" : Str) = "num") = false ∧ decide (("len" : Str) = "var") = false ∧ decide (("cell" : Str) = "var") = false ∧ decide (("cell" : Str) = "len") = false := by decide +kernel
theorem szN {a : Nat} (h : a ≤ 100000) : a ≤ sizeLine := Nat.le_trans h (by decide)
section
variable {P : Prg} [U P] {n : Nat} {h : AHeap} {Q : AV → AHeap → Prop}
theorem write_plus_ok {p : Int} (b : Bd p) (q : Q (.str (mkS (pT p))) h) : callN P (n+1) 15 [.int p] h Q := by
  refine call_of U.f_write_plus rfl ?_
  show WpSs (ctxOf P (callN P n)) b_write_plus _ [.val (.int p)] h
  push_cast [b_write_plus, tlits, dg_str, mkS_len, mkS_app]
  unfold pT at q
  refine ite_b (fun c => ?_) (fun c => ?_)
  · rw [if_pos c] at q
    have := bd_len b
    exact ⟨bd_log b, szN (by simp; omega), q⟩
  · rw [if_neg c] at q
    push_cast [b_write_plus_2, tlits, dg_str, mkS_len, mkS_app]
    refine ite_b (fun c => ?_) (fun c => ?_)
    · rw [if_pos c] at q
      have := bd_len b.neg
      exact ⟨bd_log b.neg, szN (by simp; omega), q⟩
    · rw [if_neg c] at q
      push_cast [b_write_plus_1, tlits]
      exact q
theorem k_t2 {a b c : AV} {Q : KA} (q : Q c) : subK h (.tup [a, b, c]) (.int 2) Q := k_subL (xs := [a, b, c]) rfl (fun _ h => by cases h) rfl q
theorem k_t30 {a b c : AV} {Q : KA} (q : Q a) : subK h (.tup [a, b, c]) (.int 0) Q := k_subL (xs := [a, b, c]) rfl (fun _ h => by cases h) rfl q
theorem k_t31 {a b c : AV} {Q : KA} (q : Q b) : subK h (.tup [a, b, c]) (.int 1) Q := k_subL (xs := [a, b, c]) rfl (fun _ h => by cases h) rfl q
theorem k_t4 {l : List AV} {a : AV} {k : Nat} {Q : KA} (e : l[k]? = some a) (q : Q a) : subK h (.tup l) (.int (k : Int)) Q := k_subL (xs := l) rfl (fun _ h => by cases h) ((atI_nat (List.getElem?_eq_some_iff.mp e).1).trans e) q
theorem write_list_ok {w : W} {o : Bool} (b : nameOk w = true) (q : Q (.str (mkS (lT w o))) h) : callN P (n+1) 16 [.tup [.str (mkS w), .bl o]] h Q := by
  refine call_of U.f_write_list rfl ?_
  show WpSs (ctxOf P (callN P n)) b_write_list _ [.val (.tup [.str (mkS w), .bl o])] h
  push_cast [b_write_list]
  refine k_t1 ?_
  have := ok_len (.inl b)
  cases o with
  | true =>
    push_cast [if_true]
    refine k_t0 ?_
    push_cast [tlits, mkS_len, mkS_app]
    exact ⟨szN (by simp; omega), q⟩
  | false =>
    push_cast [Bool.false_eq_true, if_false, b_write_list_1]
    exact k_t0 q
theorem write_pl_ok {p : Pl} (b : Pl.Ok p) (q : Q (.str (mkS (plT p))) h) : callN P (n+2) 17 [p.av] h Q := by
  refine call_of U.f_write_term rfl ?_
  show WpSs (ctxOf P (callN P (n+1))) b_write_term _ [.val p.av] h
  cases p with
  | num k =>
    push_cast [Pl.av, b_write_term]
    refine k_t0 ?_
    push_cast [decide_true, if_true]
    refine k_t1 ?_
    push_cast [WpSs]
    exact ⟨bd_log b, q⟩
  | var w p =>
    obtain ⟨b1, b2⟩ := b
    have := ok_len b1
    have := pT_len b2
    push_cast [Pl.av, b_write_term]
    refine k_t30 ?_
    push_cast [kinds_ne, Bool.false_eq_true, if_false, b_write_term_3]
    refine k_t30 ?_
    push_cast [decide_true, if_true]
    refine k_t31 ?_
    refine k_t2 ?_
    refine write_plus_ok b2 ?_
    push_cast [mkS_len, mkS_app]
    exact ⟨szN (by omega), q⟩
  | len w p =>
    obtain ⟨b1, b2⟩ := b
    have := ok_len (.inl b1)
    have := pT_len b2
    push_cast [Pl.av, b_write_term]
    refine k_t30 ?_
    push_cast [kinds_ne, Bool.false_eq_true, if_false, b_write_term_3]
    refine k_t30 ?_
    push_cast [kinds_ne, Bool.false_eq_true, if_false, b_write_term_2]
    refine k_t30 ?_
    push_cast [decide_true, if_true]
    refine k_t31 ?_
    push_cast [tlits, mkS_len, mkS_app]
    refine ⟨szN (by simp; omega), ?_⟩
    refine k_t2 ?_
    refine write_plus_ok b2 ?_
    push_cast [mkS_len, mkS_app]
    exact ⟨szN (by simp; omega), q⟩
theorem write_term_ok {t : Te} (b : Te.Ok t) (q : Q (.str (mkS (teT t))) h) : callN P (n+3) 17 [t.av] h Q := by
  cases t with
  | pl p => exact write_pl_ok b q
  | cell w o ix p =>
    obtain ⟨b1, b2, b3⟩ := b
    have := lT_len (o := o) b1; have := plT_len b2; have := pT_len b3
    refine call_of U.f_write_term rfl ?_
    show WpSs (ctxOf P (callN P (n+2))) b_write_term _ [.val (Te.av (.cell w o ix p))] h
    push_cast [Te.av, b_write_term]
    refine k_t4 (k := 0) rfl ?_
    push_cast [kinds_ne, Bool.false_eq_true, if_false, b_write_term_3]
    refine k_t4 (k := 0) rfl ?_
    push_cast [kinds_ne, Bool.false_eq_true, if_false, b_write_term_2]
    refine k_t4 (k := 0) rfl ?_
    push_cast [kinds_ne, Bool.false_eq_true, if_false, b_write_term_1]
    refine k_t4 (k := 1) rfl ?_
    refine write_list_ok b1 ?_
    have lo : ("[" : Str) = mkS brO ∧ ("]" : Str) = mkS brC := ⟨lits.2.2.1, lits.2.2.2.1⟩
    push_cast [lo, mkS_len, mkS_app]
    refine ⟨szN (by simp [brO]; omega), ?_⟩
    refine k_t4 (k := 2) rfl ?_
    refine write_pl_ok b2 ?_
    push_cast [mkS_len, mkS_app]
    refine ⟨szN (by simp [brO]; omega), szN (by simp [brO, brC]; omega), ?_⟩
    refine k_t4 (k := 3) rfl ?_
    refine write_plus_ok b3 ?_
    push_cast [mkS_len, mkS_app]
    exact ⟨szN (by simp [brO, brC]; omega), q⟩
end
end Tw

set_option maxRecDepth 100000
set_option maxHeartbeats 4000000
namespace Hd
open PySem L2 VL
local macro_rules
  | `(tactic| push_cast [$xs,*]) => `(tactic| try simp only [$xs,*, WpSs, WpS, WpE, WpEs, WpBs, WpO, WpN, WpI, WpC, WpT, getS, setS, tgK, setsS, wipeS, k_add, k_addT, k_sub, k_mul, k_fdiv, k_mod, k_neg, k_lt, k_le, k_gt, k_ge, k_eqI, k_neI, k_eqS, k_neS, k_eqB, k_neB, k_is, k_isn, isNon_non, isNon_int, isNon_str, isNon_lst, isNon_tup, isNon_adr, k_lenS, k_lenL, k_lenR, k_lenT, k_int, k_str, k_abs, tru_bl, augK, ctx_call, ctx_glob, k_in, k_nin, k_inS, k_addS, k_intB, isi_non_int, isi_non_bool, isi_non_str, isi_non_list, isi_non_tuple, isi_bl_int, isi_bl_bool, isi_bl_str, isi_bl_list, isi_bl_tuple, isi_int_int, isi_int_bool, isi_int_str, isi_int_list, isi_int_tuple, isi_str_int, isi_str_bool, isi_str_str, isi_str_list, isi_str_tuple, isi_tup_int, isi_tup_bool, isi_tup_str, isi_tup_list, isi_tup_tuple, isi_lst_int, isi_lst_bool, isi_lst_str, isi_lst_list, isi_lst_tuple, isi_ro_int, isi_ro_bool, isi_ro_str, isi_ro_list, isi_ro_tuple])
theorem int_one (ds : List Int) (x : Int) : ds.map AV.int ++ [.int x] = (ds ++ [x]).map AV.int := by rw [List.map_append]; rfl
theorem set_int (ds : List Int) (j : Nat) (x : Int) : (ds.map AV.int).set j (.int x) = (ds.set j x).map AV.int := by rw [List.map_set]
theorem cells_pos {h : AHeap} {n : Nat} {c : Cell} (e : cells h n = c) (hc : c ≠ .dead) : n < h.length := by
  cases Nat.lt_or_ge n h.length with
  | inl q => exact q
  | inr q => unfold cells at e; rw [List.getElem?_eq_none q] at e; exact absurd e.symm hc
theorem cells_push {h : AHeap} {n : Nat} {c : Cell} (e : n < h.length) : cells (h ++ [c]) n = cells h n := by
  unfold cells
  rw [List.getElem?_append_left e]
theorem cells_app {h l : AHeap} {n : Nat} (e : n < h.length) : cells (h ++ l) n = cells h n := by
  unfold cells
  rw [List.getElem?_append_left e]
theorem cells_put {h : AHeap} {n m : Nat} {c : Cell} (hn : n ≠ m) : cells (h.set n c) m = cells h m := by
  unfold cells
  rw [List.getElem?_set_ne hn]
theorem cells_set {h : AHeap} {n : Nat} {c : Cell} (hn : n < h.length) : cells (h.set n c) n = c := by
  unfold cells
  rw [List.getElem?_set_self hn]; rfl
theorem cells_last (h : AHeap) (c : Cell) : cells (h ++ [c]) h.length = c := by simp [cells]
theorem set_last (h : AHeap) (c d : Cell) : (h ++ [c]).set h.length d = h ++ [d] := by simp
theorem view_adr {h : AHeap} {n : Nat} {xs : List AV} (e : cells h n = .lst xs) : viewT h (.adr n) = some xs := by
  show view h (.adr n) = _
  simp only [view, e]
/-- the hand: draws, and where in them -/
def Hnd (a : Nat) (h : AHeap) : Prop := ∃ (ds : List Int) (k : Nat), cells h a = .lst [.lst (ds.map AV.int), .int k]
theorem Hnd.lt {a : Nat} {h : AHeap} (x : Hnd a h) : a < h.length := by
  obtain ⟨ds, k, e⟩ := x
  exact cells_pos e (fun z => by cases z)
/-- from one heap to a later one: the hand is one still, the other cells are as they were -/
structure Hx (a : Nat) (h h' : AHeap) : Prop where
  hand : Hnd a h'
  len : h.length ≤ h'.length
  keep : ∀ b, b < h.length → b ≠ a → cells h' b = cells h b
theorem Hx.refl {a : Nat} {h : AHeap} (x : Hnd a h) : Hx a h h := ⟨x, Nat.le_refl _, fun _ _ _ => rfl⟩
theorem Hx.trans {a : Nat} {h h' h'' : AHeap} (x : Hx a h h') (y : Hx a h' h'') : Hx a h h'' := ⟨y.hand, Nat.le_trans x.len y.len, fun b h1 h2 => (y.keep b (Nat.lt_of_lt_of_le h1 x.len) h2).trans (x.keep b h1 h2)⟩
theorem Hx.app {a : Nat} {h : AHeap} (x : Hnd a h) (l : List Cell) : Hx a h (h ++ l) := by
  have lt := x.lt
  obtain ⟨ds, k, e⟩ := x
  exact ⟨⟨ds, k, (cells_app lt).trans e⟩, by simp, fun b h1 _ => cells_app h1⟩
section
variable {P : Prg} [U P]
theorem take_ok {a n : Nat} {m : Int} {h Q} (hd : Hnd a h) (hm : 0 < m) (q : ∀ (r : Nat) h', Hx a h h' → (r : Int) < m → Q (.int (r : Int)) h') : callN P (n+1) 20 [.adr a, .int m] h Q := by
  have hp := hd.lt
  obtain ⟨ds, k, e⟩ := hd
  refine call_of U.f__law_take rfl ?_
  show WpSs (ctxOf P (callN P n)) b_law_take _ [.val (.adr a), .val (.int m), .no, .no] h
  push_cast [b_law_take]
  refine k_subL (d := .int k) (view_adr e) (fun _ h => by cases h) rfl ?_
  have ix : ixN 2 1 = some 1 := rfl
  push_cast [e, putC, List.length_cons, List.length_nil, ix]
  have e1 : (k : Int) + 1 = ((k + 1 : Nat) : Int) := by omega
  have e2 : cells (h.set a (.lst ([.lst (ds.map AV.int), .int k].set 1 (.int ((k : Int) + 1))))) a = .lst [.lst (ds.map AV.int), .int ((k + 1 : Nat) : Int)] := by
    rw [cells_set hp, e1]; rfl
  have hx : Hx a h (h.set a (.lst ([.lst (ds.map AV.int), .int k].set 1 (.int ((k : Int) + 1))))) := ⟨⟨ds, k + 1, e2⟩, by simp, fun b _ h2 => cells_put (Ne.symm h2)⟩
  refine k_subL (d := .lst (ds.map AV.int)) (view_adr e2) (fun _ h => by cases h) rfl ?_
  push_cast [WpSs]
  refine ite_b (fun c => q 0 _ hx hm) (fun c => ?_)
  have hk : k < ds.length := by simp at c; omega
  have e3 : atI (ds.map AV.int) (k : Int) = some (.int ds[k]) := by
    rw [atI_nat (by simpa using hk)]
    simp [hk]
  push_cast [b_law_take_1]
  refine k_subL viewT_lst (fun _ h => by cases h) e3 ?_
  push_cast [WpSs]
  refine ⟨divA (by decide) (by decide), hm, ?_⟩
  have h1 := Int.emod_nonneg (ds[k] / 7) (b := m) (by omega)
  have h2 := Int.emod_lt_of_pos (ds[k] / 7) hm
  obtain ⟨r, hr⟩ := Int.eq_ofNat_of_zero_le h1
  rw [hr] at h2 ⊢
  exact q r _ hx h2
theorem draws_ok {n m : Nat} {ns : List Int} {h Q} (hn : ns.length ≤ 63) (hm : m ≤ 100000) (q : ∀ ds : List Int, ds.length = m → Q (.lst (ds.map AV.int)) h) : callN P (n+1) 19 [.ro (ns.map AV.int), .int (m : Int)] h Q := by
  refine call_of U.f__law_draws rfl ?_
  show WpSs (ctxOf P (callN P n)) b_law_draws _ [.val (.ro (ns.map AV.int)), .val (.int (m : Int)), .no, .no, .no, .no, .no, .no] h
  push_cast [b_law_draws, viewT_ro]
  have hz1 : sizeLine = 16777216 := rfl
  refine ⟨by rw [List.length_map]; omega, ?_⟩
  refine comp_map (fun i => .int (if (ns[i]?).getD 0 < 0 then -(ns[i]?).getD 0 else (ns[i]?).getD 0)) ?_ ?_
  · intro i x R hx r
    obtain ⟨a, ha, rfl⟩ := items_map hx
    push_cast [if_true]
    rw [ha] at r
    exact r
  refine ⟨Nat.zero_le _, ⟨by omega, by omega⟩, ?_⟩
  refine for_inv (fun k ρ h' => h' = h ∧ ∃ (ls ds : List Int) (s4 s5 s6 s7 : Slot), ls.length = ns.length ∧ ds.length = k ∧ ρ = [.val (.ro (ns.map AV.int)), .val (.int (m : Int)), .own (.lst (ls.map AV.int)), .own (.lst (ds.map AV.int)), s4, s5, s6, s7]) ⟨rfl, (List.range ns.length).map (fun i => (if (ns[i]?).getD 0 < 0 then -(ns[i]?).getD 0 else (ns[i]?).getD 0)), [], .no, .no, .no, .no, by simp, rfl, ?_⟩ (fun _ _ _ _ _ => by trivial) ?_ ?_
  · rw [List.length_map, List.map_map]; rfl
  · rintro k x _ h D' hx ⟨rfl, ls, ds, s4, s5, s6, s7, hl, hd, rfl⟩ kn kc kr kb
    obtain ⟨hk, rfl⟩ := items_range hx
    have hk : k < m := by simpa using hk
    have rest : ∀ (i : Int) s6 s7, WpSs (ctxOf P (callN P n)) b_law_draws_1 D' [.val (.ro (ns.map AV.int)), .val (.int (m : Int)), .own (.lst (ls.map AV.int)), .own (.lst (ds.map AV.int)), .val (.int k), .val (.int i), s6, s7] h := by
      intro i s6 s7
      push_cast [b_law_draws_1, int_one]
      refine ⟨mulA_r (by decide) (by decide), mulA_r (by decide) (by decide), by decide, ?_⟩
      generalize i * 48271 + (k : Int) * 69621 + 11 = a
      have h1 := Int.emod_nonneg a (by decide : (2147483647 : Int) ≠ 0)
      have h2 := Int.emod_lt_of_pos a (by decide : (0 : Int) < 2147483647)
      generalize a % 2147483647 = b at h1 h2
      refine ⟨mulA_l (by omega) (by omega), divA (by decide) (by decide), by decide, ?_⟩
      generalize b * b / 4096 + b = c
      have h3 := Int.emod_nonneg c (by decide : (2147483629 : Int) ≠ 0)
      have h4 := Int.emod_lt_of_pos c (by decide : (0 : Int) < 2147483629)
      generalize c % 2147483629 = d at h3 h4
      refine ⟨mulA_l (by omega) (by omega), divA (by decide) (by decide), mulA_r (by decide) (by decide), by decide, by simp; omega, ?_⟩
      exact kn _ _ ⟨rfl, ls, _, _, _, _, _, hl, by simp [hd], rfl⟩
    push_cast [b_law_draws_2]
    refine ite_b (fun c => ?_) (fun c => rest _ _ _)
    rw [List.length_map] at c ⊢
    refine ⟨by omega, ?_⟩
    have h1 := Int.emod_nonneg (k : Int) (b := (ns.length : Int)) (by omega)
    have h2 := Int.emod_lt_of_pos (k : Int) (b := (ns.length : Int)) (by omega)
    obtain ⟨j, hj⟩ := Int.eq_ofNat_of_zero_le h1
    rw [hj] at h2 ⊢
    have hj1 : j < ns.length := by omega
    have hj2 : j < ls.length := by omega
    have en : atI (ns.map AV.int) (j : Int) = some (.int ns[j]) := by
      rw [atI_nat (by simpa using hj1)]
      simp [hj1]
    have el : atI (ls.map AV.int) (j : Int) = some (.int ls[j]) := by
      rw [atI_nat (by simpa using hj2)]
      simp [hj2]
    refine k_subL viewT_ro (fun _ h => by cases h) en ?_
    push_cast [WpSs]
    refine ⟨⟨by decide, by decide, by decide⟩, ?_⟩
    refine ite_b (fun c2 => ?_) (fun c2 => ?_)
    · refine k_subL viewT_lst (fun _ h => by cases h) el ?_
      push_cast [WpSs]
      refine ite_b (fun c3 => ?_) (fun c3 => rest _ _ _)
      refine k_subL viewT_lst (fun _ h => by cases h) el ?_
      push_cast [WpSs]
      refine ⟨by decide, by simp; omega, ?_⟩
      refine k_subL viewT_lst (fun _ h => by cases h) el ?_
      have ix : ixN (ls.map AV.int).length (j : Int) = some j := by
        rw [List.length_map]
        exact Evl.ixN_nat hj2
      push_cast [putC, ix, int_one, set_int]
      refine ⟨divA (by decide) (by decide), ?_⟩
      exact kc _ _ ⟨rfl, _, _, _, _, _, _, by simp [hl], by simp [hd], rfl⟩
    · push_cast [Bool.false_eq_true, if_false]
      exact rest _ _ _
  · rintro _ h ⟨rfl, ls, ds, s4, s5, s6, s7, hl, hd, rfl⟩
    push_cast [b_law_draws_3]
    exact q ds (by simpa using hd)
end
end Hd

set_option maxRecDepth 100000
set_option maxHeartbeats 4000000
namespace Lw
open PySem L2 VL Wd Tm Tw
local macro_rules
  | `(tactic| push_cast [$xs,*]) => `(tactic| try simp only [$xs,*, WpSs, WpS, WpE, WpEs, WpBs, WpO, WpN, WpI, WpC, WpT, getS, setS, tgK, setsS, wipeS, k_add, k_addT, k_sub, k_mul, k_fdiv, k_mod, k_neg, k_lt, k_le, k_gt, k_ge, k_eqI, k_neI, k_eqS, k_neS, k_eqB, k_neB, k_is, k_isn, isNon_non, isNon_int, isNon_str, isNon_lst, isNon_tup, isNon_adr, k_lenS, k_lenL, k_lenR, k_lenT, k_int, k_str, k_abs, tru_bl, augK, ctx_call, ctx_glob, k_in, k_nin, k_inS, k_addS, k_intB, isi_non_int, isi_non_bool, isi_non_str, isi_non_list, isi_non_tuple, isi_bl_int, isi_bl_bool, isi_bl_str, isi_bl_list, isi_bl_tuple, isi_int_int, isi_int_bool, isi_int_str, isi_int_list, isi_int_tuple, isi_str_int, isi_str_bool, isi_str_str, isi_str_list, isi_str_tuple, isi_tup_int, isi_tup_bool, isi_tup_str, isi_tup_list, isi_tup_tuple, isi_lst_int, isi_lst_bool, isi_lst_str, isi_lst_list, isi_lst_tuple, isi_ro_int, isi_ro_bool, isi_ro_str, isi_ro_list, isi_ro_tuple])
theorem strRep_sp {j : Int} (hj : 0 ≤ j) : strRep (mkS [32]) j = mkS (List.replicate j.toNat 32) := by
  obtain ⟨k, rfl⟩ := Int.eq_ofNat_of_zero_le hj
  have key : ∀ (k : Nat) (a : Array Nat), (List.replicate k (mkS [32]).cps).foldl (· ++ ·) a = a ++ (List.replicate k 32).toArray := by
    intro k
    induction k with
    | zero => intro a; simp
    | succ k ih =>
      intro a
      rw [List.replicate_succ, List.foldl_cons, ih, List.replicate_succ]
      apply Array.toList_inj.mp
      simp [mkS]
  unfold strRep
  rw [Int.toNat_natCast]
  by_cases h1 : (k : Int) < 1
  · have : k = 0 := by omega
    subst this
    rw [if_pos h1]; rfl
  · rw [if_neg h1]
    by_cases h2 : k = 1
    · subst h2; rfl
    · have : ¬ (((k : Int) == 1 || (mkS [32]).length == 0) = true) := by
        rw [mkS_len]
        simp
        omega
      rw [if_neg this, key]
      simp [mkS]

theorem mk_eq : ("<>=!" : Str) = mkS [60, 62, 61, 33] ∧ ("0123456789" : Str) = mkS figures ∧ ("abcdefghijklmnopqrstuvwxyz" : Str) = mkS letters := by decide +kernel
/-- values without cells, no deeper than told -/
def Sm : Nat → AV → Prop
  | 0, .tup _ => False
  | d + 1, .tup xs => xs.length ≤ 100000 ∧ ∀ x ∈ xs, Sm d x
  | _, .bl _ => True
  | _, .int _ => True
  | _, .str _ => True
  | _, .non => True
  | _, _ => False
section
variable {P : Prg} [U P] {n : Nat} {h : AHeap} {Q : AV → AHeap → Prop}
theorem law_letters_ok (q : Q (.str (mkS letters)) h) : callN P (n+1) 21 [] h Q := by
  refine call_of U.f__law_letters rfl ?_
  show WpSs (ctxOf P (callN P n)) b_law_letters _ [] h
  push_cast [b_law_letters, letters_eq]
  exact q
/-- the law's own list of reserved words -/

theorem k_subM {Q : KA} {w : W} (hn : w ≠ []) (hz : w.length ≤ sizeLine) (q : Q (.str ⟨#[w.getLast?.getD 0]⟩)) : subK h (.str (mkS w)) (.int (-1)) Q := by
  have hl : 0 < w.length := List.length_pos_iff.mpr hn
  have e : atI (mkS w).cps.toList (-1) = some (w.getLast?.getD 0) := by
    have : ixN w.length (-1) = some (w.length - 1) := by
      unfold ixN
      rw [if_neg (by omega), if_pos (by omega)]
      congr 1
      omega
    unfold atI
    rw [mkS_list, this, List.getLast?_eq_getElem?]
    show w[w.length - 1]? = _
    rw [List.getElem?_eq_getElem (by omega)]; rfl
  refine ⟨by rw [mkS_len]; exact hz, ?_⟩
  rw [e]
  exact q
theorem k_subF {Q : KA} {w : W} (hn : w ≠ []) (hz : w.length ≤ sizeLine) (q : Q (.str ⟨#[w.head?.getD 0]⟩)) : subK h (.str (mkS w)) (.int 0) Q := by
  cases w with
  | nil => exact absurd rfl hn
  | cons c r => exact k_subS (k := 0) (by rw [mkS_len]; exact hz) rfl q
theorem joins_ok {a b : W} (ha : a ≠ []) (hb : b ≠ []) (la : a.length ≤ sizeLine) (lb : b.length ≤ sizeLine) (q : ∀ r : Bool, (r = false → ¬ Ext a (b.head?.getD 0)) → Q (.bl r) h) : callN P (n+2) 23 [.str (mkS a), .str (mkS b)] h Q := by
  refine call_of U.f__law_joins rfl ?_
  show WpSs (ctxOf P (callN P (n+1))) b_law_joins _ [.val (.str (mkS a)), .val (.str (mkS b))] h
  have last : ¬ (a.getLast?.getD 0 ∈ letters ∧ b.head?.getD 0 ∈ letters) → ¬ (a.getLast?.getD 0 ∈ figures ∧ b.head?.getD 0 ∈ figures) → WpSs (ctxOf P (callN P (n+1))) b_law_joins_1 { nx := fun _ h => Q .non h, rt := Q } [.val (.str (mkS a)), .val (.str (mkS b))] h := by
    intro n1 n2
    push_cast [b_law_joins_1, k_neg]
    refine k_subM ha la ?_
    push_cast [mk_eq, mkS_list, Bool.false_eq_true, if_false]
    by_cases c : a.getLast?.getD 0 ∈ [60, 62, 61, 33]
    · simp only [c, decide_true]
      refine k_subF hb lb ?_
      push_cast [mk_eq, mkS_list, Bool.false_eq_true, if_false]
      refine q _ fun hr z => ?_
      rcases z with z | z | z
      · exact n1 z
      · exact n2 z
      · exact of_decide_eq_false hr z.2
    · simp only [c, decide_false]
      refine q _ fun _ z => ?_
      rcases z with z | z | z
      · exact n1 z
      · exact n2 z
      · exact c z.1
  have mid : ¬ (a.getLast?.getD 0 ∈ letters ∧ b.head?.getD 0 ∈ letters) → WpSs (ctxOf P (callN P (n+1))) b_law_joins_2 { nx := fun _ h => Q .non h, rt := Q } [.val (.str (mkS a)), .val (.str (mkS b))] h := by
    intro n1
    push_cast [b_law_joins_2, k_neg]
    refine k_subM ha la ?_
    push_cast [mk_eq, mkS_list, Bool.false_eq_true, if_false]
    refine ite_b (fun c => ?_) (fun c => last n1 fun z => c z.1)
    refine k_subF hb lb ?_
    push_cast [mk_eq, mkS_list, Bool.false_eq_true, if_false]
    refine ite_b (fun c2 => ?_) (fun c2 => last n1 fun z => c2 z.2)
    exact q true fun z => by cases z
  push_cast [b_law_joins, k_neg]
  refine k_subM ha la ?_
  refine law_letters_ok ?_
  push_cast [mkS_list, Bool.false_eq_true, if_false]
  refine ite_b (fun c => ?_) (fun c => mid fun z => c z.1)
  refine k_subF hb lb ?_
  refine law_letters_ok ?_
  push_cast [mkS_list, Bool.false_eq_true, if_false]
  refine ite_b (fun c2 => ?_) (fun c2 => mid fun z => c2 z.2)
  exact q true fun z => by cases z
theorem list_text_ok {w : W} {o : Bool} (b : w.length ≤ 1000) (q : Q (.str (mkS (lT w o))) h) : callN P (n+1) 22 [.tup [.str (mkS w), .bl o]] h Q := by
  refine call_of U.f__law_list_text rfl ?_
  show WpSs (ctxOf P (callN P n)) b_law_list_text _ [.val (.tup [.str (mkS w), .bl o])] h
  push_cast [b_law_list_text, tlits]
  refine ⟨by show 2 ≤ sizeLine; decide, ?_⟩
  refine k_t1 ?_
  push_cast [WpSs]
  cases o with
  | true =>
    refine k_subL (d := .str (mkS [111, 108, 100, 32])) viewT_lst (fun _ h => by cases h) rfl ?_
    refine k_t0 ?_
    push_cast [mkS_len, mkS_app]
    exact ⟨szN (by simp; omega), q⟩
  | false =>
    refine k_subL (d := .str (mkS [])) viewT_lst (fun _ h => by cases h) rfl ?_
    refine k_t0 ?_
    push_cast [mkS_len, mkS_app]
    exact ⟨szN (by simp; omega), q⟩
theorem same_ok : ∀ (d : Nat) (x : AV), Sm d x → ∀ {n : Nat} {h : AHeap} {Q : AV → AHeap → Prop}, Q (.bl true) h → callN P (n+d+1) 24 [x, x] h Q := by
  intro d
  induction d with
  | zero =>
    intro x hx n h Q q
    refine call_of U.f__law_same rfl ?_
    show WpSs (ctxOf P (callN P (n+0))) b_law_same _ [.val x, .val x, .no] h
    cases x with
    | tup xs => exact hx.elim
    | bl b =>
      push_cast [b_law_same, b_law_same_7, Bool.false_eq_true, if_false, if_true, decide_true]
      exact q
    | int i =>
      push_cast [b_law_same, b_law_same_7, b_law_same_6, b_law_same_5, b_law_same_4, Bool.false_eq_true, if_false, if_true, decide_true, Bool.not_false]
      exact q
    | str s =>
      push_cast [b_law_same, b_law_same_7, b_law_same_6, Bool.false_eq_true, if_false, if_true, decide_true]
      exact q
    | non =>
      push_cast [b_law_same, b_law_same_7, b_law_same_6, b_law_same_5, Bool.false_eq_true, if_false, if_true, decide_true]
      exact q
    | lst _ => exact hx.elim
    | ro _ => exact hx.elim
    | dct _ => exact hx.elim
    | adr _ => exact hx.elim
  | succ d ih =>
    intro x hx n h Q q
    refine call_of U.f__law_same rfl ?_
    show WpSs (ctxOf P (callN P (n+(d+1)))) b_law_same _ [.val x, .val x, .no] h
    cases x with
    | tup xs =>
      obtain ⟨hl, hx⟩ := hx
      push_cast [b_law_same, Bool.not_true, Bool.false_eq_true, if_false, if_true, decide_true, b_law_same_3, Int.toNat_natCast]
      refine ⟨⟨by omega, by omega⟩, ?_⟩
      refine for_inv (fun k ρ h' => h' = h ∧ ∃ s, ρ = [.val (.tup xs), .val (.tup xs), s]) ⟨rfl, _, rfl⟩ (fun _ _ _ _ _ => by trivial) ?_ ?_
      · rintro k x _ h D' hk0 ⟨rfl, s, rfl⟩ kn kc kr kb
        obtain ⟨hk, rfl⟩ := items_range hk0
        push_cast [b_law_same_1]
        refine k_t4 (k := k) (List.getElem?_eq_getElem hk) ?_
        refine k_t4 (k := k) (List.getElem?_eq_getElem hk) ?_
        have e : n + (d + 1) = n + d + 1 := by omega
        rw [e]
        refine ih _ (hx _ (List.getElem_mem hk)) ?_
        push_cast [Bool.not_true, Bool.false_eq_true, if_false]
        exact kn _ _ ⟨rfl, _, rfl⟩
      · rintro _ h ⟨rfl, s, rfl⟩
        push_cast [b_law_same_2]
        exact q
    | bl b =>
      push_cast [b_law_same, b_law_same_7, Bool.false_eq_true, if_false, if_true, decide_true]
      exact q
    | int i =>
      push_cast [b_law_same, b_law_same_7, b_law_same_6, b_law_same_5, b_law_same_4, Bool.false_eq_true, if_false, if_true, decide_true, Bool.not_false]
      exact q
    | str s =>
      push_cast [b_law_same, b_law_same_7, b_law_same_6, Bool.false_eq_true, if_false, if_true, decide_true]
      exact q
    | non =>
      push_cast [b_law_same, b_law_same_7, b_law_same_6, b_law_same_5, Bool.false_eq_true, if_false, if_true, decide_true]
      exact q
    | lst _ => exact hx.elim
    | ro _ => exact hx.elim
    | dct _ => exact hx.elim
    | adr _ => exact hx.elim
end
end Lw

set_option maxRecDepth 100000
set_option maxHeartbeats 4000000
namespace Lr
open PySem L2 VL Wd Tm Tw Lw
local macro_rules
  | `(tactic| push_cast [$xs,*]) => `(tactic| try simp only [$xs,*, WpSs, WpS, WpE, WpEs, WpBs, WpO, WpN, WpI, WpC, WpT, getS, setS, tgK, setsS, wipeS, k_add, k_addT, k_sub, k_mul, k_fdiv, k_mod, k_neg, k_lt, k_le, k_gt, k_ge, k_eqI, k_neI, k_eqS, k_neS, k_eqB, k_neB, k_is, k_isn, isNon_non, isNon_int, isNon_str, isNon_lst, isNon_tup, isNon_adr, k_lenS, k_lenL, k_lenR, k_lenT, k_int, k_str, k_abs, tru_bl, augK, ctx_call, ctx_glob, k_in, k_nin, k_inS, k_addS, k_intB, isi_non_int, isi_non_bool, isi_non_str, isi_non_list, isi_non_tuple, isi_bl_int, isi_bl_bool, isi_bl_str, isi_bl_list, isi_bl_tuple, isi_int_int, isi_int_bool, isi_int_str, isi_int_list, isi_int_tuple, isi_str_int, isi_str_bool, isi_str_str, isi_str_list, isi_str_tuple, isi_tup_int, isi_tup_bool, isi_tup_str, isi_tup_list, isi_tup_tuple, isi_lst_int, isi_lst_bool, isi_lst_str, isi_lst_list, isi_lst_tuple, isi_ro_int, isi_ro_bool, isi_ro_str, isi_ro_list, isi_ro_tuple])
def RL : List (List Nat) := (["proc", "list", "needs", "gives", "keeps", "falls", "from", "to", "let", "while", "if", "else", "end", "choose", "check", "call", "swap", "return", "skip", "or", "and", "not", "all", "sorted", "below", "either", "len", "old", "moves", "result"] : List Str).map (·.cps.toList)
theorem RL_eq : (["proc", "list", "needs", "gives", "keeps", "falls", "from", "to", "let", "while", "if", "else", "end", "choose", "check", "call", "swap", "return", "skip", "or", "and", "not", "all", "sorted", "below", "either", "len", "old", "moves", "result"] : List Str) = RL.map mkS := by decide +kernel
theorem RL_mem (w : List Nat) : w ∈ RL ↔ w ∈ RS0 := by
  have h1 : ∀ w ∈ RL, w ∈ RS0 := by decide +kernel
  have h2 : ∀ w ∈ RS0, w ∈ RL := by decide +kernel
  exact ⟨h1 w, h2 w⟩
theorem items_chars {l : List Nat} {i : Nat} {x : AV} (h : ((mkS l).cps.toList.map fun c => AV.str ⟨#[c]⟩)[i]? = some x) : ∃ c, l[i]? = some c ∧ x = .str ⟨#[c]⟩ := items_map h
section
variable {P : Prg} [Lw.U P] [U P] {n : Nat} {h : AHeap} {Q : AV → AHeap → Prop}
theorem law_reserved_ok {n : Nat} {h Q} (q : Q (.lst (wl RL)) h) : callN P (n+1) 25 [] h Q := by
  refine call_of U.f__law_reserved rfl ?_
  show WpSs (ctxOf P (callN P n)) b_law_reserved _ [.no] h
  push_cast [b_law_reserved, viewW_lst]
  refine ⟨by decide, by decide, by decide, by decide, by decide, ?_⟩
  have e : wl RL = (RL.map mkS).map AV.str := (List.map_map ..).symm
  rw [← RL_eq] at e
  rw [e] at q
  exact q
theorem law_is_name_ok {n : Nat} {w : List Nat} {h Q} (hz : w.length ≤ sizeLine) (q : Q (.bl (nameOk w)) h) : callN P (n+2) 26 [.str (mkS w)] h Q := by
  refine call_of U.f__law_is_name rfl ?_
  show WpSs (ctxOf P (callN P (n+1))) b_law_is_name _ [.val (.str (mkS w)), .no] h
  push_cast [b_law_is_name, mkS_len]
  refine ⟨hz, ?_⟩
  refine ite_b (fun c => ?_) (fun c => ?_)
  · have : nameOk w = false := by
      have : ¬ 1 ≤ w.length := by omega
      simp [nameOk, this]
    push_cast [if_true]
    rw [this] at q
    exact q
  refine ⟨hz, ?_⟩
  refine ite_b (fun c2 => ?_) (fun c2 => ?_)
  · have : nameOk w = false := by
      have : ¬ w.length ≤ 12 := by omega
      simp [nameOk, this]
    push_cast [if_true]
    rw [this] at q
    exact q
  refine law_reserved_ok ?_
  refine in_wl rfl (fun _ h => by cases h) ?_
  push_cast [Bool.false_eq_true, if_false]
  refine ite_b (fun c3 => ?_) (fun c3 => ?_)
  · have : nameOk w = false := by
      have := (RL_mem w).mp c3
      simp [nameOk, this]
    rw [this] at q
    exact q
  push_cast [b_law_is_name_3]
  have h1 : w ∉ RS0 := fun k => c3 ((RL_mem w).mpr k)
  refine for_inv (fun k ρ h' => h' = h ∧ (∃ s, ρ = [.val (.str (mkS w)), s]) ∧ ∀ c ∈ w.take k, c ∈ letters) ⟨rfl, ⟨_, rfl⟩, by simp⟩ (fun _ _ _ _ _ => by trivial) ?_ ?_
  · rintro k x _ h D' hx ⟨rfl, ⟨s, rfl⟩, e⟩ kn kc kr kb
    obtain ⟨c, hc, rfl⟩ := items_chars hx
    push_cast [b_law_is_name_1]
    refine law_letters_ok ?_
    push_cast [mkS_list, if_true]
    by_cases m : c ∈ letters
    · push_cast [m]
      refine kn _ _ ⟨rfl, ⟨_, rfl⟩, ?_⟩
      intro d hd
      rw [List.take_succ, hc] at hd
      rcases List.mem_append.mp hd with hd | hd
      · exact e d hd
      · have : d = c := by simpa using hd
        rw [this]; exact m
    · push_cast [m]
      refine kr _ _ ?_
      have : nameOk w = false := by
        have hm := List.mem_of_getElem? hc
        refine decide_eq_false fun k => m (k.2.2.2 c hm)
      rw [this] at q
      exact q
  · rintro _ h ⟨rfl, ⟨s, rfl⟩, e⟩
    push_cast [b_law_is_name_2]
    have : nameOk w = true := by
      refine decide_eq_true ⟨h1, by omega, by omega, ?_⟩
      rw [List.length_map, mkS_list, List.take_length] at e
      exact e
    rw [this] at q
    exact q
theorem law_is_number_ok {n : Nat} {w : List Nat} {h Q} (hz : w.length ≤ sizeLine) (q : Q (.bl (numOk w)) h) : callN P (n+2) 27 [.str (mkS w)] h Q := by
  refine call_of U.f__law_is_number rfl ?_
  show WpSs (ctxOf P (callN P (n+1))) b_law_is_number _ [.val (.str (mkS w)), .no] h
  have fin : 1 ≤ w.length → w.length ≤ 10 → ¬ (w[0]? = some 48 ∧ 1 < w.length) → WpSs (ctxOf P (callN P (n+1))) b_law_is_number_3 { nx := fun x h => Q .non h, rt := Q } [.val (.str (mkS w)), .no] h := by
    intro h1 h2 h3
    push_cast [b_law_is_number_3]
    refine for_inv (fun k ρ h' => h' = h ∧ (∃ s, ρ = [.val (.str (mkS w)), s]) ∧ ∀ c ∈ w.take k, c ∈ figures) ⟨rfl, ⟨_, rfl⟩, by simp⟩ (fun _ _ _ _ _ => by trivial) ?_ ?_
    · rintro k x _ h D' hx ⟨rfl, ⟨s, rfl⟩, e⟩ kn kc kr kb
      obtain ⟨c, hc, rfl⟩ := items_chars hx
      push_cast [b_law_is_number_1, figures_eq, mkS_list, if_true]
      by_cases m : c ∈ figures
      · push_cast [m]
        refine kn _ _ ⟨rfl, ⟨_, rfl⟩, ?_⟩
        intro d hd
        rw [List.take_succ, hc] at hd
        rcases List.mem_append.mp hd with hd | hd
        · exact e d hd
        · have : d = c := by simpa using hd
          rw [this]; exact m
      · push_cast [m]
        refine kr _ _ ?_
        have : numOk w = false := by
          have hm := List.mem_of_getElem? hc
          refine decide_eq_false fun k => m (k.2.2.2 c hm)
        rw [this] at q
        exact q
    · rintro _ h ⟨rfl, ⟨s, rfl⟩, e⟩
      push_cast [b_law_is_number_2]
      have : numOk w = true := by
        refine decide_eq_true ⟨h1, h2, h3, ?_⟩
        rw [List.length_map, mkS_list, List.take_length] at e
        exact e
      rw [this] at q
      exact q
  push_cast [b_law_is_number, mkS_len]
  refine ⟨hz, ?_⟩
  refine ite_b (fun c => ?_) (fun c => ?_)
  · have : numOk w = false := by
      have : ¬ 1 ≤ w.length := by omega
      simp [numOk, this]
    push_cast [if_true]
    rw [this] at q
    exact q
  refine ⟨hz, ?_⟩
  refine ite_b (fun c2 => ?_) (fun c2 => ?_)
  · have : numOk w = false := by
      have : ¬ w.length ≤ 10 := by omega
      simp [numOk, this]
    push_cast [if_true]
    rw [this] at q
    exact q
  refine ⟨hz, ?_⟩
  refine ite_b (fun c3 => ?_) (fun c3 => ?_)
  · have hw : (0 : Nat) < w.length := by omega
    have g0 : w[0]? = some w[0] := List.getElem?_eq_getElem hw
    refine k_subS (by rw [mkS_len]; exact hz) (k := 0) (c := w[0]) g0 ?_
    have z2 : (⟨#[w[0]]⟩ : Str) = mkS [w[0]] := rfl
    push_cast [z2, zero_eq, mkS_eq]
    refine ite_b (fun c4 => ?_) (fun c4 => ?_)
    · have : numOk w = false := by
        have c5 : 1 < w.length := by omega
        have c6 : w[0] = 48 := by simpa using c4
        simp [numOk, g0, c5, c6]
      rw [this] at q
      exact q
    · refine fin (by omega) (by omega) ?_
      rw [g0]
      rintro ⟨k, _⟩
      exact c4 (by have := Option.some.inj k; simp [this])
  · push_cast [Bool.false_eq_true, if_false]
    exact fin (by omega) (by omega) (by rintro ⟨_, k⟩; omega)
end
end Lr

set_option maxRecDepth 100000
set_option maxHeartbeats 4000000
namespace Lr
open PySem L2 VL Wd Tm Tw Lw
local macro_rules
  | `(tactic| push_cast [$xs,*]) => `(tactic| try simp only [$xs,*, WpSs, WpS, WpE, WpEs, WpBs, WpO, WpN, WpI, WpC, WpT, getS, setS, tgK, setsS, wipeS, k_add, k_addT, k_sub, k_mul, k_fdiv, k_mod, k_neg, k_lt, k_le, k_gt, k_ge, k_eqI, k_neI, k_eqS, k_neS, k_eqB, k_neB, k_is, k_isn, isNon_non, isNon_int, isNon_str, isNon_lst, isNon_tup, isNon_adr, k_lenS, k_lenL, k_lenR, k_lenT, k_int, k_str, k_abs, tru_bl, augK, ctx_call, ctx_glob, k_in, k_nin, k_inS, k_addS, k_intB, isi_non_int, isi_non_bool, isi_non_str, isi_non_list, isi_non_tuple, isi_bl_int, isi_bl_bool, isi_bl_str, isi_bl_list, isi_bl_tuple, isi_int_int, isi_int_bool, isi_int_str, isi_int_list, isi_int_tuple, isi_str_int, isi_str_bool, isi_str_str, isi_str_list, isi_str_tuple, isi_tup_int, isi_tup_bool, isi_tup_str, isi_tup_list, isi_tup_tuple, isi_lst_int, isi_lst_bool, isi_lst_str, isi_lst_list, isi_lst_tuple, isi_ro_int, isi_ro_bool, isi_ro_str, isi_ro_list, isi_ro_tuple])
def qI : Option (Int × Nat) → AV
  | none => .non
  | some (n, j) => .lst [.int n, .int (j : Int)]
def qP : Option (Pl × Nat) → AV
  | none => .non
  | some (n, j) => .lst [n.av, .int (j : Int)]
def qL : Option ((W × Bool) × Nat) → AV
  | none => .non
  | some (n, j) => .lst [.tup [.str (mkS n.1), .bl n.2], .int (j : Int)]
def qT : Option (Te × Nat) → AV
  | none => .non
  | some (n, j) => .lst [n.av, .int (j : Int)]
section
variable {P : Prg} [Lw.U P] [U P] {n : Nat} {x : AV} {ws : List W} {i : Nat} {h : AHeap} {Q : AV → AHeap → Prop}
theorem word_ok (r : Rd h x ws) (q : Q (.str (mkS (wa ws i))) h) : callN P (n+1) 29 [x, .int (i : Int)] h Q := by
  refine call_of U.f__law_word rfl ?_
  show WpSs (ctxOf P (callN P n)) b_law_word _ [.val x, .val (.int (i : Int))] h
  push_cast [b_law_word]
  refine k_lenW r ?_
  push_cast [WpSs]
  refine ite_b (fun c => k_subW r (by omega) q) (fun c => ?_)
  push_cast [b_law_word_1, lits.2.2.2.2.2.2.2]
  have : wa ws i = [] := by unfold wa; rw [List.getElem?_eq_none (by omega)]; rfl
  rw [this] at q
  exact q
theorem k_l0 {a b : AV} {Q : KA} (q : Q a) : subK h (.lst [a, b]) (.int 0) Q := k_subL (xs := [a, b]) rfl (fun _ h => by cases h) rfl q
theorem k_l1 {a b : AV} {Q : KA} (q : Q b) : subK h (.lst [a, b]) (.int 1) Q := k_subL (xs := [a, b]) rfl (fun _ h => by cases h) rfl q
theorem list_words_ok {w : W} {o : Bool} (q : Q (.lst (wl (lW w o))) h) : callN P (n+1) 28 [.tup [.str (mkS w), .bl o]] h Q := by
  refine call_of U.f__law_list_words rfl ?_
  show WpSs (ctxOf P (callN P n)) b_law_list_words _ [.val (.tup [.str (mkS w), .bl o])] h
  push_cast [b_law_list_words, lits]
  refine k_t1 ?_
  cases o with
  | true =>
    push_cast [if_true]
    refine k_t0 ?_
    exact ⟨le2, q⟩
  | false =>
    push_cast [Bool.false_eq_true, if_false, b_law_list_words_1]
    refine k_t0 ?_
    exact ⟨by show 1 ≤ sizeLine; decide, q⟩
theorem read_plus_ok (r : Rd h x ws) (q : Q (qI (plusAt ws i)) h) : callN P (n+3) 30 [x, .int (i : Int)] h Q := by
  refine call_of U.f__law_read_plus rfl ?_
  show WpSs (ctxOf P (callN P (n+2))) b_law_read_plus _ [.val x, .val (.int (i : Int))] h
  push_cast [b_law_read_plus, lits, i1]
  refine word_ok r ?_
  refine ⟨le2, ?_⟩
  refine in2 rfl (fun _ h => by cases h) ?_
  push_cast [Bool.false_eq_true, if_false]
  unfold plusAt at q
  by_cases c : wa ws i ∈ [sgP, sgM]
  · rw [if_neg (not_not_intro c)] at q
    push_cast [c, decide_true, if_true, i1]
    refine word_ok r ?_
    refine law_is_number_ok (wa_z r.b _) ?_
    push_cast [WpSs]
    by_cases c2 : numOk (wa ws (i + 1)) = true
    · rw [if_pos c2] at q
      push_cast [c2, Bool.not_true, Bool.false_eq_true, if_false, b_law_read_plus_1, lits, i1]
      have i1l := num_in c2
      have l10 := num_l c2
      refine k_subW r (by omega) ?_
      refine k_subW r i1l ?_
      push_cast [mkS_len, mkS_app]
      have c' : wa ws i = sgP ∨ wa ws i = sgM := by simpa using c
      rcases c' with c' | c'
      · rw [if_pos c'] at q
        rw [c']
        refine ⟨szN (by simp [sgP]; omega), ?_⟩
        refine k_intS (num_pos c2) (by rw [mkS_len]; simp [sgP]; omega) ?_
        push_cast [i2]
        exact ⟨le2, q⟩
      · rw [if_neg (by rw [c']; decide)] at q
        rw [c']
        refine ⟨szN (by simp [sgM]; omega), ?_⟩
        refine k_intS (num_neg c2) (by rw [mkS_len]; simp [sgM]; omega) ?_
        push_cast [i2]
        exact ⟨le2, q⟩
    · rw [if_neg c2] at q
      push_cast [c2, Bool.not_false, if_true]
      exact q
  · rw [if_pos c] at q
    push_cast [c, decide_false, Bool.false_eq_true, if_false, b_law_read_plus_2]
    exact ⟨le2, q⟩
theorem read_plain_ok (r : Rd h x ws) (q : Q (qP (plainAt ws i)) h) : callN P (n+4) 31 [x, .int (i : Int)] h Q := by
  refine call_of U.f__law_read_plain rfl ?_
  show WpSs (ctxOf P (callN P (n+3))) b_law_read_plain _ [.val x, .val (.int (i : Int)), .no, .no, .no] h
  push_cast [b_law_read_plain, lits]
  refine word_ok r ?_
  refine law_is_number_ok (wa_z r.b _) ?_
  push_cast [WpSs]
  -- a name, by its kind
  have named : ∀ (k : Bool) (j : Nat), Q (qP (namedAt k ws j)) h → WpSs (ctxOf P (callN P (n+3))) b_law_read_plain_3 { nx := fun _ h => Q .non h, rt := Q } [.val x, .val (.int (j : Int)), .val (.str (mkS (kS k))), .no, .no] h := by
    intro k j q
    push_cast [b_law_read_plain_3, lits]
    refine word_ok r ?_
    refine law_is_name_ok (wa_z r.b _) ?_
    unfold namedAt at q
    have fin : (nameOk (wa ws j) = true ∨ (k = false ∧ wa ws j = wRes)) → WpSs (ctxOf P (callN P (n+3))) b_law_read_plain_2 { nx := fun _ h => Q .non h, rt := Q } [.val x, .val (.int (j : Int)), .val (.str (mkS (kS k))), .val (.str (mkS (wa ws j))), .no] h := by
      intro z
      push_cast [b_law_read_plain_2, i1]
      refine read_plus_ok r ?_
      cases e : plusAt ws (j + 1) with
      | none =>
        rw [e] at q
        push_cast [qI, if_true]
        exact q
      | some pj =>
        obtain ⟨p, m⟩ := pj
        rw [e] at q
        have q : Q (qP (if nameOk (wa ws j) = true ∨ (k = false ∧ wa ws j = wRes) then some (mkN k (wa ws j) p, m) else none)) h := q
        rw [if_pos z] at q
        push_cast [qI, Bool.false_eq_true, if_false, b_law_read_plain_1]
        refine k_l0 ⟨le3, ?_⟩
        refine k_l1 ⟨le2, ?_⟩
        have q : Q (.lst [(mkN k (wa ws j) p).av, .int (m : Int)]) h := q
        rw [mkN_av] at q
        exact q
    have bad : ¬ (nameOk (wa ws j) = true ∨ (k = false ∧ wa ws j = wRes)) → Q .non h := by
      intro z
      cases e : plusAt ws (j + 1) with
      | none => rw [e] at q; exact q
      | some pj =>
        obtain ⟨p, m⟩ := pj
        rw [e] at q
        have q : Q (qP (if nameOk (wa ws j) = true ∨ (k = false ∧ wa ws j = wRes) then some (mkN k (wa ws j) p, m) else none)) h := q
        rw [if_neg z] at q
        exact q
    push_cast [mkS_eq, kS_len]
    by_cases c : nameOk (wa ws j) = true
    · simp only [c, Bool.not_true, Bool.false_eq_true, if_false]
      exact fin (.inl c)
    · simp only [c, Bool.not_false, if_true]
      cases k with
      | true =>
        push_cast [if_true]
        exact bad (by rintro (z | ⟨z, _⟩); exact c z; cases z)
      | false =>
        push_cast [Bool.false_eq_true, if_false, mkS_eq]
        by_cases c2 : wa ws j = wRes
        · have d : decide (wa ws j = wRes) = true := decide_eq_true c2
          simp only [d, Bool.not_true, Bool.false_eq_true, if_false]
          exact fin (.inr ⟨rfl, c2⟩)
        · have d : decide (wa ws j = wRes) = false := decide_eq_false c2
          push_cast [d, Bool.not_false, if_true]
          exact bad (by rintro (z | ⟨_, z⟩); exact c z; exact c2 z)
  unfold plainAt signedAt at q
  by_cases c : numOk (wa ws i) = true
  · rw [if_pos c] at q
    push_cast [c, if_true]
    refine k_subW r (num_in c) ?_
    refine k_intW c ?_
    rw [i1]
    exact ⟨le2, le2, q⟩
  · rw [if_neg c] at q
    push_cast [c, Bool.false_eq_true, if_false, b_law_read_plain_5, lits, i1]
    refine word_ok r ?_
    push_cast [mkS_eq]
    have rest : ¬ (wa ws i = sgM ∧ numOk (wa ws (i + 1)) = true) → WpSs (ctxOf P (callN P (n+3))) b_law_read_plain_4 { nx := fun _ h => Q .non h, rt := Q } [.val x, .val (.int (i : Int)), .no, .no, .no] h := by
      intro z
      rw [if_neg z] at q
      have q : Q (qP (if wa ws i = wLen then namedAt true ws (i + 1) else namedAt false ws i)) h := q
      have ew : ("len" : Str) = mkS wLen := lits.2.2.2.2.1
      push_cast [b_law_read_plain_4, ew, kS_eq.2, i1]
      refine word_ok r ?_
      push_cast [mkS_eq]
      refine ite_b (fun c => ?_) (fun c => ?_)
      · rw [if_pos c] at q
        exact named true (i + 1) q
      · rw [if_neg c] at q
        exact named false i q
    refine ite_b (fun c1 => ?_) (fun c1 => rest fun z => c1 z.1)
    refine word_ok r ?_
    refine law_is_number_ok (wa_z r.b _) ?_
    push_cast [WpSs]
    by_cases c2 : numOk (wa ws (i + 1)) = true
    · rw [if_pos ⟨c1, c2⟩] at q
      push_cast [c2, if_true]
      refine k_subW r (num_in c2) ?_
      refine k_intW c2 ?_
      push_cast [i2]
      exact ⟨le2, le2, q⟩
    · simp only [c2, Bool.false_eq_true, if_false]
      exact rest fun z => c2 z.2
theorem read_list_ok (r : Rd h x ws) (q : Q (qL (listAt ws i)) h) : callN P (n+3) 32 [x, .int (i : Int)] h Q := by
  refine call_of U.f__law_read_list rfl ?_
  show WpSs (ctxOf P (callN P (n+2))) b_law_read_list _ [.val x, .val (.int (i : Int)), .no] h
  push_cast [b_law_read_list, lits]
  refine word_ok r ?_
  push_cast [mkS_eq]
  unfold listAt at q
  by_cases c : wa ws i = wOld
  · have d : decide (wa ws i = wOld) = true := decide_eq_true c
    push_cast [d, if_true, i1]
    refine word_ok r ?_
    refine law_is_name_ok (wa_z r.b _) ?_
    push_cast [WpSs]
    by_cases c2 : nameOk (wa ws (i + 1)) = true
    · rw [if_pos ⟨c, c2⟩] at q
      push_cast [c2, Bool.not_true, Bool.false_eq_true, if_false, b_law_read_list_1]
      refine k_subW r (name_in c2) ?_
      have d2 : decide ((i : Int) < ((i + 1 : Nat) : Int)) = true := decide_eq_true (by omega)
      push_cast [d2, i1]
      exact ⟨le2, le2, q⟩
    · have no : ¬ nameOk (wa ws i) = true := by rw [c, res_facts.2.2.1]; decide
      rw [if_neg (fun z => c2 z.2), if_neg no] at q
      push_cast [c2, Bool.not_false, if_true]
      exact q
  · have d : decide (wa ws i = wOld) = false := decide_eq_false c
    rw [if_neg (fun z => c z.1)] at q
    have e0 : (i : Int) + (if False then 1 else 0) = (i : Int) := by simp
    push_cast [d, Bool.false_eq_true, if_false, Int.add_zero]
    refine word_ok r ?_
    refine law_is_name_ok (wa_z r.b _) ?_
    push_cast [WpSs]
    by_cases c2 : nameOk (wa ws i) = true
    · rw [if_pos c2] at q
      push_cast [c2, Bool.not_true, Bool.false_eq_true, if_false, b_law_read_list_1]
      refine k_subW r (name_in c2) ?_
      have d2 : decide ((i : Int) < (i : Int)) = false := decide_eq_false (by omega)
      push_cast [d2, i1]
      exact ⟨le2, le2, q⟩
    · rw [if_neg c2] at q
      push_cast [c2, Bool.not_false, if_true]
      exact q
end
end Lr

set_option maxRecDepth 100000
set_option maxHeartbeats 4000000
namespace Ln
open PySem L2 VL Wd Tm Tw Lw Lr Hd
local macro_rules
  | `(tactic| push_cast [$xs,*]) => `(tactic| try simp only [$xs,*, WpSs, WpS, WpE, WpEs, WpBs, WpO, WpN, WpI, WpC, WpT, getS, setS, tgK, setsS, wipeS, k_add, k_addT, k_sub, k_mul, k_fdiv, k_mod, k_neg, k_lt, k_le, k_gt, k_ge, k_eqI, k_neI, k_eqS, k_neS, k_eqB, k_neB, k_is, k_isn, isNon_non, isNon_int, isNon_str, isNon_lst, isNon_tup, isNon_adr, k_lenS, k_lenL, k_lenR, k_lenT, k_int, k_str, k_abs, tru_bl, augK, ctx_call, ctx_glob, k_in, k_nin, k_inS, k_addS, k_intB, isi_non_int, isi_non_bool, isi_non_str, isi_non_list, isi_non_tuple, isi_bl_int, isi_bl_bool, isi_bl_str, isi_bl_list, isi_bl_tuple, isi_int_int, isi_int_bool, isi_int_str, isi_int_list, isi_int_tuple, isi_str_int, isi_str_bool, isi_str_str, isi_str_list, isi_str_tuple, isi_tup_int, isi_tup_bool, isi_tup_str, isi_tup_list, isi_tup_tuple, isi_lst_int, isi_lst_bool, isi_lst_str, isi_lst_list, isi_lst_tuple, isi_ro_int, isi_ro_bool, isi_ro_str, isi_ro_list, isi_ro_tuple])
section
variable {P : Prg} [Hd.U P] [Lw.U P] [U P] {n a : Nat} {h : AHeap} {Q : AV → AHeap → Prop}
theorem k_pick {xs : List Int} {r : Nat} {h : AHeap} {Q : KA} (hr : r < xs.length) (q : ∀ v ∈ xs, Q (.int v)) : subK h (.lst (xs.map AV.int)) (.int (r : Int)) Q :=
  k_subL viewT_lst (fun _ h => by cases h) (d := .int xs[r]) (by rw [atI_nat (by simpa using hr)]; simp [hr]) (q _ (List.getElem_mem hr))
theorem wide_ok {m : Int} (hd : Hnd a h) (hm : 0 < m) (q : ∀ (r : Nat) h', Hx a h h' → (r : Int) < m → Q (.int (r : Int)) h') : callN P (n+2) 33 [.adr a, .int m] h Q := by
  refine call_of U.f__law_wide rfl ?_
  show WpSs (ctxOf P (callN P (n+1))) b_law_wide _ [.val (.adr a), .val (.int m), .no] h
  push_cast [b_law_wide]
  refine take_ok hd (by decide) fun r1 h1 x1 _ => ?_
  push_cast [WpSs]
  refine ⟨mulA_r (by decide) (by decide), ?_⟩
  refine take_ok x1.hand (by decide) fun r2 h2 x2 _ => ?_
  push_cast [WpSs]
  refine ⟨hm, ?_⟩
  have e1 := Int.emod_nonneg ((r1 : Int) * 100003 + r2) (b := m) (by omega)
  have e2 := Int.emod_lt_of_pos ((r1 : Int) * 100003 + r2) hm
  obtain ⟨r, hr⟩ := Int.eq_ofNat_of_zero_le e1
  rw [hr] at e2 ⊢
  exact q r _ (x1.trans x2) e2
theorem ten10 : (10 : Int) ^ ((10 : Int).toNat) = 10000000000 := by decide
theorem number_ok (hd : Hnd a h) (q : ∀ (m : Nat) h', Hx a h h' → m < 10000000000 → Q (.int (m : Int)) h') : callN P (n+3) 34 [.adr a] h Q := by
  refine call_of U.f__law_number rfl ?_
  show WpSs (ctxOf P (callN P (n+2))) b_law_number _ [.val (.adr a), .no] h
  push_cast [b_law_number]
  refine take_ok hd (by decide) fun k h1 x1 hk => ?_
  push_cast [WpSs]
  refine ite_b (fun _ => ?_) (fun _ => ?_)
  · push_cast [k_pow, ten10]
    refine ⟨⟨by decide, by decide, by decide⟩, ?_⟩
    exact wide_ok x1.hand (by decide) fun r h2 x2 hr => q r _ (x1.trans x2) (by omega)
  push_cast [b_law_number_2]
  refine ite_b (fun _ => ?_) (fun _ => ?_)
  · refine ⟨by show 6 ≤ sizeLine; decide, ?_⟩
    refine take_ok x1.hand (by decide) fun r h2 x2 hr => ?_
    refine k_pick (xs := [0, 1, 9, 10, 999999, 9999999999]) (by simp; omega) fun v hv => ?_
    have hb : 0 ≤ v ∧ v < 10000000000 := by
      have : ∀ v ∈ ([0, 1, 9, 10, 999999, 9999999999] : List Int), 0 ≤ v ∧ v < 10000000000 := by decide
      exact this v hv
    obtain ⟨m, hm⟩ := Int.eq_ofNat_of_zero_le hb.1
    rw [hm]
    exact q m _ (x1.trans x2) (by omega)
  push_cast [b_law_number_1]
  exact take_ok x1.hand (by decide) fun r h2 x2 hr => q r _ (x1.trans x2) (by omega)
theorem plus_ok (hd : Hnd a h) (q : ∀ p h', Hx a h h' → Bd p → Q (.int p) h') : callN P (n+4) 35 [.adr a] h Q := by
  refine call_of U.f__law_plus rfl ?_
  show WpSs (ctxOf P (callN P (n+3))) b_law_plus _ [.val (.adr a)] h
  push_cast [b_law_plus]
  refine number_ok hd fun m h1 x1 hm => ?_
  refine take_ok x1.hand (by decide) fun r h2 x2 hr => ?_
  push_cast [WpSs]
  refine ⟨mulA_r (by omega) (by omega), ?_⟩
  refine q _ _ (x1.trans x2) ?_
  have : r = 0 ∨ r = 1 ∨ r = 2 := by omega
  rcases this with rfl | rfl | rfl
  · exact ⟨by omega, by omega⟩
  · exact ⟨by omega, by omega⟩
  · exact ⟨by omega, by omega⟩
theorem abs_eq {p : Int} (hp : p ≠ 0) : (if p < 0 then -p else p) = (if 0 < p then p else -p) := by
  by_cases c : p < 0
  · rw [if_pos c, if_neg (by omega)]
  · rw [if_neg c, if_pos (by omega)]
theorem plus_text_ok {p : Int} (b : Bd p) (q : Q (.str (mkS (pT p))) h) : callN P (n+1) 36 [.int p] h Q := by
  refine call_of U.f__law_plus_text rfl ?_
  show WpSs (ctxOf P (callN P n)) b_law_plus_text _ [.val (.int p)] h
  push_cast [b_law_plus_text, tlits]
  refine ite_b (fun c => ?_) (fun c => ?_)
  · subst c; exact q
  have lp : ("-" : Str) = mkS sgM ∧ ("+" : Str) = mkS sgP := ⟨lits.2.1, lits.1⟩
  push_cast [b_law_plus_text_1, tlits, lp, mkS_len, mkS_app]
  refine ⟨by show 2 ≤ sizeLine; decide, ?_⟩
  unfold pT at q
  by_cases c1 : 0 < p
  · rw [if_pos c1] at q
    have d : decide (0 < p) = true := decide_eq_true c1
    have e : (if p < 0 then -p else p) = p := if_neg (by omega)
    have := bd_len b
    push_cast [d, e, if_true, dg_str, mkS_len, mkS_app]
    refine k_subL (d := .str (mkS sgP)) viewT_lst (fun _ h => by cases h) rfl ?_
    push_cast [dg_str, mkS_len, mkS_app]
    exact ⟨szN (by simp [sgP]), szN (by simp [sgP]), bd_log b, szN (by simp [sgP]; omega), q⟩
  · rw [if_neg c1, if_pos (by omega)] at q
    have d : decide (0 < p) = false := decide_eq_false c1
    have e : (if p < 0 then -p else p) = -p := if_pos (by omega)
    have := bd_len b.neg
    push_cast [d, e, Bool.false_eq_true, if_false, dg_str, mkS_len, mkS_app]
    refine k_subL (d := .str (mkS sgM)) viewT_lst (fun _ h => by cases h) rfl ?_
    push_cast [dg_str, mkS_len, mkS_app]
    exact ⟨szN (by simp [sgM]), szN (by simp [sgM]), bd_log b.neg, szN (by simp [sgM]; omega), q⟩
theorem text_pl_ok {p : Pl} (b : Pl.Ok p) (q : Q (.str (mkS (plT p))) h) : callN P (n+2) 37 [p.av] h Q := by
  refine call_of U.f__law_text rfl ?_
  show WpSs (ctxOf P (callN P (n+1))) b_law_text _ [.val p.av] h
  cases p with
  | num k =>
    push_cast [Pl.av, b_law_text]
    refine k_t0 ?_
    push_cast [decide_true, if_true]
    refine k_t1 ?_
    push_cast [WpSs]
    exact ⟨bd_log b, q⟩
  | var w p =>
    obtain ⟨b1, b2⟩ := b
    have := ok_len b1
    have := pT_len b2
    push_cast [Pl.av, b_law_text]
    refine k_t30 ?_
    push_cast [kinds_ne, Bool.false_eq_true, if_false, b_law_text_3]
    refine k_t30 ?_
    push_cast [decide_true, if_true]
    refine k_t31 ?_
    refine k_t2 ?_
    refine plus_text_ok b2 ?_
    push_cast [mkS_len, mkS_app]
    exact ⟨szN (by omega), q⟩
  | len w p =>
    obtain ⟨b1, b2⟩ := b
    have := ok_len (.inl b1)
    have := pT_len b2
    push_cast [Pl.av, b_law_text]
    refine k_t30 ?_
    push_cast [kinds_ne, Bool.false_eq_true, if_false, b_law_text_3]
    refine k_t30 ?_
    push_cast [kinds_ne, Bool.false_eq_true, if_false, b_law_text_2]
    refine k_t30 ?_
    push_cast [decide_true, if_true]
    refine k_t31 ?_
    push_cast [tlits, mkS_len, mkS_app]
    refine ⟨szN (by simp; omega), ?_⟩
    refine k_t2 ?_
    refine plus_text_ok b2 ?_
    push_cast [mkS_len, mkS_app]
    exact ⟨szN (by simp; omega), q⟩
theorem text_ok {t : Te} (b : Te.Ok t) (q : Q (.str (mkS (teT t))) h) : callN P (n+3) 37 [t.av] h Q := by
  cases t with
  | pl p => exact text_pl_ok b q
  | cell w o ix p =>
    obtain ⟨b1, b2, b3⟩ := b
    have := lT_len (o := o) b1; have := plT_len b2; have := pT_len b3
    refine call_of U.f__law_text rfl ?_
    show WpSs (ctxOf P (callN P (n+2))) b_law_text _ [.val (Te.av (.cell w o ix p))] h
    push_cast [Te.av, b_law_text]
    refine k_t4 (k := 0) rfl ?_
    push_cast [kinds_ne, Bool.false_eq_true, if_false, b_law_text_3]
    refine k_t4 (k := 0) rfl ?_
    push_cast [kinds_ne, Bool.false_eq_true, if_false, b_law_text_2]
    refine k_t4 (k := 0) rfl ?_
    push_cast [kinds_ne, Bool.false_eq_true, if_false, b_law_text_1]
    refine k_t4 (k := 1) rfl ?_
    refine list_text_ok (by have := ok_len (.inl b1); omega) ?_
    have lo : ("[" : Str) = mkS brO ∧ ("]" : Str) = mkS brC := ⟨lits.2.2.1, lits.2.2.2.1⟩
    push_cast [lo, mkS_len, mkS_app]
    refine ⟨szN (by simp [brO]; omega), ?_⟩
    refine k_t4 (k := 2) rfl ?_
    refine text_pl_ok b2 ?_
    push_cast [mkS_len, mkS_app]
    refine ⟨szN (by simp [brO]; omega), szN (by simp [brO, brC]; omega), ?_⟩
    refine k_t4 (k := 3) rfl ?_
    refine plus_text_ok b3 ?_
    push_cast [mkS_len, mkS_app]
    exact ⟨szN (by simp [brO, brC]; omega), q⟩
end
end Ln

set_option maxRecDepth 100000
set_option maxHeartbeats 4000000
namespace Lt
open PySem L2 VL Wd Tm Tw Lw Lr Hd Ln
local macro_rules
  | `(tactic| push_cast [$xs,*]) => `(tactic| try simp only [$xs,*, WpSs, WpS, WpE, WpEs, WpBs, WpO, WpN, WpI, WpC, WpT, getS, setS, tgK, setsS, wipeS, k_add, k_addT, k_sub, k_mul, k_fdiv, k_mod, k_neg, k_lt, k_le, k_gt, k_ge, k_eqI, k_neI, k_eqS, k_neS, k_eqB, k_neB, k_is, k_isn, isNon_non, isNon_int, isNon_str, isNon_lst, isNon_tup, isNon_adr, k_lenS, k_lenL, k_lenR, k_lenT, k_int, k_str, k_abs, tru_bl, augK, ctx_call, ctx_glob, k_in, k_nin, k_inS, k_addS, k_intB, isi_non_int, isi_non_bool, isi_non_str, isi_non_list, isi_non_tuple, isi_bl_int, isi_bl_bool, isi_bl_str, isi_bl_list, isi_bl_tuple, isi_int_int, isi_int_bool, isi_int_str, isi_int_list, isi_int_tuple, isi_str_int, isi_str_bool, isi_str_str, isi_str_list, isi_str_tuple, isi_tup_int, isi_tup_bool, isi_tup_str, isi_tup_list, isi_tup_tuple, isi_lst_int, isi_lst_bool, isi_lst_str, isi_lst_list, isi_lst_tuple, isi_ro_int, isi_ro_bool, isi_ro_str, isi_ro_list, isi_ro_tuple])
section
variable {P : Prg} [Hd.U P] [Lw.U P] [Lr.U P] [Ln.U P] [U P] {n a : Nat} {h : AHeap} {Q : AV → AHeap → Prop}
theorem plus_words_ok {p : Int} (b : Bd p) (q : Q (.lst (wl (pW p))) h) : callN P (n+1) 38 [.int p] h Q := by
  refine call_of U.f__law_plus_words rfl ?_
  show WpSs (ctxOf P (callN P n)) b_law_plus_words _ [.val (.int p)] h
  push_cast [b_law_plus_words]
  refine ite_b (fun c => ?_) (fun c => ?_)
  · subst c; exact ⟨Nat.zero_le _, q⟩
  have lp : ("-" : Str) = mkS sgM ∧ ("+" : Str) = mkS sgP := ⟨lits.2.1, lits.1⟩
  push_cast [b_law_plus_words_1, lp]
  refine ⟨by show 2 ≤ sizeLine; decide, ?_⟩
  unfold pW at q
  by_cases c1 : 0 < p
  · rw [if_pos c1] at q
    have d : decide (0 < p) = true := decide_eq_true c1
    have e : (if p < 0 then -p else p) = p := if_neg (by omega)
    push_cast [d, e, if_true]
    refine k_subL (d := .str (mkS sgP)) viewT_lst (fun _ h => by cases h) rfl ?_
    exact ⟨bd_log b, le2, q⟩
  · rw [if_neg c1, if_pos (by omega)] at q
    have d : decide (0 < p) = false := decide_eq_false c1
    have e : (if p < 0 then -p else p) = -p := if_pos (by omega)
    push_cast [d, e, Bool.false_eq_true, if_false]
    refine k_subL (d := .str (mkS sgM)) viewT_lst (fun _ h => by cases h) rfl ?_
    exact ⟨bd_log b.neg, le2, q⟩
theorem pW_len (p : Int) : (pW p).length ≤ 2 := by
  unfold pW
  split
  · simp
  · split <;> simp
theorem plW_len (p : Pl) : (plW p).length ≤ 4 := by
  cases p with
  | num n => show (nW n).length ≤ 4; unfold nW; split <;> simp
  | var w p => have := pW_len p; show (w :: pW p).length ≤ 4; simp; omega
  | len w p => have := pW_len p; show (wLen :: w :: pW p).length ≤ 4; simp; omega
theorem words_pl_ok {p : Pl} (b : Pl.Ok p) (q : Q (.lst (wl (plW p))) h) : callN P (n+2) 39 [p.av] h Q := by
  refine call_of U.f__law_words_of rfl ?_
  show WpSs (ctxOf P (callN P (n+1))) b_law_words_of _ [.val p.av] h
  have hz := sz1
  cases p with
  | num k =>
    have b : Bd k := b
    push_cast [Pl.av, b_law_words_of]
    refine k_t0 ?_
    push_cast [decide_true, if_true]
    refine k_t1 ?_
    push_cast [WpSs]
    have q : Q (.lst (wl (nW k))) h := q
    unfold nW at q
    refine ite_b (fun c => ?_) (fun c => ?_)
    · rw [if_pos c] at q
      refine k_t1 ?_
      have lm : ("-" : Str) = mkS sgM := lits.2.1
      push_cast [lm, k_neg]
      exact ⟨bd_log b.neg, le2, q⟩
    · rw [if_neg c] at q
      push_cast [b_law_words_of_1]
      refine k_t1 ?_
      exact ⟨bd_log b, by show 1 ≤ sizeLine; decide, q⟩
  | var w p =>
    obtain ⟨b1, b2⟩ := b
    have := pW_len p
    push_cast [Pl.av, b_law_words_of]
    refine k_t30 ?_
    push_cast [kinds_ne, Bool.false_eq_true, if_false, b_law_words_of_4]
    refine k_t30 ?_
    push_cast [decide_true, if_true]
    refine k_t31 ⟨by show 1 ≤ sizeLine; decide, ?_⟩
    refine k_t2 ?_
    refine plus_words_ok b2 ?_
    push_cast [viewW_lst, wl_len]
    exact ⟨by simp; omega, q⟩
  | len w p =>
    obtain ⟨b1, b2⟩ := b
    have := pW_len p
    push_cast [Pl.av, b_law_words_of]
    refine k_t30 ?_
    push_cast [kinds_ne, Bool.false_eq_true, if_false, b_law_words_of_4]
    refine k_t30 ?_
    push_cast [kinds_ne, Bool.false_eq_true, if_false, b_law_words_of_3]
    refine k_t30 ?_
    have ew : ("len" : Str) = mkS wLen := lits.2.2.2.2.1
    push_cast [decide_true, if_true, ew]
    refine k_t31 ⟨le2, ?_⟩
    refine k_t2 ?_
    refine plus_words_ok b2 ?_
    push_cast [viewW_lst, wl_len]
    exact ⟨by simp; omega, q⟩
theorem words_ok {t : Te} (b : Te.Ok t) (q : Q (.lst (wl (teW t))) h) : callN P (n+3) 39 [t.av] h Q := by
  have hz := sz1
  cases t with
  | pl p => exact words_pl_ok b q
  | cell w o ix p =>
    obtain ⟨b1, b2, b3⟩ := b
    have := pW_len p; have := plW_len ix
    have ll : (lW w o).length ≤ 2 := by unfold lW; split <;> simp
    refine call_of U.f__law_words_of rfl ?_
    show WpSs (ctxOf P (callN P (n+2))) b_law_words_of _ [.val (Te.av (.cell w o ix p))] h
    push_cast [Te.av, b_law_words_of]
    refine k_t4 (k := 0) rfl ?_
    push_cast [kinds_ne, Bool.false_eq_true, if_false, b_law_words_of_4]
    refine k_t4 (k := 0) rfl ?_
    push_cast [kinds_ne, Bool.false_eq_true, if_false, b_law_words_of_3]
    refine k_t4 (k := 0) rfl ?_
    push_cast [kinds_ne, Bool.false_eq_true, if_false, b_law_words_of_2]
    refine k_t4 (k := 1) rfl ?_
    refine list_words_ok ?_
    have lo : ("[" : Str) = mkS brO ∧ ("]" : Str) = mkS brC := ⟨lits.2.2.1, lits.2.2.2.1⟩
    have w1 : ∀ w : W, [AV.str (mkS w)] = wl [w] := fun _ => rfl
    push_cast [lo, w1, viewW_lst, wl_len, wl_app, List.length_cons, List.length_nil, List.length_append]
    refine ⟨by omega, by omega, ?_⟩
    refine k_t4 (k := 2) rfl ?_
    refine words_pl_ok b2 ?_
    push_cast [viewW_lst, wl_len, wl_app, w1, List.length_cons, List.length_nil, List.length_append]
    refine ⟨by omega, by omega, by omega, ?_⟩
    refine k_t4 (k := 3) rfl ?_
    refine plus_words_ok b3 ?_
    push_cast [viewW_lst, wl_len, wl_app, List.length_cons, List.length_nil, List.length_append]
    exact ⟨by omega, q⟩
/-- a list of words in a text, with spaces -/
structure Ws (ws : List W) : Prop where
  w : ∀ w ∈ ws, IsW w
  l : ∀ w ∈ ws, w.length ≤ 20
  n : ws.length ≤ 2000
theorem head_of {w : W} {c : Nat} (hn : w ≠ []) (h : w.head? = some c) : w.head?.getD 0 = c := by rw [h]; rfl
theorem ext_sp {w : W} : ¬ Ext w 32 := by
  have : ¬ (32 ∈ letters) ∧ ¬ (32 ∈ figures) ∧ ¬ (32 ∈ marks) := by decide
  rintro (z | z | z)
  · exact this.1 z.2
  · exact this.2.1 z.2
  · exact this.2.2 z.2
theorem isw_nn {w : W} (h : IsW w) : w ≠ [] := by obtain ⟨c, r, rfl, _⟩ := isw_ne h; simp
theorem spaced_ok {ws : List W} {x : AV} (hd : Hnd a h) (hv : ∀ h', Hx a h h' → Rd h' x ws) (hw : Ws ws) (q : ∀ l h', Hx a h h' → Sp ws l → l.length ≤ 100000 → Q (.str (mkS l)) h') : callN P (n+3) 40 [.adr a, x] h Q := by
  refine call_of U.f__law_spaced rfl ?_
  show WpSs (ctxOf P (callN P (n+2))) b_law_spaced _ [.val (.adr a), .val x, .no, .no, .no] h
  have hz := sz1
  push_cast [b_law_spaced]
  refine take_ok hd (by decide) fun r1 h1 x1 hr1 => ?_
  push_cast [WpSs]
  refine ⟨by show 4 ≤ sizeLine; decide, ?_⟩
  refine take_ok x1.hand (by decide) fun r2 h2 x2 hr2 => ?_
  refine k_pick (xs := [0, 0, 1, 2 + (r1 : Int)]) (by simp; omega) fun v hv1 => ?_
  have bv : 0 ≤ v ∧ v ≤ 6 := by
    simp only [List.mem_cons, List.not_mem_nil, or_false] at hv1
    omega
  obtain ⟨k, rfl⟩ := Int.eq_ofNat_of_zero_le bv.1
  push_cast [tlits, k_mulS, strRep_sp (j := (k : Int)) (by omega), Int.toNat_natCast, mkS_len]
  refine ⟨⟨by omega, by omega, by simp; omega⟩, ?_⟩
  have x12 := x1.trans x2
  refine k_lenW (hv _ x12) ?_
  push_cast [Int.toNat_natCast]
  have hn := hw.n
  refine ⟨⟨by omega, by omega⟩, ?_⟩
  refine for_inv (fun i ρ h' => Hx a h h' ∧ ∃ (l : W) (ok : Nat → Prop) (s3 s4 : Slot), ρ = [.val (.adr a), .val x, .val (.str (mkS l)), s3, s4] ∧ l.length ≤ 10 + 30 * i ∧
    (∀ ws' l', Sp ws' l' → (∀ c, l'.head? = some c → ok c) → Sp (ws.take i ++ ws') (l ++ l')) ∧ ∀ w, ws[i]? = some w → ∀ c, w.head? = some c → ok c)
    ⟨x12, List.replicate k 32, fun _ => True, _, _, rfl, by simp; omega, fun ws' l' s _ => by rw [List.take_zero, List.nil_append]; exact s.pre (fun c hc => (List.mem_replicate.mp hc).2), fun _ _ _ _ => trivial⟩ (fun _ _ _ _ _ => by trivial) ?_ ?_
  · rintro i y _ h3 D' hx ⟨x3, l, ok, s3, s4, rfl, hl, hs, hok⟩ kn kc kr kb
    obtain ⟨hi, rfl⟩ := items_range hx
    have rd := hv _ x3
    have hwi := wa_get hi
    have mem := List.getElem_mem hi
    have isw := hw.w _ mem
    have lw := hw.l _ mem
    obtain ⟨w, ew⟩ : ∃ w, w = ws[i] := ⟨_, rfl⟩
    rw [← ew] at hwi isw lw
    have gi : ws[i]? = some w := by rw [ew]; exact List.getElem?_eq_getElem hi
    push_cast [b_law_spaced_2]
    refine k_subW rd hi ?_
    rw [hwi]
    push_cast [mkS_len, mkS_app]
    refine ⟨by omega, ?_⟩
    refine take_ok x3.hand (by decide) fun r3 h4 x4 hr3 => ?_
    push_cast [WpSs]
    refine ⟨by show 6 ≤ sizeLine; decide, ?_⟩
    refine take_ok x4.hand (by decide) fun r4 h5 x5 hr4 => ?_
    refine k_pick (xs := [0, 0, 1, 1, 2, 2 + (r3 : Int)]) (by simp; omega) fun v hv1 => ?_
    have bv : 0 ≤ v ∧ v ≤ 7 := by
      simp only [List.mem_cons, List.not_mem_nil, or_false] at hv1
      omega
    have x5' := (x3.trans x4).trans x5
    have rd5 := hv _ x5'
    -- the text goes on
    have go : ∀ (k : Nat), k ≤ 7 → (k = 0 → ∀ w', ws[i + 1]? = some w' → ¬ Ext w (w'.head?.getD 0)) → WpSs (ctxOf P (callN P (n+2))) b_law_spaced_1 D' [.val (.adr a), .val x, .val (.str (mkS (l ++ w))), .val (.int (i : Int)), .val (.int (k : Int))] h5 := by
      intro k hk hj
      push_cast [b_law_spaced_1, tlits, k_mulS, strRep_sp (j := (k : Int)) (by omega), Int.toNat_natCast, mkS_len, mkS_app, List.length_append, List.length_replicate]
      refine ⟨⟨by omega, by omega, by simp; omega⟩, by omega, ?_⟩
      refine kn _ _ ⟨x5', (l ++ w) ++ List.replicate k 32, fun c => 0 < k ∨ ¬ Ext w c, _, _, rfl, by simp; omega, fun ws' l' s hc => ?_, fun w' hw' c hc => ?_⟩
      · have e1 : ws.take (i + 1) ++ ws' = ws.take i ++ (w :: ws') := by rw [List.take_succ, gi]; simp
        have e2 : (l ++ w) ++ List.replicate k 32 ++ l' = l ++ (w ++ (List.replicate k 32 ++ l')) := by simp
        rw [e1, e2]
        refine hs _ _ ?_ ?_
        · have s2 : Sp ws' (List.replicate k 32 ++ l') := s.pre (fun c hc => (List.mem_replicate.mp hc).2)
          refine .cons (s := []) (fun _ h => nomatch h) isw s2 fun c hc' z => ?_
          cases k with
          | zero =>
            have hc2 : l'.head? = some c := by simpa using hc'
            rcases hc c hc2 with q | q
            · exact absurd q (Nat.lt_irrefl _)
            · exact q z
          | succ k =>
            have : (32 : Nat) = c := by simpa [List.replicate_succ] using hc'
            subst this
            exact ext_sp z
        · intro c hc'
          refine hok w gi c ?_
          obtain ⟨d, r, e, _⟩ := isw_ne isw
          rw [e] at hc' ⊢
          exact hc'
      · by_cases k0 : k = 0
        · have := hj k0 w' hw'
          rw [hc] at this
          exact .inr this
        · exact .inl (by omega)
    obtain ⟨k, rfl⟩ := Int.eq_ofNat_of_zero_le bv.1
    push_cast [WpSs]
    refine ite_b (fun c0 => ?_) (fun c0 => go k (by omega) (fun z => absurd z (by omega)))
    have k0 : k = 0 := by omega
    subst k0
    refine k_lenW rd5 ?_
    push_cast [i1]
    refine ite_b (fun c1 => ?_) (fun c1 => go 0 (by omega) fun _ w' hw' => absurd (List.getElem?_eq_some_iff.mp hw').1 (by omega))
    refine k_subW rd5 hi ?_
    have hi2 : i + 1 < ws.length := by omega
    refine k_subW rd5 (i := i + 1) hi2 ?_
    rw [hwi]
    have hwi2 := wa_get hi2
    have isw2 := hw.w _ (List.getElem_mem hi2)
    have lw2 := hw.l _ (List.getElem_mem hi2)
    rw [← hwi2] at isw2 lw2
    refine joins_ok (isw_nn isw) (isw_nn isw2) (by omega) (by omega) fun r hr => ?_
    push_cast [WpSs]
    cases r with
    | true =>
      push_cast [if_true]
      exact go 1 (by omega) (fun z => absurd z (by omega))
    | false =>
      push_cast [Bool.false_eq_true, if_false]
      refine go 0 (by omega) fun _ w' hw' => ?_
      have : wa ws (i + 1) = w' := by unfold wa; rw [hw']; rfl
      rw [← this]
      exact hr rfl
  · rintro _ h' ⟨x', l, ok, s3, s4, rfl, hl, hs, _⟩
    push_cast [b_law_spaced_3]
    rw [List.length_map, List.length_range] at hl hs
    have s := hs [] [] (.nil fun _ h => nomatch h) (fun c hc => by cases hc)
    rw [List.take_length, List.append_nil, List.append_nil] at s
    exact q l h' x' s (by omega)
theorem read_ok {x : AV} {ws : List W} (r : Rd h x ws) {i : Nat} (q : Q (qT (termAt ws i)) h) : callN P (n+5) 41 [x, .int (i : Int)] h Q := by
  refine call_of U.f__law_read rfl ?_
  show WpSs (ctxOf P (callN P (n+4))) b_law_read _ [.val x, .val (.int (i : Int)), .no, .no, .no] h
  push_cast [b_law_read]
  refine read_list_ok r ?_
  have eo : ("[" : Str) = mkS brO := lits.2.2.1
  have ec : ("]" : Str) = mkS brC := lits.2.2.2.1
  unfold termAt at q
  have pl : Q (qT ((plainAt ws i).map fun r => (.pl r.1, r.2))) h → callN P (n+4) 31 [x, .int (i : Int)] h fun d h1 => Q d h1 := by
    intro q
    refine read_plain_ok r ?_
    have e : qT ((plainAt ws i).map fun r => (.pl r.1, r.2)) = qP (plainAt ws i) := by
      cases plainAt ws i with
      | none => rfl
      | some l => rfl
    rw [e] at q
    exact q
  cases e : listAt ws i with
  | none =>
    rw [e] at q
    push_cast [qL, if_true]
    exact pl q
  | some l =>
    obtain ⟨⟨w, o⟩, j⟩ := l
    rw [e] at q
    have q : Q (qT (if wa ws j = brO then Tm.cellOf ws ((w, o), j) else (plainAt ws i).map fun r => (.pl r.1, r.2))) h := q
    push_cast [qL, Bool.false_eq_true, if_false, eo]
    refine k_l1 ?_
    refine word_ok r ?_
    push_cast [mkS_eq]
    by_cases c : wa ws j = brO
    · rw [if_pos c] at q
      have d : decide (wa ws j = brO) = true := decide_eq_true c
      push_cast [d, Bool.not_true, Bool.false_eq_true, if_false, b_law_read_3, ec]
      refine k_l1 ?_
      push_cast [i1]
      refine read_plain_ok r ?_
      unfold Tm.cellOf at q
      cases e2 : plainAt ws (j + 1) with
      | none =>
        simp only [e2] at q
        push_cast [qP, if_true]
        exact q
      | some pk =>
        obtain ⟨ix, k⟩ := pk
        simp only [e2] at q
        push_cast [qP, Bool.false_eq_true, if_false]
        refine k_l1 ?_
        refine word_ok r ?_
        push_cast [mkS_eq]
        by_cases c2 : wa ws k = brC
        · rw [if_pos c2] at q
          have d : decide (wa ws k = brC) = true := decide_eq_true c2
          push_cast [d, Bool.not_true, Bool.false_eq_true, if_false, b_law_read_2]
          refine k_l1 ?_
          push_cast [i1]
          refine read_plus_ok r ?_
          cases e3 : plusAt ws (k + 1) with
          | none =>
            simp only [e3] at q
            push_cast [qI, if_true]
            exact q
          | some pm =>
            obtain ⟨p, m⟩ := pm
            simp only [e3] at q
            push_cast [qI, Bool.false_eq_true, if_false, b_law_read_1]
            refine k_l0 ?_
            refine k_l0 ?_
            refine k_l0 ⟨le4, ?_⟩
            refine k_l1 ⟨le2, ?_⟩
            exact q
        · rw [if_neg c2] at q
          have d : decide (wa ws k = brC) = false := decide_eq_false c2
          push_cast [d, Bool.not_false, if_true]
          exact q
    · rw [if_neg c] at q
      have d : decide (wa ws j = brO) = false := decide_eq_false c
      push_cast [d, Bool.not_false, if_true]
      exact pl q
end
end Lt

set_option maxRecDepth 100000
set_option maxHeartbeats 4000000
namespace Wd
open PySem L2 VL
theorem joinL_nil (ls : List (List Nat)) : TL.joinL [] ls = ls.flatten := by
  induction ls with
  | nil => rfl
  | cons a r ih => cases r with
    | nil => simp [TL.joinL]
    | cons b r =>
      show a ++ ([] ++ TL.joinL [] (b :: r)) = _
      rw [ih]
      simp
theorem join_mkS (ls : List (List Nat)) : Txt.join (mkS []) (ls.map mkS) = mkS ls.flatten := by
  have := SX.join_S [] ls
  rw [joinL_nil] at this
  exact this
theorem wl_map (ls : List (List Nat)) : asStrs (wl ls) = some (ls.map mkS) := by
  have : wl ls = (ls.map mkS).map AV.str := (List.map_map ..).symm
  rw [this, asStrs_map]
theorem sum_le {ls : List (List Nat)} {b : Nat} (hb : ∀ p ∈ ls, p.length ≤ b) : ls.flatten.length ≤ ls.length * b := by
  induction ls with
  | nil => simp
  | cons a r ih =>
    have h1 := hb a (List.mem_cons_self ..)
    have h2 := ih fun p h => hb p (List.mem_cons_of_mem _ h)
    rw [List.flatten_cons, List.length_append, List.length_cons, Nat.succ_mul]
    omega
theorem sum_lens (ls : List (List Nat)) : ((ls.map mkS).map (·.length)).sum = ls.flatten.length := by
  induction ls with
  | nil => rfl
  | cons a r ih =>
    rw [List.map_cons, List.map_cons, List.sum_cons, ih, mkS_len, List.flatten_cons, List.length_append]
/-- a text of pieces -/
theorem k_joinL {h : AHeap} {x : AV} {ls : List (List Nat)} {b : Nat} {Q : KA} (hx : viewT h x = some (wl ls)) (hb : ∀ p ∈ ls, p.length ≤ b) (hz : ls.length * b ≤ 16777216) (q : Q (.str (mkS ls.flatten))) : smtK h .join (mkS []) x Q := by
  unfold smtK
  simp only [hx, Option.bind_some, wl_map, join_mkS]
  refine ⟨?_, q⟩
  rw [sum_lens, mkS_len]
  have := sum_le hb
  simp only [List.length_nil, Nat.mul_zero, Nat.add_zero]
  omega

theorem wl_take (ws : List (List Nat)) (k : Nat) : (wl ws).take k = wl (ws.take k) := (List.map_take ..).symm
theorem wl_drop (ws : List (List Nat)) (k : Nat) : (wl ws).drop k = wl (ws.drop k) := (List.map_drop ..).symm
end Wd

set_option maxRecDepth 100000
set_option maxHeartbeats 4000000
namespace Pm
open PySem L2 VL Wd Tm Tw
def wFrom : W := [102, 114, 111, 109]
def wTo : W := [116, 111]
def wOr : W := [111, 114]
def wAll : W := [97, 108, 108]
def wEither : W := [101, 105, 116, 104, 101, 114]
def wSorted : W := [115, 111, 114, 116, 101, 100]
def wBelow : W := [98, 101, 108, 111, 119]
def colon : W := [58]
def comma : W := [44]
theorem plits : ("from" : Str) = mkS wFrom ∧ ("to" : Str) = mkS wTo ∧ ("or" : Str) = mkS wOr ∧ ("all" : Str) = mkS wAll ∧ ("either" : Str) = mkS wEither ∧ ("sorted" : Str) = mkS wSorted ∧ ("below" : Str) = mkS wBelow ∧ (":" : Str) = mkS colon ∧ ("," : Str) = mkS comma := by decide +kernel
def SGN : List W := [[60], [60, 61], [62], [62, 61], [61, 61], [33, 61]]
structure Cmp where
  s : W
  l : Te
  r : Te
def Cmp.av (c : Cmp) : AV := .tup [.str "cmp", .str (mkS c.s), c.l.av, c.r.av]
abbrev Ls := W × Bool
def Ls.av (l : Ls) : AV := .tup [.str (mkS l.1), .bl l.2]
inductive Pr where
  | cmp (c : Cmp) | either (c d : Cmp) | all (l : Ls) (lo hi : Pl) (s : W) (t : Pl) | mtc (l : Ls) (lo hi : Pl) (s : W) (o : Ls) (p : Int) | srt (l : Ls) (lo hi : Pl) | blw (l : Ls) (lo hi : Pl) (o : Ls) (low high : Pl)
def Pr.av : Pr → AV
  | .cmp c => c.av
  | .either c d => .tup [.str "either", c.av, d.av]
  | .all l lo hi s t => .tup [.str "all", Ls.av l, lo.av, hi.av, .str (mkS s), t.av]
  | .mtc l lo hi s o p => .tup [.str "match", Ls.av l, lo.av, hi.av, .str (mkS s), Ls.av o, .int p]
  | .srt l lo hi => .tup [.str "sorted", Ls.av l, lo.av, hi.av]
  | .blw l lo hi o low high => .tup [.str "below", Ls.av l, lo.av, hi.av, Ls.av o, low.av, high.av]
def nm : Pl → List W
  | .num _ => []
  | .var w _ => [w]
  | .len w _ => [w]
/-- the names besides the one behind all -/
def used : Pr → List W
  | .all l lo hi _ t => l.1 :: (nm lo ++ nm hi ++ nm t)
  | .mtc l lo hi _ o _ => l.1 :: (nm lo ++ nm hi ++ [o.1])
  | _ => []
def rangeAt (ws : List W) (i : Nat) : Option ((Pl × Pl) × Nat) :=
  if wa ws i = wFrom then (match plainAt ws (i + 1) with
    | none => none
    | some (lo, j) => if wa ws j = wTo then (match plainAt ws (j + 1) with
      | none => none
      | some (hi, k) => some ((lo, hi), k)) else none) else none
def cmpAt (ws : List W) (i : Nat) : Option (Cmp × Nat) :=
  match termAt ws i with
  | none => none
  | some (l, j) => if wa ws j ∈ SGN then (match termAt ws (j + 1) with
    | none => none
    | some (r, k) => some (⟨wa ws j, l, r⟩, k)) else none
def wh {α : Type} (ws : List W) (o : Option (α × Nat)) : Option α :=
  match o with
  | none => none
  | some (x, j) => if j = ws.length then some x else none
def placeAt (ws : List W) (i : Nat) (n : W) : Option (Ls × Nat) :=
  match listAt ws i with
  | none => none
  | some (l, j) => if (ws.drop j).take 3 = [brO, n, brC] then some (l, j + 3) else none
/-- an all or match, whole or not -/
def allAt (ws : List W) : Option (Pr × Nat) :=
  if nameOk (wa ws 1) = true then (match rangeAt ws 2 with
    | none => none
    | some ((lo, hi), j) => if wa ws j = colon then (match placeAt ws (j + 1) (wa ws 1) with
      | none => none
      | some (l, k) => if wa ws k ∈ SGN then (match placeAt ws (k + 1) (wa ws 1) with
        | none => (match plainAt ws (k + 1) with
          | none => none
          | some (t, m) => some (.all l lo hi (wa ws k) t, m))
        | some (o, m) => (match plusAt ws m with
          | none => none
          | some (p, q) => some (.mtc l lo hi (wa ws k) o p, q))) else none) else none) else none
def chk (n : W) (p : Option Pr) : Option Pr := match p with
  | none => none
  | some p => if n ∈ used p then none else some p
def eitherAt (ws : List W) : Option (Pr × Nat) :=
  match cmpAt ws 1 with
  | none => none
  | some (c, j) => if wa ws j = wOr then (match cmpAt ws (j + 1) with
    | none => none
    | some (d, k) => some (.either c d, k)) else none
def rngAt (ws : List W) (i : Nat) : Option ((Ls × Pl × Pl) × Nat) :=
  match listAt ws i with
  | none => none
  | some (l, j) => match rangeAt ws j with
    | none => none
    | some ((lo, hi), k) => some ((l, lo, hi), k)
def sortedAt (ws : List W) : Option (Pr × Nat) :=
  match rngAt ws 1 with
  | none => none
  | some ((l, lo, hi), k) => some (.srt l lo hi, k)
def belowAt (ws : List W) : Option (Pr × Nat) :=
  match rngAt ws 1 with
  | none => none
  | some ((l, lo, hi), k) => if wa ws k = comma then (match rngAt ws (k + 1) with
    | none => none
    | some ((o, low, high), m) => some (.blw l lo hi o low high, m)) else none
def promiseAt (ws : List W) : Option (Pr × Nat) :=
  if wa ws 0 = wEither then eitherAt ws else if wa ws 0 = wAll then allAt ws else if wa ws 0 = wSorted then sortedAt ws else if wa ws 0 = wBelow then belowAt ws else (cmpAt ws 0).map fun r => (.cmp r.1, r.2)
def promiseOf (ws : List W) : Option Pr := chk (if wa ws 0 = wAll then wa ws 1 else []) (wh ws (promiseAt ws))
def oC : Option (Cmp × Nat) → AV
  | none => .non
  | some (c, j) => .tup [c.av, .int (j : Int)]
def oR : Option ((Pl × Pl) × Nat) → AV
  | none => .non
  | some (r, j) => .tup [.tup [r.1.av, r.2.av], .int (j : Int)]
def oLs : Option (Ls × Nat) → AV
  | none => .non
  | some (l, j) => .tup [Ls.av l, .int (j : Int)]
def oPr : Option Pr → AV
  | none => .non
  | some p => p.av
/-! ### lists of words compared -/
theorem pds_wl (ws : List W) : pds (wl ws) = some (ws.map fun w => PyData.str (mkS w)) := by
  induction ws with
  | nil => rfl
  | cons w ws ih =>
    show pds (.str (mkS w) :: wl ws) = _
    have : pds (.str (mkS w) :: wl ws) = (pd (.str (mkS w))).bind fun d => (pds (wl ws)).map (d :: ·) := by rw [pds]
    rw [this, ih]
    rfl
theorem pdHs_wl (h : AHeap) (ws : List W) : pdHs h (wl ws) = some (ws.map fun w => PyData.str (mkS w)) := by
  induction ws with
  | nil => rfl
  | cons w ws ih =>
    show pdHs h (.str (mkS w) :: wl ws) = _
    have : pdHs h (.str (mkS w) :: wl ws) = (pdH h (.str (mkS w))).bind fun d => (pdHs h (wl ws)).map (d :: ·) := by rw [pdHs]
    rw [this, ih]
    rfl
def Ch (ws : List W) : Prop := ∀ w ∈ ws, ∀ c ∈ w, c < 1114112
theorem strOk_mk {w : W} (h : ∀ c ∈ w, c < 1114112) : PyData.strOk (mkS w) = true := by
  unfold PyData.strOk
  rw [← Array.all_toList, mkS_list, List.all_eq_true]
  intro c hc
  exact decide_eq_true (h c hc)
theorem lay_wl (ws : List W) (hc : Ch ws) : PyData.canLayAll0 (ws.map fun w => PyData.str (mkS w)) = true ∧ PyData.depthAll (ws.map fun w => PyData.str (mkS w)) ≤ 0 := by
  induction ws with
  | nil => exact ⟨rfl, Nat.le_refl _⟩
  | cons w ws ih =>
    have ih := ih fun v hv => hc v (List.mem_cons_of_mem _ hv)
    have so := strOk_mk (hc w (List.mem_cons_self ..))
    simp only [List.map_cons, PyData.canLayAll0, PyData.canLay0, PyData.depthAll, PyData.depth, so, Bool.true_and]
    exact ⟨ih.1, Nat.max_le.mpr ⟨Nat.le_refl _, ih.2⟩⟩
theorem eqv_wl : ∀ a b : List W, PyData.eqvAll (a.map fun w => PyData.str (mkS w)) (b.map fun w => PyData.str (mkS w)) = decide (a = b)
  | [], [] => rfl
  | [], _ :: _ => by simp [PyData.eqvAll]
  | _ :: _, [] => by simp [PyData.eqvAll]
  | v :: a, w :: b => by
    have e : (mkS v == mkS w) = decide (v = w) := by
      cases h : (mkS v == mkS w) with
      | true => rw [decide_eq_true (mkS_inj.mp (eq_of_beq h))]
      | false => rw [decide_eq_false fun z => by rw [z, beq_self_eq_true] at h; cases h]
    simp only [List.map_cons, PyData.eqvAll, PyData.eqv, eqv_wl a b, e]
    by_cases c : v = w
    · subst c; simp
    · simp [c]
theorem ne_wl {h : AHeap} {a b : List W} {Q : KA} (ca : Ch a) (cb : Ch b) (q : Q (.bl (!decide (a = b)))) : cmpK h .NotEq (.lst (wl a)) (.lst (wl b)) Q := by
  show eqGen h true (.lst (wl a)) (.lst (wl b)) Q
  have pa : ∀ c : List W, pdH h (.lst (wl c)) = some (.list (c.map fun w => PyData.str (mkS w))) := fun c => by simp only [pdH, pdHs_wl, Option.map_some]
  have sh : ∀ c : List W, Ch c → SeqAt.shaped (.list (c.map fun w => PyData.str (mkS w))) = true := fun c hc => by
    have l := lay_wl c hc
    have d : (PyData.list (c.map fun w => PyData.str (mkS w))).depth ≤ 64 := by
      simp only [PyData.depth]
      omega
    unfold SeqAt.shaped
    rw [Bool.and_eq_true]
    exact ⟨by simp only [PyData.canLay0]; exact l.1, decide_eq_true d⟩
  unfold eqGen
  rw [pa, pa]
  refine ⟨sh a ca, sh b cb, ?_⟩
  have : PyData.eqv (.list (a.map fun w => PyData.str (mkS w))) (.list (b.map fun w => PyData.str (mkS w))) = decide (a = b) := by simp only [PyData.eqv, eqv_wl]
  rw [this]
  exact q
end Pm

set_option maxRecDepth 100000
set_option maxHeartbeats 4000000
namespace H3
open PySem L2 VL Hd
local macro_rules
  | `(tactic| push_cast [$xs,*]) => `(tactic| try simp only [$xs,*, WpSs, WpS, WpE, WpEs, WpBs, WpO, WpN, WpI, WpC, WpT, getS, setS, tgK, setsS, wipeS, k_add, k_addT, k_sub, k_mul, k_fdiv, k_mod, k_neg, k_lt, k_le, k_gt, k_ge, k_eqI, k_neI, k_eqS, k_neS, k_eqB, k_neB, k_is, k_isn, isNon_non, isNon_int, isNon_str, isNon_lst, isNon_tup, isNon_adr, k_lenS, k_lenL, k_lenR, k_lenT, k_int, k_str, k_abs, tru_bl, augK, ctx_call, ctx_glob, k_in, k_nin, k_inS, k_addS, k_intB, isi_non_int, isi_non_bool, isi_non_str, isi_non_list, isi_non_tuple, isi_bl_int, isi_bl_bool, isi_bl_str, isi_bl_list, isi_bl_tuple, isi_int_int, isi_int_bool, isi_int_str, isi_int_list, isi_int_tuple, isi_str_int, isi_str_bool, isi_str_str, isi_str_list, isi_str_tuple, isi_tup_int, isi_tup_bool, isi_tup_str, isi_tup_list, isi_tup_tuple, isi_lst_int, isi_lst_bool, isi_lst_str, isi_lst_list, isi_lst_tuple, isi_ro_int, isi_ro_bool, isi_ro_str, isi_ro_list, isi_ro_tuple])
section
variable {P : Prg} [U P]
theorem take_ok {a n : Nat} {m : Int} {h Q} (hd : Hnd a h) (hm : 0 < m) (q : ∀ (r : Nat) h', Hx a h h' → (r : Int) < m → Q (.int (r : Int)) h') : callN P (n+1) 92 [.adr a, .int m] h Q := by
  have hp := hd.lt
  obtain ⟨ds, k, e⟩ := hd
  refine call_of U.f__law_take rfl ?_
  show WpSs (ctxOf P (callN P n)) b_law_take _ [.val (.adr a), .val (.int m), .no, .no] h
  push_cast [b_law_take]
  refine k_subL (d := .int k) (view_adr e) (fun _ h => by cases h) rfl ?_
  have ix : ixN 2 1 = some 1 := rfl
  push_cast [e, putC, List.length_cons, List.length_nil, ix]
  have e1 : (k : Int) + 1 = ((k + 1 : Nat) : Int) := by omega
  have e2 : cells (h.set a (.lst ([.lst (ds.map AV.int), .int k].set 1 (.int ((k : Int) + 1))))) a = .lst [.lst (ds.map AV.int), .int ((k + 1 : Nat) : Int)] := by
    rw [cells_set hp, e1]; rfl
  have hx : Hx a h (h.set a (.lst ([.lst (ds.map AV.int), .int k].set 1 (.int ((k : Int) + 1))))) := ⟨⟨ds, k + 1, e2⟩, by simp, fun b _ h2 => cells_put (Ne.symm h2)⟩
  refine k_subL (d := .lst (ds.map AV.int)) (view_adr e2) (fun _ h => by cases h) rfl ?_
  push_cast [WpSs]
  refine ite_b (fun c => q 0 _ hx hm) (fun c => ?_)
  have hk : k < ds.length := by simp at c; omega
  have e3 : atI (ds.map AV.int) (k : Int) = some (.int ds[k]) := by
    rw [atI_nat (by simpa using hk)]
    simp [hk]
  push_cast [b_law_take_1]
  refine k_subL viewT_lst (fun _ h => by cases h) e3 ?_
  push_cast [WpSs]
  refine ⟨divA (by decide) (by decide), hm, ?_⟩
  have h1 := Int.emod_nonneg (ds[k] / 7) (b := m) (by omega)
  have h2 := Int.emod_lt_of_pos (ds[k] / 7) hm
  obtain ⟨r, hr⟩ := Int.eq_ofNat_of_zero_le h1
  rw [hr] at h2 ⊢
  exact q r _ hx h2
theorem draws_ok {n m : Nat} {ns : List Int} {h Q} (hn : ns.length ≤ 63) (hm : m ≤ 100000) (q : ∀ ds : List Int, ds.length = m → Q (.lst (ds.map AV.int)) h) : callN P (n+1) 91 [.ro (ns.map AV.int), .int (m : Int)] h Q := by
  refine call_of U.f__law_draws rfl ?_
  show WpSs (ctxOf P (callN P n)) b_law_draws _ [.val (.ro (ns.map AV.int)), .val (.int (m : Int)), .no, .no, .no, .no, .no, .no] h
  push_cast [b_law_draws, viewT_ro]
  have hz1 : sizeLine = 16777216 := rfl
  refine ⟨by rw [List.length_map]; omega, ?_⟩
  refine comp_map (fun i => .int (if (ns[i]?).getD 0 < 0 then -(ns[i]?).getD 0 else (ns[i]?).getD 0)) ?_ ?_
  · intro i x R hx r
    obtain ⟨a, ha, rfl⟩ := items_map hx
    push_cast [if_true]
    rw [ha] at r
    exact r
  refine ⟨Nat.zero_le _, ⟨by omega, by omega⟩, ?_⟩
  refine for_inv (fun k ρ h' => h' = h ∧ ∃ (ls ds : List Int) (s4 s5 s6 s7 : Slot), ls.length = ns.length ∧ ds.length = k ∧ ρ = [.val (.ro (ns.map AV.int)), .val (.int (m : Int)), .own (.lst (ls.map AV.int)), .own (.lst (ds.map AV.int)), s4, s5, s6, s7]) ⟨rfl, (List.range ns.length).map (fun i => (if (ns[i]?).getD 0 < 0 then -(ns[i]?).getD 0 else (ns[i]?).getD 0)), [], .no, .no, .no, .no, by simp, rfl, ?_⟩ (fun _ _ _ _ _ => by trivial) ?_ ?_
  · rw [List.length_map, List.map_map]; rfl
  · rintro k x _ h D' hx ⟨rfl, ls, ds, s4, s5, s6, s7, hl, hd, rfl⟩ kn kc kr kb
    obtain ⟨hk, rfl⟩ := items_range hx
    have hk : k < m := by simpa using hk
    have rest : ∀ (i : Int) s6 s7, WpSs (ctxOf P (callN P n)) b_law_draws_1 D' [.val (.ro (ns.map AV.int)), .val (.int (m : Int)), .own (.lst (ls.map AV.int)), .own (.lst (ds.map AV.int)), .val (.int k), .val (.int i), s6, s7] h := by
      intro i s6 s7
      push_cast [b_law_draws_1, int_one]
      refine ⟨mulA_r (by decide) (by decide), mulA_r (by decide) (by decide), by decide, ?_⟩
      generalize i * 48271 + (k : Int) * 69621 + 11 = a
      have h1 := Int.emod_nonneg a (by decide : (2147483647 : Int) ≠ 0)
      have h2 := Int.emod_lt_of_pos a (by decide : (0 : Int) < 2147483647)
      generalize a % 2147483647 = b at h1 h2
      refine ⟨mulA_l (by omega) (by omega), divA (by decide) (by decide), by decide, ?_⟩
      generalize b * b / 4096 + b = c
      have h3 := Int.emod_nonneg c (by decide : (2147483629 : Int) ≠ 0)
      have h4 := Int.emod_lt_of_pos c (by decide : (0 : Int) < 2147483629)
      generalize c % 2147483629 = d at h3 h4
      refine ⟨mulA_l (by omega) (by omega), divA (by decide) (by decide), mulA_r (by decide) (by decide), by decide, by simp; omega, ?_⟩
      exact kn _ _ ⟨rfl, ls, _, _, _, _, _, hl, by simp [hd], rfl⟩
    push_cast [b_law_draws_2]
    refine ite_b (fun c => ?_) (fun c => rest _ _ _)
    rw [List.length_map] at c ⊢
    refine ⟨by omega, ?_⟩
    have h1 := Int.emod_nonneg (k : Int) (b := (ns.length : Int)) (by omega)
    have h2 := Int.emod_lt_of_pos (k : Int) (b := (ns.length : Int)) (by omega)
    obtain ⟨j, hj⟩ := Int.eq_ofNat_of_zero_le h1
    rw [hj] at h2 ⊢
    have hj1 : j < ns.length := by omega
    have hj2 : j < ls.length := by omega
    have en : atI (ns.map AV.int) (j : Int) = some (.int ns[j]) := by
      rw [atI_nat (by simpa using hj1)]
      simp [hj1]
    have el : atI (ls.map AV.int) (j : Int) = some (.int ls[j]) := by
      rw [atI_nat (by simpa using hj2)]
      simp [hj2]
    refine k_subL viewT_ro (fun _ h => by cases h) en ?_
    push_cast [WpSs]
    refine ⟨⟨by decide, by decide, by decide⟩, ?_⟩
    refine ite_b (fun c2 => ?_) (fun c2 => ?_)
    · refine k_subL viewT_lst (fun _ h => by cases h) el ?_
      push_cast [WpSs]
      refine ite_b (fun c3 => ?_) (fun c3 => rest _ _ _)
      refine k_subL viewT_lst (fun _ h => by cases h) el ?_
      push_cast [WpSs]
      refine ⟨by decide, by simp; omega, ?_⟩
      refine k_subL viewT_lst (fun _ h => by cases h) el ?_
      have ix : ixN (ls.map AV.int).length (j : Int) = some j := by
        rw [List.length_map]
        exact Evl.ixN_nat hj2
      push_cast [putC, ix, int_one, set_int]
      refine ⟨divA (by decide) (by decide), ?_⟩
      exact kc _ _ ⟨rfl, _, _, _, _, _, _, by simp [hl], by simp [hd], rfl⟩
    · push_cast [Bool.false_eq_true, if_false]
      exact rest _ _ _
  · rintro _ h ⟨rfl, ls, ds, s4, s5, s6, s7, hl, hd, rfl⟩
    push_cast [b_law_draws_3]
    exact q ds (by simpa using hd)
end
end H3

set_option maxRecDepth 100000
set_option maxHeartbeats 4000000
namespace L3
open PySem L2 VL Wd Tm Tw Lw Lr Hd Ln Lt
local macro_rules
  | `(tactic| push_cast [$xs,*]) => `(tactic| try simp only [$xs,*, WpSs, WpS, WpE, WpEs, WpBs, WpO, WpN, WpI, WpC, WpT, getS, setS, tgK, setsS, wipeS, k_add, k_addT, k_sub, k_mul, k_fdiv, k_mod, k_neg, k_lt, k_le, k_gt, k_ge, k_eqI, k_neI, k_eqS, k_neS, k_eqB, k_neB, k_is, k_isn, isNon_non, isNon_int, isNon_str, isNon_lst, isNon_tup, isNon_adr, k_lenS, k_lenL, k_lenR, k_lenT, k_int, k_str, k_abs, tru_bl, augK, ctx_call, ctx_glob, k_in, k_nin, k_inS, k_addS, k_intB, isi_non_int, isi_non_bool, isi_non_str, isi_non_list, isi_non_tuple, isi_bl_int, isi_bl_bool, isi_bl_str, isi_bl_list, isi_bl_tuple, isi_int_int, isi_int_bool, isi_int_str, isi_int_list, isi_int_tuple, isi_str_int, isi_str_bool, isi_str_str, isi_str_list, isi_str_tuple, isi_tup_int, isi_tup_bool, isi_tup_str, isi_tup_list, isi_tup_tuple, isi_lst_int, isi_lst_bool, isi_lst_str, isi_lst_list, isi_lst_tuple, isi_ro_int, isi_ro_bool, isi_ro_str, isi_ro_list, isi_ro_tuple])
section
variable {P : Prg} [H3.U P] [Lw.U P] [Lr.U P] [U P] {n a : Nat} {h : AHeap} {Q : AV → AHeap → Prop}
theorem plus_words_ok {p : Int} (b : Bd p) (q : Q (.lst (wl (pW p))) h) : callN P (n+1) 93 [.int p] h Q := by
  refine call_of U.f__law_plus_words rfl ?_
  show WpSs (ctxOf P (callN P n)) b_law_plus_words _ [.val (.int p)] h
  push_cast [b_law_plus_words]
  refine ite_b (fun c => ?_) (fun c => ?_)
  · subst c; exact ⟨Nat.zero_le _, q⟩
  have lp : ("-" : Str) = mkS sgM ∧ ("+" : Str) = mkS sgP := ⟨lits.2.1, lits.1⟩
  push_cast [b_law_plus_words_1, lp]
  refine ⟨by show 2 ≤ sizeLine; decide, ?_⟩
  unfold pW at q
  by_cases c1 : 0 < p
  · rw [if_pos c1] at q
    have d : decide (0 < p) = true := decide_eq_true c1
    have e : (if p < 0 then -p else p) = p := if_neg (by omega)
    push_cast [d, e, if_true]
    refine k_subL (d := .str (mkS sgP)) viewT_lst (fun _ h => by cases h) rfl ?_
    exact ⟨bd_log b, le2, q⟩
  · rw [if_neg c1, if_pos (by omega)] at q
    have d : decide (0 < p) = false := decide_eq_false c1
    have e : (if p < 0 then -p else p) = -p := if_pos (by omega)
    push_cast [d, e, Bool.false_eq_true, if_false]
    refine k_subL (d := .str (mkS sgM)) viewT_lst (fun _ h => by cases h) rfl ?_
    exact ⟨bd_log b.neg, le2, q⟩
theorem pW_len (p : Int) : (pW p).length ≤ 2 := by
  unfold pW
  split
  · simp
  · split <;> simp
theorem plW_len (p : Pl) : (plW p).length ≤ 4 := by
  cases p with
  | num n => show (nW n).length ≤ 4; unfold nW; split <;> simp
  | var w p => have := pW_len p; show (w :: pW p).length ≤ 4; simp; omega
  | len w p => have := pW_len p; show (wLen :: w :: pW p).length ≤ 4; simp; omega
theorem words_pl_ok {p : Pl} (b : Pl.Ok p) (q : Q (.lst (wl (plW p))) h) : callN P (n+2) 94 [p.av] h Q := by
  refine call_of U.f__law_words_of rfl ?_
  show WpSs (ctxOf P (callN P (n+1))) b_law_words_of _ [.val p.av] h
  have hz := sz1
  cases p with
  | num k =>
    have b : Bd k := b
    push_cast [Pl.av, b_law_words_of]
    refine k_t0 ?_
    push_cast [decide_true, if_true]
    refine k_t1 ?_
    push_cast [WpSs]
    have q : Q (.lst (wl (nW k))) h := q
    unfold nW at q
    refine ite_b (fun c => ?_) (fun c => ?_)
    · rw [if_pos c] at q
      refine k_t1 ?_
      have lm : ("-" : Str) = mkS sgM := lits.2.1
      push_cast [lm, k_neg]
      exact ⟨bd_log b.neg, le2, q⟩
    · rw [if_neg c] at q
      push_cast [b_law_words_of_1]
      refine k_t1 ?_
      exact ⟨bd_log b, by show 1 ≤ sizeLine; decide, q⟩
  | var w p =>
    obtain ⟨b1, b2⟩ := b
    have := pW_len p
    push_cast [Pl.av, b_law_words_of]
    refine k_t30 ?_
    push_cast [kinds_ne, Bool.false_eq_true, if_false, b_law_words_of_4]
    refine k_t30 ?_
    push_cast [decide_true, if_true]
    refine k_t31 ⟨by show 1 ≤ sizeLine; decide, ?_⟩
    refine k_t2 ?_
    refine plus_words_ok b2 ?_
    push_cast [viewW_lst, wl_len]
    exact ⟨by simp; omega, q⟩
  | len w p =>
    obtain ⟨b1, b2⟩ := b
    have := pW_len p
    push_cast [Pl.av, b_law_words_of]
    refine k_t30 ?_
    push_cast [kinds_ne, Bool.false_eq_true, if_false, b_law_words_of_4]
    refine k_t30 ?_
    push_cast [kinds_ne, Bool.false_eq_true, if_false, b_law_words_of_3]
    refine k_t30 ?_
    have ew : ("len" : Str) = mkS wLen := lits.2.2.2.2.1
    push_cast [decide_true, if_true, ew]
    refine k_t31 ⟨le2, ?_⟩
    refine k_t2 ?_
    refine plus_words_ok b2 ?_
    push_cast [viewW_lst, wl_len]
    exact ⟨by simp; omega, q⟩
theorem words_ok {t : Te} (b : Te.Ok t) (q : Q (.lst (wl (teW t))) h) : callN P (n+3) 94 [t.av] h Q := by
  have hz := sz1
  cases t with
  | pl p => exact words_pl_ok b q
  | cell w o ix p =>
    obtain ⟨b1, b2, b3⟩ := b
    have := pW_len p; have := plW_len ix
    have ll : (lW w o).length ≤ 2 := by unfold lW; split <;> simp
    refine call_of U.f__law_words_of rfl ?_
    show WpSs (ctxOf P (callN P (n+2))) b_law_words_of _ [.val (Te.av (.cell w o ix p))] h
    push_cast [Te.av, b_law_words_of]
    refine k_t4 (k := 0) rfl ?_
    push_cast [kinds_ne, Bool.false_eq_true, if_false, b_law_words_of_4]
    refine k_t4 (k := 0) rfl ?_
    push_cast [kinds_ne, Bool.false_eq_true, if_false, b_law_words_of_3]
    refine k_t4 (k := 0) rfl ?_
    push_cast [kinds_ne, Bool.false_eq_true, if_false, b_law_words_of_2]
    refine k_t4 (k := 1) rfl ?_
    refine list_words_ok ?_
    have lo : ("[" : Str) = mkS brO ∧ ("]" : Str) = mkS brC := ⟨lits.2.2.1, lits.2.2.2.1⟩
    have w1 : ∀ w : W, [AV.str (mkS w)] = wl [w] := fun _ => rfl
    push_cast [lo, w1, viewW_lst, wl_len, wl_app, List.length_cons, List.length_nil, List.length_append]
    refine ⟨by omega, by omega, ?_⟩
    refine k_t4 (k := 2) rfl ?_
    refine words_pl_ok b2 ?_
    push_cast [viewW_lst, wl_len, wl_app, w1, List.length_cons, List.length_nil, List.length_append]
    refine ⟨by omega, by omega, by omega, ?_⟩
    refine k_t4 (k := 3) rfl ?_
    refine plus_words_ok b3 ?_
    push_cast [viewW_lst, wl_len, wl_app, List.length_cons, List.length_nil, List.length_append]
    exact ⟨by omega, q⟩
/-- a list of words in a text, with spaces -/
structure Ws (ws : List W) : Prop where
  w : ∀ w ∈ ws, IsW w
  l : ∀ w ∈ ws, w.length ≤ 20
  n : ws.length ≤ 2000
theorem head_of {w : W} {c : Nat} (hn : w ≠ []) (h : w.head? = some c) : w.head?.getD 0 = c := by rw [h]; rfl
theorem ext_sp {w : W} : ¬ Ext w 32 := by
  have : ¬ (32 ∈ letters) ∧ ¬ (32 ∈ figures) ∧ ¬ (32 ∈ marks) := by decide
  rintro (z | z | z)
  · exact this.1 z.2
  · exact this.2.1 z.2
  · exact this.2.2 z.2
theorem isw_nn {w : W} (h : IsW w) : w ≠ [] := by obtain ⟨c, r, rfl, _⟩ := isw_ne h; simp
theorem spaced_ok {ws : List W} {x : AV} (hd : Hnd a h) (hv : ∀ h', Hx a h h' → Rd h' x ws) (hw : Ws ws) (q : ∀ l h', Hx a h h' → Sp ws l → l.length ≤ 100000 → Q (.str (mkS l)) h') : callN P (n+3) 97 [.adr a, x] h Q := by
  refine call_of U.f__law_spaced rfl ?_
  show WpSs (ctxOf P (callN P (n+2))) b_law_spaced _ [.val (.adr a), .val x, .no, .no, .no] h
  have hz := sz1
  push_cast [b_law_spaced]
  refine H3.take_ok hd (by decide) fun r1 h1 x1 hr1 => ?_
  push_cast [WpSs]
  refine ⟨by show 4 ≤ sizeLine; decide, ?_⟩
  refine H3.take_ok x1.hand (by decide) fun r2 h2 x2 hr2 => ?_
  refine k_pick (xs := [0, 0, 1, 2 + (r1 : Int)]) (by simp; omega) fun v hv1 => ?_
  have bv : 0 ≤ v ∧ v ≤ 6 := by
    simp only [List.mem_cons, List.not_mem_nil, or_false] at hv1
    omega
  obtain ⟨k, rfl⟩ := Int.eq_ofNat_of_zero_le bv.1
  push_cast [tlits, k_mulS, strRep_sp (j := (k : Int)) (by omega), Int.toNat_natCast, mkS_len]
  refine ⟨⟨by omega, by omega, by simp; omega⟩, ?_⟩
  have x12 := x1.trans x2
  refine k_lenW (hv _ x12) ?_
  push_cast [Int.toNat_natCast]
  have hn := hw.n
  refine ⟨⟨by omega, by omega⟩, ?_⟩
  refine for_inv (fun i ρ h' => Hx a h h' ∧ ∃ (l : W) (ok : Nat → Prop) (s3 s4 : Slot), ρ = [.val (.adr a), .val x, .val (.str (mkS l)), s3, s4] ∧ l.length ≤ 10 + 30 * i ∧
    (∀ ws' l', Sp ws' l' → (∀ c, l'.head? = some c → ok c) → Sp (ws.take i ++ ws') (l ++ l')) ∧ ∀ w, ws[i]? = some w → ∀ c, w.head? = some c → ok c)
    ⟨x12, List.replicate k 32, fun _ => True, _, _, rfl, by simp; omega, fun ws' l' s _ => by rw [List.take_zero, List.nil_append]; exact s.pre (fun c hc => (List.mem_replicate.mp hc).2), fun _ _ _ _ => trivial⟩ (fun _ _ _ _ _ => by trivial) ?_ ?_
  · rintro i y _ h3 D' hx ⟨x3, l, ok, s3, s4, rfl, hl, hs, hok⟩ kn kc kr kb
    obtain ⟨hi, rfl⟩ := items_range hx
    have rd := hv _ x3
    have hwi := wa_get hi
    have mem := List.getElem_mem hi
    have isw := hw.w _ mem
    have lw := hw.l _ mem
    obtain ⟨w, ew⟩ : ∃ w, w = ws[i] := ⟨_, rfl⟩
    rw [← ew] at hwi isw lw
    have gi : ws[i]? = some w := by rw [ew]; exact List.getElem?_eq_getElem hi
    push_cast [b_law_spaced_2]
    refine k_subW rd hi ?_
    rw [hwi]
    push_cast [mkS_len, mkS_app]
    refine ⟨by omega, ?_⟩
    refine H3.take_ok x3.hand (by decide) fun r3 h4 x4 hr3 => ?_
    push_cast [WpSs]
    refine ⟨by show 6 ≤ sizeLine; decide, ?_⟩
    refine H3.take_ok x4.hand (by decide) fun r4 h5 x5 hr4 => ?_
    refine k_pick (xs := [0, 0, 1, 1, 2, 2 + (r3 : Int)]) (by simp; omega) fun v hv1 => ?_
    have bv : 0 ≤ v ∧ v ≤ 7 := by
      simp only [List.mem_cons, List.not_mem_nil, or_false] at hv1
      omega
    have x5' := (x3.trans x4).trans x5
    have rd5 := hv _ x5'
    -- the text goes on
    have go : ∀ (k : Nat), k ≤ 7 → (k = 0 → ∀ w', ws[i + 1]? = some w' → ¬ Ext w (w'.head?.getD 0)) → WpSs (ctxOf P (callN P (n+2))) b_law_spaced_1 D' [.val (.adr a), .val x, .val (.str (mkS (l ++ w))), .val (.int (i : Int)), .val (.int (k : Int))] h5 := by
      intro k hk hj
      push_cast [b_law_spaced_1, tlits, k_mulS, strRep_sp (j := (k : Int)) (by omega), Int.toNat_natCast, mkS_len, mkS_app, List.length_append, List.length_replicate]
      refine ⟨⟨by omega, by omega, by simp; omega⟩, by omega, ?_⟩
      refine kn _ _ ⟨x5', (l ++ w) ++ List.replicate k 32, fun c => 0 < k ∨ ¬ Ext w c, _, _, rfl, by simp; omega, fun ws' l' s hc => ?_, fun w' hw' c hc => ?_⟩
      · have e1 : ws.take (i + 1) ++ ws' = ws.take i ++ (w :: ws') := by rw [List.take_succ, gi]; simp
        have e2 : (l ++ w) ++ List.replicate k 32 ++ l' = l ++ (w ++ (List.replicate k 32 ++ l')) := by simp
        rw [e1, e2]
        refine hs _ _ ?_ ?_
        · have s2 : Sp ws' (List.replicate k 32 ++ l') := s.pre (fun c hc => (List.mem_replicate.mp hc).2)
          refine .cons (s := []) (fun _ h => nomatch h) isw s2 fun c hc' z => ?_
          cases k with
          | zero =>
            have hc2 : l'.head? = some c := by simpa using hc'
            rcases hc c hc2 with q | q
            · exact absurd q (Nat.lt_irrefl _)
            · exact q z
          | succ k =>
            have : (32 : Nat) = c := by simpa [List.replicate_succ] using hc'
            subst this
            exact ext_sp z
        · intro c hc'
          refine hok w gi c ?_
          obtain ⟨d, r, e, _⟩ := isw_ne isw
          rw [e] at hc' ⊢
          exact hc'
      · by_cases k0 : k = 0
        · have := hj k0 w' hw'
          rw [hc] at this
          exact .inr this
        · exact .inl (by omega)
    obtain ⟨k, rfl⟩ := Int.eq_ofNat_of_zero_le bv.1
    push_cast [WpSs]
    refine ite_b (fun c0 => ?_) (fun c0 => go k (by omega) (fun z => absurd z (by omega)))
    have k0 : k = 0 := by omega
    subst k0
    refine k_lenW rd5 ?_
    push_cast [i1]
    refine ite_b (fun c1 => ?_) (fun c1 => go 0 (by omega) fun _ w' hw' => absurd (List.getElem?_eq_some_iff.mp hw').1 (by omega))
    refine k_subW rd5 hi ?_
    have hi2 : i + 1 < ws.length := by omega
    refine k_subW rd5 (i := i + 1) hi2 ?_
    rw [hwi]
    have hwi2 := wa_get hi2
    have isw2 := hw.w _ (List.getElem_mem hi2)
    have lw2 := hw.l _ (List.getElem_mem hi2)
    rw [← hwi2] at isw2 lw2
    refine joins_ok (isw_nn isw) (isw_nn isw2) (by omega) (by omega) fun r hr => ?_
    push_cast [WpSs]
    cases r with
    | true =>
      push_cast [if_true]
      exact go 1 (by omega) (fun z => absurd z (by omega))
    | false =>
      push_cast [Bool.false_eq_true, if_false]
      refine go 0 (by omega) fun _ w' hw' => ?_
      have : wa ws (i + 1) = w' := by unfold wa; rw [hw']; rfl
      rw [← this]
      exact hr rfl
  · rintro _ h' ⟨x', l, ok, s3, s4, rfl, hl, hs, _⟩
    push_cast [b_law_spaced_3]
    rw [List.length_map, List.length_range] at hl hs
    have s := hs [] [] (.nil fun _ h => nomatch h) (fun c hc => by cases hc)
    rw [List.take_length, List.append_nil, List.append_nil] at s
    exact q l h' x' s (by omega)
theorem read_ok {x : AV} {ws : List W} (r : Rd h x ws) {i : Nat} (q : Q (qT (termAt ws i)) h) : callN P (n+5) 98 [x, .int (i : Int)] h Q := by
  refine call_of U.f__law_read rfl ?_
  show WpSs (ctxOf P (callN P (n+4))) b_law_read _ [.val x, .val (.int (i : Int)), .no, .no, .no] h
  push_cast [b_law_read]
  refine read_list_ok r ?_
  have eo : ("[" : Str) = mkS brO := lits.2.2.1
  have ec : ("]" : Str) = mkS brC := lits.2.2.2.1
  unfold termAt at q
  have pl : Q (qT ((plainAt ws i).map fun r => (.pl r.1, r.2))) h → callN P (n+4) 31 [x, .int (i : Int)] h fun d h1 => Q d h1 := by
    intro q
    refine read_plain_ok r ?_
    have e : qT ((plainAt ws i).map fun r => (.pl r.1, r.2)) = qP (plainAt ws i) := by
      cases plainAt ws i with
      | none => rfl
      | some l => rfl
    rw [e] at q
    exact q
  cases e : listAt ws i with
  | none =>
    rw [e] at q
    push_cast [qL, if_true]
    exact pl q
  | some l =>
    obtain ⟨⟨w, o⟩, j⟩ := l
    rw [e] at q
    have q : Q (qT (if wa ws j = brO then Tm.cellOf ws ((w, o), j) else (plainAt ws i).map fun r => (.pl r.1, r.2))) h := q
    push_cast [qL, Bool.false_eq_true, if_false, eo]
    refine k_l1 ?_
    refine word_ok r ?_
    push_cast [mkS_eq]
    by_cases c : wa ws j = brO
    · rw [if_pos c] at q
      have d : decide (wa ws j = brO) = true := decide_eq_true c
      push_cast [d, Bool.not_true, Bool.false_eq_true, if_false, b_law_read_3, ec]
      refine k_l1 ?_
      push_cast [i1]
      refine read_plain_ok r ?_
      unfold Tm.cellOf at q
      cases e2 : plainAt ws (j + 1) with
      | none =>
        simp only [e2] at q
        push_cast [qP, if_true]
        exact q
      | some pk =>
        obtain ⟨ix, k⟩ := pk
        simp only [e2] at q
        push_cast [qP, Bool.false_eq_true, if_false]
        refine k_l1 ?_
        refine word_ok r ?_
        push_cast [mkS_eq]
        by_cases c2 : wa ws k = brC
        · rw [if_pos c2] at q
          have d : decide (wa ws k = brC) = true := decide_eq_true c2
          push_cast [d, Bool.not_true, Bool.false_eq_true, if_false, b_law_read_2]
          refine k_l1 ?_
          push_cast [i1]
          refine read_plus_ok r ?_
          cases e3 : plusAt ws (k + 1) with
          | none =>
            simp only [e3] at q
            push_cast [qI, if_true]
            exact q
          | some pm =>
            obtain ⟨p, m⟩ := pm
            simp only [e3] at q
            push_cast [qI, Bool.false_eq_true, if_false, b_law_read_1]
            refine k_l0 ?_
            refine k_l0 ?_
            refine k_l0 ⟨le4, ?_⟩
            refine k_l1 ⟨le2, ?_⟩
            exact q
        · rw [if_neg c2] at q
          have d : decide (wa ws k = brC) = false := decide_eq_false c2
          push_cast [d, Bool.not_false, if_true]
          exact q
    · rw [if_neg c] at q
      have d : decide (wa ws j = brO) = false := decide_eq_false c
      push_cast [d, Bool.not_false, if_true]
      exact pl q
end
end L3

set_option maxRecDepth 100000
set_option maxHeartbeats 4000000
namespace Pm
open PySem L2 VL Wd Tm Tw
local macro_rules
  | `(tactic| push_cast [$xs,*]) => `(tactic| try simp only [$xs,*, WpSs, WpS, WpE, WpEs, WpBs, WpO, WpN, WpI, WpC, WpT, getS, setS, tgK, setsS, wipeS, k_add, k_addT, k_sub, k_mul, k_fdiv, k_mod, k_neg, k_lt, k_le, k_gt, k_ge, k_eqI, k_neI, k_eqS, k_neS, k_eqB, k_neB, k_is, k_isn, isNon_non, isNon_int, isNon_str, isNon_lst, isNon_tup, isNon_adr, k_lenS, k_lenL, k_lenR, k_lenT, k_int, k_str, k_abs, tru_bl, augK, ctx_call, ctx_glob, k_in, k_nin, k_inS, k_addS, k_intB, isi_non_int, isi_non_bool, isi_non_str, isi_non_list, isi_non_tuple, isi_bl_int, isi_bl_bool, isi_bl_str, isi_bl_list, isi_bl_tuple, isi_int_int, isi_int_bool, isi_int_str, isi_int_list, isi_int_tuple, isi_str_int, isi_str_bool, isi_str_str, isi_str_list, isi_str_tuple, isi_tup_int, isi_tup_bool, isi_tup_str, isi_tup_list, isi_tup_tuple, isi_lst_int, isi_lst_bool, isi_lst_str, isi_lst_list, isi_lst_tuple, isi_ro_int, isi_ro_bool, isi_ro_str, isi_ro_list, isi_ro_tuple])
section
variable {P : Prg} [Wd.U P] [Tm.U P] [Cm.U P] {n : Nat} {x : AV} {ws : List W} {i : Nat} {h : AHeap} {Q : AV → AHeap → Prop}
theorem cmp_eq : Cm.comparing = SGN.map mkS := by decide +kernel
/-- whole, of anything -/
theorem whole_ok {α : Type} {f : α → AV} {r : Option (α × Nat)} {a : AV} (hr : Rd h x ws) (ha : a = match r with | none => .non | some (t, j) => .tup [f t, .int (j : Int)]) (q : Q (match wh ws r with | none => .non | some t => f t) h) : callN P (n+1) 7 [a, x] h Q := by
  subst ha
  refine call_of Tm.U.f_whole rfl ?_
  cases r with
  | none =>
    show WpSs (ctxOf P (callN P n)) Tm.b_whole _ [.val .non, .val x] h
    push_cast [Tm.b_whole, if_true]
    exact q
  | some p =>
    obtain ⟨t, j⟩ := p
    show WpSs (ctxOf P (callN P n)) Tm.b_whole _ [.val (.tup [f t, .int (j : Int)]), .val x] h
    have q : Q (match (if j = ws.length then some t else none) with | none => .non | some t => f t) h := q
    push_cast [Tm.b_whole, Bool.false_eq_true, if_false]
    refine k_t1 ?_
    refine k_lenW hr ?_
    push_cast [WpSs]
    by_cases c : j = ws.length
    · rw [if_pos c] at q
      have d : decide ((j : Int) = (ws.length : Int)) = true := decide_eq_true (by omega)
      push_cast [d, Bool.not_true, Bool.false_eq_true, if_false, Tm.b_whole_1]
      exact k_t0 q
    · rw [if_neg c] at q
      have d : decide ((j : Int) = (ws.length : Int)) = false := decide_eq_false (by omega)
      push_cast [d, Bool.not_false, if_true]
      exact q
theorem sgn_in {w : W} {h : AHeap} {ng : Bool} {Q : KA} (q : Q (.bl (if ng then !decide (w ∈ SGN) else decide (w ∈ SGN)))) : inK h ng (.str (mkS w)) (.tup (Cm.comparing.map AV.str)) Q := by
  refine in_wl (ws := SGN) ?_ (fun _ h => by cases h) q
  rw [cmp_eq, List.map_map]; rfl
theorem sgn_len {ws : List W} {j : Nat} (h : wa ws j ∈ SGN) : j < ws.length := wa_in fun e => by rw [e] at h; exact absurd h (by decide)
theorem cmp_at_ok (r : Rd h x ws) (q : Q (oC (cmpAt ws i)) h) : callN P (n+8) 49 [x, .int (i : Int)] h Q := by
  refine call_of Cm.U.f_comparison_at rfl ?_
  show WpSs (ctxOf P (callN P (n+7))) Cm.b_comparison_at _ [.val x, .val (.int (i : Int)), .no, .no] h
  push_cast [Cm.b_comparison_at, Cm.U.g_COMPARING]
  refine term_at_ok r ?_
  unfold cmpAt at q
  cases e : termAt ws i with
  | none =>
    simp only [e] at q
    push_cast [oT, if_true]
    exact q
  | some p =>
    obtain ⟨l, j⟩ := p
    simp only [e] at q
    push_cast [oT, Bool.false_eq_true, if_false]
    refine k_t1 ?_
    refine word_at_ok r ?_
    refine sgn_in ?_
    by_cases c : wa ws j ∈ SGN
    · rw [if_pos c] at q
      push_cast [c, decide_true, if_true, Bool.not_true, Bool.false_eq_true, if_false, Cm.b_comparison_at_2]
      refine k_t1 ?_
      push_cast [i1]
      refine term_at_ok r ?_
      cases e2 : termAt ws (j + 1) with
      | none =>
        simp only [e2] at q
        push_cast [oT, if_true]
        exact q
      | some p2 =>
        obtain ⟨rr, k⟩ := p2
        simp only [e2] at q
        push_cast [oT, Bool.false_eq_true, if_false, Cm.b_comparison_at_1]
        refine k_t1 ?_
        refine k_subW r (sgn_len c) ?_
        refine k_t0 ?_
        refine k_t0 ⟨le4, ?_⟩
        refine k_t1 ⟨le2, ?_⟩
        exact q
    · rw [if_neg c] at q
      push_cast [c, decide_false, if_true, Bool.not_false]
      exact q
end
end Pm

set_option maxRecDepth 100000
set_option maxHeartbeats 4000000
namespace Cd
open PySem L2 VL Wd Tm Tw Pm
def wNot : W := [110, 111, 116]
def wAnd : W := [97, 110, 100]
def pO : W := [40]
def pC : W := [41]
theorem clits : ("not" : Str) = mkS wNot ∧ ("and" : Str) = mkS wAnd ∧ ("or" : Str) = mkS wOr ∧ ("(" : Str) = mkS pO ∧ (")" : Str) = mkS pC := by decide +kernel
/-- conditions -/
inductive Cn where
  | cmp (c : Cmp) | no (c : Cn) | bin (o : Bool) (cs : List Cn)
def kW (o : Bool) : W := if o = true then wOr else wAnd
theorem kW_ne (o : Bool) : kW o ≠ [] := by cases o <;> decide
mutual
def Cn.av : Cn → AV
  | .cmp c => c.av
  | .no c => .tup [.str "not", c.av]
  | .bin o cs => .tup [.str (mkS (kW o)), .tup (Cn.avs cs)]
def Cn.avs : List Cn → List AV
  | [] => []
  | c :: cs => c.av :: Cn.avs cs
end
theorem avs_map : ∀ cs : List Cn, Cn.avs cs = cs.map Cn.av
  | [] => by simp [Cn.avs]
  | c :: cs => by rw [Cn.avs, avs_map cs, List.map_cons]
/-- parts with a word between them -/
def chain {α : Type} (p : Nat → Option (α × Nat)) (sep : W) (ws : List W) : Nat → Nat → Option (List α × Nat)
  | 0, _ => none
  | f + 1, i => match p i with
    | none => none
    | some (c, j) => if wa ws j = sep then (match chain p sep ws f (j + 1) with
      | none => none
      | some (cs, k) => some (c :: cs, k)) else some ([c], j)
def jn (o : Bool) : List Cn → Cn
  | [c] => c
  | cs => .bin o cs
def joinAt (o : Bool) (p : Nat → Option (Cn × Nat)) (ws : List W) (i : Nat) : Option (Cn × Nat) :=
  (chain p (kW o) ws (ws.length + 2) i).map fun r => (jn o r.1, r.2)
def cmpC (ws : List W) (i : Nat) : Option (Cn × Nat) := (cmpAt ws i).map fun r => (.cmp r.1, r.2)
/-- a part of a condition, so many parentheses and nots being allowed still -/
def partAt (ws : List W) : Nat → Nat → Option (Cn × Nat)
  | 0, i => if wa ws i ∈ [wNot, pO] then none else cmpC ws i
  | d + 1, i => if wa ws i ∈ [wNot, pO] then (if wa ws i = wNot then (match partAt ws d (i + 1) with
      | none => none
      | some (c, j) => some (.no c, j)) else (match joinAt true (joinAt false (partAt ws d) ws) ws (i + 1) with
      | none => none
      | some (c, j) => if wa ws j = pC then some (c, j + 1) else none)) else cmpC ws i
def andAt (ws : List W) (d i : Nat) := joinAt false (partAt ws d) ws i
def orAt (ws : List W) (d i : Nat) := joinAt true (andAt ws d) ws i
def condOf (ws : List W) : Option Cn := wh ws (orAt ws 8 0)
def oCn : Option (Cn × Nat) → AV
  | none => .non
  | some (c, j) => .tup [c.av, .int (j : Int)]
def oCv : Option Cn → AV
  | none => .non
  | some c => c.av
/-- readers go on -/
def Fwd {α : Type} (p : Nat → Option (α × Nat)) : Prop := ∀ i c j, p i = some (c, j) → i < j
theorem plus_fwd {ws : List W} {i j : Nat} {p : Int} (h : plusAt ws i = some (p, j)) : i ≤ j := by
  unfold plusAt at h
  repeat' split at h
  all_goals first | (cases h; done) | (simp only [Option.some.injEq, Prod.mk.injEq] at h; omega)
theorem signed_fwd {ws : List W} {i j : Nat} {p : Int} (h : signedAt ws i = some (p, j)) : i < j := by
  unfold signedAt at h
  repeat' split at h
  all_goals first | (cases h; done) | (simp only [Option.some.injEq, Prod.mk.injEq] at h; omega)
theorem named_fwd {k : Bool} {ws : List W} {i j : Nat} {p : Pl} (h : namedAt k ws i = some (p, j)) : i < j := by
  unfold namedAt at h
  split at h
  · cases h
  · rename_i p' j' e
    have := plus_fwd e
    split at h
    · simp only [Option.some.injEq, Prod.mk.injEq] at h; omega
    · cases h
theorem plain_fwd {ws : List W} : Fwd (plainAt ws) := by
  intro i c j h
  unfold plainAt at h
  split at h
  · rename_i n j' e
    have := signed_fwd e
    simp only [Option.some.injEq, Prod.mk.injEq] at h; omega
  · split at h
    · have := named_fwd h; omega
    · exact named_fwd h
theorem list_fwd {ws : List W} : Fwd (listAt ws) := by
  intro i c j h
  unfold listAt at h
  repeat' split at h
  all_goals first | (cases h; done) | (simp only [Option.some.injEq, Prod.mk.injEq] at h; omega)
theorem cell_fwd {ws : List W} {l : (W × Bool) × Nat} {j : Nat} {t : Te} (h : Tm.cellOf ws l = some (t, j)) : l.2 < j := by
  unfold Tm.cellOf at h
  split at h
  · cases h
  · rename_i ix k e
    have := plain_fwd _ _ _ e
    split at h
    · split at h
      · cases h
      · rename_i p m e2
        have := plus_fwd e2
        simp only [Option.some.injEq, Prod.mk.injEq] at h; omega
    · cases h
theorem term_fwd {ws : List W} : Fwd (termAt ws) := by
  intro i c j h
  have pl : ∀ c j, (plainAt ws i).map (fun r => ((.pl r.1 : Te), r.2)) = some (c, j) → i < j := by
    intro c j h
    obtain ⟨⟨a, b⟩, h1, h2⟩ := Option.map_eq_some_iff.mp h
    have := plain_fwd _ _ _ h1
    simp only [Prod.mk.injEq] at h2; omega
  unfold termAt at h
  split at h
  · exact pl _ _ h
  · rename_i l e
    have := list_fwd i l.1 l.2 e
    split at h
    · have := cell_fwd h; omega
    · exact pl _ _ h
theorem cmp_fwd {ws : List W} : Fwd (cmpAt ws) := by
  intro i c j h
  unfold cmpAt at h
  split at h
  · cases h
  · rename_i l k e
    have := term_fwd _ _ _ e
    split at h
    · split at h
      · cases h
      · rename_i r m e2
        have := term_fwd _ _ _ e2
        simp only [Option.some.injEq, Prod.mk.injEq] at h; omega
    · cases h
theorem cmpC_fwd {ws : List W} : Fwd (cmpC ws) := by
  intro i c j h
  obtain ⟨⟨a, b⟩, h1, h2⟩ := Option.map_eq_some_iff.mp h
  have := cmp_fwd _ _ _ h1
  simp only [Prod.mk.injEq] at h2; omega
theorem chain_fwd {α : Type} {p : Nat → Option (α × Nat)} {sep : W} {ws : List W} (hp : Fwd p) : ∀ f, Fwd (chain p sep ws f)
  | 0, i, c, j, h => by cases h
  | f + 1, i, c, j, h => by
    unfold chain at h
    split at h
    · cases h
    · rename_i c' j' e
      have := hp _ _ _ e
      split at h
      · split at h
        · cases h
        · rename_i cs k e2
          have := chain_fwd hp f _ _ _ e2
          simp only [Option.some.injEq, Prod.mk.injEq] at h; omega
      · simp only [Option.some.injEq, Prod.mk.injEq] at h; omega
theorem join_fwd {o : Bool} {p : Nat → Option (Cn × Nat)} {ws : List W} (hp : Fwd p) : Fwd (joinAt o p ws) := by
  intro i c j h
  obtain ⟨⟨a, b⟩, h1, h2⟩ := Option.map_eq_some_iff.mp h
  have := chain_fwd hp _ _ _ _ h1
  simp only [Prod.mk.injEq] at h2; omega
theorem part_fwd {ws : List W} : ∀ d, Fwd (partAt ws d)
  | 0, i, c, j, h => by
    unfold partAt at h
    split at h
    · cases h
    · exact cmpC_fwd _ _ _ h
  | d + 1, i, c, j, h => by
    unfold partAt at h
    split at h
    · split at h
      · split at h
        · cases h
        · rename_i c' j' e
          have := part_fwd d _ _ _ e
          simp only [Option.some.injEq, Prod.mk.injEq] at h; omega
      · split at h
        · cases h
        · rename_i c' j' e
          have := join_fwd (join_fwd (part_fwd d)) _ _ _ e
          split at h
          · simp only [Option.some.injEq, Prod.mk.injEq] at h; omega
          · cases h
    · exact cmpC_fwd _ _ _ h
theorem and_fwd {ws : List W} {d : Nat} : Fwd (andAt ws d) := join_fwd (part_fwd d)
/-- enough room: more makes no difference -/
theorem chain_room {α : Type} {p : Nat → Option (α × Nat)} {sep : W} {ws : List W} (hp : Fwd p) (hs : sep ≠ []) : ∀ f g i, ws.length < i + f → ws.length < i + g → 0 < f → 0 < g → chain p sep ws f i = chain p sep ws g i
  | f + 1, g + 1, i, h1, h2, _, _ => by
    unfold chain
    cases e : p i with
    | none => rfl
    | some r =>
      obtain ⟨c, j⟩ := r
      have := hp _ _ _ e
      by_cases c : wa ws j = sep
      · have : j < ws.length := wa_in (by rw [c]; exact hs)
        simp only [if_pos c]
        rw [chain_room hp hs f g (j + 1) (by omega) (by omega) (by omega) (by omega)]
      · simp only [if_neg c]
def cont {α : Type} (p : Nat → Option (α × Nat)) (sep : W) (ws : List W) (acc : List α) (j : Nat) : Option (List α × Nat) :=
  if wa ws j = sep then (match chain p sep ws (ws.length + 2) (j + 1) with
      | none => none
      | some (cs, k) => some (acc ++ cs, k)) else some (acc, j)
theorem chain_step {α : Type} {p : Nat → Option (α × Nat)} {sep : W} {ws : List W} (hp : Fwd p) (hs : sep ≠ []) (i : Nat) : chain p sep ws (ws.length + 2) i = match p i with
    | none => none
    | some (c, j) => cont p sep ws [c] j := by
  rw [chain]
  cases e : p i with
  | none => rfl
  | some r =>
    obtain ⟨c, j⟩ := r
    have := hp _ _ _ e
    unfold cont
    by_cases c : wa ws j = sep
    · have : j < ws.length := wa_in (by rw [c]; exact hs)
      simp only [if_pos c]
      rw [chain_room (ws := ws) hp hs (ws.length + 1) (ws.length + 2) (j + 1) (by omega) (by omega) (by omega) (by omega)]
      rfl
    · simp only [if_neg c]
theorem cont_none {α : Type} {p : Nat → Option (α × Nat)} {sep : W} {ws : List W} (hp : Fwd p) (hs : sep ≠ []) {acc : List α} {j : Nat} (c : wa ws j = sep) (e : p (j + 1) = none) : cont p sep ws acc j = none := by
  unfold cont
  rw [if_pos c, chain_step hp hs, e]
theorem cont_some {α : Type} {p : Nat → Option (α × Nat)} {sep : W} {ws : List W} (hp : Fwd p) (hs : sep ≠ []) {acc : List α} {j j' : Nat} {x : α} (c : wa ws j = sep) (e : p (j + 1) = some (x, j')) : cont p sep ws acc j = cont p sep ws (acc ++ [x]) j' := by
  rw [cont, if_pos c, chain_step hp hs, e]
  simp only [cont]
  by_cases c2 : wa ws j' = sep
  · simp only [if_pos c2]
    cases chain p sep ws (ws.length + 2) (j' + 1) with
    | none => rfl
    | some r => simp
  · simp only [if_neg c2]
theorem cont_end {α : Type} {p : Nat → Option (α × Nat)} {sep : W} {ws : List W} {acc : List α} {j : Nat} (c : ¬ wa ws j = sep) : cont p sep ws acc j = some (acc, j) := by
  rw [cont, if_neg c]
/-- the parts so far, and those from here on -/
def pre {α : Type} (p : Nat → Option (α × Nat)) (sep : W) (ws : List W) (acc : List α) (i : Nat) : Option (List α × Nat) :=
  (chain p sep ws (ws.length + 2) i).map fun r => (acc ++ r.1, r.2)
theorem pre_none {α : Type} {p : Nat → Option (α × Nat)} {sep : W} {ws : List W} (hp : Fwd p) (hs : sep ≠ []) {acc : List α} {i : Nat} (e : p i = none) : pre p sep ws acc i = none := by
  rw [pre, chain_step hp hs, e]; rfl
theorem pre_some {α : Type} {p : Nat → Option (α × Nat)} {sep : W} {ws : List W} (hp : Fwd p) (hs : sep ≠ []) {acc : List α} {i j : Nat} {c : α} (e : p i = some (c, j)) (h : wa ws j = sep) : pre p sep ws acc i = pre p sep ws (acc ++ [c]) (j + 1) := by
  rw [pre, chain_step hp hs, e]
  simp only [cont, if_pos h, pre]
  cases chain p sep ws (ws.length + 2) (j + 1) with
  | none => rfl
  | some r => simp
theorem pre_end {α : Type} {p : Nat → Option (α × Nat)} {sep : W} {ws : List W} (hp : Fwd p) (hs : sep ≠ []) {acc : List α} {i j : Nat} {c : α} (e : p i = some (c, j)) (h : ¬ wa ws j = sep) : pre p sep ws acc i = some (acc ++ [c], j) := by
  rw [pre, chain_step hp hs, e]
  simp only [cont, if_neg h, Option.map_some]
end Cd

set_option maxRecDepth 100000
set_option maxHeartbeats 4000000
namespace Cd
open PySem L2 VL Wd Tm Tw Pm
local macro_rules
  | `(tactic| push_cast [$xs,*]) => `(tactic| try simp only [$xs,*, WpSs, WpS, WpE, WpEs, WpBs, WpO, WpN, WpI, WpC, WpT, getS, setS, tgK, setsS, wipeS, k_add, k_addT, k_sub, k_mul, k_fdiv, k_mod, k_neg, k_lt, k_le, k_gt, k_ge, k_eqI, k_neI, k_eqS, k_neS, k_eqB, k_neB, k_is, k_isn, isNon_non, isNon_int, isNon_str, isNon_lst, isNon_tup, isNon_adr, k_lenS, k_lenL, k_lenR, k_lenT, k_int, k_str, k_abs, tru_bl, augK, ctx_call, ctx_glob, k_in, k_nin, k_inS, k_addS, k_intB, isi_non_int, isi_non_bool, isi_non_str, isi_non_list, isi_non_tuple, isi_bl_int, isi_bl_bool, isi_bl_str, isi_bl_list, isi_bl_tuple, isi_int_int, isi_int_bool, isi_int_str, isi_int_list, isi_int_tuple, isi_str_int, isi_str_bool, isi_str_str, isi_str_list, isi_str_tuple, isi_tup_int, isi_tup_bool, isi_tup_str, isi_tup_list, isi_tup_tuple, isi_lst_int, isi_lst_bool, isi_lst_str, isi_lst_list, isi_lst_tuple, isi_ro_int, isi_ro_bool, isi_ro_str, isi_ro_list, isi_ro_tuple])
section
variable {P : Prg} [Wd.U P] [Tm.U P] [Cm.U P] [U P] {n : Nat} {x : AV} {ws : List W} {i : Nat} {h : AHeap} {Q : AV → AHeap → Prop}
theorem le1 : 1 ≤ sizeLine := by decide
theorem joined_ok {o : Bool} {c : Cn} {cs : List Cn} (q : Q (jn o (c :: cs)).av h) : callN P (n+1) 87 [.str (mkS (kW o)), .lst ((c :: cs).map Cn.av)] h Q := by
  refine call_of U.f_joined rfl ?_
  show WpSs (ctxOf P (callN P n)) b_joined _ [.val (.str (mkS (kW o))), .val (.lst ((c :: cs).map Cn.av))] h
  push_cast [b_joined]
  cases cs with
  | nil =>
    have d : decide ((([c].map Cn.av).length : Int) = 1) = true := by simp
    push_cast [k_lenL, d, if_true]
    exact k_subL viewT_lst (fun _ h => by cases h) rfl q
  | cons c2 cs =>
    have d : decide ((((c :: c2 :: cs).map Cn.av).length : Int) = 1) = false := decide_eq_false (by simp; omega)
    push_cast [k_lenL, d, Bool.false_eq_true, if_false, b_joined_1]
    refine ⟨le2, ?_⟩
    have e : (jn o (c :: c2 :: cs)).av = .tup [.str (mkS (kW o)), .tup ((c :: c2 :: cs).map Cn.av)] := by
      show Cn.av (.bin o _) = _
      rw [Cn.av, avs_map]
    rw [e] at q
    exact q
theorem and_ok {p : Nat → Option (Cn × Nat)} {op : Int} (hp : Fwd p) (r : Rd h x ws) (hl : ws.length ≤ 100000) (hc : ∀ (i : Nat) (Q : AV → AHeap → Prop), Q (oCn (p i)) h → callN P (n+2) 86 [x, .int (i : Int), .int op] h Q) (q : Q (oCn (joinAt false p ws i)) h) : callN P (n+3) 88 [x, .int (i : Int), .int op] h Q := by
  refine call_of U.f_and_at rfl ?_
  show WpSs (ctxOf P (callN P (n+2))) b_and_at _ [.val x, .val (.int (i : Int)), .val (.int op), .no, .no] h
  have hs := kW_ne false
  have ew : ("and" : Str) = mkS (kW false) := clits.2.1
  unfold joinAt at q
  rw [chain_step hp hs] at q
  push_cast [b_and_at]
  refine hc i _ ?_
  cases e : p i with
  | none =>
    simp only [e, Option.map_none] at q
    push_cast [oCn, if_true]
    exact q
  | some cj =>
    obtain ⟨c, j⟩ := cj
    simp only [e] at q
    push_cast [oCn, Bool.false_eq_true, if_false, b_and_at_4]
    refine k_t0 ⟨le1, ?_⟩
    refine wh_inv (fun m ρ h' => h' = h ∧ ∃ (j : Nat) (c : Cn) (a : Cn) (acc : List Cn), m = ws.length + 1 - j ∧ ρ = [.val x, .val (.int (i : Int)), .val (.int op), .val (.tup [c.av, .int (j : Int)]), .own (.lst ((a :: acc).map Cn.av))] ∧ acc.length ≤ j ∧ Q (oCn ((cont p (kW false) ws (a :: acc) j).map fun r => (jn false r.1, r.2))) h) _ ⟨rfl, j, c, c, [], rfl, rfl, Nat.zero_le _, q⟩ ?_
    rintro m _ _ D' ⟨rfl, j, c, a, acc, rfl, rfl, al, q⟩ kn kc kr kb
    push_cast [ew]
    refine k_t1 ?_
    refine word_at_ok r ?_
    push_cast [mkS_eq]
    refine ite_b (fun cc => ?_) (fun cc => ?_)
    · have jl : j < ws.length := wa_in (by rw [cc]; exact hs)
      push_cast [b_and_at_2]
      refine k_t1 ?_
      push_cast [i1]
      refine hc _ _ ?_
      cases e2 : p (j + 1) with
      | none =>
        rw [cont_none hp hs cc e2] at q
        push_cast [oCn, if_true]
        exact kr _ _ q
      | some cj2 =>
        obtain ⟨c2, j2⟩ := cj2
        have := hp _ _ _ e2
        rw [cont_some hp hs cc e2] at q
        push_cast [oCn, Bool.false_eq_true, if_false, b_and_at_1]
        refine k_t0 ?_
        refine ⟨by rw [List.length_map]; simp only [List.length_cons]; have : sizeLine = 16777216 := rfl; omega, ?_⟩
        exact kn (ws.length + 1 - j2) _ _ (by omega) ⟨rfl, j2, c2, a, acc ++ [c2], rfl, by simp, by simp; omega, q⟩
    · rw [cont_end cc] at q
      push_cast [b_and_at_3, ew]
      refine joined_ok ?_
      refine k_t1 ⟨le2, ?_⟩
      exact q
theorem or_ok {p : Nat → Option (Cn × Nat)} {op : Int} (hp : Fwd p) (r : Rd h x ws) (hl : ws.length ≤ 100000) (hc : ∀ (i : Nat) (Q : AV → AHeap → Prop), Q (oCn (p i)) h → callN P (n+2) 88 [x, .int (i : Int), .int op] h Q) (q : Q (oCn (joinAt true p ws i)) h) : callN P (n+3) 89 [x, .int (i : Int), .int op] h Q := by
  refine call_of U.f_or_at rfl ?_
  show WpSs (ctxOf P (callN P (n+2))) b_or_at _ [.val x, .val (.int (i : Int)), .val (.int op), .no, .no] h
  have hs := kW_ne true
  have ew : ("or" : Str) = mkS (kW true) := clits.2.2.1
  unfold joinAt at q
  rw [chain_step hp hs] at q
  push_cast [b_or_at]
  refine hc i _ ?_
  cases e : p i with
  | none =>
    simp only [e, Option.map_none] at q
    push_cast [oCn, if_true]
    exact q
  | some cj =>
    obtain ⟨c, j⟩ := cj
    simp only [e] at q
    push_cast [oCn, Bool.false_eq_true, if_false, b_or_at_4]
    refine k_t0 ⟨le1, ?_⟩
    refine wh_inv (fun m ρ h' => h' = h ∧ ∃ (j : Nat) (c : Cn) (a : Cn) (acc : List Cn), m = ws.length + 1 - j ∧ ρ = [.val x, .val (.int (i : Int)), .val (.int op), .val (.tup [c.av, .int (j : Int)]), .own (.lst ((a :: acc).map Cn.av))] ∧ acc.length ≤ j ∧ Q (oCn ((cont p (kW true) ws (a :: acc) j).map fun r => (jn true r.1, r.2))) h) _ ⟨rfl, j, c, c, [], rfl, rfl, Nat.zero_le _, q⟩ ?_
    rintro m _ _ D' ⟨rfl, j, c, a, acc, rfl, rfl, al, q⟩ kn kc kr kb
    push_cast [ew]
    refine k_t1 ?_
    refine word_at_ok r ?_
    push_cast [mkS_eq]
    refine ite_b (fun cc => ?_) (fun cc => ?_)
    · have jl : j < ws.length := wa_in (by rw [cc]; exact hs)
      push_cast [b_or_at_2]
      refine k_t1 ?_
      push_cast [i1]
      refine hc _ _ ?_
      cases e2 : p (j + 1) with
      | none =>
        rw [cont_none hp hs cc e2] at q
        push_cast [oCn, if_true]
        exact kr _ _ q
      | some cj2 =>
        obtain ⟨c2, j2⟩ := cj2
        have := hp _ _ _ e2
        rw [cont_some hp hs cc e2] at q
        push_cast [oCn, Bool.false_eq_true, if_false, b_or_at_1]
        refine k_t0 ?_
        refine ⟨by rw [List.length_map]; simp only [List.length_cons]; have : sizeLine = 16777216 := rfl; omega, ?_⟩
        exact kn (ws.length + 1 - j2) _ _ (by omega) ⟨rfl, j2, c2, a, acc ++ [c2], rfl, by simp, by simp; omega, q⟩
    · rw [cont_end cc] at q
      push_cast [b_or_at_3, ew]
      refine joined_ok ?_
      refine k_t1 ⟨le2, ?_⟩
      exact q
/-! parts -/
theorem cmpC_av (i : Nat) : oC (cmpAt ws i) = oCn (cmpC ws i) := by
  unfold cmpC
  cases cmpAt ws i with
  | none => rfl
  | some r => simp [oC, oCn, Cn.av]
theorem part_ok (r : Rd h x ws) (hl : ws.length ≤ 100000) : ∀ (d : Nat), d ≤ 8 → ∀ (n i : Nat) (Q : AV → AHeap → Prop), Q (oCn (partAt ws d i)) h → callN P (n + (3 * d + 7) + 2) 86 [x, .int (i : Int), .int (8 - (d : Int))] h Q
  | 0, _, n, i, Q, q => by
    refine call_of U.f_part_at rfl ?_
    show WpSs (ctxOf P (callN P (n+8))) b_part_at _ [.val x, .val (.int (i : Int)), .val (.int (8 - ((0 : Nat) : Int))), .no, .no] h
    unfold partAt at q
    push_cast [b_part_at, clits]
    refine word_at_ok r ?_
    refine ⟨le2, ?_⟩
    refine in2 (a := wNot) (b := pO) rfl (fun _ h => by cases h) ?_
    simp only [if_true]
    by_cases c : wa ws i ∈ [wNot, pO]
    · rw [if_pos c] at q
      have d : decide ((8 : Int) - ((0 : Nat) : Int) = 8) = true := decide_eq_true (by omega)
      push_cast [c, decide_true, Bool.not_true, Bool.false_eq_true, if_false, b_part_at_5, U.g_MOST_OPEN, d, if_true]
      exact q
    · rw [if_neg c, ← cmpC_av] at q
      push_cast [c, decide_false, Bool.not_false, if_true]
      exact cmp_at_ok r q
  | d + 1, hd, n, i, Q, q => by
    refine call_of U.f_part_at rfl ?_
    show WpSs (ctxOf P (callN P (n + (3 * d + 7) + 4))) b_part_at _ [.val x, .val (.int (i : Int)), .val (.int (8 - ((d + 1 : Nat) : Int))), .no, .no] h
    unfold partAt at q
    push_cast [b_part_at, clits]
    refine word_at_ok r ?_
    refine ⟨le2, ?_⟩
    refine in2 (a := wNot) (b := pO) rfl (fun _ h => by cases h) ?_
    simp only [if_true]
    by_cases c : wa ws i ∈ [wNot, pO]
    · rw [if_pos c] at q
      have d8 : decide ((8 : Int) - ((d + 1 : Nat) : Int) = 8) = false := decide_eq_false (by omega)
      have op : (8 : Int) - ((d + 1 : Nat) : Int) + 1 = 8 - (d : Int) := by omega
      push_cast [c, decide_true, Bool.not_true, Bool.false_eq_true, if_false, b_part_at_5, b_part_at_4, U.g_MOST_OPEN, d8, clits, mkS_eq]
      refine ite_b (fun c1 => ?_) (fun c1 => ?_)
      · rw [if_pos c1] at q
        push_cast [i1, op]
        have hr := part_ok r hl d (by omega) (n + 2) (i + 1)
        have e9 : n + 2 + (3 * d + 7) + 2 = n + (3 * d + 7) + 4 := by omega
        rw [e9] at hr
        refine hr _ ?_
        cases e : partAt ws d (i + 1) with
        | none =>
          simp only [e] at q
          push_cast [oCn, if_true]
          exact q
        | some cj =>
          obtain ⟨c, j⟩ := cj
          simp only [e] at q
          push_cast [oCn, Bool.false_eq_true, if_false, b_part_at_1]
          refine k_t0 ⟨le2, ?_⟩
          refine k_t1 ⟨le2, ?_⟩
          exact q
      · rw [if_neg c1] at q
        push_cast [b_part_at_3, i1, op, clits]
        refine or_ok (p := joinAt false (partAt ws d) ws) (n := n + (3 * d + 7) + 1) (join_fwd (part_fwd d)) r hl (fun i Q q => ?_) ?_
        · refine and_ok (p := partAt ws d) (n := n + (3 * d + 7)) (part_fwd d) r hl (fun i Q q => ?_) q
          exact part_ok r hl d (by omega) n i Q q
        · cases e : joinAt true (joinAt false (partAt ws d) ws) ws (i + 1) with
          | none =>
            simp only [e] at q
            push_cast [oCn, if_true]
            exact q
          | some cj =>
            obtain ⟨c, j⟩ := cj
            simp only [e] at q
            push_cast [oCn, Bool.false_eq_true, if_false]
            refine k_t1 ?_
            refine word_at_ok r ?_
            push_cast [mkS_eq]
            by_cases c3 : wa ws j = pC
            · rw [if_pos c3] at q
              have d : decide (wa ws j = pC) = true := decide_eq_true c3
              push_cast [d, Bool.not_true, Bool.false_eq_true, if_false, b_part_at_2]
              refine k_t0 ?_
              refine k_t1 ?_
              push_cast [i1]
              exact ⟨le2, q⟩
            · rw [if_neg c3] at q
              have d : decide (wa ws j = pC) = false := decide_eq_false c3
              push_cast [d, Bool.not_false, if_true]
              exact q
    · rw [if_neg c, ← cmpC_av] at q
      push_cast [c, decide_false, Bool.not_false, if_true]
      refine cmp_at_ok (n := n + (3 * d + 7) + 4 - 8) r ?_
      exact q
theorem condition_of_ok (r : Rd h x ws) (hl : ws.length ≤ 100000) (q : Q (oCv (condOf ws)) h) : callN P (n+36) 90 [x] h Q := by
  refine call_of U.f_condition_of rfl ?_
  show WpSs (ctxOf P (callN P (n+35))) b_condition_of _ [.val x] h
  push_cast [b_condition_of]
  refine or_ok (p := andAt ws 8) (n := n + 32) (i := 0) and_fwd r hl (fun i Q q => and_ok (p := partAt ws 8) (n := n + 31) (part_fwd 8) r hl (fun i Q q => part_ok r hl 8 (by decide) n i Q q) q) ?_
  refine whole_ok (f := Cn.av) (r := orAt ws 8 0) r ?_ ?_
  · show oCn (orAt ws 8 0) = _
    cases orAt ws 8 0 with
    | none => rfl
    | some r => rfl
  · unfold condOf at q
    cases e : wh ws (orAt ws 8 0) with
    | none => rw [e] at q; exact q
    | some r => rw [e] at q; exact q
end
end Cd

set_option maxRecDepth 100000
set_option maxHeartbeats 4000000
namespace Pm
open PySem L2 VL Wd Tm Tw
def Cmp.Ok (c : Cmp) : Prop := c.s ∈ SGN ∧ Te.Ok c.l ∧ Te.Ok c.r
def Ls.Ok (l : Ls) : Prop := nameOk l.1 = true
def Pr.Ok : Pr → Prop
  | .cmp c => c.Ok
  | .either c d => c.Ok ∧ d.Ok
  | .all l lo hi s t => Ls.Ok l ∧ Pl.Ok lo ∧ Pl.Ok hi ∧ s ∈ SGN ∧ Pl.Ok t
  | .mtc l lo hi s o p => Ls.Ok l ∧ Pl.Ok lo ∧ Pl.Ok hi ∧ s ∈ SGN ∧ Ls.Ok o ∧ Bd p
  | .srt l lo hi => Ls.Ok l ∧ Pl.Ok lo ∧ Pl.Ok hi
  | .blw l lo hi o low high => Ls.Ok l ∧ Pl.Ok lo ∧ Pl.Ok hi ∧ Ls.Ok o ∧ Pl.Ok low ∧ Pl.Ok high
/-! ### words -/
def cmpW (c : Cmp) : List W := teW c.l ++ (c.s :: teW c.r)
def rangeW (lo hi : Pl) : List W := wFrom :: (plW lo ++ (wTo :: plW hi))
def rngW (l : Ls) (lo hi : Pl) : List W := lW l.1 l.2 ++ rangeW lo hi
def atW (l : Ls) (n : W) : List W := lW l.1 l.2 ++ [brO, n, brC]
def prW (n : W) : Pr → List W
  | .cmp c => cmpW c
  | .either c d => wEither :: (cmpW c ++ (wOr :: cmpW d))
  | .all l lo hi s t => wAll :: n :: (rangeW lo hi ++ (colon :: (atW l n ++ (s :: plW t))))
  | .mtc l lo hi s o p => wAll :: n :: (rangeW lo hi ++ (colon :: (atW l n ++ (s :: (atW o n ++ pW p)))))
  | .srt l lo hi => wSorted :: rngW l lo hi
  | .blw l lo hi o low high => wBelow :: (rngW l lo hi ++ (comma :: rngW o low high))
/-! ### read back -/
theorem sgn_bh {s : W} (h : s ∈ SGN) (B : List W) : Bh (s :: B) := by
  have k : ∀ s ∈ SGN, s ≠ sgP ∧ s ≠ sgM ∧ s ≠ brO := by decide
  have := k s h
  exact ⟨⟨this.1, this.2.1⟩, this.2.2⟩
theorem cmp_read {ws B : List W} {i : Nat} {c : Cmp} (b : c.Ok) (h : At ws i (cmpW c ++ B)) (n : Bh B) : cmpAt ws i = some (c, i + (cmpW c).length) ∧ At ws (i + (cmpW c).length) B := by
  obtain ⟨s, l, r⟩ := c
  obtain ⟨b1, b2, b3⟩ := b
  have h : At ws i (teW l ++ (s :: (teW r ++ B))) := by
    have e : cmpW ⟨s, l, r⟩ ++ B = teW l ++ (s :: (teW r ++ B)) := by simp [cmpW]
    rw [← e]; exact h
  obtain ⟨e1, h1⟩ := term_read b2 h (sgn_bh b1 _)
  have w1 : wa ws (i + (teW l).length) = s := h1.wa
  obtain ⟨e2, h2⟩ := term_read b3 h1.next n
  have len : i + (cmpW ⟨s, l, r⟩).length = i + (teW l).length + 1 + (teW r).length := by simp [cmpW]; omega
  rw [len]
  refine ⟨?_, h2⟩
  unfold cmpAt
  have b1 : s ∈ SGN := b1
  simp only [e1, w1, if_pos b1, e2]
theorem range_read {ws B : List W} {i : Nat} {lo hi : Pl} (b1 : Pl.Ok lo) (b2 : Pl.Ok hi) (h : At ws i (rangeW lo hi ++ B)) (n : noP B) : rangeAt ws i = some ((lo, hi), i + (rangeW lo hi).length) ∧ At ws (i + (rangeW lo hi).length) B := by
  have h : At ws i (wFrom :: (plW lo ++ (wTo :: (plW hi ++ B)))) := by
    have e : rangeW lo hi ++ B = wFrom :: (plW lo ++ (wTo :: (plW hi ++ B))) := by simp [rangeW]
    rw [← e]; exact h
  have w0 : wa ws i = wFrom := h.wa
  obtain ⟨e1, h1⟩ := plain_read b1 h.next ⟨by show wTo ≠ sgP; decide, by show wTo ≠ sgM; decide⟩
  have w1 : wa ws (i + 1 + (plW lo).length) = wTo := h1.wa
  obtain ⟨e2, h2⟩ := plain_read b2 h1.next n
  have len : i + (rangeW lo hi).length = i + 1 + (plW lo).length + 1 + (plW hi).length := by simp [rangeW]; omega
  rw [len]
  refine ⟨?_, h2⟩
  unfold rangeAt
  simp only [w0, if_true, e1, w1, e2]
theorem rng_read {ws B : List W} {i : Nat} {l : Ls} {lo hi : Pl} (b0 : Ls.Ok l) (b1 : Pl.Ok lo) (b2 : Pl.Ok hi) (h : At ws i (rngW l lo hi ++ B)) (n : noP B) : rngAt ws i = some ((l, lo, hi), i + (rngW l lo hi).length) ∧ At ws (i + (rngW l lo hi).length) B := by
  have h : At ws i (lW l.1 l.2 ++ (rangeW lo hi ++ B)) := by
    have e : rngW l lo hi ++ B = lW l.1 l.2 ++ (rangeW lo hi ++ B) := by simp [rngW]
    rw [← e]; exact h
  obtain ⟨e1, h1⟩ := list_read b0 h
  obtain ⟨e2, h2⟩ := range_read b1 b2 h1 n
  have len : i + (rngW l lo hi).length = i + (lW l.1 l.2).length + (rangeW lo hi).length := by simp [rngW]; omega
  rw [len]
  refine ⟨?_, h2⟩
  unfold rngAt
  simp only [e1, e2]
theorem place_read {ws B : List W} {i : Nat} {l : Ls} {n : W} (b : Ls.Ok l) (h : At ws i (atW l n ++ B)) : placeAt ws i n = some (l, i + (atW l n).length) ∧ At ws (i + (atW l n).length) B := by
  have h : At ws i (lW l.1 l.2 ++ (brO :: n :: brC :: B)) := by
    have e : atW l n ++ B = lW l.1 l.2 ++ (brO :: n :: brC :: B) := by simp [atW]
    rw [← e]; exact h
  obtain ⟨e1, h1⟩ := list_read b h
  have len : i + (atW l n).length = i + (lW l.1 l.2).length + 3 := by simp [atW]; omega
  rw [len]
  refine ⟨?_, h1.next.next.next⟩
  unfold placeAt
  have t : (ws.drop (i + (lW l.1 l.2).length)).take 3 = [brO, n, brC] := by
    rw [show ws.drop (i + (lW l.1 l.2).length) = _ from h1]; rfl
  simp only [e1, t, if_true]
theorem place_none {ws B : List W} {i : Nat} {p : Pl} {n : W} (b : Pl.Ok p) (h : At ws i (plW p ++ B)) (nb : Bh B) : placeAt ws i n = none := by
  have nl := list_not b h nb
  unfold placeAt
  cases e : listAt ws i with
  | none => rfl
  | some l =>
    have := nl l e
    show (if (ws.drop l.2).take 3 = [brO, n, brC] then _ else none) = none
    rw [if_neg]
    intro z
    apply this
    have : (ws.drop l.2).head? = some brO := by
      have : ((ws.drop l.2).take 3).head? = some brO := by rw [z]; rfl
      rw [List.head?_take] at this
      simpa using this
    unfold wa
    rw [List.head?_drop] at this
    rw [this]; rfl
theorem bh_nil : Bh [] := ⟨⟨by decide, by decide⟩, by decide⟩
theorem nop_nil : noP [] := bh_nil.p
theorem first_word {ws B : List W} {w : W} (h : At ws 0 (w :: B)) : wa ws 0 = w := h.wa
/-- the words of a term never begin as a promise's do -/
theorem te_first {t : Te} (b : Te.Ok t) (B : List W) : hw (teW t ++ B) ∉ [wEither, wAll, wSorted, wBelow] := by
  have nn : ∀ {w : W}, (nameOk w = true ∨ w = wRes) → w ∉ [wEither, wAll, wSorted, wBelow] := fun {w} h z => by
    have k : ∀ w ∈ [wEither, wAll, wSorted, wBelow], nameOk w = false ∧ w ≠ wRes := by decide +kernel
    have := k w z
    rcases h with h | h
    · rw [this.1] at h; cases h
    · exact this.2 h
  have nd : ∀ {w : W}, numOk w = true → w ∉ [wEither, wAll, wSorted, wBelow] := fun {w} h z => by
    have k : ∀ w ∈ [wEither, wAll, wSorted, wBelow], numOk w = false := by decide +kernel
    rw [k w z] at h; cases h
  have lit : ∀ w ∈ [wLen, wOld, sgM], w ∉ [wEither, wAll, wSorted, wBelow] := by decide
  cases t with
  | pl p =>
    cases p with
    | num k =>
      have b : Bd k := b
      show hw (nW k ++ B) ∉ _
      unfold nW
      rcases bd_cases b with ⟨m, hm, rfl⟩ | ⟨m, h0, hm, rfl⟩
      · rw [if_neg (by omega)]; exact nd (dg_num hm)
      · rw [if_pos (by omega)]; exact lit sgM (by decide)
    | var w p => exact nn b.1
    | len w p => exact lit wLen (by decide)
  | cell w o ix p =>
    cases o with
    | false => exact nn (.inl b.1)
    | true => exact lit wOld (by decide)
theorem all_read {ws : List W} {n : W} {l : Ls} {lo hi : Pl} {s : W} {t : Pl} (hn : nameOk n = true) (b : Pr.Ok (.all l lo hi s t)) (h : At ws 0 (prW n (.all l lo hi s t))) : allAt ws = some (.all l lo hi s t, (prW n (.all l lo hi s t)).length) := by
  obtain ⟨b0, b1, b2, b3, b4⟩ := b
  have h : At ws 0 (wAll :: n :: (rangeW lo hi ++ (colon :: (atW l n ++ (s :: (plW t ++ [])))))) := by rw [List.append_nil]; exact h
  have w1 : wa ws 1 = n := h.next.wa
  obtain ⟨e1, h1⟩ := range_read b1 b2 h.next.next ⟨by show colon ≠ sgP; decide, by show colon ≠ sgM; decide⟩
  have w2 : wa ws (0 + 1 + 1 + (rangeW lo hi).length) = colon := h1.wa
  obtain ⟨e2, h2⟩ := place_read b0 h1.next
  have w3 : wa ws (0 + 1 + 1 + (rangeW lo hi).length + 1 + (atW l n).length) = s := h2.wa
  have e3 := place_none (n := n) b4 h2.next bh_nil
  obtain ⟨e4, h4⟩ := plain_read b4 h2.next nop_nil
  unfold allAt
  simp only [w1, hn, if_true]
  have e1 : rangeAt ws 2 = _ := e1
  simp only [e1, w2, if_true, e2, w3, if_pos b3, e3, e4]
  congr 2
  simp [prW]
  omega
theorem mtc_read {ws : List W} {n : W} {l : Ls} {lo hi : Pl} {s : W} {o : Ls} {p : Int} (hn : nameOk n = true) (b : Pr.Ok (.mtc l lo hi s o p)) (h : At ws 0 (prW n (.mtc l lo hi s o p))) : allAt ws = some (.mtc l lo hi s o p, (prW n (.mtc l lo hi s o p)).length) := by
  obtain ⟨b0, b1, b2, b3, b4, b5⟩ := b
  have h : At ws 0 (wAll :: n :: (rangeW lo hi ++ (colon :: (atW l n ++ (s :: (atW o n ++ (pW p ++ []))))))) := by rw [List.append_nil]; exact h
  have w1 : wa ws 1 = n := h.next.wa
  obtain ⟨e1, h1⟩ := range_read b1 b2 h.next.next ⟨by show colon ≠ sgP; decide, by show colon ≠ sgM; decide⟩
  have w2 : wa ws (0 + 1 + 1 + (rangeW lo hi).length) = colon := h1.wa
  obtain ⟨e2, h2⟩ := place_read b0 h1.next
  have w3 : wa ws (0 + 1 + 1 + (rangeW lo hi).length + 1 + (atW l n).length) = s := h2.wa
  obtain ⟨e3, h3⟩ := place_read b4 h2.next
  obtain ⟨e4, h4⟩ := plus_read b5 h3 nop_nil
  unfold allAt
  simp only [w1, hn, if_true]
  have e1 : rangeAt ws 2 = _ := e1
  simp only [e1, w2, if_true, e2, w3, if_pos b3, e3, e4]
  congr 2
  simp [prW]
  omega
/-- the words of a promise, whatever the name behind all -/
theorem promise_read {n : W} {p : Pr} (hn : nameOk n = true) (b : p.Ok) : promiseAt (prW n p) = some (p, (prW n p).length) := by
  have h0 : At (prW n p) 0 (prW n p) := List.drop_zero ..
  cases p with
  | cmp c =>
    have h : At (cmpW c) 0 (cmpW c ++ []) := by rw [List.append_nil]; exact List.drop_zero ..
    obtain ⟨e, _⟩ := cmp_read b h bh_nil
    have nf : wa (cmpW c) 0 ∉ [wEither, wAll, wSorted, wBelow] := by
      have h' : At (cmpW c) 0 (teW c.l ++ (c.s :: teW c.r)) := List.drop_zero ..
      rw [h'.wa]
      exact te_first b.2.1 _
    simp only [List.mem_cons, List.not_mem_nil, or_false, not_or] at nf
    unfold promiseAt
    show (if wa (cmpW c) 0 = wEither then _ else if wa (cmpW c) 0 = wAll then _ else if wa (cmpW c) 0 = wSorted then _ else if wa (cmpW c) 0 = wBelow then _ else (cmpAt (cmpW c) 0).map _) = _
    rw [if_neg nf.1, if_neg nf.2.1, if_neg nf.2.2.1, if_neg nf.2.2.2, e, Nat.zero_add]
    rfl
  | either c d =>
    obtain ⟨b1, b2⟩ := b
    have h : At (prW n (.either c d)) 0 (wEither :: (cmpW c ++ (wOr :: (cmpW d ++ [])))) := by rw [List.append_nil]; exact h0
    obtain ⟨e1, h1⟩ := cmp_read b1 h.next ⟨⟨by show wOr ≠ sgP; decide, by show wOr ≠ sgM; decide⟩, by show wOr ≠ brO; decide⟩
    have w1 : wa (prW n (.either c d)) (0 + 1 + (cmpW c).length) = wOr := h1.wa
    obtain ⟨e2, h2⟩ := cmp_read b2 h1.next bh_nil
    unfold promiseAt
    rw [if_pos (first_word h)]
    unfold eitherAt
    have e1 : cmpAt (prW n (.either c d)) 1 = _ := e1
    simp only [e1, w1, if_true, e2]
    congr 2
    simp [prW]
    omega
  | all l lo hi s t =>
    unfold promiseAt
    have w0 : wa (prW n (.all l lo hi s t)) 0 = wAll := first_word h0
    rw [if_neg (by rw [w0]; decide), if_pos w0]
    exact all_read hn b h0
  | mtc l lo hi s o p =>
    unfold promiseAt
    have w0 : wa (prW n (.mtc l lo hi s o p)) 0 = wAll := first_word h0
    rw [if_neg (by rw [w0]; decide), if_pos w0]
    exact mtc_read hn b h0
  | srt l lo hi =>
    obtain ⟨b0, b1, b2⟩ := b
    have h : At (prW n (.srt l lo hi)) 0 (wSorted :: (rngW l lo hi ++ [])) := by rw [List.append_nil]; exact h0
    obtain ⟨e1, h1⟩ := rng_read b0 b1 b2 h.next nop_nil
    have w0 : wa (prW n (.srt l lo hi)) 0 = wSorted := first_word h0
    unfold promiseAt
    rw [if_neg (by rw [w0]; decide), if_neg (by rw [w0]; decide), if_pos w0]
    unfold sortedAt
    have e1 : rngAt (prW n (.srt l lo hi)) 1 = _ := e1
    simp only [e1]
    congr 2
    simp [prW]
    omega
  | blw l lo hi o low high =>
    obtain ⟨b0, b1, b2, b3, b4, b5⟩ := b
    have h : At (prW n (.blw l lo hi o low high)) 0 (wBelow :: (rngW l lo hi ++ (comma :: (rngW o low high ++ [])))) := by rw [List.append_nil]; exact h0
    obtain ⟨e1, h1⟩ := rng_read b0 b1 b2 h.next ⟨by show comma ≠ sgP; decide, by show comma ≠ sgM; decide⟩
    have w1 : wa (prW n (.blw l lo hi o low high)) (0 + 1 + (rngW l lo hi).length) = comma := h1.wa
    obtain ⟨e2, h2⟩ := rng_read b3 b4 b5 h1.next nop_nil
    have w0 : wa (prW n (.blw l lo hi o low high)) 0 = wBelow := first_word h0
    unfold promiseAt
    rw [if_neg (by rw [w0]; decide), if_neg (by rw [w0]; decide), if_neg (by rw [w0]; decide), if_pos w0]
    unfold belowAt
    have e1 : rngAt (prW n (.blw l lo hi o low high)) 1 = _ := e1
    simp only [e1, w1, if_true, e2]
    congr 2
    simp [prW]
    omega
def IsAll : Pr → Prop
  | .all _ _ _ _ _ => True
  | .mtc _ _ _ _ _ _ => True
  | _ => False
theorem wh_all {α : Type} {ws : List W} {x : α} : wh ws (some (x, ws.length)) = some x := by
  unfold wh
  show (if ws.length = ws.length then some x else none) = _
  rw [if_pos rfl]
theorem promise_back {n : W} {p : Pr} (hn : nameOk n = true) (b : p.Ok) (h : n ∉ used p) : promiseOf (prW n p) = some p := by
  unfold promiseOf
  rw [promise_read hn b, wh_all]
  show (if (if wa (prW n p) 0 = wAll then wa (prW n p) 1 else []) ∈ used p then none else some p) = _
  rw [if_neg]
  intro z
  cases p with
  | all l lo hi s t =>
    have h0 : At (prW n (.all l lo hi s t)) 0 (wAll :: n :: _) := List.drop_zero ..
    rw [if_pos (first_word h0)] at z
    have : wa (prW n (.all l lo hi s t)) 1 = n := h0.next.wa
    rw [this] at z
    exact h z
  | mtc l lo hi s o p =>
    have h0 : At (prW n (.mtc l lo hi s o p)) 0 (wAll :: n :: _) := List.drop_zero ..
    rw [if_pos (first_word h0)] at z
    have : wa (prW n (.mtc l lo hi s o p)) 1 = n := h0.next.wa
    rw [this] at z
    exact h z
  | cmp c => cases z
  | either c d => cases z
  | srt l lo hi => cases z
  | blw l lo hi o low high => cases z
theorem promise_clash {n : W} {p : Pr} (hn : nameOk n = true) (b : p.Ok) (h : n ∈ used p) : promiseOf (prW n p) = none := by
  unfold promiseOf
  rw [promise_read hn b, wh_all]
  show (if (if wa (prW n p) 0 = wAll then wa (prW n p) 1 else []) ∈ used p then none else some p) = _
  rw [if_pos]
  cases p with
  | all l lo hi s t =>
    have h0 : At (prW n (.all l lo hi s t)) 0 (wAll :: n :: _) := List.drop_zero ..
    rw [if_pos (first_word h0)]
    have : wa (prW n (.all l lo hi s t)) 1 = n := h0.next.wa
    rw [this]
    exact h
  | mtc l lo hi s o p =>
    have h0 : At (prW n (.mtc l lo hi s o p)) 0 (wAll :: n :: _) := List.drop_zero ..
    rw [if_pos (first_word h0)]
    have : wa (prW n (.mtc l lo hi s o p)) 1 = n := h0.next.wa
    rw [this]
    exact h
  | cmp c => cases h
  | either c d => cases h
  | srt l lo hi => cases h
  | blw l lo hi o low high => cases h
end Pm

set_option maxRecDepth 100000
set_option maxHeartbeats 4000000
namespace Pm
open PySem L2 VL Wd Tm Tw
/-! ### texts -/
def cmpT (c : Cmp) : W := teT c.l ++ [32] ++ c.s ++ [32] ++ teT c.r
def tFrom : W := 32 :: (wFrom ++ [32])
def tTo : W := 32 :: (wTo ++ [32])
def rangeT (lo hi : Pl) : W := tFrom ++ plT lo ++ tTo ++ plT hi
def rngT (l : Ls) (lo hi : Pl) : W := lT l.1 l.2 ++ tFrom ++ plT lo ++ tTo ++ plT hi
def iS (k : Nat) : W := List.replicate k 105
/-- the first of i, ii, .. that is none of them -/
def free (ns : List W) : W := if iS 1 ∉ ns then iS 1 else if iS 2 ∉ ns then iS 2 else if iS 3 ∉ ns then iS 3 else if iS 4 ∉ ns then iS 4 else iS 5
def headT (n : W) (l : Ls) (lo hi : Pl) (s : W) : W := wAll ++ [32] ++ n ++ tFrom ++ plT lo ++ tTo ++ plT hi ++ [58, 32] ++ lT l.1 l.2 ++ brO ++ n ++ [93, 32] ++ s ++ [32]
def prT (n : W) : Pr → W
  | .cmp c => cmpT c
  | .either c d => wEither ++ [32] ++ cmpT c ++ (32 :: (wOr ++ [32])) ++ cmpT d
  | .all l lo hi s t => headT n l lo hi s ++ plT t
  | .mtc l lo hi s o p => headT n l lo hi s ++ lT o.1 o.2 ++ brO ++ n ++ brC ++ pT p
  | .srt l lo hi => wSorted ++ [32] ++ rngT l lo hi
  | .blw l lo hi o low high => wBelow ++ [32] ++ rngT l lo hi ++ [44, 32] ++ rngT o low high
/-! ### the texts show the words -/
theorem isw_pl : ∀ w ∈ [wFrom, wTo, wOr, wAll, wEither, wSorted, wBelow], w ≠ [] ∧ ∀ c ∈ w, c ∈ letters := by decide
theorem isw_kw {w : W} (h : w ∈ [wFrom, wTo, wOr, wAll, wEither, wSorted, wBelow]) : IsW w := .inl (isw_pl w h)
theorem isw_sg {s : W} (h : s ∈ SGN) : IsW s := by
  have : ∀ s ∈ SGN, s ∈ SG := by decide
  exact .inr (.inr (this s h))
theorem nx_sp {l : W} : Nx (32 :: l) := nx_cons (by decide)
theorem sp_kw {w l : W} {ws : List W} (h : w ∈ [wFrom, wTo, wOr, wAll, wEither, wSorted, wBelow]) (s : Sp ws l) : Sp (w :: ws) (w ++ (32 :: l)) := sp_w (isw_kw h) (sp_s s) nx_sp
theorem sp_skw {w l : W} {ws : List W} (h : w ∈ [wFrom, wTo, wOr, wAll, wEither, wSorted, wBelow]) (s : Sp ws l) : Sp (w :: ws) (32 :: (w ++ (32 :: l))) := sp_s (sp_kw h s)
theorem sp_cmp {c : Cmp} {l : W} {ws : List W} (b : c.Ok) (s : Sp ws l) (n : Nx l) : Sp (cmpW c ++ ws) (cmpT c ++ l) := by
  obtain ⟨b1, b2, b3⟩ := b
  have s1 := sp_teG b3 s n
  have s2 := sp_s (sp_w (isw_sg b1) (sp_s s1) nx_sp)
  have s3 := sp_teG b2 s2 nx_sp
  show Sp ((teW c.l ++ (c.s :: teW c.r)) ++ ws) ((teT c.l ++ [32] ++ c.s ++ [32] ++ teT c.r) ++ l)
  simpa using s3
theorem sp_range {lo hi : Pl} {l : W} {ws : List W} (b1 : Pl.Ok lo) (b2 : Pl.Ok hi) (s : Sp ws l) (n : Nx l) : Sp (rangeW lo hi ++ ws) (rangeT lo hi ++ l) := by
  have s1 := sp_pl b2 s n
  have s2 := sp_skw (w := wTo) (by decide) s1
  have s3 := sp_pl b1 s2 nx_sp
  have s4 := sp_skw (w := wFrom) (by decide) s3
  show Sp ((wFrom :: (plW lo ++ (wTo :: plW hi))) ++ ws) ((tFrom ++ plT lo ++ tTo ++ plT hi) ++ l)
  simpa [tFrom, tTo] using s4
theorem nx_range {lo hi : Pl} {l : W} : Nx (rangeT lo hi ++ l) := by
  show Nx ((32 :: (wFrom ++ [32]) ++ plT lo ++ tTo ++ plT hi) ++ l)
  simp only [List.cons_append]
  exact nx_sp
theorem sp_list {l : Ls} {r : W} {ws : List W} (b : Ls.Ok l) (s : Sp ws r) (n : Nx r) : Sp (lW l.1 l.2 ++ ws) (lT l.1 l.2 ++ r) := by
  have s1 := sp_w (isw_name b) s n
  unfold lW lT
  cases l.2 with
  | false => simpa using s1
  | true =>
    have s2 := sp_w isw_lits.1 (sp_s s1) nx_sp
    simpa [wOld] using s2
theorem sp_rng {l : Ls} {lo hi : Pl} {r : W} {ws : List W} (b0 : Ls.Ok l) (b1 : Pl.Ok lo) (b2 : Pl.Ok hi) (s : Sp ws r) (n : Nx r) : Sp (rngW l lo hi ++ ws) (rngT l lo hi ++ r) := by
  have s1 := sp_list b0 (sp_range b1 b2 s n) nx_range
  show Sp ((lW l.1 l.2 ++ rangeW lo hi) ++ ws) ((lT l.1 l.2 ++ tFrom ++ plT lo ++ tTo ++ plT hi) ++ r)
  simpa [rangeT] using s1
theorem no_ext1 {c : Nat} (h : c ∉ letters ∧ c ∉ figures ∧ c ∉ marks) {d : Nat} : ¬ Ext [c] d := by
  rintro (z | z | z)
  · exact h.1 z.1
  · exact h.2.1 z.1
  · exact h.2.2 z.1
theorem sp_1 {c : Nat} {l : W} {ws : List W} (hc : [c] ∈ SG) (h : c ∉ letters ∧ c ∉ figures ∧ c ∉ marks) (s : Sp ws l) : Sp ([c] :: ws) (c :: l) := .cons (s := []) (w := [c]) (fun _ h => nomatch h) (.inr (.inr hc)) s fun _ _ => no_ext1 h
theorem sp_at {l : Ls} {n r : W} {ws : List W} (b : Ls.Ok l) (hn : nameOk n = true) (s : Sp ws r) : Sp (atW l n ++ ws) (lT l.1 l.2 ++ brO ++ n ++ brC ++ r) := by
  have s1 := sp_1 (c := 93) (by decide) (by decide) s
  have s2 := sp_w (isw_name hn) s1 (nx_cons (by decide))
  have s3 := sp_1 (c := 91) (by decide) (by decide) s2
  have s4 := sp_list b s3 (nx_cons (by decide))
  show Sp ((lW l.1 l.2 ++ [brO, n, brC]) ++ ws) _
  simpa [brO, brC] using s4
theorem sp_head {n : W} {l : Ls} {lo hi : Pl} {s r : W} {ws : List W} (hn : nameOk n = true) (b0 : Ls.Ok l) (b1 : Pl.Ok lo) (b2 : Pl.Ok hi) (b3 : s ∈ SGN) (h : Sp ws r) : Sp (wAll :: n :: (rangeW lo hi ++ (colon :: (atW l n ++ (s :: ws))))) (headT n l lo hi s ++ r) := by
  have s1 := sp_s (sp_w (isw_sg b3) (sp_s h) nx_sp)
  have s2 := sp_at b0 hn s1
  have s3 := sp_1 (c := 58) (by decide) (by decide) (sp_s s2)
  have s4 := sp_range b1 b2 s3 (nx_cons (by decide))
  have s5 := sp_w (isw_name hn) s4 nx_range
  have s6 := sp_kw (w := wAll) (by decide) s5
  unfold headT
  simpa [rangeT, colon, brO, brC] using s6
theorem sp_pr {n : W} {p : Pr} (hn : nameOk n = true) (b : p.Ok) : Sp (prW n p) (prT n p) := by
  have e0 : Sp [] ([] : W) := .nil fun _ h => nomatch h
  cases p with
  | cmp c => have := sp_cmp b e0 nx_nil; simpa [prW, prT] using this
  | either c d =>
    obtain ⟨b1, b2⟩ := b
    have s1 := sp_cmp b2 e0 nx_nil
    have s2 := sp_skw (w := wOr) (by decide) s1
    have s3 := sp_cmp b1 s2 nx_sp
    have s4 := sp_kw (w := wEither) (by decide) s3
    simpa [prW, prT] using s4
  | all l lo hi s t =>
    obtain ⟨b0, b1, b2, b3, b4⟩ := b
    have := sp_head hn b0 b1 b2 b3 (sp_pl b4 e0 nx_nil)
    simpa [prW, prT] using this
  | mtc l lo hi s o p =>
    obtain ⟨b0, b1, b2, b3, b4, b5⟩ := b
    obtain ⟨p1, p2⟩ := sp_p b5 e0 nx_nil
    have := sp_head hn b0 b1 b2 b3 (sp_at b4 hn p1)
    simpa [prW, prT] using this
  | srt l lo hi =>
    obtain ⟨b0, b1, b2⟩ := b
    have := sp_kw (w := wSorted) (by decide) (sp_rng b0 b1 b2 e0 nx_nil)
    simpa [prW, prT] using this
  | blw l lo hi o low high =>
    obtain ⟨b0, b1, b2, b3, b4, b5⟩ := b
    have s1 := sp_rng b3 b4 b5 e0 nx_nil
    have s2 := sp_1 (c := 44) (by decide) (by decide) (sp_s s1)
    have s3 := sp_rng b0 b1 b2 s2 (nx_cons (by decide))
    have := sp_kw (w := wBelow) (by decide) s3
    simpa [prW, prT, comma] using this
/-! ### the free name -/
theorem iS_ok {k : Nat} (h1 : 1 ≤ k) (h2 : k ≤ 5) : nameOk (iS k) = true := by
  have : ∀ k : Nat, k ≤ 5 → 1 ≤ k → nameOk (iS k) = true := by decide +kernel
  exact this k h2 h1
theorem free_ok (ns : List W) : nameOk (free ns) = true := by
  unfold free
  repeat' split
  all_goals (exact iS_ok (by decide) (by decide))
theorem used_len (p : Pr) : (used p).length ≤ 4 := by
  have nl : ∀ t : Pl, (nm t).length ≤ 1 := fun t => by cases t <;> simp [nm]
  cases p with
  | all l lo hi s t => have := nl lo; have := nl hi; have := nl t; simp [used]; omega
  | mtc l lo hi s o p => have := nl lo; have := nl hi; simp [used]; omega
  | _ => simp [used]
theorem nodup_le : ∀ (l ns : List W), l.Nodup → (∀ w ∈ l, w ∈ ns) → l.length ≤ ns.length
  | [], _, _, _ => Nat.zero_le _
  | a :: l, ns, nd, h => by
    obtain ⟨n1, n2⟩ := List.nodup_cons.mp nd
    have ha := h a (List.mem_cons_self ..)
    have := nodup_le l (ns.erase a) n2 fun w hw => (List.mem_erase_of_ne (fun e => n1 (by rw [← e]; exact hw))).mpr (h w (List.mem_cons_of_mem _ hw))
    rw [List.length_erase_of_mem ha] at this
    have : 0 < ns.length := List.length_pos_of_mem ha
    simp; omega
theorem free_not {ns : List W} (h : ns.length ≤ 4) : free ns ∉ ns := by
  unfold free
  by_cases c1 : iS 1 ∈ ns
  · rw [if_neg (not_not_intro c1)]
    by_cases c2 : iS 2 ∈ ns
    · rw [if_neg (not_not_intro c2)]
      by_cases c3 : iS 3 ∈ ns
      · rw [if_neg (not_not_intro c3)]
        by_cases c4 : iS 4 ∈ ns
        · rw [if_neg (not_not_intro c4)]
          intro c5
          have nd : [iS 1, iS 2, iS 3, iS 4, iS 5].Nodup := by decide
          have sub : ∀ w ∈ [iS 1, iS 2, iS 3, iS 4, iS 5], w ∈ ns := by
            intro w hw
            simp only [List.mem_cons, List.not_mem_nil, or_false] at hw
            rcases hw with rfl | rfl | rfl | rfl | rfl <;> assumption
          have := nodup_le _ _ nd sub
          simp at this
          omega
        · rw [if_pos c4]; exact c4
      · rw [if_pos c3]; exact c3
    · rw [if_pos c2]; exact c2
  · rw [if_pos c1]; exact c1
theorem free_mem {ns ms : List W} (h : ∀ w, w ∈ ns ↔ w ∈ ms) : free ns = free ms := by
  unfold free
  simp only [h]
/-! ### sizes -/
theorem sgn_l {s : W} (h : s ∈ SGN) : s.length ≤ 2 := by
  have : ∀ s ∈ SGN, s.length ≤ 2 := by decide
  exact this s h
theorem cmpT_len {c : Cmp} (b : c.Ok) : (cmpT c).length ≤ 210 := by
  have := sgn_l b.1; have := teT_len b.2.1; have := teT_len b.2.2
  unfold cmpT
  simp; omega
theorem rngT_len {l : Ls} {lo hi : Pl} (b0 : Ls.Ok l) (b1 : Pl.Ok lo) (b2 : Pl.Ok hi) : (rngT l lo hi).length ≤ 120 := by
  have := lT_len (o := l.2) b0; have := plT_len b1; have := plT_len b2
  unfold rngT tFrom tTo
  simp [wFrom, wTo]; omega
theorem headT_len {n : W} {l : Ls} {lo hi : Pl} {s : W} (hn : n.length ≤ 12) (b0 : Ls.Ok l) (b1 : Pl.Ok lo) (b2 : Pl.Ok hi) (b3 : s ∈ SGN) : (headT n l lo hi s).length ≤ 170 := by
  have := lT_len (o := l.2) b0; have := plT_len b1; have := plT_len b2; have := sgn_l b3
  unfold headT tFrom tTo
  simp [wFrom, wTo, wAll, brO]; omega
theorem prT_len {n : W} {p : Pr} (hn : n.length ≤ 12) (b : p.Ok) : (prT n p).length ≤ 500 := by
  cases p with
  | cmp c => have := cmpT_len b; show (cmpT c).length ≤ 500; omega
  | either c d => have := cmpT_len b.1; have := cmpT_len b.2; simp [prT, wEither, wOr]; omega
  | all l lo hi s t =>
    obtain ⟨b0, b1, b2, b3, b4⟩ := b
    have := headT_len hn b0 b1 b2 b3; have := plT_len b4
    simp [prT]; omega
  | mtc l lo hi s o p =>
    obtain ⟨b0, b1, b2, b3, b4, b5⟩ := b
    have := headT_len hn b0 b1 b2 b3; have := lT_len (o := o.2) b4; have := pT_len b5
    simp [prT, brO, brC]; omega
  | srt l lo hi => have := rngT_len b.1 b.2.1 b.2.2; simp [prT, wSorted]; omega
  | blw l lo hi o low high =>
    obtain ⟨b0, b1, b2, b3, b4, b5⟩ := b
    have := rngT_len b0 b1 b2; have := rngT_len b3 b4 b5
    simp [prT, wBelow]; omega
end Pm

set_option maxRecDepth 100000
set_option maxHeartbeats 4000000
namespace K03
open PySem L2 VL Wd Tm Tw Lw Lr Hd Ln Lt Pm Cd
local macro_rules
  | `(tactic| push_cast [$xs,*]) => `(tactic| try simp only [$xs,*, WpSs, WpS, WpE, WpEs, WpBs, WpO, WpN, WpI, WpC, WpT, getS, setS, tgK, setsS, wipeS, k_add, k_addT, k_sub, k_mul, k_fdiv, k_mod, k_neg, k_lt, k_le, k_gt, k_ge, k_eqI, k_neI, k_eqS, k_neS, k_eqB, k_neB, k_is, k_isn, isNon_non, isNon_int, isNon_str, isNon_lst, isNon_tup, isNon_adr, k_lenS, k_lenL, k_lenR, k_lenT, k_int, k_str, k_abs, tru_bl, augK, ctx_call, ctx_glob, k_in, k_nin, k_inS, k_addS, k_intB, isi_non_int, isi_non_bool, isi_non_str, isi_non_list, isi_non_tuple, isi_bl_int, isi_bl_bool, isi_bl_str, isi_bl_list, isi_bl_tuple, isi_int_int, isi_int_bool, isi_int_str, isi_int_list, isi_int_tuple, isi_str_int, isi_str_bool, isi_str_str, isi_str_list, isi_str_tuple, isi_tup_int, isi_tup_bool, isi_tup_str, isi_tup_list, isi_tup_tuple, isi_lst_int, isi_lst_bool, isi_lst_str, isi_lst_list, isi_lst_tuple, isi_ro_int, isi_ro_bool, isi_ro_str, isi_ro_list, isi_ro_tuple])
def qC : Option (Cmp × Nat) → AV
  | none => .non
  | some (c, j) => .lst [c.av, .int (j : Int)]
def qCn : Option (Cn × Nat) → AV
  | none => .non
  | some (c, j) => .lst [c.av, .int (j : Int)]
theorem cmpC_av (i : Nat) (ws : List W) : qC (cmpAt ws i) = qCn (cmpC ws i) := by
  unfold cmpC
  cases cmpAt ws i with
  | none => rfl
  | some r => simp [qC, qCn, Cn.av]
theorem sg_list : ([.str "<", .str "<=", .str ">", .str ">=", .str "==", .str "!="] : List AV) = wl SGN := by
  have : (["<", "<=", ">", ">=", "==", "!="] : List Str) = SGN.map mkS := by decide +kernel
  have e : wl SGN = (SGN.map mkS).map AV.str := (List.map_map ..).symm
  rw [e, ← this]; rfl
theorem np_list : ([.str (mkS wNot), .str (mkS pO)] : List AV) = wl [wNot, pO] := rfl
section
variable {P : Prg} [H3.U P] [Lw.U P] [Lr.U P] [L3.U P] [U P] {n : Nat} {x : AV} {ws : List W} {i : Nat} {h : AHeap} {Q : AV → AHeap → Prop}
theorem k_l3 {l : List AV} {a : AV} {k : Nat} {Q : KA} (e : l[k]? = some a) (q : Q a) : subK h (.lst l) (.int (k : Int)) Q := k_subL (xs := l) rfl (fun _ h => by cases h) ((atI_nat (List.getElem?_eq_some_iff.mp e).1).trans e) q
theorem cmp_ok (r : Rd h x ws) (q : Q (qC (cmpAt ws i)) h) : callN P (n+6) 107 [x, .int (i : Int)] h Q := by
  refine call_of U.f__law_read_cmp rfl ?_
  show WpSs (ctxOf P (callN P (n+5))) b_law_read_cmp _ [.val x, .val (.int (i : Int)), .no, .no] h
  push_cast [b_law_read_cmp, sg_list]
  refine L3.read_ok r ?_
  unfold cmpAt at q
  cases e : termAt ws i with
  | none =>
    simp only [e] at q
    push_cast [qT, if_true]
    exact q
  | some p =>
    obtain ⟨l, j⟩ := p
    simp only [e] at q
    push_cast [qT, Bool.false_eq_true, if_false]
    refine k_l1 ?_
    refine k_lenW r ?_
    push_cast [WpSs]
    refine ite_b (fun c0 => ?_) (fun c0 => ?_)
    · have : ¬ wa ws j ∈ SGN := fun z => by have := sgn_len z; omega
      rw [if_neg this] at q
      exact q
    refine k_l1 ?_
    refine k_subW r (by omega) ?_
    refine ⟨by decide, ?_⟩
    refine in_wl viewT_lst (fun _ h => by cases h) ?_
    by_cases c : wa ws j ∈ SGN
    · rw [if_pos c] at q
      push_cast [c, decide_true, if_true, Bool.not_true, Bool.false_eq_true, if_false, b_law_read_cmp_2]
      refine k_l1 ?_
      push_cast [i1]
      refine L3.read_ok r ?_
      cases e2 : termAt ws (j + 1) with
      | none =>
        simp only [e2] at q
        push_cast [qT, if_true]
        exact q
      | some p2 =>
        obtain ⟨rr, k⟩ := p2
        simp only [e2] at q
        push_cast [qT, Bool.false_eq_true, if_false, b_law_read_cmp_1]
        refine k_l1 ?_
        refine k_subW r (sgn_len c) ?_
        refine k_l0 ?_
        refine k_l0 ⟨le4, ?_⟩
        refine k_l1 ⟨le2, ?_⟩
        exact q
    · rw [if_neg c] at q
      push_cast [c, decide_false, if_true, Bool.not_false]
      exact q
theorem and_ok {p : Nat → Option (Cn × Nat)} {op : Int} (hp : Fwd p) (r : Rd h x ws) (hl : ws.length ≤ 100000) (hc : ∀ (i : Nat) (Q : AV → AHeap → Prop), Q (qCn (p i)) h → callN P (n+1) 108 [x, .int (i : Int), .int op] h Q) (q : Q (qCn (joinAt false p ws i)) h) : callN P (n+2) 109 [x, .int (i : Int), .int op] h Q := by
  refine call_of U.f__law_read_and rfl ?_
  show WpSs (ctxOf P (callN P (n+1))) b_law_read_and _ [.val x, .val (.int (i : Int)), .val (.int op), .no, .no, .no] h
  have hs := kW_ne false
  have ew : ("and" : Str) = mkS (kW false) := clits.2.1
  have hz := sz1
  have q : Q (qCn ((pre p (kW false) ws [] i).map fun r => (jn false r.1, r.2))) h := by
    unfold joinAt at q
    unfold pre
    rw [Option.map_map]
    exact q
  have fin : ∀ (acc : List Cn) (c : Cn) (j : Nat) (s4 s5 : Slot), acc.length ≤ ws.length + 1 → Q (qCn (some (jn false (acc ++ [c]), j))) h → WpSs (ctxOf P (callN P (n+1))) b_law_read_and_5 { nx := fun _ h => Q .non h, rt := Q } [.val x, .val (.int (j : Int)), .val (.int op), .own (.lst ((acc ++ [c]).map Cn.av)), s4, s5] h := by
    intro acc c j s4 s5 al q
    push_cast [b_law_read_and_5]
    cases acc with
    | nil =>
      have d : decide (((([] ++ [c]).map Cn.av).length : Int) = 1) = true := by simp
      push_cast [k_lenL, d, if_true]
      refine k_subL viewT_lst (fun _ h => by cases h) (d := c.av) rfl ?_
      push_cast [WpSs]
      exact ⟨le2, q⟩
    | cons a acc =>
      have d : decide ((((a :: acc ++ [c]).map Cn.av).length : Int) = 1) = false := decide_eq_false (by simp; omega)
      push_cast [k_lenL, d, Bool.false_eq_true, if_false, b_law_read_and_4, ew]
      have e : (jn false (a :: acc ++ [c])).av = .tup [.str (mkS (kW false)), .tup ((a :: acc ++ [c]).map Cn.av)] := by
        have : jn false (a :: acc ++ [c]) = .bin false (a :: acc ++ [c]) := by
          cases acc <;> rfl
        rw [this, Cn.av, avs_map]
      have q : Q (.lst [(jn false (a :: acc ++ [c])).av, .int (j : Int)]) h := q
      rw [e] at q
      refine ⟨le2, le2, ?_⟩
      exact q
  push_cast [b_law_read_and]
  refine ⟨Nat.zero_le _, ?_⟩
  refine k_lenW r ?_
  push_cast [WpSs]
  refine ⟨⟨by omega, by omega⟩, ?_⟩
  refine for_inv (fun t ρ h' => h' = h ∧ ∃ (acc : List Cn) (i : Nat) (s4 s5 : Slot), ρ = [.val x, .val (.int (i : Int)), .val (.int op), .own (.lst (acc.map Cn.av)), s4, s5] ∧ acc.length = t ∧ t ≤ i ∧ (0 < t → i ≤ ws.length) ∧ Q (qCn ((pre p (kW false) ws acc i).map fun r => (jn false r.1, r.2))) h) ⟨rfl, [], i, _, _, rfl, rfl, Nat.zero_le _, fun h => absurd h (Nat.lt_irrefl _), q⟩ (fun _ _ _ _ _ => by trivial) ?_ ?_
  · rintro t y _ h D' hx ⟨rfl, acc, i, s4, s5, rfl, al, ti, il, q⟩ kn kc kr kb
    obtain ⟨ht, rfl⟩ := items_range hx
    have ht : t < ws.length + 1 := by omega
    push_cast [b_law_read_and_3]
    refine hc _ _ ?_
    cases e : p i with
    | none =>
      rw [pre_none hp hs e] at q
      push_cast [qCn, if_true]
      exact kr _ _ q
    | some cj =>
      obtain ⟨c, j⟩ := cj
      have ij := hp _ _ _ e
      have one : acc.map Cn.av ++ [c.av] = (acc ++ [c]).map Cn.av := by simp
      push_cast [qCn, Bool.false_eq_true, if_false, b_law_read_and_2]
      refine k_l0 ?_
      push_cast [one]
      refine ⟨by rw [List.length_map]; omega, ?_⟩
      refine k_l1 ?_
      push_cast [WpSs]
      refine k_lenW r ?_
      push_cast [WpSs]
      have brk : ¬ wa ws j = kW false → D'.bk [.val x, .val (.int (j : Int)), .val (.int op), .own (.lst ((acc ++ [c]).map Cn.av)), .val (.int (t : Int)), .val (.lst [c.av, .int (j : Int)])] h := by
        intro nc
        rw [pre_end hp hs e nc] at q
        exact kb _ _ (fin acc c j _ _ (by omega) q)
      refine ite_b (fun c0 => ?_) (fun c0 => ?_)
      · exact brk (fun z => by have := wa_in (ws := ws) (i := j) (by rw [z]; exact hs); omega)
      · refine k_subW r (by omega) ?_
        push_cast [ew, mkS_eq]
        by_cases cc : wa ws j = kW false
        · have d : decide (wa ws j = kW false) = true := decide_eq_true cc
          rw [pre_some hp hs e cc] at q
          push_cast [d, Bool.not_true, Bool.false_eq_true, if_false, b_law_read_and_1, i1]
          exact kn _ _ ⟨rfl, acc ++ [c], j + 1, _, _, rfl, by simp [al], by omega, fun _ => by omega, q⟩
        · have d : decide (wa ws j = kW false) = false := decide_eq_false cc
          push_cast [d, Bool.not_false, if_true]
          exact brk cc
  · rintro _ h ⟨rfl, acc, i, s4, s5, rfl, al, ti, il, q⟩
    exfalso
    rw [List.length_map, List.length_range] at *
    omega
theorem or_ok {p : Nat → Option (Cn × Nat)} {op : Int} (hp : Fwd p) (r : Rd h x ws) (hl : ws.length ≤ 100000) (hc : ∀ (i : Nat) (Q : AV → AHeap → Prop), Q (qCn (p i)) h → callN P (n+1) 109 [x, .int (i : Int), .int op] h Q) (q : Q (qCn (joinAt true p ws i)) h) : callN P (n+2) 110 [x, .int (i : Int), .int op] h Q := by
  refine call_of U.f__law_read_or rfl ?_
  show WpSs (ctxOf P (callN P (n+1))) b_law_read_or _ [.val x, .val (.int (i : Int)), .val (.int op), .no, .no, .no] h
  have hs := kW_ne true
  have ew : ("or" : Str) = mkS (kW true) := clits.2.2.1
  have hz := sz1
  have q : Q (qCn ((pre p (kW true) ws [] i).map fun r => (jn true r.1, r.2))) h := by
    unfold joinAt at q
    unfold pre
    rw [Option.map_map]
    exact q
  have fin : ∀ (acc : List Cn) (c : Cn) (j : Nat) (s4 s5 : Slot), acc.length ≤ ws.length + 1 → Q (qCn (some (jn true (acc ++ [c]), j))) h → WpSs (ctxOf P (callN P (n+1))) b_law_read_or_5 { nx := fun _ h => Q .non h, rt := Q } [.val x, .val (.int (j : Int)), .val (.int op), .own (.lst ((acc ++ [c]).map Cn.av)), s4, s5] h := by
    intro acc c j s4 s5 al q
    push_cast [b_law_read_or_5]
    cases acc with
    | nil =>
      have d : decide (((([] ++ [c]).map Cn.av).length : Int) = 1) = true := by simp
      push_cast [k_lenL, d, if_true]
      refine k_subL viewT_lst (fun _ h => by cases h) (d := c.av) rfl ?_
      push_cast [WpSs]
      exact ⟨le2, q⟩
    | cons a acc =>
      have d : decide ((((a :: acc ++ [c]).map Cn.av).length : Int) = 1) = false := decide_eq_false (by simp; omega)
      push_cast [k_lenL, d, Bool.false_eq_true, if_false, b_law_read_or_4, ew]
      have e : (jn true (a :: acc ++ [c])).av = .tup [.str (mkS (kW true)), .tup ((a :: acc ++ [c]).map Cn.av)] := by
        have : jn true (a :: acc ++ [c]) = .bin true (a :: acc ++ [c]) := by
          cases acc <;> rfl
        rw [this, Cn.av, avs_map]
      have q : Q (.lst [(jn true (a :: acc ++ [c])).av, .int (j : Int)]) h := q
      rw [e] at q
      refine ⟨le2, le2, ?_⟩
      exact q
  push_cast [b_law_read_or]
  refine ⟨Nat.zero_le _, ?_⟩
  refine k_lenW r ?_
  push_cast [WpSs]
  refine ⟨⟨by omega, by omega⟩, ?_⟩
  refine for_inv (fun t ρ h' => h' = h ∧ ∃ (acc : List Cn) (i : Nat) (s4 s5 : Slot), ρ = [.val x, .val (.int (i : Int)), .val (.int op), .own (.lst (acc.map Cn.av)), s4, s5] ∧ acc.length = t ∧ t ≤ i ∧ (0 < t → i ≤ ws.length) ∧ Q (qCn ((pre p (kW true) ws acc i).map fun r => (jn true r.1, r.2))) h) ⟨rfl, [], i, _, _, rfl, rfl, Nat.zero_le _, fun h => absurd h (Nat.lt_irrefl _), q⟩ (fun _ _ _ _ _ => by trivial) ?_ ?_
  · rintro t y _ h D' hx ⟨rfl, acc, i, s4, s5, rfl, al, ti, il, q⟩ kn kc kr kb
    obtain ⟨ht, rfl⟩ := items_range hx
    have ht : t < ws.length + 1 := by omega
    push_cast [b_law_read_or_3]
    refine hc _ _ ?_
    cases e : p i with
    | none =>
      rw [pre_none hp hs e] at q
      push_cast [qCn, if_true]
      exact kr _ _ q
    | some cj =>
      obtain ⟨c, j⟩ := cj
      have ij := hp _ _ _ e
      have one : acc.map Cn.av ++ [c.av] = (acc ++ [c]).map Cn.av := by simp
      push_cast [qCn, Bool.false_eq_true, if_false, b_law_read_or_2]
      refine k_l0 ?_
      push_cast [one]
      refine ⟨by rw [List.length_map]; omega, ?_⟩
      refine k_l1 ?_
      push_cast [WpSs]
      refine k_lenW r ?_
      push_cast [WpSs]
      have brk : ¬ wa ws j = kW true → D'.bk [.val x, .val (.int (j : Int)), .val (.int op), .own (.lst ((acc ++ [c]).map Cn.av)), .val (.int (t : Int)), .val (.lst [c.av, .int (j : Int)])] h := by
        intro nc
        rw [pre_end hp hs e nc] at q
        exact kb _ _ (fin acc c j _ _ (by omega) q)
      refine ite_b (fun c0 => ?_) (fun c0 => ?_)
      · exact brk (fun z => by have := wa_in (ws := ws) (i := j) (by rw [z]; exact hs); omega)
      · refine k_subW r (by omega) ?_
        push_cast [ew, mkS_eq]
        by_cases cc : wa ws j = kW true
        · have d : decide (wa ws j = kW true) = true := decide_eq_true cc
          rw [pre_some hp hs e cc] at q
          push_cast [d, Bool.not_true, Bool.false_eq_true, if_false, b_law_read_or_1, i1]
          exact kn _ _ ⟨rfl, acc ++ [c], j + 1, _, _, rfl, by simp [al], by omega, fun _ => by omega, q⟩
        · have d : decide (wa ws j = kW true) = false := decide_eq_false cc
          push_cast [d, Bool.not_false, if_true]
          exact brk cc
  · rintro _ h ⟨rfl, acc, i, s4, s5, rfl, al, ti, il, q⟩
    exfalso
    rw [List.length_map, List.length_range] at *
    omega
theorem not_ok (r : Rd h x ws) (hl : ws.length ≤ 100000) : ∀ (d : Nat), d ≤ 8 → ∀ (n i : Nat) (Q : AV → AHeap → Prop), Q (qCn (partAt ws d i)) h → callN P (n + (3 * d + 6) + 1) 108 [x, .int (i : Int), .int (8 - (d : Int))] h Q := by
  intro d
  induction d with
  | zero =>
    intro hd n i Q q
    refine call_of U.f__law_read_not rfl ?_
    show WpSs (ctxOf P (callN P (n+6))) b_law_read_not _ [.val x, .val (.int (i : Int)), .val (.int (8 - ((0 : Nat) : Int))), .no] h
    unfold partAt at q
    push_cast [b_law_read_not, clits]
    refine k_lenW r ?_
    push_cast [WpSs]
    have cm : ¬ wa ws i ∈ [wNot, pO] → callN P (n+6) 107 [x, .int (i : Int)] h Q := by
      intro c
      rw [if_neg c, ← cmpC_av] at q
      exact cmp_ok r q
    refine ite_b (fun c0 => ?_) (fun c0 => ?_)
    · exact cm fun z => by have := wa_in (ws := ws) (i := i) (fun e => by rw [e] at z; exact absurd z (by decide)); omega
    refine k_subW r (by omega) ?_
    refine ⟨by decide, ?_⟩
    refine in2 (a := wNot) (b := pO) rfl (fun _ h => by cases h) ?_
    simp only [if_true]
    by_cases c : wa ws i ∈ [wNot, pO]
    · rw [if_pos c] at q
      have d8 : decide ((8 : Int) - ((0 : Nat) : Int) = 8) = true := decide_eq_true (by omega)
      push_cast [c, decide_true, Bool.not_true, Bool.false_eq_true, if_false, b_law_read_not_5, d8, if_true]
      exact q
    · push_cast [c, decide_false, Bool.not_false, if_true]
      exact cm c
  | succ d ih =>
    intro hd n i Q q
    refine call_of U.f__law_read_not rfl ?_
    show WpSs (ctxOf P (callN P (n + (3 * d + 6) + 3))) b_law_read_not _ [.val x, .val (.int (i : Int)), .val (.int (8 - ((d + 1 : Nat) : Int))), .no] h
    unfold partAt at q
    push_cast [b_law_read_not, clits]
    refine k_lenW r ?_
    push_cast [WpSs]
    have cm : ¬ wa ws i ∈ [wNot, pO] → callN P (n + (3 * d + 6) + 3) 107 [x, .int (i : Int)] h Q := by
      intro c
      rw [if_neg c, ← cmpC_av] at q
      have e9 : n + (3 * d + 6) + 3 = n + 3 * d + 3 + 6 := by omega
      rw [e9]
      exact cmp_ok r q
    refine ite_b (fun c0 => ?_) (fun c0 => ?_)
    · exact cm fun z => by have := wa_in (ws := ws) (i := i) (fun e => by rw [e] at z; exact absurd z (by decide)); omega
    have il : i < ws.length := by omega
    refine k_subW r il ?_
    refine ⟨by decide, ?_⟩
    refine in2 (a := wNot) (b := pO) rfl (fun _ h => by cases h) ?_
    simp only [if_true]
    by_cases c : wa ws i ∈ [wNot, pO]
    · rw [if_pos c] at q
      have d8 : decide ((8 : Int) - ((d + 1 : Nat) : Int) = 8) = false := decide_eq_false (by omega)
      have op : (8 : Int) - ((d + 1 : Nat) : Int) + 1 = 8 - (d : Int) := by omega
      push_cast [c, decide_true, Bool.not_true, Bool.false_eq_true, if_false, b_law_read_not_5, b_law_read_not_4, d8, clits]
      refine k_subW r il ?_
      push_cast [mkS_eq]
      refine ite_b (fun c1 => ?_) (fun c1 => ?_)
      · rw [if_pos c1] at q
        push_cast [i1, op]
        have hr := ih (by omega) (n + 2) (i + 1)
        have e9 : n + 2 + (3 * d + 6) + 1 = n + (3 * d + 6) + 3 := by omega
        rw [e9] at hr
        refine hr _ ?_
        cases e : partAt ws d (i + 1) with
        | none =>
          simp only [e] at q
          push_cast [qCn, if_true]
          exact q
        | some cj =>
          obtain ⟨c, j⟩ := cj
          simp only [e] at q
          push_cast [qCn, Bool.false_eq_true, if_false, b_law_read_not_1]
          refine k_l0 ⟨le2, ?_⟩
          refine k_l1 ⟨le2, ?_⟩
          exact q
      · rw [if_neg c1] at q
        push_cast [b_law_read_not_3, i1, op, clits]
        refine or_ok (p := joinAt false (partAt ws d) ws) (n := n + (3 * d + 6) + 1) (join_fwd (part_fwd d)) r hl (fun i Q q => ?_) ?_
        · refine and_ok (p := partAt ws d) (n := n + (3 * d + 6)) (part_fwd d) r hl (fun i Q q => ?_) q
          exact ih (by omega) n i Q q
        · cases e : joinAt true (joinAt false (partAt ws d) ws) ws (i + 1) with
          | none =>
            simp only [e] at q
            push_cast [qCn, if_true]
            exact q
          | some cj =>
            obtain ⟨c, j⟩ := cj
            simp only [e] at q
            push_cast [qCn, Bool.false_eq_true, if_false]
            refine k_l1 ?_
            refine k_lenW r ?_
            push_cast [WpSs]
            refine ite_b (fun c2 => ?_) (fun c2 => ?_)
            · have : ¬ wa ws j = pC := fun z => by have := wa_in (ws := ws) (i := j) (by rw [z]; decide); omega
              rw [if_neg this] at q
              exact q
            refine k_l1 ?_
            refine k_subW r (by omega) ?_
            push_cast [mkS_eq]
            by_cases c3 : wa ws j = pC
            · rw [if_pos c3] at q
              have d : decide (wa ws j = pC) = true := decide_eq_true c3
              push_cast [d, Bool.not_true, Bool.false_eq_true, if_false, b_law_read_not_2]
              refine k_l0 ?_
              refine k_l1 ?_
              push_cast [i1]
              exact ⟨le2, q⟩
            · rw [if_neg c3] at q
              have d : decide (wa ws j = pC) = false := decide_eq_false c3
              push_cast [d, Bool.not_false, if_true]
              exact q
    · push_cast [c, decide_false, Bool.not_false, if_true]
      exact cm c
theorem read_condition_ok (r : Rd h x ws) (hl : ws.length ≤ 100000) (q : Q (oCv (condOf ws)) h) : callN P (n+34) 111 [x] h Q := by
  refine call_of U.f__law_read_condition rfl ?_
  show WpSs (ctxOf P (callN P (n+33))) b_law_read_condition _ [.val x, .no] h
  push_cast [b_law_read_condition]
  refine or_ok (p := andAt ws 8) (n := n + 31) (i := 0) and_fwd r hl (fun i Q q => and_ok (p := partAt ws 8) (n := n + 30) (part_fwd 8) r hl (fun i Q q => not_ok r hl 8 (by decide) n i Q q) q) ?_
  unfold condOf at q
  cases e : orAt ws 8 0 with
  | none =>
    have e' : joinAt true (andAt ws 8) ws 0 = none := e
    rw [e] at q
    push_cast [e', qCn, if_true]
    exact q
  | some cj =>
    obtain ⟨c, j⟩ := cj
    have e' : joinAt true (andAt ws 8) ws 0 = some (c, j) := e
    rw [e] at q
    have q : Q (oCv (if j = ws.length then some c else none)) h := q
    push_cast [e', qCn, Bool.false_eq_true, if_false]
    refine k_l1 ?_
    refine k_lenW r ?_
    push_cast [WpSs]
    by_cases c : j = ws.length
    · rw [if_pos c] at q
      have d : decide ((j : Int) = (ws.length : Int)) = true := decide_eq_true (by omega)
      push_cast [d, Bool.not_true, Bool.false_eq_true, if_false, b_law_read_condition_1]
      exact k_l0 q
    · rw [if_neg c] at q
      have d : decide ((j : Int) = (ws.length : Int)) = false := decide_eq_false (by omega)
      push_cast [d, Bool.not_false, if_true]
      exact q
end
end K03

set_option maxRecDepth 100000
set_option maxHeartbeats 4000000
namespace K03
open PySem L2 VL Wd Tm Tw Lw Lr Hd Ln Lt Pm Cd
local macro_rules
  | `(tactic| push_cast [$xs,*]) => `(tactic| try simp only [$xs,*, WpSs, WpS, WpE, WpEs, WpBs, WpO, WpN, WpI, WpC, WpT, getS, setS, tgK, setsS, wipeS, k_add, k_addT, k_sub, k_mul, k_fdiv, k_mod, k_neg, k_lt, k_le, k_gt, k_ge, k_eqI, k_neI, k_eqS, k_neS, k_eqB, k_neB, k_is, k_isn, isNon_non, isNon_int, isNon_str, isNon_lst, isNon_tup, isNon_adr, k_lenS, k_lenL, k_lenR, k_lenT, k_int, k_str, k_abs, tru_bl, augK, ctx_call, ctx_glob, k_in, k_nin, k_inS, k_addS, k_intB, isi_non_int, isi_non_bool, isi_non_str, isi_non_list, isi_non_tuple, isi_bl_int, isi_bl_bool, isi_bl_str, isi_bl_list, isi_bl_tuple, isi_int_int, isi_int_bool, isi_int_str, isi_int_list, isi_int_tuple, isi_str_int, isi_str_bool, isi_str_str, isi_str_list, isi_str_tuple, isi_tup_int, isi_tup_bool, isi_tup_str, isi_tup_list, isi_tup_tuple, isi_lst_int, isi_lst_bool, isi_lst_str, isi_lst_list, isi_lst_tuple, isi_ro_int, isi_ro_bool, isi_ro_str, isi_ro_list, isi_ro_tuple])
section
variable {P : Prg} [H3.U P] [Lw.U P] [Lr.U P] [L3.U P] [U P] {n a : Nat} {h : AHeap} {Q : AV → AHeap → Prop}
theorem k_pickF {α : Type} (f : α → AV) {xs : List α} {r : Nat} {h : AHeap} {Q : KA} (hr : (r : Int) < (xs.length : Int)) (q : ∀ v ∈ xs, Q (f v)) : subK h (.lst (xs.map f)) (.int (r : Int)) Q :=
  have hr' : r < xs.length := by omega
  k_subL viewT_lst (fun _ h => by cases h) (d := f xs[r]) (by rw [atI_nat (by simpa using hr')]; simp [hr']) (q _ (List.getElem_mem hr'))
def wI : W := [105]
def wXs : W := [120, 115]
def wY : W := [121]
theorem glits : ("i" : Str) = mkS wI ∧ ("xs" : Str) = mkS wXs ∧ ("y" : Str) = mkS wY ∧ ("a" : Str) = mkS [97] ∧ ("b" : Str) = mkS [98] ∧ ("c" : Str) = mkS [99] ∧ ("turns" : Str) = mkS [116, 117, 114, 110, 115] := by decide +kernel
theorem gnames : ∀ w ∈ [wI, wXs, wY, [97], [98], [99], [116, 117, 114, 110, 115]], nameOk w = true := by decide +kernel
def wS (w : W) : AV := .str (mkS w)
theorem simple_ok (hd : Hnd a h) (q : ∀ t h', Hx a h h' → Te.Ok t → Q t.av h') : callN P (n+2) 100 [.adr a] h Q := by
  refine call_of U.f__law_simple rfl ?_
  show WpSs (ctxOf P (callN P (n+1))) b_law_simple _ [.val (.adr a), .no, .no, .no] h
  have er : ("result" : Str) = mkS wRes := lits.2.2.2.2.2.2.1
  push_cast [b_law_simple]
  refine H3.take_ok hd (by decide) fun k h1 x1 hk => ?_
  push_cast [WpSs]
  refine H3.take_ok x1.hand (by decide) fun r2 h2 x2 hr2 => ?_
  push_cast [WpSs]
  refine H3.take_ok x2.hand (by decide) fun r3 h3 x3 hr3 => ?_
  push_cast [WpSs]
  refine ⟨le2, ?_⟩
  refine H3.take_ok x3.hand (by decide) fun r4 h4 x4 hr4 => ?_
  push_cast [WpSs]
  have e4 : (r4 : Int) / 3 = ((r4 / 3 : Nat) : Int) := by omega
  refine ⟨divA (by decide) (by decide), ?_⟩
  rw [e4]
  refine k_pickF AV.int (xs := [(r2 : Int) - 2, (r3 : Int) - 50000]) (by simp; omega) fun p hp => ?_
  have bp : Bd p := by
    simp only [List.mem_cons, List.not_mem_nil, or_false] at hp
    unfold Bd; omega
  push_cast [WpSs]
  refine H3.take_ok x4.hand (by decide) fun r5 h5 x5 hr5 => ?_
  push_cast [er, glits]
  refine ⟨le2, le3, le3, le3, le4, ?_⟩
  refine H3.take_ok x5.hand (by decide) fun r6 h6 x6 hr6 => ?_
  refine k_pickF Pl.av (xs := [.num ((r5 : Int) - 9), .var wI p, .len wXs (-1), .var wRes 1]) (by simpa using hr6) fun ix hix => ?_
  have bi : Pl.Ok ix := by
    simp only [List.mem_cons, List.not_mem_nil, or_false] at hix
    rcases hix with rfl | rfl | rfl | rfl
    · show Bd _; unfold Bd; omega
    · exact ⟨.inl (gnames _ (by simp)), bp⟩
    · exact ⟨gnames _ (by simp), by unfold Bd; omega⟩
    · exact ⟨.inr rfl, by unfold Bd; omega⟩
  have xx := ((((x1.trans x2).trans x3).trans x4).trans x5).trans x6
  push_cast [WpSs]
  refine ite_b (fun _ => ?_) (fun _ => ?_)
  · refine H3.take_ok x6.hand (by decide) fun r7 h7 x7 hr7 => ?_
    push_cast [WpSs]
    refine ⟨le4, ?_⟩
    refine H3.take_ok x7.hand (by decide) fun r8 h8 x8 hr8 => ?_
    refine k_pickF AV.int (xs := [(r7 : Int) - 3, 9999999999, 10, -27]) (by simpa using hr8) fun v hv => ?_
    refine ⟨le2, ?_⟩
    refine q (.pl (.num v)) _ ((xx.trans x7).trans x8) ?_
    simp only [List.mem_cons, List.not_mem_nil, or_false] at hv
    show Bd v; unfold Bd; omega
  push_cast [b_law_simple_3, er, glits]
  refine ite_b (fun _ => ?_) (fun _ => ?_)
  · refine ⟨by show 6 ≤ sizeLine; decide, ?_⟩
    refine H3.take_ok x6.hand (by decide) fun r7 h7 x7 hr7 => ?_
    refine k_pickF wS (xs := [[97], [98], [99], wI, wRes, [116, 117, 114, 110, 115]]) (by simpa using hr7) fun v hv => ?_
    refine ⟨le3, ?_⟩
    refine q (.pl (.var v p)) _ (xx.trans x7) ⟨?_, bp⟩
    simp only [List.mem_cons, List.not_mem_nil, or_false] at hv
    rcases hv with rfl | rfl | rfl | rfl | rfl | rfl
    · exact .inl (gnames _ (by simp))
    · exact .inl (gnames _ (by simp))
    · exact .inl (gnames _ (by simp))
    · exact .inl (gnames _ (by simp))
    · exact .inr rfl
    · exact .inl (gnames _ (by simp))
  have nm2 : ∀ v ∈ [wXs, wY], nameOk v = true := fun v hv => gnames v (by simp only [List.mem_cons, List.not_mem_nil, or_false] at hv ⊢; rcases hv with h | h <;> simp [h])
  push_cast [b_law_simple_2, glits]
  refine ite_b (fun _ => ?_) (fun _ => ?_)
  · refine ⟨le2, ?_⟩
    refine H3.take_ok x6.hand (by decide) fun r7 h7 x7 hr7 => ?_
    refine k_pickF wS (xs := [wXs, wY]) (by simpa using hr7) fun v hv => ?_
    refine ⟨le3, ?_⟩
    exact q (.pl (.len v p)) _ (xx.trans x7) ⟨nm2 v hv, bp⟩
  push_cast [b_law_simple_1, glits]
  refine ⟨le2, ?_⟩
  refine H3.take_ok x6.hand (by decide) fun r7 h7 x7 hr7 => ?_
  refine k_pickF wS (xs := [wXs, wY]) (by simpa using hr7) fun v hv => ?_
  push_cast [WpSs]
  refine ⟨le2, ?_⟩
  refine H3.take_ok x7.hand (by decide) fun r8 h8 x8 hr8 => ?_
  push_cast [WpSs]
  refine ⟨le4, ?_⟩
  refine q (.cell v _ ix _) _ ((xx.trans x7).trans x8) ⟨nm2 v hv, bi, ?_⟩
  unfold Bd; omega
end
end K03

set_option maxRecDepth 100000
set_option maxHeartbeats 4000000
namespace K03
open PySem L2 VL Wd Tm Tw Lw Lr Hd Ln Lt Pm Cd
local macro_rules
  | `(tactic| push_cast [$xs,*]) => `(tactic| try simp only [$xs,*, WpSs, WpS, WpE, WpEs, WpBs, WpO, WpN, WpI, WpC, WpT, getS, setS, tgK, setsS, wipeS, k_add, k_addT, k_sub, k_mul, k_fdiv, k_mod, k_neg, k_lt, k_le, k_gt, k_ge, k_eqI, k_neI, k_eqS, k_neS, k_eqB, k_neB, k_is, k_isn, isNon_non, isNon_int, isNon_str, isNon_lst, isNon_tup, isNon_adr, k_lenS, k_lenL, k_lenR, k_lenT, k_int, k_str, k_abs, tru_bl, augK, ctx_call, ctx_glob, k_in, k_nin, k_inS, k_addS, k_intB, isi_non_int, isi_non_bool, isi_non_str, isi_non_list, isi_non_tuple, isi_bl_int, isi_bl_bool, isi_bl_str, isi_bl_list, isi_bl_tuple, isi_int_int, isi_int_bool, isi_int_str, isi_int_list, isi_int_tuple, isi_str_int, isi_str_bool, isi_str_str, isi_str_list, isi_str_tuple, isi_tup_int, isi_tup_bool, isi_tup_str, isi_tup_list, isi_tup_tuple, isi_lst_int, isi_lst_bool, isi_lst_str, isi_lst_list, isi_lst_tuple, isi_ro_int, isi_ro_bool, isi_ro_str, isi_ro_list, isi_ro_tuple])
/-- parts that share what a purse holds -/
def Spl (G : Int → Cn → Prop) : Int → List Cn → Prop
  | p, [] => 0 ≤ p
  | p, c :: cs => ∃ a b, a + b ≤ p ∧ 1 ≤ a ∧ G a c ∧ Spl G b cs
/-- a drawn condition: so deep at most, so many comparisons at most -/
def Good : Nat → Int → Cn → Prop
  | _, p, .cmp c => c.Ok ∧ 1 ≤ p
  | d + 1, p, .no c => Good d p c
  | d + 1, p, .bin _ cs => 2 ≤ cs.length ∧ Spl (Good d) p cs
  | 0, _, _ => False
def sI : List Int → Int
  | [] => 0
  | x :: l => x + sI l
theorem sI_rep (x : Int) : ∀ k : Nat, sI (List.replicate k x) = k * x
  | 0 => by simp [sI]
  | k + 1 => by rw [List.replicate_succ, sI, sI_rep x k, Int.natCast_succ, Int.add_mul]; omega
theorem sI_set : ∀ (l : List Int) (r : Nat) (v : Int) (h : r < l.length), sI (l.set r v) = sI l - l[r] + v
  | x :: l, 0, v, _ => by simp [sI]; omega
  | x :: l, r + 1, v, h => by
    have := sI_set l r v (by simpa using h)
    simp only [List.set_cons_succ, sI, List.getElem_cons_succ]; omega
theorem spl_of {G : Int → Cn → Prop} : ∀ (ps : List Int) (cs : List Cn) (p : Int), ps.length = cs.length → (∀ x ∈ ps, 1 ≤ x) → (∀ (j : Nat) (c : Cn) (x : Int), cs[j]? = some c → ps[j]? = some x → G x c) → sI ps ≤ p → Spl G p cs
  | [], [], p, _, _, _, h => h
  | x :: ps, c :: cs, p, hl, h1, hg, h => ⟨x, sI ps, h, h1 x (by simp), hg 0 c x rfl rfl, spl_of ps cs _ (by simpa using hl) (fun y m => h1 y (by simp [m])) (fun j c x a b => hg (j + 1) c x a b) (Int.le_refl _)⟩
theorem or3 {a b c e : Prop} [Decidable a] [Decidable b] [Decidable c] [Decidable e] {A B : Prop} (h1 : A) (h2 : ¬ a → ¬ b → ¬ (c ∧ e) → B) : if decide a = true then A else if decide b = true then A else if decide c = true then if decide e = true then A else B else B := by
  refine ite_b (fun _ => h1) (fun x => ite_b (fun _ => h1) (fun y => ite_b (fun z => ite_b (fun _ => h1) (fun w => h2 x y (fun q => w q.2))) (fun z => h2 x y (fun q => z q.1))))
section
variable {P : Prg} [H3.U P] [Lw.U P] [Lr.U P] [L3.U P] [U P] {a : Nat}
theorem tree_ok : ∀ (d n : Nat) (p : Int) (h : AHeap) (Q : AV → AHeap → Prop), 1 ≤ p → p ≤ 8 → Hnd a h → (∀ c h', Hx a h h' → Good d p c → Q c.av h') → callN P (n + d + 3) 101 [.adr a, .int (d : Int), .int p] h Q := by
  intro d
  induction d with
  | zero =>
    intro n p h Q p1 p8 hd q
    refine call_of U.f__law_tree rfl ?_
    show WpSs (ctxOf P (callN P (n+2))) b_law_tree _ [.val (.adr a), .val (.int ((0 : Nat) : Int)), .val (.int p), .no, .no, .no, .no, .no, .no] h
    push_cast [b_law_tree, sg_list]
    refine H3.take_ok hd (by decide) fun k h1 x1 hk => ?_
    have d0 : decide (((0 : Nat) : Int) = 0) = true := by decide
    push_cast [d0, if_true]
    refine ⟨by decide, ?_⟩
    refine H3.take_ok x1.hand (by decide) fun r h2 x2 hr => ?_
    refine k_pickF wS (xs := SGN) (by simpa [SGN] using hr) fun s hs => ?_
    push_cast [wS]
    refine simple_ok x2.hand fun l h3 x3 bl => ?_
    refine simple_ok x3.hand fun rr h4 x4 br => ?_
    refine ⟨le4, ?_⟩
    have := q (.cmp ⟨s, l, rr⟩) _ (((x1.trans x2).trans x3).trans x4) ⟨⟨hs, bl, br⟩, p1⟩
    rw [Cn.av] at this
    exact this
  | succ d ih =>
    intro n p h Q p1 p8 hd q
    refine call_of U.f__law_tree rfl ?_
    show WpSs (ctxOf P (callN P (n+d+3))) b_law_tree _ [.val (.adr a), .val (.int ((d + 1 : Nat) : Int)), .val (.int p), .no, .no, .no, .no, .no, .no] h
    have e1 : ((d + 1 : Nat) : Int) - 1 = (d : Int) := by omega
    have hz := sz1
    -- the parts
    have fin : ∀ (ps : List Int) (k m : Int) (h' : AHeap) (s4 s7 s8 : Slot), Hx a h h' → (∀ x ∈ ps, 1 ≤ x ∧ x ≤ 8) → 2 ≤ ps.length → ps.length ≤ 8 → sI ps ≤ p → WpSs (ctxOf P (callN P (n+d+3))) b_law_tree_1 { nx := fun _ h => Q .non h, rt := Q } [.val (.adr a), .val (.int ((d + 1 : Nat) : Int)), .val (.int p), .val (.int k), s4, .val (.int m), .own (.lst (ps.map AV.int)), s7, s8] h' := by
      intro ps k m h' s4 s7 s8 x' hp l2 l8 hs
      push_cast [b_law_tree_1]
      refine ⟨by rw [List.length_map]; omega, ?_⟩
      refine comp_inv (fun i acc h2 => Hx a h h2 ∧ ∃ cs : List Cn, acc = cs.map Cn.av ∧ cs.length = i ∧ ∀ (j : Nat) (c : Cn) (x : Int), cs[j]? = some c → ps[j]? = some x → Good d x c) ⟨x', [], rfl, rfl, fun j c x e _ => by cases e⟩ (fun _ _ _ _ _ => by trivial) ?_ ?_
      · rintro i y _ h2 R hx ⟨x2, cs, rfl, hl, hg⟩ k1 k2
        obtain ⟨x, hxi, rfl⟩ := items_map hx
        push_cast [if_true, e1]
        have hm := hp x (List.mem_of_getElem? hxi)
        refine ih n x h2 _ hm.1 hm.2 x2.hand fun c h3 x3 gc => ?_
        refine k1 _ _ ⟨x2.trans x3, cs ++ [c], by simp, by simp [hl], fun j c' x' e1 e2 => ?_⟩
        by_cases hj : j < i
        · rw [List.getElem?_append_left (by omega)] at e1
          exact hg j c' x' e1 e2
        · have : j = i := by
            have := (List.getElem?_eq_some_iff.mp e1).1
            simp at this; omega
          subst this
          rw [List.getElem?_append_right (by omega), hl, Nat.sub_self] at e1
          cases e1
          rw [hxi] at e2
          cases e2
          exact gc
      · rintro _ h2 ⟨x2, cs, rfl, hl, hg⟩
        rw [List.length_map] at hl
        have ao : ("and" : Str) = mkS (kW false) ∧ ("or" : Str) = mkS (kW true) := ⟨clits.2.1, clits.2.2.1⟩
        push_cast [ao]
        show _
        refine ⟨le2, ?_⟩
        refine H3.take_ok x2.hand (by decide) fun r h3 x3 hr => ?_
        refine k_pickF (fun b => wS (kW b)) (xs := [false, true]) (by simpa using hr) fun b _ => ?_
        refine ⟨le2, ?_⟩
        have := q (.bin b cs) _ (x2.trans x3) ⟨by omega, spl_of ps cs p (by omega) (fun x m => (hp x m).1) hg hs⟩
        rw [Cn.av, avs_map] at this
        exact this
    have rest : ∀ (k : Int) (m : Nat) (h' : AHeap) (s4 s6 s7 s8 : Slot), Hx a h h' → 2 ≤ m → (m : Int) ≤ p → WpSs (ctxOf P (callN P (n+d+3))) b_law_tree_2 { nx := fun _ h => Q .non h, rt := Q } [.val (.adr a), .val (.int ((d + 1 : Nat) : Int)), .val (.int p), .val (.int k), s4, .val (.int (m : Int)), s6, s7, s8] h' := by
      intro k m h' s4 s6 s7 s8 x' m2 mp
      have fl : ∀ x : Int, (List.replicate ((m : Int).toNat) [AV.int x]).flatten = (List.replicate m x).map AV.int := by
        intro x
        rw [Int.toNat_natCast, List.flatten_replicate_singleton, List.map_replicate]
      have mm : (m : Int) * (p / m) ≤ p := Int.mul_ediv_self_le (by omega)
      have pm : 1 ≤ p / m := (Int.le_ediv_iff_mul_le (by omega)).mpr (by omega)
      have pm8 : p / m ≤ 8 := by
        have : (m : Int) * 1 ≤ m * (p / m) := Int.mul_le_mul_of_nonneg_left pm (by omega)
        have h2 : 2 * (p / m) ≤ m * (p / m) := Int.mul_le_mul_of_nonneg_right (by omega) (by omega)
        omega
      push_cast [b_law_tree_2, viewW_lst, fl]
      refine ⟨divA (by omega) (by omega), by show 1 ≤ sizeLine; decide, ⟨by omega, by omega⟩, by simp; omega, ?_⟩
      refine H3.take_ok x'.hand (by decide) fun r h1 x1 hr => ?_
      push_cast [WpSs]
      refine ite_b (fun _ => ?_) (fun _ => ?_)
      · refine ⟨by show 1 ≤ sizeLine; decide, ⟨by omega, by omega⟩, by simp; omega, ?_⟩
        refine H3.take_ok x1.hand (by omega) fun j h2 x2 hj => ?_
        have hj : j < m := by omega
        have ix : ixN ((List.replicate m (1 : Int)).map AV.int).length (j : Int) = some j := by
          rw [List.length_map, List.length_replicate]
          exact Evl.ixN_nat hj
        push_cast [putC, ix, set_int]
        have hs := sI_set (List.replicate m (1 : Int)) j (p - (m : Int) + 1) (by simpa using hj)
        rw [sI_rep, List.getElem_replicate] at hs
        refine fin _ _ _ _ _ _ _ ((x'.trans x1).trans x2) (fun x hx => ?_) (by simp; omega) (by simp; omega) (by omega)
        rcases List.mem_or_eq_of_mem_set hx with z | rfl
        · rw [(List.mem_replicate.mp z).2]; omega
        · omega
      · refine fin _ _ _ _ _ _ _ (x'.trans x1) (fun x hx => ?_) (by simp; omega) (by simp; omega) (by rw [sI_rep]; exact mm)
        rw [(List.mem_replicate.mp hx).2]; omega
    push_cast [b_law_tree, sg_list]
    refine H3.take_ok hd (by decide) fun k h1 x1 hk => ?_
    push_cast [WpSs]
    refine or3 ?_ fun c0 c1 c2 => ?_
    · refine ⟨by decide, ?_⟩
      refine H3.take_ok x1.hand (by decide) fun r h2 x2 hr => ?_
      refine k_pickF wS (xs := SGN) (by simpa [SGN] using hr) fun s hs => ?_
      push_cast [wS]
      refine simple_ok (n := n + d + 1) x2.hand fun l h3 x3 bl => ?_
      refine simple_ok (n := n + d + 1) x3.hand fun rr h4 x4 br => ?_
      refine ⟨le4, ?_⟩
      have := q (.cmp ⟨s, l, rr⟩) _ (((x1.trans x2).trans x3).trans x4) ⟨⟨hs, bl, br⟩, p1⟩
      rw [Cn.av] at this
      exact this
    push_cast [b_law_tree_4, e1]
    refine ite_b (fun c3 => ?_) (fun c3 => ?_)
    · refine ih n p h1 _ p1 p8 x1.hand fun c h2 x2 g => ?_
      refine ⟨le2, ?_⟩
      have := q (.no c) _ (x1.trans x2) g
      rw [Cn.av] at this
      exact this
    push_cast [b_law_tree_3]
    refine ⟨mulA_l (by omega) (by omega), ?_⟩
    refine H3.take_ok x1.hand (by omega) fun r h2 x2 hr => ?_
    have er : (2 : Int) + (r : Int) / 3 = ((2 + r / 3 : Nat) : Int) := by omega
    push_cast [er]
    refine ⟨divA (by decide) (by decide), ?_⟩
    refine H3.take_ok x2.hand (by decide) fun r3 h3 x3 hr3 => ?_
    push_cast [WpSs]
    have xx := (x1.trans x2).trans x3
    refine ite_b (fun _ => ?_) (fun _ => ?_)
    · exact rest k 2 _ _ _ _ _ xx (by omega) (by omega)
    · exact rest k (2 + r / 3) _ _ _ _ _ xx (by omega) (by omega)
end
end K03

set_option maxRecDepth 100000
set_option maxHeartbeats 4000000
namespace L3
open PySem L2 VL Wd Tm Tw Lw Lr Hd Ln Lt
local macro_rules
  | `(tactic| push_cast [$xs,*]) => `(tactic| try simp only [$xs,*, WpSs, WpS, WpE, WpEs, WpBs, WpO, WpN, WpI, WpC, WpT, getS, setS, tgK, setsS, wipeS, k_add, k_addT, k_sub, k_mul, k_fdiv, k_mod, k_neg, k_lt, k_le, k_gt, k_ge, k_eqI, k_neI, k_eqS, k_neS, k_eqB, k_neB, k_is, k_isn, isNon_non, isNon_int, isNon_str, isNon_lst, isNon_tup, isNon_adr, k_lenS, k_lenL, k_lenR, k_lenT, k_int, k_str, k_abs, tru_bl, augK, ctx_call, ctx_glob, k_in, k_nin, k_inS, k_addS, k_intB, isi_non_int, isi_non_bool, isi_non_str, isi_non_list, isi_non_tuple, isi_bl_int, isi_bl_bool, isi_bl_str, isi_bl_list, isi_bl_tuple, isi_int_int, isi_int_bool, isi_int_str, isi_int_list, isi_int_tuple, isi_str_int, isi_str_bool, isi_str_str, isi_str_list, isi_str_tuple, isi_tup_int, isi_tup_bool, isi_tup_str, isi_tup_list, isi_tup_tuple, isi_lst_int, isi_lst_bool, isi_lst_str, isi_lst_list, isi_lst_tuple, isi_ro_int, isi_ro_bool, isi_ro_str, isi_ro_list, isi_ro_tuple])
section
variable {P : Prg} [H3.U P] [Lw.U P] [Lr.U P] [U P] {n a : Nat} {h : AHeap} {Q : AV → AHeap → Prop}
theorem plus_text_ok {p : Int} (b : Bd p) (q : Q (.str (mkS (pT p))) h) : callN P (n+1) 95 [.int p] h Q := by
  refine call_of U.f__law_plus_text rfl ?_
  show WpSs (ctxOf P (callN P n)) b_law_plus_text _ [.val (.int p)] h
  push_cast [b_law_plus_text, tlits]
  refine ite_b (fun c => ?_) (fun c => ?_)
  · subst c; exact q
  have lp : ("-" : Str) = mkS sgM ∧ ("+" : Str) = mkS sgP := ⟨lits.2.1, lits.1⟩
  push_cast [b_law_plus_text_1, tlits, lp, mkS_len, mkS_app]
  refine ⟨by show 2 ≤ sizeLine; decide, ?_⟩
  unfold pT at q
  by_cases c1 : 0 < p
  · rw [if_pos c1] at q
    have d : decide (0 < p) = true := decide_eq_true c1
    have e : (if p < 0 then -p else p) = p := if_neg (by omega)
    have := bd_len b
    push_cast [d, e, if_true, dg_str, mkS_len, mkS_app]
    refine k_subL (d := .str (mkS sgP)) viewT_lst (fun _ h => by cases h) rfl ?_
    push_cast [dg_str, mkS_len, mkS_app]
    exact ⟨szN (by simp [sgP]), szN (by simp [sgP]), bd_log b, szN (by simp [sgP]; omega), q⟩
  · rw [if_neg c1, if_pos (by omega)] at q
    have d : decide (0 < p) = false := decide_eq_false c1
    have e : (if p < 0 then -p else p) = -p := if_pos (by omega)
    have := bd_len b.neg
    push_cast [d, e, Bool.false_eq_true, if_false, dg_str, mkS_len, mkS_app]
    refine k_subL (d := .str (mkS sgM)) viewT_lst (fun _ h => by cases h) rfl ?_
    push_cast [dg_str, mkS_len, mkS_app]
    exact ⟨szN (by simp [sgM]), szN (by simp [sgM]), bd_log b.neg, szN (by simp [sgM]; omega), q⟩
theorem text_pl_ok {p : Pl} (b : Pl.Ok p) (q : Q (.str (mkS (plT p))) h) : callN P (n+2) 96 [p.av] h Q := by
  refine call_of U.f__law_text rfl ?_
  show WpSs (ctxOf P (callN P (n+1))) b_law_text _ [.val p.av] h
  cases p with
  | num k =>
    push_cast [Pl.av, b_law_text]
    refine k_t0 ?_
    push_cast [decide_true, if_true]
    refine k_t1 ?_
    push_cast [WpSs]
    exact ⟨bd_log b, q⟩
  | var w p =>
    obtain ⟨b1, b2⟩ := b
    have := ok_len b1
    have := pT_len b2
    push_cast [Pl.av, b_law_text]
    refine k_t30 ?_
    push_cast [kinds_ne, Bool.false_eq_true, if_false, b_law_text_3]
    refine k_t30 ?_
    push_cast [decide_true, if_true]
    refine k_t31 ?_
    refine k_t2 ?_
    refine plus_text_ok b2 ?_
    push_cast [mkS_len, mkS_app]
    exact ⟨szN (by omega), q⟩
  | len w p =>
    obtain ⟨b1, b2⟩ := b
    have := ok_len (.inl b1)
    have := pT_len b2
    push_cast [Pl.av, b_law_text]
    refine k_t30 ?_
    push_cast [kinds_ne, Bool.false_eq_true, if_false, b_law_text_3]
    refine k_t30 ?_
    push_cast [kinds_ne, Bool.false_eq_true, if_false, b_law_text_2]
    refine k_t30 ?_
    push_cast [decide_true, if_true]
    refine k_t31 ?_
    push_cast [tlits, mkS_len, mkS_app]
    refine ⟨szN (by simp; omega), ?_⟩
    refine k_t2 ?_
    refine plus_text_ok b2 ?_
    push_cast [mkS_len, mkS_app]
    exact ⟨szN (by simp; omega), q⟩
theorem text_ok {t : Te} (b : Te.Ok t) (q : Q (.str (mkS (teT t))) h) : callN P (n+3) 96 [t.av] h Q := by
  cases t with
  | pl p => exact text_pl_ok b q
  | cell w o ix p =>
    obtain ⟨b1, b2, b3⟩ := b
    have := lT_len (o := o) b1; have := plT_len b2; have := pT_len b3
    refine call_of U.f__law_text rfl ?_
    show WpSs (ctxOf P (callN P (n+2))) b_law_text _ [.val (Te.av (.cell w o ix p))] h
    push_cast [Te.av, b_law_text]
    refine k_t4 (k := 0) rfl ?_
    push_cast [kinds_ne, Bool.false_eq_true, if_false, b_law_text_3]
    refine k_t4 (k := 0) rfl ?_
    push_cast [kinds_ne, Bool.false_eq_true, if_false, b_law_text_2]
    refine k_t4 (k := 0) rfl ?_
    push_cast [kinds_ne, Bool.false_eq_true, if_false, b_law_text_1]
    refine k_t4 (k := 1) rfl ?_
    refine list_text_ok (by have := ok_len (.inl b1); omega) ?_
    have lo : ("[" : Str) = mkS brO ∧ ("]" : Str) = mkS brC := ⟨lits.2.2.1, lits.2.2.2.1⟩
    push_cast [lo, mkS_len, mkS_app]
    refine ⟨szN (by simp [brO]; omega), ?_⟩
    refine k_t4 (k := 2) rfl ?_
    refine text_pl_ok b2 ?_
    push_cast [mkS_len, mkS_app]
    refine ⟨szN (by simp [brO]; omega), szN (by simp [brO, brC]; omega), ?_⟩
    refine k_t4 (k := 3) rfl ?_
    refine plus_text_ok b3 ?_
    push_cast [mkS_len, mkS_app]
    exact ⟨szN (by simp [brO, brC]; omega), q⟩
end
end L3

set_option maxRecDepth 100000
set_option maxHeartbeats 4000000
namespace K03
open PySem L2 VL Wd Tm Tw Lw Lr Hd Ln Lt Pm Cd
local macro_rules
  | `(tactic| push_cast [$xs,*]) => `(tactic| try simp only [$xs,*, WpSs, WpS, WpE, WpEs, WpBs, WpO, WpN, WpI, WpC, WpT, getS, setS, tgK, setsS, wipeS, k_add, k_addT, k_sub, k_mul, k_fdiv, k_mod, k_neg, k_lt, k_le, k_gt, k_ge, k_eqI, k_neI, k_eqS, k_neS, k_eqB, k_neB, k_is, k_isn, isNon_non, isNon_int, isNon_str, isNon_lst, isNon_tup, isNon_adr, k_lenS, k_lenL, k_lenR, k_lenT, k_int, k_str, k_abs, tru_bl, augK, ctx_call, ctx_glob, k_in, k_nin, k_inS, k_addS, k_intB, isi_non_int, isi_non_bool, isi_non_str, isi_non_list, isi_non_tuple, isi_bl_int, isi_bl_bool, isi_bl_str, isi_bl_list, isi_bl_tuple, isi_int_int, isi_int_bool, isi_int_str, isi_int_list, isi_int_tuple, isi_str_int, isi_str_bool, isi_str_str, isi_str_list, isi_str_tuple, isi_tup_int, isi_tup_bool, isi_tup_str, isi_tup_list, isi_tup_tuple, isi_lst_int, isi_lst_bool, isi_lst_str, isi_lst_list, isi_lst_tuple, isi_ro_int, isi_ro_bool, isi_ro_str, isi_ro_list, isi_ro_tuple])
def isB : Cn → Bool
  | .bin _ _ => true
  | _ => false
def isO : Cn → Bool
  | .bin o _ => o
  | _ => false
/-- a part of an or, or of an and and a not, that wants parentheses -/
def nd (o : Bool) (c : Cn) : Bool := if o = true then isO c else isB c
def wr (b : Bool) (t : W) : W := if b = true then [40] ++ t ++ [41] else t
def jS (o : Bool) : W := [32] ++ kW o ++ [32]
mutual
def tx : Cn → W
  | .cmp c => cmpT c
  | .no c => wNot ++ [32] ++ wr (nd false c) (tx c)
  | .bin o cs => TL.joinL (jS o) (txs o cs)
def txs (o : Bool) : List Cn → List W
  | [] => []
  | c :: cs => wr (nd o c) (tx c) :: txs o cs
end
theorem txs_map (o : Bool) : ∀ cs : List Cn, txs o cs = cs.map fun c => wr (nd o c) (tx c)
  | [] => by simp [txs]
  | c :: cs => by rw [txs, txs_map o cs, List.map_cons]
theorem wr_len (b : Bool) (t : W) : (wr b t).length ≤ t.length + 2 := by
  unfold wr; split
  · simp
  · omega
theorem join_len (S x : W) : ∀ ls : List W, (TL.joinL S (x :: ls)).length ≤ x.length + S.length + (TL.joinL S ls).length
  | [] => by simp [TL.joinL]
  | y :: r => by simp [TL.joinL]; omega
theorem jS_len (o : Bool) : (jS o).length ≤ 5 := by cases o <;> decide
theorem spl_len {G : Int → Cn → Prop} {B : Int} (hB : 0 ≤ B) (o : Bool) (hG : ∀ a c, G a c → ((tx c).length : Int) ≤ a * B) : ∀ (cs : List Cn) (p : Int), Spl G p cs → 0 ≤ p ∧ ((TL.joinL (jS o) (txs o cs)).length : Int) ≤ p * (B + 20)
  | [], p, h => by
    have h : 0 ≤ p := h
    refine ⟨h, ?_⟩
    have := Int.mul_nonneg h (show 0 ≤ B + 20 by omega)
    simp [txs, TL.joinL]; omega
  | c :: cs, p, h => by
    obtain ⟨a, b, hs, ha, hg, hr⟩ := h
    obtain ⟨hb, hl⟩ := spl_len hB o hG cs b hr
    refine ⟨by omega, ?_⟩
    have h1 := hG a c hg
    have h2 := wr_len (nd o c) (tx c)
    have h3 := join_len (jS o) (wr (nd o c) (tx c)) (txs o cs)
    have h4 := jS_len o
    have h5 : (a + b) * (B + 20) ≤ p * (B + 20) := Int.mul_le_mul_of_nonneg_right hs (by omega)
    rw [Int.add_mul, Int.mul_add a B 20] at h5
    rw [txs]
    omega
theorem tx_len : ∀ (d : Nat) (p : Int) (c : Cn), Good d p c → 1 ≤ p ∧ ((tx c).length : Int) ≤ p * (230 + 20 * (d : Int))
  | d, p, .cmp c, h => by
    obtain ⟨b, h1⟩ : c.Ok ∧ 1 ≤ p := by cases d <;> exact h
    have := cmpT_len b
    have h2 : 1 * (230 + 20 * (d : Int)) ≤ p * (230 + 20 * (d : Int)) := Int.mul_le_mul_of_nonneg_right h1 (by omega)
    rw [tx]
    exact ⟨by omega, by omega⟩
  | d + 1, p, .no c, h => by
    have h : Good d p c := h
    obtain ⟨h0, h1⟩ := tx_len d p c h
    have h2 := wr_len (nd false c) (tx c)
    have e : p * (230 + 20 * ((d + 1 : Nat) : Int)) = p * (230 + 20 * (d : Int)) + p * 20 := by
      rw [← Int.mul_add]; congr 1
    rw [tx, e]
    simp only [List.length_append, List.length_cons, List.length_nil, wNot]
    exact ⟨by omega, by omega⟩
  | d + 1, p, .bin o cs, h => by
    obtain ⟨h2, hs⟩ : 2 ≤ cs.length ∧ Spl (Good d) p cs := h
    have e : 230 + 20 * ((d + 1 : Nat) : Int) = 230 + 20 * (d : Int) + 20 := by omega
    rw [tx, e]
    have := spl_len (by omega) o (fun a c g => (tx_len d a c g).2) cs p hs
    refine ⟨?_, this.2⟩
    cases cs with
    | nil => exact absurd h2 (by decide)
    | cons c cs =>
      obtain ⟨a, b, h1, h2, h3, h4⟩ := hs
      have := (spl_len (by omega) o (fun a c g => (tx_len d a c g).2) cs b h4).1
      omega
end K03

set_option maxRecDepth 100000
set_option maxHeartbeats 4000000
namespace K03
open PySem L2 VL Wd Tm Tw Lw Lr Hd Ln Lt Pm Cd
local macro_rules
  | `(tactic| push_cast [$xs,*]) => `(tactic| try simp only [$xs,*, WpSs, WpS, WpE, WpEs, WpBs, WpO, WpN, WpI, WpC, WpT, getS, setS, tgK, setsS, wipeS, k_add, k_addT, k_sub, k_mul, k_fdiv, k_mod, k_neg, k_lt, k_le, k_gt, k_ge, k_eqI, k_neI, k_eqS, k_neS, k_eqB, k_neB, k_is, k_isn, isNon_non, isNon_int, isNon_str, isNon_lst, isNon_tup, isNon_adr, k_lenS, k_lenL, k_lenR, k_lenT, k_int, k_str, k_abs, tru_bl, augK, ctx_call, ctx_glob, k_in, k_nin, k_inS, k_addS, k_intB, isi_non_int, isi_non_bool, isi_non_str, isi_non_list, isi_non_tuple, isi_bl_int, isi_bl_bool, isi_bl_str, isi_bl_list, isi_bl_tuple, isi_int_int, isi_int_bool, isi_int_str, isi_int_list, isi_int_tuple, isi_str_int, isi_str_bool, isi_str_str, isi_str_list, isi_str_tuple, isi_tup_int, isi_tup_bool, isi_tup_str, isi_tup_list, isi_tup_tuple, isi_lst_int, isi_lst_bool, isi_lst_str, isi_lst_list, isi_lst_tuple, isi_ro_int, isi_ro_bool, isi_ro_str, isi_ro_list, isi_ro_tuple])
theorem k_joinS {h : AHeap} {x : AV} {S : W} {ls : List (List Nat)} {Q : KA} (hx : viewT h x = some (wl ls)) (hz : ls.flatten.length + ls.length * S.length ≤ 16777216) (q : Q (.str (mkS (TL.joinL S ls)))) : smtK h .join (mkS S) x Q := by
  unfold smtK
  have e : Txt.join (mkS S) (ls.map mkS) = mkS (TL.joinL S ls) := SX.join_S S ls
  simp only [hx, Option.bind_some, wl_map, e]
  refine ⟨?_, q⟩
  rw [sum_lens, mkS_len, List.length_map]
  exact hz
def wCmp : W := [99, 109, 112]
def tagC : Cn → W
  | .cmp _ => wCmp
  | .no _ => wNot
  | .bin o _ => kW o
theorem hlits : ("cmp" : Str) = mkS wCmp ∧ ("not" : Str) = mkS wNot ∧ ("and" : Str) = mkS (kW false) ∧ ("or" : Str) = mkS (kW true) ∧ ("(" : Str) = mkS [40] ∧ (")" : Str) = mkS [41] ∧ (" and " : Str) = mkS (jS false) ∧ (" or " : Str) = mkS (jS true) ∧ ("not " : Str) = mkS (wNot ++ [32]) ∧ (" " : Str) = mkS [32] := by decide +kernel
theorem tag_subC {h : AHeap} {c : Cn} {Q : KA} (q : Q (.str (mkS (tagC c)))) : subK h c.av (.int 0) Q := by
  cases c with
  | cmp c =>
    rw [Cn.av]
    refine k_t4 (l := [.str "cmp", .str (mkS c.s), c.l.av, c.r.av]) (k := 0) rfl ?_
    rw [hlits.1]; exact q
  | no c =>
    rw [Cn.av]
    refine k_t4 (k := 0) rfl ?_
    rw [hlits.2.1]; exact q
  | bin o cs =>
    rw [Cn.av]
    exact k_t4 (k := 0) rfl q
theorem tag_isB (c : Cn) : decide (tagC c ∈ [kW false, kW true]) = isB c := by
  cases c with
  | cmp c => exact (decide_eq_false (by show wCmp ∉ _; decide))
  | no c => exact (decide_eq_false (by show wNot ∉ _; decide))
  | bin o cs => exact decide_eq_true (by show kW o ∈ _; cases o <;> decide)
theorem tag_isO (c : Cn) : decide (tagC c ∈ [kW true]) = isO c := by
  cases c with
  | cmp c => exact (decide_eq_false (by show wCmp ∉ _; decide))
  | no c => exact (decide_eq_false (by show wNot ∉ _; decide))
  | bin o cs =>
    show decide (kW o ∈ [kW true]) = o
    cases o <;> decide
/-- the kinds that get parentheses -/
def ks (o : Bool) : List W := if o = true then [kW true] else [kW false, kW true]
theorem tag_nd (o : Bool) (c : Cn) : decide (tagC c ∈ ks o) = nd o c := by
  cases o
  · exact tag_isB c
  · exact tag_isO c
theorem spl_n {G : Int → Cn → Prop} : ∀ (cs : List Cn) (p : Int), Spl G p cs → (cs.length : Int) ≤ p
  | [], p, h => h
  | c :: cs, p, h => by
    obtain ⟨a, b, h1, h2, _, h4⟩ := h
    have := spl_n cs b h4
    simp only [List.length_cons]; omega
theorem spl_mem {G : Int → Cn → Prop} : ∀ (cs : List Cn) (p : Int) (c : Cn), Spl G p cs → c ∈ cs → ∃ a, a ≤ p ∧ G a c
  | x :: cs, p, c, h, m => by
    obtain ⟨a, b, h1, h2, h3, h4⟩ := h
    have := spl_n cs b h4
    rcases List.mem_cons.mp m with rfl | m
    · exact ⟨a, by omega, h3⟩
    · obtain ⟨e, e1, e2⟩ := spl_mem cs b c h4 m
      exact ⟨e, by omega, e2⟩
theorem flat_join (S : W) : ∀ ls : List W, ls.flatten.length ≤ (TL.joinL S ls).length
  | [] => Nat.le_refl _
  | [x] => by simp [TL.joinL]
  | x :: y :: r => by
    have := flat_join S (y :: r)
    simp [TL.joinL] at this ⊢; omega
theorem txs_len (o : Bool) (cs : List Cn) : (txs o cs).length = cs.length := by rw [txs_map, List.length_map]
theorem txs_get {o : Bool} {cs : List Cn} {i : Nat} {c : Cn} (h : cs[i]? = some c) : (txs o cs)[i]? = some (wr (nd o c) (tx c)) := by
  rw [txs_map, List.getElem?_map, h]; rfl
theorem avs_get {cs : List Cn} : Cn.avs cs = cs.map Cn.av := avs_map cs
theorem good_len {d : Nat} {p : Int} {c : Cn} (hd : d ≤ 5) (p8 : p ≤ 8) (g : Good d p c) : (tx c).length ≤ 3000 := by
  have tl := tx_len d p c g
  have h5 : p * (230 + 20 * (d : Int)) ≤ 8 * (230 + 20 * (d : Int)) := Int.mul_le_mul_of_nonneg_right p8 (by omega)
  omega
theorem szB {x : Nat} (h : x ≤ 10000) : x ≤ sizeLine := Nat.le_trans h (by decide)
section
variable {P : Prg} [Tw.U P] [Wc.U P] {n m : Nat} {h : AHeap}
theorem part_w {c : Cn} {o : Bool} (hl : (tx c).length ≤ 5000) (hw : ∀ Q : AV → AHeap → Prop, Q (.str (mkS (tx c))) h → callN P m 51 [c.av] h Q) {Q : AV → AHeap → Prop} (q : Q (.str (mkS (wr (nd o c) (tx c)))) h) : callN P (m+1) 50 [c.av, .tup (wl (ks o))] h Q := by
  refine call_of Wc.U.f_write_part rfl ?_
  show WpSs (ctxOf P (callN P m)) Wc.b_write_part _ [.val c.av, .val (.tup (wl (ks o)))] h
  push_cast [Wc.b_write_part, hlits]
  refine tag_subC ?_
  refine in_wl rfl (fun _ h => by cases h) ?_
  push_cast [Bool.false_eq_true, if_false, tag_nd]
  unfold wr at q
  cases e : nd o c with
  | true =>
    rw [e, if_pos rfl] at q
    push_cast [if_true]
    refine hw _ ?_
    push_cast [mkS_len, mkS_app]
    exact ⟨szB (by simp; omega), szB (by simp; omega), q⟩
  | false =>
    rw [e, if_neg (by decide)] at q
    push_cast [Bool.false_eq_true, if_false, Wc.b_write_part_1]
    exact hw _ q
theorem write_condition_ok : ∀ (d : Nat), d ≤ 5 → ∀ (n : Nat) (p : Int) (c : Cn) (Q : AV → AHeap → Prop), p ≤ 8 → Good d p c → Q (.str (mkS (tx c))) h → callN P (n + 2 * d + 4) 51 [c.av] h Q := by
  intro d
  have cm : ∀ (n : Nat) (c : Cmp) (Q : AV → AHeap → Prop), c.Ok → Q (.str (mkS (cmpT c))) h → callN P (n + 4) 51 [(Cn.cmp c).av] h Q := by
    intro n c Q b q
    rw [Cn.av]
    refine call_of Wc.U.f_write_condition rfl ?_
    obtain ⟨s, l, r⟩ := c
    obtain ⟨b1, b2, b3⟩ := b
    show WpSs (ctxOf P (callN P (n+3))) Wc.b_write_condition _ [.val (.tup [.str "cmp", .str (mkS s), l.av, r.av]), .no] h
    have b1' : s.length ≤ 2 := sgn_l b1
    have b2' : (teT l).length ≤ 100 := teT_len b2
    have b3' : (teT r).length ≤ 100 := teT_len b3
    push_cast [Wc.b_write_condition]
    refine k_t4 (k := 0) rfl ?_
    push_cast [decide_true, if_true]
    refine k_t4 (k := 2) rfl ?_
    refine write_term_ok b2 ?_
    push_cast [hlits, mkS_len, mkS_app, List.length_append]
    refine ⟨szB (by simp; omega), ?_⟩
    refine k_t4 (k := 1) rfl ?_
    push_cast [hlits, mkS_len, mkS_app, List.length_append]
    refine ⟨szB (by simp; omega), szB (by simp; omega), ?_⟩
    refine k_t4 (k := 3) rfl ?_
    refine write_term_ok b3 ?_
    push_cast [mkS_len, mkS_app, List.length_append]
    exact ⟨szB (by simp; omega), q⟩
  induction d with
  | zero =>
    intro _ n p c Q p8 g q
    cases c with
    | cmp c => rw [tx] at q; exact cm n c Q g.1 q
    | no c => exact g.elim
    | bin o cs => exact g.elim
  | succ d ih =>
    intro hd n p c Q p8 g q
    cases c with
    | cmp c => rw [tx] at q; exact cm (n + 2 * (d + 1)) c Q g.1 q
    | no c =>
      have g : Good d p c := g
      have tl := tx_len d p c g
      have h5 : p * (230 + 20 * (d : Int)) ≤ 8 * (230 + 20 * (d : Int)) := Int.mul_le_mul_of_nonneg_right p8 (by omega)
      have wl' := wr_len (nd false c) (tx c)
      refine call_of Wc.U.f_write_condition rfl ?_
      show WpSs (ctxOf P (callN P (n + 2 * d + 5))) Wc.b_write_condition _ [.val (Cn.no c).av, .no] h
      push_cast [Wc.b_write_condition, hlits]
      refine tag_subC ?_
      have d1 : decide (tagC (.no c) = wCmp) = false := (show decide (wNot = wCmp) = false by decide)
      push_cast [mkS_eq, d1, Bool.false_eq_true, if_false, Wc.b_write_condition_3, hlits]
      refine tag_subC ?_
      have d2 : decide (tagC (.no c) = wNot) = true := (show decide (wNot = wNot) = true by decide)
      push_cast [mkS_eq, d2, if_true]
      rw [Cn.av]
      refine k_t4 (k := 1) rfl ?_
      refine ⟨le2, ?_⟩
      refine part_w (o := false) (by omega) (fun Q q => ih (by omega) n p c Q p8 g q) ?_
      push_cast [mkS_len, mkS_app]
      rw [tx] at q
      exact ⟨szB (by simp [wNot]; omega), q⟩
    | bin o cs =>
      have tl := good_len (by omega) p8 g
      obtain ⟨l2, g⟩ : 2 ≤ cs.length ∧ Spl (Good d) p cs := g
      have cn := spl_n cs p g
      rw [tx] at q tl
      have fj := flat_join (jS o) (txs o cs)
      have fz : (txs o cs).flatten.length + (txs o cs).length * (jS o).length ≤ 16777216 := by
        have := jS_len o
        rw [txs_len]
        have : cs.length * (jS o).length ≤ 8 * 5 := Nat.mul_le_mul (by omega) this
        omega
      have step : ∀ (i : Nat) (x : AV), (Cn.avs cs)[i]? = some x → ∃ w, (txs o cs)[i]? = some w ∧ ∀ Q : AV → AHeap → Prop, Q (.str (mkS w)) h → callN P (n + 2 * d + 5) 50 [x, .tup (wl (ks o))] h Q := by
        intro i x hx
        rw [avs_map] at hx
        obtain ⟨c, hc, rfl⟩ := items_map hx
        obtain ⟨a, ha, ga⟩ := spl_mem cs p c g (List.mem_of_getElem? hc)
        refine ⟨_, txs_get hc, fun Q q => ?_⟩
        exact part_w (by have := good_len (by omega) (by omega) ga; omega) (fun Q q => ih (by omega) n a c Q (by omega) ga q) q
      refine call_of Wc.U.f_write_condition rfl ?_
      show WpSs (ctxOf P (callN P (n + 2 * d + 5))) Wc.b_write_condition _ [.val (Cn.bin o cs).av, .no] h
      push_cast [Wc.b_write_condition, hlits]
      refine tag_subC ?_
      have d1 : decide (tagC (.bin o cs) = wCmp) = false := (show decide (kW o = wCmp) = false by cases o <;> decide)
      push_cast [mkS_eq, d1, Bool.false_eq_true, if_false, Wc.b_write_condition_3, hlits]
      refine tag_subC ?_
      have d2 : decide (tagC (.bin o cs) = wNot) = false := (show decide (kW o = wNot) = false by cases o <;> decide)
      push_cast [mkS_eq, d2, Bool.false_eq_true, if_false, Wc.b_write_condition_2, hlits]
      refine tag_subC ?_
      cases o with
      | false =>
        have d3 : decide (tagC (.bin false cs) = kW false) = true := (show decide (kW false = kW false) = true by decide)
        push_cast [mkS_eq, d3, if_true]
        rw [Cn.av]
        refine k_t4 (k := 1) rfl ?_
        have vt : viewT h (.tup (Cn.avs cs)) = some (Cn.avs cs) := rfl
        have al : (Cn.avs cs).length = cs.length := by rw [avs_map, List.length_map]
        push_cast [vt]
        refine ⟨szB (by omega), ?_⟩
        refine comp_inv (fun i acc h' => h' = h ∧ acc = wl ((txs false cs).take i)) ⟨rfl, rfl⟩ (fun _ _ _ _ e => by rw [e.1]; exact vt) ?_ ?_
        · rintro i x _ h R hx ⟨rfl, rfl⟩ k1 k2
          obtain ⟨w, hw, hq⟩ := step i x hx
          try simp only [if_true]
          refine ⟨by show 2 ≤ sizeLine; decide, hq _ ?_⟩
          refine k1 _ _ ⟨rfl, ?_⟩
          rw [List.take_succ, hw]
          exact wl_one _ w
        · rintro _ h ⟨rfl, rfl⟩
          rw [List.take_of_length_le (by rw [txs_len, al]; exact Nat.le_refl _)]
          exact k_joinS viewT_lst fz q
      | true =>
        have d3 : decide (tagC (.bin true cs) = kW false) = false := (show decide (kW true = kW false) = false by decide)
        push_cast [mkS_eq, d3, Bool.false_eq_true, if_false, Wc.b_write_condition_1, hlits]
        rw [Cn.av]
        refine k_t4 (k := 1) rfl ?_
        have vt : viewT h (.tup (Cn.avs cs)) = some (Cn.avs cs) := rfl
        have al : (Cn.avs cs).length = cs.length := by rw [avs_map, List.length_map]
        push_cast [vt]
        refine ⟨szB (by omega), ?_⟩
        refine comp_inv (fun i acc h' => h' = h ∧ acc = wl ((txs true cs).take i)) ⟨rfl, rfl⟩ (fun _ _ _ _ e => by rw [e.1]; exact vt) ?_ ?_
        · rintro i x _ h R hx ⟨rfl, rfl⟩ k1 k2
          obtain ⟨w, hw, hq⟩ := step i x hx
          try simp only [if_true]
          refine ⟨by show 1 ≤ sizeLine; decide, hq _ ?_⟩
          refine k1 _ _ ⟨rfl, ?_⟩
          rw [List.take_succ, hw]
          exact wl_one _ w
        · rintro _ h ⟨rfl, rfl⟩
          rw [List.take_of_length_le (by rw [txs_len, al]; exact Nat.le_refl _)]
          exact k_joinS viewT_lst fz q
end
end K03

set_option maxRecDepth 100000
set_option maxHeartbeats 4000000
namespace K03
open PySem L2 VL Wd Tm Tw Lw Lr Hd Ln Lt Pm Cd
local macro_rules
  | `(tactic| push_cast [$xs,*]) => `(tactic| try simp only [$xs,*, WpSs, WpS, WpE, WpEs, WpBs, WpO, WpN, WpI, WpC, WpT, getS, setS, tgK, setsS, wipeS, k_add, k_addT, k_sub, k_mul, k_fdiv, k_mod, k_neg, k_lt, k_le, k_gt, k_ge, k_eqI, k_neI, k_eqS, k_neS, k_eqB, k_neB, k_is, k_isn, isNon_non, isNon_int, isNon_str, isNon_lst, isNon_tup, isNon_adr, k_lenS, k_lenL, k_lenR, k_lenT, k_int, k_str, k_abs, tru_bl, augK, ctx_call, ctx_glob, k_in, k_nin, k_inS, k_addS, k_intB, isi_non_int, isi_non_bool, isi_non_str, isi_non_list, isi_non_tuple, isi_bl_int, isi_bl_bool, isi_bl_str, isi_bl_list, isi_bl_tuple, isi_int_int, isi_int_bool, isi_int_str, isi_int_list, isi_int_tuple, isi_str_int, isi_str_bool, isi_str_str, isi_str_list, isi_str_tuple, isi_tup_int, isi_tup_bool, isi_tup_str, isi_tup_list, isi_tup_tuple, isi_lst_int, isi_lst_bool, isi_lst_str, isi_lst_list, isi_lst_tuple, isi_ro_int, isi_ro_bool, isi_ro_str, isi_ro_list, isi_ro_tuple])
section
variable {P : Prg} [H3.U P] [Lw.U P] [Lr.U P] [L3.U P] [U P] {n a : Nat} {h : AHeap}
theorem needs_ok {w : W} {c : Cn} {Q : AV → AHeap → Prop} (q : Q (.bl (nd (decide (w = kW true)) c)) h) : callN P (n+1) 102 [.str (mkS w), c.av] h Q := by
  refine call_of U.f__law_needs rfl ?_
  show WpSs (ctxOf P (callN P n)) b_law_needs _ [.val (.str (mkS w)), .val c.av] h
  push_cast [b_law_needs, hlits, mkS_eq]
  refine ite_b (fun e => ?_) (fun e => ?_)
  · refine tag_subC ?_
    push_cast [mkS_eq]
    have d : decide (w = kW true) = true := decide_eq_true e
    rw [d] at q
    have : decide (tagC c = kW true) = nd true c := by
      rw [← tag_nd]; simp [ks]
    rw [this]
    exact q
  · have d : decide (w = kW true) = false := decide_eq_false e
    rw [d] at q
    push_cast [b_law_needs_1, hlits]
    refine tag_subC ?_
    refine ⟨le2, ?_⟩
    refine in_wl (ws := ks false) viewT_lst (fun _ h => by cases h) ?_
    simp only [Bool.false_eq_true, if_false, tag_nd]
    exact q
theorem many_ok {Q : AV → AHeap → Prop} (hd : Hnd a h) (q : ∀ (k : Nat) h', Hx a h h' → k ≤ 9 → Q (.int (k : Int)) h') : callN P (n+2) 105 [.adr a] h Q := by
  refine call_of U.f__law_many rfl ?_
  show WpSs (ctxOf P (callN P (n+1))) b_law_many _ [.val (.adr a), .no] h
  push_cast [b_law_many]
  refine H3.take_ok hd (by decide) fun k h1 x1 hk => ?_
  push_cast [WpSs]
  refine ite_b (fun _ => q 9 _ x1 (by decide)) (fun c1 => ?_)
  push_cast [b_law_many_2]
  refine ite_b (fun _ => q 8 _ x1 (by decide)) (fun c2 => ?_)
  push_cast [b_law_many_1]
  refine ⟨le3, ?_⟩
  rw [k_max2]
  have e : (if (k : Int) - 35 > 0 then (k : Int) - 35 else 0) = ((k - 35 : Nat) : Int) := by split <;> omega
  rw [e]
  refine k_pickF (fun j : Nat => AV.int (j : Int)) (xs := [0, 1, 2]) (by simp at c1 c2 ⊢; omega) fun j hj => q j _ x1 ?_
  simp only [List.mem_cons, List.not_mem_nil, or_false] at hj
  omega
/-- the texts of the parts -/
theorem texts_ok {w : W} {o : Bool} (ho : o = decide (w = kW true)) {cs : List Cn} {X cond : AV} {D : Kt} (hX : viewT h X = some (cs.map Cn.av)) (hl : cs.length ≤ 8) (ln : ∀ c ∈ cs, (tx c).length ≤ 5000)
    (hr : ∀ c ∈ cs, ∀ Q : AV → AHeap → Prop, Q (.str (mkS (tx c))) h → callN P (n+1) 103 [c.av] h Q) (ht : ∀ Q : KA, Q (.str (mkS w)) → subK h cond (.int 0) Q)
    (fin : ∀ s3 s4, WpSs (ctxOf P (callN P (n+1))) b_law_condition_text_4 D [.val cond, .val X, .own (.lst (wl (txs o cs))), s3, s4] h) :
    WpSs (ctxOf P (callN P (n+1))) b_law_condition_text_5 D [.val cond, .val X, .no, .no, .no] h := by
  push_cast [b_law_condition_text_5, hX]
  refine ⟨Nat.zero_le _, ?_⟩
  refine for_inv (fun i ρ h' => h' = h ∧ ∃ s3 s4 : Slot, ρ = [.val cond, .val X, .own (.lst (wl ((txs o cs).take i))), s3, s4]) ⟨rfl, _, _, rfl⟩ (fun _ _ _ _ e => by first | trivial | (rw [e.1]; exact hX)) ?_ ?_
  · rintro i y _ h D' hx ⟨rfl, s3, s4, rfl⟩ kn kc kr kb
    obtain ⟨c, hc, rfl⟩ := items_map hx
    have cm := List.mem_of_getElem? hc
    have il : i < cs.length := (List.getElem?_eq_some_iff.mp hc).1
    have gt := txs_get (o := o) hc
    have lc := ln c cm
    push_cast [b_law_condition_text_2]
    refine hr c cm _ ?_
    push_cast [WpSs]
    refine ht _ ?_
    refine needs_ok ?_
    rw [← ho]
    have fin2 : ∀ s4 : Slot, D'.nx [.val cond, .val X, .own (.lst (wl ((txs o cs).take i) ++ [.str (mkS (wr (nd o c) (tx c)))])), .val c.av, s4] h := by
      intro s4
      have e : wl ((txs o cs).take i) ++ [.str (mkS (wr (nd o c) (tx c)))] = wl ((txs o cs).take (i + 1)) := by
        rw [List.take_succ, gt]; exact wl_one _ _
      rw [e]
      exact kn _ _ ⟨rfl, _, _, rfl⟩
    have ll : (wl ((txs o cs).take i)).length < sizeLine := by
      have : sizeLine = 16777216 := rfl
      rw [wl_len, List.length_take]; omega
    unfold wr at fin2
    cases e : nd o c with
    | true =>
      simp only [e, if_true] at fin2
      push_cast [hlits, mkS_len, mkS_app, if_true, b_law_condition_text_1]
      exact ⟨szB (by simp; omega), szB (by simp; omega), ll, fin2 _⟩
    | false =>
      simp only [e, Bool.false_eq_true, if_false] at fin2
      push_cast [Bool.false_eq_true, if_false, b_law_condition_text_1]
      exact ⟨ll, fin2 _⟩
  · rintro _ h ⟨rfl, s3, s4, rfl⟩
    rw [List.take_of_length_le (by rw [txs_len, List.length_map]; exact Nat.le_refl _)]
    exact fin s3 s4
theorem condition_text_ok : ∀ (d : Nat), d ≤ 5 → ∀ (n : Nat) (p : Int) (c : Cn) (Q : AV → AHeap → Prop), p ≤ 8 → Good d p c → Q (.str (mkS (tx c))) h → callN P (n + d + 4) 103 [c.av] h Q := by
  intro d
  have cm : ∀ (n : Nat) (c : Cmp) (Q : AV → AHeap → Prop), c.Ok → Q (.str (mkS (cmpT c))) h → callN P (n + 4) 103 [(Cn.cmp c).av] h Q := by
    intro n c Q b q
    rw [Cn.av]
    refine call_of U.f__law_condition_text rfl ?_
    obtain ⟨s, l, r⟩ := c
    obtain ⟨b1, b2, b3⟩ := b
    show WpSs (ctxOf P (callN P (n+3))) b_law_condition_text _ [.val (.tup [.str "cmp", .str (mkS s), l.av, r.av]), .no, .no, .no, .no] h
    have b1' : s.length ≤ 2 := sgn_l b1
    have b2' : (teT l).length ≤ 100 := teT_len b2
    have b3' : (teT r).length ≤ 100 := teT_len b3
    push_cast [b_law_condition_text]
    refine k_t4 (k := 0) rfl ?_
    push_cast [decide_true, if_true]
    refine k_t4 (k := 2) rfl ?_
    refine L3.text_ok b2 ?_
    push_cast [hlits, mkS_len, mkS_app, List.length_append]
    refine ⟨szB (by simp; omega), ?_⟩
    refine k_t4 (k := 1) rfl ?_
    push_cast [hlits, mkS_len, mkS_app, List.length_append]
    refine ⟨szB (by simp; omega), szB (by simp; omega), ?_⟩
    refine k_t4 (k := 3) rfl ?_
    refine L3.text_ok b3 ?_
    push_cast [mkS_len, mkS_app, List.length_append]
    exact ⟨szB (by simp; omega), q⟩
  induction d with
  | zero =>
    intro _ n p c Q p8 g q
    cases c with
    | cmp c => rw [tx] at q; exact cm n c Q g.1 q
    | no c => exact g.elim
    | bin o cs => exact g.elim
  | succ d ih =>
    intro hd n p c Q p8 g q
    have tl := good_len hd p8 g
    have e5 : n + (d + 1) + 4 = (n + d + 4) + 1 := by omega
    cases c with
    | cmp c => rw [tx] at q; exact cm (n + (d + 1)) c Q g.1 q
    | no c =>
      have g : Good d p c := g
      have tl' := good_len (by omega) p8 g
      rw [e5]
      refine call_of U.f__law_condition_text rfl ?_
      show WpSs (ctxOf P (callN P (n + d + 4))) b_law_condition_text _ [.val (Cn.no c).av, .no, .no, .no, .no] h
      have d1 : decide (tagC (.no c) = wCmp) = false := (show decide (wNot = wCmp) = false by decide)
      have d2 : decide (tagC (.no c) = wNot) = true := (show decide (wNot = wNot) = true by decide)
      push_cast [b_law_condition_text, hlits]
      refine tag_subC ?_
      push_cast [mkS_eq, d1, Bool.false_eq_true, if_false, b_law_condition_text_6, hlits]
      have s1 : ∀ Q : KA, Q c.av → subK h (Cn.no c).av (.int 1) Q := by
        intro Q q
        rw [Cn.av]
        exact k_t4 (k := 1) rfl q
      refine s1 _ ?_
      push_cast [WpSs]
      refine tag_subC ?_
      push_cast [mkS_eq, d2, if_true]
      refine s1 _ ?_
      refine ⟨szB (by show 1 ≤ 10000; decide), ?_⟩
      refine texts_ok (n := n + d + 3) (w := wNot) (o := false) (by decide) (cs := [c]) viewT_lst (by simp) (fun c' m => by cases List.mem_singleton.mp m; omega) (fun c' m Q q => by cases List.mem_singleton.mp m; exact ih (by omega) n p c Q p8 g q) (fun Q q => tag_subC (c := .no c) q) fun s3 s4 => ?_
      push_cast [b_law_condition_text_4, hlits]
      refine tag_subC ?_
      push_cast [mkS_eq, d2, if_true]
      rw [tx] at q
      have e : wl (txs false [c]) = [.str (mkS (wr (nd false c) (tx c)))] := by simp [txs, wl]
      rw [e]
      refine k_subL viewT_lst (fun _ h => by cases h) rfl ?_
      have wl' := wr_len (nd false c) (tx c)
      push_cast [mkS_len, mkS_app]
      exact ⟨szB (by simp [wNot]; omega), q⟩
    | bin o cs =>
      have tl := tl
      obtain ⟨l2, g⟩ : 2 ≤ cs.length ∧ Spl (Good d) p cs := g
      have cn := spl_n cs p g
      rw [tx] at q tl
      have fj := flat_join (jS o) (txs o cs)
      have fz : (txs o cs).flatten.length + (txs o cs).length * (jS o).length ≤ 16777216 := by
        have := jS_len o
        rw [txs_len]
        have : cs.length * (jS o).length ≤ 8 * 5 := Nat.mul_le_mul (by omega) this
        omega
      rw [e5]
      refine call_of U.f__law_condition_text rfl ?_
      show WpSs (ctxOf P (callN P (n + d + 4))) b_law_condition_text _ [.val (Cn.bin o cs).av, .no, .no, .no, .no] h
      have d1 : decide (tagC (.bin o cs) = wCmp) = false := (show decide (kW o = wCmp) = false by cases o <;> decide)
      have d2 : decide (tagC (.bin o cs) = wNot) = false := (show decide (kW o = wNot) = false by cases o <;> decide)
      push_cast [b_law_condition_text, hlits]
      refine tag_subC ?_
      push_cast [mkS_eq, d1, Bool.false_eq_true, if_false, b_law_condition_text_6, hlits]
      have s1 : ∀ Q : KA, Q (.tup (Cn.avs cs)) → subK h (Cn.bin o cs).av (.int 1) Q := by
        intro Q q
        rw [Cn.av]
        exact k_t4 (k := 1) rfl q
      refine s1 _ ?_
      push_cast [WpSs]
      refine tag_subC ?_
      push_cast [mkS_eq, d2, Bool.false_eq_true, if_false]
      have sm : ∀ c ∈ cs, ∃ a, a ≤ p ∧ Good d a c := fun c m => spl_mem cs p c g m
      refine texts_ok (n := n + d + 3) (w := kW o) (o := o) (by cases o <;> decide) (cs := cs) (by show some (Cn.avs cs) = _; rw [avs_map]) (by omega) (fun c m => ?_) (fun c m Q q => ?_) (fun Q q => tag_subC (c := .bin o cs) q) fun s3 s4 => ?_
      · obtain ⟨a, ha, ga⟩ := sm c m
        have := good_len (by omega) (by omega) ga; omega
      · obtain ⟨a, ha, ga⟩ := sm c m
        exact ih (by omega) n a c Q (by omega) ga q
      push_cast [b_law_condition_text_4, hlits]
      refine tag_subC ?_
      push_cast [mkS_eq, d2, Bool.false_eq_true, if_false, b_law_condition_text_3, hlits]
      refine tag_subC ?_
      have e : [32] ++ tagC (Cn.bin o cs) ++ [32] = jS o := rfl
      push_cast [mkS_len, mkS_app]
      refine ⟨szB (by show 1 + (kW o).length ≤ 10000; cases o <;> decide), szB (by show ([32] ++ kW o).length + 1 ≤ 10000; cases o <;> decide), ?_⟩
      rw [e]
      exact k_joinS viewT_lst fz q
end
end K03

set_option maxRecDepth 100000
set_option maxHeartbeats 4000000
namespace Tw
open PySem L2 VL Wd Tm
/-- what signs stand in a text that has words, and where -/
theorem Tk.pos {l : W} {x} (t : Tk l x) : ∀ ws, x = some ws → ∀ A c B, l = A ++ c :: B → c ∈ letters ∨ c ∈ figures ∨ c ∈ ones ∨ c = 32 ∨ (c = 33 ∧ B.head? = some 61) := by
  induction t with
  | nil =>
    intro ws _ A c B e
    have := congrArg List.length e
    simp at this
  | sp t ih =>
    intro ws e A c B el
    cases A with
    | nil => cases el; exact .inr (.inr (.inr (.inl rfl)))
    | cons a A =>
      cases el
      exact ih ws e A c B rfl
  | bad _ _ => intro ws e; cases e
  | @tok d r x hc hs t ih =>
    intro ws e A c B el
    obtain ⟨ws', e', _⟩ := Option.map_eq_some_iff.mp e
    by_cases hA : stepLen (d :: r) ≤ A.length
    · refine ih ws' e' (A.drop (stepLen (d :: r))) c B ?_
      exact (congrArg (List.drop (stepLen (d :: r))) el).trans (List.drop_append_of_le_length hA)
    · have hA : A.length < stepLen (d :: r) := by omega
      have hk : (d :: r)[A.length]? = some c := by rw [el, List.getElem?_append_right (Nat.le_refl _), Nat.sub_self]; rfl
      have mem : c ∈ (d :: r).take (stepLen (d :: r)) := by
        have : ((d :: r).take (stepLen (d :: r)))[A.length]? = some c := by rw [List.getElem?_take_of_lt hA]; exact hk
        exact List.mem_of_getElem? this
      rw [step_cons] at mem hA
      have run : ∀ sg : W, c ∈ (d :: r).take (runLen sg (d :: r)) → c ∈ sg := by
        intro sg hm
        have e : (d :: r).take (runLen sg (d :: r)) = (d :: r).takeWhile fun c => decide (c ∈ sg) := by
          unfold runLen
          have := List.takeWhile_prefix (fun c => decide (c ∈ sg)) (l := d :: r)
          exact (List.prefix_iff_eq_take.mp this).symm
        rw [e] at hm
        have := List.all_eq_true.mp (List.all_takeWhile (p := fun c => decide (c ∈ sg)) (l := d :: r)) c hm
        exact of_decide_eq_true this
      by_cases c1 : d ∈ letters
      · rw [if_pos c1] at mem
        exact .inl (run _ mem)
      · by_cases c2 : d ∈ figures
        · rw [if_neg c1, if_pos c2] at mem
          exact .inr (.inl (run _ mem))
        · rw [if_neg c1, if_neg c2, signLen_eq] at mem hA
          by_cases c3 : (d :: r).take 2 ∈ twos
          · rw [if_pos c3] at hA
            have key : ∀ g ∈ twos, ∀ a b, g = [a, b] → b = 61 ∧ (a ∈ ones ∨ a = 33) := by
              intro g hg a b e
              subst e
              simp only [twos, List.mem_cons, List.cons.injEq, and_true, List.not_mem_nil, or_false] at hg
              rcases hg with ⟨rfl, rfl⟩ | ⟨rfl, rfl⟩ | ⟨rfl, rfl⟩ | ⟨rfl, rfl⟩ <;> decide
            cases A with
            | nil =>
              cases el
              cases r with
              | nil =>
                have : ∀ g ∈ twos, g.length = 2 := by decide
                exact absurd (this _ c3) (by simp)
              | cons b B =>
                have k := key _ c3 d b rfl
                rcases k.2 with z | z
                · exact .inr (.inr (.inl z))
                · exact .inr (.inr (.inr (.inr ⟨z, by rw [k.1]; rfl⟩)))
            | cons a A =>
              cases A with
              | nil =>
                cases el
                have k := key _ c3 d c rfl
                rw [k.1]
                exact .inr (.inr (.inl (by decide)))
              | cons a2 A => exact absurd hA (by simp only [List.length_cons]; omega)
          · rw [if_neg c3] at mem
            by_cases c4 : d ∈ ones
            · rw [if_pos c4] at mem
              have : c = d := by simpa using mem
              rw [this]
              exact .inr (.inr (.inl c4))
            · rw [if_neg c4] at mem
              cases mem
def strange : W := ("ABCDEFGHIJKLMNOPQRSTUVWXYZ!\"#$&'*./;?@\\^_`{|}~\n\t" : Str).cps.toList
theorem strange_eq : ("ABCDEFGHIJKLMNOPQRSTUVWXYZ!\"#$&'*./;?@\\^_`{|}~\n\t" : Str) = mkS strange := by decide +kernel
theorem strange_len : 0 < strange.length ∧ strange.length ≤ 100 := by decide +kernel
theorem strange_no : ∀ c ∈ strange, c ∉ letters ∧ c ∉ figures ∧ c ∉ ones ∧ c ≠ 32 := by decide +kernel
theorem foreign {l : W} (k : Nat) {c : Nat} (hc : c ∈ strange) (h : ¬ (c = 33 ∧ l[k]? = some 61)) {ws : List W} : ¬ Tk (l.take k ++ [c] ++ l.drop k) (some ws) := by
  intro t
  have s := strange_no c hc
  have e : l.take k ++ [c] ++ l.drop k = l.take k ++ c :: l.drop k := by simp
  rcases Tk.pos t ws rfl _ c _ e with z | z | z | z | z
  · exact s.1 z
  · exact s.2.1 z
  · exact s.2.2.1 z
  · exact s.2.2.2 z
  · rw [List.head?_drop] at z
    exact h z
theorem cutS_mk (l : W) (lo hi : Option Int) : cutS (mkS l) lo hi = mkS (cut l lo hi) := by
  unfold cutS cut
  rw [mkS_list, mkS_len]
  rfl
end Tw

set_option maxRecDepth 100000
set_option maxHeartbeats 4000000
namespace K03
open PySem L2 VL Wd Tm Tw Lw Lr Hd Ln Lt Pm Cd
local macro_rules
  | `(tactic| push_cast [$xs,*]) => `(tactic| try simp only [$xs,*, WpSs, WpS, WpE, WpEs, WpBs, WpO, WpN, WpI, WpC, WpT, getS, setS, tgK, setsS, wipeS, k_add, k_addT, k_sub, k_mul, k_fdiv, k_mod, k_neg, k_lt, k_le, k_gt, k_ge, k_eqI, k_neI, k_eqS, k_neS, k_eqB, k_neB, k_is, k_isn, isNon_non, isNon_int, isNon_str, isNon_lst, isNon_tup, isNon_adr, k_lenS, k_lenL, k_lenR, k_lenT, k_int, k_str, k_abs, tru_bl, augK, ctx_call, ctx_glob, k_in, k_nin, k_inS, k_addS, k_intB, isi_non_int, isi_non_bool, isi_non_str, isi_non_list, isi_non_tuple, isi_bl_int, isi_bl_bool, isi_bl_str, isi_bl_list, isi_bl_tuple, isi_int_int, isi_int_bool, isi_int_str, isi_int_list, isi_int_tuple, isi_str_int, isi_str_bool, isi_str_str, isi_str_list, isi_str_tuple, isi_tup_int, isi_tup_bool, isi_tup_str, isi_tup_list, isi_tup_tuple, isi_lst_int, isi_lst_bool, isi_lst_str, isi_lst_list, isi_lst_tuple, isi_ro_int, isi_ro_bool, isi_ro_str, isi_ro_list, isi_ro_tuple])
def OD : List W := (["a", "ab", "7", "0", "007", "01", "00", "12345678901", "-", "+", "[", "]", "(", ")", "and", "or", "not", "<", "==", "=", ",", ":", "abcdefghijklm", "len", "old", "result", "len", "old", "result"] : List Str).map (·.cps.toList)
theorem OD_eq : (["a", "ab", "7", "0", "007", "01", "00", "12345678901", "-", "+", "[", "]", "(", ")", "and", "or", "not", "<", "==", "=", ",", ":", "abcdefghijklm", "len", "old", "result", "len", "old", "result"] : List Str) = OD.map mkS := by decide +kernel
instance (w : W) : Decidable (IsW w) := by unfold IsW; exact inferInstance
theorem OD_w : ∀ w ∈ OD, IsW w ∧ w.length ≤ 20 := by decide +kernel
theorem RL_w : ∀ w ∈ RL, IsW w ∧ w.length ≤ 20 := by decide +kernel
theorem RL_l : RL.length = 30 ∧ OD.length = 29 := by decide +kernel
theorem sx_w : ("x" : Str) = mkS [120] ∧ ("(" : Str) = mkS [40] ∧ (")" : Str) = mkS [41] ∧ ("[" : Str) = mkS brO ∧ ("]" : Str) = mkS brC ∧ ("0" : Str) = mkS [48] := by decide +kernel
theorem sx_ok : ∀ w ∈ ([[120], [40], [41], brO, brC, [48]] : List W), IsW w ∧ w.length ≤ 20 := by decide +kernel
theorem wl_at {ws : List W} {i : Nat} (hi : i < ws.length) : atI (wl ws) (i : Int) = some (.str (mkS ws[i])) := by
  rw [wl_get hi, wa_get hi]
section
variable {P : Prg} [H3.U P] [Lw.U P] [Lr.U P] [L3.U P] [U P] {n a : Nat} {h : AHeap} {Q : AV → AHeap → Prop}
def Gd (w : W) : Prop := IsW w ∧ w.length ≤ 20
theorem spoilt_ok {ws : List W} (hd : Hnd a h) (h0 : 0 < ws.length) (hw : ∀ w ∈ ws, Gd w) (hl : ws.length ≤ 2000) (q : ∀ ws' h', Hx a h h' → (∀ w ∈ ws', Gd w) → ws'.length ≤ ws.length + 4 → Q (.lst (wl ws')) h') :
    callN P (n+2) 104 [.adr a, .lst (wl ws)] h Q := by
  refine call_of U.f__law_spoilt rfl ?_
  show WpSs (ctxOf P (callN P (n+1))) b_law_spoilt _ [.val (.adr a), .val (.lst (wl ws)), .no, .no, .no, .no, .no, .no, .no, .no] h
  have hz := sz1
  have w1 : ∀ w : W, [AV.str (mkS w)] = wl [w] := fun _ => rfl
  -- behind the draws
  have main : ∀ (h4 : AHeap) (i k : Nat) (w : W) (s2 : AV), Hx a h h4 → i < ws.length → Gd w → WpSs (ctxOf P (callN P (n+1))) b_law_spoilt_7 { nx := fun _ h => Q .non h, rt := Q } [.val (.adr a), .val (.lst (wl ws)), .val s2, .val (.int (i : Int)), .val (.int (k : Int)), .val (.str (mkS w)), .no, .no, .no, .no] h4 := by
    intro h4 i k w s2 x hi gw
    have ct : cut (wl ws) none (some (i : Int)) = wl (ws.take i) := (cut_ns _ _).trans (wl_take _ _)
    have cd : cut (wl ws) (some (i : Int)) none = wl (ws.drop i) := (cut_sn _ _).trans (wl_drop _ _)
    have cd1 : cut (wl ws) (some ((i + 1 : Nat) : Int)) none = wl (ws.drop (i + 1)) := (cut_sn _ _).trans (wl_drop _ _)
    have gt : ∀ w ∈ ws.take i, Gd w := fun w h => hw w (List.mem_of_mem_take h)
    have gd : ∀ j, ∀ w ∈ ws.drop j, Gd w := fun j w h => hw w (List.mem_of_mem_drop h)
    have gi : Gd ws[i] := hw _ (List.getElem_mem hi)
    have three : ∀ (b c : List W), (∀ w ∈ b, Gd w) → (∀ w ∈ c, Gd w) → b.length + c.length ≤ ws.length - i + 4 → Q (.lst (wl (ws.take i ++ b ++ c))) h4 := by
      intro b c hb hc hbc
      refine q _ _ x (fun w hm => ?_) (by simp; omega)
      rcases List.mem_append.mp hm with hm | hm
      · rcases List.mem_append.mp hm with hm | hm
        · exact gt w hm
        · exact hb w hm
      · exact hc w hm
    push_cast [b_law_spoilt_7, view_lst, viewW_lst, ct, cd, i1, cd1, wl_app, wl_len, List.length_append, List.length_take, List.length_drop]
    refine ite_b (fun _ => ?_) (fun _ => ?_)
    · refine ⟨by omega, ?_⟩
      have := three [] (ws.drop (i + 1)) (fun _ h => nomatch h) (gd _) (by simp; omega)
      rwa [List.append_nil] at this
    push_cast [b_law_spoilt_6, view_lst, viewW_lst, ct, cd, i1, cd1, w1, wl_app, wl_len, List.length_append, List.length_take, List.length_drop, List.length_cons, List.length_nil]
    refine ite_b (fun _ => ?_) (fun _ => ?_)
    · refine k_subL viewT_lst (fun _ h => by cases h) (wl_at hi) ?_
      push_cast [w1, viewW_lst, wl_app, wl_len, List.length_append, List.length_take, List.length_drop, List.length_cons, List.length_nil]
      exact ⟨by omega, by omega, by omega, three [ws[i]] (ws.drop i) (fun w h => by rw [List.mem_singleton.mp h]; exact gi) (gd _) (by simp; omega)⟩
    push_cast [b_law_spoilt_5, view_lst, viewW_lst, ct, cd, i1, cd1, w1, wl_app, wl_len, List.length_append, List.length_take, List.length_drop, List.length_cons, List.length_nil]
    refine ite_b (fun _ => ?_) (fun _ => ?_)
    · exact ⟨by omega, by omega, by omega, three [w] (ws.drop i) (fun w h => by rw [List.mem_singleton.mp h]; exact gw) (gd _) (by simp; omega)⟩
    push_cast [b_law_spoilt_4, view_lst, viewW_lst, ct, cd, i1, cd1, w1, wl_app, wl_len, List.length_append, List.length_take, List.length_drop, List.length_cons, List.length_nil]
    refine ite_b (fun _ => ?_) (fun _ => ?_)
    · exact ⟨by omega, by omega, by omega, three [w] (ws.drop (i + 1)) (fun w h => by rw [List.mem_singleton.mp h]; exact gw) (gd _) (by simp; omega)⟩
    have w4 : [AV.str (mkS [120]), .str (mkS brO), .str (mkS [48]), .str (mkS brC)] = wl [[120], brO, [48], brC] := rfl
    push_cast [b_law_spoilt_3, sx_w, w4, view_lst, viewW_lst, ct, cd, i1, cd1, wl_app, wl_len, List.length_append, List.length_take, List.length_drop, List.length_cons, List.length_nil]
    refine ite_b (fun _ => ?_) (fun _ => ?_)
    · refine ⟨by omega, by omega, by omega, three [[120], brO, [48], brC] (ws.drop (i + 1)) (fun w h => sx_ok w ?_) (gd _) (by simp; omega)⟩
      simp only [List.mem_cons, List.not_mem_nil, or_false] at h ⊢
      rcases h with h | h | h | h <;> simp [h]
    push_cast [b_law_spoilt_2, k_lenL, wl_len]
    refine H3.take_ok x.hand (by omega) fun j h5 x5 hj => ?_
    have hj2 : j < ws.length := by omega
    have x45 := x.trans x5
    push_cast [k_min2, k_max2]
    refine ite_b (fun _ => ?_) (fun _ => ?_)
    · obtain ⟨f, e, ef, ee, hfe, hel⟩ : ∃ f e : Nat, (if (j : Int) < (i : Int) then (j : Int) else (i : Int)) = (f : Int) ∧ (if (j : Int) > (i : Int) then (j : Int) else (i : Int)) + 1 = (e : Int) ∧ f < e ∧ e ≤ ws.length := by
        by_cases c : j < i
        · exact ⟨j, i + 1, by rw [if_pos (by omega)], by rw [if_neg (by omega)]; omega, by omega, by omega⟩
        · exact ⟨i, j + 1, by rw [if_neg (by omega)], by
            by_cases c2 : i < j
            · rw [if_pos (by omega)]; omega
            · rw [if_neg (by omega)]; omega, by omega, by omega⟩
      rw [ef, ee]
      have c1 : cut (wl ws) none (some (f : Int)) = wl (ws.take f) := (cut_ns _ _).trans (wl_take _ _)
      have c2 : cut (wl ws) (some (f : Int)) (some (e : Int)) = wl ((ws.drop f).take (e - f)) := by rw [cut_ss, wl_drop, wl_take]
      have c3 : cut (wl ws) (some (e : Int)) none = wl (ws.drop e) := (cut_sn _ _).trans (wl_drop _ _)
      push_cast [sx_w, view_lst, viewW_lst, c1, c2, c3, w1, wl_app, wl_len, List.length_append, List.length_take, List.length_drop, List.length_cons, List.length_nil]
      refine ⟨by omega, by omega, by omega, by omega, by omega, by omega, q _ _ x45 (fun w hm => ?_) (by simp; omega)⟩
      simp only [List.mem_append, List.mem_singleton] at hm
      rcases hm with (((hm | hm) | hm) | hm) | hm
      · exact hw w (List.mem_of_mem_take hm)
      · exact sx_ok w (by rw [hm]; decide)
      · exact hw w (List.mem_of_mem_drop (List.mem_of_mem_take hm))
      · exact sx_ok w (by rw [hm]; decide)
      · exact hw w (List.mem_of_mem_drop hm)
    have ixi : ixN (wl ws).length (i : Int) = some i := by rw [wl_len]; exact Evl.ixN_nat hi
    push_cast [b_law_spoilt_1, viewT_lst]
    refine k_subL viewT_lst (fun _ h => by cases h) (wl_at hj2) ?_
    have sw : ∀ (l : List W) (k : Nat) (w : W), (wl l).set k (.str (mkS w)) = wl (l.set k w) := fun l k w => by unfold wl; rw [List.map_set]
    push_cast [putC, ixi, sw]
    refine k_subL viewT_lst (fun _ h => by cases h) (wl_at hi) ?_
    have ixj : ixN (wl (ws.set i ws[j])).length (j : Int) = some j := by rw [wl_len, List.length_set]; exact Evl.ixN_nat hj2
    push_cast [ixj, sw]
    refine q _ _ x45 (fun w hm => ?_) (by simp)
    rcases List.mem_or_eq_of_mem_set hm with hm | hm
    · rcases List.mem_or_eq_of_mem_set hm with hm | hm
      · exact hw w hm
      · rw [hm]; exact hw _ (List.getElem_mem hj2)
    · rw [hm]; exact hw _ (List.getElem_mem hi)
  push_cast [b_law_spoilt, viewW_lst, k_lenL, wl_len]
  refine ⟨by decide, by decide, by decide, ?_⟩
  refine H3.take_ok hd (by omega) fun i h1 x1 hi => ?_
  refine H3.take_ok x1.hand (by decide) fun k h2 x2 hk => ?_
  refine H3.take_ok x2.hand (by decide) fun r h3 x3 hr => ?_
  have hr2 : r < OD.length := by rw [RL_l.2]; exact Int.ofNat_lt.mp hr
  have od : wl OD = (OD.map mkS).map AV.str := (List.map_map ..).symm
  rw [← OD_eq] at od
  have x13 := (x1.trans x2).trans x3
  refine k_subL (xs := wl OD) (by rw [od]; rfl) (fun _ h => by cases h) (wl_at hr2) ?_
  have gr := OD_w _ (List.getElem_mem hr2)
  refine H3.take_ok x3.hand (by decide) fun z h4 x4 hz4 => ?_
  have x14 := x13.trans x4
  push_cast [WpSs]
  refine ite_b (fun _ => ?_) (fun _ => ?_)
  · refine law_reserved_ok ?_
    refine H3.take_ok x4.hand (by decide) fun r2 h5 x5 hr5 => ?_
    have hr6 : r2 < RL.length := by rw [RL_l.1]; exact Int.ofNat_lt.mp hr5
    refine k_subL viewT_lst (fun _ h => by cases h) (wl_at hr6) ?_
    exact main _ _ _ _ _ (x14.trans x5) (by omega) (RL_w _ (List.getElem_mem hr6))
  · exact main _ _ _ _ _ x14 (by omega) gr
theorem teW_ws {t : Te} (b : Te.Ok t) : (∀ w ∈ teW t, Gd w) ∧ (teW t).length ≤ 20 ∧ 0 < (teW t).length := by
  have ln : ∀ {w : W}, (nameOk w = true ∨ w = wRes) → Gd w := fun {w} h => by
    refine ⟨?_, by have := ok_len h; omega⟩
    rcases h with h | h
    · exact isw_name h
    · rw [h]; exact isw_lits.2.2.1
  have lit : ∀ w ∈ ([wLen, wOld, sgP, sgM, brO, brC] : List W), IsW w ∧ w.length ≤ 20 := by decide +kernel
  have num : ∀ {m : Nat}, m < 10000000000 → Gd (dg (m : Int)) := fun {m} h => ⟨isw_num (dg_num h), by have := dg_len h; omega⟩
  have gp : ∀ {p : Int}, Bd p → ∀ w ∈ pW p, Gd w := by
    intro p bp w hw
    unfold pW at hw
    rcases bd_cases bp with ⟨m, hm, rfl⟩ | ⟨m, h0, hm, rfl⟩
    · split at hw
      · simp only [List.mem_cons, List.not_mem_nil, or_false] at hw
        rcases hw with rfl | rfl
        · exact lit _ (by decide)
        · exact num hm
      · rw [if_neg (by omega)] at hw; cases hw
    · rw [if_neg (by omega), if_pos (by omega), Int.neg_neg] at hw
      simp only [List.mem_cons, List.not_mem_nil, or_false] at hw
      rcases hw with rfl | rfl
      · exact lit _ (by decide)
      · exact num hm
  have gpl : ∀ {p : Pl}, Pl.Ok p → ∀ w ∈ plW p, Gd w := by
    intro p bp w hw
    cases p with
    | num k =>
      have bp : Bd k := bp
      have hw : w ∈ nW k := hw
      unfold nW at hw
      rcases bd_cases bp with ⟨m, hm, rfl⟩ | ⟨m, h0, hm, rfl⟩
      · rw [if_neg (by omega)] at hw
        rw [List.mem_singleton.mp hw]; exact num hm
      · rw [if_pos (by omega), Int.neg_neg] at hw
        simp only [List.mem_cons, List.not_mem_nil, or_false] at hw
        rcases hw with rfl | rfl
        · exact lit _ (by decide)
        · exact num hm
    | var v p =>
      rcases List.mem_cons.mp hw with rfl | hw
      · exact ln bp.1
      · exact gp bp.2 w hw
    | len v p =>
      rcases List.mem_cons.mp hw with rfl | hw
      · exact lit _ (by decide)
      · rcases List.mem_cons.mp hw with rfl | hw
        · exact ln (.inl bp.1)
        · exact gp bp.2 w hw
  cases t with
  | pl p =>
    have := plW_len p
    refine ⟨gpl b, by show (plW p).length ≤ 20; omega, ?_⟩
    cases p with
    | num k => show 0 < (nW k).length; unfold nW; split <;> simp
    | var _ _ => simp [teW, plW]
    | len _ _ => simp [teW, plW]
  | cell v o ix p =>
    obtain ⟨b1, b2, b3⟩ := b
    have := plW_len ix
    have := pW_len p
    have lw : (lW v o).length ≤ 2 := by unfold lW; split <;> simp
    refine ⟨fun w hw => ?_, by simp [teW]; omega, by simp [teW]; omega⟩
    simp only [teW, List.mem_append, List.mem_singleton] at hw
    rcases hw with (((hw | hw) | hw) | hw) | hw
    · unfold lW at hw
      split at hw
      · simp only [List.mem_cons, List.not_mem_nil, or_false] at hw
        rcases hw with rfl | rfl
        · exact lit _ (by decide)
        · exact ln (.inl b1)
      · rw [List.mem_singleton.mp hw]; exact ln (.inl b1)
    · rw [hw]; exact lit _ (by decide)
    · exact gpl b2 w hw
    · rw [hw]; exact lit _ (by decide)
    · exact gp b3 w hw
end
end K03

set_option maxRecDepth 100000
set_option maxHeartbeats 4000000
namespace K03
open PySem L2 VL Wd Tm Tw Lw Lr Hd Ln Lt Pm Cd
local macro_rules
  | `(tactic| push_cast [$xs,*]) => `(tactic| try simp only [$xs,*, WpSs, WpS, WpE, WpEs, WpBs, WpO, WpN, WpI, WpC, WpT, getS, setS, tgK, setsS, wipeS, k_add, k_addT, k_sub, k_mul, k_fdiv, k_mod, k_neg, k_lt, k_le, k_gt, k_ge, k_eqI, k_neI, k_eqS, k_neS, k_eqB, k_neB, k_is, k_isn, isNon_non, isNon_int, isNon_str, isNon_lst, isNon_tup, isNon_adr, k_lenS, k_lenL, k_lenR, k_lenT, k_int, k_str, k_abs, tru_bl, augK, ctx_call, ctx_glob, k_in, k_nin, k_inS, k_addS, k_intB, isi_non_int, isi_non_bool, isi_non_str, isi_non_list, isi_non_tuple, isi_bl_int, isi_bl_bool, isi_bl_str, isi_bl_list, isi_bl_tuple, isi_int_int, isi_int_bool, isi_int_str, isi_int_list, isi_int_tuple, isi_str_int, isi_str_bool, isi_str_str, isi_str_list, isi_str_tuple, isi_tup_int, isi_tup_bool, isi_tup_str, isi_tup_list, isi_tup_tuple, isi_lst_int, isi_lst_bool, isi_lst_str, isi_lst_list, isi_lst_tuple, isi_ro_int, isi_ro_bool, isi_ro_str, isi_ro_list, isi_ro_tuple])
section
variable {P : Prg} [Wd.U P] [Tm.U P] [Cm.U P] [Cd.U P] [U P] {n a : Nat} {h : AHeap} {Q : AV → AHeap → Prop}
theorem read_ok' {l : W} (hz : l.length ≤ 1000000) (qn : Tk l none → ∀ c, Q .non (h ++ [c])) (qs : ∀ ws, Tk l (some ws) → Wb ws ∧ ws.length ≤ 100000 ∧ ∀ c, Q (oCv (condOf ws)) (h ++ [c])) : callN P (n+37) 99 [.str (mkS l)] h Q := by
  refine call_of U.f_read_condition rfl ?_
  show WpSs (ctxOf P (callN P (n+36))) b_read_condition _ [.val (.str (mkS l)), .no] h
  have hz1 := sz1
  push_cast [b_read_condition]
  refine split_row_ok (by omega) (fun t c => ?_) (fun ws t => ?_)
  · push_cast [if_true]
    exact qn t c
  · obtain ⟨wb, wl', q⟩ := qs ws t
    push_cast [isNon_adr, Bool.false_eq_true, if_false]
    have v := view_adr (Hd.cells_last h (.lst (wl ws)))
    exact condition_of_ok ⟨v, (fun _ h => by cases h), wb⟩ wl' (q _)
theorem read_sp {l : W} {ws : List W} (hz : l.length ≤ 1000000) (hl : ws.length ≤ 100000) (s : Sp ws l) (hw : ∀ w ∈ ws, Gd w) (q : ∀ c, Q (oCv (condOf ws)) (h ++ [c])) : callN P (n+37) 99 [.str (mkS l)] h Q :=
  read_ok' hz (fun t => by cases Tk.det t s.tk) fun ws' t => by
    have e := Tk.det t s.tk
    cases e
    exact ⟨fun w h => ⟨Nat.le_trans (hw w h).2 (by decide), isw_ch (s.isw w h)⟩, hl, q⟩
end
end K03

set_option maxRecDepth 100000
set_option maxHeartbeats 4000000
namespace Cd
open PySem L2 VL Wd Tm Tw Pm
theorem at_app {ws A B : List W} {i : Nat} (h : At ws i (A ++ B)) : At ws (i + A.length) B := by
  unfold At at *
  rw [← List.drop_drop, h, List.drop_left]
theorem bh_w {w : W} (h : w ∈ [pC, wAnd, wOr]) (B : List W) : Bh (w :: B) := by
  simp only [List.mem_cons, List.not_mem_nil, or_false] at h
  rcases h with rfl | rfl | rfl
  · exact ⟨⟨show pC ≠ sgP by decide, show pC ≠ sgM by decide⟩, show pC ≠ brO by decide⟩
  · exact ⟨⟨show wAnd ≠ sgP by decide, show wAnd ≠ sgM by decide⟩, show wAnd ≠ brO by decide⟩
  · exact ⟨⟨show wOr ≠ sgP by decide, show wOr ≠ sgM by decide⟩, show wOr ≠ brO by decide⟩
/-- what is read, so many open ones being allowed -/
def rs {α : Type} (e d : Nat) (c : α) (j : Nat) : Option (α × Nat) := if e ≤ d then some (c, j) else none
variable (all : List W)
def TA (c : Cn) (ws : List W) (e : Nat) : Prop := ∀ d i B, Bh B → At all i (ws ++ B) → partAt all d i = rs e d c (i + ws.length)
def TB (c : Cn) (ws : List W) (e : Nat) : Prop := ∀ d i B, Bh B → At all i (ws ++ B) → hw B ≠ wAnd → andAt all d i = rs e d c (i + ws.length)
def TC (c : Cn) (ws : List W) (e : Nat) : Prop := ∀ d i B, Bh B → At all i (ws ++ B) → hw B ≠ wAnd → hw B ≠ wOr → orAt all d i = rs e d c (i + ws.length)
variable {all}
theorem join_one {o : Bool} {p : Nat → Option (Cn × Nat)} (hp : Fwd p) {c : Cn} {e d i j : Nat} (h : p i = rs e d c j) (hb : wa all j ≠ kW o) : joinAt o p all i = rs e d c j := by
  unfold joinAt
  rw [chain_step hp (kW_ne o), h]
  unfold rs
  by_cases c1 : e ≤ d
  · simp only [if_pos c1, cont_end hb, Option.map_some]
    rfl
  · simp only [if_neg c1, Option.map_none]
theorem TA.b {c : Cn} {ws : List W} {e : Nat} (h : TA all c ws e) : TB all c ws e := fun d i B hb ha hn =>
  join_one (o := false) (part_fwd d) (h d i B hb ha) (by rw [(at_app ha).wa]; exact hn)
theorem TB.c {c : Cn} {ws : List W} {e : Nat} (h : TB all c ws e) : TC all c ws e := fun d i B hb ha hn ho =>
  join_one (o := true) and_fwd (h d i B hb ha hn) (by rw [(at_app ha).wa]; exact ho)
theorem TC.par {c : Cn} {ws : List W} {e : Nat} (h : TC all c ws e) : TA all c (pO :: (ws ++ [pC])) (e + 1) := by
  intro d i B hb ha
  have a0 : wa all i = pO := ha.wa
  have ha' : At all (i + 1) (ws ++ (pC :: B)) := by
    have : At all i (pO :: (ws ++ (pC :: B))) := by
      have e : pO :: (ws ++ [pC]) ++ B = pO :: (ws ++ (pC :: B)) := by simp
      rw [e] at ha; exact ha
    exact this.next
  have j1 : wa all (i + 1 + ws.length) = pC := (at_app ha').wa
  have mem : wa all i ∈ [wNot, pO] := by rw [a0]; simp
  have nn : ¬ wa all i = wNot := by rw [a0]; decide
  cases d with
  | zero =>
    unfold partAt rs
    rw [if_pos mem, if_neg (by omega)]
  | succ d =>
    unfold partAt
    rw [if_pos mem, if_neg nn]
    have hr := h d (i + 1) (pC :: B) (bh_w (by simp) B) ha' (show pC ≠ wAnd by decide) (show pC ≠ wOr by decide)
    unfold orAt andAt at hr
    rw [show joinAt true (joinAt false (partAt all d) all) all (i + 1) = joinAt true (fun i => joinAt false (partAt all d) all i) all (i + 1) from rfl] at *
    have hr' : joinAt true (joinAt false (partAt all d) all) all (i + 1) = rs e d c (i + 1 + ws.length) := hr
    rw [hr']
    unfold rs
    by_cases c1 : e ≤ d
    · have c2 : e + 1 ≤ d + 1 := by omega
      simp only [if_pos c1, if_pos c2, j1, if_true]
      simp; omega
    · have c2 : ¬ e + 1 ≤ d + 1 := by omega
      simp only [if_neg c1, if_neg c2]
/-- more pairs -/
def par (k : Nat) (ws : List W) : List W := List.replicate k pO ++ ws ++ List.replicate k pC
theorem par_succ (k : Nat) (ws : List W) : par (k + 1) ws = pO :: (par k ws ++ [pC]) := by
  unfold par
  rw [List.replicate_succ, List.replicate_succ']
  simp
theorem par_c {c : Cn} {ws : List W} {e : Nat} (h : TC all c ws e) : ∀ k, TC all c (par k ws) (k + e)
  | 0 => by
    have : par 0 ws = ws := by simp [par]
    rw [this, Nat.zero_add]; exact h
  | k + 1 => by
    rw [par_succ, show k + 1 + e = (k + e) + 1 from by omega]
    exact (par_c h k).par.b.c
theorem par_a {c : Cn} {ws : List W} {e k : Nat} (h : TC all c ws e) (hk : 1 ≤ k) : TA all c (par k ws) (k + e) := by
  obtain ⟨j, rfl⟩ : ∃ j, k = j + 1 := ⟨k - 1, by omega⟩
  rw [par_succ, show j + 1 + e = (j + e) + 1 from by omega]
  exact (par_c h j).par
theorem te_firstC {t : Te} (b : Te.Ok t) (B : List W) : hw (teW t ++ B) ∉ [wNot, pO] := by
  have nn : ∀ {w : W}, (nameOk w = true ∨ w = wRes) → w ∉ [wNot, pO] := fun {w} h z => by
    have k : ∀ w ∈ [wNot, pO], nameOk w = false ∧ w ≠ wRes := by decide +kernel
    have := k w z
    rcases h with h | h
    · rw [this.1] at h; cases h
    · exact this.2 h
  have nd : ∀ {w : W}, numOk w = true → w ∉ [wNot, pO] := fun {w} h z => by
    have k : ∀ w ∈ [wNot, pO], numOk w = false := by decide +kernel
    rw [k w z] at h; cases h
  have lit : ∀ w ∈ [wLen, wOld, sgM], w ∉ [wNot, pO] := by decide
  cases t with
  | pl p =>
    cases p with
    | num k =>
      have b : Bd k := b
      show hw (nW k ++ B) ∉ _
      unfold nW
      rcases bd_cases b with ⟨m, hm, rfl⟩ | ⟨m, h0, hm, rfl⟩
      · rw [if_neg (by omega)]; exact nd (dg_num hm)
      · rw [if_pos (by omega)]; exact lit sgM (by decide)
    | var w p => exact nn b.1
    | len w p => exact lit wLen (by decide)
  | cell w o ix p =>
    cases o with
    | false => exact nn (.inl b.1)
    | true => exact lit wOld (by decide)
theorem cmp_a {c : Cmp} (b : c.Ok) : TA all (.cmp c) (cmpW c) 0 := by
  intro d i B hb ha
  have hc : cmpC all i = some (.cmp c, i + (cmpW c).length) := by
    unfold cmpC
    rw [(cmp_read b ha hb).1]; rfl
  have nm : ¬ wa all i ∈ [wNot, pO] := by
    rw [ha.wa]
    have e : cmpW c ++ B = teW c.l ++ (c.s :: (teW c.r ++ B)) := by simp [cmpW]
    rw [e]
    exact te_firstC b.2.1 _
  unfold rs
  rw [if_pos (Nat.zero_le _)]
  cases d with
  | zero => unfold partAt; rw [if_neg nm, hc]
  | succ d => unfold partAt; rw [if_neg nm, hc]
theorem no_a {c : Cn} {ws : List W} {e : Nat} (h : TA all c ws e) : TA all (.no c) (wNot :: ws) (e + 1) := by
  intro d i B hb ha
  have a0 : wa all i = wNot := ha.wa
  have ha' : At all (i + 1) (ws ++ B) := ha.next
  have mem : wa all i ∈ [wNot, pO] := by rw [a0]; simp
  cases d with
  | zero =>
    unfold partAt rs
    rw [if_pos mem, if_neg (by omega)]
  | succ d =>
    unfold partAt
    rw [if_pos mem, if_pos a0, h d (i + 1) B hb ha']
    unfold rs
    by_cases c1 : e ≤ d
    · have c2 : e + 1 ≤ d + 1 := by omega
      simp only [if_pos c1, if_pos c2]
      simp; omega
    · have c2 : ¬ e + 1 ≤ d + 1 := by omega
      simp only [if_neg c1, if_neg c2]
/-- a part as its place wants it -/
def TP (all : List W) (o : Bool) (c : Cn) (ws : List W) (e : Nat) : Prop := if o = true then TB all c ws e else TA all c ws e
def pAt (all : List W) (o : Bool) (d : Nat) : Nat → Option (Cn × Nat) := if o = true then andAt all d else partAt all d
theorem pAt_fwd (o : Bool) (d : Nat) : Fwd (pAt all o d) := by
  cases o
  · exact part_fwd d
  · exact and_fwd
theorem TP.at {o : Bool} {c : Cn} {ws : List W} {e : Nat} (h : TP all o c ws e) (d i : Nat) (B : List W) (hb : Bh B) (ha : At all i (ws ++ B)) (hn : hw B ≠ wAnd ∨ o = false) : pAt all o d i = rs e d c (i + ws.length) := by
  cases o with
  | false => exact h d i B hb ha
  | true => exact h d i B hb ha (by rcases hn with h | h; exact h; cases h)
/-- parts with their words -/
inductive Drs (all : List W) (o : Bool) : List Cn → List W → Nat → Prop
  | one {c ws e} : TP all o c ws e → Drs all o [c] ws e
  | cons {c ws e cs ws' e'} : TP all o c ws e → Drs all o cs ws' e' → Drs all o (c :: cs) (ws ++ (kW o :: ws')) (max e e')
theorem drs_chain {o : Bool} {cs : List Cn} {ws : List W} {e : Nat} (h : Drs all o cs ws e) : ∀ (d i : Nat) (B : List W), Bh B → At all i (ws ++ B) → hw B ≠ kW o → (o = true → hw B ≠ wAnd) → chain (pAt all o d) (kW o) all (all.length + 2) i = rs e d cs (i + ws.length) := by
  induction h with
  | @one c ws e h =>
    intro d i B hb ha hk hn
    have hp := h.at d i B hb ha (by cases o; exact .inr rfl; exact .inl (hn rfl))
    have wj : ¬ wa all (i + ws.length) = kW o := by rw [(at_app ha).wa]; exact hk
    rw [chain_step (pAt_fwd o d) (kW_ne o), hp]
    unfold rs
    by_cases c1 : e ≤ d
    · simp only [if_pos c1, cont_end wj]
    · simp only [if_neg c1]
  | @cons c ws e cs ws' e' h hs ih =>
    intro d i B hb ha hk hn
    have ha1 : At all i (ws ++ (kW o :: (ws' ++ B))) := by
      have e : ws ++ (kW o :: ws') ++ B = ws ++ (kW o :: (ws' ++ B)) := by simp
      rw [e] at ha; exact ha
    have bk : Bh (kW o :: (ws' ++ B)) := bh_w (by cases o <;> decide) _
    have hp := h.at d i _ bk ha1 (by cases o; exact .inr rfl; exact .inl (show wOr ≠ wAnd by decide))
    have a2 := at_app ha1
    have wj : wa all (i + ws.length) = kW o := a2.wa
    have hi := ih d (i + ws.length + 1) B hb a2.next hk hn
    rw [chain_step (pAt_fwd o d) (kW_ne o), hp]
    have len : i + (ws ++ (kW o :: ws')).length = i + ws.length + 1 + ws'.length := by simp; omega
    rw [len]
    unfold rs at *
    by_cases c1 : e ≤ d
    · simp only [if_pos c1, cont, if_pos wj, hi]
      by_cases c2 : e' ≤ d
      · have c3 : max e e' ≤ d := by omega
        simp only [if_pos c2, if_pos c3]
        rfl
      · have c3 : ¬ max e e' ≤ d := by omega
        simp only [if_neg c2, if_neg c3]
    · have c3 : ¬ max e e' ≤ d := by omega
      simp only [if_neg c1, if_neg c3]
theorem jn_two {o : Bool} {cs : List Cn} (h : 2 ≤ cs.length) : jn o cs = .bin o cs := by
  match cs, h with
  | _ :: _ :: _, _ => rfl
theorem and_b {cs : List Cn} {ws : List W} {e : Nat} (h : Drs all false cs ws e) (h2 : 2 ≤ cs.length) : TB all (.bin false cs) ws e := by
  intro d i B hb ha hn
  have := drs_chain h d i B hb ha hn (fun z => by cases z)
  show (chain (pAt all false d) (kW false) all (all.length + 2) i).map _ = _
  rw [this]
  unfold rs
  by_cases c1 : e ≤ d
  · simp only [if_pos c1, Option.map_some, jn_two h2]
  · simp only [if_neg c1, Option.map_none]
theorem or_c {cs : List Cn} {ws : List W} {e : Nat} (h : Drs all true cs ws e) (h2 : 2 ≤ cs.length) : TC all (.bin true cs) ws e := by
  intro d i B hb ha hn ho
  have := drs_chain h d i B hb ha ho (fun _ => hn)
  show (chain (pAt all true d) (kW true) all (all.length + 2) i).map _ = _
  rw [this]
  unfold rs
  by_cases c1 : e ≤ d
  · simp only [if_pos c1, Option.map_some, jn_two h2]
  · simp only [if_neg c1, Option.map_none]
end Cd

set_option maxRecDepth 100000
set_option maxHeartbeats 4000000
namespace K03
open PySem L2 VL Wd Tm Tw Lw Lr Hd Ln Lt Pm Cd
local macro_rules
  | `(tactic| push_cast [$xs,*]) => `(tactic| try simp only [$xs,*, WpSs, WpS, WpE, WpEs, WpBs, WpO, WpN, WpI, WpC, WpT, getS, setS, tgK, setsS, wipeS, k_add, k_addT, k_sub, k_mul, k_fdiv, k_mod, k_neg, k_lt, k_le, k_gt, k_ge, k_eqI, k_neI, k_eqS, k_neS, k_eqB, k_neB, k_is, k_isn, isNon_non, isNon_int, isNon_str, isNon_lst, isNon_tup, isNon_adr, k_lenS, k_lenL, k_lenR, k_lenT, k_int, k_str, k_abs, tru_bl, augK, ctx_call, ctx_glob, k_in, k_nin, k_inS, k_addS, k_intB, isi_non_int, isi_non_bool, isi_non_str, isi_non_list, isi_non_tuple, isi_bl_int, isi_bl_bool, isi_bl_str, isi_bl_list, isi_bl_tuple, isi_int_int, isi_int_bool, isi_int_str, isi_int_list, isi_int_tuple, isi_str_int, isi_str_bool, isi_str_str, isi_str_list, isi_str_tuple, isi_tup_int, isi_tup_bool, isi_tup_str, isi_tup_list, isi_tup_tuple, isi_lst_int, isi_lst_bool, isi_lst_str, isi_lst_list, isi_lst_tuple, isi_ro_int, isi_ro_bool, isi_ro_str, isi_ro_list, isi_ro_tuple])
/-- the words of a condition with pairs around it (k0 at least), so many open in it -/
structure Dz (k0 : Nat) (more : Bool) (c : Cn) (ws : List W) (e : Nat) : Prop where
  tc : ∀ all, TC all c ws e
  tb : isO c = false ∨ 1 ≤ k0 → ∀ all, TB all c ws e
  ta : isB c = false ∨ 1 ≤ k0 → ∀ all, Cd.TA all c ws e
  gd : ∀ w ∈ ws, Gd w
  sp : more = false → k0 ≤ 1 → ∀ ws' l, Tw.Sp ws' l → Nx l → Tw.Sp (ws ++ ws') (wr (decide (k0 = 1)) (tx c) ++ l)
theorem gd_p : Gd pO ∧ Gd pC ∧ Gd wNot ∧ Gd wAnd ∧ Gd wOr := by
  have : ∀ w ∈ [pO, pC, wNot, wAnd, wOr], IsW w ∧ w.length ≤ 20 := by decide +kernel
  exact ⟨this _ (by simp), this _ (by simp), this _ (by simp), this _ (by simp), this _ (by simp)⟩
theorem gd_par {k : Nat} {ws : List W} (h : ∀ w ∈ ws, Gd w) : ∀ w ∈ par k ws, Gd w := by
  intro w m
  unfold par at m
  rcases List.mem_append.mp m with m | m
  · rcases List.mem_append.mp m with m | m
    · rw [(List.mem_replicate.mp m).2]; exact gd_p.1
    · exact h w m
  · rw [(List.mem_replicate.mp m).2]; exact gd_p.2.1
theorem sp_wr {c : Cn} {ws : List W} {k : Nat} (hk : k ≤ 1) (h : ∀ ws' l, Tw.Sp ws' l → Nx l → Tw.Sp (ws ++ ws') (tx c ++ l)) : ∀ ws' l, Tw.Sp ws' l → Nx l → Tw.Sp (par k ws ++ ws') (wr (decide (k = 1)) (tx c) ++ l) := by
  intro ws' l s n
  have : k = 0 ∨ k = 1 := by omega
  rcases this with rfl | rfl
  · have e : par 0 ws = ws := by simp [par]
    rw [e]
    exact h ws' l s n
  · have s1 := sp_1 (c := 41) (by decide) (by decide) s
    have s2 := h _ _ s1 (nx_cons (by decide))
    have s3 := sp_1 (c := 40) (by decide) (by decide) s2
    have e1 : par 1 ws ++ ws' = [40] :: (ws ++ ([41] :: ws')) := by simp [par, pO, pC]
    have e2 : wr (decide (1 = 1)) (tx c) ++ l = 40 :: (tx c ++ (41 :: l)) := by simp [wr]
    rw [e1, e2]
    exact s3
/-- pairs around words that read back -/
theorem dz_of {k0 k : Nat} {more : Bool} {c : Cn} {ws : List W} {e : Nat} (hk : k0 ≤ k) (hm : more = false → k = k0) (hc : ∀ all, TC all c ws e) (hb : isO c = false → ∀ all, TB all c ws e) (ha : isB c = false → ∀ all, Cd.TA all c ws e) (g : ∀ w ∈ ws, Gd w) (s : more = false → ∀ ws' l, Tw.Sp ws' l → Nx l → Tw.Sp (ws ++ ws') (tx c ++ l)) : Dz k0 more c (par k ws) (k + e) := by
  have e0 : par 0 ws = ws := by simp [par]
  refine ⟨fun all => par_c (hc all) k, fun h all => ?_, fun h all => ?_, gd_par g, fun m k1 => ?_⟩
  · rcases Nat.eq_zero_or_pos k with rfl | z
    · rw [e0, Nat.zero_add]
      rcases h with h | h
      · exact hb h all
      · omega
    · exact (par_a (hc all) z).b
  · rcases Nat.eq_zero_or_pos k with rfl | z
    · rw [e0, Nat.zero_add]
      rcases h with h | h
      · exact ha h all
      · omega
    · exact par_a (hc all) z
  · have := hm m
    subst this
    exact sp_wr k1 (s m)
theorem gd_cmp {c : Cmp} (b : c.Ok) : ∀ w ∈ cmpW c, Gd w := by
  intro w m
  unfold cmpW at m
  rcases List.mem_append.mp m with m | m
  · exact (teW_ws b.2.1).1 w m
  · rcases List.mem_cons.mp m with rfl | m
    · have : ∀ s ∈ SGN, IsW s ∧ s.length ≤ 20 := by decide +kernel
      exact this _ b.1
    · exact (teW_ws b.2.2).1 w m
theorem dz_cmp {k0 k : Nat} {more : Bool} {c : Cmp} (b : c.Ok) (hk : k0 ≤ k) (hm : more = false → k = k0) : Dz k0 more (.cmp c) (par k (cmpW c)) k := by
  have := dz_of (more := more) (c := .cmp c) (e := 0) hk hm (fun all => (cmp_a (all := all) b).b.c) (fun _ all => (cmp_a b).b) (fun _ all => cmp_a b) (gd_cmp b) (fun _ ws' l s n => by rw [tx]; exact sp_cmp b s n)
  exact this
theorem dz_no {k0 k m : Nat} {more : Bool} {c : Cn} {ws : List W} {e : Nat} (h : Dz m more c ws e) (hm0 : m = if nd false c = true then 1 else 0) (hk : k0 ≤ k) (hm : more = false → k = k0) : Dz k0 more (.no c) (par k (wNot :: ws)) (k + (e + 1)) := by
  have ta : ∀ all, Cd.TA all c ws e := by
    refine h.ta ?_
    have : nd false c = isB c := rfl
    rw [this] at hm0
    cases e : isB c with
    | false => exact .inl rfl
    | true => rw [e] at hm0; exact .inr (by rw [hm0]; decide)
  refine dz_of hk hm (fun all => (no_a (ta all)).b.c) (fun _ all => (no_a (ta all)).b) (fun _ all => no_a (ta all)) (fun w m => ?_) (fun z ws' l s n => ?_)
  · rcases List.mem_cons.mp m with rfl | m
    · exact gd_p.2.2.1
    · exact h.gd w m
  · have k1 : m ≤ 1 := by rw [hm0]; split <;> omega
    have s1 := h.sp z k1 ws' l s n
    have ew : decide (m = 1) = nd false c := by
      rw [hm0]; cases nd false c <;> decide
    rw [ew] at s1
    rw [tx]
    have iw : IsW wNot := gd_p.2.2.1.1
    have s2 := sp_w iw (sp_s s1) nx_sp
    show Tw.Sp (wNot :: (ws ++ ws')) _
    simpa using s2
theorem tp_of {m : Nat} {more o : Bool} {c : Cn} {ws : List W} {e : Nat} (h : Dz m more c ws e) (hm : m = if nd o c = true then 1 else 0) (all : List W) : TP all o c ws e := by
  cases o with
  | false =>
    refine h.ta ?_ all
    have : nd false c = isB c := rfl
    rw [this] at hm
    cases e : isB c with
    | false => exact .inl rfl
    | true => rw [e] at hm; exact .inr (by rw [hm]; decide)
  | true =>
    refine h.tb ?_ all
    have : nd true c = isO c := rfl
    rw [this] at hm
    cases e : isO c with
    | false => exact .inl rfl
    | true => rw [e] at hm; exact .inr (by rw [hm]; decide)
theorem sp_of {m : Nat} {more o : Bool} {c : Cn} {ws : List W} {e : Nat} (h : Dz m more c ws e) (hm : m = if nd o c = true then 1 else 0) (z : more = false) : ∀ ws' l, Tw.Sp ws' l → Nx l → Tw.Sp (ws ++ ws') (wr (nd o c) (tx c) ++ l) := by
  intro ws' l s n
  have k1 : m ≤ 1 := by rw [hm]; split <;> omega
  have s1 := h.sp z k1 ws' l s n
  have ew : decide (m = 1) = nd o c := by
    rw [hm]; cases nd o c <;> decide
  rw [ew] at s1
  exact s1
theorem drs_snoc {all : List W} {o : Bool} {cs : List Cn} {ws w : List W} {e e2 : Nat} {c : Cn} (h : Drs all o cs ws e) (h2 : TP all o c w e2) : Drs all o (cs ++ [c]) (ws ++ (kW o :: w)) (max e e2) := by
  induction h with
  | one h1 => exact .cons h1 (.one h2)
  | @cons c1 w1 e1 cs1 w2 e3 h1 _ ih =>
    have := Drs.cons h1 ih
    rw [← Nat.max_assoc] at this
    have e : w1 ++ (kW o :: w2) ++ (kW o :: w) = w1 ++ (kW o :: (w2 ++ (kW o :: w))) := by simp
    rw [e]
    exact this
theorem txs_snoc (o : Bool) (cs : List Cn) (c : Cn) : txs o (cs ++ [c]) = txs o cs ++ [wr (nd o c) (tx c)] := by
  rw [txs_map, txs_map, List.map_append]; rfl
theorem join_snoc (S x : W) : ∀ ls : List W, ls ≠ [] → TL.joinL S (ls ++ [x]) = TL.joinL S ls ++ (S ++ x)
  | [], h => absurd rfl h
  | [y], _ => by simp [TL.joinL]
  | y :: z :: r, _ => by
    have := join_snoc S x (z :: r) (by simp)
    simp only [List.cons_append, TL.joinL] at this ⊢
    rw [this]
    simp
/-- parts with their words -/
structure Pz (more o : Bool) (cs : List Cn) (ws : List W) (e : Nat) : Prop where
  d : ∀ all, Drs all o cs ws e
  g : ∀ w ∈ ws, Gd w
  n : cs ≠ []
  sp : more = false → ∀ ws' l, Tw.Sp ws' l → Nx l → Tw.Sp (ws ++ ws') (TL.joinL (jS o) (txs o cs) ++ l)
theorem pz_one {m : Nat} {more o : Bool} {c : Cn} {ws : List W} {e : Nat} (h : Dz m more c ws e) (hm : m = if nd o c = true then 1 else 0) : Pz more o [c] ws e :=
  ⟨fun all => .one (tp_of h hm all), h.gd, by simp, fun z ws' l s n => by
    have := sp_of h hm z ws' l s n
    have e : TL.joinL (jS o) (txs o [c]) = wr (nd o c) (tx c) := by simp [txs, TL.joinL]
    rw [e]; exact this⟩
theorem pz_snoc {m : Nat} {more o : Bool} {cs : List Cn} {c : Cn} {ws w : List W} {e e2 : Nat} (p : Pz more o cs ws e) (h : Dz m more c w e2) (hm : m = if nd o c = true then 1 else 0) : Pz more o (cs ++ [c]) (ws ++ (kW o :: w)) (max e e2) := by
  refine ⟨fun all => drs_snoc (p.d all) (tp_of h hm all), fun v hv => ?_, by simp, fun z ws' l s n => ?_⟩
  · rcases List.mem_append.mp hv with hv | hv
    · exact p.g v hv
    · rcases List.mem_cons.mp hv with rfl | hv
      · cases o
        · exact gd_p.2.2.2.1
        · exact gd_p.2.2.2.2
      · exact h.gd v hv
  · have s1 := sp_of h hm z ws' l s n
    have iw : IsW (kW o) := by
      cases o
      · exact gd_p.2.2.2.1.1
      · exact gd_p.2.2.2.2.1
    have s2 := sp_s (sp_w iw (sp_s s1) nx_sp)
    have s3 := p.sp z _ _ s2 nx_sp
    have tn : txs o cs ≠ [] := by
      intro e
      have := txs_len o cs
      rw [e] at this
      exact p.n (List.eq_nil_of_length_eq_zero this.symm)
    rw [txs_snoc, join_snoc _ _ _ tn]
    have e1 : ws ++ (kW o :: w) ++ ws' = ws ++ (kW o :: (w ++ ws')) := by simp
    rw [e1]
    simpa [jS] using s3
theorem dz_bin {k0 k : Nat} {more o : Bool} {cs : List Cn} {ws : List W} {e : Nat} (p : Pz more o cs ws e) (h2 : 2 ≤ cs.length) (hk : k0 ≤ k) (hm : more = false → k = k0) : Dz k0 more (.bin o cs) (par k ws) (k + e) := by
  cases o with
  | false => exact dz_of hk hm (fun all => (and_b (p.d all) h2).c) (fun _ all => and_b (p.d all) h2) (fun z => by cases z) p.g (fun z ws' l s n => by rw [tx]; exact p.sp z ws' l s n)
  | true => exact dz_of hk hm (fun all => or_c (p.d all) h2) (fun z => by cases z) (fun z => by cases z) p.g (fun z ws' l s n => by rw [tx]; exact p.sp z ws' l s n)
/-- the words of a whole condition, read -/
theorem dz_read {k : Nat} {more : Bool} {c : Cn} {ws : List W} {e : Nat} (h : Dz k more c ws e) : condOf ws = if e ≤ 8 then some c else none := by
  have := h.tc ws 8 0 [] bh_nil (by simp [At]) (by decide) (by decide)
  unfold condOf
  rw [this]
  unfold rs
  by_cases c1 : e ≤ 8
  · rw [if_pos c1, if_pos c1, Nat.zero_add]
    exact wh_all
  · rw [if_neg c1, if_neg c1]; rfl
end K03

set_option maxRecDepth 100000
set_option maxHeartbeats 4000000
namespace K03
open PySem L2 VL Wd Tm Tw Lw Lr Hd Ln Lt Pm Cd
local macro_rules
  | `(tactic| push_cast [$xs,*]) => `(tactic| try simp only [$xs,*, WpSs, WpS, WpE, WpEs, WpBs, WpO, WpN, WpI, WpC, WpT, getS, setS, tgK, setsS, wipeS, k_add, k_addT, k_sub, k_mul, k_fdiv, k_mod, k_neg, k_lt, k_le, k_gt, k_ge, k_eqI, k_neI, k_eqS, k_neS, k_eqB, k_neB, k_is, k_isn, isNon_non, isNon_int, isNon_str, isNon_lst, isNon_tup, isNon_adr, k_lenS, k_lenL, k_lenR, k_lenT, k_int, k_str, k_abs, tru_bl, augK, ctx_call, ctx_glob, k_in, k_nin, k_inS, k_addS, k_intB, isi_non_int, isi_non_bool, isi_non_str, isi_non_list, isi_non_tuple, isi_bl_int, isi_bl_bool, isi_bl_str, isi_bl_list, isi_bl_tuple, isi_int_int, isi_int_bool, isi_int_str, isi_int_list, isi_int_tuple, isi_str_int, isi_str_bool, isi_str_str, isi_str_list, isi_str_tuple, isi_tup_int, isi_tup_bool, isi_tup_str, isi_tup_list, isi_tup_tuple, isi_lst_int, isi_lst_bool, isi_lst_str, isi_lst_list, isi_lst_tuple, isi_ro_int, isi_ro_bool, isi_ro_str, isi_ro_list, isi_ro_tuple])
theorem teW_len {t : Te} : (teW t).length ≤ 10 := by
  cases t with
  | pl p => have := L3.plW_len p; show (plW p).length ≤ 10; omega
  | cell w o ix p =>
    have h1 := L3.plW_len ix; have h2 := L3.pW_len p
    have h3 : (lW w o).length ≤ 2 := by unfold lW; split <;> simp
    show (lW w o ++ [brO] ++ plW ix ++ [brC] ++ pW p).length ≤ 10
    simp; omega
theorem cmpW_len (c : Cmp) : (cmpW c).length ≤ 21 := by
  have h1 := teW_len (t := c.l); have h2 := teW_len (t := c.r)
  unfold cmpW
  simp; omega
theorem par_len (k : Nat) (ws : List W) : (par k ws).length = ws.length + 2 * k := by
  simp [par]; omega
section
variable {P : Prg} [H3.U P] [Lw.U P] [Lr.U P] [L3.U P] [U P] {a : Nat}
theorem dz_pos {k : Nat} {more : Bool} {c : Cn} {w : List W} {e : Nat} (h : Dz k more c w e) : 0 < w.length := by
  rcases Nat.eq_zero_or_pos w.length with z | z
  · have e0 := List.eq_nil_of_length_eq_zero z
    subst e0
    have := h.tc [] e 0 [] bh_nil (by simp [At]) (by decide) (by decide)
    unfold rs at this
    rw [if_pos (Nat.le_refl _)] at this
    have := join_fwd (o := true) and_fwd _ _ _ this
    simp at this
  · exact z
theorem rep_w (w : W) (k : Nat) : (List.replicate ((k : Int).toNat) (wl [w])).flatten = wl (List.replicate k w) := by
  show (List.replicate ((k : Int).toNat) [AV.str (mkS w)]).flatten = _
  rw [Int.toNat_natCast, List.flatten_replicate_singleton]
  simp [wl]
theorem rep_w' (w : W) (k : Nat) : (List.replicate k (wl [w])).flatten = wl (List.replicate k w) := rep_w w k
theorem plits : ("(" : Str) = mkS pO ∧ (")" : Str) = mkS pC ∧ ("not" : Str) = mkS wNot ∧ ("cmp" : Str) = mkS wCmp := by decide +kernel
theorem dressed_ok : ∀ (d : Nat), d ≤ 5 → ∀ (n : Nat) (p : Int) (c : Cn) (k0 : Nat) (more : Bool) (h : AHeap) (Q : AV → AHeap → Prop), p ≤ 8 → Good d p c → k0 ≤ 9 → Hnd a h →
    (∀ ws e h', Hx a h h' → Dz k0 more c ws e → (ws.length : Int) ≤ p * (57 + 37 * (d : Int)) → Q (.lst [.lst (wl ws), .int (e : Int)]) h') → callN P (n + d + 5) 106 [.adr a, c.av, .int (k0 : Int), .bl more] h Q := by
  intro d
  have w1 : ∀ w : W, [AV.str (mkS w)] = wl [w] := fun _ => rfl
  have cmp6 : ∀ (m k k0 : Nat) (c : Cmp) (more : Bool) (h : AHeap) (Q : AV → AHeap → Prop), c.Ok → k ≤ 18 → Q (.lst [.lst (wl (par k (cmpW c))), .int (k : Int)]) h → WpSs (ctxOf P (callN P (m + 4))) b_law_dressed_6 { nx := fun _ h => Q .non h, rt := Q } [.val (.adr a), .val (Cn.cmp c).av, .val (.int (k : Int)), .val (.bl more), .no, .no, .no, .no] h := by
    intro m k k0 c more h Q b hk q
    have hz := sz1
    obtain ⟨s, l, r⟩ := c
    have l1 := teW_len (t := l); have l2 := teW_len (t := r)
    have es : (Cn.cmp ⟨s, l, r⟩).av = .tup [.str "cmp", .str (mkS s), l.av, r.av] := by rw [Cn.av]; rfl
    rw [es]
    push_cast [b_law_dressed_6]
    refine k_t4 (k := 0) rfl ?_
    push_cast [decide_true, if_true]
    refine k_t4 (k := 2) rfl ?_
    refine L3.words_ok b.2.1 ?_
    refine k_t4 (k := 1) rfl ?_
    push_cast [w1, viewW_lst, wl_app, wl_len, List.length_append, List.length_cons, List.length_nil]
    refine ⟨by show 1 ≤ sizeLine; decide, by omega, ?_⟩
    refine k_t4 (k := 3) rfl ?_
    refine L3.words_ok b.2.2 ?_
    push_cast [w1, plits, viewW_lst, wl_app, wl_len, List.length_append, List.length_cons, List.length_nil, rep_w, List.length_replicate]
    have e : List.replicate k pO ++ (teW l ++ [s] ++ teW r) ++ List.replicate k pC = par k (cmpW ⟨s, l, r⟩) := by simp [par, cmpW]
    simp only [Int.toNat_natCast, e, wl_app]
    refine ⟨by omega, by omega, ⟨by omega, by omega⟩, by omega, by omega, by omega, ⟨by omega, by omega⟩, by omega, by omega, by omega, ?_⟩
    exact q
  have entry : ∀ (m k0 : Nat) (c : Cn) (more : Bool) (h : AHeap) (Q : AV → AHeap → Prop), k0 ≤ 9 → Hnd a h → (∀ k h', k0 ≤ k → k ≤ k0 + 9 → (more = false → k = k0) → Hx a h h' → WpSs (ctxOf P (callN P (m + 4))) b_law_dressed_6 { nx := fun _ h => Q .non h, rt := Q } [.val (.adr a), .val c.av, .val (.int (k : Int)), .val (.bl more), .no, .no, .no, .no] h') → callN P (m + 5) 106 [.adr a, c.av, .int (k0 : Int), .bl more] h Q := by
    intro m k0 c more h Q hk hd q
    refine call_of U.f__law_dressed rfl ?_
    show WpSs (ctxOf P (callN P (m + 4))) b_law_dressed _ [.val (.adr a), .val c.av, .val (.int (k0 : Int)), .val (.bl more), .no, .no, .no, .no] h
    cases more with
    | false =>
      push_cast [b_law_dressed, Bool.false_eq_true, if_false]
      exact q k0 h (Nat.le_refl _) (by omega) (fun _ => rfl) (.refl hd)
    | true =>
      push_cast [b_law_dressed, if_true]
      refine many_ok (n := m + 2) hd fun j h1 x1 hj => ?_
      have e : (k0 : Int) + (j : Int) = ((k0 + j : Nat) : Int) := by omega
      push_cast [e]
      exact q (k0 + j) h1 (by omega) (by omega) (fun z => by cases z) x1
  induction d with
  | zero =>
    intro _ n p c k0 more h Q p8 g hk hd q
    cases c with
    | cmp c =>
      refine entry n k0 _ more h Q hk hd fun k h1 k1 k2 k3 x1 => ?_
      refine cmp6 n k k0 c more h1 Q g.1 (by omega) ?_
      have hl := par_len k (cmpW c); have hc := cmpW_len c; have := g.2
      exact q _ _ _ x1 (dz_cmp g.1 k1 k3) (by omega)
    | no c => exact g.elim
    | bin o cs => exact g.elim
  | succ d ih =>
    intro hd5 n p c k0 more h Q p8 g hk hd q
    have e5 : n + (d + 1) + 5 = (n + d + 1) + 5 := by omega
    rw [e5]
    cases c with
    | cmp c =>
      refine entry (n + d + 1) k0 _ more h Q hk hd fun k h1 k1 k2 k3 x1 => ?_
      refine cmp6 (n + d + 1) k k0 c more h1 Q g.1 (by omega) ?_
      have hl := par_len k (cmpW c); have hc := cmpW_len c
      have h1p : 1 * (57 + 37 * ((d + 1 : Nat) : Int)) ≤ p * (57 + 37 * ((d + 1 : Nat) : Int)) := Int.mul_le_mul_of_nonneg_right g.2 (by omega)
      exact q _ _ _ x1 (dz_cmp g.1 k1 k3) (by omega)
    | no c =>
      have g : Good d p c := g
      refine entry (n + d + 1) k0 _ more h Q hk hd fun k h1 k1 k2 k3 x1 => ?_
      have d1 : decide (tagC (.no c) = wCmp) = false := (show decide (wNot = wCmp) = false by decide)
      have d2 : decide (tagC (.no c) = wNot) = true := (show decide (wNot = wNot) = true by decide)
      have s1 : ∀ (h : AHeap) (Q : KA), Q c.av → subK h (Cn.no c).av (.int 1) Q := by
        intro h Q q
        rw [Cn.av]
        exact k_t4 (k := 1) rfl q
      push_cast [b_law_dressed_6, plits]
      refine tag_subC ?_
      push_cast [mkS_eq, d1, Bool.false_eq_true, if_false, b_law_dressed_5, plits]
      refine tag_subC ?_
      push_cast [mkS_eq, d2, if_true]
      refine s1 _ _ ?_
      push_cast [WpSs]
      refine s1 _ _ ?_
      refine needs_ok ?_
      have dn : decide (wNot = kW true) = false := by decide
      rw [dn, k_intB]
      obtain ⟨m, em⟩ : ∃ m : Nat, m = (if nd false c = true then 1 else 0) := ⟨_, rfl⟩
      have ei : (if nd false c = true then (1 : Int) else 0) = (m : Int) := by rw [em]; split <;> rfl
      have m1 : m ≤ 1 := by rw [em]; split <;> omega
      rw [ei]
      refine ih (by omega) n p c m more h1 _ p8 g (by omega) x1.hand fun ws e h2 x2 dz hl => ?_
      have hz := sz1
      have e9 : (57 : Int) + 37 * ((d + 1 : Nat) : Int) = 57 + 37 * (d : Int) + 37 := by omega
      have pp := (tx_len d p c g).1
      have hb : p * (57 + 37 * (d : Int)) ≤ 8 * (57 + 37 * (d : Int)) := Int.mul_le_mul_of_nonneg_right p8 (by omega)
      have hr := dz_no (k0 := k0) (k := k) dz em k1 k3
      have ee : (k : Int) + 1 + (e : Int) = ((k + (e + 1) : Nat) : Int) := by omega
      have ew : List.replicate k pO ++ [wNot] ++ ws ++ List.replicate k pC = par k (wNot :: ws) := by simp [par]
      have hq := q _ _ _ (x1.trans x2) hr (by
        rw [par_len, e9, Int.mul_add]
        simp only [List.length_cons]; omega)
      push_cast [w1, viewW_lst, rep_w, wl_app, wl_len, List.length_append, List.length_replicate, List.length_cons, List.length_nil, Int.toNat_natCast]
      simp only [rep_w', wl_app, wl_len, List.length_append, List.length_replicate, List.length_cons, List.length_nil]
      refine ⟨by omega, ⟨by omega, by omega⟩, by omega, by omega, by omega, ?_⟩
      refine k_l0 ?_
      simp only [viewW_lst, wl_app, wl_len, List.length_append, List.length_replicate, List.length_cons, List.length_nil]
      refine ⟨by omega, by omega, ⟨by omega, by omega⟩, by omega, by omega, ?_⟩
      refine k_l1 ?_
      push_cast [ee, ew]
      exact ⟨by omega, hq⟩
    | bin o cs =>
      obtain ⟨l2, g⟩ : 2 ≤ cs.length ∧ Spl (Good d) p cs := g
      have cn := spl_n cs p g
      have hz := sz1
      refine entry (n + d + 1) k0 _ more h Q hk hd fun k h1 k1 k2 k3 x1 => ?_
      have d1 : decide (tagC (.bin o cs) = wCmp) = false := (show decide (kW o = wCmp) = false by cases o <;> decide)
      have d2 : decide (tagC (.bin o cs) = wNot) = false := (show decide (kW o = wNot) = false by cases o <;> decide)
      have s1 : ∀ (h : AHeap) (Q : KA), Q (.tup (Cn.avs cs)) → subK h (Cn.bin o cs).av (.int 1) Q := by
        intro h Q q
        rw [Cn.av]
        exact k_t4 (k := 1) rfl q
      have dn : decide (kW o = kW true) = o := by cases o <;> decide
      push_cast [b_law_dressed_6, plits]
      refine tag_subC ?_
      push_cast [mkS_eq, d1, Bool.false_eq_true, if_false, b_law_dressed_5, plits]
      refine tag_subC ?_
      push_cast [mkS_eq, d2, Bool.false_eq_true, if_false, b_law_dressed_4]
      refine ⟨Nat.zero_le _, ?_⟩
      refine s1 _ _ ?_
      have vt : ∀ h, viewT h (.tup (Cn.avs cs)) = some (Cn.avs cs) := fun _ => rfl
      push_cast [vt]
      refine for_inv (fun i ρ h' => Hx a h h' ∧ ∃ (ws : List W) (e : Nat) (s5 s7 : Slot) (b : Int), ρ = [.val (.adr a), .val (Cn.bin o cs).av, .val (.int (k : Int)), .val (.bl more), .own (.lst (wl ws)), s5, .val (.int (e : Int)), s7] ∧ ((i = 0 ∧ ws = [] ∧ e = 0) ∨ (0 < ws.length ∧ Pz more o (cs.take i) ws e)) ∧ Spl (Good d) b (cs.drop i) ∧ (ws.length : Int) + b * (57 + 37 * (d : Int)) ≤ p * (57 + 37 * (d : Int)) + i) ⟨x1, [], 0, _, _, p, rfl, .inl ⟨rfl, rfl, rfl⟩, g, by simp⟩ (fun _ _ _ _ _ => by first | trivial | exact vt _) ?_ ?_
      · rintro i y _ h2 D' hx ⟨x2, ws, e, s5, s7, b, rfl, hp, hs, hl⟩ kn kc kr kb
        rw [avs_map] at hx
        obtain ⟨c, hc, rfl⟩ := items_map hx
        obtain ⟨il, hci⟩ := List.getElem?_eq_some_iff.mp hc
        have hdr : cs.drop i = c :: cs.drop (i + 1) := by rw [List.drop_eq_getElem_cons il, hci]
        have htk : cs.take (i + 1) = cs.take i ++ [c] := by rw [List.take_succ, hc]; rfl
        rw [hdr] at hs
        obtain ⟨a', b', hab, ha1, ga, hs'⟩ := hs
        have bn := spl_n _ b' hs'
        have hbB : (a' + b') * (57 + 37 * (d : Int)) ≤ b * (57 + 37 * (d : Int)) := Int.mul_le_mul_of_nonneg_right hab (by omega)
        have hb0 : 0 ≤ b' * (57 + 37 * (d : Int)) := Int.mul_nonneg (by omega) (by omega)
        have hp8 : p * (57 + 37 * (d : Int)) ≤ 8 * (57 + 37 * (d : Int)) := Int.mul_le_mul_of_nonneg_right p8 (by omega)
        rw [Int.add_mul] at hbB
        have ha0 : 0 ≤ a' * (57 + 37 * (d : Int)) := Int.mul_nonneg (by omega) (by omega)
        have ap : a' ≤ 8 := by
          have hB : (0 : Int) < 57 + 37 * (d : Int) := by omega
          have : a' * (57 + 37 * (d : Int)) ≤ (p + 0) * (57 + 37 * (d : Int)) + 8 := by rw [Int.add_zero]; omega
          rcases Int.lt_or_le 8 a' with z | z
          · have h9 : 9 * (57 + 37 * (d : Int)) ≤ a' * (57 + 37 * (d : Int)) := Int.mul_le_mul_of_nonneg_right z (by omega)
            rw [Int.add_zero] at this
            omega
          · exact z
        push_cast [b_law_dressed_2]
        refine tag_subC ?_
        refine needs_ok ?_
        rw [show tagC (Cn.bin o cs) = kW o from rfl, dn, k_intB]
        obtain ⟨m, em⟩ : ∃ m : Nat, m = (if nd o c = true then 1 else 0) := ⟨_, rfl⟩
        have ei : (if nd o c = true then (1 : Int) else 0) = (m : Int) := by rw [em]; split <;> rfl
        have m1 : m ≤ 1 := by rw [em]; split <;> omega
        rw [ei]
        refine ih (by omega) n a' c m more h2 _ ap ga (by omega) x2.hand fun w e2 h3 x3 dz hl2 => ?_
        have wn : 0 < w.length := dz_pos dz
        have fin : ∀ ws0 : List W, Pz more o (cs.take (i + 1)) (ws0 ++ w) (max e e2) → ((ws0 ++ w).length : Int) + b' * (57 + 37 * (d : Int)) ≤ p * (57 + 37 * (d : Int)) + ((i + 1 : Nat) : Int) → WpSs (ctxOf P (callN P (n + d + 1 + 4))) b_law_dressed_1 D' [.val (.adr a), .val (Cn.bin o cs).av, .val (.int (k : Int)), .val (.bl more), .own (.lst (wl ws0)), .val (.lst [.lst (wl w), .int (e2 : Int)]), .val (.int (e : Int)), .val c.av] h3 := by
          intro ws0 hpz hlen
          have hw0 : (ws0 ++ w).length = ws0.length + w.length := by simp
          push_cast [b_law_dressed_1, viewW_lst]
          refine k_l0 ?_
          push_cast [viewW_lst, wl_app, wl_len]
          refine ⟨by omega, ?_⟩
          refine k_l1 ?_
          push_cast [WpSs]
          refine ite_b (fun c1 => ?_) (fun c1 => ?_)
          · refine k_l1 ?_
            have em' : max e e2 = e2 := by omega
            rw [em'] at hpz
            exact kn _ _ ⟨x2.trans x3, ws0 ++ w, e2, _, _, b', rfl, .inr ⟨by omega, hpz⟩, hs', hlen⟩
          · have em' : max e e2 = e := by omega
            rw [em'] at hpz
            exact kn _ _ ⟨x2.trans x3, ws0 ++ w, e, _, _, b', rfl, .inr ⟨by omega, hpz⟩, hs', hlen⟩
        rw [wl_len]
        rcases hp with ⟨hi0, hws, he⟩ | ⟨hw0, hp⟩
        · subst hi0 hws he
          have d0 : decide ((0 : Int) < (([] : List W).length : Int)) = false := by decide
          simp only [d0, Bool.false_eq_true, if_false]
          refine fin [] ?_ ?_
          · rw [htk, List.take_zero, List.nil_append, List.nil_append, Nat.zero_max]
            exact pz_one dz em
          · simp only [List.nil_append]; simp at hl; omega
        · have d0 : decide ((0 : Int) < (ws.length : Int)) = true := decide_eq_true (by omega)
          simp only [d0, if_true]
          refine tag_subC ?_
          have e1 : wl ws ++ [.str (mkS (tagC (Cn.bin o cs)))] = wl (ws ++ [kW o]) := by rw [← wl_app]; rfl
          rw [e1]
          refine ⟨by omega, ?_⟩
          refine fin (ws ++ [kW o]) ?_ ?_
          · rw [htk]
            have e2' : ws ++ [kW o] ++ w = ws ++ (kW o :: w) := by simp
            rw [e2']
            exact pz_snoc hp dz em
          · simp only [List.length_append, List.length_cons, List.length_nil]; omega
      · rintro _ h2 ⟨x2, ws, e, s5, s7, b, rfl, hp, hs, hl⟩
        have al : (Cn.avs cs).length = cs.length := by rw [avs_map, List.length_map]
        rw [al] at hp hs hl
        rcases hp with hp | ⟨_, hp⟩
        · omega
        rw [List.take_length] at hp
        have bn := spl_n _ b hs
        have hb0 : 0 ≤ b * (57 + 37 * (d : Int)) := Int.mul_nonneg (by omega) (by omega)
        have hp8 : p * (57 + 37 * (d : Int)) ≤ 8 * (57 + 37 * (d : Int)) := Int.mul_le_mul_of_nonneg_right p8 (by omega)
        have e9 : (57 : Int) + 37 * ((d + 1 : Nat) : Int) = 57 + 37 * (d : Int) + 37 := by omega
        have ew : List.replicate k pO ++ ws ++ List.replicate k pC = par k ws := rfl
        have ee : (k : Int) + (e : Int) = ((k + e : Nat) : Int) := by omega
        have hq := q _ _ _ x2 (dz_bin hp l2 k1 k3) (by
          rw [par_len, e9, Int.mul_add]; omega)
        push_cast [b_law_dressed_3, plits, w1, viewW_lst, rep_w, wl_app, wl_len, ee, List.length_append, List.length_replicate, List.length_cons, List.length_nil, ew]
        refine ⟨by omega, ⟨by omega, by omega⟩, by omega, by omega, by omega, ⟨by omega, by omega⟩, by omega, by omega, by omega, ?_⟩
        exact hq
end
end K03

set_option maxRecDepth 100000
set_option maxHeartbeats 4000000
namespace K03
open PySem L2 VL Wd Tm Tw Lw Lr Hd Ln Lt Pm Cd
local macro_rules
  | `(tactic| push_cast [$xs,*]) => `(tactic| try simp only [$xs,*, WpSs, WpS, WpE, WpEs, WpBs, WpO, WpN, WpI, WpC, WpT, getS, setS, tgK, setsS, wipeS, k_add, k_addT, k_sub, k_mul, k_fdiv, k_mod, k_neg, k_lt, k_le, k_gt, k_ge, k_eqI, k_neI, k_eqS, k_neS, k_eqB, k_neB, k_is, k_isn, isNon_non, isNon_int, isNon_str, isNon_lst, isNon_tup, isNon_adr, k_lenS, k_lenL, k_lenR, k_lenT, k_int, k_str, k_abs, tru_bl, augK, ctx_call, ctx_glob, k_in, k_nin, k_inS, k_addS, k_intB, isi_non_int, isi_non_bool, isi_non_str, isi_non_list, isi_non_tuple, isi_bl_int, isi_bl_bool, isi_bl_str, isi_bl_list, isi_bl_tuple, isi_int_int, isi_int_bool, isi_int_str, isi_int_list, isi_int_tuple, isi_str_int, isi_str_bool, isi_str_str, isi_str_list, isi_str_tuple, isi_tup_int, isi_tup_bool, isi_tup_str, isi_tup_list, isi_tup_tuple, isi_lst_int, isi_lst_bool, isi_lst_str, isi_lst_list, isi_lst_tuple, isi_ro_int, isi_ro_bool, isi_ro_str, isi_ro_list, isi_ro_tuple])
theorem sm_pl (p : Pl) : Sm 1 p.av := by
  cases p <;> exact ⟨by simp, by simp [Lw.Sm]⟩
theorem sm_te (t : Te) : Sm 2 t.av := by
  cases t with
  | pl p =>
    cases p <;> exact ⟨by simp, by simp [Lw.Sm]⟩
  | cell w o ix p =>
    refine ⟨by simp, ?_⟩
    intro x hx
    simp only [List.mem_cons, List.not_mem_nil, or_false] at hx
    rcases hx with rfl | rfl | rfl | rfl
    · trivial
    · exact ⟨by simp, by simp [Lw.Sm]⟩
    · exact sm_pl ix
    · trivial
theorem sm_up : ∀ (d : Nat) (x : AV), Lw.Sm d x → Lw.Sm (d + 1) x := by
  intro d
  induction d with
  | zero => intro x h; cases x <;> first | exact h.elim | trivial
  | succ d ih =>
    intro x h
    cases x with
    | tup xs => exact ⟨h.1, fun x hx => ih x (h.2 x hx)⟩
    | bl _ => trivial
    | int _ => trivial
    | str _ => trivial
    | non => trivial
    | lst _ => exact h.elim
    | ro _ => exact h.elim
    | dct _ => exact h.elim
    | adr _ => exact h.elim
theorem sm_cmp (c : Cmp) : Lw.Sm 3 c.av := by
  refine ⟨by simp, ?_⟩
  intro x hx
  simp only [List.mem_cons, List.not_mem_nil, or_false] at hx
  rcases hx with rfl | rfl | rfl | rfl
  · trivial
  · trivial
  · exact sm_te _
  · exact sm_te _
theorem sm_le {d e : Nat} {x : AV} (h : Lw.Sm d x) (he : d ≤ e) : Lw.Sm e x := by
  obtain ⟨k, rfl⟩ : ∃ k, e = d + k := ⟨e - d, by omega⟩
  clear he
  induction k with
  | zero => exact h
  | succ k ih => exact sm_up _ _ ih
theorem sm_good : ∀ (d : Nat) (p : Int) (c : Cn), p ≤ 8 → Good d p c → Lw.Sm (2 * d + 3) c.av
  | d, p, .cmp c, _, _ => by rw [Cn.av]; exact sm_le (sm_cmp c) (by omega)
  | d + 1, p, .no c, p8, g => by
    have g : Good d p c := g
    have := sm_good d p c p8 g
    rw [Cn.av, show 2 * (d + 1) + 3 = (2 * d + 4) + 1 from by omega]
    refine ⟨by simp, fun x hx => ?_⟩
    simp only [List.mem_cons, List.not_mem_nil, or_false] at hx
    rcases hx with rfl | rfl
    · trivial
    · exact sm_le this (by omega)
  | d + 1, p, .bin o cs, p8, g => by
    obtain ⟨l2, g⟩ : 2 ≤ cs.length ∧ Spl (Good d) p cs := g
    have cn := spl_n cs p g
    rw [Cn.av, avs_map, show 2 * (d + 1) + 3 = (2 * d + 4) + 1 from by omega]
    refine ⟨by simp, fun x hx => ?_⟩
    simp only [List.mem_cons, List.not_mem_nil, or_false] at hx
    rcases hx with rfl | rfl
    · trivial
    · refine ⟨by rw [List.length_map]; omega, fun x hx => ?_⟩
      obtain ⟨c, hc, rfl⟩ := List.mem_map.mp hx
      obtain ⟨a, ha, ga⟩ := spl_mem cs p c g hc
      exact sm_good d a c (by omega) ga
end K03

set_option maxRecDepth 100000
set_option maxHeartbeats 4000000
namespace K03
open PySem L2 VL Wd Tm Tw Lw Lr Hd Ln Lt Pm Cd
local macro_rules
  | `(tactic| push_cast [$xs,*]) => `(tactic| try simp only [$xs,*, WpSs, WpS, WpE, WpEs, WpBs, WpO, WpN, WpI, WpC, WpT, getS, setS, tgK, setsS, wipeS, k_add, k_addT, k_sub, k_mul, k_fdiv, k_mod, k_neg, k_lt, k_le, k_gt, k_ge, k_eqI, k_neI, k_eqS, k_neS, k_eqB, k_neB, k_is, k_isn, isNon_non, isNon_int, isNon_str, isNon_lst, isNon_tup, isNon_adr, k_lenS, k_lenL, k_lenR, k_lenT, k_int, k_str, k_abs, tru_bl, augK, ctx_call, ctx_glob, k_in, k_nin, k_inS, k_addS, k_intB, isi_non_int, isi_non_bool, isi_non_str, isi_non_list, isi_non_tuple, isi_bl_int, isi_bl_bool, isi_bl_str, isi_bl_list, isi_bl_tuple, isi_int_int, isi_int_bool, isi_int_str, isi_int_list, isi_int_tuple, isi_str_int, isi_str_bool, isi_str_str, isi_str_list, isi_str_tuple, isi_tup_int, isi_tup_bool, isi_tup_str, isi_tup_list, isi_tup_tuple, isi_lst_int, isi_lst_bool, isi_lst_str, isi_lst_list, isi_lst_tuple, isi_ro_int, isi_ro_bool, isi_ro_str, isi_ro_list, isi_ro_tuple])
theorem chain_all {α : Type} {p : Nat → Option (α × Nat)} {sep : W} {ws : List W} {R : α → Prop} (h : ∀ i c j, p i = some (c, j) → R c) : ∀ f i cs k, chain p sep ws f i = some (cs, k) → cs.length ≤ f ∧ ∀ c ∈ cs, R c
  | 0, i, cs, k, e => by cases e
  | f + 1, i, cs, k, e => by
    unfold chain at e
    split at e
    · cases e
    · rename_i c j hp
      have hr := h _ _ _ hp
      split at e
      · split at e
        · cases e
        · rename_i cs' k' hc
          obtain ⟨h1, h2⟩ := chain_all h f _ _ _ hc
          cases e
          exact ⟨by simp; omega, fun x hx => by rcases List.mem_cons.mp hx with rfl | hx; exact hr; exact h2 x hx⟩
      · cases e
        exact ⟨by simp, fun x hx => by rw [List.mem_singleton.mp hx]; exact hr⟩
theorem join_sm {o : Bool} {p : Nat → Option (Cn × Nat)} {ws : List W} {D : Nat} (hl : ws.length ≤ 90000) (h : ∀ i c j, p i = some (c, j) → Lw.Sm D c.av) : ∀ i c j, joinAt o p ws i = some (c, j) → Lw.Sm (D + 2) c.av := by
  intro i c j e
  obtain ⟨⟨cs, k⟩, h1, h2⟩ := Option.map_eq_some_iff.mp e
  obtain ⟨h3, h4⟩ := chain_all (R := fun c => Lw.Sm D c.av) h _ _ _ _ h1
  cases h2
  have bin : Lw.Sm (D + 2) (Cn.bin o cs).av := by
    rw [Cn.av, avs_map]
    refine ⟨by simp, fun x hx => ?_⟩
    simp only [List.mem_cons, List.not_mem_nil, or_false] at hx
    rcases hx with rfl | rfl
    · trivial
    · refine ⟨by rw [List.length_map]; omega, fun x hx => ?_⟩
      obtain ⟨c, hc, rfl⟩ := List.mem_map.mp hx
      exact h4 c hc
  match cs, h4, bin with
  | [], _, b => exact b
  | [c], h4, _ => exact sm_le (h4 c (by simp)) (by omega)
  | _ :: _ :: _, _, b => exact b
theorem cmpC_sm {ws : List W} : ∀ i c j, cmpC ws i = some (c, j) → Lw.Sm 3 c.av := by
  intro i c j e
  obtain ⟨⟨a, b⟩, h1, h2⟩ := Option.map_eq_some_iff.mp e
  cases h2
  rw [Cn.av]; exact sm_cmp a
theorem part_sm {ws : List W} (hl : ws.length ≤ 90000) : ∀ d i c j, partAt ws d i = some (c, j) → Lw.Sm (3 + 4 * d) c.av := by
  intro d
  induction d with
  | zero =>
    intro i c j e
    unfold partAt at e
    split at e
    · cases e
    · exact cmpC_sm _ _ _ e
  | succ d ih =>
    intro i c j e
    unfold partAt at e
    split at e
    · split at e
      · split at e
        · cases e
        · rename_i c' j' h1
          have := ih _ _ _ h1
          cases e
          rw [Cn.av, show 3 + 4 * (d + 1) = (3 + 4 * d + 3) + 1 from by omega]
          refine ⟨by simp, fun x hx => ?_⟩
          simp only [List.mem_cons, List.not_mem_nil, or_false] at hx
          rcases hx with rfl | rfl
          · trivial
          · exact sm_le this (by omega)
      · split at e
        · cases e
        · rename_i c' j' h1
          have := join_sm hl (join_sm hl ih) _ _ _ h1
          split at e
          · cases e; exact sm_le this (by omega)
          · cases e
    · exact sm_le (cmpC_sm _ _ _ e) (by omega)
theorem cond_sm {ws : List W} (hl : ws.length ≤ 90000) : Lw.Sm 39 (oCv (condOf ws)) := by
  unfold condOf
  cases e : orAt ws 8 0 with
  | none => trivial
  | some r =>
    obtain ⟨c, j⟩ := r
    have := join_sm hl (join_sm hl (part_sm hl 8)) _ _ _ e
    show Lw.Sm 39 (oCv (if j = ws.length then some c else none))
    split
    · exact sm_le this (by omega)
    · trivial
end K03

set_option maxRecDepth 100000
set_option maxHeartbeats 4000000
namespace K03
open PySem L2 VL Wd Tm Tw Lw Lr Hd Ln Lt Pm Cd
local macro_rules
  | `(tactic| push_cast [$xs,*]) => `(tactic| try simp only [$xs,*, WpSs, WpS, WpE, WpEs, WpBs, WpO, WpN, WpI, WpC, WpT, getS, setS, tgK, setsS, wipeS, k_add, k_addT, k_sub, k_mul, k_fdiv, k_mod, k_neg, k_lt, k_le, k_gt, k_ge, k_eqI, k_neI, k_eqS, k_neS, k_eqB, k_neB, k_is, k_isn, isNon_non, isNon_int, isNon_str, isNon_lst, isNon_tup, isNon_adr, k_lenS, k_lenL, k_lenR, k_lenT, k_int, k_str, k_abs, tru_bl, augK, ctx_call, ctx_glob, k_in, k_nin, k_inS, k_addS, k_intB, isi_non_int, isi_non_bool, isi_non_str, isi_non_list, isi_non_tuple, isi_bl_int, isi_bl_bool, isi_bl_str, isi_bl_list, isi_bl_tuple, isi_int_int, isi_int_bool, isi_int_str, isi_int_list, isi_int_tuple, isi_str_int, isi_str_bool, isi_str_str, isi_str_list, isi_str_tuple, isi_tup_int, isi_tup_bool, isi_tup_str, isi_tup_list, isi_tup_tuple, isi_lst_int, isi_lst_bool, isi_lst_str, isi_lst_list, isi_lst_tuple, isi_ro_int, isi_ro_bool, isi_ro_str, isi_ro_list, isi_ro_tuple])
/-- nots ahead of a condition -/
def nots : Nat → Cn → Cn
  | 0, c => c
  | k + 1, c => .no (nots k c)
theorem nots_a {c : Cmp} (b : c.Ok) (all : List W) : ∀ k, Cd.TA all (nots k (.cmp c)) (List.replicate k wNot ++ cmpW c) k
  | 0 => cmp_a b
  | k + 1 => no_a (nots_a b all k)
theorem nots_read {c : Cmp} (b : c.Ok) (k : Nat) : condOf (List.replicate k wNot ++ cmpW c) = if k ≤ 8 then some (nots k (.cmp c)) else none := by
  have := (nots_a b (List.replicate k wNot ++ cmpW c) k).b.c 8 0 [] bh_nil (by simp [At]) (by decide) (by decide)
  unfold condOf
  rw [this]
  unfold rs
  by_cases c1 : k ≤ 8
  · rw [if_pos c1, if_pos c1, Nat.zero_add]
    exact wh_all
  · rw [if_neg c1, if_neg c1]; rfl
theorem nots_sp {c : Cmp} (b : c.Ok) : ∀ k, Tw.Sp (List.replicate k wNot ++ cmpW c) ((List.replicate k (wNot ++ [32])).flatten ++ cmpT c)
  | 0 => by
    have := sp_cmp (ws := []) (l := []) b (.nil (fun _ h => by cases h)) nx_nil
    simpa using this
  | k + 1 => by
    have s := sp_w gd_p.2.2.1.1 (sp_s (nots_sp b k)) nx_sp
    rw [List.replicate_succ, List.replicate_succ, List.flatten_cons]
    simpa using s
end K03

set_option maxRecDepth 100000
set_option maxHeartbeats 4000000
namespace K03
open PySem L2 VL Wd Tm Tw Lw Lr Hd Ln Lt Pm Cd
local macro_rules
  | `(tactic| push_cast [$xs,*]) => `(tactic| try simp only [$xs,*, WpSs, WpS, WpE, WpEs, WpBs, WpO, WpN, WpI, WpC, WpT, getS, setS, tgK, setsS, wipeS, k_add, k_addT, k_sub, k_mul, k_fdiv, k_mod, k_neg, k_lt, k_le, k_gt, k_ge, k_eqI, k_neI, k_eqS, k_neS, k_eqB, k_neB, k_is, k_isn, isNon_non, isNon_int, isNon_str, isNon_lst, isNon_tup, isNon_adr, k_lenS, k_lenL, k_lenR, k_lenT, k_int, k_str, k_abs, tru_bl, augK, ctx_call, ctx_glob, k_in, k_nin, k_inS, k_addS, k_intB, isi_non_int, isi_non_bool, isi_non_str, isi_non_list, isi_non_tuple, isi_bl_int, isi_bl_bool, isi_bl_str, isi_bl_list, isi_bl_tuple, isi_int_int, isi_int_bool, isi_int_str, isi_int_list, isi_int_tuple, isi_str_int, isi_str_bool, isi_str_str, isi_str_list, isi_str_tuple, isi_tup_int, isi_tup_bool, isi_tup_str, isi_tup_list, isi_tup_tuple, isi_lst_int, isi_lst_bool, isi_lst_str, isi_lst_list, isi_lst_tuple, isi_ro_int, isi_ro_bool, isi_ro_str, isi_ro_list, isi_ro_tuple])
section
def Q1 : AV → AHeap → Prop := fun d _ => d = .bl true
abbrev D1 : Kt := { nx := fun _ h => Q1 .non h, rt := Q1 }
variable {a : Nat} {h : AHeap} {ns : List Int}
theorem gd_ws {ws : List W} (h : ∀ w ∈ ws, Gd w) (hl : ws.length ≤ 2000) : L3.Ws ws := ⟨fun w m => (h w m).1, fun w m => (h w m).2, hl⟩
theorem gd_wb {ws : List W} (h : ∀ w ∈ ws, Gd w) : Wb ws := fun w m => ⟨Nat.le_trans (h w m).2 (by decide), isw_ch (h w m).1⟩
theorem rd_l {ws : List W} (h : ∀ w ∈ ws, Gd w) (hh : AHeap) : Rd hh (.lst (wl ws)) ws := ⟨rfl, (fun _ h => by cases h), gd_wb h⟩
theorem strRep_w {w : W} (hw : w ≠ []) (k : Nat) : strRep (mkS w) (k : Int) = mkS (List.replicate k w).flatten := by
  have key : ∀ (k : Nat) (a : Array Nat), (List.replicate k (mkS w).cps).foldl (· ++ ·) a = a ++ (List.replicate k w).flatten.toArray := by
    intro k
    induction k with
    | zero => intro a; simp
    | succ k ih =>
      intro a
      rw [List.replicate_succ, List.foldl_cons, ih, List.replicate_succ, List.flatten_cons]
      apply Array.toList_inj.mp
      simp [mkS]
  unfold strRep
  rw [Int.toNat_natCast]
  by_cases c : (k : Int) < 1
  · rw [if_pos c]
    have : k = 0 := by omega
    subst this; rfl
  · rw [if_neg c]
    by_cases c2 : (((k : Int) == 1 || (mkS w).length == 0) = true)
    · rw [if_pos c2]
      have c3 : (k : Int) = 1 := by
        rcases (Bool.or_eq_true _ _).mp c2 with z | z
        · exact eq_of_beq z
        · rw [mkS_len] at z
          exact absurd (List.length_eq_zero_iff.mp (eq_of_beq z)) hw
      have : k = 1 := by omega
      subst this; simp
    · rw [if_neg c2, key]
      simp [mkS]
theorem oCv_some (c : Cn) : oCv (some c) = c.av := rfl
theorem oCv_none : oCv none = .non := rfl
theorem cond_nil : condOf [] = none := by decide +kernel
theorem nots_av : ∀ k c, (nots (k + 1) c).av = .tup [.str "not", (nots k c).av] := fun k c => by rw [nots, Cn.av]
theorem law_5_ok {ρ : List Slot} (e : ρ.length = 15) : WpSs (ctxOf P (callN P 45)) b_law_5 D1 ρ h := by
  have em : ("" : Str) = mkS [] := lits.2.2.2.2.2.2.2
  push_cast [b_law_5, em]
  refine read_sp (n := 8) (ws := []) (by simp) (by simp) (.nil fun _ h => nomatch h) (fun _ h => nomatch h) fun c' => ?_
  rw [cond_nil]
  rfl
end
end K03

set_option maxRecDepth 100000
set_option maxHeartbeats 4000000
namespace K03
open PySem L2 VL Wd Tm Tw Lw Lr Hd Ln Lt Pm Cd
local macro_rules
  | `(tactic| push_cast [$xs,*]) => `(tactic| try simp only [$xs,*, WpSs, WpS, WpE, WpEs, WpBs, WpO, WpN, WpI, WpC, WpT, getS, setS, tgK, setsS, wipeS, k_add, k_addT, k_sub, k_mul, k_fdiv, k_mod, k_neg, k_lt, k_le, k_gt, k_ge, k_eqI, k_neI, k_eqS, k_neS, k_eqB, k_neB, k_is, k_isn, isNon_non, isNon_int, isNon_str, isNon_lst, isNon_tup, isNon_adr, k_lenS, k_lenL, k_lenR, k_lenT, k_int, k_str, k_abs, tru_bl, augK, ctx_call, ctx_glob, k_in, k_nin, k_inS, k_addS, k_intB, isi_non_int, isi_non_bool, isi_non_str, isi_non_list, isi_non_tuple, isi_bl_int, isi_bl_bool, isi_bl_str, isi_bl_list, isi_bl_tuple, isi_int_int, isi_int_bool, isi_int_str, isi_int_list, isi_int_tuple, isi_str_int, isi_str_bool, isi_str_str, isi_str_list, isi_str_tuple, isi_tup_int, isi_tup_bool, isi_tup_str, isi_tup_list, isi_tup_tuple, isi_lst_int, isi_lst_bool, isi_lst_str, isi_lst_list, isi_lst_tuple, isi_ro_int, isi_ro_bool, isi_ro_str, isi_ro_list, isi_ro_tuple])
section
variable {a : Nat} {h : AHeap} {ns : List Int}
theorem law_7_ok {c : Cn} {d : Nat} {s4 s5 s6 s7 s8 s9 s10 s11 s12 s13 s14 : Slot} (hd : Hnd a h) (d5 : d ≤ 5) (g : Good d 8 c) :
    WpSs (ctxOf P (callN P 45)) b_law_7 D1 [.val (.ro (ns.map AV.int)), .val (.adr a), .val c.av, .val (.str (mkS (tx c))), s4, s5, s6, s7, s8, s9, s10, s11, s12, s13, s14] h := by
  push_cast [b_law_7]
  refine H3.take_ok (n := 44) hd (by decide) fun r h1 x1 hr => ?_
  have er : (4 : Int) + (r : Int) = ((r + 4 : Nat) : Int) := by omega
  have hz := sz1
  push_cast [er]
  refine ⟨by omega, ?_⟩
  refine for_inv (fun i ρ h' => h' = h1 ∧ ∃ s12 : Slot, ρ = [.val (.ro (ns.map AV.int)), .val (.adr a), .val c.av, .val (.str (mkS (tx c))), s4, s5, s6, s7, s8, s9, s10, s11, s12, .val (nots i c).av, .val (.int ((r + 4 : Nat) : Int))])
    ⟨rfl, _, rfl⟩ (fun _ _ _ _ _ => by trivial) ?_ ?_
  · rintro i x _ h3 D' hx ⟨rfl, s12, rfl⟩ kn kc kr kb
    push_cast [b_law_3]
    rw [← nots_av]
    exact ⟨le2, kn _ _ ⟨rfl, _, rfl⟩⟩
  · rintro _ h3 ⟨rfl, s12, rfl⟩
    rw [show (List.map (fun (k : Nat) => AV.int (k : Int)) (List.range (((r + 4 : Nat) : Int)).toNat)).length = r + 4 by simp; omega]
    push_cast [b_law_6, hlits]
    refine tag_subC ?_
    push_cast [mkS_eq]
    cases c with
    | cmp c =>
      have b : c.Ok := by cases d <;> exact g.1
      have tl := good_len d5 (by decide) g
      have et : tx (.cmp c) = cmpT c := by rw [tx]
      rw [et] at tl ⊢
      have ci : (tagC (.cmp c) = wCmp) = True := eq_true rfl
      have n4 : (wNot ++ [32]) ≠ [] := by decide
      have nl : (wNot ++ [32]).length = 4 := by decide
      have fl : ((List.replicate (r + 4) (wNot ++ [32])).flatten).length = (r + 4) * 4 := by simp [nl]
      have nr := nots_read b (r + 4)
      have cl := cmpW_len c
      have gw : ∀ w ∈ List.replicate (r + 4) wNot ++ cmpW c, Gd w := by
        intro w m
        rcases List.mem_append.mp m with m | m
        · rw [(List.mem_replicate.mp m).2]; exact gd_p.2.2.1
        · exact gd_cmp b w m
      have go : ∀ s13, WpSs (ctxOf P (callN P 45)) b_law_4 { nx := fun ρ h => WpSs (ctxOf P (callN P 45)) b_law_5 D1 ρ h, rt := Q1 } [.val (.ro (ns.map AV.int)), .val (.adr a), .val (Cn.cmp c).av, .val (.str (mkS (cmpT c))), s4, s5, .val (oCv (condOf (List.replicate (r + 4) wNot ++ cmpW c))), s7, s8, s9, s10, s11, s12, s13, .val (.int ((r + 4 : Nat) : Int))] h3 := by
        intro s13
        push_cast [b_law_4, hlits, k_mulS, strRep_w n4, Int.toNat_natCast, mkS_len, mkS_app, nl, List.length_append, fl]
        refine ⟨⟨by omega, by omega, by omega⟩, by omega, ?_⟩
        refine read_sp (n := 8) (by rw [List.length_append, fl]; omega) (by simp; omega) (nots_sp b _) gw fun c' => ?_
        refine same_ok (n := 5) 39 _ (cond_sm (by simp; omega)) ?_
        push_cast [Bool.not_true, Bool.false_eq_true, if_false]
        exact law_5_ok rfl
      push_cast [ci, decide_true, if_true]
      refine ite_b (fun c8 => ?_) (fun c8 => ?_)
      · have : condOf (List.replicate (r + 4) wNot ++ cmpW c) = none := by rw [nr, if_neg (by omega)]
        have go := go (.val (nots (r + 4) (.cmp c)).av)
        rw [this, oCv_none] at go
        exact go
      · have : condOf (List.replicate (r + 4) wNot ++ cmpW c) = some (nots (r + 4) (.cmp c)) := by rw [nr, if_pos (by omega)]
        have go := go (.val (nots (r + 4) (.cmp c)).av)
        rw [this, oCv_some] at go
        exact go
    | no c =>
      have ci : (tagC (.no c) = wCmp) = False := eq_false (by show ¬ wNot = wCmp; decide)
      push_cast [ci, decide_false, Bool.false_eq_true, if_false]
      exact law_5_ok rfl
    | bin o c =>
      have ci : (tagC (.bin o c) = wCmp) = False := eq_false (by show ¬ kW o = wCmp; cases o <;> decide)
      push_cast [ci, decide_false, Bool.false_eq_true, if_false]
      exact law_5_ok rfl
end
end K03

set_option maxRecDepth 100000
set_option maxHeartbeats 4000000
namespace K03
open PySem L2 VL Wd Tm Tw Lw Lr Hd Ln Lt Pm Cd
local macro_rules
  | `(tactic| push_cast [$xs,*]) => `(tactic| try simp only [$xs,*, WpSs, WpS, WpE, WpEs, WpBs, WpO, WpN, WpI, WpC, WpT, getS, setS, tgK, setsS, wipeS, k_add, k_addT, k_sub, k_mul, k_fdiv, k_mod, k_neg, k_lt, k_le, k_gt, k_ge, k_eqI, k_neI, k_eqS, k_neS, k_eqB, k_neB, k_is, k_isn, isNon_non, isNon_int, isNon_str, isNon_lst, isNon_tup, isNon_adr, k_lenS, k_lenL, k_lenR, k_lenT, k_int, k_str, k_abs, tru_bl, augK, ctx_call, ctx_glob, k_in, k_nin, k_inS, k_addS, k_intB, isi_non_int, isi_non_bool, isi_non_str, isi_non_list, isi_non_tuple, isi_bl_int, isi_bl_bool, isi_bl_str, isi_bl_list, isi_bl_tuple, isi_int_int, isi_int_bool, isi_int_str, isi_int_list, isi_int_tuple, isi_str_int, isi_str_bool, isi_str_str, isi_str_list, isi_str_tuple, isi_tup_int, isi_tup_bool, isi_tup_str, isi_tup_list, isi_tup_tuple, isi_lst_int, isi_lst_bool, isi_lst_str, isi_lst_list, isi_lst_tuple, isi_ro_int, isi_ro_bool, isi_ro_str, isi_ro_list, isi_ro_tuple])
section
variable {a : Nat} {h : AHeap} {ns : List Int}
theorem law_8_ok {c : Cn} {d : Nat} {ws : List W} {e : Int} {s4 s5 s6 s8 s9 s10 s11 s12 s13 s14 : Slot} (hd : Hnd a h) (d5 : d ≤ 5) (g : Good d 8 c) (hw : ∀ w ∈ ws, Gd w) (h0 : 0 < ws.length) (hl : ws.length ≤ 1940) :
    WpSs (ctxOf P (callN P 45)) b_law_8 D1 [.val (.ro (ns.map AV.int)), .val (.adr a), .val c.av, .val (.str (mkS (tx c))), s4, s5, s6, .val (.lst [.lst (wl ws), .int e]), s8, s9, s10, s11, s12, s13, s14] h := by
  push_cast [b_law_8]
  refine k_l0 ?_
  refine ⟨by decide, ?_⟩
  refine for_inv (fun i ρ h' => Hx a h h' ∧ ∃ (vs : List W) (s12 : Slot), ρ = [.val (.ro (ns.map AV.int)), .val (.adr a), .val c.av, .val (.str (mkS (tx c))), s4, s5, s6, .val (.lst [.lst (wl ws), .int e]), s8, s9, s10, .val (.lst (wl vs)), s12, s13, s14] ∧ (∀ w ∈ vs, Gd w) ∧ 0 < vs.length ∧ vs.length ≤ 1940 + 4 * i)
    ⟨.refl hd, ws, _, rfl, hw, h0, hl⟩ (fun _ _ _ _ _ => by trivial) ?_ ?_
  · rintro i x _ h1 D' hx ⟨x1, vs, s12, rfl, hv, v0, vl⟩ kn kc kr kb
    obtain ⟨hi, rfl⟩ := items_range hx
    have hi : i < 3 := hi
    push_cast [b_law_2]
    refine spoilt_ok (n := 43) x1.hand v0 hv (by omega) fun us h2 x2 hu ul => ?_
    have x12 := x1.trans x2
    push_cast [WpSs]
    refine L3.spaced_ok (n := 42) x12.hand (fun h' _ => rd_l hu h') (gd_ws hu (by omega)) fun l h3 x3 sp lz => ?_
    refine read_sp (n := 8) (by omega) (by omega) sp hu fun c' => ?_
    refine read_condition_ok (n := 11) (rd_l hu _) (by omega) ?_
    refine same_ok (n := 5) 39 _ (cond_sm (by omega)) ?_
    push_cast [Bool.not_true, Bool.false_eq_true, if_false, b_law_1, k_lenL, wl_len]
    refine ite_b (fun c => ?_) (fun c => ?_)
    · exact kr _ _ rfl
    · refine kn _ _ ⟨(x12.trans x3).trans (.app x3.hand [_]), us, _, rfl, hu, by omega, by omega⟩
  · rintro _ h1 ⟨x1, vs, s12, rfl, hv, v0, vl⟩
    exact law_7_ok x1.hand d5 g
end
end K03

set_option maxRecDepth 100000
set_option maxHeartbeats 4000000
namespace K03
open PySem L2 VL Wd Tm Tw Lw Lr Hd Ln Lt Pm Cd
local macro_rules
  | `(tactic| push_cast [$xs,*]) => `(tactic| try simp only [$xs,*, WpSs, WpS, WpE, WpEs, WpBs, WpO, WpN, WpI, WpC, WpT, getS, setS, tgK, setsS, wipeS, k_add, k_addT, k_sub, k_mul, k_fdiv, k_mod, k_neg, k_lt, k_le, k_gt, k_ge, k_eqI, k_neI, k_eqS, k_neS, k_eqB, k_neB, k_is, k_isn, isNon_non, isNon_int, isNon_str, isNon_lst, isNon_tup, isNon_adr, k_lenS, k_lenL, k_lenR, k_lenT, k_int, k_str, k_abs, tru_bl, augK, ctx_call, ctx_glob, k_in, k_nin, k_inS, k_addS, k_intB, isi_non_int, isi_non_bool, isi_non_str, isi_non_list, isi_non_tuple, isi_bl_int, isi_bl_bool, isi_bl_str, isi_bl_list, isi_bl_tuple, isi_int_int, isi_int_bool, isi_int_str, isi_int_list, isi_int_tuple, isi_str_int, isi_str_bool, isi_str_str, isi_str_list, isi_str_tuple, isi_tup_int, isi_tup_bool, isi_tup_str, isi_tup_list, isi_tup_tuple, isi_lst_int, isi_lst_bool, isi_lst_str, isi_lst_list, isi_lst_tuple, isi_ro_int, isi_ro_bool, isi_ro_str, isi_ro_list, isi_ro_tuple])
section
variable {a : Nat} {h : AHeap} {ns : List Int}
theorem law_10_ok {c : Cn} {d : Nat} {ws : List W} {e : Int} {s4 s5 s6 s8 s9 s10 s11 s12 s13 s14 : Slot} (hd : Hnd a h) (d5 : d ≤ 5) (g : Good d 8 c) (hw : ∀ w ∈ ws, Gd w) (h0 : 0 < ws.length) (hl : ws.length ≤ 1940) :
    WpSs (ctxOf P (callN P 45)) b_law_10 D1 [.val (.ro (ns.map AV.int)), .val (.adr a), .val c.av, .val (.str (mkS (tx c))), s4, s5, s6, .val (.lst [.lst (wl ws), .int e]), s8, s9, s10, s11, s12, s13, s14] h := by
  have hz := sz1
  have sl := strange_len
  have tl := good_len d5 (by decide) g
  generalize el : tx c = l at tl ⊢
  push_cast [b_law_10, mkS_len]
  refine ⟨by omega, ?_⟩
  refine H3.take_ok (n := 44) hd (by omega) fun k h1 x1 hk => ?_
  push_cast [strange_eq, mkS_len]
  refine ⟨by omega, ?_⟩
  refine H3.take_ok (n := 44) x1.hand (by omega) fun r h2 x2 hr => ?_
  have hr2 : r < strange.length := by omega
  refine k_subS (k := r) (c := strange[r]) (by rw [mkS_len]; omega) (List.getElem?_eq_getElem hr2) ?_
  have sc : (⟨#[strange[r]]⟩ : Str) = mkS [strange[r]] := rfl
  have c1 : cutS (mkS l) none (some (k : Int)) = mkS (l.take k) := (cutS_mk _ _ _).trans (by rw [cut_ns])
  have c2 : cutS (mkS l) (some (k : Int)) none = mkS (l.drop k) := (cutS_mk _ _ _).trans (by rw [cut_sn])
  have c3 : cutS (mkS l) (some (k : Int)) (some ((k + 1 : Nat) : Int)) = mkS ((l.drop k).take 1) := (cutS_mk _ _ _).trans (by rw [cut_ss, Nat.add_sub_cancel_left])
  have ex : ("!" : Str) = mkS [33] ∧ ("=" : Str) = mkS [61] ∧ ("A" : Str) = mkS [65] := by decide +kernel
  -- with the sign that is put in
  have go : ∀ z : Nat, z ∈ strange → ¬ (z = 33 ∧ l[k]? = some 61) → WpSs (ctxOf P (callN P 45)) b_law_9 D1 [.val (.ro (ns.map AV.int)), .val (.adr a), .val c.av, .val (.str (mkS l)), s4, s5, s6, .val (.lst [.lst (wl ws), .int e]), .val (.int (k : Int)), .val (.str (mkS strange)), .val (.str (mkS [z])), s11, s12, s13, s14] h2 := by
    intro z hc hn
    push_cast [b_law_9, k_sliceS, c1, c2, mkS_len, mkS_app, List.length_append, List.length_take, List.length_drop, List.length_cons, List.length_nil]
    refine ⟨by omega, by omega, by omega, by omega, ?_⟩
    refine read_ok' (n := 8) (by simp; omega) (fun _ c' => ?_) (fun us tk => absurd tk (foreign k hc hn))
    push_cast [isNon_non, Bool.not_true, Bool.false_eq_true, if_false]
    rw [← el]
    exact law_8_ok ((x1.trans x2).trans (.app x2.hand [c'])).hand d5 g hw h0 hl
  have k1 : (k : Int) + 1 = ((k + 1 : Nat) : Int) := by omega
  push_cast [sc, ex, mkS_eq]
  by_cases cc : strange[r] = 33
  · have d : decide ([strange[r]] = ([33] : W)) = true := decide_eq_true (by rw [cc])
    push_cast [d, if_true, k_sliceS, k1, c3, mkS_len, mkS_eq]
    refine ⟨by omega, ?_⟩
    refine ite_b (fun c => ?_) (fun c => ?_)
    · push_cast [ex]
      exact go 65 (by decide +kernel) (by rintro ⟨z, _⟩; cases z)
    · refine go _ (List.getElem_mem hr2) ?_
      rintro ⟨_, z⟩
      apply c
      have hk2 : k < l.length := (List.getElem?_eq_some_iff.mp z).1
      rw [List.drop_eq_getElem_cons hk2]
      have : l[k] = 61 := (List.getElem?_eq_some_iff.mp z).2
      rw [this]; rfl
  · have d : decide ([strange[r]] = ([33] : W)) = false := decide_eq_false (by intro z; exact cc (List.cons.inj z).1)
    push_cast [d, Bool.false_eq_true, if_false]
    exact go _ (List.getElem_mem hr2) fun z => cc z.1
end
end K03

set_option maxRecDepth 100000
set_option maxHeartbeats 4000000
namespace K03
open PySem L2 VL Wd Tm Tw Lw Lr Hd Ln Lt Pm Cd
local macro_rules
  | `(tactic| push_cast [$xs,*]) => `(tactic| try simp only [$xs,*, WpSs, WpS, WpE, WpEs, WpBs, WpO, WpN, WpI, WpC, WpT, getS, setS, tgK, setsS, wipeS, k_add, k_addT, k_sub, k_mul, k_fdiv, k_mod, k_neg, k_lt, k_le, k_gt, k_ge, k_eqI, k_neI, k_eqS, k_neS, k_eqB, k_neB, k_is, k_isn, isNon_non, isNon_int, isNon_str, isNon_lst, isNon_tup, isNon_adr, k_lenS, k_lenL, k_lenR, k_lenT, k_int, k_str, k_abs, tru_bl, augK, ctx_call, ctx_glob, k_in, k_nin, k_inS, k_addS, k_intB, isi_non_int, isi_non_bool, isi_non_str, isi_non_list, isi_non_tuple, isi_bl_int, isi_bl_bool, isi_bl_str, isi_bl_list, isi_bl_tuple, isi_int_int, isi_int_bool, isi_int_str, isi_int_list, isi_int_tuple, isi_str_int, isi_str_bool, isi_str_str, isi_str_list, isi_str_tuple, isi_tup_int, isi_tup_bool, isi_tup_str, isi_tup_list, isi_tup_tuple, isi_lst_int, isi_lst_bool, isi_lst_str, isi_lst_list, isi_lst_tuple, isi_ro_int, isi_ro_bool, isi_ro_str, isi_ro_list, isi_ro_tuple])
section
variable {a : Nat} {h : AHeap} {ns : List Int}
theorem law_14_ok {c : Cn} {d : Nat} {ws : List W} {e : Nat} {s4 s6 s7 s8 s9 s10 s11 s12 s13 s14 : Slot} (hd : Hnd a h) (d5 : d ≤ 5) (g : Good d 8 c) (z : Dz 0 false c ws e) (hl : ws.length ≤ 1940) :
    WpSs (ctxOf P (callN P 45)) b_law_14 D1 [.val (.ro (ns.map AV.int)), .val (.adr a), .val c.av, .val (.str (mkS (tx c))), s4, .val (.lst [.lst (wl ws), .int (e : Int)]), s6, s7, s8, s9, s10, s11, s12, s13, s14] h := by
  have tl := good_len d5 (by decide) g
  have sp : Tw.Sp ws (tx c) := by
    have := z.sp rfl (by decide) [] [] (.nil fun _ h => nomatch h) nx_nil
    simpa [wr] using this
  have sm : ∀ {vs : List W} {k : Nat} {more : Bool} {e : Nat}, Dz k more c vs e → vs.length ≤ 1940 → Lw.Sm 39 (oCv (condOf vs)) := fun _ l => cond_sm (by omega)
  have r1 := dz_read z
  -- behind the first depth
  have go12 : ∀ s6 : Slot, ∀ h1, Hnd a h1 → WpSs (ctxOf P (callN P 45)) b_law_12 D1 [.val (.ro (ns.map AV.int)), .val (.adr a), .val c.av, .val (.str (mkS (tx c))), s4, .val (.lst [.lst (wl ws), .int (e : Int)]), s6, s7, s8, s9, s10, s11, s12, s13, s14] h1 := by
    intro s6 h1 hd1
    push_cast [b_law_12]
    refine many_ok (n := 43) hd1 fun k0 h2 x2 hk0 => ?_
    have dr := dressed_ok (P := P) (a := a) d d5 (40 - d) 8 c k0 true h2
    rw [show 40 - d + d + 5 = 45 by omega] at dr
    refine dr _ (by decide) g hk0 x2.hand fun vs e2 h3 x3 z2 vl => ?_
    have vl : vs.length ≤ 1940 := by
      have : (8 : Int) * (57 + 37 * (d : Int)) ≤ 8 * (57 + 37 * 5) := by omega
      omega
    have r2 := dz_read z2
    have v0 := dz_pos z2
    push_cast [WpSs]
    have go11 : WpSs (ctxOf P (callN P 45)) b_law_11 D1 [.val (.ro (ns.map AV.int)), .val (.adr a), .val c.av, .val (.str (mkS (tx c))), s4, .val (.lst [.lst (wl ws), .int (e : Int)]), .val (oCv (condOf vs)), .val (.lst [.lst (wl vs), .int (e2 : Int)]), s8, s9, s10, s11, s12, s13, s14] h3 := by
      push_cast [b_law_11]
      refine k_l0 ?_
      refine L3.spaced_ok (n := 42) x3.hand (fun h' _ => rd_l z2.gd h') (gd_ws z2.gd (by omega)) fun l h4 x4 sp4 lz => ?_
      refine read_sp (n := 8) (by omega) (by omega) sp4 z2.gd fun c' => ?_
      refine same_ok (n := 5) 39 _ (sm z2 vl) ?_
      push_cast [Bool.not_true, Bool.false_eq_true, if_false]
      exact law_10_ok ((Hx.app x4.hand [c']).hand) d5 g z2.gd v0 vl
    refine k_l1 ?_
    push_cast [WpSs]
    refine ite_b (fun c8 => ?_) (fun c8 => ?_)
    · rw [if_neg (by omega)] at r2
      rw [r2, oCv_none] at go11
      exact go11
    · rw [if_pos (by omega)] at r2
      rw [r2, oCv_some] at go11
      exact go11
  have go13 : WpSs (ctxOf P (callN P 45)) b_law_13 D1 [.val (.ro (ns.map AV.int)), .val (.adr a), .val c.av, .val (.str (mkS (tx c))), s4, .val (.lst [.lst (wl ws), .int (e : Int)]), .val (oCv (condOf ws)), s7, s8, s9, s10, s11, s12, s13, s14] h := by
    push_cast [b_law_13]
    refine read_sp (n := 8) (by omega) (by omega) sp z.gd fun c' => ?_
    refine same_ok (n := 5) 39 _ (sm z hl) ?_
    push_cast [Bool.not_true, Bool.false_eq_true, if_false]
    refine k_l0 ?_
    have hd2 := (Hx.app hd [c']).hand
    refine L3.spaced_ok (n := 42) hd2 (fun h' _ => rd_l z.gd h') (gd_ws z.gd (by omega)) fun l h4 x4 sp4 lz => ?_
    refine read_sp (n := 8) (by omega) (by omega) sp4 z.gd fun c2 => ?_
    refine same_ok (n := 5) 39 _ (sm z hl) ?_
    push_cast [Bool.not_true, Bool.false_eq_true, if_false]
    exact go12 _ _ (Hx.app x4.hand [c2]).hand
  push_cast [b_law_14]
  refine k_l1 ?_
  push_cast [WpSs]
  refine ite_b (fun c8 => ?_) (fun c8 => ?_)
  · rw [if_neg (by omega)] at r1
    rw [r1, oCv_none] at go13
    exact go13
  · rw [if_pos (by omega)] at r1
    rw [r1, oCv_some] at go13
    exact go13
end
end K03

set_option maxRecDepth 100000
set_option maxHeartbeats 4000000
namespace K03
open PySem L2 VL Wd Tm Tw Lw Lr Hd Ln Lt Pm Cd
local macro_rules
  | `(tactic| push_cast [$xs,*]) => `(tactic| try simp only [$xs,*, WpSs, WpS, WpE, WpEs, WpBs, WpO, WpN, WpI, WpC, WpT, getS, setS, tgK, setsS, wipeS, k_add, k_addT, k_sub, k_mul, k_fdiv, k_mod, k_neg, k_lt, k_le, k_gt, k_ge, k_eqI, k_neI, k_eqS, k_neS, k_eqB, k_neB, k_is, k_isn, isNon_non, isNon_int, isNon_str, isNon_lst, isNon_tup, isNon_adr, k_lenS, k_lenL, k_lenR, k_lenT, k_int, k_str, k_abs, tru_bl, augK, ctx_call, ctx_glob, k_in, k_nin, k_inS, k_addS, k_intB, isi_non_int, isi_non_bool, isi_non_str, isi_non_list, isi_non_tuple, isi_bl_int, isi_bl_bool, isi_bl_str, isi_bl_list, isi_bl_tuple, isi_int_int, isi_int_bool, isi_int_str, isi_int_list, isi_int_tuple, isi_str_int, isi_str_bool, isi_str_str, isi_str_list, isi_str_tuple, isi_tup_int, isi_tup_bool, isi_tup_str, isi_tup_list, isi_tup_tuple, isi_lst_int, isi_lst_bool, isi_lst_str, isi_lst_list, isi_lst_tuple, isi_ro_int, isi_ro_bool, isi_ro_str, isi_ro_list, isi_ro_tuple])
section
variable {a : Nat} {h : AHeap} {ns : List Int}
theorem law_pure : ∀ ns : List Int, ns.length ≤ 63 → callN P 46 112 [.ro (ns.map AV.int)] [] fun d _ => d = .bl true := by
  intro ns hn
  refine call_of U.f_law rfl ?_
  show WpSs (ctxOf P (callN P 45)) b_law D1 [.val (.ro (ns.map AV.int)), .no, .no, .no, .no, .no, .no, .no, .no, .no, .no, .no, .no, .no, .no] []
  push_cast [b_law]
  refine H3.draws_ok (m := 1400) hn (by decide) fun ds hd => ?_
  refine ⟨le2, ?_⟩
  have h0 : Hnd 0 ([] ++ [.lst [.lst (ds.map AV.int), .int 0]]) := ⟨ds, 0, rfl⟩
  show callN P 45 92 [.adr 0, .int 5] _ _
  refine H3.take_ok h0 (by decide) fun r h1 x1 hr => ?_
  have er : (1 : Int) + (r : Int) = ((r + 1 : Nat) : Int) := by omega
  push_cast [er]
  have d5 : r + 1 ≤ 5 := by omega
  generalize ed : r + 1 = d at d5 ⊢
  have t := tree_ok (P := P) (a := 0) d (42 - d) 8 h1
  rw [show 42 - d + d + 3 = 45 by omega] at t
  refine t _ (by decide) (by decide) x1.hand fun c h2 x2 g => ?_
  have ct := condition_text_ok (P := P) (h := h2) d d5 (41 - d) 8 c
  rw [show 41 - d + d + 4 = 45 by omega] at ct
  refine ct _ (by decide) g ?_
  have wt := write_condition_ok (P := P) (h := h2) d d5 (41 - 2 * d) 8 c
  rw [show 41 - 2 * d + 2 * d + 4 = 45 by omega] at wt
  refine wt _ (by decide) g ?_
  have dr := dressed_ok (P := P) (a := 0) d d5 (40 - d) 8 c 0 false h2
  rw [show 40 - d + d + 5 = 45 by omega] at dr
  refine dr _ (by decide) g (by decide) x2.hand fun ws e h3 x3 z vl => ?_
  have vl : ws.length ≤ 1940 := by
    have : (8 : Int) * (57 + 37 * (d : Int)) ≤ 8 * (57 + 37 * 5) := by omega
    omega
  push_cast [isi_str_str, Bool.not_true, Bool.false_eq_true, if_false, decide_true, mkS_eq]
  exact law_14_ok x3.hand d5 g z vl
end
end K03

set_option maxRecDepth 100000
set_option maxHeartbeats 4000000
namespace K03
open PySem L2 VL
def T : Tab where
  fname := fun f => ([(0, ("behind_run" : Str)), (1, ("sign_at" : Str)), (2, ("behind_word" : Str)), (3, ("split_row" : Str)), (4, ("is_name" : Str)), (5, ("is_number" : Str)), (6, ("word_at" : Str)), (7, ("whole" : Str)), (8, ("signed_at" : Str)), (9, ("plus_at" : Str)), (10, ("named_at" : Str)), (11, ("plain_at" : Str)), (12, ("list_at" : Str)), (13, ("cell_at" : Str)), (14, ("term_at" : Str)), (15, ("write_plus" : Str)), (16, ("write_list" : Str)), (17, ("write_term" : Str)), (21, ("_law_letters" : Str)), (22, ("_law_list_text" : Str)), (23, ("_law_joins" : Str)), (24, ("_law_same" : Str)), (25, ("_law_reserved" : Str)), (26, ("_law_is_name" : Str)), (27, ("_law_is_number" : Str)), (28, ("_law_list_words" : Str)), (29, ("_law_word" : Str)), (30, ("_law_read_plus" : Str)), (31, ("_law_read_plain" : Str)), (32, ("_law_read_list" : Str)), (49, ("comparison_at" : Str)), (50, ("write_part" : Str)), (51, ("write_condition" : Str)), (86, ("part_at" : Str)), (87, ("joined" : Str)), (88, ("and_at" : Str)), (89, ("or_at" : Str)), (90, ("condition_of" : Str)), (91, ("_law_draws" : Str)), (92, ("_law_take" : Str)), (93, ("_law_plus_words" : Str)), (94, ("_law_words_of" : Str)), (95, ("_law_plus_text" : Str)), (96, ("_law_text" : Str)), (97, ("_law_spaced" : Str)), (98, ("_law_read" : Str)), (99, ("read_condition" : Str)), (100, ("_law_simple" : Str)), (101, ("_law_tree" : Str)), (102, ("_law_needs" : Str)), (103, ("_law_condition_text" : Str)), (104, ("_law_spoilt" : Str)), (105, ("_law_many" : Str)), (106, ("_law_dressed" : Str)), (107, ("_law_read_cmp" : Str)), (108, ("_law_read_not" : Str)), (109, ("_law_read_and" : Str)), (110, ("_law_read_or" : Str)), (111, ("_law_read_condition" : Str)), (112, ("law" : Str))] : List (Nat × Str)).lookup f
  gname := fun g => (([(1, ("LETTERS" : Str)), (2, ("FIGURES" : Str)), (0, ("SIGNS" : Str)), (3, ("RESERVED" : Str)), (4, ("MOST_LETTERS" : Str)), (5, ("MOST_FIGURES" : Str)), (6, ("COMPARING" : Str)), (7, ("MOST_OPEN" : Str))] : List (Nat × Str)).lookup g).getD ""
  cname := fun c => ([] : List (Nat × Str)).lookup c
def top (i : Nat) : Stmt := PySem.Challenge.pw_swornrun_k03_conditions_read_back.main.body.getD i (.Pass ⟨0, 0, 0, 0⟩)
def t0 : FnT := ⟨"behind_run", top 7, ["text", "start", "signs", "end"], ["text", "start", "signs"]⟩
def t1 : FnT := ⟨"sign_at", top 8, ["text", "start", "sign"], ["text", "start"]⟩
def t2 : FnT := ⟨"behind_word", top 9, ["text", "start"], ["text", "start"]⟩
def t3 : FnT := ⟨"split_row", top 10, ["text", "words", "start", "end"], ["text"]⟩
def t4 : FnT := ⟨"is_name", top 11, ["word"], ["word"]⟩
def t5 : FnT := ⟨"is_number", top 12, ["word"], ["word"]⟩
def t6 : FnT := ⟨"word_at", top 16, ["words", "at"], ["words", "at"]⟩
def t7 : FnT := ⟨"whole", top 17, ["read", "words"], ["read", "words"]⟩
def t8 : FnT := ⟨"signed_at", top 18, ["words", "at"], ["words", "at"]⟩
def t9 : FnT := ⟨"plus_at", top 19, ["words", "at"], ["words", "at"]⟩
def t10 : FnT := ⟨"named_at", top 20, ["kind", "words", "at", "name", "plus"], ["kind", "words", "at"]⟩
def t11 : FnT := ⟨"plain_at", top 21, ["words", "at", "number"], ["words", "at"]⟩
def t12 : FnT := ⟨"list_at", top 22, ["words", "at"], ["words", "at"]⟩
def t13 : FnT := ⟨"cell_at", top 23, ["words", "at", "found", "index", "plus"], ["words", "at"]⟩
def t14 : FnT := ⟨"term_at", top 24, ["words", "at", "found"], ["words", "at"]⟩
def t15 : FnT := ⟨"write_plus", top 32, ["plus"], ["plus"]⟩
def t16 : FnT := ⟨"write_list", top 33, ["told"], ["told"]⟩
def t17 : FnT := ⟨"write_term", top 34, ["term"], ["term"]⟩
def t21 : FnT := ⟨"_law_letters", top 40, [], []⟩
def t22 : FnT := ⟨"_law_list_text", top 50, ["_law_reference"], ["_law_reference"]⟩
def t23 : FnT := ⟨"_law_joins", top 54, ["_law_left", "_law_right"], ["_law_left", "_law_right"]⟩
def t24 : FnT := ⟨"_law_same", top 62, ["_law_found", "_law_expected", "_law_at"], ["_law_found", "_law_expected"]⟩
def t25 : FnT := ⟨"_law_reserved", top 41, ["_law_words"], []⟩
def t26 : FnT := ⟨"_law_is_name", top 42, ["_law_word_here", "_law_char"], ["_law_word_here"]⟩
def t27 : FnT := ⟨"_law_is_number", top 43, ["_law_word_here", "_law_char"], ["_law_word_here"]⟩
def t28 : FnT := ⟨"_law_list_words", top 47, ["_law_reference"], ["_law_reference"]⟩
def t29 : FnT := ⟨"_law_word", top 57, ["_law_words", "_law_at"], ["_law_words", "_law_at"]⟩
def t30 : FnT := ⟨"_law_read_plus", top 58, ["_law_words", "_law_at"], ["_law_words", "_law_at"]⟩
def t31 : FnT := ⟨"_law_read_plain", top 59, ["_law_words", "_law_at", "_law_kind", "_law_word_here", "_law_found"], ["_law_words", "_law_at"]⟩
def t32 : FnT := ⟨"_law_read_list", top 60, ["_law_words", "_law_at", "_law_first"], ["_law_words", "_law_at"]⟩
def t49 : FnT := ⟨"comparison_at", top 25, ["words", "at", "left", "right"], ["words", "at"]⟩
def t50 : FnT := ⟨"write_part", top 35, ["condition", "wrapped"], ["condition", "wrapped"]⟩
def t51 : FnT := ⟨"write_condition", top 36, ["condition", "part"], ["condition"]⟩
def t86 : FnT := ⟨"part_at", top 26, ["words", "at", "opened", "word", "part"], ["words", "at", "opened"]⟩
def t87 : FnT := ⟨"joined", top 27, ["word", "parts"], ["word", "parts"]⟩
def t88 : FnT := ⟨"and_at", top 28, ["words", "at", "opened", "part", "parts"], ["words", "at", "opened"]⟩
def t89 : FnT := ⟨"or_at", top 29, ["words", "at", "opened", "part", "parts"], ["words", "at", "opened"]⟩
def t90 : FnT := ⟨"condition_of", top 30, ["words"], ["words"]⟩
def t91 : FnT := ⟨"_law_draws", top 38, ["_law_script", "_law_many_here", "_law_rests", "_law_draws_here", "_law_k", "_law_cell", "_law_at", "_law_mixed"], ["_law_script", "_law_many_here"]⟩
def t92 : FnT := ⟨"_law_take", top 39, ["_law_hand", "_law_many_here", "_law_at", "_law_draws_here"], ["_law_hand", "_law_many_here"]⟩
def t93 : FnT := ⟨"_law_plus_words", top 46, ["_law_plus"], ["_law_plus"]⟩
def t94 : FnT := ⟨"_law_words_of", top 48, ["_law_term"], ["_law_term"]⟩
def t95 : FnT := ⟨"_law_plus_text", top 49, ["_law_plus"], ["_law_plus"]⟩
def t96 : FnT := ⟨"_law_text", top 51, ["_law_term"], ["_law_term"]⟩
def t97 : FnT := ⟨"_law_spaced", top 55, ["_law_hand", "_law_words", "_law_text_here", "_law_at", "_law_many_here"], ["_law_hand", "_law_words"]⟩
def t98 : FnT := ⟨"_law_read", top 61, ["_law_words", "_law_at", "_law_found", "_law_index", "_law_plus"], ["_law_words", "_law_at"]⟩
def t99 : FnT := ⟨"read_condition", top 31, ["text", "words"], ["text"]⟩
def t100 : FnT := ⟨"_law_simple", top 44, ["_law_hand", "_law_kind", "_law_plus", "_law_index"], ["_law_hand"]⟩
def t101 : FnT := ⟨"_law_tree", top 45, ["_law_hand", "_law_depth", "_law_purse", "_law_kind", "_law_sign", "_law_many_here", "_law_purses", "_law_parts", "_law_one"], ["_law_hand", "_law_depth", "_law_purse"]⟩
def t102 : FnT := ⟨"_law_needs", top 52, ["_law_word_here", "_law_part"], ["_law_word_here", "_law_part"]⟩
def t103 : FnT := ⟨"_law_condition_text", top 53, ["_law_condition", "_law_parts", "_law_texts", "_law_part", "_law_text_here"], ["_law_condition"]⟩
def t104 : FnT := ⟨"_law_spoilt", top 56, ["_law_hand", "_law_words", "_law_odd", "_law_at", "_law_kind", "_law_word_here", "_law_other", "_law_first", "_law_end", "_law_row"], ["_law_hand", "_law_words"]⟩
def t105 : FnT := ⟨"_law_many", top 63, ["_law_hand", "_law_kind"], ["_law_hand"]⟩
def t106 : FnT := ⟨"_law_dressed", top 64, ["_law_hand", "_law_condition", "_law_pairs", "_law_more", "_law_words", "_law_inner", "_law_deepest", "_law_part"], ["_law_hand", "_law_condition", "_law_pairs", "_law_more"]⟩
def t107 : FnT := ⟨"_law_read_cmp", top 65, ["_law_words", "_law_at", "_law_left", "_law_right"], ["_law_words", "_law_at"]⟩
def t108 : FnT := ⟨"_law_read_not", top 66, ["_law_words", "_law_at", "_law_opened", "_law_inner"], ["_law_words", "_law_at", "_law_opened"]⟩
def t109 : FnT := ⟨"_law_read_and", top 67, ["_law_words", "_law_at", "_law_opened", "_law_parts", "_law_step", "_law_part"], ["_law_words", "_law_at", "_law_opened"]⟩
def t110 : FnT := ⟨"_law_read_or", top 68, ["_law_words", "_law_at", "_law_opened", "_law_parts", "_law_step", "_law_part"], ["_law_words", "_law_at", "_law_opened"]⟩
def t111 : FnT := ⟨"_law_read_condition", top 69, ["_law_words", "_law_found"], ["_law_words"]⟩
def t112 : FnT := ⟨"law", top 70, ["_law_script", "_law_hand", "_law_condition", "_law_text_here", "_law_written", "_law_plain", "_law_due", "_law_dressed_here", "_law_at", "_law_strange", "_law_foreign", "_law_words", "_law_step", "_law_chain", "_law_nots"], ["_law_script"]⟩
def ts (f : Nat) : Option FnT := ([(0, t0), (1, t1), (2, t2), (3, t3), (4, t4), (5, t5), (6, t6), (7, t7), (8, t8), (9, t9), (10, t10), (11, t11), (12, t12), (13, t13), (14, t14), (15, t15), (16, t16), (17, t17), (21, t21), (22, t22), (23, t23), (24, t24), (25, t25), (26, t26), (27, t27), (28, t28), (29, t29), (30, t30), (31, t31), (32, t32), (49, t49), (50, t50), (51, t51), (86, t86), (87, t87), (88, t88), (89, t89), (90, t90), (91, t91), (92, t92), (93, t93), (94, t94), (95, t95), (96, t96), (97, t97), (98, t98), (99, t99), (100, t100), (101, t101), (102, t102), (103, t103), (104, t104), (105, t105), (106, t106), (107, t107), (108, t108), (109, t109), (110, t110), (111, t111), (112, t112)] : List (Nat × FnT)).lookup f
theorem ag0 : agF T t0 ⟨3, 4, Wd.b_behind_run⟩ = true := by decide +kernel
theorem ag1 : agF T t1 ⟨2, 3, Wd.b_sign_at⟩ = true := by decide +kernel
theorem ag2 : agF T t2 ⟨2, 2, Wd.b_behind_word⟩ = true := by decide +kernel
theorem ag3 : agF T t3 ⟨1, 4, Wd.b_split_row⟩ = true := by decide +kernel
theorem ag4 : agF T t4 ⟨1, 1, Wd.b_is_name⟩ = true := by decide +kernel
theorem ag5 : agF T t5 ⟨1, 1, Wd.b_is_number⟩ = true := by decide +kernel
theorem ag6 : agF T t6 ⟨2, 2, Tm.b_word_at⟩ = true := by decide +kernel
theorem ag7 : agF T t7 ⟨2, 2, Tm.b_whole⟩ = true := by decide +kernel
theorem ag8 : agF T t8 ⟨2, 2, Tm.b_signed_at⟩ = true := by decide +kernel
theorem ag9 : agF T t9 ⟨2, 2, Tm.b_plus_at⟩ = true := by decide +kernel
theorem ag10 : agF T t10 ⟨3, 5, Tm.b_named_at⟩ = true := by decide +kernel
theorem ag11 : agF T t11 ⟨2, 3, Tm.b_plain_at⟩ = true := by decide +kernel
theorem ag12 : agF T t12 ⟨2, 2, Tm.b_list_at⟩ = true := by decide +kernel
theorem ag13 : agF T t13 ⟨2, 5, Tm.b_cell_at⟩ = true := by decide +kernel
theorem ag14 : agF T t14 ⟨2, 3, Tm.b_term_at⟩ = true := by decide +kernel
theorem ag15 : agF T t15 ⟨1, 1, Tw.b_write_plus⟩ = true := by decide +kernel
theorem ag16 : agF T t16 ⟨1, 1, Tw.b_write_list⟩ = true := by decide +kernel
theorem ag17 : agF T t17 ⟨1, 1, Tw.b_write_term⟩ = true := by decide +kernel
theorem ag21 : agF T t21 ⟨0, 0, Lw.b_law_letters⟩ = true := by decide +kernel
theorem ag22 : agF T t22 ⟨1, 1, Lw.b_law_list_text⟩ = true := by decide +kernel
theorem ag23 : agF T t23 ⟨2, 2, Lw.b_law_joins⟩ = true := by decide +kernel
theorem ag24 : agF T t24 ⟨2, 3, Lw.b_law_same⟩ = true := by decide +kernel
theorem ag25 : agF T t25 ⟨0, 1, Lr.b_law_reserved⟩ = true := by decide +kernel
theorem ag26 : agF T t26 ⟨1, 2, Lr.b_law_is_name⟩ = true := by decide +kernel
theorem ag27 : agF T t27 ⟨1, 2, Lr.b_law_is_number⟩ = true := by decide +kernel
theorem ag28 : agF T t28 ⟨1, 1, Lr.b_law_list_words⟩ = true := by decide +kernel
theorem ag29 : agF T t29 ⟨2, 2, Lr.b_law_word⟩ = true := by decide +kernel
theorem ag30 : agF T t30 ⟨2, 2, Lr.b_law_read_plus⟩ = true := by decide +kernel
theorem ag31 : agF T t31 ⟨2, 5, Lr.b_law_read_plain⟩ = true := by decide +kernel
theorem ag32 : agF T t32 ⟨2, 3, Lr.b_law_read_list⟩ = true := by decide +kernel
theorem ag49 : agF T t49 ⟨2, 4, Cm.b_comparison_at⟩ = true := by decide +kernel
theorem ag50 : agF T t50 ⟨2, 2, Wc.b_write_part⟩ = true := by decide +kernel
theorem ag51 : agF T t51 ⟨1, 2, Wc.b_write_condition⟩ = true := by decide +kernel
theorem ag86 : agF T t86 ⟨3, 5, Cd.b_part_at⟩ = true := by decide +kernel
theorem ag87 : agF T t87 ⟨2, 2, Cd.b_joined⟩ = true := by decide +kernel
theorem ag88 : agF T t88 ⟨3, 5, Cd.b_and_at⟩ = true := by decide +kernel
theorem ag89 : agF T t89 ⟨3, 5, Cd.b_or_at⟩ = true := by decide +kernel
theorem ag90 : agF T t90 ⟨1, 1, Cd.b_condition_of⟩ = true := by decide +kernel
theorem ag91 : agF T t91 ⟨2, 8, H3.b_law_draws⟩ = true := by decide +kernel
theorem ag92 : agF T t92 ⟨2, 4, H3.b_law_take⟩ = true := by decide +kernel
theorem ag93 : agF T t93 ⟨1, 1, L3.b_law_plus_words⟩ = true := by decide +kernel
theorem ag94 : agF T t94 ⟨1, 1, L3.b_law_words_of⟩ = true := by decide +kernel
theorem ag95 : agF T t95 ⟨1, 1, L3.b_law_plus_text⟩ = true := by decide +kernel
theorem ag96 : agF T t96 ⟨1, 1, L3.b_law_text⟩ = true := by decide +kernel
theorem ag97 : agF T t97 ⟨2, 5, L3.b_law_spaced⟩ = true := by decide +kernel
theorem ag98 : agF T t98 ⟨2, 5, L3.b_law_read⟩ = true := by decide +kernel
theorem ag99 : agF T t99 ⟨1, 2, K03.b_read_condition⟩ = true := by decide +kernel
theorem ag100 : agF T t100 ⟨1, 4, K03.b_law_simple⟩ = true := by decide +kernel
theorem ag101 : agF T t101 ⟨3, 9, K03.b_law_tree⟩ = true := by decide +kernel
theorem ag102 : agF T t102 ⟨2, 2, K03.b_law_needs⟩ = true := by decide +kernel
theorem ag103 : agF T t103 ⟨1, 5, K03.b_law_condition_text⟩ = true := by decide +kernel
theorem ag104 : agF T t104 ⟨2, 10, K03.b_law_spoilt⟩ = true := by decide +kernel
theorem ag105 : agF T t105 ⟨1, 2, K03.b_law_many⟩ = true := by decide +kernel
theorem ag106 : agF T t106 ⟨4, 8, K03.b_law_dressed⟩ = true := by decide +kernel
theorem ag107 : agF T t107 ⟨2, 4, K03.b_law_read_cmp⟩ = true := by decide +kernel
theorem ag108 : agF T t108 ⟨3, 4, K03.b_law_read_not⟩ = true := by decide +kernel
theorem ag109 : agF T t109 ⟨3, 6, K03.b_law_read_and⟩ = true := by decide +kernel
theorem ag110 : agF T t110 ⟨3, 6, K03.b_law_read_or⟩ = true := by decide +kernel
theorem ag111 : agF T t111 ⟨1, 2, K03.b_law_read_condition⟩ = true := by decide +kernel
theorem ag112 : agF T t112 ⟨1, 15, K03.b_law⟩ = true := by decide +kernel
end K03

namespace K03
open PySem L2 VL
theorem all_mk {K : PySem.W.Frag} {h : Heap} {mg : Str → Option Value} {fa : Addr} (X : K.In h) (G : h.Ns mainGlobals mg) (hfa : mg "law" = some (.ref fa))
    {f0 f1 f2 f3 f4 f5 f6 f7 f8 f9 f10 f11 f12 f13 f14 f15 f16 f17 f21 f22 f23 f24 f25 f26 f27 f28 f29 f30 f31 f32 f49 f50 f51 f86 f87 f88 f89 f90 f91 f92 f93 f94 f95 f96 f97 f98 f99 f100 f101 f102 f103 f104 f105 f106 f107 f108 f109 f110 f111 f112 : Addr} {od0 an0 od1 an1 od2 an2 od3 an3 od4 an4 od5 an5 od6 an6 od7 an7 od8 an8 od9 an9 od10 an10 od11 an11 od12 an12 od13 an13 od14 an14 od15 an15 od16 an16 od17 an17 od21 an21 od22 an22 od23 an23 od24 an24 od25 an25 od26 an26 od27 an27 od28 an28 od29 an29 od30 an30 od31 an31 od32 an32 od49 an49 od50 an50 od51 an51 od86 an86 od87 an87 od88 an88 od89 an89 od90 an90 od91 an91 od92 an92 od93 an93 od94 an94 od95 an95 od96 an96 od97 an97 od98 an98 od99 an99 od100 an100 od101 an101 od102 an102 od103 an103 od104 an104 od105 an105 od106 an106 od107 an107 od108 an108 od109 an109 od110 an110 od111 an111 od112 an112 : Option Addr} {sl0 sl1 sl2 sl3 sl4 sl5 sl6 sl7 sl8 sl9 sl10 sl11 sl12 sl13 sl14 sl15 sl16 sl17 sl21 sl22 sl23 sl24 sl25 sl26 sl27 sl28 sl29 sl30 sl31 sl32 sl49 sl50 sl51 sl86 sl87 sl88 sl89 sl90 sl91 sl92 sl93 sl94 sl95 sl96 sl97 sl98 sl99 sl100 sl101 sl102 sl103 sl104 sl105 sl106 sl107 sl108 sl109 sl110 sl111 sl112 : Array (Option Value)} {oc0 kV0 dc0 pm0 cd0 ct0 oc1 kV1 dc1 pm1 cd1 ct1 oc2 kV2 dc2 pm2 cd2 ct2 oc3 kV3 dc3 pm3 cd3 ct3 oc4 kV4 dc4 pm4 cd4 ct4 oc5 kV5 dc5 pm5 cd5 ct5 oc6 kV6 dc6 pm6 cd6 ct6 oc7 kV7 dc7 pm7 cd7 ct7 oc8 kV8 dc8 pm8 cd8 ct8 oc9 kV9 dc9 pm9 cd9 ct9 oc10 kV10 dc10 pm10 cd10 ct10 oc11 kV11 dc11 pm11 cd11 ct11 oc12 kV12 dc12 pm12 cd12 ct12 oc13 kV13 dc13 pm13 cd13 ct13 oc14 kV14 dc14 pm14 cd14 ct14 oc15 kV15 dc15 pm15 cd15 ct15 oc16 kV16 dc16 pm16 cd16 ct16 oc17 kV17 dc17 pm17 cd17 ct17 oc21 kV21 dc21 pm21 cd21 ct21 oc22 kV22 dc22 pm22 cd22 ct22 oc23 kV23 dc23 pm23 cd23 ct23 oc24 kV24 dc24 pm24 cd24 ct24 oc25 kV25 dc25 pm25 cd25 ct25 oc26 kV26 dc26 pm26 cd26 ct26 oc27 kV27 dc27 pm27 cd27 ct27 oc28 kV28 dc28 pm28 cd28 ct28 oc29 kV29 dc29 pm29 cd29 ct29 oc30 kV30 dc30 pm30 cd30 ct30 oc31 kV31 dc31 pm31 cd31 ct31 oc32 kV32 dc32 pm32 cd32 ct32 oc49 kV49 dc49 pm49 cd49 ct49 oc50 kV50 dc50 pm50 cd50 ct50 oc51 kV51 dc51 pm51 cd51 ct51 oc86 kV86 dc86 pm86 cd86 ct86 oc87 kV87 dc87 pm87 cd87 ct87 oc88 kV88 dc88 pm88 cd88 ct88 oc89 kV89 dc89 pm89 cd89 ct89 oc90 kV90 dc90 pm90 cd90 ct90 oc91 kV91 dc91 pm91 cd91 ct91 oc92 kV92 dc92 pm92 cd92 ct92 oc93 kV93 dc93 pm93 cd93 ct93 oc94 kV94 dc94 pm94 cd94 ct94 oc95 kV95 dc95 pm95 cd95 ct95 oc96 kV96 dc96 pm96 cd96 ct96 oc97 kV97 dc97 pm97 cd97 ct97 oc98 kV98 dc98 pm98 cd98 ct98 oc99 kV99 dc99 pm99 cd99 ct99 oc100 kV100 dc100 pm100 cd100 ct100 oc101 kV101 dc101 pm101 cd101 ct101 oc102 kV102 dc102 pm102 cd102 ct102 oc103 kV103 dc103 pm103 cd103 ct103 oc104 kV104 dc104 pm104 cd104 ct104 oc105 kV105 dc105 pm105 cd105 ct105 oc106 kV106 dc106 pm106 cd106 ct106 oc107 kV107 dc107 pm107 cd107 ct107 oc108 kV108 dc108 pm108 cd108 ct108 oc109 kV109 dc109 pm109 cd109 ct109 oc110 kV110 dc110 pm110 cd110 ct110 oc111 kV111 dc111 pm111 cd111 ct111 oc112 kV112 dc112 pm112 cd112 ct112 : Value} {gt1 : Tok} {gt2 : Tok} {ga0 : Addr} {gd0 : Option Addr} {gi0 : Array Value} {gn0 : Nat} {gs0 : Array (Option Value)} {ga3 : Addr} {gd3 : Option Addr} {gi3 : Array Value} {gn3 : Nat} {gs3 : Array (Option Value)} {gt4 : Tok} {gt5 : Tok} {ga6 : Addr} {gd6 : Option Addr} {gi6 : Array Value} {gn6 : Nat} {gs6 : Array (Option Value)} {gt7 : Tok}
    (a0 : PySem.W.nsIn K mainGlobals "behind_run" = some (some (.ref f0)))
    (l0 : K.lookup f0 = some ⟨oc0, od0, .func (PySem.W.fnOf "behind_run" "behind_run" (defArgs t0.st) (defBody t0.st) (defScope t0.st) .none kV0 dc0 pm0 an0 cd0 ct0), sl0⟩)
    (c0 : PySem.W.codeIn K cd0 "behind_run" = true)
    (k0 : PySem.W.keepIn K (.ref f0) = true)
    (a1 : PySem.W.nsIn K mainGlobals "sign_at" = some (some (.ref f1)))
    (l1 : K.lookup f1 = some ⟨oc1, od1, .func (PySem.W.fnOf "sign_at" "sign_at" (defArgs t1.st) (defBody t1.st) (defScope t1.st) .none kV1 dc1 pm1 an1 cd1 ct1), sl1⟩)
    (c1 : PySem.W.codeIn K cd1 "sign_at" = true)
    (k1 : PySem.W.keepIn K (.ref f1) = true)
    (a2 : PySem.W.nsIn K mainGlobals "behind_word" = some (some (.ref f2)))
    (l2 : K.lookup f2 = some ⟨oc2, od2, .func (PySem.W.fnOf "behind_word" "behind_word" (defArgs t2.st) (defBody t2.st) (defScope t2.st) .none kV2 dc2 pm2 an2 cd2 ct2), sl2⟩)
    (c2 : PySem.W.codeIn K cd2 "behind_word" = true)
    (k2 : PySem.W.keepIn K (.ref f2) = true)
    (a3 : PySem.W.nsIn K mainGlobals "split_row" = some (some (.ref f3)))
    (l3 : K.lookup f3 = some ⟨oc3, od3, .func (PySem.W.fnOf "split_row" "split_row" (defArgs t3.st) (defBody t3.st) (defScope t3.st) .none kV3 dc3 pm3 an3 cd3 ct3), sl3⟩)
    (c3 : PySem.W.codeIn K cd3 "split_row" = true)
    (k3 : PySem.W.keepIn K (.ref f3) = true)
    (a4 : PySem.W.nsIn K mainGlobals "is_name" = some (some (.ref f4)))
    (l4 : K.lookup f4 = some ⟨oc4, od4, .func (PySem.W.fnOf "is_name" "is_name" (defArgs t4.st) (defBody t4.st) (defScope t4.st) .none kV4 dc4 pm4 an4 cd4 ct4), sl4⟩)
    (c4 : PySem.W.codeIn K cd4 "is_name" = true)
    (k4 : PySem.W.keepIn K (.ref f4) = true)
    (a5 : PySem.W.nsIn K mainGlobals "is_number" = some (some (.ref f5)))
    (l5 : K.lookup f5 = some ⟨oc5, od5, .func (PySem.W.fnOf "is_number" "is_number" (defArgs t5.st) (defBody t5.st) (defScope t5.st) .none kV5 dc5 pm5 an5 cd5 ct5), sl5⟩)
    (c5 : PySem.W.codeIn K cd5 "is_number" = true)
    (k5 : PySem.W.keepIn K (.ref f5) = true)
    (a6 : PySem.W.nsIn K mainGlobals "word_at" = some (some (.ref f6)))
    (l6 : K.lookup f6 = some ⟨oc6, od6, .func (PySem.W.fnOf "word_at" "word_at" (defArgs t6.st) (defBody t6.st) (defScope t6.st) .none kV6 dc6 pm6 an6 cd6 ct6), sl6⟩)
    (c6 : PySem.W.codeIn K cd6 "word_at" = true)
    (k6 : PySem.W.keepIn K (.ref f6) = true)
    (a7 : PySem.W.nsIn K mainGlobals "whole" = some (some (.ref f7)))
    (l7 : K.lookup f7 = some ⟨oc7, od7, .func (PySem.W.fnOf "whole" "whole" (defArgs t7.st) (defBody t7.st) (defScope t7.st) .none kV7 dc7 pm7 an7 cd7 ct7), sl7⟩)
    (c7 : PySem.W.codeIn K cd7 "whole" = true)
    (k7 : PySem.W.keepIn K (.ref f7) = true)
    (a8 : PySem.W.nsIn K mainGlobals "signed_at" = some (some (.ref f8)))
    (l8 : K.lookup f8 = some ⟨oc8, od8, .func (PySem.W.fnOf "signed_at" "signed_at" (defArgs t8.st) (defBody t8.st) (defScope t8.st) .none kV8 dc8 pm8 an8 cd8 ct8), sl8⟩)
    (c8 : PySem.W.codeIn K cd8 "signed_at" = true)
    (k8 : PySem.W.keepIn K (.ref f8) = true)
    (a9 : PySem.W.nsIn K mainGlobals "plus_at" = some (some (.ref f9)))
    (l9 : K.lookup f9 = some ⟨oc9, od9, .func (PySem.W.fnOf "plus_at" "plus_at" (defArgs t9.st) (defBody t9.st) (defScope t9.st) .none kV9 dc9 pm9 an9 cd9 ct9), sl9⟩)
    (c9 : PySem.W.codeIn K cd9 "plus_at" = true)
    (k9 : PySem.W.keepIn K (.ref f9) = true)
    (a10 : PySem.W.nsIn K mainGlobals "named_at" = some (some (.ref f10)))
    (l10 : K.lookup f10 = some ⟨oc10, od10, .func (PySem.W.fnOf "named_at" "named_at" (defArgs t10.st) (defBody t10.st) (defScope t10.st) .none kV10 dc10 pm10 an10 cd10 ct10), sl10⟩)
    (c10 : PySem.W.codeIn K cd10 "named_at" = true)
    (k10 : PySem.W.keepIn K (.ref f10) = true)
    (a11 : PySem.W.nsIn K mainGlobals "plain_at" = some (some (.ref f11)))
    (l11 : K.lookup f11 = some ⟨oc11, od11, .func (PySem.W.fnOf "plain_at" "plain_at" (defArgs t11.st) (defBody t11.st) (defScope t11.st) .none kV11 dc11 pm11 an11 cd11 ct11), sl11⟩)
    (c11 : PySem.W.codeIn K cd11 "plain_at" = true)
    (k11 : PySem.W.keepIn K (.ref f11) = true)
    (a12 : PySem.W.nsIn K mainGlobals "list_at" = some (some (.ref f12)))
    (l12 : K.lookup f12 = some ⟨oc12, od12, .func (PySem.W.fnOf "list_at" "list_at" (defArgs t12.st) (defBody t12.st) (defScope t12.st) .none kV12 dc12 pm12 an12 cd12 ct12), sl12⟩)
    (c12 : PySem.W.codeIn K cd12 "list_at" = true)
    (k12 : PySem.W.keepIn K (.ref f12) = true)
    (a13 : PySem.W.nsIn K mainGlobals "cell_at" = some (some (.ref f13)))
    (l13 : K.lookup f13 = some ⟨oc13, od13, .func (PySem.W.fnOf "cell_at" "cell_at" (defArgs t13.st) (defBody t13.st) (defScope t13.st) .none kV13 dc13 pm13 an13 cd13 ct13), sl13⟩)
    (c13 : PySem.W.codeIn K cd13 "cell_at" = true)
    (k13 : PySem.W.keepIn K (.ref f13) = true)
    (a14 : PySem.W.nsIn K mainGlobals "term_at" = some (some (.ref f14)))
    (l14 : K.lookup f14 = some ⟨oc14, od14, .func (PySem.W.fnOf "term_at" "term_at" (defArgs t14.st) (defBody t14.st) (defScope t14.st) .none kV14 dc14 pm14 an14 cd14 ct14), sl14⟩)
    (c14 : PySem.W.codeIn K cd14 "term_at" = true)
    (k14 : PySem.W.keepIn K (.ref f14) = true)
    (a15 : PySem.W.nsIn K mainGlobals "write_plus" = some (some (.ref f15)))
    (l15 : K.lookup f15 = some ⟨oc15, od15, .func (PySem.W.fnOf "write_plus" "write_plus" (defArgs t15.st) (defBody t15.st) (defScope t15.st) .none kV15 dc15 pm15 an15 cd15 ct15), sl15⟩)
    (c15 : PySem.W.codeIn K cd15 "write_plus" = true)
    (k15 : PySem.W.keepIn K (.ref f15) = true)
    (a16 : PySem.W.nsIn K mainGlobals "write_list" = some (some (.ref f16)))
    (l16 : K.lookup f16 = some ⟨oc16, od16, .func (PySem.W.fnOf "write_list" "write_list" (defArgs t16.st) (defBody t16.st) (defScope t16.st) .none kV16 dc16 pm16 an16 cd16 ct16), sl16⟩)
    (c16 : PySem.W.codeIn K cd16 "write_list" = true)
    (k16 : PySem.W.keepIn K (.ref f16) = true)
    (a17 : PySem.W.nsIn K mainGlobals "write_term" = some (some (.ref f17)))
    (l17 : K.lookup f17 = some ⟨oc17, od17, .func (PySem.W.fnOf "write_term" "write_term" (defArgs t17.st) (defBody t17.st) (defScope t17.st) .none kV17 dc17 pm17 an17 cd17 ct17), sl17⟩)
    (c17 : PySem.W.codeIn K cd17 "write_term" = true)
    (k17 : PySem.W.keepIn K (.ref f17) = true)
    (a21 : PySem.W.nsIn K mainGlobals "_law_letters" = some (some (.ref f21)))
    (l21 : K.lookup f21 = some ⟨oc21, od21, .func (PySem.W.fnOf "_law_letters" "_law_letters" (defArgs t21.st) (defBody t21.st) (defScope t21.st) .none kV21 dc21 pm21 an21 cd21 ct21), sl21⟩)
    (c21 : PySem.W.codeIn K cd21 "_law_letters" = true)
    (k21 : PySem.W.keepIn K (.ref f21) = true)
    (a22 : PySem.W.nsIn K mainGlobals "_law_list_text" = some (some (.ref f22)))
    (l22 : K.lookup f22 = some ⟨oc22, od22, .func (PySem.W.fnOf "_law_list_text" "_law_list_text" (defArgs t22.st) (defBody t22.st) (defScope t22.st) .none kV22 dc22 pm22 an22 cd22 ct22), sl22⟩)
    (c22 : PySem.W.codeIn K cd22 "_law_list_text" = true)
    (k22 : PySem.W.keepIn K (.ref f22) = true)
    (a23 : PySem.W.nsIn K mainGlobals "_law_joins" = some (some (.ref f23)))
    (l23 : K.lookup f23 = some ⟨oc23, od23, .func (PySem.W.fnOf "_law_joins" "_law_joins" (defArgs t23.st) (defBody t23.st) (defScope t23.st) .none kV23 dc23 pm23 an23 cd23 ct23), sl23⟩)
    (c23 : PySem.W.codeIn K cd23 "_law_joins" = true)
    (k23 : PySem.W.keepIn K (.ref f23) = true)
    (a24 : PySem.W.nsIn K mainGlobals "_law_same" = some (some (.ref f24)))
    (l24 : K.lookup f24 = some ⟨oc24, od24, .func (PySem.W.fnOf "_law_same" "_law_same" (defArgs t24.st) (defBody t24.st) (defScope t24.st) .none kV24 dc24 pm24 an24 cd24 ct24), sl24⟩)
    (c24 : PySem.W.codeIn K cd24 "_law_same" = true)
    (k24 : PySem.W.keepIn K (.ref f24) = true)
    (a25 : PySem.W.nsIn K mainGlobals "_law_reserved" = some (some (.ref f25)))
    (l25 : K.lookup f25 = some ⟨oc25, od25, .func (PySem.W.fnOf "_law_reserved" "_law_reserved" (defArgs t25.st) (defBody t25.st) (defScope t25.st) .none kV25 dc25 pm25 an25 cd25 ct25), sl25⟩)
    (c25 : PySem.W.codeIn K cd25 "_law_reserved" = true)
    (k25 : PySem.W.keepIn K (.ref f25) = true)
    (a26 : PySem.W.nsIn K mainGlobals "_law_is_name" = some (some (.ref f26)))
    (l26 : K.lookup f26 = some ⟨oc26, od26, .func (PySem.W.fnOf "_law_is_name" "_law_is_name" (defArgs t26.st) (defBody t26.st) (defScope t26.st) .none kV26 dc26 pm26 an26 cd26 ct26), sl26⟩)
    (c26 : PySem.W.codeIn K cd26 "_law_is_name" = true)
    (k26 : PySem.W.keepIn K (.ref f26) = true)
    (a27 : PySem.W.nsIn K mainGlobals "_law_is_number" = some (some (.ref f27)))
    (l27 : K.lookup f27 = some ⟨oc27, od27, .func (PySem.W.fnOf "_law_is_number" "_law_is_number" (defArgs t27.st) (defBody t27.st) (defScope t27.st) .none kV27 dc27 pm27 an27 cd27 ct27), sl27⟩)
    (c27 : PySem.W.codeIn K cd27 "_law_is_number" = true)
    (k27 : PySem.W.keepIn K (.ref f27) = true)
    (a28 : PySem.W.nsIn K mainGlobals "_law_list_words" = some (some (.ref f28)))
    (l28 : K.lookup f28 = some ⟨oc28, od28, .func (PySem.W.fnOf "_law_list_words" "_law_list_words" (defArgs t28.st) (defBody t28.st) (defScope t28.st) .none kV28 dc28 pm28 an28 cd28 ct28), sl28⟩)
    (c28 : PySem.W.codeIn K cd28 "_law_list_words" = true)
    (k28 : PySem.W.keepIn K (.ref f28) = true)
    (a29 : PySem.W.nsIn K mainGlobals "_law_word" = some (some (.ref f29)))
    (l29 : K.lookup f29 = some ⟨oc29, od29, .func (PySem.W.fnOf "_law_word" "_law_word" (defArgs t29.st) (defBody t29.st) (defScope t29.st) .none kV29 dc29 pm29 an29 cd29 ct29), sl29⟩)
    (c29 : PySem.W.codeIn K cd29 "_law_word" = true)
    (k29 : PySem.W.keepIn K (.ref f29) = true)
    (a30 : PySem.W.nsIn K mainGlobals "_law_read_plus" = some (some (.ref f30)))
    (l30 : K.lookup f30 = some ⟨oc30, od30, .func (PySem.W.fnOf "_law_read_plus" "_law_read_plus" (defArgs t30.st) (defBody t30.st) (defScope t30.st) .none kV30 dc30 pm30 an30 cd30 ct30), sl30⟩)
    (c30 : PySem.W.codeIn K cd30 "_law_read_plus" = true)
    (k30 : PySem.W.keepIn K (.ref f30) = true)
    (a31 : PySem.W.nsIn K mainGlobals "_law_read_plain" = some (some (.ref f31)))
    (l31 : K.lookup f31 = some ⟨oc31, od31, .func (PySem.W.fnOf "_law_read_plain" "_law_read_plain" (defArgs t31.st) (defBody t31.st) (defScope t31.st) .none kV31 dc31 pm31 an31 cd31 ct31), sl31⟩)
    (c31 : PySem.W.codeIn K cd31 "_law_read_plain" = true)
    (k31 : PySem.W.keepIn K (.ref f31) = true)
    (a32 : PySem.W.nsIn K mainGlobals "_law_read_list" = some (some (.ref f32)))
    (l32 : K.lookup f32 = some ⟨oc32, od32, .func (PySem.W.fnOf "_law_read_list" "_law_read_list" (defArgs t32.st) (defBody t32.st) (defScope t32.st) .none kV32 dc32 pm32 an32 cd32 ct32), sl32⟩)
    (c32 : PySem.W.codeIn K cd32 "_law_read_list" = true)
    (k32 : PySem.W.keepIn K (.ref f32) = true)
    (a49 : PySem.W.nsIn K mainGlobals "comparison_at" = some (some (.ref f49)))
    (l49 : K.lookup f49 = some ⟨oc49, od49, .func (PySem.W.fnOf "comparison_at" "comparison_at" (defArgs t49.st) (defBody t49.st) (defScope t49.st) .none kV49 dc49 pm49 an49 cd49 ct49), sl49⟩)
    (c49 : PySem.W.codeIn K cd49 "comparison_at" = true)
    (k49 : PySem.W.keepIn K (.ref f49) = true)
    (a50 : PySem.W.nsIn K mainGlobals "write_part" = some (some (.ref f50)))
    (l50 : K.lookup f50 = some ⟨oc50, od50, .func (PySem.W.fnOf "write_part" "write_part" (defArgs t50.st) (defBody t50.st) (defScope t50.st) .none kV50 dc50 pm50 an50 cd50 ct50), sl50⟩)
    (c50 : PySem.W.codeIn K cd50 "write_part" = true)
    (k50 : PySem.W.keepIn K (.ref f50) = true)
    (a51 : PySem.W.nsIn K mainGlobals "write_condition" = some (some (.ref f51)))
    (l51 : K.lookup f51 = some ⟨oc51, od51, .func (PySem.W.fnOf "write_condition" "write_condition" (defArgs t51.st) (defBody t51.st) (defScope t51.st) .none kV51 dc51 pm51 an51 cd51 ct51), sl51⟩)
    (c51 : PySem.W.codeIn K cd51 "write_condition" = true)
    (k51 : PySem.W.keepIn K (.ref f51) = true)
    (a86 : PySem.W.nsIn K mainGlobals "part_at" = some (some (.ref f86)))
    (l86 : K.lookup f86 = some ⟨oc86, od86, .func (PySem.W.fnOf "part_at" "part_at" (defArgs t86.st) (defBody t86.st) (defScope t86.st) .none kV86 dc86 pm86 an86 cd86 ct86), sl86⟩)
    (c86 : PySem.W.codeIn K cd86 "part_at" = true)
    (k86 : PySem.W.keepIn K (.ref f86) = true)
    (a87 : PySem.W.nsIn K mainGlobals "joined" = some (some (.ref f87)))
    (l87 : K.lookup f87 = some ⟨oc87, od87, .func (PySem.W.fnOf "joined" "joined" (defArgs t87.st) (defBody t87.st) (defScope t87.st) .none kV87 dc87 pm87 an87 cd87 ct87), sl87⟩)
    (c87 : PySem.W.codeIn K cd87 "joined" = true)
    (k87 : PySem.W.keepIn K (.ref f87) = true)
    (a88 : PySem.W.nsIn K mainGlobals "and_at" = some (some (.ref f88)))
    (l88 : K.lookup f88 = some ⟨oc88, od88, .func (PySem.W.fnOf "and_at" "and_at" (defArgs t88.st) (defBody t88.st) (defScope t88.st) .none kV88 dc88 pm88 an88 cd88 ct88), sl88⟩)
    (c88 : PySem.W.codeIn K cd88 "and_at" = true)
    (k88 : PySem.W.keepIn K (.ref f88) = true)
    (a89 : PySem.W.nsIn K mainGlobals "or_at" = some (some (.ref f89)))
    (l89 : K.lookup f89 = some ⟨oc89, od89, .func (PySem.W.fnOf "or_at" "or_at" (defArgs t89.st) (defBody t89.st) (defScope t89.st) .none kV89 dc89 pm89 an89 cd89 ct89), sl89⟩)
    (c89 : PySem.W.codeIn K cd89 "or_at" = true)
    (k89 : PySem.W.keepIn K (.ref f89) = true)
    (a90 : PySem.W.nsIn K mainGlobals "condition_of" = some (some (.ref f90)))
    (l90 : K.lookup f90 = some ⟨oc90, od90, .func (PySem.W.fnOf "condition_of" "condition_of" (defArgs t90.st) (defBody t90.st) (defScope t90.st) .none kV90 dc90 pm90 an90 cd90 ct90), sl90⟩)
    (c90 : PySem.W.codeIn K cd90 "condition_of" = true)
    (k90 : PySem.W.keepIn K (.ref f90) = true)
    (a91 : PySem.W.nsIn K mainGlobals "_law_draws" = some (some (.ref f91)))
    (l91 : K.lookup f91 = some ⟨oc91, od91, .func (PySem.W.fnOf "_law_draws" "_law_draws" (defArgs t91.st) (defBody t91.st) (defScope t91.st) .none kV91 dc91 pm91 an91 cd91 ct91), sl91⟩)
    (c91 : PySem.W.codeIn K cd91 "_law_draws" = true)
    (k91 : PySem.W.keepIn K (.ref f91) = true)
    (a92 : PySem.W.nsIn K mainGlobals "_law_take" = some (some (.ref f92)))
    (l92 : K.lookup f92 = some ⟨oc92, od92, .func (PySem.W.fnOf "_law_take" "_law_take" (defArgs t92.st) (defBody t92.st) (defScope t92.st) .none kV92 dc92 pm92 an92 cd92 ct92), sl92⟩)
    (c92 : PySem.W.codeIn K cd92 "_law_take" = true)
    (k92 : PySem.W.keepIn K (.ref f92) = true)
    (a93 : PySem.W.nsIn K mainGlobals "_law_plus_words" = some (some (.ref f93)))
    (l93 : K.lookup f93 = some ⟨oc93, od93, .func (PySem.W.fnOf "_law_plus_words" "_law_plus_words" (defArgs t93.st) (defBody t93.st) (defScope t93.st) .none kV93 dc93 pm93 an93 cd93 ct93), sl93⟩)
    (c93 : PySem.W.codeIn K cd93 "_law_plus_words" = true)
    (k93 : PySem.W.keepIn K (.ref f93) = true)
    (a94 : PySem.W.nsIn K mainGlobals "_law_words_of" = some (some (.ref f94)))
    (l94 : K.lookup f94 = some ⟨oc94, od94, .func (PySem.W.fnOf "_law_words_of" "_law_words_of" (defArgs t94.st) (defBody t94.st) (defScope t94.st) .none kV94 dc94 pm94 an94 cd94 ct94), sl94⟩)
    (c94 : PySem.W.codeIn K cd94 "_law_words_of" = true)
    (k94 : PySem.W.keepIn K (.ref f94) = true)
    (a95 : PySem.W.nsIn K mainGlobals "_law_plus_text" = some (some (.ref f95)))
    (l95 : K.lookup f95 = some ⟨oc95, od95, .func (PySem.W.fnOf "_law_plus_text" "_law_plus_text" (defArgs t95.st) (defBody t95.st) (defScope t95.st) .none kV95 dc95 pm95 an95 cd95 ct95), sl95⟩)
    (c95 : PySem.W.codeIn K cd95 "_law_plus_text" = true)
    (k95 : PySem.W.keepIn K (.ref f95) = true)
    (a96 : PySem.W.nsIn K mainGlobals "_law_text" = some (some (.ref f96)))
    (l96 : K.lookup f96 = some ⟨oc96, od96, .func (PySem.W.fnOf "_law_text" "_law_text" (defArgs t96.st) (defBody t96.st) (defScope t96.st) .none kV96 dc96 pm96 an96 cd96 ct96), sl96⟩)
    (c96 : PySem.W.codeIn K cd96 "_law_text" = true)
    (k96 : PySem.W.keepIn K (.ref f96) = true)
    (a97 : PySem.W.nsIn K mainGlobals "_law_spaced" = some (some (.ref f97)))
    (l97 : K.lookup f97 = some ⟨oc97, od97, .func (PySem.W.fnOf "_law_spaced" "_law_spaced" (defArgs t97.st) (defBody t97.st) (defScope t97.st) .none kV97 dc97 pm97 an97 cd97 ct97), sl97⟩)
    (c97 : PySem.W.codeIn K cd97 "_law_spaced" = true)
    (k97 : PySem.W.keepIn K (.ref f97) = true)
    (a98 : PySem.W.nsIn K mainGlobals "_law_read" = some (some (.ref f98)))
    (l98 : K.lookup f98 = some ⟨oc98, od98, .func (PySem.W.fnOf "_law_read" "_law_read" (defArgs t98.st) (defBody t98.st) (defScope t98.st) .none kV98 dc98 pm98 an98 cd98 ct98), sl98⟩)
    (c98 : PySem.W.codeIn K cd98 "_law_read" = true)
    (k98 : PySem.W.keepIn K (.ref f98) = true)
    (a99 : PySem.W.nsIn K mainGlobals "read_condition" = some (some (.ref f99)))
    (l99 : K.lookup f99 = some ⟨oc99, od99, .func (PySem.W.fnOf "read_condition" "read_condition" (defArgs t99.st) (defBody t99.st) (defScope t99.st) .none kV99 dc99 pm99 an99 cd99 ct99), sl99⟩)
    (c99 : PySem.W.codeIn K cd99 "read_condition" = true)
    (k99 : PySem.W.keepIn K (.ref f99) = true)
    (a100 : PySem.W.nsIn K mainGlobals "_law_simple" = some (some (.ref f100)))
    (l100 : K.lookup f100 = some ⟨oc100, od100, .func (PySem.W.fnOf "_law_simple" "_law_simple" (defArgs t100.st) (defBody t100.st) (defScope t100.st) .none kV100 dc100 pm100 an100 cd100 ct100), sl100⟩)
    (c100 : PySem.W.codeIn K cd100 "_law_simple" = true)
    (k100 : PySem.W.keepIn K (.ref f100) = true)
    (a101 : PySem.W.nsIn K mainGlobals "_law_tree" = some (some (.ref f101)))
    (l101 : K.lookup f101 = some ⟨oc101, od101, .func (PySem.W.fnOf "_law_tree" "_law_tree" (defArgs t101.st) (defBody t101.st) (defScope t101.st) .none kV101 dc101 pm101 an101 cd101 ct101), sl101⟩)
    (c101 : PySem.W.codeIn K cd101 "_law_tree" = true)
    (k101 : PySem.W.keepIn K (.ref f101) = true)
    (a102 : PySem.W.nsIn K mainGlobals "_law_needs" = some (some (.ref f102)))
    (l102 : K.lookup f102 = some ⟨oc102, od102, .func (PySem.W.fnOf "_law_needs" "_law_needs" (defArgs t102.st) (defBody t102.st) (defScope t102.st) .none kV102 dc102 pm102 an102 cd102 ct102), sl102⟩)
    (c102 : PySem.W.codeIn K cd102 "_law_needs" = true)
    (k102 : PySem.W.keepIn K (.ref f102) = true)
    (a103 : PySem.W.nsIn K mainGlobals "_law_condition_text" = some (some (.ref f103)))
    (l103 : K.lookup f103 = some ⟨oc103, od103, .func (PySem.W.fnOf "_law_condition_text" "_law_condition_text" (defArgs t103.st) (defBody t103.st) (defScope t103.st) .none kV103 dc103 pm103 an103 cd103 ct103), sl103⟩)
    (c103 : PySem.W.codeIn K cd103 "_law_condition_text" = true)
    (k103 : PySem.W.keepIn K (.ref f103) = true)
    (a104 : PySem.W.nsIn K mainGlobals "_law_spoilt" = some (some (.ref f104)))
    (l104 : K.lookup f104 = some ⟨oc104, od104, .func (PySem.W.fnOf "_law_spoilt" "_law_spoilt" (defArgs t104.st) (defBody t104.st) (defScope t104.st) .none kV104 dc104 pm104 an104 cd104 ct104), sl104⟩)
    (c104 : PySem.W.codeIn K cd104 "_law_spoilt" = true)
    (k104 : PySem.W.keepIn K (.ref f104) = true)
    (a105 : PySem.W.nsIn K mainGlobals "_law_many" = some (some (.ref f105)))
    (l105 : K.lookup f105 = some ⟨oc105, od105, .func (PySem.W.fnOf "_law_many" "_law_many" (defArgs t105.st) (defBody t105.st) (defScope t105.st) .none kV105 dc105 pm105 an105 cd105 ct105), sl105⟩)
    (c105 : PySem.W.codeIn K cd105 "_law_many" = true)
    (k105 : PySem.W.keepIn K (.ref f105) = true)
    (a106 : PySem.W.nsIn K mainGlobals "_law_dressed" = some (some (.ref f106)))
    (l106 : K.lookup f106 = some ⟨oc106, od106, .func (PySem.W.fnOf "_law_dressed" "_law_dressed" (defArgs t106.st) (defBody t106.st) (defScope t106.st) .none kV106 dc106 pm106 an106 cd106 ct106), sl106⟩)
    (c106 : PySem.W.codeIn K cd106 "_law_dressed" = true)
    (k106 : PySem.W.keepIn K (.ref f106) = true)
    (a107 : PySem.W.nsIn K mainGlobals "_law_read_cmp" = some (some (.ref f107)))
    (l107 : K.lookup f107 = some ⟨oc107, od107, .func (PySem.W.fnOf "_law_read_cmp" "_law_read_cmp" (defArgs t107.st) (defBody t107.st) (defScope t107.st) .none kV107 dc107 pm107 an107 cd107 ct107), sl107⟩)
    (c107 : PySem.W.codeIn K cd107 "_law_read_cmp" = true)
    (k107 : PySem.W.keepIn K (.ref f107) = true)
    (a108 : PySem.W.nsIn K mainGlobals "_law_read_not" = some (some (.ref f108)))
    (l108 : K.lookup f108 = some ⟨oc108, od108, .func (PySem.W.fnOf "_law_read_not" "_law_read_not" (defArgs t108.st) (defBody t108.st) (defScope t108.st) .none kV108 dc108 pm108 an108 cd108 ct108), sl108⟩)
    (c108 : PySem.W.codeIn K cd108 "_law_read_not" = true)
    (k108 : PySem.W.keepIn K (.ref f108) = true)
    (a109 : PySem.W.nsIn K mainGlobals "_law_read_and" = some (some (.ref f109)))
    (l109 : K.lookup f109 = some ⟨oc109, od109, .func (PySem.W.fnOf "_law_read_and" "_law_read_and" (defArgs t109.st) (defBody t109.st) (defScope t109.st) .none kV109 dc109 pm109 an109 cd109 ct109), sl109⟩)
    (c109 : PySem.W.codeIn K cd109 "_law_read_and" = true)
    (k109 : PySem.W.keepIn K (.ref f109) = true)
    (a110 : PySem.W.nsIn K mainGlobals "_law_read_or" = some (some (.ref f110)))
    (l110 : K.lookup f110 = some ⟨oc110, od110, .func (PySem.W.fnOf "_law_read_or" "_law_read_or" (defArgs t110.st) (defBody t110.st) (defScope t110.st) .none kV110 dc110 pm110 an110 cd110 ct110), sl110⟩)
    (c110 : PySem.W.codeIn K cd110 "_law_read_or" = true)
    (k110 : PySem.W.keepIn K (.ref f110) = true)
    (a111 : PySem.W.nsIn K mainGlobals "_law_read_condition" = some (some (.ref f111)))
    (l111 : K.lookup f111 = some ⟨oc111, od111, .func (PySem.W.fnOf "_law_read_condition" "_law_read_condition" (defArgs t111.st) (defBody t111.st) (defScope t111.st) .none kV111 dc111 pm111 an111 cd111 ct111), sl111⟩)
    (c111 : PySem.W.codeIn K cd111 "_law_read_condition" = true)
    (k111 : PySem.W.keepIn K (.ref f111) = true)
    (a112 : PySem.W.nsIn K mainGlobals "law" = some (some (.ref f112)))
    (l112 : K.lookup f112 = some ⟨oc112, od112, .func (PySem.W.fnOf "law" "law" (defArgs t112.st) (defBody t112.st) (defScope t112.st) .none kV112 dc112 pm112 an112 cd112 ct112), sl112⟩)
    (c112 : PySem.W.codeIn K cd112 "law" = true)
    (k112 : PySem.W.keepIn K (.ref f112) = true)
    (z0 : PySem.W.nsIn K mainGlobals "len" = some none)
    (z1 : PySem.W.nsIn K mainGlobals "abs" = some none)
    (z2 : PySem.W.nsIn K mainGlobals "int" = some none)
    (z3 : PySem.W.nsIn K mainGlobals "str" = some none)
    (z4 : PySem.W.nsIn K mainGlobals "max" = some none)
    (z5 : PySem.W.nsIn K mainGlobals "min" = some none)
    (z6 : PySem.W.nsIn K mainGlobals "sum" = some none)
    (z7 : PySem.W.nsIn K mainGlobals "all" = some none)
    (z8 : PySem.W.nsIn K mainGlobals "any" = some none)
    (z9 : PySem.W.nsIn K mainGlobals "tuple" = some none)
    (z10 : PySem.W.nsIn K mainGlobals "list" = some none)
    (z11 : PySem.W.nsIn K mainGlobals "range" = some none)
    (z12 : PySem.W.nsIn K mainGlobals "isinstance" = some none)
    (z13 : PySem.W.nsIn K mainGlobals "bool" = some none)
    (z14 : PySem.W.nsIn K mainGlobals "dict" = some none)
    (z15 : PySem.W.nsIn K mainGlobals "repr" = some none)
    (z16 : PySem.W.nsIn K mainGlobals "sorted" = some none)
    (z17 : PySem.W.nsIn K mainGlobals "zip" = some none)
    (z18 : PySem.W.nsIn K mainGlobals "enumerate" = some none)
    (z19 : PySem.W.nsIn K mainGlobals "reversed" = some none)
    (hg1 : PySem.W.nsIn K mainGlobals "LETTERS" = some (some (.str ("abcdefghijklmnopqrstuvwxyz") gt1)))
    (hg2 : PySem.W.nsIn K mainGlobals "FIGURES" = some (some (.str ("0123456789") gt2)))
    (hg0 : PySem.W.nsIn K mainGlobals "SIGNS" = some (some (.ref ga0)))
    (gl0 : K.lookup ga0 = some ⟨.type "tuple", gd0, .seq gi0 gn0, gs0⟩)
    (gv0 : ((valsOf gi0.toList).bind flatOf = some ((Wd.signs.map AV.str))) ∧ gi0.size ≤ sizeLine)
    (hg3 : PySem.W.nsIn K mainGlobals "RESERVED" = some (some (.ref ga3)))
    (gl3 : K.lookup ga3 = some ⟨.type "tuple", gd3, .seq gi3 gn3, gs3⟩)
    (gv3 : ((valsOf gi3.toList).bind flatOf = some ((Wd.reserved.map AV.str))) ∧ gi3.size ≤ sizeLine)
    (hg4 : PySem.W.nsIn K mainGlobals "MOST_LETTERS" = some (some (.int (12) gt4)))
    (hg5 : PySem.W.nsIn K mainGlobals "MOST_FIGURES" = some (some (.int (10) gt5)))
    (hg6 : PySem.W.nsIn K mainGlobals "COMPARING" = some (some (.ref ga6)))
    (gl6 : K.lookup ga6 = some ⟨.type "tuple", gd6, .seq gi6 gn6, gs6⟩)
    (gv6 : ((valsOf gi6.toList).bind flatOf = some ((Cm.comparing.map AV.str))) ∧ gi6.size ≤ sizeLine)
    (hg7 : PySem.W.nsIn K mainGlobals "MOST_OPEN" = some (some (.int (8) gt7))) :
    ∃ Cl : Nat → Addr, PFacts P T Cl ts K mg ∧ ∃ fd : FuncData, (∀ (s : Shared) (v : Value), BindsTo s fd ⟨[v], []⟩ [("_law_script", v)]) ∧ Fun K "law" "law" t112.st fa fd := by
  have e := hfa.symm.trans (PySem.W.mg_of X G a112)
  cases e
  refine ⟨fun c => (([] : List (Nat × Addr)).lookup c).getD 0, ⟨fun x hx => ?_, fun g d hg => ?_, fun f F hf => ?_, fun f x hx => ?_, fun c x hx => ?_, fun c m f hx => ?_, fun c f hx => ?_⟩, PySem.W.fnOf "law" "law" (defArgs t112.st) (defBody t112.st) (defScope t112.st) .none kV112 dc112 pm112 an112 cd112 ct112, fun s v => .of_eq rfl, fun_mk (st := t112.st) l112 c112 k112⟩
  · simp only [bltNames, List.mem_cons, List.not_mem_nil, or_false] at hx
    rcases hx with rfl | rfl | rfl | rfl | rfl | rfl | rfl | rfl | rfl | rfl | rfl | rfl | rfl | rfl | rfl | rfl | rfl | rfl | rfl | rfl
    · exact PySem.W.mg_none_of X G z0
    · exact PySem.W.mg_none_of X G z1
    · exact PySem.W.mg_none_of X G z2
    · exact PySem.W.mg_none_of X G z3
    · exact PySem.W.mg_none_of X G z4
    · exact PySem.W.mg_none_of X G z5
    · exact PySem.W.mg_none_of X G z6
    · exact PySem.W.mg_none_of X G z7
    · exact PySem.W.mg_none_of X G z8
    · exact PySem.W.mg_none_of X G z9
    · exact PySem.W.mg_none_of X G z10
    · exact PySem.W.mg_none_of X G z11
    · exact PySem.W.mg_none_of X G z12
    · exact PySem.W.mg_none_of X G z13
    · exact PySem.W.mg_none_of X G z14
    · exact PySem.W.mg_none_of X G z15
    · exact PySem.W.mg_none_of X G z16
    · exact PySem.W.mg_none_of X G z17
    · exact PySem.W.mg_none_of X G z18
    · exact PySem.W.mg_none_of X G z19
  · refine look_all (G := fun g d => ∃ u v, mg (T.gname g) = some u ∧ RelV v u ∧ ∀ cs F, Rep K cs F v d) ?_ hg
    have gg1 : ∃ u v, mg (T.gname 1) = some u ∧ RelV v u ∧ ∀ cs F, Rep K cs F v (.str "abcdefghijklmnopqrstuvwxyz") := ⟨_, .str ("abcdefghijklmnopqrstuvwxyz"), PySem.W.mg_of X G hg1, ⟨_, rfl⟩, fun _ _ => .str _⟩
    have gg2 : ∃ u v, mg (T.gname 2) = some u ∧ RelV v u ∧ ∀ cs F, Rep K cs F v (.str "0123456789") := ⟨_, .str ("0123456789"), PySem.W.mg_of X G hg2, ⟨_, rfl⟩, fun _ _ => .str _⟩
    have gg0 : ∃ u v, mg (T.gname 0) = some u ∧ RelV v u ∧ ∀ cs F, Rep K cs F v (.tup (Wd.signs.map AV.str)) := (by obtain ⟨vs, h1, h2⟩ := Option.bind_eq_some_iff.mp gv0.1; exact ⟨_, .ref ga0, PySem.W.mg_of X G hg0, rfl, tup_glob gl0 gv0.2 h1 h2⟩)
    have gg3 : ∃ u v, mg (T.gname 3) = some u ∧ RelV v u ∧ ∀ cs F, Rep K cs F v (.tup (Wd.reserved.map AV.str)) := (by obtain ⟨vs, h1, h2⟩ := Option.bind_eq_some_iff.mp gv3.1; exact ⟨_, .ref ga3, PySem.W.mg_of X G hg3, rfl, tup_glob gl3 gv3.2 h1 h2⟩)
    have gg4 : ∃ u v, mg (T.gname 4) = some u ∧ RelV v u ∧ ∀ cs F, Rep K cs F v (.int 12) := ⟨_, .int (12), PySem.W.mg_of X G hg4, ⟨_, rfl⟩, fun _ _ => .int _⟩
    have gg5 : ∃ u v, mg (T.gname 5) = some u ∧ RelV v u ∧ ∀ cs F, Rep K cs F v (.int 10) := ⟨_, .int (10), PySem.W.mg_of X G hg5, ⟨_, rfl⟩, fun _ _ => .int _⟩
    have gg6 : ∃ u v, mg (T.gname 6) = some u ∧ RelV v u ∧ ∀ cs F, Rep K cs F v (.tup (Cm.comparing.map AV.str)) := (by obtain ⟨vs, h1, h2⟩ := Option.bind_eq_some_iff.mp gv6.1; exact ⟨_, .ref ga6, PySem.W.mg_of X G hg6, rfl, tup_glob gl6 gv6.2 h1 h2⟩)
    have gg7 : ∃ u v, mg (T.gname 7) = some u ∧ RelV v u ∧ ∀ cs F, Rep K cs F v (.int 8) := ⟨_, .int (8), PySem.W.mg_of X G hg7, ⟨_, rfl⟩, fun _ _ => .int _⟩
    exact (And.intro gg1 (And.intro gg2 (And.intro gg0 (And.intro gg3 (And.intro gg4 (And.intro gg5 (And.intro gg6 (And.intro gg7 trivial))))))))
  · refine look_all (G := fun f F => ∃ t a fd qual, ts f = some t ∧ Fun K t.name qual t.st a fd ∧ agF T t F = true ∧ Binds K fd t.ps [] ∧ ∀ x, T.fname f = some x → mg x = some (.ref a) ∧ PySem.W.keepIn K (.ref a) = true) ?_ hf
    have g0 : (fun f F => ∃ t a fd qual, ts f = some t ∧ Fun K t.name qual t.st a fd ∧ agF T t F = true ∧ Binds K fd t.ps [] ∧ ∀ x, T.fname f = some x → mg x = some (.ref a) ∧ PySem.W.keepIn K (.ref a) = true) 0 ⟨3, 4, Wd.b_behind_run⟩ := by
      have F := fun_mk (st := t0.st) l0 c0 k0
      exact ⟨t0, _, _, _, rfl, F, ag0, F.binds (ps := ["text", "start", "signs"]) fun _ _ _ _ _ _ us hl => match us, hl with | [_, _, _], _ => rfl, fun x hx => by cases hx; exact ⟨PySem.W.mg_of X G a0, k0⟩⟩
    have g1 : (fun f F => ∃ t a fd qual, ts f = some t ∧ Fun K t.name qual t.st a fd ∧ agF T t F = true ∧ Binds K fd t.ps [] ∧ ∀ x, T.fname f = some x → mg x = some (.ref a) ∧ PySem.W.keepIn K (.ref a) = true) 1 ⟨2, 3, Wd.b_sign_at⟩ := by
      have F := fun_mk (st := t1.st) l1 c1 k1
      exact ⟨t1, _, _, _, rfl, F, ag1, F.binds (ps := ["text", "start"]) fun _ _ _ _ _ _ us hl => match us, hl with | [_, _], _ => rfl, fun x hx => by cases hx; exact ⟨PySem.W.mg_of X G a1, k1⟩⟩
    have g2 : (fun f F => ∃ t a fd qual, ts f = some t ∧ Fun K t.name qual t.st a fd ∧ agF T t F = true ∧ Binds K fd t.ps [] ∧ ∀ x, T.fname f = some x → mg x = some (.ref a) ∧ PySem.W.keepIn K (.ref a) = true) 2 ⟨2, 2, Wd.b_behind_word⟩ := by
      have F := fun_mk (st := t2.st) l2 c2 k2
      exact ⟨t2, _, _, _, rfl, F, ag2, F.binds (ps := ["text", "start"]) fun _ _ _ _ _ _ us hl => match us, hl with | [_, _], _ => rfl, fun x hx => by cases hx; exact ⟨PySem.W.mg_of X G a2, k2⟩⟩
    have g3 : (fun f F => ∃ t a fd qual, ts f = some t ∧ Fun K t.name qual t.st a fd ∧ agF T t F = true ∧ Binds K fd t.ps [] ∧ ∀ x, T.fname f = some x → mg x = some (.ref a) ∧ PySem.W.keepIn K (.ref a) = true) 3 ⟨1, 4, Wd.b_split_row⟩ := by
      have F := fun_mk (st := t3.st) l3 c3 k3
      exact ⟨t3, _, _, _, rfl, F, ag3, F.binds (ps := ["text"]) fun _ _ _ _ _ _ us hl => match us, hl with | [_], _ => rfl, fun x hx => by cases hx; exact ⟨PySem.W.mg_of X G a3, k3⟩⟩
    have g4 : (fun f F => ∃ t a fd qual, ts f = some t ∧ Fun K t.name qual t.st a fd ∧ agF T t F = true ∧ Binds K fd t.ps [] ∧ ∀ x, T.fname f = some x → mg x = some (.ref a) ∧ PySem.W.keepIn K (.ref a) = true) 4 ⟨1, 1, Wd.b_is_name⟩ := by
      have F := fun_mk (st := t4.st) l4 c4 k4
      exact ⟨t4, _, _, _, rfl, F, ag4, F.binds (ps := ["word"]) fun _ _ _ _ _ _ us hl => match us, hl with | [_], _ => rfl, fun x hx => by cases hx; exact ⟨PySem.W.mg_of X G a4, k4⟩⟩
    have g5 : (fun f F => ∃ t a fd qual, ts f = some t ∧ Fun K t.name qual t.st a fd ∧ agF T t F = true ∧ Binds K fd t.ps [] ∧ ∀ x, T.fname f = some x → mg x = some (.ref a) ∧ PySem.W.keepIn K (.ref a) = true) 5 ⟨1, 1, Wd.b_is_number⟩ := by
      have F := fun_mk (st := t5.st) l5 c5 k5
      exact ⟨t5, _, _, _, rfl, F, ag5, F.binds (ps := ["word"]) fun _ _ _ _ _ _ us hl => match us, hl with | [_], _ => rfl, fun x hx => by cases hx; exact ⟨PySem.W.mg_of X G a5, k5⟩⟩
    have g6 : (fun f F => ∃ t a fd qual, ts f = some t ∧ Fun K t.name qual t.st a fd ∧ agF T t F = true ∧ Binds K fd t.ps [] ∧ ∀ x, T.fname f = some x → mg x = some (.ref a) ∧ PySem.W.keepIn K (.ref a) = true) 6 ⟨2, 2, Tm.b_word_at⟩ := by
      have F := fun_mk (st := t6.st) l6 c6 k6
      exact ⟨t6, _, _, _, rfl, F, ag6, F.binds (ps := ["words", "at"]) fun _ _ _ _ _ _ us hl => match us, hl with | [_, _], _ => rfl, fun x hx => by cases hx; exact ⟨PySem.W.mg_of X G a6, k6⟩⟩
    have g7 : (fun f F => ∃ t a fd qual, ts f = some t ∧ Fun K t.name qual t.st a fd ∧ agF T t F = true ∧ Binds K fd t.ps [] ∧ ∀ x, T.fname f = some x → mg x = some (.ref a) ∧ PySem.W.keepIn K (.ref a) = true) 7 ⟨2, 2, Tm.b_whole⟩ := by
      have F := fun_mk (st := t7.st) l7 c7 k7
      exact ⟨t7, _, _, _, rfl, F, ag7, F.binds (ps := ["read", "words"]) fun _ _ _ _ _ _ us hl => match us, hl with | [_, _], _ => rfl, fun x hx => by cases hx; exact ⟨PySem.W.mg_of X G a7, k7⟩⟩
    have g8 : (fun f F => ∃ t a fd qual, ts f = some t ∧ Fun K t.name qual t.st a fd ∧ agF T t F = true ∧ Binds K fd t.ps [] ∧ ∀ x, T.fname f = some x → mg x = some (.ref a) ∧ PySem.W.keepIn K (.ref a) = true) 8 ⟨2, 2, Tm.b_signed_at⟩ := by
      have F := fun_mk (st := t8.st) l8 c8 k8
      exact ⟨t8, _, _, _, rfl, F, ag8, F.binds (ps := ["words", "at"]) fun _ _ _ _ _ _ us hl => match us, hl with | [_, _], _ => rfl, fun x hx => by cases hx; exact ⟨PySem.W.mg_of X G a8, k8⟩⟩
    have g9 : (fun f F => ∃ t a fd qual, ts f = some t ∧ Fun K t.name qual t.st a fd ∧ agF T t F = true ∧ Binds K fd t.ps [] ∧ ∀ x, T.fname f = some x → mg x = some (.ref a) ∧ PySem.W.keepIn K (.ref a) = true) 9 ⟨2, 2, Tm.b_plus_at⟩ := by
      have F := fun_mk (st := t9.st) l9 c9 k9
      exact ⟨t9, _, _, _, rfl, F, ag9, F.binds (ps := ["words", "at"]) fun _ _ _ _ _ _ us hl => match us, hl with | [_, _], _ => rfl, fun x hx => by cases hx; exact ⟨PySem.W.mg_of X G a9, k9⟩⟩
    have g10 : (fun f F => ∃ t a fd qual, ts f = some t ∧ Fun K t.name qual t.st a fd ∧ agF T t F = true ∧ Binds K fd t.ps [] ∧ ∀ x, T.fname f = some x → mg x = some (.ref a) ∧ PySem.W.keepIn K (.ref a) = true) 10 ⟨3, 5, Tm.b_named_at⟩ := by
      have F := fun_mk (st := t10.st) l10 c10 k10
      exact ⟨t10, _, _, _, rfl, F, ag10, F.binds (ps := ["kind", "words", "at"]) fun _ _ _ _ _ _ us hl => match us, hl with | [_, _, _], _ => rfl, fun x hx => by cases hx; exact ⟨PySem.W.mg_of X G a10, k10⟩⟩
    have g11 : (fun f F => ∃ t a fd qual, ts f = some t ∧ Fun K t.name qual t.st a fd ∧ agF T t F = true ∧ Binds K fd t.ps [] ∧ ∀ x, T.fname f = some x → mg x = some (.ref a) ∧ PySem.W.keepIn K (.ref a) = true) 11 ⟨2, 3, Tm.b_plain_at⟩ := by
      have F := fun_mk (st := t11.st) l11 c11 k11
      exact ⟨t11, _, _, _, rfl, F, ag11, F.binds (ps := ["words", "at"]) fun _ _ _ _ _ _ us hl => match us, hl with | [_, _], _ => rfl, fun x hx => by cases hx; exact ⟨PySem.W.mg_of X G a11, k11⟩⟩
    have g12 : (fun f F => ∃ t a fd qual, ts f = some t ∧ Fun K t.name qual t.st a fd ∧ agF T t F = true ∧ Binds K fd t.ps [] ∧ ∀ x, T.fname f = some x → mg x = some (.ref a) ∧ PySem.W.keepIn K (.ref a) = true) 12 ⟨2, 2, Tm.b_list_at⟩ := by
      have F := fun_mk (st := t12.st) l12 c12 k12
      exact ⟨t12, _, _, _, rfl, F, ag12, F.binds (ps := ["words", "at"]) fun _ _ _ _ _ _ us hl => match us, hl with | [_, _], _ => rfl, fun x hx => by cases hx; exact ⟨PySem.W.mg_of X G a12, k12⟩⟩
    have g13 : (fun f F => ∃ t a fd qual, ts f = some t ∧ Fun K t.name qual t.st a fd ∧ agF T t F = true ∧ Binds K fd t.ps [] ∧ ∀ x, T.fname f = some x → mg x = some (.ref a) ∧ PySem.W.keepIn K (.ref a) = true) 13 ⟨2, 5, Tm.b_cell_at⟩ := by
      have F := fun_mk (st := t13.st) l13 c13 k13
      exact ⟨t13, _, _, _, rfl, F, ag13, F.binds (ps := ["words", "at"]) fun _ _ _ _ _ _ us hl => match us, hl with | [_, _], _ => rfl, fun x hx => by cases hx; exact ⟨PySem.W.mg_of X G a13, k13⟩⟩
    have g14 : (fun f F => ∃ t a fd qual, ts f = some t ∧ Fun K t.name qual t.st a fd ∧ agF T t F = true ∧ Binds K fd t.ps [] ∧ ∀ x, T.fname f = some x → mg x = some (.ref a) ∧ PySem.W.keepIn K (.ref a) = true) 14 ⟨2, 3, Tm.b_term_at⟩ := by
      have F := fun_mk (st := t14.st) l14 c14 k14
      exact ⟨t14, _, _, _, rfl, F, ag14, F.binds (ps := ["words", "at"]) fun _ _ _ _ _ _ us hl => match us, hl with | [_, _], _ => rfl, fun x hx => by cases hx; exact ⟨PySem.W.mg_of X G a14, k14⟩⟩
    have g15 : (fun f F => ∃ t a fd qual, ts f = some t ∧ Fun K t.name qual t.st a fd ∧ agF T t F = true ∧ Binds K fd t.ps [] ∧ ∀ x, T.fname f = some x → mg x = some (.ref a) ∧ PySem.W.keepIn K (.ref a) = true) 15 ⟨1, 1, Tw.b_write_plus⟩ := by
      have F := fun_mk (st := t15.st) l15 c15 k15
      exact ⟨t15, _, _, _, rfl, F, ag15, F.binds (ps := ["plus"]) fun _ _ _ _ _ _ us hl => match us, hl with | [_], _ => rfl, fun x hx => by cases hx; exact ⟨PySem.W.mg_of X G a15, k15⟩⟩
    have g16 : (fun f F => ∃ t a fd qual, ts f = some t ∧ Fun K t.name qual t.st a fd ∧ agF T t F = true ∧ Binds K fd t.ps [] ∧ ∀ x, T.fname f = some x → mg x = some (.ref a) ∧ PySem.W.keepIn K (.ref a) = true) 16 ⟨1, 1, Tw.b_write_list⟩ := by
      have F := fun_mk (st := t16.st) l16 c16 k16
      exact ⟨t16, _, _, _, rfl, F, ag16, F.binds (ps := ["told"]) fun _ _ _ _ _ _ us hl => match us, hl with | [_], _ => rfl, fun x hx => by cases hx; exact ⟨PySem.W.mg_of X G a16, k16⟩⟩
    have g17 : (fun f F => ∃ t a fd qual, ts f = some t ∧ Fun K t.name qual t.st a fd ∧ agF T t F = true ∧ Binds K fd t.ps [] ∧ ∀ x, T.fname f = some x → mg x = some (.ref a) ∧ PySem.W.keepIn K (.ref a) = true) 17 ⟨1, 1, Tw.b_write_term⟩ := by
      have F := fun_mk (st := t17.st) l17 c17 k17
      exact ⟨t17, _, _, _, rfl, F, ag17, F.binds (ps := ["term"]) fun _ _ _ _ _ _ us hl => match us, hl with | [_], _ => rfl, fun x hx => by cases hx; exact ⟨PySem.W.mg_of X G a17, k17⟩⟩
    have g21 : (fun f F => ∃ t a fd qual, ts f = some t ∧ Fun K t.name qual t.st a fd ∧ agF T t F = true ∧ Binds K fd t.ps [] ∧ ∀ x, T.fname f = some x → mg x = some (.ref a) ∧ PySem.W.keepIn K (.ref a) = true) 21 ⟨0, 0, Lw.b_law_letters⟩ := by
      have F := fun_mk (st := t21.st) l21 c21 k21
      exact ⟨t21, _, _, _, rfl, F, ag21, F.binds (ps := []) fun _ _ _ _ _ _ us hl => match us, hl with | [], _ => rfl, fun x hx => by cases hx; exact ⟨PySem.W.mg_of X G a21, k21⟩⟩
    have g22 : (fun f F => ∃ t a fd qual, ts f = some t ∧ Fun K t.name qual t.st a fd ∧ agF T t F = true ∧ Binds K fd t.ps [] ∧ ∀ x, T.fname f = some x → mg x = some (.ref a) ∧ PySem.W.keepIn K (.ref a) = true) 22 ⟨1, 1, Lw.b_law_list_text⟩ := by
      have F := fun_mk (st := t22.st) l22 c22 k22
      exact ⟨t22, _, _, _, rfl, F, ag22, F.binds (ps := ["_law_reference"]) fun _ _ _ _ _ _ us hl => match us, hl with | [_], _ => rfl, fun x hx => by cases hx; exact ⟨PySem.W.mg_of X G a22, k22⟩⟩
    have g23 : (fun f F => ∃ t a fd qual, ts f = some t ∧ Fun K t.name qual t.st a fd ∧ agF T t F = true ∧ Binds K fd t.ps [] ∧ ∀ x, T.fname f = some x → mg x = some (.ref a) ∧ PySem.W.keepIn K (.ref a) = true) 23 ⟨2, 2, Lw.b_law_joins⟩ := by
      have F := fun_mk (st := t23.st) l23 c23 k23
      exact ⟨t23, _, _, _, rfl, F, ag23, F.binds (ps := ["_law_left", "_law_right"]) fun _ _ _ _ _ _ us hl => match us, hl with | [_, _], _ => rfl, fun x hx => by cases hx; exact ⟨PySem.W.mg_of X G a23, k23⟩⟩
    have g24 : (fun f F => ∃ t a fd qual, ts f = some t ∧ Fun K t.name qual t.st a fd ∧ agF T t F = true ∧ Binds K fd t.ps [] ∧ ∀ x, T.fname f = some x → mg x = some (.ref a) ∧ PySem.W.keepIn K (.ref a) = true) 24 ⟨2, 3, Lw.b_law_same⟩ := by
      have F := fun_mk (st := t24.st) l24 c24 k24
      exact ⟨t24, _, _, _, rfl, F, ag24, F.binds (ps := ["_law_found", "_law_expected"]) fun _ _ _ _ _ _ us hl => match us, hl with | [_, _], _ => rfl, fun x hx => by cases hx; exact ⟨PySem.W.mg_of X G a24, k24⟩⟩
    have g25 : (fun f F => ∃ t a fd qual, ts f = some t ∧ Fun K t.name qual t.st a fd ∧ agF T t F = true ∧ Binds K fd t.ps [] ∧ ∀ x, T.fname f = some x → mg x = some (.ref a) ∧ PySem.W.keepIn K (.ref a) = true) 25 ⟨0, 1, Lr.b_law_reserved⟩ := by
      have F := fun_mk (st := t25.st) l25 c25 k25
      exact ⟨t25, _, _, _, rfl, F, ag25, F.binds (ps := []) fun _ _ _ _ _ _ us hl => match us, hl with | [], _ => rfl, fun x hx => by cases hx; exact ⟨PySem.W.mg_of X G a25, k25⟩⟩
    have g26 : (fun f F => ∃ t a fd qual, ts f = some t ∧ Fun K t.name qual t.st a fd ∧ agF T t F = true ∧ Binds K fd t.ps [] ∧ ∀ x, T.fname f = some x → mg x = some (.ref a) ∧ PySem.W.keepIn K (.ref a) = true) 26 ⟨1, 2, Lr.b_law_is_name⟩ := by
      have F := fun_mk (st := t26.st) l26 c26 k26
      exact ⟨t26, _, _, _, rfl, F, ag26, F.binds (ps := ["_law_word_here"]) fun _ _ _ _ _ _ us hl => match us, hl with | [_], _ => rfl, fun x hx => by cases hx; exact ⟨PySem.W.mg_of X G a26, k26⟩⟩
    have g27 : (fun f F => ∃ t a fd qual, ts f = some t ∧ Fun K t.name qual t.st a fd ∧ agF T t F = true ∧ Binds K fd t.ps [] ∧ ∀ x, T.fname f = some x → mg x = some (.ref a) ∧ PySem.W.keepIn K (.ref a) = true) 27 ⟨1, 2, Lr.b_law_is_number⟩ := by
      have F := fun_mk (st := t27.st) l27 c27 k27
      exact ⟨t27, _, _, _, rfl, F, ag27, F.binds (ps := ["_law_word_here"]) fun _ _ _ _ _ _ us hl => match us, hl with | [_], _ => rfl, fun x hx => by cases hx; exact ⟨PySem.W.mg_of X G a27, k27⟩⟩
    have g28 : (fun f F => ∃ t a fd qual, ts f = some t ∧ Fun K t.name qual t.st a fd ∧ agF T t F = true ∧ Binds K fd t.ps [] ∧ ∀ x, T.fname f = some x → mg x = some (.ref a) ∧ PySem.W.keepIn K (.ref a) = true) 28 ⟨1, 1, Lr.b_law_list_words⟩ := by
      have F := fun_mk (st := t28.st) l28 c28 k28
      exact ⟨t28, _, _, _, rfl, F, ag28, F.binds (ps := ["_law_reference"]) fun _ _ _ _ _ _ us hl => match us, hl with | [_], _ => rfl, fun x hx => by cases hx; exact ⟨PySem.W.mg_of X G a28, k28⟩⟩
    have g29 : (fun f F => ∃ t a fd qual, ts f = some t ∧ Fun K t.name qual t.st a fd ∧ agF T t F = true ∧ Binds K fd t.ps [] ∧ ∀ x, T.fname f = some x → mg x = some (.ref a) ∧ PySem.W.keepIn K (.ref a) = true) 29 ⟨2, 2, Lr.b_law_word⟩ := by
      have F := fun_mk (st := t29.st) l29 c29 k29
      exact ⟨t29, _, _, _, rfl, F, ag29, F.binds (ps := ["_law_words", "_law_at"]) fun _ _ _ _ _ _ us hl => match us, hl with | [_, _], _ => rfl, fun x hx => by cases hx; exact ⟨PySem.W.mg_of X G a29, k29⟩⟩
    have g30 : (fun f F => ∃ t a fd qual, ts f = some t ∧ Fun K t.name qual t.st a fd ∧ agF T t F = true ∧ Binds K fd t.ps [] ∧ ∀ x, T.fname f = some x → mg x = some (.ref a) ∧ PySem.W.keepIn K (.ref a) = true) 30 ⟨2, 2, Lr.b_law_read_plus⟩ := by
      have F := fun_mk (st := t30.st) l30 c30 k30
      exact ⟨t30, _, _, _, rfl, F, ag30, F.binds (ps := ["_law_words", "_law_at"]) fun _ _ _ _ _ _ us hl => match us, hl with | [_, _], _ => rfl, fun x hx => by cases hx; exact ⟨PySem.W.mg_of X G a30, k30⟩⟩
    have g31 : (fun f F => ∃ t a fd qual, ts f = some t ∧ Fun K t.name qual t.st a fd ∧ agF T t F = true ∧ Binds K fd t.ps [] ∧ ∀ x, T.fname f = some x → mg x = some (.ref a) ∧ PySem.W.keepIn K (.ref a) = true) 31 ⟨2, 5, Lr.b_law_read_plain⟩ := by
      have F := fun_mk (st := t31.st) l31 c31 k31
      exact ⟨t31, _, _, _, rfl, F, ag31, F.binds (ps := ["_law_words", "_law_at"]) fun _ _ _ _ _ _ us hl => match us, hl with | [_, _], _ => rfl, fun x hx => by cases hx; exact ⟨PySem.W.mg_of X G a31, k31⟩⟩
    have g32 : (fun f F => ∃ t a fd qual, ts f = some t ∧ Fun K t.name qual t.st a fd ∧ agF T t F = true ∧ Binds K fd t.ps [] ∧ ∀ x, T.fname f = some x → mg x = some (.ref a) ∧ PySem.W.keepIn K (.ref a) = true) 32 ⟨2, 3, Lr.b_law_read_list⟩ := by
      have F := fun_mk (st := t32.st) l32 c32 k32
      exact ⟨t32, _, _, _, rfl, F, ag32, F.binds (ps := ["_law_words", "_law_at"]) fun _ _ _ _ _ _ us hl => match us, hl with | [_, _], _ => rfl, fun x hx => by cases hx; exact ⟨PySem.W.mg_of X G a32, k32⟩⟩
    have g49 : (fun f F => ∃ t a fd qual, ts f = some t ∧ Fun K t.name qual t.st a fd ∧ agF T t F = true ∧ Binds K fd t.ps [] ∧ ∀ x, T.fname f = some x → mg x = some (.ref a) ∧ PySem.W.keepIn K (.ref a) = true) 49 ⟨2, 4, Cm.b_comparison_at⟩ := by
      have F := fun_mk (st := t49.st) l49 c49 k49
      exact ⟨t49, _, _, _, rfl, F, ag49, F.binds (ps := ["words", "at"]) fun _ _ _ _ _ _ us hl => match us, hl with | [_, _], _ => rfl, fun x hx => by cases hx; exact ⟨PySem.W.mg_of X G a49, k49⟩⟩
    have g50 : (fun f F => ∃ t a fd qual, ts f = some t ∧ Fun K t.name qual t.st a fd ∧ agF T t F = true ∧ Binds K fd t.ps [] ∧ ∀ x, T.fname f = some x → mg x = some (.ref a) ∧ PySem.W.keepIn K (.ref a) = true) 50 ⟨2, 2, Wc.b_write_part⟩ := by
      have F := fun_mk (st := t50.st) l50 c50 k50
      exact ⟨t50, _, _, _, rfl, F, ag50, F.binds (ps := ["condition", "wrapped"]) fun _ _ _ _ _ _ us hl => match us, hl with | [_, _], _ => rfl, fun x hx => by cases hx; exact ⟨PySem.W.mg_of X G a50, k50⟩⟩
    have g51 : (fun f F => ∃ t a fd qual, ts f = some t ∧ Fun K t.name qual t.st a fd ∧ agF T t F = true ∧ Binds K fd t.ps [] ∧ ∀ x, T.fname f = some x → mg x = some (.ref a) ∧ PySem.W.keepIn K (.ref a) = true) 51 ⟨1, 2, Wc.b_write_condition⟩ := by
      have F := fun_mk (st := t51.st) l51 c51 k51
      exact ⟨t51, _, _, _, rfl, F, ag51, F.binds (ps := ["condition"]) fun _ _ _ _ _ _ us hl => match us, hl with | [_], _ => rfl, fun x hx => by cases hx; exact ⟨PySem.W.mg_of X G a51, k51⟩⟩
    have g86 : (fun f F => ∃ t a fd qual, ts f = some t ∧ Fun K t.name qual t.st a fd ∧ agF T t F = true ∧ Binds K fd t.ps [] ∧ ∀ x, T.fname f = some x → mg x = some (.ref a) ∧ PySem.W.keepIn K (.ref a) = true) 86 ⟨3, 5, Cd.b_part_at⟩ := by
      have F := fun_mk (st := t86.st) l86 c86 k86
      exact ⟨t86, _, _, _, rfl, F, ag86, F.binds (ps := ["words", "at", "opened"]) fun _ _ _ _ _ _ us hl => match us, hl with | [_, _, _], _ => rfl, fun x hx => by cases hx; exact ⟨PySem.W.mg_of X G a86, k86⟩⟩
    have g87 : (fun f F => ∃ t a fd qual, ts f = some t ∧ Fun K t.name qual t.st a fd ∧ agF T t F = true ∧ Binds K fd t.ps [] ∧ ∀ x, T.fname f = some x → mg x = some (.ref a) ∧ PySem.W.keepIn K (.ref a) = true) 87 ⟨2, 2, Cd.b_joined⟩ := by
      have F := fun_mk (st := t87.st) l87 c87 k87
      exact ⟨t87, _, _, _, rfl, F, ag87, F.binds (ps := ["word", "parts"]) fun _ _ _ _ _ _ us hl => match us, hl with | [_, _], _ => rfl, fun x hx => by cases hx; exact ⟨PySem.W.mg_of X G a87, k87⟩⟩
    have g88 : (fun f F => ∃ t a fd qual, ts f = some t ∧ Fun K t.name qual t.st a fd ∧ agF T t F = true ∧ Binds K fd t.ps [] ∧ ∀ x, T.fname f = some x → mg x = some (.ref a) ∧ PySem.W.keepIn K (.ref a) = true) 88 ⟨3, 5, Cd.b_and_at⟩ := by
      have F := fun_mk (st := t88.st) l88 c88 k88
      exact ⟨t88, _, _, _, rfl, F, ag88, F.binds (ps := ["words", "at", "opened"]) fun _ _ _ _ _ _ us hl => match us, hl with | [_, _, _], _ => rfl, fun x hx => by cases hx; exact ⟨PySem.W.mg_of X G a88, k88⟩⟩
    have g89 : (fun f F => ∃ t a fd qual, ts f = some t ∧ Fun K t.name qual t.st a fd ∧ agF T t F = true ∧ Binds K fd t.ps [] ∧ ∀ x, T.fname f = some x → mg x = some (.ref a) ∧ PySem.W.keepIn K (.ref a) = true) 89 ⟨3, 5, Cd.b_or_at⟩ := by
      have F := fun_mk (st := t89.st) l89 c89 k89
      exact ⟨t89, _, _, _, rfl, F, ag89, F.binds (ps := ["words", "at", "opened"]) fun _ _ _ _ _ _ us hl => match us, hl with | [_, _, _], _ => rfl, fun x hx => by cases hx; exact ⟨PySem.W.mg_of X G a89, k89⟩⟩
    have g90 : (fun f F => ∃ t a fd qual, ts f = some t ∧ Fun K t.name qual t.st a fd ∧ agF T t F = true ∧ Binds K fd t.ps [] ∧ ∀ x, T.fname f = some x → mg x = some (.ref a) ∧ PySem.W.keepIn K (.ref a) = true) 90 ⟨1, 1, Cd.b_condition_of⟩ := by
      have F := fun_mk (st := t90.st) l90 c90 k90
      exact ⟨t90, _, _, _, rfl, F, ag90, F.binds (ps := ["words"]) fun _ _ _ _ _ _ us hl => match us, hl with | [_], _ => rfl, fun x hx => by cases hx; exact ⟨PySem.W.mg_of X G a90, k90⟩⟩
    have g91 : (fun f F => ∃ t a fd qual, ts f = some t ∧ Fun K t.name qual t.st a fd ∧ agF T t F = true ∧ Binds K fd t.ps [] ∧ ∀ x, T.fname f = some x → mg x = some (.ref a) ∧ PySem.W.keepIn K (.ref a) = true) 91 ⟨2, 8, H3.b_law_draws⟩ := by
      have F := fun_mk (st := t91.st) l91 c91 k91
      exact ⟨t91, _, _, _, rfl, F, ag91, F.binds (ps := ["_law_script", "_law_many_here"]) fun _ _ _ _ _ _ us hl => match us, hl with | [_, _], _ => rfl, fun x hx => by cases hx; exact ⟨PySem.W.mg_of X G a91, k91⟩⟩
    have g92 : (fun f F => ∃ t a fd qual, ts f = some t ∧ Fun K t.name qual t.st a fd ∧ agF T t F = true ∧ Binds K fd t.ps [] ∧ ∀ x, T.fname f = some x → mg x = some (.ref a) ∧ PySem.W.keepIn K (.ref a) = true) 92 ⟨2, 4, H3.b_law_take⟩ := by
      have F := fun_mk (st := t92.st) l92 c92 k92
      exact ⟨t92, _, _, _, rfl, F, ag92, F.binds (ps := ["_law_hand", "_law_many_here"]) fun _ _ _ _ _ _ us hl => match us, hl with | [_, _], _ => rfl, fun x hx => by cases hx; exact ⟨PySem.W.mg_of X G a92, k92⟩⟩
    have g93 : (fun f F => ∃ t a fd qual, ts f = some t ∧ Fun K t.name qual t.st a fd ∧ agF T t F = true ∧ Binds K fd t.ps [] ∧ ∀ x, T.fname f = some x → mg x = some (.ref a) ∧ PySem.W.keepIn K (.ref a) = true) 93 ⟨1, 1, L3.b_law_plus_words⟩ := by
      have F := fun_mk (st := t93.st) l93 c93 k93
      exact ⟨t93, _, _, _, rfl, F, ag93, F.binds (ps := ["_law_plus"]) fun _ _ _ _ _ _ us hl => match us, hl with | [_], _ => rfl, fun x hx => by cases hx; exact ⟨PySem.W.mg_of X G a93, k93⟩⟩
    have g94 : (fun f F => ∃ t a fd qual, ts f = some t ∧ Fun K t.name qual t.st a fd ∧ agF T t F = true ∧ Binds K fd t.ps [] ∧ ∀ x, T.fname f = some x → mg x = some (.ref a) ∧ PySem.W.keepIn K (.ref a) = true) 94 ⟨1, 1, L3.b_law_words_of⟩ := by
      have F := fun_mk (st := t94.st) l94 c94 k94
      exact ⟨t94, _, _, _, rfl, F, ag94, F.binds (ps := ["_law_term"]) fun _ _ _ _ _ _ us hl => match us, hl with | [_], _ => rfl, fun x hx => by cases hx; exact ⟨PySem.W.mg_of X G a94, k94⟩⟩
    have g95 : (fun f F => ∃ t a fd qual, ts f = some t ∧ Fun K t.name qual t.st a fd ∧ agF T t F = true ∧ Binds K fd t.ps [] ∧ ∀ x, T.fname f = some x → mg x = some (.ref a) ∧ PySem.W.keepIn K (.ref a) = true) 95 ⟨1, 1, L3.b_law_plus_text⟩ := by
      have F := fun_mk (st := t95.st) l95 c95 k95
      exact ⟨t95, _, _, _, rfl, F, ag95, F.binds (ps := ["_law_plus"]) fun _ _ _ _ _ _ us hl => match us, hl with | [_], _ => rfl, fun x hx => by cases hx; exact ⟨PySem.W.mg_of X G a95, k95⟩⟩
    have g96 : (fun f F => ∃ t a fd qual, ts f = some t ∧ Fun K t.name qual t.st a fd ∧ agF T t F = true ∧ Binds K fd t.ps [] ∧ ∀ x, T.fname f = some x → mg x = some (.ref a) ∧ PySem.W.keepIn K (.ref a) = true) 96 ⟨1, 1, L3.b_law_text⟩ := by
      have F := fun_mk (st := t96.st) l96 c96 k96
      exact ⟨t96, _, _, _, rfl, F, ag96, F.binds (ps := ["_law_term"]) fun _ _ _ _ _ _ us hl => match us, hl with | [_], _ => rfl, fun x hx => by cases hx; exact ⟨PySem.W.mg_of X G a96, k96⟩⟩
    have g97 : (fun f F => ∃ t a fd qual, ts f = some t ∧ Fun K t.name qual t.st a fd ∧ agF T t F = true ∧ Binds K fd t.ps [] ∧ ∀ x, T.fname f = some x → mg x = some (.ref a) ∧ PySem.W.keepIn K (.ref a) = true) 97 ⟨2, 5, L3.b_law_spaced⟩ := by
      have F := fun_mk (st := t97.st) l97 c97 k97
      exact ⟨t97, _, _, _, rfl, F, ag97, F.binds (ps := ["_law_hand", "_law_words"]) fun _ _ _ _ _ _ us hl => match us, hl with | [_, _], _ => rfl, fun x hx => by cases hx; exact ⟨PySem.W.mg_of X G a97, k97⟩⟩
    have g98 : (fun f F => ∃ t a fd qual, ts f = some t ∧ Fun K t.name qual t.st a fd ∧ agF T t F = true ∧ Binds K fd t.ps [] ∧ ∀ x, T.fname f = some x → mg x = some (.ref a) ∧ PySem.W.keepIn K (.ref a) = true) 98 ⟨2, 5, L3.b_law_read⟩ := by
      have F := fun_mk (st := t98.st) l98 c98 k98
      exact ⟨t98, _, _, _, rfl, F, ag98, F.binds (ps := ["_law_words", "_law_at"]) fun _ _ _ _ _ _ us hl => match us, hl with | [_, _], _ => rfl, fun x hx => by cases hx; exact ⟨PySem.W.mg_of X G a98, k98⟩⟩
    have g99 : (fun f F => ∃ t a fd qual, ts f = some t ∧ Fun K t.name qual t.st a fd ∧ agF T t F = true ∧ Binds K fd t.ps [] ∧ ∀ x, T.fname f = some x → mg x = some (.ref a) ∧ PySem.W.keepIn K (.ref a) = true) 99 ⟨1, 2, K03.b_read_condition⟩ := by
      have F := fun_mk (st := t99.st) l99 c99 k99
      exact ⟨t99, _, _, _, rfl, F, ag99, F.binds (ps := ["text"]) fun _ _ _ _ _ _ us hl => match us, hl with | [_], _ => rfl, fun x hx => by cases hx; exact ⟨PySem.W.mg_of X G a99, k99⟩⟩
    have g100 : (fun f F => ∃ t a fd qual, ts f = some t ∧ Fun K t.name qual t.st a fd ∧ agF T t F = true ∧ Binds K fd t.ps [] ∧ ∀ x, T.fname f = some x → mg x = some (.ref a) ∧ PySem.W.keepIn K (.ref a) = true) 100 ⟨1, 4, K03.b_law_simple⟩ := by
      have F := fun_mk (st := t100.st) l100 c100 k100
      exact ⟨t100, _, _, _, rfl, F, ag100, F.binds (ps := ["_law_hand"]) fun _ _ _ _ _ _ us hl => match us, hl with | [_], _ => rfl, fun x hx => by cases hx; exact ⟨PySem.W.mg_of X G a100, k100⟩⟩
    have g101 : (fun f F => ∃ t a fd qual, ts f = some t ∧ Fun K t.name qual t.st a fd ∧ agF T t F = true ∧ Binds K fd t.ps [] ∧ ∀ x, T.fname f = some x → mg x = some (.ref a) ∧ PySem.W.keepIn K (.ref a) = true) 101 ⟨3, 9, K03.b_law_tree⟩ := by
      have F := fun_mk (st := t101.st) l101 c101 k101
      exact ⟨t101, _, _, _, rfl, F, ag101, F.binds (ps := ["_law_hand", "_law_depth", "_law_purse"]) fun _ _ _ _ _ _ us hl => match us, hl with | [_, _, _], _ => rfl, fun x hx => by cases hx; exact ⟨PySem.W.mg_of X G a101, k101⟩⟩
    have g102 : (fun f F => ∃ t a fd qual, ts f = some t ∧ Fun K t.name qual t.st a fd ∧ agF T t F = true ∧ Binds K fd t.ps [] ∧ ∀ x, T.fname f = some x → mg x = some (.ref a) ∧ PySem.W.keepIn K (.ref a) = true) 102 ⟨2, 2, K03.b_law_needs⟩ := by
      have F := fun_mk (st := t102.st) l102 c102 k102
      exact ⟨t102, _, _, _, rfl, F, ag102, F.binds (ps := ["_law_word_here", "_law_part"]) fun _ _ _ _ _ _ us hl => match us, hl with | [_, _], _ => rfl, fun x hx => by cases hx; exact ⟨PySem.W.mg_of X G a102, k102⟩⟩
    have g103 : (fun f F => ∃ t a fd qual, ts f = some t ∧ Fun K t.name qual t.st a fd ∧ agF T t F = true ∧ Binds K fd t.ps [] ∧ ∀ x, T.fname f = some x → mg x = some (.ref a) ∧ PySem.W.keepIn K (.ref a) = true) 103 ⟨1, 5, K03.b_law_condition_text⟩ := by
      have F := fun_mk (st := t103.st) l103 c103 k103
      exact ⟨t103, _, _, _, rfl, F, ag103, F.binds (ps := ["_law_condition"]) fun _ _ _ _ _ _ us hl => match us, hl with | [_], _ => rfl, fun x hx => by cases hx; exact ⟨PySem.W.mg_of X G a103, k103⟩⟩
    have g104 : (fun f F => ∃ t a fd qual, ts f = some t ∧ Fun K t.name qual t.st a fd ∧ agF T t F = true ∧ Binds K fd t.ps [] ∧ ∀ x, T.fname f = some x → mg x = some (.ref a) ∧ PySem.W.keepIn K (.ref a) = true) 104 ⟨2, 10, K03.b_law_spoilt⟩ := by
      have F := fun_mk (st := t104.st) l104 c104 k104
      exact ⟨t104, _, _, _, rfl, F, ag104, F.binds (ps := ["_law_hand", "_law_words"]) fun _ _ _ _ _ _ us hl => match us, hl with | [_, _], _ => rfl, fun x hx => by cases hx; exact ⟨PySem.W.mg_of X G a104, k104⟩⟩
    have g105 : (fun f F => ∃ t a fd qual, ts f = some t ∧ Fun K t.name qual t.st a fd ∧ agF T t F = true ∧ Binds K fd t.ps [] ∧ ∀ x, T.fname f = some x → mg x = some (.ref a) ∧ PySem.W.keepIn K (.ref a) = true) 105 ⟨1, 2, K03.b_law_many⟩ := by
      have F := fun_mk (st := t105.st) l105 c105 k105
      exact ⟨t105, _, _, _, rfl, F, ag105, F.binds (ps := ["_law_hand"]) fun _ _ _ _ _ _ us hl => match us, hl with | [_], _ => rfl, fun x hx => by cases hx; exact ⟨PySem.W.mg_of X G a105, k105⟩⟩
    have g106 : (fun f F => ∃ t a fd qual, ts f = some t ∧ Fun K t.name qual t.st a fd ∧ agF T t F = true ∧ Binds K fd t.ps [] ∧ ∀ x, T.fname f = some x → mg x = some (.ref a) ∧ PySem.W.keepIn K (.ref a) = true) 106 ⟨4, 8, K03.b_law_dressed⟩ := by
      have F := fun_mk (st := t106.st) l106 c106 k106
      exact ⟨t106, _, _, _, rfl, F, ag106, F.binds (ps := ["_law_hand", "_law_condition", "_law_pairs", "_law_more"]) fun _ _ _ _ _ _ us hl => match us, hl with | [_, _, _, _], _ => rfl, fun x hx => by cases hx; exact ⟨PySem.W.mg_of X G a106, k106⟩⟩
    have g107 : (fun f F => ∃ t a fd qual, ts f = some t ∧ Fun K t.name qual t.st a fd ∧ agF T t F = true ∧ Binds K fd t.ps [] ∧ ∀ x, T.fname f = some x → mg x = some (.ref a) ∧ PySem.W.keepIn K (.ref a) = true) 107 ⟨2, 4, K03.b_law_read_cmp⟩ := by
      have F := fun_mk (st := t107.st) l107 c107 k107
      exact ⟨t107, _, _, _, rfl, F, ag107, F.binds (ps := ["_law_words", "_law_at"]) fun _ _ _ _ _ _ us hl => match us, hl with | [_, _], _ => rfl, fun x hx => by cases hx; exact ⟨PySem.W.mg_of X G a107, k107⟩⟩
    have g108 : (fun f F => ∃ t a fd qual, ts f = some t ∧ Fun K t.name qual t.st a fd ∧ agF T t F = true ∧ Binds K fd t.ps [] ∧ ∀ x, T.fname f = some x → mg x = some (.ref a) ∧ PySem.W.keepIn K (.ref a) = true) 108 ⟨3, 4, K03.b_law_read_not⟩ := by
      have F := fun_mk (st := t108.st) l108 c108 k108
      exact ⟨t108, _, _, _, rfl, F, ag108, F.binds (ps := ["_law_words", "_law_at", "_law_opened"]) fun _ _ _ _ _ _ us hl => match us, hl with | [_, _, _], _ => rfl, fun x hx => by cases hx; exact ⟨PySem.W.mg_of X G a108, k108⟩⟩
    have g109 : (fun f F => ∃ t a fd qual, ts f = some t ∧ Fun K t.name qual t.st a fd ∧ agF T t F = true ∧ Binds K fd t.ps [] ∧ ∀ x, T.fname f = some x → mg x = some (.ref a) ∧ PySem.W.keepIn K (.ref a) = true) 109 ⟨3, 6, K03.b_law_read_and⟩ := by
      have F := fun_mk (st := t109.st) l109 c109 k109
      exact ⟨t109, _, _, _, rfl, F, ag109, F.binds (ps := ["_law_words", "_law_at", "_law_opened"]) fun _ _ _ _ _ _ us hl => match us, hl with | [_, _, _], _ => rfl, fun x hx => by cases hx; exact ⟨PySem.W.mg_of X G a109, k109⟩⟩
    have g110 : (fun f F => ∃ t a fd qual, ts f = some t ∧ Fun K t.name qual t.st a fd ∧ agF T t F = true ∧ Binds K fd t.ps [] ∧ ∀ x, T.fname f = some x → mg x = some (.ref a) ∧ PySem.W.keepIn K (.ref a) = true) 110 ⟨3, 6, K03.b_law_read_or⟩ := by
      have F := fun_mk (st := t110.st) l110 c110 k110
      exact ⟨t110, _, _, _, rfl, F, ag110, F.binds (ps := ["_law_words", "_law_at", "_law_opened"]) fun _ _ _ _ _ _ us hl => match us, hl with | [_, _, _], _ => rfl, fun x hx => by cases hx; exact ⟨PySem.W.mg_of X G a110, k110⟩⟩
    have g111 : (fun f F => ∃ t a fd qual, ts f = some t ∧ Fun K t.name qual t.st a fd ∧ agF T t F = true ∧ Binds K fd t.ps [] ∧ ∀ x, T.fname f = some x → mg x = some (.ref a) ∧ PySem.W.keepIn K (.ref a) = true) 111 ⟨1, 2, K03.b_law_read_condition⟩ := by
      have F := fun_mk (st := t111.st) l111 c111 k111
      exact ⟨t111, _, _, _, rfl, F, ag111, F.binds (ps := ["_law_words"]) fun _ _ _ _ _ _ us hl => match us, hl with | [_], _ => rfl, fun x hx => by cases hx; exact ⟨PySem.W.mg_of X G a111, k111⟩⟩
    have g112 : (fun f F => ∃ t a fd qual, ts f = some t ∧ Fun K t.name qual t.st a fd ∧ agF T t F = true ∧ Binds K fd t.ps [] ∧ ∀ x, T.fname f = some x → mg x = some (.ref a) ∧ PySem.W.keepIn K (.ref a) = true) 112 ⟨1, 15, K03.b_law⟩ := by
      have F := fun_mk (st := t112.st) l112 c112 k112
      exact ⟨t112, _, _, _, rfl, F, ag112, F.binds (ps := ["_law_script"]) fun _ _ _ _ _ _ us hl => match us, hl with | [_], _ => rfl, fun x hx => by cases hx; exact ⟨PySem.W.mg_of X G a112, k112⟩⟩
    exact (And.intro g0 (And.intro g1 (And.intro g2 (And.intro g3 (And.intro g4 (And.intro g5 (And.intro g6 (And.intro g7 (And.intro g8 (And.intro g9 (And.intro g10 (And.intro g11 (And.intro g12 (And.intro g13 (And.intro g14 (And.intro g15 (And.intro g16 (And.intro g17 (And.intro g21 (And.intro g22 (And.intro g23 (And.intro g24 (And.intro g25 (And.intro g26 (And.intro g27 (And.intro g28 (And.intro g29 (And.intro g30 (And.intro g31 (And.intro g32 (And.intro g49 (And.intro g50 (And.intro g51 (And.intro g86 (And.intro g87 (And.intro g88 (And.intro g89 (And.intro g90 (And.intro g91 (And.intro g92 (And.intro g93 (And.intro g94 (And.intro g95 (And.intro g96 (And.intro g97 (And.intro g98 (And.intro g99 (And.intro g100 (And.intro g101 (And.intro g102 (And.intro g103 (And.intro g104 (And.intro g105 (And.intro g106 (And.intro g107 (And.intro g108 (And.intro g109 (And.intro g110 (And.intro g111 (And.intro g112 trivial))))))))))))))))))))))))))))))))))))))))))))))))))))))))))))
  · refine look_all (G := fun f x => ∃ F, P.fns.lookup f = some F) ?_ hx
    exact (And.intro ⟨_, rfl⟩ (And.intro ⟨_, rfl⟩ (And.intro ⟨_, rfl⟩ (And.intro ⟨_, rfl⟩ (And.intro ⟨_, rfl⟩ (And.intro ⟨_, rfl⟩ (And.intro ⟨_, rfl⟩ (And.intro ⟨_, rfl⟩ (And.intro ⟨_, rfl⟩ (And.intro ⟨_, rfl⟩ (And.intro ⟨_, rfl⟩ (And.intro ⟨_, rfl⟩ (And.intro ⟨_, rfl⟩ (And.intro ⟨_, rfl⟩ (And.intro ⟨_, rfl⟩ (And.intro ⟨_, rfl⟩ (And.intro ⟨_, rfl⟩ (And.intro ⟨_, rfl⟩ (And.intro ⟨_, rfl⟩ (And.intro ⟨_, rfl⟩ (And.intro ⟨_, rfl⟩ (And.intro ⟨_, rfl⟩ (And.intro ⟨_, rfl⟩ (And.intro ⟨_, rfl⟩ (And.intro ⟨_, rfl⟩ (And.intro ⟨_, rfl⟩ (And.intro ⟨_, rfl⟩ (And.intro ⟨_, rfl⟩ (And.intro ⟨_, rfl⟩ (And.intro ⟨_, rfl⟩ (And.intro ⟨_, rfl⟩ (And.intro ⟨_, rfl⟩ (And.intro ⟨_, rfl⟩ (And.intro ⟨_, rfl⟩ (And.intro ⟨_, rfl⟩ (And.intro ⟨_, rfl⟩ (And.intro ⟨_, rfl⟩ (And.intro ⟨_, rfl⟩ (And.intro ⟨_, rfl⟩ (And.intro ⟨_, rfl⟩ (And.intro ⟨_, rfl⟩ (And.intro ⟨_, rfl⟩ (And.intro ⟨_, rfl⟩ (And.intro ⟨_, rfl⟩ (And.intro ⟨_, rfl⟩ (And.intro ⟨_, rfl⟩ (And.intro ⟨_, rfl⟩ (And.intro ⟨_, rfl⟩ (And.intro ⟨_, rfl⟩ (And.intro ⟨_, rfl⟩ (And.intro ⟨_, rfl⟩ (And.intro ⟨_, rfl⟩ (And.intro ⟨_, rfl⟩ (And.intro ⟨_, rfl⟩ (And.intro ⟨_, rfl⟩ (And.intro ⟨_, rfl⟩ (And.intro ⟨_, rfl⟩ (And.intro ⟨_, rfl⟩ (And.intro ⟨_, rfl⟩ (And.intro ⟨_, rfl⟩ trivial))))))))))))))))))))))))))))))))))))))))))))))))))))))))))))
  · refine look_all (G := fun c x => ∃ f F t a fd qual, P.init.lookup c = some f ∧ P.fns.lookup f = some F ∧ ts f = some t ∧ Fun K t.name qual t.st a fd ∧ agF T t F = true ∧ Binds K fd t.ps [] ∧ mg x = some (.ref ((([] : List (Nat × Addr)).lookup c).getD 0)) ∧ Mk K ((([] : List (Nat × Addr)).lookup c).getD 0) a) ?_ hx
    exact trivial
  · simp [P] at hx
  · simp [P] at hx
theorem walk {l : PySem.W.OpenLaw} {q : Program} {loose : List Str} {XP : (Str → Option Value) → Heap → Prop} {YP : World → Heap → Prop} {d : DefRec} {K : Params → PySem.W.Frag} (hn : l.most = some 63) (hdf : d.params.defaults = [])
    (hY : ∀ (w : World) (h : Heap), YP w h → (K w.params).In h)
    (F : ∀ (w : World) (mg : Str → Option Value) (fa : Addr) (h : Heap), (K w.params).In h → h.Ns mainGlobals mg → mg d.name = some (.ref fa) → ∃ Cl : Nat → Addr, PFacts P T Cl ts (K w.params) mg ∧ ∃ fd : FuncData, (∀ (s : Shared) (v : Value), BindsTo s fd ⟨[v], []⟩ [("_law_script", v)]) ∧ Fun (K w.params) "law" "law" t112.st fa fd) :
    PySem.W.WalkO q loose XP YP l.row.toRowW d [] (fun f vs => PySem.call f vs) :=
  walk_G (n := 63) (k := 2 * 46) (x := "_law_script") hn (by decide) hdf ⟨rfl, by decide, by decide⟩ hY fun w mg fa h KX G hm => by
    obtain ⟨Cl, PF, fd, hb, hf⟩ := F w mg fa h KX G hm
    exact ⟨fd, _, hb, fun base _ _ => fn_all PF 46 112 ⟨1, 15, K03.b_law⟩ rfl t112 fa fd _ rfl hf ag112, law_sp law_pure⟩
end K03
open PySem PySem.W PyProof.Rows in
set_option maxRecDepth 100000 in
set_option maxHeartbeats 0 in
theorem PySem.Challenge.cw_swornrun_k03_conditions_read_back_holds : PySem.Challenge.rw_swornrun_k03_conditions_read_back.Holds := by
  w_on; o_law; k_head; (case hw => w_witness2)
  k_fill
  refine K03.walk (l := PySem.Challenge.rw_swornrun_k03_conditions_read_back) rfl rfl (fun w h Y => PySem.W.kIn_of Y) ?F
  case F =>
    intro w mg fa h KX G hmg
    refine' K03.all_mk KX G hmg ?a0 ?l0 ?c0 ?k0 ?a1 ?l1 ?c1 ?k1 ?a2 ?l2 ?c2 ?k2 ?a3 ?l3 ?c3 ?k3 ?a4 ?l4 ?c4 ?k4 ?a5 ?l5 ?c5 ?k5 ?a6 ?l6 ?c6 ?k6 ?a7 ?l7 ?c7 ?k7 ?a8 ?l8 ?c8 ?k8 ?a9 ?l9 ?c9 ?k9 ?a10 ?l10 ?c10 ?k10 ?a11 ?l11 ?c11 ?k11 ?a12 ?l12 ?c12 ?k12 ?a13 ?l13 ?c13 ?k13 ?a14 ?l14 ?c14 ?k14 ?a15 ?l15 ?c15 ?k15 ?a16 ?l16 ?c16 ?k16 ?a17 ?l17 ?c17 ?k17 ?a21 ?l21 ?c21 ?k21 ?a22 ?l22 ?c22 ?k22 ?a23 ?l23 ?c23 ?k23 ?a24 ?l24 ?c24 ?k24 ?a25 ?l25 ?c25 ?k25 ?a26 ?l26 ?c26 ?k26 ?a27 ?l27 ?c27 ?k27 ?a28 ?l28 ?c28 ?k28 ?a29 ?l29 ?c29 ?k29 ?a30 ?l30 ?c30 ?k30 ?a31 ?l31 ?c31 ?k31 ?a32 ?l32 ?c32 ?k32 ?a49 ?l49 ?c49 ?k49 ?a50 ?l50 ?c50 ?k50 ?a51 ?l51 ?c51 ?k51 ?a86 ?l86 ?c86 ?k86 ?a87 ?l87 ?c87 ?k87 ?a88 ?l88 ?c88 ?k88 ?a89 ?l89 ?c89 ?k89 ?a90 ?l90 ?c90 ?k90 ?a91 ?l91 ?c91 ?k91 ?a92 ?l92 ?c92 ?k92 ?a93 ?l93 ?c93 ?k93 ?a94 ?l94 ?c94 ?k94 ?a95 ?l95 ?c95 ?k95 ?a96 ?l96 ?c96 ?k96 ?a97 ?l97 ?c97 ?k97 ?a98 ?l98 ?c98 ?k98 ?a99 ?l99 ?c99 ?k99 ?a100 ?l100 ?c100 ?k100 ?a101 ?l101 ?c101 ?k101 ?a102 ?l102 ?c102 ?k102 ?a103 ?l103 ?c103 ?k103 ?a104 ?l104 ?c104 ?k104 ?a105 ?l105 ?c105 ?k105 ?a106 ?l106 ?c106 ?k106 ?a107 ?l107 ?c107 ?k107 ?a108 ?l108 ?c108 ?k108 ?a109 ?l109 ?c109 ?k109 ?a110 ?l110 ?c110 ?k110 ?a111 ?l111 ?c111 ?k111 ?a112 ?l112 ?c112 ?k112 ?z0 ?z1 ?z2 ?z3 ?z4 ?z5 ?z6 ?z7 ?z8 ?z9 ?z10 ?z11 ?z12 ?z13 ?z14 ?z15 ?z16 ?z17 ?z18 ?z19 ?hg1 ?hg2 ?hg0 ?gl0 ?gv0 ?hg3 ?gl3 ?gv3 ?hg4 ?hg5 ?hg6 ?gl6 ?gv6 ?hg7
    (case a0 => k_is)
    (case l0 => k_is)
    (case c0 => k_is)
    (case k0 => k_is)
    (case a1 => k_is)
    (case l1 => k_is)
    (case c1 => k_is)
    (case k1 => k_is)
    (case a2 => k_is)
    (case l2 => k_is)
    (case c2 => k_is)
    (case k2 => k_is)
    (case a3 => k_is)
    (case l3 => k_is)
    (case c3 => k_is)
    (case k3 => k_is)
    (case a4 => k_is)
    (case l4 => k_is)
    (case c4 => k_is)
    (case k4 => k_is)
    (case a5 => k_is)
    (case l5 => k_is)
    (case c5 => k_is)
    (case k5 => k_is)
    (case a6 => k_is)
    (case l6 => k_is)
    (case c6 => k_is)
    (case k6 => k_is)
    (case a7 => k_is)
    (case l7 => k_is)
    (case c7 => k_is)
    (case k7 => k_is)
    (case a8 => k_is)
    (case l8 => k_is)
    (case c8 => k_is)
    (case k8 => k_is)
    (case a9 => k_is)
    (case l9 => k_is)
    (case c9 => k_is)
    (case k9 => k_is)
    (case a10 => k_is)
    (case l10 => k_is)
    (case c10 => k_is)
    (case k10 => k_is)
    (case a11 => k_is)
    (case l11 => k_is)
    (case c11 => k_is)
    (case k11 => k_is)
    (case a12 => k_is)
    (case l12 => k_is)
    (case c12 => k_is)
    (case k12 => k_is)
    (case a13 => k_is)
    (case l13 => k_is)
    (case c13 => k_is)
    (case k13 => k_is)
    (case a14 => k_is)
    (case l14 => k_is)
    (case c14 => k_is)
    (case k14 => k_is)
    (case a15 => k_is)
    (case l15 => k_is)
    (case c15 => k_is)
    (case k15 => k_is)
    (case a16 => k_is)
    (case l16 => k_is)
    (case c16 => k_is)
    (case k16 => k_is)
    (case a17 => k_is)
    (case l17 => k_is)
    (case c17 => k_is)
    (case k17 => k_is)
    (case a21 => k_is)
    (case l21 => k_is)
    (case c21 => k_is)
    (case k21 => k_is)
    (case a22 => k_is)
    (case l22 => k_is)
    (case c22 => k_is)
    (case k22 => k_is)
    (case a23 => k_is)
    (case l23 => k_is)
    (case c23 => k_is)
    (case k23 => k_is)
    (case a24 => k_is)
    (case l24 => k_is)
    (case c24 => k_is)
    (case k24 => k_is)
    (case a25 => k_is)
    (case l25 => k_is)
    (case c25 => k_is)
    (case k25 => k_is)
    (case a26 => k_is)
    (case l26 => k_is)
    (case c26 => k_is)
    (case k26 => k_is)
    (case a27 => k_is)
    (case l27 => k_is)
    (case c27 => k_is)
    (case k27 => k_is)
    (case a28 => k_is)
    (case l28 => k_is)
    (case c28 => k_is)
    (case k28 => k_is)
    (case a29 => k_is)
    (case l29 => k_is)
    (case c29 => k_is)
    (case k29 => k_is)
    (case a30 => k_is)
    (case l30 => k_is)
    (case c30 => k_is)
    (case k30 => k_is)
    (case a31 => k_is)
    (case l31 => k_is)
    (case c31 => k_is)
    (case k31 => k_is)
    (case a32 => k_is)
    (case l32 => k_is)
    (case c32 => k_is)
    (case k32 => k_is)
    (case a49 => k_is)
    (case l49 => k_is)
    (case c49 => k_is)
    (case k49 => k_is)
    (case a50 => k_is)
    (case l50 => k_is)
    (case c50 => k_is)
    (case k50 => k_is)
    (case a51 => k_is)
    (case l51 => k_is)
    (case c51 => k_is)
    (case k51 => k_is)
    (case a86 => k_is)
    (case l86 => k_is)
    (case c86 => k_is)
    (case k86 => k_is)
    (case a87 => k_is)
    (case l87 => k_is)
    (case c87 => k_is)
    (case k87 => k_is)
    (case a88 => k_is)
    (case l88 => k_is)
    (case c88 => k_is)
    (case k88 => k_is)
    (case a89 => k_is)
    (case l89 => k_is)
    (case c89 => k_is)
    (case k89 => k_is)
    (case a90 => k_is)
    (case l90 => k_is)
    (case c90 => k_is)
    (case k90 => k_is)
    (case a91 => k_is)
    (case l91 => k_is)
    (case c91 => k_is)
    (case k91 => k_is)
    (case a92 => k_is)
    (case l92 => k_is)
    (case c92 => k_is)
    (case k92 => k_is)
    (case a93 => k_is)
    (case l93 => k_is)
    (case c93 => k_is)
    (case k93 => k_is)
    (case a94 => k_is)
    (case l94 => k_is)
    (case c94 => k_is)
    (case k94 => k_is)
    (case a95 => k_is)
    (case l95 => k_is)
    (case c95 => k_is)
    (case k95 => k_is)
    (case a96 => k_is)
    (case l96 => k_is)
    (case c96 => k_is)
    (case k96 => k_is)
    (case a97 => k_is)
    (case l97 => k_is)
    (case c97 => k_is)
    (case k97 => k_is)
    (case a98 => k_is)
    (case l98 => k_is)
    (case c98 => k_is)
    (case k98 => k_is)
    (case a99 => k_is)
    (case l99 => k_is)
    (case c99 => k_is)
    (case k99 => k_is)
    (case a100 => k_is)
    (case l100 => k_is)
    (case c100 => k_is)
    (case k100 => k_is)
    (case a101 => k_is)
    (case l101 => k_is)
    (case c101 => k_is)
    (case k101 => k_is)
    (case a102 => k_is)
    (case l102 => k_is)
    (case c102 => k_is)
    (case k102 => k_is)
    (case a103 => k_is)
    (case l103 => k_is)
    (case c103 => k_is)
    (case k103 => k_is)
    (case a104 => k_is)
    (case l104 => k_is)
    (case c104 => k_is)
    (case k104 => k_is)
    (case a105 => k_is)
    (case l105 => k_is)
    (case c105 => k_is)
    (case k105 => k_is)
    (case a106 => k_is)
    (case l106 => k_is)
    (case c106 => k_is)
    (case k106 => k_is)
    (case a107 => k_is)
    (case l107 => k_is)
    (case c107 => k_is)
    (case k107 => k_is)
    (case a108 => k_is)
    (case l108 => k_is)
    (case c108 => k_is)
    (case k108 => k_is)
    (case a109 => k_is)
    (case l109 => k_is)
    (case c109 => k_is)
    (case k109 => k_is)
    (case a110 => k_is)
    (case l110 => k_is)
    (case c110 => k_is)
    (case k110 => k_is)
    (case a111 => k_is)
    (case l111 => k_is)
    (case c111 => k_is)
    (case k111 => k_is)
    (case a112 => k_is)
    (case l112 => k_is)
    (case c112 => k_is)
    (case k112 => k_is)
    (case z0 => k_is)
    (case z1 => k_is)
    (case z2 => k_is)
    (case z3 => k_is)
    (case z4 => k_is)
    (case z5 => k_is)
    (case z6 => k_is)
    (case z7 => k_is)
    (case z8 => k_is)
    (case z9 => k_is)
    (case z10 => k_is)
    (case z11 => k_is)
    (case z12 => k_is)
    (case z13 => k_is)
    (case z14 => k_is)
    (case z15 => k_is)
    (case z16 => k_is)
    (case z17 => k_is)
    (case z18 => k_is)
    (case z19 => k_is)
    (case hg1 => k_is)
    (case hg2 => k_is)
    (case hg0 => k_is)
    (case gl0 => k_is)
    (case gv0 => exact ⟨by rfl, by decide⟩)
    (case hg3 => k_is)
    (case gl3 => k_is)
    (case gv3 => exact ⟨by rfl, by decide⟩)
    (case hg4 => k_is)
    (case hg5 => k_is)
    (case hg6 => k_is)
    (case gl6 => k_is)
    (case gv6 => exact ⟨by rfl, by decide⟩)
    (case hg7 => k_is)

