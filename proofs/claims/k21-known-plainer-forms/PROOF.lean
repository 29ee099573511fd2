import PyProof.Rows.All
import Wide.All
import OpenK.AllK
import Wide.FinOn
import HandS.Base
import HandS.Call
import HandS.List
import HandS.Exc
import HandS.Comp
import HandS.Iter
import HandS.Text
import HandS.TupAny
import HandS.TupMul
import HandS.Wide
import HandS.Words
import HandS.WordsList
import HandS.Style
import HandS.Deep
import PyProof.FitsInt
import PyProof.Rows.ReprOcc
import HandS.Zip
import HandS.IsInst
import HandS.More
import KE.KUnpackStar
import HandS.Defaults
import KE.KStateDown
import HandS.Ends
import HandS.WordsExc
import HandS.Codes
import HandS.Head0
import HandS.Head1
import HandS.Head2
import HandS.HeadEnd
import HandS.HeadHook1
import HandS.HeadHook2
import HandS.HeadHook3
import Lean
import PySem.Challenge.RW_holdmargins_k21_known_plainer_forms
set_option Elab.async false
section
set_option linter.all false
set_option maxRecDepth 100000
/-! PiA: a small language of values, its terms and their meaning (plain Lean). -/
namespace Pi
open PySem

inductive Val where
  | non | bl (b : Bool) | int (i : Int) | str (x : Str)
  | tup (l : List Val) | lst (l : List Val) | loc (n : Nat) | exn (c : String) (x : Val)
instance : Inhabited Val := ⟨.non⟩

inductive Ob where
  | lst (l : List Val)
  | ro (l : List Val)
  | ins (c : String) (fs : List (String × Val))
abbrev Store := List Ob

inductive Res (α : Type) where
  | ok (a : α) (S : Store)
  | exc (x : Val) (S : Store)
  | bad
def Res.bind {α β : Type} (r : Res α) (f : α → Store → Res β) : Res β :=
  match r with
  | .ok a S => f a S
  | .exc x S => .exc x S
  | .bad => .bad
@[simp] theorem Res.bind_ok {α β : Type} (a : α) (S : Store) (f : α → Store → Res β) : (Res.ok a S).bind f = f a S := rfl
@[simp] theorem Res.bind_exc {α β : Type} (x : Val) (S : Store) (f : α → Store → Res β) : (Res.exc x S : Res α).bind f = .exc x S := rfl
@[simp] theorem Res.bind_bad {α β : Type} (f : α → Store → Res β) : (Res.bad : Res α).bind f = .bad := rfl
def Res.of {α : Type} (o : Option α) (S : Store) : Res α :=
  match o with
  | some a => .ok a S
  | none => .bad
@[simp] theorem Res.of_some {α : Type} (a : α) (S : Store) : Res.of (some a) S = .ok a S := rfl
@[simp] theorem Res.of_none {α : Type} (S : Store) : (Res.of none S : Res α) = .bad := rfl

/-- the longest list, tuple, text -/
abbrev lim : Nat := 16777216

inductive Bop where | add | sub | mul | fdiv | mod | pow
inductive Cop where | eq | ne | lt | le | gt | ge | isn | nisn | isb | nisb | in_ | nin
inductive Ty where | int | bool | str | lst | tup | exc (n : String)
inductive Bi where | len | abs | int | str | tuple | list | all | any | min2 | max2 | repr | sorted | sum | bool | join

def fitMul (a b : Int) : Bool := decide (a.natAbs < 2 ^ 64) || decide (b.natAbs < 2 ^ 64) || decide (a.natAbs.log2 + b.natAbs.log2 < 130000000)

def binV : Bop → Val → Val → Option Val
  | .add, .int a, .int b => some (.int (a + b))
  | .add, .str a, .str b => if a.length + b.length ≤ lim then some (.str (a ++ b)) else none
  | .add, .lst a, .lst b => if a.length + b.length ≤ lim then some (.lst (a ++ b)) else none
  | .add, .tup a, .tup b => if a.length + b.length ≤ lim then some (.tup (a ++ b)) else none
  | .sub, .int a, .int b => some (.int (a - b))
  | .mul, .int a, .int b => if fitMul a b then some (.int (a * b)) else none
  | .mul, .lst a, .int b => if -(2 ^ 63) ≤ b ∧ b < 2 ^ 63 ∧ a.length * b.toNat ≤ lim then some (.lst (List.replicate b.toNat a).flatten) else none
  | .mul, .tup a, .int b => if 2 ≤ b ∧ b ≤ 1000 ∧ a.length ≤ 1000 ∧ 0 < a.length then some (.tup (List.replicate b.toNat a).flatten) else none
  | .fdiv, .int a, .int b => if b = 0 ∨ 9000 ≤ b.natAbs.log2 then none else some (.int (a.fdiv b))
  | .mod, .int a, .int b => if b = 0 then none else some (.int (a.fmod b))
  | .pow, .int a, .int b => if 0 ≤ b ∧ b ≤ 1000000 ∧ a.natAbs < 2 ^ 64 then some (.int (a ^ b.toNat)) else none
  | _, _, _ => none

mutual
/-- how deep data is; none for what isn't data -/
def depV : Val → Option Nat
  | .non => some 0
  | .bl _ => some 0
  | .int _ => some 0
  | .str _ => some 0
  | .tup l => (depVs l).map (· + 1)
  | .lst l => (depVs l).map (· + 1)
  | .loc _ => none
  | .exn _ _ => none
def depVs : List Val → Option Nat
  | [] => some 0
  | v :: vs => match depV v, depVs vs with
    | some a, some b => some (max a b)
    | _, _ => none
end
def datV (v : Val) : Bool := match depV v with
  | some n => decide (n ≤ 60)
  | none => false

mutual
def eqV : Val → Val → Bool
  | .non, .non => true
  | .bl a, .bl b => a == b
  | .bl a, .int j => (if a then 1 else 0) == j
  | .int i, .bl b => i == (if b then 1 else 0)
  | .int i, .int j => i == j
  | .str x, .str y => x == y
  | .lst xs, .lst ys => eqVs xs ys
  | .tup xs, .tup ys => eqVs xs ys
  | _, _ => false
def eqVs : List Val → List Val → Bool
  | [], [] => true
  | x :: xs, y :: ys => eqV x y && eqVs xs ys
  | _, _ => false
end

def flatV : Val → Bool
  | .non => true
  | .bl _ => true
  | .int _ => true
  | .str _ => true
  | _ => false

def isN : Val → Bool
  | .non => true
  | _ => false
def cmpV : Cop → Val → Val → Option Bool
  | .eq, a, b => if datV a && datV b then some (eqV a b) else none
  | .ne, a, b => if datV a && datV b then some (!eqV a b) else none
  | .lt, .int a, .int b => some (decide (a < b))
  | .le, .int a, .int b => some (decide (a ≤ b))
  | .gt, .int a, .int b => some (decide (b < a))
  | .ge, .int a, .int b => some (decide (b ≤ a))
  | .lt, .str a, .str b => some (decide (a.cps.toList < b.cps.toList))
  | .le, .str a, .str b => some (!decide (b.cps.toList < a.cps.toList))
  | .gt, .str a, .str b => some (decide (b.cps.toList < a.cps.toList))
  | .ge, .str a, .str b => some (!decide (a.cps.toList < b.cps.toList))
  | .isn, a, .non => some (isN a)
  | .nisn, a, .non => some (!isN a)
  | .isb, .bl a, .bl c => some (decide (a = c))
  | .nisb, .bl a, .bl c => some (!decide (a = c))
  | .in_, a, .lst l => if datV a && datV (.lst l) then some (l.any fun y => eqV y a) else none
  | .nin, a, .lst l => if datV a && datV (.lst l) then some (!l.any fun y => eqV y a) else none
  | .in_, a, .tup l => if flatV a && l.all flatV then some (l.any fun y => eqV y a) else none
  | .nin, a, .tup l => if flatV a && l.all flatV then some (!l.any fun y => eqV y a) else none
  | .in_, .str a, .str b => (match a.cps.toList with
    | [c] => some (decide (c ∈ b.cps.toList))
    | _ => none)
  | .nin, .str a, .str b => (match a.cps.toList with
    | [c] => some (!decide (c ∈ b.cps.toList))
    | _ => none)
  | _, _, _ => none

def truV : Val → Option Bool
  | .non => some false
  | .bl b => some b
  | .int i => some (i != 0)
  | .str x => some (x.length != 0)
  | .lst l => some (!l.isEmpty)
  | .tup l => some (!l.isEmpty)
  | _ => none

/-- the place of an index of any sign -/
def ixN (n : Nat) (i : Int) : Option Nat := if 0 ≤ i then (if i < n then some i.toNat else none) else if -(n : Int) ≤ i then some (i + n).toNat else none
def atI {α : Type} (xs : List α) (i : Int) : Option α := (ixN xs.length i).bind fun j => xs[j]?
def ixV (S : Store) : Val → Val → Option Val
  | .lst l, .int i => atI l i
  | .tup l, .int i => atI l i
  | .str x, .int i => (atI x.cps.toList i).map fun c => .str ⟨#[c]⟩
  | .loc n, .int i => match S[n]? with
    | some (.lst l) => atI l i
    | some (.ro l) => atI l i
    | _ => none
  | _, _ => none

/-- an end of a slice -/
def sIx (n : Nat) (d : Nat) : Option Int → Nat
  | none => d
  | some i => if i < 0 then (i + n).toNat else min i.toNat n
def cutL {α : Type} (xs : List α) (lo hi : Option Int) : List α := (xs.drop (sIx xs.length 0 lo)).take (sIx xs.length xs.length hi - sIx xs.length 0 lo)
def slV (S : Store) : Val → Option Int → Option Int → Option Val
  | .loc n, a, b => match S[n]? with
    | some (.lst l) => some (.lst (cutL l a b))
    | some (.ro l) => some (.lst (cutL l a b))
    | _ => none
  | .lst l, a, b => some (.lst (cutL l a b))
  | .tup l, a, b => some (.tup (cutL l a b))
  | .str x, a, b => some (.str ⟨(cutL x.cps.toList a b).toArray⟩)
  | _, _, _ => none

/-- Python's own exceptions: each with what it stands under -/
def overB : String → List String
  | "ValueError" => ["ValueError", "Exception"]
  | "KeyError" => ["KeyError", "LookupError", "Exception"]
  | "IndexError" => ["IndexError", "LookupError", "Exception"]
  | "LookupError" => ["LookupError", "Exception"]
  | "ZeroDivisionError" => ["ZeroDivisionError", "ArithmeticError", "Exception"]
  | "OverflowError" => ["OverflowError", "ArithmeticError", "Exception"]
  | "TypeError" => ["TypeError", "Exception"]
  | _ => []

/-- eb: the base of an own exception class -/
def isaV (eb : String → Option String) : Ty → Val → Option Bool
  | .int, .int _ => some true
  | .int, .bl _ => some true
  | .bool, .bl _ => some true
  | .str, .str _ => some true
  | .lst, .lst _ => some true
  | .lst, .loc _ => none
  | .tup, .tup _ => some true
  | .exc n, .exn c _ => match eb c with
    | some b => some (n == c || (overB b).contains n)
    | none => none
  | _, .loc _ => none
  | _, .exn _ _ => none
  | _, _ => some false
def isasV (eb : String → Option String) (v : Val) : List Ty → Option Bool
  | [] => some false
  | t :: ts => match isaV eb t v with
    | some true => some true
    | some false => isasV eb v ts
    | none => none

def blsV : List Val → Option (List Bool)
  | [] => some []
  | .bl b :: r => (blsV r).map (b :: ·)
  | _ => none
def intsV : List Val → Option (List Int)
  | [] => some []
  | .int b :: r => (intsV r).map (b :: ·)
  | _ => none
def strsV : List Val → Option (List Str)
  | [] => some []
  | .str b :: r => (strsV r).map (b :: ·)
  | _ => none
def biV (S : Store) : Bi → List Val → Option Val
  | .len, [.loc n] => match S[n]? with
    | some (.lst l) => some (.int l.length)
    | some (.ro l) => some (.int l.length)
    | _ => none
  | .len, [.lst l] => some (.int l.length)
  | .len, [.tup l] => some (.int l.length)
  | .len, [.str x] => some (.int x.length)
  | .abs, [.int i] => some (.int (if i < 0 then -i else i))
  | .int, [.int i] => some (.int i)
  | .int, [.bl b] => some (.int (if b then 1 else 0))
  | .bool, [.int i] => some (.bl (i != 0))
  | .bool, [.bl b] => some (.bl b)
  | .str, [.int i] => if i.natAbs.log2 < 1920 then some (.str (toString i)) else none
  | .tuple, [.lst l] => some (.tup l)
  | .tuple, [.tup l] => some (.tup l)
  | .list, [.lst l] => some (.lst l)
  | .list, [.tup l] => some (.lst l)
  | .all, [.lst l] => (blsV l).map fun bs => .bl (bs.all id)
  | .any, [.lst l] => (blsV l).map fun bs => .bl (bs.any id)
  | .min2, [.int a, .int b] => some (.int (if b < a then b else a))
  | .max2, [.int a, .int b] => some (.int (if b > a then b else a))
  | .join, [.str s, .lst l] => (strsV l).bind fun ys => if (ys.map (·.length)).sum + ys.length * s.length ≤ lim then some (.str (Str.join s ys)) else none
  | .sum, [.lst l] => (intsV l).map fun ns => .int ns.sum
  | _, _ => none

/-- where a parameter's value comes from: the i-th written argument, or a constant -/
inductive Src where | a (i : Nat) | d (v : Val)
def srcV (vs : List Val) : Src → Option Val
  | .a i => vs[i]?
  | .d v => some v
def srcVs (vs : List Val) : List Src → Option (List Val)
  | [] => some []
  | s :: r => match srcV vs s, srcVs vs r with
    | some v, some l => some (v :: l)
    | _, _ => none

/-- targets -/
inductive Pat where
  | v (i : Nat)
  | tup (ps : List Pat)
  | star (ps : List Pat) (i : Nat)
abbrev Env := List (Option Val)
def setE (ρ : Env) (i : Nat) (v : Val) : Env := ρ.set i (some v)
mutual
def bindP : Pat → Val → Env → Option Env
  | .v i, v, ρ => some (setE ρ i v)
  | .tup ps, .tup l, ρ => if l.length = ps.length then bindPs ps l ρ else none
  | .star ps i, .tup l, ρ => if ps.length ≤ l.length then (bindPs ps (l.take ps.length) ρ).map fun ρ' => setE ρ' i (.lst (l.drop ps.length)) else none
  | .star ps i, .lst l, ρ => if ps.length ≤ l.length then (bindPs ps (l.take ps.length) ρ).map fun ρ' => setE ρ' i (.lst (l.drop ps.length)) else none
  | _, _, _ => none
def bindPs : List Pat → List Val → Env → Option Env
  | [], [], ρ => some ρ
  | p :: ps, v :: vs, ρ => (bindP p v ρ).bind fun ρ' => bindPs ps vs ρ'
  | _, _, _ => none
end

/-- terms -/
inductive IE where
  | lv (i : Nat)
  | cst (v : Val)
  | gv (x : String) (v : Val)
  | bin (o : Bop) (a b : IE)
  | neg (a : IE)
  | cmp (o : Cop) (a b : IE)
  | chain (o1 o2 : Cop) (a b c : IE)
  | not (a : IE)
  | and (es : List IE)
  | or (es : List IE)
  | ite (c a b : IE)
  | tup (es : List IE)
  | lst (es : List IE)
  | box (es : List IE)
  | ix (a i : IE)
  | sl (a : IE) (lo hi : List IE)
  | call (f : String) (es : List IE)
  | callB (f : String) (es : List IE) (sh : Nat) (src : List Src)
  | bi (b : Bi) (es : List IE)
  | comp (itk : Nat) (its : List IE) (p : Pat) (cs : List IE) (e : IE)
  | comp2 (itk : Nat) (its : List IE) (p : Pat) (itk2 : Nat) (its2 : List IE) (p2 : Pat) (cs : List IE) (e : IE)
  | isa (e : IE) (ts : List Ty)
  | mkx (c : String) (e : IE)
  | fldx (e : IE) (f : String)
  | fld (e : IE) (f : String)
  | dix (x : String) (kvs : List (Str × Val)) (k : IE)
inductive IS where
  | expr (e : IE)
  | asg (p : Pat) (e : IE)
  | own (i : Nat) (e : IE)
  | share (i : Nat)
  | par (is : List (Nat × Bool)) (es : List IE)
  | aug (i : Nat) (o : Bop) (e : IE)
  | setL (i : Nat) (k e : IE)
  | setB (b k e : IE)
  | app (i : Nat) (e : IE)
  | pop (i : Nat) (k : List IE)
  | popTo (j i : Nat) (k : List IE)
  | ret (e : IE)
  | retN
  | ite (c : IE) (a b : List IS)
  | forr (itk : Nat) (its : List IE) (p : Pat) (b : List IS)
  | whil (c : IE) (b : List IS)
  | brk | cnt | pass
  | raise (e : IE)
  | tryx (b : IS) (c : String) (i : Nat) (h : List IS)

/-- what a loop walks: 0 a list or tuple or text, 1 range(n), 2 range(a, b), 3 range(a, b, c), 4 zip, 5 enumerate -/
def rangeL (a : Int) : Nat → List Val
  | 0 => []
  | n + 1 => .int a :: rangeL (a + 1) n
def rangeD (a c : Int) : Nat → List Val
  | 0 => []
  | n + 1 => .int a :: rangeD (a + c) c n
def enumL (k : Int) : List Val → List Val
  | [] => []
  | v :: r => .tup [.int k, v] :: enumL (k + 1) r
def zipL : List Val → List Val → List Val
  | a :: r, b :: s => .tup [a, b] :: zipL r s
  | _, _ => []
def itV (S : Store) : Nat → List Val → Option (List Val)
  | 0, [.lst l] => some l
  | 0, [.tup l] => some l
  | 0, [.str x] => some (x.cps.toList.map fun c => .str ⟨#[c]⟩)
  | 1, [.int n] => if -(2 ^ 62) ≤ n ∧ n ≤ lim then some (rangeL 0 n.toNat) else none
  | 2, [.int a, .int b] => if -(2 ^ 62) ≤ a ∧ a < 2 ^ 62 ∧ -(2 ^ 62) ≤ b ∧ b < 2 ^ 62 ∧ b - a ≤ lim then some (rangeL a (b - a).toNat) else none
  | 4, [.lst x, .lst y] => some (zipL x y)
  | 4, [.tup x, .tup y] => some (zipL x y)
  | 5, [.lst x] => some (enumL 0 x)
  | _, _ => none

def compGo (f : Val → Store → Res (List Val)) : List Val → Store → Res (List Val)
  | [], S => .ok [] S
  | v :: r, S => (match f v S with
    | .ok ys S1 => (match compGo f r S1 with
      | .ok zs S2 => .ok (ys ++ zs) S2
      | _ => .bad)
    | _ => .bad)

def wipeE (ρ : Env) : List Nat → Env
  | [] => ρ
  | i :: r => (wipeE ρ r).set i none
mutual
def Pat.vars : Pat → List Nat
  | .v i => [i]
  | .tup ps => Pat.varsL ps
  | .star ps i => Pat.varsL ps ++ [i]
def Pat.varsL : List Pat → List Nat
  | [] => []
  | p :: ps => p.vars ++ Pat.varsL ps
end

structure Sig where
  eb : String → Option String
  xf : String → Option String
section
variable (sg : Sig) (cf : String → List Val → Store → Res Val)
mutual
def evE (ρ : Env) : IE → Store → Res Val
  | .lv i, S => (match ρ[i]? with
    | some (some v) => .ok v S
    | _ => .bad)
  | .cst v, S => .ok v S
  | .gv _ v, S => .ok v S
  | .bin o a b, S => (evE ρ a S).bind fun x S1 => (evE ρ b S1).bind fun y S2 => .of (binV o x y) S2
  | .neg a, S => (evE ρ a S).bind fun x S1 => (match x with
    | .int i => .ok (.int (-i)) S1
    | _ => .bad)
  | .cmp o a b, S => (evE ρ a S).bind fun x S1 => (evE ρ b S1).bind fun y S2 => .of ((cmpV o x y).map .bl) S2
  | .chain o1 o2 a b c, S => (evE ρ a S).bind fun x S1 => (evE ρ b S1).bind fun y S2 => (match cmpV o1 x y with
    | some true => (evE ρ c S2).bind fun z S3 => .of ((cmpV o2 y z).map .bl) S3
    | some false => .ok (.bl false) S2
    | none => .bad)
  | .not a, S => (evE ρ a S).bind fun v S1 => .of ((truV v).map fun b => .bl (!b)) S1
  | .and es, S => evAnd ρ es S
  | .or es, S => evOr ρ es S
  | .ite c a b, S => (evE ρ c S).bind fun v S1 => (match truV v with
    | some true => evE ρ a S1
    | some false => evE ρ b S1
    | none => .bad)
  | .tup es, S => (evEs ρ es S).bind fun vs S1 => .ok (.tup vs) S1
  | .lst es, S => (evEs ρ es S).bind fun vs S1 => .ok (.lst vs) S1
  | .box es, S => (evEs ρ es S).bind fun vs S1 => .ok (.loc S1.length) (S1 ++ [.lst vs])
  | .ix a i, S => (evE ρ a S).bind fun x S1 => (evE ρ i S1).bind fun y S2 => .of (ixV S2 x y) S2
  | .sl a lo hi, S => (evE ρ a S).bind fun x S1 => (evO ρ lo S1).bind fun l S2 => (evO ρ hi S2).bind fun h S3 => .of (slV S3 x l h) S3
  | .call f es, S => (evEs ρ es S).bind fun vs S1 => cf f vs S1
  | .callB f es _ src, S => (evEs ρ es S).bind fun vs S1 => (match srcVs vs src with
    | some ws => cf f ws S1
    | none => .bad)
  | .bi b es, S => (evEs ρ es S).bind fun vs S1 => .of (biV S1 b vs) S1
  | .comp k its p cs e, S => ((evEs ρ its S).bind fun vs S1 => .of (itV S1 k vs) S1).bind fun xs S1 =>
    (compGo (fun v S2 => (match bindP p v (wipeE ρ p.vars) with
      | some ρ' => (evTs ρ' cs S2).bind fun c S3 => if c then (evE ρ' e S3).bind fun y S4 => .ok [y] S4 else .ok [] S3
      | none => .bad)) xs S1).bind fun ys S2 => if ys.length ≤ lim then .ok (.lst ys) S2 else .bad
  | .comp2 k its p k2 its2 p2 cs e, S => ((evEs ρ its S).bind fun vs S1 => .of (itV S1 k vs) S1).bind fun xs S1 =>
    (compGo (fun v S2 => (match bindP p v (wipeE (wipeE ρ p.vars) p2.vars) with
      | some ρ' => ((evEs ρ' its2 S2).bind fun ws S3 => .of (itV S3 k2 ws) S3).bind fun ys S3 =>
          compGo (fun u S4 => (match bindP p2 u ρ' with
          | some ρ2 => (evTs ρ2 cs S4).bind fun c S5 => if c then (evE ρ2 e S5).bind fun y S6 => .ok [y] S6 else .ok [] S5
          | none => .bad)) ys S3
      | none => .bad)) xs S1).bind fun ys S2 => if ys.length ≤ lim then .ok (.lst ys) S2 else .bad
  | .isa e ts, S => (evE ρ e S).bind fun v S1 => .of ((isasV sg.eb v ts).map .bl) S1
  | .mkx c e, S => (evE ρ e S).bind fun v S1 => .ok (.exn c v) S1
  | .fldx e f, S => (evE ρ e S).bind fun v S1 => (match v with
    | .exn c x => if sg.xf c = some f then .ok x S1 else .bad
    | _ => .bad)
  | .fld e f, S => (evE ρ e S).bind fun v S1 => (match v with
    | .loc n => (match S1[n]? with
      | some (.ins _ fs) => .of (fs.lookup f) S1
      | _ => .bad)
    | _ => .bad)
  | .dix _ kvs k, S => (evE ρ k S).bind fun v S1 => (match v with
    | .str x => .of (kvs.lookup x) S1
    | _ => .bad)
def evEs (ρ : Env) : List IE → Store → Res (List Val)
  | [], S => .ok [] S
  | e :: es, S => (evE ρ e S).bind fun v S1 => (evEs ρ es S1).bind fun vs S2 => .ok (v :: vs) S2
/-- an end of a slice: nothing, or a number or None -/
def evO (ρ : Env) : List IE → Store → Res (Option Int)
  | [], S => .ok none S
  | e :: _, S => (evE ρ e S).bind fun v S1 => (match v with
    | .int i => .ok (some i) S1
    | _ => .bad)
def evAnd (ρ : Env) : List IE → Store → Res Val
  | [], _ => .bad
  | e :: es, S => (evE ρ e S).bind fun v S1 => (match es with
    | [] => .ok v S1
    | _ :: _ => (match v with
      | .bl true => evAnd ρ es S1
      | .bl false => .ok (.bl false) S1
      | _ => .bad))
def evOr (ρ : Env) : List IE → Store → Res Val
  | [], _ => .bad
  | e :: es, S => (evE ρ e S).bind fun v S1 => (match es with
    | [] => .ok v S1
    | _ :: _ => (match v with
      | .bl false => evOr ρ es S1
      | .bl true => .ok (.bl true) S1
      | _ => .bad))
/-- tests, from the left -/
def evTs (ρ : Env) : List IE → Store → Res Bool
  | [], S => .ok true S
  | e :: es, S => (evE ρ e S).bind fun v S1 => (match truV v with
    | some true => evTs ρ es S1
    | some false => .ok false S1
    | none => .bad)
end
/-- as a test -/
def evT (ρ : Env) (e : IE) (S : Store) : Res Bool := (evE sg cf ρ e S).bind fun v S1 => .of (truV v) S1

/-- behind a statement -/
inductive Out where
  | nx (ρ : Env) (S : Store)
  | rt (v : Val) (S : Store)
  | bk (ρ : Env) (S : Store)
  | ct (ρ : Env) (S : Store)
  | ex (x : Val) (ρ : Env) (S : Store)
  | bad
def Out.then (o : Out) (f : Env → Store → Out) : Out := match o with
  | .nx ρ S => f ρ S
  | o => o
@[simp] theorem Out.then_nx (ρ : Env) (S : Store) (f : Env → Store → Out) : (Out.nx ρ S).then f = f ρ S := rfl
@[simp] theorem Out.then_rt (v : Val) (S : Store) (f : Env → Store → Out) : (Out.rt v S).then f = .rt v S := rfl
@[simp] theorem Out.then_bk (ρ : Env) (S : Store) (f : Env → Store → Out) : (Out.bk ρ S).then f = .bk ρ S := rfl
@[simp] theorem Out.then_ct (ρ : Env) (S : Store) (f : Env → Store → Out) : (Out.ct ρ S).then f = .ct ρ S := rfl
@[simp] theorem Out.then_ex (x : Val) (ρ : Env) (S : Store) (f : Env → Store → Out) : (Out.ex x ρ S).then f = .ex x ρ S := rfl
@[simp] theorem Out.then_bad (f : Env → Store → Out) : Out.bad.then f = .bad := rfl
/-- what an expression came to, then -/
def Res.on {α : Type} (r : Res α) (ρ : Env) (f : α → Store → Out) : Out := match r with
  | .ok a S => f a S
  | .exc x S => .ex x ρ S
  | .bad => .bad
@[simp] theorem Res.on_ok {α : Type} (a : α) (S : Store) (ρ : Env) (f : α → Store → Out) : (Res.ok a S).on ρ f = f a S := rfl
@[simp] theorem Res.on_exc {α : Type} (x : Val) (S : Store) (ρ : Env) (f : α → Store → Out) : (Res.exc x S : Res α).on ρ f = .ex x ρ S := rfl
@[simp] theorem Res.on_bad {α : Type} (ρ : Env) (f : α → Store → Out) : (Res.bad : Res α).on ρ f = .bad := rfl

/-- a loop over items -/
def forGo (f : Val → Env → Store → Out) : List Val → Env → Store → Out
  | [], ρ, S => .nx ρ S
  | v :: r, ρ, S => match f v ρ S with
    | .nx ρ' S' => forGo f r ρ' S'
    | .ct ρ' S' => forGo f r ρ' S'
    | .bk ρ' S' => .nx ρ' S'
    | o => o
/-- a while: n turns at most -/
def whileIt (c : Env → Store → Res Bool) (b : Env → Store → Out) : Nat → Env → Store → Option Out
  | 0, _, _ => none
  | n + 1, ρ, S => match c ρ S with
    | .ok true S1 => (match b ρ S1 with
      | .nx ρ' S' => whileIt c b n ρ' S'
      | .ct ρ' S' => whileIt c b n ρ' S'
      | .bk ρ' S' => some (.nx ρ' S')
      | o => some o)
    | .ok false S1 => some (.nx ρ S1)
    | .exc x S1 => some (.ex x ρ S1)
    | .bad => some .bad
theorem whileIt_mono (c : Env → Store → Res Bool) (b : Env → Store → Out) : ∀ {n m : Nat} {ρ : Env} {S : Store} {o : Out}, n ≤ m → whileIt c b n ρ S = some o → whileIt c b m ρ S = some o
  | 0, _, _, _, _, _, h => by simp [whileIt] at h
  | n + 1, 0, _, _, _, hm, _ => by omega
  | n + 1, m + 1, ρ, S, o, hm, h => by
    unfold whileIt at h ⊢
    cases e : c ρ S with
    | ok k S1 =>
      rw [e] at h
      cases k with
      | true =>
        simp only at h ⊢
        cases e2 : b ρ S1 <;> rw [e2] at h <;> simp only at h ⊢ <;> first | exact whileIt_mono c b (by omega) h | exact h
      | false => exact h
    | exc x S1 => rw [e] at h; exact h
    | bad => rw [e] at h; exact h
open Classical in
noncomputable def whileM (c : Env → Store → Res Bool) (b : Env → Store → Out) (ρ : Env) (S : Store) : Out :=
  if h : ∃ n o, whileIt c b n ρ S = some o then (Classical.choose_spec h).choose else .bad
theorem whileM_of {c : Env → Store → Res Bool} {b : Env → Store → Out} {n : Nat} {ρ : Env} {S : Store} {o : Out} (h : whileIt c b n ρ S = some o) : whileM c b ρ S = o := by
  have hx : ∃ n o, whileIt c b n ρ S = some o := ⟨n, o, h⟩
  unfold whileM
  rw [dif_pos hx]
  have q := (Classical.choose_spec hx).choose_spec
  have a := whileIt_mono c b (Nat.le_max_left n (Classical.choose hx)) h
  have b' := whileIt_mono c b (Nat.le_max_right n (Classical.choose hx)) q
  rw [a] at b'
  exact (Option.some.inj b').symm
theorem whileM_it {c : Env → Store → Res Bool} {b : Env → Store → Out} {ρ : Env} {S : Store} (h : whileM c b ρ S ≠ .bad) : ∃ n, whileIt c b n ρ S = some (whileM c b ρ S) := by
  by_cases hx : ∃ n o, whileIt c b n ρ S = some o
  · obtain ⟨n, o, e⟩ := hx
    exact ⟨n, by rw [whileM_of e]; exact e⟩
  · exfalso
    apply h
    unfold whileM
    rw [dif_neg hx]
theorem whileM_eq (c : Env → Store → Res Bool) (b : Env → Store → Out) (ρ : Env) (S : Store) : whileM c b ρ S = (c ρ S).on ρ fun k S1 => if k then (match b ρ S1 with
      | .nx ρ' S' => whileM c b ρ' S'
      | .ct ρ' S' => whileM c b ρ' S'
      | .bk ρ' S' => .nx ρ' S'
      | o => o) else .nx ρ S1 := by
  have step : ∀ (o : Out), (∀ n, whileIt c b (n + 1) ρ S = some o) → whileM c b ρ S = o := fun o h => whileM_of (h 0)
  have go : ∀ (ρ' : Env) (S' : Store), (∀ n, whileIt c b (n + 1) ρ S = whileIt c b n ρ' S') → whileM c b ρ S = whileM c b ρ' S' := fun ρ' S' h => by
    by_cases hx : ∃ n o, whileIt c b n ρ' S' = some o
    · obtain ⟨n, o, e⟩ := hx
      rw [whileM_of e]
      exact whileM_of (n := n + 1) (by rw [h n]; exact e)
    · have hy : ¬ ∃ n o, whileIt c b n ρ S = some o := by
        rintro ⟨n, o, e⟩
        cases n with
        | zero => simp [whileIt] at e
        | succ n => exact hx ⟨n, o, by rw [← h n]; exact e⟩
      unfold whileM
      rw [dif_neg hx, dif_neg hy]
  cases e : c ρ S with
  | ok k S1 =>
    cases k with
    | true =>
      simp only [Res.on_ok, if_true]
      cases e2 : b ρ S1 with
      | nx ρ' S' => exact go ρ' S' fun n => by rw [whileIt, e]; simp only [e2]
      | ct ρ' S' => exact go ρ' S' fun n => by rw [whileIt, e]; simp only [e2]
      | bk ρ' S' => exact step _ fun n => by rw [whileIt, e]; simp only [e2]
      | rt v S' => exact step _ fun n => by rw [whileIt, e]; simp only [e2]
      | ex x ρ' S' => exact step _ fun n => by rw [whileIt, e]; simp only [e2]
      | bad => exact step _ fun n => by rw [whileIt, e]; simp only [e2]
    | false =>
      simp only [Res.on_ok]
      exact step _ fun n => by rw [whileIt, e]; simp
  | exc x S1 => exact step _ fun n => by rw [whileIt, e]; rfl
  | bad => exact step _ fun n => by rw [whileIt, e]; rfl

/-- ρ's i-th is a list -/
def lstE (ρ : Env) (i : Nat) : Option (List Val) := match ρ[i]? with
  | some (some (.lst l)) => some l
  | _ => none
def popL (l : List Val) : Option Int → Option (Val × List Val)
  | none => l.getLast?.map fun v => (v, l.dropLast)
  | some n => if -(2 ^ 63) ≤ n ∧ n < 2 ^ 63 then (ixN l.length n).bind fun m => l[m]?.map fun v => (v, l.eraseIdx m) else none
/-- several names at once; those that become one's own are lists -/
def parE : List (Nat × Bool) → List Val → Env → Option Env
  | [], [], ρ => some ρ
  | (i, false) :: is, v :: vs, ρ => parE is vs (setE ρ i v)
  | (i, true) :: is, .lst l :: vs, ρ => parE is vs (setE ρ i (.lst l))
  | _, _, _ => none
mutual
noncomputable def evS : IS → Env → Store → Out
  | .expr e, ρ, S => (evE sg cf ρ e S).on ρ fun _ S1 => .nx ρ S1
  | .asg p e, ρ, S => (evE sg cf ρ e S).on ρ fun v S1 => (match bindP p v ρ with
    | some ρ' => .nx ρ' S1
    | none => .bad)
  | .own i e, ρ, S => (evE sg cf ρ e S).on ρ fun v S1 => (match v with
    | .lst l => .nx (setE ρ i (.lst l)) S1
    | _ => .bad)
  | .share _, ρ, S => .nx ρ S
  | .par is es, ρ, S => (evEs sg cf ρ es S).on ρ fun vs S1 => (match parE is vs ρ with
    | some ρ' => .nx ρ' S1
    | none => .bad)
  | .aug i o e, ρ, S => (match ρ[i]? with
    | some (some x) => (evE sg cf ρ e S).on ρ fun y S1 => (match binV o x y with
      | some z => .nx (setE ρ i z) S1
      | none => .bad)
    | _ => .bad)
  | .setL i k e, ρ, S => (match lstE ρ i with
    | some l => (evE sg cf ρ e S).on ρ fun v S1 => (evE sg cf ρ k S1).on ρ fun j S2 => (match j with
      | .int j => (match ixN l.length j with
        | some n => .nx (setE ρ i (.lst (l.set n v))) S2
        | none => .bad)
      | _ => .bad)
    | none => .bad)
  | .setB b k e, ρ, S => (evE sg cf ρ e S).on ρ fun v S1 => (evE sg cf ρ b S1).on ρ fun x S2 => (evE sg cf ρ k S2).on ρ fun j S3 => (match x, j with
    | .loc n, .int j => (match S3[n]? with
      | some (.lst l) => (match ixN l.length j with
        | some m => .nx ρ (S3.set n (.lst (l.set m v)))
        | none => .bad)
      | _ => .bad)
    | _, _ => .bad)
  | .app i e, ρ, S => (match lstE ρ i with
    | some l => (evE sg cf ρ e S).on ρ fun v S1 => if l.length < lim then .nx (setE ρ i (.lst (l ++ [v]))) S1 else .bad
    | none => .bad)
  | .pop i k, ρ, S => (match lstE ρ i with
    | some l => (evO sg cf ρ k S).on ρ fun n S1 => (match popL l n with
      | some (_, l') => .nx (setE ρ i (.lst l')) S1
      | none => .bad)
    | none => .bad)
  | .popTo j i k, ρ, S => (match lstE ρ i with
    | some l => (evO sg cf ρ k S).on ρ fun n S1 => (match popL l n with
      | some (v, l') => .nx (setE (setE ρ i (.lst l')) j v) S1
      | none => .bad)
    | none => .bad)
  | .ret e, ρ, S => (evE sg cf ρ e S).on ρ fun v S1 => .rt v S1
  | .retN, _, S => .rt .non S
  | .ite c a b, ρ, S => (evT sg cf ρ c S).on ρ fun k S1 => if k then evSs a ρ S1 else evSs b ρ S1
  | .forr k its p b, ρ, S => ((evEs sg cf ρ its S).bind fun vs S1 => .of (itV S1 k vs) S1).on ρ fun xs S1 =>
    forGo (fun v ρ S => (match bindP p v ρ with
      | some ρ' => evSs b ρ' S
      | none => .bad)) xs ρ S1
  | .whil c b, ρ, S => whileM (fun ρ S => evT sg cf ρ c S) (fun ρ S => evSs b ρ S) ρ S
  | .brk, ρ, S => .bk ρ S
  | .cnt, ρ, S => .ct ρ S
  | .pass, ρ, S => .nx ρ S
  | .raise e, ρ, S => (evE sg cf ρ e S).on ρ fun v S1 => (match v with
    | .exn c x => .ex (.exn c x) ρ S1
    | _ => .bad)
  | .tryx b c i h, ρ, S => (match evS b ρ S with
    | .ex (.exn d x) ρ' S' => if c == d then (evSs h (setE ρ' i (.exn d x)) S').then fun ρ2 S2 => .nx (ρ2.set i none) S2 else (match sg.eb d with
      | some bb => if (overB bb).contains c then (evSs h (setE ρ' i (.exn d x)) S').then fun ρ2 S2 => .nx (ρ2.set i none) S2 else .ex (.exn d x) ρ' S'
      | none => .bad)
    | o => o)
noncomputable def evSs : List IS → Env → Store → Out
  | [], ρ, S => .nx ρ S
  | s :: r, ρ, S => (evS s ρ S).then fun ρ' S' => evSs r ρ' S'
end
end
/-- a def: its parameters (how many), its names (how many), its body -/
structure Fn where
  np : Nat
  nl : Nat
  body : List IS
abbrev Tab := String → Option Fn
noncomputable def callF (sg : Sig) (Φ : Tab) : Nat → String → List Val → Store → Res Val
  | 0, _, _, _ => .bad
  | d + 1, f, args, S => match Φ f with
    | none => .bad
    | some fn => if args.length = fn.np then (match evSs sg (callF sg Φ d) fn.body (args.map some ++ List.replicate (fn.nl - fn.np) none) S with
      | .nx _ S' => .ok .non S'
      | .rt v S' => .ok v S'
      | .ex x _ S' => .exc x S'
      | _ => .bad) else .bad
end Pi

end
section
set_option linter.all false
set_option maxRecDepth 100000
/-! PiB: how the small language's values stand in the heap. -/
namespace Pi
open PySem PySem.Spec PyProof.Rows L2

/-- P: what no one else may change; R: what is shared for good; μ: where the store's objects stand -/
structure Wd where
  P : Addr → Prop
  R : Addr → Prop
  μ : List Addr

/-- what is known of the exception classes: where each stands -/
structure XI where
  ce : String → Option Addr
  xf : String → Option String

/-- an exception object that nothing holds in flight -/
def exb (a C d : Addr) : HO := .ext fun h => ∃ (oe : Obj) (vs : Array Value), h.get? a = some oe ∧ Zc (.ref C) (some d) oe ∧ oe.data = .fields vs

def Lrd (H : Hp) (p : Addr → Prop) (a : Addr) (xs : List V) : Prop := p a ∧ H a = some (.lst xs)
theorem Lrd.sq {K : PySem.W.Frag} {H : Hp} {p : Addr → Prop} {a : Addr} {xs : List V} (h : Lrd H p a xs) : SqL K H a xs := .of h.2
section
variable (I : XI) (K : PySem.W.Frag) (H : Hp) (R : Addr → Prop) (μ : List Addr)
mutual
def RepV : Val → V → Prop
  | .non, v => v = .non
  | .bl b, v => v = .bl b
  | .int i, v => v = .int i
  | .str x, v => v = .str x ∧ x.length ≤ lim ∧ PyData.strOk x = true
  | .tup l, v => ∃ a xs, v = .ref a ∧ SqT K H a xs ∧ RepVs l xs
  | .lst l, v => ∃ a xs, v = .ref a ∧ Lrd H R a xs ∧ RepVs l xs
  | .loc n, v => ∃ a, v = .ref a ∧ μ[n]? = some a
  | .exn c x, v => ∃ a C d f y, v = .ref a ∧ I.ce c = some C ∧ I.xf c = some f ∧ R a ∧ R d ∧ H a = some (exb a C d) ∧ H d = some (.xd [((f : Str), y)]) ∧ RepV x y
def RepVs : List Val → List V → Prop
  | [], xs => xs = []
  | p :: ps, xs => ∃ v vs, xs = v :: vs ∧ RepV p v ∧ RepVs ps vs
end
end
section
variable {I : XI} {K : PySem.W.Frag} {H H' : Hp} {R R' : Addr → Prop} {μ μ' : List Addr}
/-- what was there stays: the shared, the tuples, the frozen -/
structure Kp (R : Addr → Prop) (H H' : Hp) : Prop where
  k : ∀ a o, R a → H a = some o → H' a = some o
  t : ∀ a xs, H a = some (.tup xs) → H' a = some (.tup xs)
  f : ∀ a o u, H a = some (.frz o u) → H' a = some (.frz o u)
theorem Kp.refl : Kp R H H := ⟨fun _ _ _ h => h, fun _ _ h => h, fun _ _ _ h => h⟩
theorem Kp.trans {H'' : Hp} (a : Kp R H H') (b : Kp R H' H'') : Kp R H H'' := ⟨fun x o r h => b.k x o r (a.k x o r h), fun x xs h => b.t x xs (a.t x xs h), fun x o u h => b.f x o u (a.f x o u h)⟩
theorem Kp.mono (a : Kp R H H') (s : ∀ x, R' x → R x) : Kp R' H H' := ⟨fun x o r h => a.k x o (s x r) h, a.t, a.f⟩
theorem Kp.new {p : Addr} {o : HO} (h : H p = none) : Kp R H (upd H p o) :=
  ⟨fun x u _ e => by rw [upd_ne (ne_of_none e h)]; exact e, fun x u e => by rw [upd_ne (ne_of_none e h)]; exact e, fun x u w e => by rw [upd_ne (ne_of_none e h)]; exact e⟩
/-- an object that isn't shared, no tuple, not frozen, is changed -/
theorem Kp.set {p : Addr} {o : HO} {xs : List V} (h : H p = some (.lst xs)) (n : ¬ R p) : Kp R H (upd H p o) :=
  ⟨fun x u r e => by rw [upd_ne (a := p) (b := x) (by intro z; subst z; exact n r)]; exact e, fun x u e => by rw [upd_ne (ne_of e h (by intro z; cases z))]; exact e, fun x u w e => by rw [upd_ne (ne_of e h (by intro z; cases z))]; exact e⟩
theorem Kp.sqT {a : Addr} {xs : List V} (k : Kp R H H') (h : SqT K H a xs) : SqT K H' a xs := by
  rcases h with (h | ⟨o, h⟩) | h
  · exact .inl (.inl (k.t _ _ h))
  · exact .inl (.inr ⟨o, k.f _ _ _ h⟩)
  · exact .inr h
theorem Kp.lrd {a : Addr} {xs : List V} (k : Kp R H H') (h : Lrd H R a xs) : Lrd H' R a xs := by
  exact ⟨h.1, k.k _ _ h.1 h.2⟩
theorem Lrd.mono {p q : Addr → Prop} {a : Addr} {xs : List V} (s : ∀ x, p x → q x) (h : Lrd H p a xs) : Lrd H q a xs := ⟨s _ h.1, h.2⟩
mutual
theorem RepV.mono (k : Kp R H H') (s : ∀ x, R x → R' x) (m : ∀ (n : Nat) (a : Addr), μ[n]? = some a → μ'[n]? = some a) : ∀ (p : Val) (v : V), RepV I K H R μ p v → RepV I K H' R' μ' p v
  | .non, _, h => h
  | .bl _, _, h => h
  | .int _, _, h => h
  | .str _, _, h => h
  | .tup l, _, h => by
    obtain ⟨a, xs, e, h1, h2⟩ := h
    exact ⟨a, xs, e, k.sqT h1, RepVs.mono k s m l xs h2⟩
  | .lst l, _, h => by
    obtain ⟨a, xs, e, h1, h2⟩ := h
    exact ⟨a, xs, e, (k.lrd h1).mono s, RepVs.mono k s m l xs h2⟩
  | .loc n, _, h => by
    obtain ⟨a, e, h1⟩ := h
    exact ⟨a, e, m n a h1⟩
  | .exn c x, _, h => by
    obtain ⟨a, C, d, f, y, e, h1, h2, h3, h4, h5, h6, h7⟩ := h
    exact ⟨a, C, d, f, y, e, h1, h2, s _ h3, s _ h4, k.k _ _ h3 h5, k.k _ _ h4 h6, RepV.mono k s m x y h7⟩
theorem RepVs.mono (k : Kp R H H') (s : ∀ x, R x → R' x) (m : ∀ (n : Nat) (a : Addr), μ[n]? = some a → μ'[n]? = some a) : ∀ (ps : List Val) (vs : List V), RepVs I K H R μ ps vs → RepVs I K H' R' μ' ps vs
  | [], _, h => h
  | p :: ps, _, h => by
    obtain ⟨v, vs, e, h1, h2⟩ := h
    exact ⟨v, vs, e, RepV.mono k s m p v h1, RepVs.mono k s m ps vs h2⟩
end
theorem RepVs.length : ∀ {ps : List Val} {vs : List V}, RepVs I K H R μ ps vs → ps.length = vs.length
  | [], _, h => by
    have e : _ = ([] : List V) := h
    rw [e] <;> rfl
  | p :: ps, _, h => by
    obtain ⟨v, vs, e, h1, h2⟩ := h
    rw [e, List.length_cons, List.length_cons, RepVs.length h2]
theorem RepVs.get : ∀ {ps : List Val} {vs : List V} {i : Nat} {p : Val}, RepVs I K H R μ ps vs → ps[i]? = some p → ∃ v, vs[i]? = some v ∧ RepV I K H R μ p v
  | [], _, _, _, _, e => by simp at e
  | q :: ps, _, i, p, h, e => by
    obtain ⟨v, vs, ev, h1, h2⟩ := h
    subst ev
    cases i with
    | zero =>
      have e' : q = p := by simpa using e
      subst e'
      exact ⟨v, rfl, h1⟩
    | succ i =>
      obtain ⟨w, hw, r⟩ := RepVs.get (i := i) (p := p) h2 (by simpa using e)
      exact ⟨w, by simpa using hw, r⟩
theorem RepVs.append : ∀ {ps qs : List Val} {vs ws : List V}, RepVs I K H R μ ps vs → RepVs I K H R μ qs ws → RepVs I K H R μ (ps ++ qs) (vs ++ ws)
  | [], _, _, _, h, h' => by
    have e : _ = ([] : List V) := h
    rw [e]
    exact h'
  | p :: ps, qs, _, ws, h, h' => by
    obtain ⟨v, vs, e, h1, h2⟩ := h
    subst e
    exact ⟨v, vs ++ ws, rfl, h1, RepVs.append h2 h'⟩
theorem RepVs.take : ∀ {ps : List Val} {vs : List V} (n : Nat), RepVs I K H R μ ps vs → RepVs I K H R μ (ps.take n) (vs.take n)
  | [], _, n, h => by
    have e : _ = ([] : List V) := h
    rw [e, List.take_nil, List.take_nil]
    rfl
  | p :: ps, _, 0, h => rfl
  | p :: ps, _, n + 1, h => by
    obtain ⟨v, vs, e, h1, h2⟩ := h
    subst e
    exact ⟨v, vs.take n, rfl, h1, RepVs.take n h2⟩
theorem RepVs.drop : ∀ {ps : List Val} {vs : List V} (n : Nat), RepVs I K H R μ ps vs → RepVs I K H R μ (ps.drop n) (vs.drop n)
  | [], _, n, h => by
    have e : _ = ([] : List V) := h
    rw [e, List.drop_nil, List.drop_nil]
    rfl
  | p :: ps, _, 0, h => h
  | p :: ps, _, n + 1, h => by
    obtain ⟨v, vs, e, h1, h2⟩ := h
    subst e
    exact RepVs.drop n h2
theorem RepVs.set {q : Val} {w : V} (r : RepV I K H R μ q w) : ∀ {ps : List Val} {vs : List V} (n : Nat), RepVs I K H R μ ps vs → RepVs I K H R μ (ps.set n q) (vs.set n w)
  | [], _, n, h => by
    have e : _ = ([] : List V) := h
    rw [e]
    rfl
  | p :: ps, _, 0, h => by
    obtain ⟨v, vs, e, h1, h2⟩ := h
    subst e
    exact ⟨w, vs, rfl, r, h2⟩
  | p :: ps, _, n + 1, h => by
    obtain ⟨v, vs, e, h1, h2⟩ := h
    subst e
    exact ⟨v, vs.set n w, rfl, h1, RepVs.set r n h2⟩
end

/-- a later world -/
structure Wd.le (W W' : Wd) : Prop where
  p : ∀ a, W.P a → W'.P a
  r : ∀ a, W.R a → W'.R a
  n : ∀ a, W'.R a → W.P a → W.R a
  m : ∀ (n : Nat) (a : Addr), W.μ[n]? = some a → W'.μ[n]? = some a
theorem Wd.le.refl {W : Wd} : W.le W := ⟨fun _ h => h, fun _ h => h, fun _ h _ => h, fun _ _ h => h⟩
theorem Wd.le.trans {A B C : Wd} (x : A.le B) (y : B.le C) : A.le C := ⟨fun a h => y.p a (x.p a h), fun a h => y.r a (x.r a h), fun a h h' => x.n a (y.n a h (x.p a h')) h', fun n a h => y.m n a (x.m n a h)⟩
structure WOk (W : Wd) (H : Hp) : Prop where
  rp : ∀ a, W.R a → W.P a
  d : ∀ a, W.P a → ∃ o, H a = some o
  nd : W.μ.Nodup
  mp : ∀ a ∈ W.μ, ¬ W.P a ∧ ∃ o, H a = some o
section
variable (I : XI) (K : PySem.W.Frag) (W : Wd) (H : Hp)
abbrev Rp (p : Val) (v : V) : Prop := RepV I K H W.R W.μ p v
abbrev Rps (p : List Val) (v : List V) : Prop := RepVs I K H W.R W.μ p v
def ObRep : Ob → Addr → Prop
  | .lst l, a => ∃ xs, H a = some (.lst xs) ∧ Rps I K W H l xs
  | .ro l, a => ∃ xs, SqL K H a xs ∧ Rps I K W H l xs
  | .ins _ _, _ => False
structure StRep (S : Store) : Prop where
  len : S.length = W.μ.length
  ob : ∀ (n : Nat) (o : Ob), S[n]? = some o → ∃ a, W.μ[n]? = some a ∧ ObRep I K W H o a
/-- a list that is one's own -/
def Own (l : List Val) (a : Addr) : Prop := W.P a ∧ ¬ W.R a ∧ ∃ xs, H a = some (.lst xs) ∧ Rps I K W H l xs
/-- borrowed; fresh since the world W0 -/
def KB (p : Val) (v : V) : Prop := match p with
  | .lst l => ∃ a xs, v = .ref a ∧ Lrd H W.P a xs ∧ Rps I K W H l xs
  | p => Rp I K W H p v
def KF (W0 : Wd) (p : Val) (v : V) : Prop := match p with
  | .lst l => ∃ a, v = .ref a ∧ Own I K W H l a ∧ ¬ W0.P a
  | p => Rp I K W H p v
structure EnvRep (O : List Nat) (ρ : Env) (σ : L2.St) : Prop where
  len : ρ.length = σ.length
  sh : ∀ (i : Nat) (p : Val), ρ[i]? = some (some p) → i ∉ O → ∃ v, σ[i]? = some (some v) ∧ Rp I K W H p v
  ow : ∀ (i : Nat) (p : Val), ρ[i]? = some (some p) → i ∈ O → ∃ l a, p = .lst l ∧ σ[i]? = some (some (V.ref a)) ∧ Own I K W H l a
  ap : ∀ (i j : Nat) (a : Addr), i ∈ O → j ∈ O → σ[i]? = some (some (V.ref a)) → σ[j]? = some (some (V.ref a)) → (∃ p, ρ[i]? = some (some p)) → (∃ p, ρ[j]? = some (some p)) → i = j
structure Sr (O : List Nat) (ρ : Env) (σ : L2.St) (S : Store) : Prop where
  w : WOk W H
  s : StRep I K W H S
  e : EnvRep I K W H O ρ σ
end
section
variable {I : XI} {K : PySem.W.Frag} {W W' W0 : Wd} {H H' : Hp} {O : List Nat} {ρ : Env} {σ : L2.St} {S S' : Store}
theorem Rp.up {p : Val} {v : V} (l : W.le W') (k : Kp W.P H H') (w : WOk W H) (h : Rp I K W H p v) : Rp I K W' H' p v := RepV.mono (k.mono w.rp) l.r l.m p v h
theorem Rps.up {p : List Val} {v : List V} (l : W.le W') (k : Kp W.P H H') (w : WOk W H) (h : Rps I K W H p v) : Rps I K W' H' p v := RepVs.mono (k.mono w.rp) l.r l.m p v h
theorem Own.up {l : List Val} {a : Addr} (le : W.le W') (k : Kp W.P H H') (w : WOk W H) (h : Own I K W H l a) : Own I K W' H' l a := by
  obtain ⟨h1, h2, xs, h3, h4⟩ := h
  exact ⟨le.p _ h1, fun z => h2 (le.n _ z h1), xs, k.k _ _ h1 h3, h4.up le k w⟩
theorem KB.up {p : Val} {v : V} (l : W.le W') (k : Kp W.P H H') (w : WOk W H) (h : KB I K W H p v) : KB I K W' H' p v := by
  cases p with
  | lst ls =>
    obtain ⟨a, xs, e, h1, h2⟩ := h
    exact ⟨a, xs, e, (k.lrd h1).mono l.p, h2.up l k w⟩
  | _ => exact Rp.up l k w h
theorem KF.kb {p : Val} {v : V} (h : KF I K W H W0 p v) : KB I K W H p v := by
  cases p with
  | lst ls =>
    obtain ⟨a, e, ⟨h1, _, xs, h3, h4⟩, _⟩ := h
    exact ⟨a, xs, e, ⟨h1, h3⟩, h4⟩
  | _ => exact h
theorem Rp.kb {p : Val} {v : V} (w : WOk W H) (h : Rp I K W H p v) : KB I K W H p v := by
  cases p with
  | lst ls =>
    obtain ⟨a, xs, e, h1, h2⟩ := h
    exact ⟨a, xs, e, h1.mono w.rp, h2⟩
  | _ => exact h
theorem EnvRep.up (le : W.le W') (k : Kp W.P H H') (w : WOk W H) (h : EnvRep I K W H O ρ σ) : EnvRep I K W' H' O ρ σ :=
  ⟨h.len, fun i p e n => by
    obtain ⟨v, h1, h2⟩ := h.sh i p e n
    exact ⟨v, h1, h2.up le k w⟩, fun i p e n => by
    obtain ⟨l, a, h1, h2, h3⟩ := h.ow i p e n
    exact ⟨l, a, h1, h2, h3.up le k w⟩, h.ap⟩
theorem Sr.up (le : W.le W') (k : Kp W.P H H') (w' : WOk W' H') (s' : StRep I K W' H' S') (h : Sr I K W H O ρ σ S) : Sr I K W' H' O ρ σ S' := ⟨w', s', h.e.up le k h.w⟩
theorem StRep.up (le : W.le W') (k : Kp W.P H H') (w : WOk W H) (m : W'.μ = W.μ) (kb : ∀ a ∈ W.μ, H' a = H a) (h : StRep I K W H S) : StRep I K W' H' S :=
  ⟨by rw [m]; exact h.len, fun n o e => by
    obtain ⟨a, h1, h2⟩ := h.ob n o e
    refine ⟨a, by rw [m]; exact h1, ?_⟩
    cases o with
    | lst l =>
      obtain ⟨xs, h3, h4⟩ := h2
      exact ⟨xs, by rw [kb a (List.mem_of_getElem? h1)]; exact h3, h4.up le k w⟩
    | ro l =>
      obtain ⟨xs, h3, h4⟩ := h2
      refine ⟨xs, ?_, h4.up le k w⟩
      have e := kb a (List.mem_of_getElem? h1)
      rcases h3 with (h3 | ⟨o, h3⟩) | h3
      · exact .inl (.inl (e.trans h3))
      · exact .inl (.inr ⟨o, e.trans h3⟩)
      · exact .inr h3
    | ins c fs => exact h2.elim⟩
/-- a new object is protected -/
def Wd.add (W : Wd) (a : Addr) : Wd := { W with P := fun b => b = a ∨ W.P b }
/-- .. and shared -/
def Wd.shr (W : Wd) (a : Addr) : Wd := { W with R := fun b => b = a ∨ W.R b }
theorem le_add {a : Addr} : W.le (W.add a) := ⟨fun _ h => .inr h, fun _ h => h, fun _ h _ => h, fun _ _ h => h⟩
theorem wok_new {p : Addr} {o : HO} (hp : H p = none) (w : WOk W H) : WOk W (upd H p o) :=
  ⟨w.rp, fun a h => by
    obtain ⟨u, e⟩ := w.d a h
    exact ⟨u, by rw [upd_ne (ne_of_none e hp)]; exact e⟩, w.nd, fun a h => by
    obtain ⟨n, u, e⟩ := w.mp a h
    exact ⟨n, u, by rw [upd_ne (ne_of_none e hp)]; exact e⟩⟩
theorem wok_add {p : Addr} {o : HO} (hp : H p = none) (w : WOk W H) : WOk (W.add p) (upd H p o) :=
  ⟨fun a h => .inr (w.rp a h), fun a h => by
    rcases h with h | h
    · subst h
      exact ⟨o, upd_same⟩
    · obtain ⟨u, e⟩ := w.d a h
      exact ⟨u, by rw [upd_ne (ne_of_none e hp)]; exact e⟩, w.nd, fun a h => by
    obtain ⟨n, u, e⟩ := w.mp a h
    refine ⟨fun z => ?_, u, by rw [upd_ne (ne_of_none e hp)]; exact e⟩
    rcases z with z | z
    · subst z
      rw [hp] at e
      cases e
    · exact n z⟩
theorem st_new {p : Addr} {o : HO} (hp : H p = none) (w : WOk W H) (h : StRep I K W H S) : StRep I K W (upd H p o) S :=
  h.up .refl (Kp.new hp) w rfl fun a ha => by
    obtain ⟨_, u, e⟩ := w.mp a ha
    exact upd_ne (ne_of_none e hp)
theorem st_add {p : Addr} {o : HO} (hp : H p = none) (w : WOk W H) (h : StRep I K W H S) : StRep I K (W.add p) (upd H p o) S :=
  h.up le_add (Kp.new hp) w rfl fun a ha => by
    obtain ⟨_, u, e⟩ := w.mp a ha
    exact upd_ne (ne_of_none e hp)
/-- what's fresh may be shared -/
theorem KF.share {p : Val} {v : V} (le : W0.le W) (w : WOk W H) (s : StRep I K W H S) (h : KF I K W H W0 p v) :
    ∃ W', W0.le W' ∧ W.μ = W'.μ ∧ (∀ a, W.P a ↔ W'.P a) ∧ WOk W' H ∧ StRep I K W' H S ∧ Rp I K W' H p v := by
  cases p with
  | lst ls =>
    obtain ⟨a, e, ⟨h1, h2, xs, h3, h4⟩, h5⟩ := h
    have l2 : ∀ x, W.R x → (W.shr a).R x := fun _ z => .inr z
    refine ⟨W.shr a, ⟨le.p, fun b z => .inr (le.r b z), fun b z q => ?_, le.m⟩, rfl, fun _ => Iff.rfl, ⟨fun b z => ?_, w.d, w.nd, w.mp⟩, ⟨s.len, fun n o z => ?_⟩, ?_⟩
    · rcases z with z | z
      · subst z
        exact absurd q h5
      · exact le.n b z q
    · rcases z with z | z
      · subst z
        exact h1
      · exact w.rp b z
    · obtain ⟨b, q1, q2⟩ := s.ob n o z
      refine ⟨b, q1, ?_⟩
      cases o with
      | lst l =>
        obtain ⟨ys, q3, q4⟩ := q2
        exact ⟨ys, q3, RepVs.mono .refl l2 (fun _ _ z => z) _ _ q4⟩
      | ro l =>
        obtain ⟨ys, q3, q4⟩ := q2
        exact ⟨ys, q3, RepVs.mono .refl l2 (fun _ _ z => z) _ _ q4⟩
      | ins c fs => exact q2.elim
    · exact ⟨a, xs, e, ⟨.inl rfl, h3⟩, RepVs.mono .refl l2 (fun _ _ z => z) _ _ h4⟩
  | _ => exact ⟨W, le, rfl, fun _ => Iff.rfl, w, s, h⟩
end
end Pi

end
section
set_option linter.all false
set_option maxRecDepth 100000
/-! PiC: operations by values. -/
namespace Pi
open PySem PySem.Spec PyProof.Rows L2

/-- what is wanted of a value that has come -/
def Done (I : XI) (K : PySem.W.Frag) (W : Wd) (H : Hp) (S : Store) (z : Val) (Q : VK) : Prop :=
  ∀ W' H' x, W.le W' → Kp W.P H H' → WOk W' H' → StRep I K W' H' S → KF I K W' H' W z x → Q x H'
section
variable {I : XI} {K : PySem.W.Frag} {W : Wd} {H : Hp} {S : Store} {Q : VK}
theorem _root_.Pi.WOk.no {p : Addr} (w : WOk W H) (hp : H p = none) : ¬ W.P p := fun z => by
  obtain ⟨_, e⟩ := w.d p z
  rw [hp] at e
  cases e
theorem Done.imm {z : Val} {x : V} (d : Done I K W H S z Q) (w : WOk W H) (s : StRep I K W H S) (h : KF I K W H W z x) : Q x H := d W H x .refl .refl w s h
theorem Done.newL {l : List Val} {xs : List V} (d : Done I K W H S (.lst l) Q) (w : WOk W H) (s : StRep I K W H S) (h : Rps I K W H l xs) (p : Addr) (hp : H p = none) : Q (.ref p) (upd H p (.lst xs)) :=
  d (W.add p) _ _ le_add (Kp.new hp) (wok_add hp w) (st_add hp w s) ⟨p, rfl, ⟨.inl rfl, (fun z => w.no hp (w.rp p z)), xs, upd_same, h.up le_add (Kp.new hp) w⟩, w.no hp⟩
theorem Done.newT {l : List Val} {xs : List V} (d : Done I K W H S (.tup l) Q) (w : WOk W H) (s : StRep I K W H S) (h : Rps I K W H l xs) (p : Addr) (hp : H p = none) : Q (.ref p) (upd H p (.tup xs)) :=
  d W _ _ .refl (Kp.new hp) (wok_new hp w) (st_new hp w s) ⟨p, xs, rfl, .of upd_same, h.up .refl (Kp.new hp) w⟩
theorem KB.of_not {p : Val} {v : V} (h : KB I K W H p v) (n : ∀ l, p ≠ .lst l) : Rp I K W H p v := by
  cases p with
  | lst l => exact absurd rfl (n l)
  | _ => exact h
/-- an operation of two values -/
def R2Ok (I : XI) (K : PySem.W.Frag) (r : R2) (f : Val → Val → Option Val) : Prop :=
  ∀ (W : Wd) (H : Hp) (S : Store) (x y z : Val) (xv yv : V) (Q : VK), WOk W H → StRep I K W H S → KB I K W H x xv → KB I K W H y yv → f x y = some z → Done I K W H S z Q → r xv yv H Q

theorem str_len_app (a b : Str) : (a ++ b).length = a.length + b.length := by
  show (a.cps ++ b.cps).size = _
  rw [Array.size_append]
  rfl
theorem strOk_app {a b : Str} (h : PyData.strOk a = true) (h' : PyData.strOk b = true) : PyData.strOk (a ++ b) = true := by
  show (a.cps ++ b.cps).all _ = true
  rw [Array.all_append]
  exact Bool.and_eq_true_iff.mpr ⟨h, h'⟩
theorem sizeLine_lim : sizeLine = lim := by rw [sizeLine_eq]
/-- + -/
def rAddA (K : PySem.W.Frag) : R2 := fun x y H Q => (rI0 fun i j => .int (i + j)) x y H Q ∨ (∃ i j, x = .str i ∧ y = .str j ∧ i.length + j.length ≤ sizeLine ∧ Q (.str (i ++ j)) H) ∨ rCat x y H Q ∨ rCatA K x y H Q
theorem op_addA {X : Cx} : OpR X (binaryOp .Add) (rAddA X.K) := op_add.or (op_add_str.or (op_cat.or op_catA))
theorem Rps.nil_iff {ps : List Val} {vs : List V} (r : Rps I K W H ps vs) : ps = [] ↔ vs = [] := by
  have e := RepVs.length r
  constructor
  · intro h
    rw [h] at e
    exact List.eq_nil_of_length_eq_zero e.symm
  · intro h
    rw [h] at e
    exact List.eq_nil_of_length_eq_zero e
theorem ok_add : R2Ok I K (rAddA K) (binV .add) := by
  intro W H S x y z xv yv Q w s hx hy hf d
  cases x <;> cases y <;> try (cases hf; done)
  · case int.int i j =>
    cases hx
    cases hy
    cases hf
    exact .inl ⟨i, j, rfl, rfl, d.imm w s rfl⟩
  · case str.str a b =>
    obtain ⟨rfl, _, o1⟩ := hx
    obtain ⟨rfl, _, o2⟩ := hy
    have hf' : (if a.length + b.length ≤ lim then some (Val.str (a ++ b)) else none) = some z := hf
    by_cases h : a.length + b.length ≤ lim
    · rw [if_pos h] at hf'
      cases hf'
      exact .inr (.inl ⟨a, b, rfl, rfl, by rw [sizeLine_lim]; exact h, d.imm w s ⟨rfl, by rw [str_len_app]; exact h, strOk_app o1 o2⟩⟩)
    · rw [if_neg h] at hf'
      cases hf'
  · case tup.tup a b =>
    have hf' : (if a.length + b.length ≤ lim then some (Val.tup (a ++ b)) else none) = some z := hf
    by_cases h : a.length + b.length ≤ lim
    · rw [if_pos h] at hf'
      cases hf'
      obtain ⟨p, xs, rfl, h1, h2⟩ := hx
      obtain ⟨q, ys, rfl, h3, h4⟩ := hy
      have l1 := RepVs.length h2
      have l2 := RepVs.length h4
      refine .inr (.inr (.inr ⟨p, q, xs, ys, rfl, rfl, h1, h3, by rw [sizeLine_lim]; omega, fun e => ?_, fun _ e => ?_, fun _ _ pn hp => d.newT w s (RepVs.append h2 h4) pn hp⟩))
      · have ea : a = [] := (Rps.nil_iff h2).mpr e
        subst ea
        exact d.imm w s ⟨q, ys, rfl, h3, h4⟩
      · have eb : b = [] := (Rps.nil_iff h4).mpr e
        subst eb
        rw [List.append_nil] at d
        exact d.imm w s ⟨p, xs, rfl, h1, h2⟩
    · rw [if_neg h] at hf'
      cases hf'
  · case lst.lst a b =>
    have hf' : (if a.length + b.length ≤ lim then some (Val.lst (a ++ b)) else none) = some z := hf
    by_cases h : a.length + b.length ≤ lim
    · rw [if_pos h] at hf'
      cases hf'
      obtain ⟨p, xs, rfl, h1, h2⟩ := hx
      obtain ⟨q, ys, rfl, h3, h4⟩ := hy
      have l1 := RepVs.length h2
      have l2 := RepVs.length h4
      exact .inr (.inr (.inl ⟨p, q, xs, ys, rfl, rfl, h1.2, h3.2, by rw [sizeLine_lim]; omega, fun pn hp => d.newL w s (RepVs.append h2 h4) pn hp⟩))
    · rw [if_neg h] at hf'
      cases hf'
theorem ok_sub : R2Ok I K (rI0 fun i j => .int (i - j)) (binV .sub) := by
  intro W H S x y z xv yv Q w s hx hy hf d
  cases x <;> cases y <;> try (cases hf; done)
  cases hx
  cases hy
  cases hf
  exact ⟨_, _, rfl, rfl, d.imm w s rfl⟩
/-- * -/
def CMulA (i j : Int) : Prop := fitMul i j = true
theorem CMulA.ok {i j : Int} (h : CMulA i j) : IntMulOk i j := by
  have b : ∀ x : Int, Builtin.Int.intBits x ≤ x.natAbs.log2 + 1 := fun x => by
    unfold Builtin.Int.intBits
    split <;> omega
  unfold CMulA fitMul at h
  simp only [Bool.or_eq_true, decide_eq_true_eq] at h
  rcases h with (h | h) | h
  · exact .of_left (intBits_le_64 (by omega) (by omega))
  · exact .of_right (intBits_le_64 (by omega) (by omega))
  · have h1 := b i
    have h2 := b j
    have e : bitsLine = 134217728 := by decide
    unfold IntMulOk Builtin.Int.intTooBig
    intro z
    rw [Bool.and_eq_true] at z
    have z3 := of_decide_eq_true z.2
    rw [e] at z3
    omega
theorem op_mulA {X : Cx} : OpR X (binaryOp .Mult) (rI CMulA fun i j => .int (i * j)) := opI fun _ _ _ _ _ _ _ hc q => mul_int q hc.ok
def rMulA (K : PySem.W.Frag) : R2 := fun x y H Q => (rI CMulA fun i j => .int (i * j)) x y H Q ∨ rRep x y H Q ∨ rRepT K x y H Q
theorem op_mulAA {X : Cx} : OpR X (binaryOp .Mult) (rMulA X.K) := op_mulA.or (op_rep.or op_repT)
theorem Rps.flat {l : List Val} {xs : List V} (h : Rps I K W H l xs) : ∀ n, Rps I K W H (List.replicate n l).flatten (List.replicate n xs).flatten
  | 0 => rfl
  | n + 1 => by
    rw [List.replicate_succ, List.replicate_succ, List.flatten_cons, List.flatten_cons]
    exact RepVs.append h (Rps.flat h n)
theorem ok_mul : R2Ok I K (rMulA K) (binV .mul) := by
  intro W H S x y z xv yv Q w s hx hy hf d
  cases x <;> cases y <;> try (cases hf; done)
  · case int.int i j =>
    cases hx
    cases hy
    have hf' : (if fitMul i j then some (Val.int (i * j)) else none) = some z := hf
    by_cases h : fitMul i j = true
    · rw [if_pos h] at hf'
      cases hf'
      exact .inl ⟨i, j, rfl, rfl, h, d.imm w s rfl⟩
    · rw [if_neg h] at hf'
      cases hf'
  · case tup.int a b =>
    cases hy
    have hf' : (if 2 ≤ b ∧ b ≤ 1000 ∧ a.length ≤ 1000 ∧ 0 < a.length then some (Val.tup (List.replicate b.toNat a).flatten) else none) = some z := hf
    by_cases h : 2 ≤ b ∧ b ≤ 1000 ∧ a.length ≤ 1000 ∧ 0 < a.length
    · rw [if_pos h] at hf'
      cases hf'
      obtain ⟨p, xs, rfl, h1, h2⟩ := hx
      have l1 := RepVs.length h2
      refine .inr (.inr ⟨p, b, xs, rfl, rfl, h1, fun e => ?_, h.1, h.2.1, by omega, fun pn hp => d.newT w s (Rps.flat h2 _) pn hp⟩)
      have l1 : a.length = 0 := by rw [l1, e]; rfl
      have := h.2.2.2
      omega
    · rw [if_neg h] at hf'
      cases hf'
  · case lst.int a b =>
    cases hy
    have hf' : (if -(2 ^ 63) ≤ b ∧ b < 2 ^ 63 ∧ a.length * b.toNat ≤ lim then some (Val.lst (List.replicate b.toNat a).flatten) else none) = some z := hf
    by_cases h : -(2 ^ 63) ≤ b ∧ b < 2 ^ 63 ∧ a.length * b.toNat ≤ lim
    · rw [if_pos h] at hf'
      cases hf'
      obtain ⟨p, xs, rfl, h1, h2⟩ := hx
      have l1 := RepVs.length h2
      exact .inr (.inl ⟨p, b, xs, rfl, rfl, h1.2, h.1, h.2.1, by rw [sizeLine_lim, ← l1]; exact h.2.2, fun pn hp => d.newL w s (Rps.flat h2 _) pn hp⟩)
    · rw [if_neg h] at hf'
      cases hf'
def CDivA (_ j : Int) : Prop := j ≠ 0 ∧ j.natAbs.log2 < 9000
theorem op_fdivA {X : Cx} : OpR X (binaryOp .FloorDiv) (rI CDivA fun i j => .int (i.fdiv j)) := opI fun _ _ _ _ _ _ _ hc q => floordiv_int hc.1 q (.inl (PyProof.noPylong_of_log2 hc.2))
theorem ok_fdiv : R2Ok I K (rI CDivA fun i j => .int (i.fdiv j)) (binV .fdiv) := by
  intro W H S x y z xv yv Q w s hx hy hf d
  cases x <;> cases y <;> try (cases hf; done)
  rename_i a b
  cases hx
  cases hy
  have hf' : (if b = 0 ∨ 9000 ≤ b.natAbs.log2 then none else some (Val.int (a.fdiv b))) = some z := hf
  by_cases h : b = 0 ∨ 9000 ≤ b.natAbs.log2
  · rw [if_pos h] at hf'
    cases hf'
  · rw [if_neg h] at hf'
    cases hf'
    exact ⟨a, b, rfl, rfl, ⟨fun e => h (.inl e), by omega⟩, d.imm w s rfl⟩
theorem ok_mod : R2Ok I K (rI (fun _ j => j ≠ 0) fun i j => .int (i.fmod j)) (binV .mod) := by
  intro W H S x y z xv yv Q w s hx hy hf d
  cases x <;> cases y <;> try (cases hf; done)
  rename_i a b
  cases hx
  cases hy
  have hf' : (if b = 0 then none else some (Val.int (a.fmod b))) = some z := hf
  by_cases h : b = 0
  · rw [if_pos h] at hf'
    cases hf'
  · rw [if_neg h] at hf'
    cases hf'
    exact ⟨a, b, rfl, rfl, h, d.imm w s rfl⟩
theorem ok_pow : R2Ok I K (rI CPow fun i j => .int (i ^ j.toNat)) (binV .pow) := by
  intro W H S x y z xv yv Q w s hx hy hf d
  cases x <;> cases y <;> try (cases hf; done)
  rename_i a b
  cases hx
  cases hy
  have hf' : (if 0 ≤ b ∧ b ≤ 1000000 ∧ a.natAbs < 2 ^ 64 then some (Val.int (a ^ b.toNat)) else none) = some z := hf
  by_cases h : 0 ≤ b ∧ b ≤ 1000000 ∧ a.natAbs < 2 ^ 64
  · rw [if_pos h] at hf'
    cases hf'
    exact ⟨a, b, rfl, rfl, h, d.imm w s rfl⟩
  · rw [if_neg h] at hf'
    cases hf'
def bopO : Bop → Operator
  | .add => .Add | .sub => .Sub | .mul => .Mult | .fdiv => .FloorDiv | .mod => .Mod | .pow => .Pow
/-- every operation -/
theorem bop_ok (X : Cx) (o : Bop) : ∃ r, OpR X (binaryOp (bopO o)) r ∧ ∀ I, R2Ok I X.K r (binV o) := by
  cases o
  · exact ⟨_, op_addA, fun _ => ok_add⟩
  · exact ⟨_, op_sub, fun _ => ok_sub⟩
  · exact ⟨_, op_mulAA, fun _ => ok_mul⟩
  · exact ⟨_, op_fdivA, fun _ => ok_fdiv⟩
  · exact ⟨_, op_modN, fun _ => ok_mod⟩
  · exact ⟨_, op_pow, fun _ => ok_pow⟩

/-! ### comparisons -/
mutual
def toD : Val → PyData
  | .non => .none
  | .bl b => .bool b
  | .int i => .int i
  | .str x => .str x
  | .tup l => .tuple (toDs l)
  | .lst l => .list (toDs l)
  | .loc _ => .none
  | .exn _ _ => .none
def toDs : List Val → List PyData
  | [] => []
  | v :: vs => toD v :: toDs vs
end
mutual
theorem dep_ok : ∀ (p : Val) (v : V) (n : Nat), depV p = some n → Rp I K W H p v → L2.Dp K H v (toD p) ∧ (toD p).canLay0 = true ∧ (toD p).depth ≤ n
  | .non, v, n, _, h => by
    cases h
    exact ⟨.non, rfl, Nat.zero_le _⟩
  | .bl b, v, n, _, h => by
    cases h
    exact ⟨.bl b, rfl, Nat.zero_le _⟩
  | .int i, v, n, _, h => by
    cases h
    exact ⟨.int i, rfl, Nat.zero_le _⟩
  | .str x, v, n, _, h => by
    obtain ⟨rfl, _, o⟩ := h
    exact ⟨.str x, o, Nat.zero_le _⟩
  | .tup l, v, n, e, h => by
    obtain ⟨a, xs, rfl, h1, h2⟩ := h
    have e' : (depVs l).map (· + 1) = some n := e
    cases q : depVs l with
    | none => rw [q] at e'; cases e'
    | some m =>
      rw [q] at e'
      cases e'
      obtain ⟨h3, h4, h5⟩ := deps_ok l xs m q h2
      exact ⟨.tup h1 h3, h4, Nat.succ_le_succ h5⟩
  | .lst l, v, n, e, h => by
    obtain ⟨a, xs, rfl, h1, h2⟩ := h
    have e' : (depVs l).map (· + 1) = some n := e
    cases q : depVs l with
    | none => rw [q] at e'; cases e'
    | some m =>
      rw [q] at e'
      cases e'
      obtain ⟨h3, h4, h5⟩ := deps_ok l xs m q h2
      exact ⟨.lst h1.sq h3, h4, Nat.succ_le_succ h5⟩
  | .loc _, v, n, e, h => by cases e
  | .exn _ _, v, n, e, h => by cases e
theorem deps_ok : ∀ (ps : List Val) (vs : List V) (n : Nat), depVs ps = some n → Rps I K W H ps vs → L2.DpAll K H vs (toDs ps) ∧ PyData.canLayAll0 (toDs ps) = true ∧ PyData.depthAll (toDs ps) ≤ n
  | [], vs, n, _, h => by
    have e : vs = [] := h
    subst e
    exact ⟨.nil, rfl, Nat.zero_le _⟩
  | p :: ps, vs, n, e, h => by
    obtain ⟨v, ws, rfl, h1, h2⟩ := h
    have e' : (match depV p, depVs ps with
      | some a, some b => some (max a b)
      | _, _ => none) = some n := e
    cases q : depV p with
    | none => rw [q] at e'; cases e'
    | some a =>
      cases q2 : depVs ps with
      | none => rw [q, q2] at e'; cases e'
      | some b =>
        rw [q, q2] at e'
        cases e'
        obtain ⟨a1, a2, a3⟩ := dep_ok p v a q h1
        obtain ⟨b1, b2, b3⟩ := deps_ok ps ws b q2 h2
        refine ⟨.cons a1 b1, ?_, ?_⟩
        · show ((toD p).canLay0 && PyData.canLayAll0 (toDs ps)) = true
          rw [a2, b2]
          rfl
        · show max (toD p).depth (PyData.depthAll (toDs ps)) ≤ max a b
          omega
end
mutual
theorem eqv_eq : ∀ (p q : Val), (depV p).isSome = true → (depV q).isSome = true → PyData.eqv (toD p) (toD q) = eqV p q
  | .tup l, .tup m, h1, h2 => by
    show PyData.eqvAll (toDs l) (toDs m) = eqVs l m
    refine eqvs_eq l m ?_ ?_
    · have h : ((depVs l).map (· + 1)).isSome = true := h1
      simpa using h
    · have h : ((depVs m).map (· + 1)).isSome = true := h2
      simpa using h
  | .lst l, .lst m, h1, h2 => by
    show PyData.eqvAll (toDs l) (toDs m) = eqVs l m
    refine eqvs_eq l m ?_ ?_
    · have h : ((depVs l).map (· + 1)).isSome = true := h1
      simpa using h
    · have h : ((depVs m).map (· + 1)).isSome = true := h2
      simpa using h
  | .loc _, _, h1, _ => by cases h1
  | .exn _ _, _, h1, _ => by cases h1
  | .non, q, _, h2 => by cases q <;> first | rfl | cases h2
  | .bl _, q, _, h2 => by cases q <;> first | rfl | cases h2
  | .int _, q, _, h2 => by cases q <;> first | rfl | cases h2
  | .str _, q, _, h2 => by cases q <;> first | rfl | cases h2
  | .tup _, .non, _, _ => rfl
  | .tup _, .bl _, _, _ => rfl
  | .tup _, .int _, _, _ => rfl
  | .tup _, .str _, _, _ => rfl
  | .tup _, .lst _, _, _ => rfl
  | .tup _, .loc _, _, h2 => by cases h2
  | .tup _, .exn _ _, _, h2 => by cases h2
  | .lst _, .non, _, _ => rfl
  | .lst _, .bl _, _, _ => rfl
  | .lst _, .int _, _, _ => rfl
  | .lst _, .str _, _, _ => rfl
  | .lst _, .tup _, _, _ => rfl
  | .lst _, .loc _, _, h2 => by cases h2
  | .lst _, .exn _ _, _, h2 => by cases h2
theorem eqvs_eq : ∀ (p q : List Val), (depVs p).isSome = true → (depVs q).isSome = true → PyData.eqvAll (toDs p) (toDs q) = eqVs p q
  | [], [], _, _ => rfl
  | [], _ :: _, _, _ => rfl
  | _ :: _, [], _, _ => rfl
  | x :: xs, y :: ys, h1, h2 => by
    have one : ∀ {z : Val} {zs : List Val}, (depVs (z :: zs)).isSome = true → (depV z).isSome = true ∧ (depVs zs).isSome = true := fun {z zs} h => by
      have h : (match depV z, depVs zs with
        | some a, some b => some (max a b)
        | _, _ => none).isSome = true := h
      cases q : depV z with
      | none => rw [q] at h; cases h
      | some a =>
        cases q2 : depVs zs with
        | none => rw [q, q2] at h; cases h
        | some b => exact ⟨rfl, rfl⟩
    obtain ⟨a1, a2⟩ := one h1
    obtain ⟨b1, b2⟩ := one h2
    show (PyData.eqv (toD x) (toD y) && PyData.eqvAll (toDs xs) (toDs ys)) = (eqV x y && eqVs xs ys)
    rw [eqv_eq x y a1 b1, eqvs_eq xs ys a2 b2]
end
/-- borrowed data, read -/
theorem KB.dp {p : Val} {v : V} (h : KB I K W H p v) (e : datV p = true) : L2.Dp K H v (toD p) ∧ SeqAt.shaped (toD p) = true ∧ (depV p).isSome = true := by
  unfold datV at e
  cases q : depV p with
  | none => rw [q] at e; cases e
  | some n =>
    rw [q] at e
    have e : n ≤ 60 := of_decide_eq_true e
    have fin : ∀ {d : PyData}, d.canLay0 = true → d.depth ≤ n → SeqAt.shaped d = true := fun {d} h1 h2 => by
      unfold SeqAt.shaped
      rw [h1]
      exact decide_eq_true (by omega)
    cases p with
    | lst l =>
      obtain ⟨a, xs, rfl, h1, h2⟩ := h
      have e' : (depVs l).map (· + 1) = some n := q
      cases q2 : depVs l with
      | none => rw [q2] at e'; cases e'
      | some m =>
        rw [q2] at e'
        cases e'
        obtain ⟨h3, h4, h5⟩ := deps_ok l xs m q2 h2
        exact ⟨.lst h1.sq h3, fin h4 (Nat.succ_le_succ h5), rfl⟩
    | _ =>
      obtain ⟨h1, h2, h3⟩ := dep_ok (I := I) (W := W) _ v n q h
      exact ⟨h1, fin h2 h3, rfl⟩
theorem ok_eq : R2Ok I K (rEqD K) (fun x y => (cmpV .eq x y).map .bl) := by
  intro W H S x y z xv yv Q w s hx hy hf d
  have hf' : (if (datV x && datV y) = true then some (eqV x y) else none).map Val.bl = some z := hf
  by_cases h : (datV x && datV y) = true
  · rw [if_pos h] at hf'
    obtain ⟨e1, e2⟩ := Bool.and_eq_true_iff.mp h
    obtain ⟨d1, s1, i1⟩ := hx.dp e1
    obtain ⟨d2, s2, i2⟩ := hy.dp e2
    cases hf'
    exact ⟨_, _, d1, d2, s1, s2, by rw [eqv_eq x y i1 i2]; exact d.imm w s rfl⟩
  · rw [if_neg h] at hf'
    cases hf'
theorem ok_ne : R2Ok I K (rNeD K) (fun x y => (cmpV .ne x y).map .bl) := by
  intro W H S x y z xv yv Q w s hx hy hf d
  have hf' : (if (datV x && datV y) = true then some (!eqV x y) else none).map Val.bl = some z := hf
  by_cases h : (datV x && datV y) = true
  · rw [if_pos h] at hf'
    obtain ⟨e1, e2⟩ := Bool.and_eq_true_iff.mp h
    obtain ⟨d1, s1, i1⟩ := hx.dp e1
    obtain ⟨d2, s2, i2⟩ := hy.dp e2
    cases hf'
    exact ⟨_, _, d1, d2, s1, s2, by rw [eqv_eq x y i1 i2]; exact d.imm w s rfl⟩
  · rw [if_neg h] at hf'
    cases hf'
end
end Pi

end
section
set_option linter.all false
set_option maxRecDepth 100000
/-! PiD: comparisons, items, slices, built-ins by values. -/
namespace Pi
open PySem PySem.Spec PyProof.Rows L2
section
variable {I : XI} {K : PySem.W.Frag} {W : Wd} {H : Hp} {S : Store} {Q : VK}

abbrev rStrs (r : Str → Str → Bool) : R2 := fun x y H Q => ∃ i j, x = .str i ∧ y = .str j ∧ Q (.bl (r i j)) H
/-- ints or texts in order -/
theorem ok_ord {r : Int → Int → Bool} {q : Str → Str → Bool} {f : Val → Val → Option Bool}
    (hf : ∀ x y b, f x y = some b → (∃ i j, x = .int i ∧ y = .int j ∧ b = r i j) ∨ ∃ i j, x = .str i ∧ y = .str j ∧ b = q i j) : R2Ok I K (fun x y H Q => (rI0 fun i j => .bl (r i j)) x y H Q ∨ rStrs q x y H Q) (fun x y => (f x y).map .bl) := by
  intro W H S x y z xv yv Q w s hx hy h d
  replace h : (f x y).map Val.bl = some z := h
  cases e : f x y with
  | none => rw [e] at h; cases h
  | some b =>
    rw [e] at h
    cases h
    rcases hf x y b e with ⟨i, j, rfl, rfl, rfl⟩ | ⟨i, j, rfl, rfl, rfl⟩
    · cases hx
      cases hy
      exact .inl ⟨i, j, rfl, rfl, d.imm w s rfl⟩
    · obtain ⟨rfl, _⟩ := hx
      obtain ⟨rfl, _⟩ := hy
      exact .inr ⟨i, j, rfl, rfl, d.imm w s rfl⟩
theorem ok_lt : R2Ok I K (fun x y H Q => (rI0 fun i j => .bl (decide (i < j))) x y H Q ∨ rStrs (fun i j => decide (i.cps.toList < j.cps.toList)) x y H Q) (fun x y => (cmpV .lt x y).map .bl) := ok_ord (r := fun i j => decide (i < j)) (q := fun i j => decide (i.cps.toList < j.cps.toList)) (by intro x y b h; cases x <;> cases y <;> first | (cases h; done) | (injection h with h; exact .inl ⟨_, _, rfl, rfl, h.symm⟩) | (injection h with h; exact .inr ⟨_, _, rfl, rfl, h.symm⟩))
theorem ok_le : R2Ok I K (fun x y H Q => (rI0 fun i j => .bl (decide (i ≤ j))) x y H Q ∨ rStrs (fun i j => !decide (j.cps.toList < i.cps.toList)) x y H Q) (fun x y => (cmpV .le x y).map .bl) := ok_ord (r := fun i j => decide (i ≤ j)) (q := fun i j => !decide (j.cps.toList < i.cps.toList)) (by intro x y b h; cases x <;> cases y <;> first | (cases h; done) | (injection h with h; exact .inl ⟨_, _, rfl, rfl, h.symm⟩) | (injection h with h; exact .inr ⟨_, _, rfl, rfl, h.symm⟩))
theorem ok_gt : R2Ok I K (fun x y H Q => (rI0 fun i j => .bl (decide (j < i))) x y H Q ∨ rStrs (fun i j => decide (j.cps.toList < i.cps.toList)) x y H Q) (fun x y => (cmpV .gt x y).map .bl) := ok_ord (r := fun i j => decide (j < i)) (q := fun i j => decide (j.cps.toList < i.cps.toList)) (by intro x y b h; cases x <;> cases y <;> first | (cases h; done) | (injection h with h; exact .inl ⟨_, _, rfl, rfl, h.symm⟩) | (injection h with h; exact .inr ⟨_, _, rfl, rfl, h.symm⟩))
theorem ok_ge : R2Ok I K (fun x y H Q => (rI0 fun i j => .bl (decide (j ≤ i))) x y H Q ∨ rStrs (fun i j => !decide (i.cps.toList < j.cps.toList)) x y H Q) (fun x y => (cmpV .ge x y).map .bl) := ok_ord (r := fun i j => decide (j ≤ i)) (q := fun i j => !decide (i.cps.toList < j.cps.toList)) (by intro x y b h; cases x <;> cases y <;> first | (cases h; done) | (injection h with h; exact .inl ⟨_, _, rfl, rfl, h.symm⟩) | (injection h with h; exact .inr ⟨_, _, rfl, rfl, h.symm⟩))
theorem KB.isn {p : Val} {v : V} (h : KB I K W H p v) : decide (v = .non) = isN p := by
  cases p with
  | non => cases h; rfl
  | bl _ => cases h; rfl
  | int _ => cases h; rfl
  | str _ => obtain ⟨rfl, _⟩ := h; rfl
  | tup _ => obtain ⟨_, _, rfl, _⟩ := h; rfl
  | lst _ => obtain ⟨_, _, rfl, _⟩ := h; rfl
  | loc _ => obtain ⟨_, rfl, _⟩ := h; rfl
  | exn _ _ => obtain ⟨_, _, _, _, _, rfl, _⟩ := h; rfl
theorem ok_isn : R2Ok I K (fun x y H Q => y = .non ∧ Q (.bl (decide (x = .non))) H) (fun x y => (cmpV .isn x y).map .bl) := by
  intro W H S x y z xv yv Q w s hx hy h d
  cases y <;> try (cases x <;> cases h; done)
  cases hy
  have e : z = .bl (isN x) := by cases x <;> (cases h; rfl)
  subst e
  exact ⟨rfl, by rw [hx.isn]; exact d.imm w s rfl⟩
theorem ok_nisn : R2Ok I K (fun x y H Q => y = .non ∧ Q (.bl (!decide (x = .non))) H) (fun x y => (cmpV .nisn x y).map .bl) := by
  intro W H S x y z xv yv Q w s hx hy h d
  cases y <;> try (cases x <;> cases h; done)
  cases hy
  have e : z = .bl (!isN x) := by cases x <;> (cases h; rfl)
  subst e
  exact ⟨rfl, by rw [hx.isn]; exact d.imm w s rfl⟩
theorem ok_isb : R2Ok I K rIsB (fun x y => (cmpV .isb x y).map .bl) := by
  intro W H S x y z xv yv Q w s hx hy h d
  cases x <;> cases y <;> try (cases h; done)
  cases hx
  cases hy
  cases h
  exact ⟨_, _, rfl, rfl, d.imm w s rfl⟩
theorem ok_nisb : R2Ok I K rNotB (fun x y => (cmpV .nisb x y).map .bl) := by
  intro W H S x y z xv yv Q w s hx hy h d
  cases x <;> cases y <;> try (cases h; done)
  cases hx
  cases hy
  cases h
  exact ⟨_, _, rfl, rfl, d.imm w s rfl⟩
theorem any_eqv {a : Val} (ha : (depV a).isSome = true) : ∀ {l : List Val}, (depVs l).isSome = true → (toDs l).any (fun z => PyData.eqv z (toD a)) = l.any fun y => eqV y a
  | [], _ => rfl
  | x :: xs, h => by
    have h : (match depV x, depVs xs with
      | some a, some b => some (max a b)
      | _, _ => none).isSome = true := h
    cases q : depV x with
    | none => rw [q] at h; cases h
    | some n =>
      cases q2 : depVs xs with
      | none => rw [q, q2] at h; cases h
      | some m =>
        show (PyData.eqv (toD x) (toD a) || (toDs xs).any _) = (eqV x a || xs.any _)
        rw [eqv_eq x a (by rw [q]; rfl) ha, any_eqv ha (by rw [q2]; rfl)]
/-- flat values: the same in L2's words -/
theorem flat_ok {p : Val} {v : V} (h : Rp I K W H p v) (f : Pi.flatV p = true) : L2.flatV v = true ∧ ∀ {q : Val} {u : V}, Rp I K W H q u → Pi.flatV q = true → L2.eqV v u = Pi.eqV p q := by
  cases p <;> try (cases f; done)
  all_goals first | obtain ⟨rfl, _⟩ := h | cases h
  all_goals refine ⟨rfl, fun {q u} hq fq => ?_⟩
  all_goals cases q <;> try (cases fq; done)
  all_goals first | obtain ⟨rfl, _⟩ := hq | cases hq
  all_goals rfl
theorem flats_ok {p : Val} {v : V} (h : Rp I K W H p v) (f : Pi.flatV p = true) : ∀ {l : List Val} {xs : List V}, Rps I K W H l xs → l.all Pi.flatV = true → xs.all L2.flatV = true ∧ (xs.any fun y => L2.eqV y v) = l.any fun y => Pi.eqV y p
  | [], _, h2, _ => by
    have e : _ = ([] : List V) := h2
    subst e
    exact ⟨rfl, rfl⟩
  | q :: l, _, h2, a => by
    obtain ⟨u, xs, rfl, h3, h4⟩ := h2
    rw [List.all_cons, Bool.and_eq_true_iff] at a
    obtain ⟨a1, a2⟩ := a
    obtain ⟨b1, b2⟩ := flats_ok h f h4 a2
    obtain ⟨c1, c2⟩ := flat_ok h3 a1
    exact ⟨by rw [List.all_cons, c1, b1]; rfl, by rw [List.any_cons, List.any_cons, b2, c2 h f]⟩
theorem flat_not {p : Val} (f : Pi.flatV p = true) : ∀ l, p ≠ .lst l := fun l e => by subst e; cases f
def rInA (K : PySem.W.Frag) : R2 := fun x y H Q => rInD K x y H Q ∨ rIn K false x y H Q ∨ ∃ (c : Nat) (z : Str), x = .str ⟨#[c]⟩ ∧ y = .str z ∧ Q (.bl (decide (c ∈ z.cps.toList))) H
def rNinA (K : PySem.W.Frag) : R2 := fun x y H Q => rNotInD K x y H Q ∨ rIn K true x y H Q ∨ ∃ (c : Nat) (z : Str), x = .str ⟨#[c]⟩ ∧ y = .str z ∧ Q (.bl (!decide (c ∈ z.cps.toList))) H
theorem one_sign {a : Str} {c : Nat} (h : a.cps.toList = [c]) : a = ⟨#[c]⟩ := by
  obtain ⟨cps⟩ := a
  have h : cps.toList = [c] := h
  have e : cps = #[c] := by rw [← Array.toArray_toList (xs := cps), h]
  rw [e]
theorem ok_in : R2Ok I K (rInA K) (fun x y => (cmpV .in_ x y).map .bl) := by
  intro W H S x y z xv yv Q w s hx hy h d
  cases y with
  | lst l =>
    have h : (if (datV x && datV (.lst l)) = true then some (l.any fun y => eqV y x) else none).map Val.bl = some z := by
      cases x <;> exact h
    by_cases c : (datV x && datV (.lst l)) = true
    · rw [if_pos c] at h
      obtain ⟨e1, e2⟩ := Bool.and_eq_true_iff.mp c
      obtain ⟨d1, s1, i1⟩ := hx.dp e1
      obtain ⟨d2, s2, i2⟩ := hy.dp e2
      cases h
      have i3 : (depVs l).isSome = true := by
        have i2 : ((depVs l).map (· + 1)).isSome = true := i2
        simpa using i2
      exact .inl ⟨_, toDs l, d1, d2, s1, s2, by rw [any_eqv i1 i3]; exact d.imm w s rfl⟩
    · rw [if_neg c] at h
      cases h
  | tup l =>
    have h : (if (flatV x && l.all flatV) = true then some (l.any fun y => eqV y x) else none).map Val.bl = some z := by
      cases x <;> exact h
    by_cases c : (flatV x && l.all flatV) = true
    · rw [if_pos c] at h
      obtain ⟨e1, e2⟩ := Bool.and_eq_true_iff.mp c
      obtain ⟨a, xs, rfl, h1, h2⟩ := hy
      have hx' := hx.of_not (flat_not e1)
      obtain ⟨b1, b2⟩ := flats_ok hx' e1 h2 e2
      cases h
      refine .inr (.inl ⟨a, xs, rfl, .inr h1, (flat_ok hx' e1).1, b1, ?_⟩)
      show Q (.bl (inV xv xs)) H
      unfold inV
      rw [b2]
      exact d.imm w s rfl
    · rw [if_neg c] at h
      cases h
  | str b =>
    cases x <;> try (cases h; done)
    rename_i a
    have h : (match a.cps.toList with
      | [c] => some (decide (c ∈ b.cps.toList))
      | _ => none).map Val.bl = some z := h
    split at h
    · rename_i c e
      cases h
      obtain ⟨rfl, _⟩ := hx
      obtain ⟨rfl, _⟩ := hy
      exact .inr (.inr ⟨c, b, by rw [one_sign e], rfl, d.imm w s rfl⟩)
    · cases h
  | _ => cases x <;> cases h
theorem ok_nin : R2Ok I K (rNinA K) (fun x y => (cmpV .nin x y).map .bl) := by
  intro W H S x y z xv yv Q w s hx hy h d
  cases y with
  | lst l =>
    have h : (if (datV x && datV (.lst l)) = true then some (!l.any fun y => eqV y x) else none).map Val.bl = some z := by
      cases x <;> exact h
    by_cases c : (datV x && datV (.lst l)) = true
    · rw [if_pos c] at h
      obtain ⟨e1, e2⟩ := Bool.and_eq_true_iff.mp c
      obtain ⟨d1, s1, i1⟩ := hx.dp e1
      obtain ⟨d2, s2, i2⟩ := hy.dp e2
      cases h
      have i3 : (depVs l).isSome = true := by
        have i2 : ((depVs l).map (· + 1)).isSome = true := i2
        simpa using i2
      exact .inl ⟨_, toDs l, d1, d2, s1, s2, by rw [any_eqv i1 i3]; exact d.imm w s rfl⟩
    · rw [if_neg c] at h
      cases h
  | tup l =>
    have h : (if (flatV x && l.all flatV) = true then some (!l.any fun y => eqV y x) else none).map Val.bl = some z := by
      cases x <;> exact h
    by_cases c : (flatV x && l.all flatV) = true
    · rw [if_pos c] at h
      obtain ⟨e1, e2⟩ := Bool.and_eq_true_iff.mp c
      obtain ⟨a, xs, rfl, h1, h2⟩ := hy
      have hx' := hx.of_not (flat_not e1)
      obtain ⟨b1, b2⟩ := flats_ok hx' e1 h2 e2
      cases h
      refine .inr (.inl ⟨a, xs, rfl, .inr h1, (flat_ok hx' e1).1, b1, ?_⟩)
      show Q (.bl (!inV xv xs)) H
      unfold inV
      rw [b2]
      exact d.imm w s rfl
    · rw [if_neg c] at h
      cases h
  | str b =>
    cases x <;> try (cases h; done)
    rename_i a
    have h : (match a.cps.toList with
      | [c] => some (!decide (c ∈ b.cps.toList))
      | _ => none).map Val.bl = some z := h
    split at h
    · rename_i c e
      cases h
      obtain ⟨rfl, _⟩ := hx
      obtain ⟨rfl, _⟩ := hy
      exact .inr (.inr ⟨c, b, by rw [one_sign e], rfl, d.imm w s rfl⟩)
    · cases h
  | _ => cases x <;> cases h
def copO : Cop → CmpOp
  | .eq => .Eq | .ne => .NotEq | .lt => .Lt | .le => .LtE | .gt => .Gt | .ge => .GtE | .isn => .Is | .nisn => .IsNot | .isb => .Is | .nisb => .IsNot | .in_ => .In | .nin => .NotIn
/-- every comparison -/
theorem cop_ok (X : Cx) (hu : X.A.units + 65 < cLine) (o : Cop) : ∃ r, OpR X (compareOp (copO o)) r ∧ ∀ I, R2Ok I X.K r (fun x y => (cmpV o x y).map .bl) := by
  cases o
  · exact ⟨_, op_eqD (by omega), fun _ => ok_eq⟩
  · exact ⟨_, op_neD (by omega), fun _ => ok_ne⟩
  · exact ⟨_, op_lt.or op_lt_str, fun _ => ok_lt⟩
  · exact ⟨_, op_le.or op_le_str, fun _ => ok_le⟩
  · exact ⟨_, op_gt.or op_gt_str, fun _ => ok_gt⟩
  · exact ⟨_, op_ge.or op_ge_str, fun _ => ok_ge⟩
  · exact ⟨_, op_isN, fun _ => ok_isn⟩
  · exact ⟨_, op_notN, fun _ => ok_nisn⟩
  · exact ⟨_, op_isBl, fun _ => ok_isb⟩
  · exact ⟨_, op_notBl, fun _ => ok_nisb⟩
  · exact ⟨_, (op_inD hu).or (op_in_seq.or op_in_sign), fun _ => ok_in⟩
  · exact ⟨_, (op_notInD hu).or (op_notIn_seq.or op_notIn_sign), fun _ => ok_nin⟩

/-! ### items -/
theorem atI_rep {l : List Val} {xs : List V} {i : Int} {p : Val} (h : Rps I K W H l xs) (e : Pi.atI l i = some p) : ∃ v, L2.atI xs i = some v ∧ Rp I K W H p v := by
  have ln := RepVs.length h
  unfold Pi.atI at e
  unfold L2.atI
  have q : L2.ixN xs.length i = Pi.ixN l.length i := by rw [ln] <;> rfl
  rw [q]
  cases q2 : Pi.ixN l.length i with
  | none => rw [q2] at e; cases e
  | some j =>
    rw [q2] at e
    exact h.get e
theorem Rp.kf {W0 : Wd} {p : Val} {v : V} (h : Rp I K W H p v) (n : ∀ l, p ≠ .lst l) : KF I K W H W0 p v := by
  cases p with
  | lst l => exact absurd rfl (n l)
  | _ => exact h
/-- a shared value has come -/
def DoneS (I : XI) (K : PySem.W.Frag) (W : Wd) (H : Hp) (S : Store) (z : Val) (Q : VK) : Prop :=
  ∀ W' H' x, W.le W' → Kp W.P H H' → WOk W' H' → StRep I K W' H' S → Rp I K W' H' z x → Q x H'
theorem ok_ix {x y z : Val} {xv yv : V} (w : WOk W H) (s : StRep I K W H S) (hx : KB I K W H x xv) (hy : KB I K W H y yv) (h : ixV S x y = some z) (d : DoneS I K W H S z Q) : rIx K xv yv H Q := by
  cases x with
  | lst l =>
    cases y <;> try (cases h; done)
    cases hy
    obtain ⟨a, xs, rfl, h1, h2⟩ := hx
    obtain ⟨v, e, r⟩ := atI_rep h2 h
    exact .inl ⟨a, xs, _, v, rfl, rfl, h1.sq, e, d W H v .refl .refl w s r⟩
  | tup l =>
    cases y <;> try (cases h; done)
    cases hy
    obtain ⟨a, xs, rfl, h1, h2⟩ := hx
    obtain ⟨v, e, r⟩ := atI_rep h2 h
    exact .inr (.inl ⟨a, xs, _, v, rfl, rfl, h1, e, d W H v .refl .refl w s r⟩)
  | str x =>
    cases y <;> try (cases h; done)
    cases hy
    rename_i i
    obtain ⟨rfl, hl, ho⟩ := hx
    have h : (Pi.atI x.cps.toList i).map (fun c => Val.str ⟨#[c]⟩) = some z := h
    cases e : Pi.atI x.cps.toList i with
    | none => rw [e] at h; cases h
    | some c =>
      rw [e] at h
      cases h
      have e' : L2.atI x.cps.toList i = some c := e
      refine .inr (.inr ⟨x, i, c, rfl, rfl, by rw [sizeLine_lim]; exact hl, e', d W H _ .refl .refl w s ⟨rfl, by show 1 ≤ lim; decide, ?_⟩⟩)
      have mem : c ∈ x.cps.toList := by
        unfold Pi.atI at e
        cases q : Pi.ixN x.cps.toList.length i with
        | none => rw [q] at e; cases e
        | some j => rw [q] at e; exact List.mem_of_getElem? e
      have ho : x.cps.all (· < 0x110000) = true := ho
      show (#[c] : Array Nat).all (· < 0x110000) = true
      rw [Array.all_eq_true'] at ho
      have := ho c (by simpa using mem)
      simpa using this
  | loc n =>
    cases y <;> try (cases h; done)
    cases hy
    rename_i i
    have h : (match S[n]? with
      | some (.lst l) => Pi.atI l i
      | some (.ro l) => Pi.atI l i
      | _ => none) = some z := h
    obtain ⟨a, rfl, ha⟩ := hx
    split at h
    · rename_i l e
      obtain ⟨b, hb, xs, h1, h2⟩ := s.ob n _ e
      rw [ha] at hb
      cases hb
      obtain ⟨v, e, r⟩ := atI_rep h2 h
      exact .inl ⟨a, xs, _, v, rfl, rfl, .of h1, e, d W H v .refl .refl w s r⟩
    · rename_i l e
      obtain ⟨b, hb, xs, h1, h2⟩ := s.ob n _ e
      rw [ha] at hb
      cases hb
      obtain ⟨v, e, r⟩ := atI_rep h2 h
      exact .inl ⟨a, xs, _, v, rfl, rfl, h1, e, d W H v .refl .refl w s r⟩
    · cases h
  | _ => cases h

/-! ### slices -/
theorem cut_rep {l : List Val} {xs : List V} {lo hi : Option Int} (h : Rps I K W H l xs) : Rps I K W H (cutL l lo hi) (cutV xs lo hi) := by
  have ln := RepVs.length h
  unfold cutL cutV
  have e : ∀ (d : Nat) (o : Option Int), Pi.sIx l.length d o = HT.sIx xs.length d o := fun d o => by
    rw [ln]
    cases o <;> rfl
  rw [e, e, ln]
  exact (h.drop _).take _
theorem cutL_id {α : Type} {l : List α} {lo hi : Option Int} (h1 : Pi.sIx l.length 0 lo = 0) (h2 : Pi.sIx l.length l.length hi = l.length) : cutL l lo hi = l := by
  unfold cutL
  rw [h1, h2]
  simp
def rSlAll (K : PySem.W.Frag) : V → Option Int → Option Int → Hp → VK → Prop := fun x lo hi H Q => rSlL K x lo hi H Q ∨ rSlA K x lo hi H Q ∨ rSlS x lo hi H Q
theorem ok_sl {x z : Val} {xv : V} {lo hi : Option Int} (w : WOk W H) (s : StRep I K W H S) (hx : KB I K W H x xv) (h : slV S x lo hi = some z) (d : Done I K W H S z Q) : rSlAll K xv lo hi H Q := by
  cases x with
  | lst l =>
    cases h
    obtain ⟨a, xs, rfl, h1, h2⟩ := hx
    exact .inl ⟨a, xs, rfl, h1.sq, fun p hp => d.newL w s (cut_rep h2) p hp⟩
  | tup l =>
    cases h
    obtain ⟨a, xs, rfl, h1, h2⟩ := hx
    have ln := RepVs.length h2
    have e : ∀ (d : Nat) (o : Option Int), Pi.sIx l.length d o = HT.sIx xs.length d o := fun d o => by
      rw [ln]
      cases o <;> rfl
    refine .inr (.inl ⟨a, xs, rfl, h1, fun ⟨e1, e2⟩ => ?_, fun _ p hp => d.newT w s (cut_rep h2) p hp⟩)
    rw [cutL_id (by rw [e]; exact e1) (by rw [e, ln]; exact e2)] at d
    exact d.imm w s ⟨a, xs, rfl, h1, h2⟩
  | str x =>
    cases h
    obtain ⟨rfl, hl, ho⟩ := hx
    refine .inr (.inr ⟨x, rfl, by rw [sizeLine_lim]; exact hl, ?_⟩)
    have e : cutS x lo hi = ⟨(cutL x.cps.toList lo hi).toArray⟩ := by
      unfold cutS cutL
      have e : ∀ (d : Nat) (o : Option Int), Pi.sIx x.cps.toList.length d o = HT.sIx x.length d o := fun d o => by
        rw [show x.cps.toList.length = x.length from Array.length_toList]
        cases o <;> rfl
      rw [e, e, show x.cps.toList.length = x.length from Array.length_toList]
    rw [e]
    refine d.imm w s ⟨rfl, ?_, ?_⟩
    · show (cutL x.cps.toList lo hi).toArray.size ≤ lim
      rw [List.size_toArray]
      unfold cutL
      rw [List.length_take, List.length_drop, Array.length_toList]
      have : x.cps.size ≤ lim := hl
      omega
    · have ho : x.cps.all (· < 0x110000) = true := ho
      show ((cutL x.cps.toList lo hi).toArray).all (· < 0x110000) = true
      rw [Array.all_eq_true'] at ho ⊢
      intro c hc
      refine ho c ?_
      have hc : c ∈ cutL x.cps.toList lo hi := by simpa using hc
      unfold cutL at hc
      have := List.mem_of_mem_drop (List.mem_of_mem_take hc)
      simpa using this
  | loc n =>
    have h : (match S[n]? with
      | some (.lst l) => some (.lst (cutL l lo hi))
      | some (.ro l) => some (.lst (cutL l lo hi))
      | _ => none) = some z := h
    obtain ⟨a, rfl, ha⟩ := hx
    split at h
    · rename_i l e
      cases h
      obtain ⟨b, hb, xs, h1, h2⟩ := s.ob n _ e
      rw [ha] at hb
      cases hb
      exact .inl ⟨a, xs, rfl, .of h1, fun p hp => d.newL w s (cut_rep h2) p hp⟩
    · rename_i l e
      cases h
      obtain ⟨b, hb, xs, h1, h2⟩ := s.ob n _ e
      rw [ha] at hb
      cases hb
      exact .inl ⟨a, xs, rfl, h1, fun p hp => d.newL w s (cut_rep h2) p hp⟩
    · cases h
  | _ => cases h

/-! ### truth -/
theorem ok_tru {x : Val} {xv : V} {b : Bool} (hx : KB I K W H x xv) (h : truV x = some b) : TruV K xv H b := by
  cases x with
  | non => cases hx; cases h; rfl
  | bl _ => cases hx; cases h; rfl
  | int _ => cases hx; cases h; rfl
  | str x =>
    obtain ⟨rfl, hl, _⟩ := hx
    cases h
    refine ⟨by rw [sizeLine_lim]; exact hl, ?_⟩
    rw [Bool.eq_iff_iff]
    simp
  | lst l =>
    obtain ⟨a, xs, rfl, h1, h2⟩ := hx
    cases h
    refine .inl ⟨xs, h1.sq, ?_⟩
    cases l <;> cases xs <;> first | rfl | (have := RepVs.length h2; simp at this)
  | tup l =>
    obtain ⟨a, xs, rfl, h1, h2⟩ := hx
    cases h
    refine .inr (.inl ⟨xs, h1, ?_⟩)
    cases l <;> cases xs <;> first | rfl | (have := RepVs.length h2; simp at this)
  | _ => cases h
end
end Pi

end
section
set_option linter.all false
set_option maxRecDepth 100000
/-! PiE: built-ins by values; the judgements. -/
namespace Pi
open PySem PySem.Spec PyProof.Rows L2
section
variable {I : XI} {K : PySem.W.Frag} {W : Wd} {H : Hp} {S : Store} {Q : VK}
def KBs (I : XI) (K : PySem.W.Frag) (W : Wd) (H : Hp) : List Val → List V → Prop
  | [], xs => xs = []
  | p :: ps, xs => ∃ v vs, xs = v :: vs ∧ KB I K W H p v ∧ KBs I K W H ps vs
/-- a call of values -/
def CallOk (I : XI) (K : PySem.W.Frag) (r : List V → Hp → VK → Prop) (f : Store → List Val → Option Val) : Prop :=
  ∀ (W : Wd) (H : Hp) (S : Store) (ps : List Val) (vs : List V) (z : Val) (Q : VK), WOk W H → StRep I K W H S → KBs I K W H ps vs → f S ps = some z → Done I K W H S z Q → r vs H Q
theorem one_of {p : Val} {vs : List V} (h : KBs I K W H [p] vs) : ∃ v, vs = [v] ∧ KB I K W H p v := by
  obtain ⟨v, ws, rfl, h1, h2⟩ := h
  have e : ws = [] := h2
  subst e
  exact ⟨v, rfl, h1⟩
theorem two_of {p q : Val} {vs : List V} (h : KBs I K W H [p, q] vs) : ∃ v u, vs = [v, u] ∧ KB I K W H p v ∧ KB I K W H q u := by
  obtain ⟨v, ws, rfl, h1, h2⟩ := h
  obtain ⟨u, rfl, h3⟩ := one_of h2
  exact ⟨v, u, rfl, h1, h3⟩
theorem biV_len {z : Val} {ps : List Val} (h : biV S .len ps = some z) : ∃ p, ps = [p] := by
  match ps, h with
  | [p], _ => exact ⟨p, rfl⟩
  | [], h => cases h
  | a :: b :: r, h => cases a <;> cases h
theorem c_len : CallOk I K (fun xs H Q => ∃ x n, xs = [x] ∧ LenV K x H n ∧ Q (.int n) H) (fun S => biV S .len) := by
  intro W H S ps vs z Q w s hv h d
  obtain ⟨p, rfl⟩ := biV_len h
  obtain ⟨v, rfl, hp⟩ := one_of hv
  cases p with
  | lst l =>
    cases h
    obtain ⟨a, xs, rfl, h1, h2⟩ := hp
    exact ⟨_, l.length, rfl, .inl ⟨xs, h1.sq, RepVs.length h2⟩, d.imm w s rfl⟩
  | tup l =>
    cases h
    obtain ⟨a, xs, rfl, h1, h2⟩ := hp
    exact ⟨_, l.length, rfl, .inr ⟨xs, h1, RepVs.length h2⟩, d.imm w s rfl⟩
  | str x =>
    cases h
    obtain ⟨rfl, hl, _⟩ := hp
    exact ⟨_, x.length, rfl, ⟨by rw [sizeLine_lim]; exact hl, rfl⟩, d.imm w s rfl⟩
  | loc n =>
    have h : (match S[n]? with
      | some (.lst l) => some (Val.int l.length)
      | some (.ro l) => some (Val.int l.length)
      | _ => none) = some z := h
    obtain ⟨a, rfl, ha⟩ := hp
    split at h
    · rename_i l e
      cases h
      obtain ⟨b, hb, xs, h1, h2⟩ := s.ob n _ e
      rw [ha] at hb
      cases hb
      exact ⟨_, l.length, rfl, .inl ⟨xs, .of h1, RepVs.length h2⟩, d.imm w s rfl⟩
    · rename_i l e
      cases h
      obtain ⟨b, hb, xs, h1, h2⟩ := s.ob n _ e
      rw [ha] at hb
      cases hb
      exact ⟨_, l.length, rfl, .inl ⟨xs, h1, RepVs.length h2⟩, d.imm w s rfl⟩
    · cases h
  | _ => cases h
theorem c_abs : CallOk I K (fun xs H Q => ∃ i, xs = [.int i] ∧ Q (.int (if i < 0 then -i else i)) H) (fun S => biV S .abs) := by
  intro W H S ps vs z Q w s hv h d
  match ps, h with
  | [.int i], h =>
    cases h
    obtain ⟨v, rfl, hp⟩ := one_of hv
    cases hp
    exact ⟨i, rfl, d.imm w s rfl⟩
theorem c_int : CallOk I K (fun xs H Q => (∃ i, xs = [.int i] ∧ Q (.int i) H) ∨ ∃ k, xs = [.bl k] ∧ Q (.int (if k then 1 else 0)) H) (fun S => biV S .int) := by
  intro W H S ps vs z Q w s hv h d
  match ps, h with
  | [.int i], h =>
    cases h
    obtain ⟨v, rfl, hp⟩ := one_of hv
    cases hp
    exact .inl ⟨i, rfl, d.imm w s rfl⟩
  | [.bl b], h =>
    cases h
    obtain ⟨v, rfl, hp⟩ := one_of hv
    cases hp
    exact .inr ⟨b, rfl, d.imm w s rfl⟩
theorem c_bool : CallOk I K (fun xs H Q => (∃ i, xs = [.int i] ∧ Q (.bl (i != 0)) H) ∨ ∃ k, xs = [.bl k] ∧ Q (.bl k) H) (fun S => biV S .bool) := by
  intro W H S ps vs z Q w s hv h d
  match ps, h with
  | [.int i], h =>
    cases h
    obtain ⟨v, rfl, hp⟩ := one_of hv
    cases hp
    exact .inl ⟨i, rfl, d.imm w s rfl⟩
  | [.bl b], h =>
    cases h
    obtain ⟨v, rfl, hp⟩ := one_of hv
    cases hp
    exact .inr ⟨b, rfl, d.imm w s rfl⟩
theorem strOk_of (x : String) : PyData.strOk (Str.ofString x) = true := by
  show (Str.ofString x).cps.all (· < 0x110000) = true
  rw [Array.all_eq_true']
  intro c hc
  have hc' : c ∈ (Str.ofString x).cps.toList := by simpa using hc
  have e : (Str.ofString x).cps.toList = x.toList.map Char.toNat := by
    exact signs_ofString x
  rw [e] at hc'
  obtain ⟨k, _, rfl⟩ := List.mem_map.mp hc'
  have v := k.valid
  have : k.toNat < 0x110000 := by
    rcases v with v | v
    · have : k.toNat < 0xd800 := v
      omega
    · exact v.2
  simpa using this
theorem c_str : CallOk I K (fun xs H Q => ∃ i : Int, xs = [.int i] ∧ i.natAbs.log2 < 1920 ∧ Q (.str (toString i)) H) (fun S => biV S .str) := by
  intro W H S ps vs z Q w s hv h d
  match ps, h with
  | [.int i], h =>
    have h : (if i.natAbs.log2 < 1920 then some (Val.str (toString i)) else none) = some z := h
    by_cases c : i.natAbs.log2 < 1920
    · rw [if_pos c] at h
      cases h
      obtain ⟨v, rfl, hp⟩ := one_of hv
      cases hp
      exact ⟨i, rfl, c, d.imm w s ⟨rfl, by rw [← sizeLine_lim]; exact int_text_fits c, strOk_of _⟩⟩
    · rw [if_neg c] at h
      cases h
theorem c_tuple : CallOk I K (fun xs H Q => ∃ p ys, xs = [.ref p] ∧ ((SqL K H p ys ∧ ∀ l, H l = none → Q (.ref l) (upd H l (.tup ys))) ∨ (SqT K H p ys ∧ Q (.ref p) H))) (fun S => biV S .tuple) := by
  intro W H S ps vs z Q w s hv h d
  match ps, h with
  | [.lst l], h =>
    cases h
    obtain ⟨v, rfl, a, xs, rfl, h1, h2⟩ := one_of hv
    exact ⟨a, xs, rfl, .inl ⟨h1.sq, fun p hp => d.newT w s h2 p hp⟩⟩
  | [.tup l], h =>
    cases h
    obtain ⟨v, rfl, a, xs, rfl, h1, h2⟩ := one_of hv
    exact ⟨a, xs, rfl, .inr ⟨h1, d.imm w s ⟨a, xs, rfl, h1, h2⟩⟩⟩
theorem c_list : CallOk I K (fun xs H Q => ∃ p ys, xs = [.ref p] ∧ (SqL K H p ys ∨ SqT K H p ys) ∧ ∀ l, H l = none → Q (.ref l) (upd H l (.lst ys))) (fun S => biV S .list) := by
  intro W H S ps vs z Q w s hv h d
  match ps, h with
  | [.lst l], h =>
    cases h
    obtain ⟨v, rfl, a, xs, rfl, h1, h2⟩ := one_of hv
    exact ⟨a, xs, rfl, .inl h1.sq, fun p hp => d.newL w s h2 p hp⟩
  | [.tup l], h =>
    cases h
    obtain ⟨v, rfl, a, xs, rfl, h1, h2⟩ := one_of hv
    exact ⟨a, xs, rfl, .inr h1, fun p hp => d.newL w s h2 p hp⟩
theorem bls_rep : ∀ {l : List Val} {xs : List V} {bs : List Bool}, Rps I K W H l xs → blsV l = some bs → xs = bs.map V.bl := by
  intro l
  induction l with
  | nil =>
    intro xs bs h e
    have e1 : xs = [] := h
    cases e
    rw [e1] <;> rfl
  | cons p r ih =>
    intro xs bs h e
    obtain ⟨v, vs, rfl, h1, h2⟩ := h
    cases p <;> try (cases e; done)
    rename_i b
    have e : (blsV r).map (b :: ·) = some bs := e
    cases q : blsV r with
    | none => rw [q] at e; cases e
    | some cs =>
      rw [q] at e
      cases e
      cases h1
      rw [ih h2 q] <;> rfl
theorem ints_rep : ∀ {l : List Val} {xs : List V} {bs : List Int}, Rps I K W H l xs → intsV l = some bs → xs = bs.map V.int := by
  intro l
  induction l with
  | nil =>
    intro xs bs h e
    have e1 : xs = [] := h
    cases e
    rw [e1] <;> rfl
  | cons p r ih =>
    intro xs bs h e
    obtain ⟨v, vs, rfl, h1, h2⟩ := h
    cases p <;> try (cases e; done)
    rename_i b
    have e : (intsV r).map (b :: ·) = some bs := e
    cases q : intsV r with
    | none => rw [q] at e; cases e
    | some cs =>
      rw [q] at e
      cases e
      cases h1
      rw [ih h2 q] <;> rfl
theorem strs_rep : ∀ {l : List Val} {xs : List V} {bs : List Str}, Rps I K W H l xs → strsV l = some bs → xs = bs.map V.str ∧ ∀ b ∈ bs, PyData.strOk b = true := by
  intro l
  induction l with
  | nil =>
    intro xs bs h e
    have e1 : xs = [] := h
    cases e
    subst e1
    exact ⟨rfl, fun _ z => nomatch z⟩
  | cons p r ih =>
    intro xs bs h e
    obtain ⟨v, vs, rfl, h1, h2⟩ := h
    cases p <;> try (cases e; done)
    rename_i b
    have e : (strsV r).map (b :: ·) = some bs := e
    cases q : strsV r with
    | none => rw [q] at e; cases e
    | some cs =>
      rw [q] at e
      cases e
      obtain ⟨rfl, _, o⟩ := h1
      obtain ⟨e2, o2⟩ := ih h2 q
      subst e2
      exact ⟨rfl, fun c hc => by
        rcases List.mem_cons.mp hc with e | hc
        · rw [e]; exact o
        · exact o2 c hc⟩
theorem c_all : CallOk I K (rAll K) (fun S => biV S .all) := by
  intro W H S ps vs z Q w s hv h d
  match ps, h with
  | [.lst l], h =>
    have h : (blsV l).map (fun bs => Val.bl (bs.all id)) = some z := h
    cases q : blsV l with
    | none => rw [q] at h; cases h
    | some bs =>
      rw [q] at h
      cases h
      obtain ⟨v, rfl, a, xs, rfl, h1, h2⟩ := one_of hv
      exact ⟨a, bs, rfl, by rw [← bls_rep h2 q]; exact h1.sq, d.imm w s rfl⟩
theorem c_any : CallOk I K (rAny K) (fun S => biV S .any) := by
  intro W H S ps vs z Q w s hv h d
  match ps, h with
  | [.lst l], h =>
    have h : (blsV l).map (fun bs => Val.bl (bs.any id)) = some z := h
    cases q : blsV l with
    | none => rw [q] at h; cases h
    | some bs =>
      rw [q] at h
      cases h
      obtain ⟨v, rfl, a, xs, rfl, h1, h2⟩ := one_of hv
      exact ⟨a, bs, rfl, by rw [← bls_rep h2 q]; exact h1.sq, d.imm w s rfl⟩
theorem c_sum : CallOk I K (rSum K) (fun S => biV S .sum) := by
  intro W H S ps vs z Q w s hv h d
  match ps, h with
  | [.lst l], h =>
    have h : (intsV l).map (fun bs => Val.int bs.sum) = some z := h
    cases q : intsV l with
    | none => rw [q] at h; cases h
    | some bs =>
      rw [q] at h
      cases h
      obtain ⟨v, rfl, a, xs, rfl, h1, h2⟩ := one_of hv
      exact ⟨a, bs, rfl, by rw [← ints_rep h2 q]; exact h1.sq, d.imm w s rfl⟩
theorem c_min2 : CallOk I K (fun xs H Q => ∃ i j, xs = [.int i, .int j] ∧ Q (.int (if j < i then j else i)) H) (fun S => biV S .min2) := by
  intro W H S ps vs z Q w s hv h d
  match ps, h with
  | [.int i, .int j], h =>
    cases h
    obtain ⟨v, u, rfl, hp, hq⟩ := two_of hv
    cases hp
    cases hq
    exact ⟨i, j, rfl, d.imm w s rfl⟩
theorem c_max2 : CallOk I K (fun xs H Q => ∃ i j, xs = [.int i, .int j] ∧ Q (.int (if j > i then j else i)) H) (fun S => biV S .max2) := by
  intro W H S ps vs z Q w s hv h d
  match ps, h with
  | [.int i, .int j], h =>
    cases h
    obtain ⟨v, u, rfl, hp, hq⟩ := two_of hv
    cases hp
    cases hq
    exact ⟨i, j, rfl, d.imm w s rfl⟩
/-- the name by which a built-in is called; whether it's a type -/
def biN : Bi → Option (Bool × String)
  | .len => some (false, "len") | .abs => some (false, "abs") | .int => some (true, "int") | .bool => some (true, "bool") | .str => some (true, "str")
  | .tuple => some (true, "tuple") | .list => some (true, "list") | .all => some (false, "all") | .any => some (false, "any") | .sum => some (false, "sum")
  | .min2 => some (false, "min") | .max2 => some (false, "max") | _ => none
/-- every one of these -/
theorem bi_ok (X : Cx) (hc : X.calm = true) (b : Bi) (t : Bool) (n : String) (e : biN b = some (t, n)) :
    ∃ r, CallR X (if t then .type n else .builtin n) r ∧ ∀ I, CallOk I X.K r (fun S => biV S b) := by
  cases b <;> cases e
  · exact ⟨_, call_len, fun _ => c_len⟩
  · exact ⟨_, call_abs, fun _ => c_abs⟩
  · exact ⟨_, call_int1, fun _ => c_int⟩
  · exact ⟨_, call_str_int, fun _ => c_str⟩
  · exact ⟨_, call_tuple_of, fun _ => c_tuple⟩
  · exact ⟨_, call_list_of, fun _ => c_list⟩
  · exact ⟨_, cr_all hc, fun _ => c_all⟩
  · exact ⟨_, cr_any hc, fun _ => c_any⟩
  · exact ⟨_, call_min2 hc, fun _ => c_min2⟩
  · exact ⟨_, call_max2 hc, fun _ => c_max2⟩
  · exact ⟨_, cr_sum hc, fun _ => c_sum⟩
  · exact ⟨_, call_bool1, fun _ => c_bool⟩
end
end Pi

end
section
set_option linter.all false
set_option maxRecDepth 100000
/-! PiF: what an expression of the text comes to: the judgements. -/
namespace Pi
open PySem PySem.Spec PyProof.Rows L2

theorem PE.imp {X : Cx} {e : Expr} {t t' : TE} (h : PE X e t) (f : ∀ σ H Q, t' σ H Q → t σ H Q) : PE X e t' := ⟨fun pins s σ H Q I q => h.run pins s σ H Q I (f σ H Q q)⟩
theorem PT.imp {X : Cx} {e : Expr} {t t' : TT} (h : PT X e t) (f : ∀ σ H Q, t' σ H Q → t σ H Q) : PT X e t' := ⟨fun pins s σ H Q I q => h.run pins s σ H Q I (f σ H Q q)⟩
theorem PW.imp {X : Cx} {e : Expr} {t t' : TT} (h : PW X e t) (f : ∀ σ H Q, t' σ H Q → t σ H Q) : PW X e t' := ⟨fun w pins s σ H Q I q => h.run w pins s σ H Q I (f σ H Q q)⟩
theorem PA.imp {X : Cx} {e : List Expr} {t t' : TA} (h : PA X e t) (f : ∀ σ H Q, t' σ H Q → t σ H Q) : PA X e t' := ⟨fun pos pins s σ H Q I q => h.run pos pins s σ H Q I (f σ H Q q)⟩
theorem PSs.imp {X : Cx} {e : List Stmt} {t t' : TS} (h : PSs X e t) (f : ∀ D σ H, t' D σ H → t D σ H) : PSs X e t' := ⟨fun pins s σ H D I q => h.run pins s σ H D I (f D σ H q)⟩
theorem PS.imp {X : Cx} {e : Stmt} {t t' : TS} (h : PS X e t) (f : ∀ D σ H, t' D σ H → t D σ H) : PS X e t' := ⟨fun pins s σ H D I q => h.run pins s σ H D I (f D σ H q)⟩

/-- an exception that flies -/
def ExcOk (I : XI) (K : PySem.W.Frag) (W' : Wd) (H' : Hp) (y : Val) (cls : Value) (d : Option Addr) : Prop :=
  ∃ c x C dd f xv, y = .exn c x ∧ I.ce c = some C ∧ I.xf c = some f ∧ cls = .ref C ∧ d = some dd ∧ W'.R dd ∧ H' dd = some (.xd [((f : Str), xv)]) ∧ Rp I K W' H' x xv
/-- from one place to a later one -/
structure Nxt (I : XI) (K : PySem.W.Frag) (W : Wd) (H : Hp) (W' : Wd) (H' : Hp) (S' : Store) : Prop where
  le : W.le W'
  kp : Kp W.P H H'
  w : WOk W' H'
  s : StRep I K W' H' S'
theorem Nxt.trans {I : XI} {K : PySem.W.Frag} {W W1 W2 : Wd} {H H1 H2 : Hp} {S1 S2 : Store} (a : Nxt I K W H W1 H1 S1) (b : Nxt I K W1 H1 W2 H2 S2) : Nxt I K W H W2 H2 S2 :=
  ⟨a.le.trans b.le, a.kp.trans (b.kp.mono a.le.p), b.w, b.s⟩
abbrev Kd (α β : Type) := Wd → Wd → Hp → α → β → Prop
def Anti {α β : Type} (kd : Kd α β) : Prop := ∀ W W1 W' H' v x, W.le W1 → kd W1 W' H' v x → kd W W' H' v x
section
variable (I : XI) (K : PySem.W.Frag)
def kS : Kd Val V := fun _ W' H' v x => Rp I K W' H' v x
def kB : Kd Val V := fun _ W' H' v x => KB I K W' H' v x
def kF : Kd Val V := fun W W' H' v x => KF I K W' H' W v x
def kSs : Kd (List Val) (List V) := fun _ W' H' v x => Rps I K W' H' v x
def kBs : Kd (List Val) (List V) := fun _ W' H' v x => KBs I K W' H' v x
def kT : Kd Bool Bool := fun _ _ _ v x => v = x
def kO : Kd (Option Int) (Option Int) := fun _ _ _ v x => v = x
theorem kS_anti : Anti (kS I K) := fun _ _ _ _ _ _ _ h => h
theorem kB_anti : Anti (kB I K) := fun _ _ _ _ _ _ _ h => h
theorem kF_anti : Anti (kF I K) := fun W W1 W' H' v x le h => by
  cases v with
  | lst l =>
    obtain ⟨a, e, o, n⟩ := h
    exact ⟨a, e, o, fun z => n (le.p a z)⟩
  | _ => exact h
theorem kSs_anti : Anti (kSs I K) := fun _ _ _ _ _ _ _ h => h
theorem kBs_anti : Anti (kBs I K) := fun _ _ _ _ _ _ _ h => h
theorem kT_anti : Anti kT := fun _ _ _ _ _ _ _ h => h
theorem kO_anti : Anti kO := fun _ _ _ _ _ _ _ h => h
variable (E : XK)
/-- what is wanted at a result -/
def At {α β : Type} (kd : Kd α β) (W : Wd) (H : Hp) (r : Res α) (Q : β → Hp → Prop) : Prop :=
  match r with
  | .ok v S' => ∀ W' H' x, Nxt I K W H W' H' S' → kd W W' H' v x → Q x H'
  | .exc y S' => ∀ W' H' cls d, Nxt I K W H W' H' S' → ExcOk I K W' H' y cls d → E cls d H'
  | .bad => False
def rd {α β : Type} (O : List Nat) (kd : Kd α β) (m : Env → Store → Res α) : L2.St → Hp → (β → Hp → Prop) → Prop :=
  fun σ H Q => ∃ W ρ S, Sr I K W H O ρ σ S ∧ At I K E kd W H (m ρ S) Q
end
section
variable {I : XI} {K : PySem.W.Frag} {E : XK} {α β γ δ : Type} {W W1 : Wd} {H H1 : Hp} {S1 : Store} {O : List Nat}
theorem At.shift {kd : Kd α β} (an : Anti kd) {r : Res α} {Q : β → Hp → Prop} (n : Nxt I K W H W1 H1 S1) (h : At I K E kd W H r Q) : At I K E kd W1 H1 r Q := by
  cases r with
  | ok v S' => exact fun W' H' x n' k => h W' H' x (n.trans n') (an _ _ _ _ _ _ n.le k)
  | exc y S' => exact fun W' H' c d n' k => h W' H' c d (n.trans n') k
  | bad => exact h
theorem At.seq {kd1 : Kd α β} {kd2 : Kd γ δ} (an : Anti kd2) {r : Res α} {f : α → Store → Res γ} {Q : δ → Hp → Prop} {Q1 : β → Hp → Prop} (h : At I K E kd2 W H (r.bind f) Q)
    (k : ∀ v S1 W1 H1 x, r = .ok v S1 → Nxt I K W H W1 H1 S1 → kd1 W W1 H1 v x → At I K E kd2 W1 H1 (f v S1) Q → Q1 x H1) : At I K E kd1 W H r Q1 := by
  cases r with
  | ok v S' => exact fun W' H' x n kd => k v S' W' H' x rfl n kd (h.shift an n)
  | exc y S' => exact h
  | bad => exact h
theorem At.imp {kd1 kd2 : Kd α β} {r : Res α} {Q : β → Hp → Prop} (h : At I K E kd1 W H r Q) (f : ∀ W' H' v x, kd2 W W' H' v x → kd1 W W' H' v x) : At I K E kd2 W H r Q := by
  cases r with
  | ok v S' => exact fun W' H' x n k => h W' H' x n (f _ _ _ _ k)
  | exc y S' => exact h
  | bad => exact h
theorem At.here {kd : Kd α β} {v : α} {S' : Store} {Q : β → Hp → Prop} {x : β} (h : At I K E kd W H (.ok v S') Q) (w : WOk W H) (s : StRep I K W H S') (k : kd W W H v x) : Q x H := h W H x ⟨.refl, .refl, w, s⟩ k
theorem At.of {kd : Kd α β} {o : Option α} {S' : Store} {Q : β → Hp → Prop} (h : At I K E kd W H (.of o S') Q) : ∃ v, o = some v ∧ At I K E kd W H (.ok v S') Q := by
  cases o with
  | none => exact h.elim
  | some v => exact ⟨v, rfl, h⟩
theorem At.done {v : Val} {S' : Store} {Q : VK} (h : At I K E (kF I K) W H (.ok v S') Q) : Done I K W H S' v Q := fun W' H' x le kp w s k => h W' H' x ⟨le, kp, w, s⟩ k
theorem At.doneS {v : Val} {S' : Store} {Q : VK} (h : At I K E (kS I K) W H (.ok v S') Q) : DoneS I K W H S' v Q := fun W' H' x le kp w s k => h W' H' x ⟨le, kp, w, s⟩ k
theorem Sr.nxt {ρ : Env} {σ : L2.St} {S : Store} (h : Sr I K W H O ρ σ S) (n : Nxt I K W H W1 H1 S1) : Sr I K W1 H1 O ρ σ S1 := h.up n.le n.kp n.w n.s
variable {X : Cx} {e : Expr}
theorem je_share {m : Env → Store → Res Val} (h : PE X e (rd I X.K E O (kF I X.K) m)) : PE X e (rd I X.K E O (kS I X.K) m) := by
  refine PE.imp h fun σ H Q ⟨W, ρ, S, sr, q⟩ => ⟨W, ρ, S, sr, ?_⟩
  cases e : m ρ S with
  | ok v S' =>
    rw [e] at q
    intro W' H' x n k
    obtain ⟨W2, h1, h2, h3, h4, h5, h6⟩ := KF.share n.le n.w n.s k
    exact q W2 H' x ⟨h1, n.kp, h4, h5⟩ h6
  | exc y S' => rw [e] at q; exact q
  | bad => rw [e] at q; exact q
theorem je_kb {m : Env → Store → Res Val} (h : PE X e (rd I X.K E O (kS I X.K) m)) : PE X e (rd I X.K E O (kB I X.K) m) := by
  refine PE.imp h fun σ H Q ⟨W, ρ, S, sr, q⟩ => ⟨W, ρ, S, sr, ?_⟩
  cases e : m ρ S with
  | ok v S' =>
    rw [e] at q
    exact fun W' H' x n k => q W' H' x n (Rp.kb n.w k)
  | exc y S' => rw [e] at q; exact q
  | bad => rw [e] at q; exact q
theorem je_fb {m : Env → Store → Res Val} (h : PE X e (rd I X.K E O (kF I X.K) m)) : PE X e (rd I X.K E O (kB I X.K) m) :=
  PE.imp h fun σ H Q ⟨W, ρ, S, sr, q⟩ => ⟨W, ρ, S, sr, q.imp fun _ _ _ _ k => KF.kb k⟩
theorem kSs_kBs {ps : List Val} {vs : List V} (w : WOk W H) : Rps I K W H ps vs → KBs I K W H ps vs := by
  induction ps generalizing vs with
  | nil => exact fun h => h
  | cons p ps ih =>
    rintro ⟨v, ws, e, h1, h2⟩
    exact ⟨v, ws, e, Rp.kb w h1, ih h2⟩
end

/-! ### the terms -/
section
variable {X : Cx} {I : XI} {E : XK} {sg : Sig} {cf : String → List Val → Store → Res Val} {O : List Nat}
abbrev JE (X : Cx) (I : XI) (E : XK) (O : List Nat) (kd : Kd Val V) (m : Env → Store → Res Val) (e : Expr) : Prop := PE X e (rd I X.K E O kd m)
theorem j_lv {i : Nat} {x : Str} {pos : Pos} (hN : X.N[i]? = some x) (hv : Vis X.env.scope x) (hd : (x == ("__debug__" : Str)) = false) (hcd : (x == ("__classdict__" : Str)) = false) (hO : i ∉ O) :
    JE X I E O (kS I X.K) (fun ρ S => evE sg cf ρ (.lv i) S) (.Name x pos) := by
  refine PE.imp (pe_var hN hv hd hcd) fun σ H Q ⟨W, ρ, S, sr, q⟩ => ?_
  simp only [evE] at q
  split at q
  · rename_i v hv'
    obtain ⟨u, h1, h2⟩ := sr.e.sh i v hv' hO
    exact ⟨u, h1, q.here sr.w sr.s h2⟩
  · exact q.elim
theorem j_lvB {i : Nat} {x : Str} {pos : Pos} (hN : X.N[i]? = some x) (hv : Vis X.env.scope x) (hd : (x == ("__debug__" : Str)) = false) (hcd : (x == ("__classdict__" : Str)) = false) :
    JE X I E O (kB I X.K) (fun ρ S => evE sg cf ρ (.lv i) S) (.Name x pos) := by
  refine PE.imp (pe_var hN hv hd hcd) fun σ H Q ⟨W, ρ, S, sr, q⟩ => ?_
  simp only [evE] at q
  split at q
  · rename_i v hv'
    by_cases hO : i ∈ O
    · obtain ⟨l, a, rfl, h1, h2, h3, xs, h4, h5⟩ := sr.e.ow i v hv' hO
      exact ⟨.ref a, h1, q.here sr.w sr.s ⟨a, xs, rfl, ⟨h2, h4⟩, h5⟩⟩
    · obtain ⟨u, h1, h2⟩ := sr.e.sh i v hv' hO
      exact ⟨u, h1, q.here sr.w sr.s (Rp.kb sr.w h2)⟩
  · exact q.elim
theorem j_int {i : Int} {j : Nat} {pos : Pos} : JE X I E O (kF I X.K) (fun ρ S => evE sg cf ρ (.cst (.int i)) S) (.Constant (.int i) j pos) :=
  PE.imp pe_int fun σ H Q ⟨W, ρ, S, sr, q⟩ => by
    simp only [evE] at q
    exact q.here sr.w sr.s (rfl : Rp I X.K W H (.int i) (.int i))
theorem j_bool {i : Bool} {j : Nat} {pos : Pos} : JE X I E O (kF I X.K) (fun ρ S => evE sg cf ρ (.cst (.bl i)) S) (.Constant (.bool i) j pos) :=
  PE.imp pe_bl fun σ H Q ⟨W, ρ, S, sr, q⟩ => by
    simp only [evE] at q
    exact q.here sr.w sr.s (rfl : Rp I X.K W H (.bl i) (.bl i))
theorem j_non {j : Nat} {pos : Pos} : JE X I E O (kF I X.K) (fun ρ S => evE sg cf ρ (.cst .non) S) (.Constant .none j pos) :=
  PE.imp pe_non fun σ H Q ⟨W, ρ, S, sr, q⟩ => by
    simp only [evE] at q
    exact q.here sr.w sr.s (rfl : Rp I X.K W H .non .non)
theorem j_str {x : Str} {j : Nat} {pos : Pos} (hl : x.length ≤ lim) (ho : PyData.strOk x = true) : JE X I E O (kF I X.K) (fun ρ S => evE sg cf ρ (.cst (.str x)) S) (.Constant (.str x) j pos) :=
  PE.imp pe_str fun σ H Q ⟨W, ρ, S, sr, q⟩ => by
    simp only [evE] at q
    exact q.here sr.w sr.s (show Rp I X.K W H (.str x) (.str x) from ⟨rfl, hl, ho⟩)
/-- a constant of the module -/
def GvOk (I : XI) (K : PySem.W.Frag) (mg : Str → Option Value) (x : Str) (p : Val) : Prop := ∃ v u, mg x = some u ∧ RelV v u ∧ ∀ H R μ, RepV I K H R μ p v
theorem j_gv {x : Str} {n : String} {p : Val} {pos : Pos} (g : GvOk I X.K X.mg x p) (hg : Gl X x) (hd : (x == ("__debug__" : Str)) = false) : JE X I E O (kS I X.K) (fun ρ S => evE sg cf ρ (.gv n p) S) (.Name x pos) := by
  obtain ⟨v, u, hm, hr, hp⟩ := g
  refine PE.imp (pe_glob hg hm hr hd) fun σ H Q ⟨W, ρ, S, sr, q⟩ => ?_
  simp only [evE] at q
  exact q.here sr.w sr.s (hp _ _ _)
/-- two terms, an operation -/
theorem two_rd {r : R2} {f : Val → Val → Option Val} (ok : R2Ok I X.K r f) {ma mb : Env → Store → Res Val} {σ : L2.St} {H : Hp} {Q : VK}
    (h : rd I X.K E O (kF I X.K) (fun ρ S => (ma ρ S).bind fun x S1 => (mb ρ S1).bind fun y S2 => .of (f x y) S2) σ H Q) : tOp r (rd I X.K E O (kB I X.K) ma) (rd I X.K E O (kB I X.K) mb) σ H Q := by
  obtain ⟨W, ρ, S, sr, q⟩ := h
  refine ⟨W, ρ, S, sr, q.seq (kF_anti _ _) fun x S1 W1 H1 xv e1 n1 k1 q1 => ?_⟩
  refine ⟨W1, ρ, S1, sr.nxt n1, q1.seq (kF_anti _ _) fun y S2 W2 H2 yv e2 n2 k2 q2 => ?_⟩
  obtain ⟨z, ez, q3⟩ := q2.of
  exact ok W2 H2 S2 x y z xv yv Q n2.w n2.s (KB.up n2.le n2.kp n1.w k1) k2 ez q3.done
theorem j_bin {o : Bop} {a b : IE} {ea eb : Expr} {pos : Pos} (ha : JE X I E O (kB I X.K) (fun ρ S => evE sg cf ρ a S) ea) (hb : JE X I E O (kB I X.K) (fun ρ S => evE sg cf ρ b S) eb) :
    JE X I E O (kF I X.K) (fun ρ S => evE sg cf ρ (.bin o a b) S) (.BinOp ea (bopO o) eb pos) := by
  obtain ⟨r, h1, h2⟩ := bop_ok X o
  refine PE.imp (pe_op h1 ha hb) fun σ H Q h => ?_
  simp only [evE] at h
  exact two_rd (h2 I) h
theorem j_neg {a : IE} {ea : Expr} {pos : Pos} (ha : JE X I E O (kB I X.K) (fun ρ S => evE sg cf ρ a S) ea) : JE X I E O (kF I X.K) (fun ρ S => evE sg cf ρ (.neg a) S) (.UnaryOp .USub ea pos) := by
  refine PE.imp (pe_un un_neg ha) fun σ H Q h => ?_
  obtain ⟨W, ρ, S, sr, q⟩ := h
  simp only [evE] at q
  refine ⟨W, ρ, S, sr, q.seq (kF_anti _ _) fun x S1 W1 H1 xv e1 n1 k1 q1 => ?_⟩
  cases x <;> try (exact q1.elim)
  rename_i i
  cases k1
  exact ⟨i, rfl, q1.here n1.w n1.s (show Rp I X.K W1 H1 (.int (-i)) (.int (-i)) from rfl)⟩
theorem cop_mark {o : Cop} {eb : Expr} (h : ∀ es k p, eb ≠ .Set es k p) : behindInMarks (copO o) eb = false := by
  cases eb <;> first | rfl | exact absurd rfl (h _ _ _)
theorem j_cmp {o : Cop} {a b : IE} {ea eb : Expr} {pos : Pos} (hu : X.A.units + 65 < cLine) (hs : ∀ es k p, eb ≠ .Set es k p) (ha : JE X I E O (kB I X.K) (fun ρ S => evE sg cf ρ a S) ea) (hb : JE X I E O (kB I X.K) (fun ρ S => evE sg cf ρ b S) eb) :
    JE X I E O (kF I X.K) (fun ρ S => evE sg cf ρ (.cmp o a b) S) (.Compare ea [copO o] [eb] pos) := by
  obtain ⟨r, h1, h2⟩ := cop_ok X hu o
  refine PE.imp (pe_cmpR h1 ha hb (cop_mark hs)) fun σ H Q h => ?_
  simp only [evE] at h
  exact two_rd (h2 I) h
abbrev JT (X : Cx) (I : XI) (E : XK) (O : List Nat) (m : Env → Store → Res Bool) (e : Expr) : Prop := PT X e (rd I X.K E O kT m)
theorem jt_cmp {o : Cop} {a b : IE} {ea eb : Expr} {pos : Pos} (hu : X.A.units + 65 < cLine) (hs : ∀ es k p, eb ≠ .Set es k p) (ha : JE X I E O (kB I X.K) (fun ρ S => evE sg cf ρ a S) ea) (hb : JE X I E O (kB I X.K) (fun ρ S => evE sg cf ρ b S) eb) :
    JT X I E O (fun ρ S => evT sg cf ρ (.cmp o a b) S) (.Compare ea [copO o] [eb] pos) := by
  obtain ⟨r, h1, h2⟩ := cop_ok X hu o
  refine PT.imp (pt_cmpR h1 ha hb (cop_mark hs)) fun σ H Q h => ?_
  obtain ⟨W, ρ, S, sr, q⟩ := h
  refine two_rd (h2 I) ⟨W, ρ, S, sr, ?_⟩
  simp only [evT, evE] at q
  refine q.seq kT_anti fun x S1 W1 H1 xv e1 n1 k1 q1 => ?_
  have e2 : ∃ b, x = .bl b := by
    cases e3 : evE sg cf ρ a S with
    | ok x1 T1 =>
      rw [e3, Res.bind_ok] at e1
      cases e4 : evE sg cf ρ b T1 with
      | ok x2 T2 =>
        rw [e4, Res.bind_ok] at e1
        cases e5 : cmpV o x1 x2 with
        | none => rw [e5] at e1; cases e1
        | some c => rw [e5] at e1; cases e1; exact ⟨c, rfl⟩
      | exc y T2 => rw [e4] at e1; cases e1
      | bad => rw [e4] at e1; cases e1
    | exc y T1 => rw [e3] at e1; cases e1
    | bad => rw [e3] at e1; cases e1
  obtain ⟨b, rfl⟩ := e2
  cases k1
  exact ⟨b, rfl, q1.here n1.w n1.s rfl⟩
/-- any term as a test -/
theorem jt_any {a : IE} {ea : Expr} (he : ∀ whole, isTrue ea X.env whole = (do let v ← whole; standAt ea.pos; holding [v] (truthy v))) (ha : JE X I E O (kB I X.K) (fun ρ S => evE sg cf ρ a S) ea) :
    JT X I E O (fun ρ S => evT sg cf ρ a S) ea := by
  refine PT.imp (pt_truth ha he) fun σ H Q h => ?_
  obtain ⟨W, ρ, S, sr, q⟩ := h
  simp only [evT] at q
  refine ⟨W, ρ, S, sr, q.seq kT_anti fun x S1 W1 H1 xv e1 n1 k1 q1 => ?_⟩
  obtain ⟨b, eb, q2⟩ := q1.of
  exact ⟨b, ok_tru k1 eb, q2.here n1.w n1.s rfl⟩
theorem jt_not {a : IE} {ea : Expr} {pos : Pos} (ha : JT X I E O (fun ρ S => evT sg cf ρ a S) ea) : JT X I E O (fun ρ S => evT sg cf ρ (.not a) S) (.UnaryOp .Not ea pos) := by
  refine PT.imp (pt_not ha) fun σ H Q h => ?_
  obtain ⟨W, ρ, S, sr, q⟩ := h
  refine ⟨W, ρ, S, sr, ?_⟩
  simp only [evT, evE] at q ⊢
  cases e : evE sg cf ρ a S with
  | ok v S1 =>
    rw [e] at q
    simp only [Res.bind_ok] at q ⊢
    cases e2 : truV v with
    | none => rw [e2] at q; exact q.elim
    | some b =>
      rw [e2] at q
      intro W' H' x n k
      cases k
      exact q W' H' (!b) n rfl
  | exc y S1 => rw [e] at q; exact q
  | bad => rw [e] at q; exact q
theorem j_not {a : IE} {ea : Expr} {pos : Pos} (ha : JE X I E O (kB I X.K) (fun ρ S => evE sg cf ρ a S) ea) : JE X I E O (kF I X.K) (fun ρ S => evE sg cf ρ (.not a) S) (.UnaryOp .Not ea pos) := by
  refine ⟨fun pins s σ H Q J h => ?_⟩
  obtain ⟨W, ρ, S, sr, q⟩ := h
  simp only [evE] at q
  have h1 : rd I X.K E O (kB I X.K) (fun ρ S => evE sg cf ρ a S) σ H (fun x H1 => ∃ k, TruV X.K x H1 k ∧ Q (.bl (!k)) H1) := ⟨W, ρ, S, sr, q.seq (kF_anti _ _) fun x S1 W1 H1 xv e1 n1 k1 q1 => by
    obtain ⟨z, ez, q2⟩ := q1.of
    cases e2 : truV x with
    | none => rw [e2] at ez; cases ez
    | some b =>
      rw [e2] at ez
      cases ez
      exact ⟨b, ok_tru k1 e2, q2.here n1.w n1.s (show Rp I X.K W1 H1 (.bl (!b)) (.bl (!b)) from rfl)⟩⟩
  refine UnaryOp_ (thn (ha.run pins s σ H _ J h1) fun v s1 ⟨x, H1, J1, r1, k, t, q1⟩ => not_of ?_)
  refine thn (tru_ok pins s1 σ H1 x v (fun k H2 => Q (.bl (!k)) H2) J1 r1 ⟨k, t, q1⟩) fun b s2 ⟨H2, J2, q2⟩ => ⟨.bl (!b), H2, J2, rfl, q2⟩
theorem evAnd_cons (sg : Sig) (cf : String → List Val → Store → Res Val) (ρ : Env) (a b : IE) (r : List IE) (S : Store) : evAnd sg cf ρ (a :: b :: r) S = (evE sg cf ρ a S).bind fun v S1 => (match v with
    | .bl true => evAnd sg cf ρ (b :: r) S1
    | .bl false => .ok (.bl false) S1
    | _ => .bad) := by
  conv => lhs; unfold evAnd
  try rfl
theorem evOr_cons (sg : Sig) (cf : String → List Val → Store → Res Val) (ρ : Env) (a b : IE) (r : List IE) (S : Store) : evOr sg cf ρ (a :: b :: r) S = (evE sg cf ρ a S).bind fun v S1 => (match v with
    | .bl false => evOr sg cf ρ (b :: r) S1
    | .bl true => .ok (.bl true) S1
    | _ => .bad) := by
  conv => lhs; unfold evOr
  try rfl
/-- and, or of truths -/
theorem j_and1 {a : IE} {ea : Expr} {pos : Pos} {op : BoolOp} {kd : Kd Val V} (ha : JE X I E O kd (fun ρ S => evE sg cf ρ a S) ea) : JE X I E O kd (fun ρ S => evAnd sg cf ρ [a] S) (.BoolOp op [ea] pos) := by
  refine PE.imp (pe_one ha) fun σ H Q ⟨W, ρ, S, sr, q⟩ => ⟨W, ρ, S, sr, ?_⟩
  replace q : At I X.K E kd W H (evAnd sg cf ρ [a] S) Q := q
  have e : evAnd sg cf ρ [a] S = evE sg cf ρ a S := by
    simp only [evAnd]
    cases evE sg cf ρ a S <;> rfl
  rw [e] at q
  exact q
theorem j_or1 {a : IE} {ea : Expr} {pos : Pos} {op : BoolOp} {kd : Kd Val V} (ha : JE X I E O kd (fun ρ S => evE sg cf ρ a S) ea) : JE X I E O kd (fun ρ S => evOr sg cf ρ [a] S) (.BoolOp op [ea] pos) := by
  refine PE.imp (pe_one ha) fun σ H Q ⟨W, ρ, S, sr, q⟩ => ⟨W, ρ, S, sr, ?_⟩
  replace q : At I X.K E kd W H (evOr sg cf ρ [a] S) Q := q
  have e : evOr sg cf ρ [a] S = evE sg cf ρ a S := by
    simp only [evOr]
    cases evE sg cf ρ a S <;> rfl
  rw [e] at q
  exact q
theorem j_and {a b : IE} {r : List IE} {ea eb : Expr} {er : List Expr} {pos : Pos} (ha : JE X I E O (kB I X.K) (fun ρ S => evE sg cf ρ a S) ea) (hb : JE X I E O (kF I X.K) (fun ρ S => evAnd sg cf ρ (b :: r) S) (.BoolOp .And (eb :: er) pos)) :
    JE X I E O (kF I X.K) (fun ρ S => evAnd sg cf ρ (a :: b :: r) S) (.BoolOp .And (ea :: eb :: er) pos) := by
  refine PE.imp (pe_and ha hb) fun σ H Q ⟨W, ρ, S, sr, q⟩ => ⟨W, ρ, S, sr, ?_⟩
  replace q : At I X.K E (kF I X.K) W H (evAnd sg cf ρ (a :: b :: r) S) Q := q
  rw [evAnd_cons] at q
  refine q.seq (kF_anti _ _) fun x S1 W1 H1 xv e1 n1 k1 q1 => ?_
  cases x <;> try (exact q1.elim)
  rename_i c
  cases k1
  refine ⟨c, rfl, ?_⟩
  cases c with
  | true =>
    rw [if_pos rfl]
    exact ⟨W1, ρ, S1, sr.nxt n1, q1⟩
  | false =>
    rw [if_neg Bool.false_ne_true]
    exact q1.here n1.w n1.s (show Rp I X.K W1 H1 (.bl false) (.bl false) from rfl)
theorem j_or {a b : IE} {r : List IE} {ea eb : Expr} {er : List Expr} {pos : Pos} (ha : JE X I E O (kB I X.K) (fun ρ S => evE sg cf ρ a S) ea) (hb : JE X I E O (kF I X.K) (fun ρ S => evOr sg cf ρ (b :: r) S) (.BoolOp .Or (eb :: er) pos)) :
    JE X I E O (kF I X.K) (fun ρ S => evOr sg cf ρ (a :: b :: r) S) (.BoolOp .Or (ea :: eb :: er) pos) := by
  refine PE.imp (pe_or ha hb) fun σ H Q ⟨W, ρ, S, sr, q⟩ => ⟨W, ρ, S, sr, ?_⟩
  replace q : At I X.K E (kF I X.K) W H (evOr sg cf ρ (a :: b :: r) S) Q := q
  rw [evOr_cons] at q
  refine q.seq (kF_anti _ _) fun x S1 W1 H1 xv e1 n1 k1 q1 => ?_
  cases x <;> try (exact q1.elim)
  rename_i c
  cases k1
  refine ⟨c, rfl, ?_⟩
  cases c with
  | false =>
    rw [if_neg Bool.false_ne_true]
    exact ⟨W1, ρ, S1, sr.nxt n1, q1⟩
  | true =>
    rw [if_pos rfl]
    exact q1.here n1.w n1.s (show Rp I X.K W1 H1 (.bl true) (.bl true) from rfl)
/-- .. as tests -/
def evAndT (sg : Sig) (cf : String → List Val → Store → Res Val) (ρ : Env) (es : List IE) (S : Store) : Res Bool := (evAnd sg cf ρ es S).bind fun v S1 => .of (truV v) S1
def evOrT (sg : Sig) (cf : String → List Val → Store → Res Val) (ρ : Env) (es : List IE) (S : Store) : Res Bool := (evOr sg cf ρ es S).bind fun v S1 => .of (truV v) S1
abbrev JW (X : Cx) (I : XI) (E : XK) (O : List Nat) (m : Env → Store → Res Bool) (e : Expr) : Prop := PW X e (rd I X.K E O kT m)
theorem jw_and1 {a : IE} {ea : Expr} {pos : Pos} (ha : JT X I E O (fun ρ S => evT sg cf ρ a S) ea) : JW X I E O (fun ρ S => evAndT sg cf ρ [a] S) (.BoolOp .And [ea] pos) := by
  refine PW.imp (pw_and1 ha) fun σ H Q ⟨W, ρ, S, sr, q⟩ => ⟨W, ρ, S, sr, ?_⟩
  replace q : At I X.K E kT W H (evAndT sg cf ρ [a] S) Q := q
  have e : evAndT sg cf ρ [a] S = evT sg cf ρ a S := by
    simp only [evAndT, evAnd, evT]
    cases evE sg cf ρ a S <;> rfl
  rw [e] at q
  exact q
theorem jw_or1 {a : IE} {ea : Expr} {pos : Pos} (ha : JT X I E O (fun ρ S => evT sg cf ρ a S) ea) : JW X I E O (fun ρ S => evOrT sg cf ρ [a] S) (.BoolOp .Or [ea] pos) := by
  refine PW.imp (pw_or1 ha) fun σ H Q ⟨W, ρ, S, sr, q⟩ => ⟨W, ρ, S, sr, ?_⟩
  replace q : At I X.K E kT W H (evOrT sg cf ρ [a] S) Q := q
  have e : evOrT sg cf ρ [a] S = evT sg cf ρ a S := by
    simp only [evOrT, evOr, evT]
    cases evE sg cf ρ a S <;> rfl
  rw [e] at q
  exact q
theorem jw_and {a b : IE} {r : List IE} {ea eb : Expr} {er : List Expr} {pos : Pos} (ha : JT X I E O (fun ρ S => evT sg cf ρ a S) ea) (hb : JW X I E O (fun ρ S => evAndT sg cf ρ (b :: r) S) (.BoolOp .And (eb :: er) pos)) :
    JW X I E O (fun ρ S => evAndT sg cf ρ (a :: b :: r) S) (.BoolOp .And (ea :: eb :: er) pos) := by
  refine PW.imp (pw_and ha hb) fun σ H Q ⟨W, ρ, S, sr, q⟩ => ⟨W, ρ, S, sr, ?_⟩
  replace q : At I X.K E kT W H ((evAnd sg cf ρ (a :: b :: r) S).bind fun v S1 => .of (truV v) S1) Q := q
  rw [evAnd_cons] at q
  show At I X.K E kT W H ((evE sg cf ρ a S).bind fun v S1 => .of (truV v) S1) _
  cases e : evE sg cf ρ a S with
  | ok v S1 =>
    rw [e] at q
    simp only [Res.bind_ok] at q ⊢
    cases v <;> try (exact q.elim)
    rename_i c
    intro W1 H1 x n k
    have k : c = x := k
    subst k
    cases c with
    | true =>
      rw [if_pos rfl]
      exact ⟨W1, ρ, S1, sr.nxt n, q.shift kT_anti n⟩
    | false =>
      rw [if_neg Bool.false_ne_true]
      exact q W1 H1 false n rfl
  | exc y S1 => rw [e] at q; exact q
  | bad => rw [e] at q; exact q
theorem jw_or {a b : IE} {r : List IE} {ea eb : Expr} {er : List Expr} {pos : Pos} (ha : JT X I E O (fun ρ S => evT sg cf ρ a S) ea) (hb : JW X I E O (fun ρ S => evOrT sg cf ρ (b :: r) S) (.BoolOp .Or (eb :: er) pos)) :
    JW X I E O (fun ρ S => evOrT sg cf ρ (a :: b :: r) S) (.BoolOp .Or (ea :: eb :: er) pos) := by
  refine PW.imp (pw_or ha hb) fun σ H Q ⟨W, ρ, S, sr, q⟩ => ⟨W, ρ, S, sr, ?_⟩
  replace q : At I X.K E kT W H ((evOr sg cf ρ (a :: b :: r) S).bind fun v S1 => .of (truV v) S1) Q := q
  rw [evOr_cons] at q
  show At I X.K E kT W H ((evE sg cf ρ a S).bind fun v S1 => .of (truV v) S1) _
  cases e : evE sg cf ρ a S with
  | ok v S1 =>
    rw [e] at q
    simp only [Res.bind_ok] at q ⊢
    cases v <;> try (exact q.elim)
    rename_i c
    intro W1 H1 x n k
    have k : c = x := k
    subst k
    cases c with
    | false =>
      rw [if_neg Bool.false_ne_true]
      exact ⟨W1, ρ, S1, sr.nxt n, q.shift kT_anti n⟩
    | true =>
      rw [if_pos rfl]
      exact q W1 H1 true n rfl
  | exc y S1 => rw [e] at q; exact q
  | bad => rw [e] at q; exact q
/-- a if c else b -/
theorem j_ite {kd : Kd Val V} (an : Anti kd) {c a b : IE} {ec ea eb : Expr} {pos : Pos} (hc : JT X I E O (fun ρ S => evT sg cf ρ c S) ec) (ha : JE X I E O kd (fun ρ S => evE sg cf ρ a S) ea) (hb : JE X I E O kd (fun ρ S => evE sg cf ρ b S) eb) :
    JE X I E O kd (fun ρ S => evE sg cf ρ (.ite c a b) S) (.IfExp ec ea eb pos) := by
  refine PE.imp (pe_ifExp hc ha hb) fun σ H Q ⟨W, ρ, S, sr, q⟩ => ⟨W, ρ, S, sr, ?_⟩
  simp only [evE] at q
  show At I X.K E kT W H ((evE sg cf ρ c S).bind fun v S1 => .of (truV v) S1) _
  cases e : evE sg cf ρ c S with
  | ok v S1 =>
    rw [e] at q
    simp only [Res.bind_ok] at q ⊢
    cases e2 : truV v with
    | none => rw [e2] at q; exact q.elim
    | some k =>
      rw [e2] at q
      intro W1 H1 x n k'
      have k' : k = x := k'
      subst k'
      cases k with
      | true =>
        rw [if_pos rfl]
        exact ⟨W1, ρ, S1, sr.nxt n, q.shift an n⟩
      | false =>
        rw [if_neg Bool.false_ne_true]
        exact ⟨W1, ρ, S1, sr.nxt n, q.shift an n⟩
  | exc y S1 => rw [e] at q; exact q
  | bad => rw [e] at q; exact q

/-! ### several -/
abbrev JA (X : Cx) (I : XI) (E : XK) (O : List Nat) (kd : Kd (List Val) (List V)) (m : Env → Store → Res (List Val)) (es : List Expr) : Prop := PA X es (rd I X.K E O kd m)
theorem ja_nilB : JA X I E O (kBs I X.K) (fun ρ S => evEs sg cf ρ [] S) [] :=
  PA.imp pa_nil fun σ H Q ⟨W, ρ, S, sr, q⟩ => by
    simp only [evEs] at q
    exact q.here sr.w sr.s (show KBs I X.K W H [] [] from rfl)
theorem ja_nilS : JA X I E O (kSs I X.K) (fun ρ S => evEs sg cf ρ [] S) [] :=
  PA.imp pa_nil fun σ H Q ⟨W, ρ, S, sr, q⟩ => by
    simp only [evEs] at q
    exact q.here sr.w sr.s (show Rps I X.K W H [] [] from rfl)
theorem ja_consB {a : IE} {r : List IE} {ea : Expr} {er : List Expr} (ha : JE X I E O (kB I X.K) (fun ρ S => evE sg cf ρ a S) ea) (hr : JA X I E O (kBs I X.K) (fun ρ S => evEs sg cf ρ r S) er)
    (hs : starEach (ea :: er) X.env = (false, eval ea X.env) :: starEach er X.env) : JA X I E O (kBs I X.K) (fun ρ S => evEs sg cf ρ (a :: r) S) (ea :: er) := by
  refine PA.imp (pa_cons ha hr hs) fun σ H Q ⟨W, ρ, S, sr, q⟩ => ⟨W, ρ, S, sr, ?_⟩
  simp only [evEs] at q
  refine q.seq (kBs_anti _ _) fun x S1 W1 H1 xv e1 n1 k1 q1 => ⟨W1, ρ, S1, sr.nxt n1, q1.seq (kBs_anti _ _) fun ys S2 W2 H2 yv e2 n2 k2 q2 => ?_⟩
  exact q2.here n2.w n2.s (show KBs I X.K W2 H2 (x :: ys) (xv :: yv) from ⟨xv, yv, rfl, KB.up n2.le n2.kp n1.w k1, k2⟩)
theorem ja_consS {a : IE} {r : List IE} {ea : Expr} {er : List Expr} (ha : JE X I E O (kS I X.K) (fun ρ S => evE sg cf ρ a S) ea) (hr : JA X I E O (kSs I X.K) (fun ρ S => evEs sg cf ρ r S) er)
    (hs : starEach (ea :: er) X.env = (false, eval ea X.env) :: starEach er X.env) : JA X I E O (kSs I X.K) (fun ρ S => evEs sg cf ρ (a :: r) S) (ea :: er) := by
  refine PA.imp (pa_cons ha hr hs) fun σ H Q ⟨W, ρ, S, sr, q⟩ => ⟨W, ρ, S, sr, ?_⟩
  simp only [evEs] at q
  refine q.seq (kSs_anti _ _) fun x S1 W1 H1 xv e1 n1 k1 q1 => ⟨W1, ρ, S1, sr.nxt n1, q1.seq (kSs_anti _ _) fun ys S2 W2 H2 yv e2 n2 k2 q2 => ?_⟩
  exact q2.here n2.w n2.s (show Rps I X.K W2 H2 (x :: ys) (xv :: yv) from ⟨xv, yv, rfl, Rp.up n2.le n2.kp n1.w k1, k2⟩)
theorem evEs_len (ρ : Env) : ∀ {es : List IE} {S S' : Store} {vs : List Val}, evEs sg cf ρ es S = .ok vs S' → vs.length = es.length
  | [], _, _, _, h => by
    simp only [evEs] at h
    cases h
    rfl
  | e :: es, S, S', vs, h => by
    simp only [evEs] at h
    cases e1 : evE sg cf ρ e S with
    | ok v S1 =>
      rw [e1, Res.bind_ok] at h
      cases e2 : evEs sg cf ρ es S1 with
      | ok ws S2 =>
        rw [e2, Res.bind_ok] at h
        cases h
        rw [List.length_cons, List.length_cons, evEs_len ρ e2]
      | exc y T => rw [e2] at h; cases h
      | bad => rw [e2] at h; cases h
    | exc y T => rw [e1] at h; cases h
    | bad => rw [e1] at h; cases h
theorem j_tup {es : List IE} {ees : List Expr} {k : Nat} {pos : Pos} (hl : es.length ≤ lim) (h : JA X I E O (kSs I X.K) (fun ρ S => evEs sg cf ρ es S) ees) : JE X I E O (kF I X.K) (fun ρ S => evE sg cf ρ (.tup es) S) (.Tuple ees k pos) := by
  refine PE.imp (pe_tup h) fun σ H Q ⟨W, ρ, S, sr, q⟩ => ⟨W, ρ, S, sr, ?_⟩
  simp only [evE] at q
  refine q.seq (kF_anti _ _) fun vs S1 W1 H1 xs e1 n1 k1 q1 => ⟨?_, fun p hp => q1.done.newT n1.w n1.s k1 p hp⟩
  rw [← RepVs.length k1, evEs_len ρ e1, sizeLine_lim]
  exact hl
theorem j_lst {es : List IE} {ees : List Expr} {pos : Pos} (hl : es.length ≤ lim) (h : JA X I E O (kSs I X.K) (fun ρ S => evEs sg cf ρ es S) ees) : JE X I E O (kF I X.K) (fun ρ S => evE sg cf ρ (.lst es) S) (.List ees pos) := by
  refine PE.imp (pe_lst h) fun σ H Q ⟨W, ρ, S, sr, q⟩ => ⟨W, ρ, S, sr, ?_⟩
  simp only [evE] at q
  refine q.seq (kF_anti _ _) fun vs S1 W1 H1 xs e1 n1 k1 q1 => ⟨?_, fun p hp => q1.done.newL n1.w n1.s k1 p hp⟩
  rw [← RepVs.length k1, evEs_len ρ e1, sizeLine_lim]
  exact hl
/-- a list of the store -/
def Wd.box (W : Wd) (p : Addr) : Wd := { W with μ := W.μ ++ [p] }
theorem le_box {W : Wd} {p : Addr} : W.le (W.box p) := ⟨fun _ h => h, fun _ h => h, fun _ h _ => h, fun n a h => by
  show (W.μ ++ [p])[n]? = some a
  rw [List.getElem?_append_left (List.getElem?_eq_some_iff.mp h).1]
  exact h⟩
theorem j_box {es : List IE} {ees : List Expr} {pos : Pos} (hl : es.length ≤ lim) (h : JA X I E O (kSs I X.K) (fun ρ S => evEs sg cf ρ es S) ees) : JE X I E O (kF I X.K) (fun ρ S => evE sg cf ρ (.box es) S) (.List ees pos) := by
  refine PE.imp (pe_lst h) fun σ H Q ⟨W, ρ, S, sr, q⟩ => ⟨W, ρ, S, sr, ?_⟩
  simp only [evE] at q
  refine q.seq (kF_anti _ _) fun vs S1 W1 H1 xs e1 n1 k1 q1 => ⟨?_, fun p hp => ?_⟩
  · rw [← RepVs.length k1, evEs_len ρ e1, sizeLine_lim]
    exact hl
  · have kp : Kp W1.P H1 (upd H1 p (.lst xs)) := Kp.new hp
    have w1 := wok_new (o := .lst xs) hp n1.w
    have pn : p ∉ W1.μ := fun z => by
      obtain ⟨_, u, e⟩ := n1.w.mp p z
      rw [hp] at e
      cases e
    have w2 : WOk (W1.box p) (upd H1 p (.lst xs)) := ⟨w1.rp, w1.d, by
      show (W1.μ ++ [p]).Nodup
      rw [List.nodup_append]
      refine ⟨w1.nd, by simp, fun a ha b hb => ?_⟩
      have : b = p := by simpa using hb
      subst this
      rintro rfl
      exact pn ha, fun a ha => by
      rcases List.mem_append.mp ha with ha | ha
      · exact w1.mp a ha
      · have : a = p := by simpa using ha
        subst this
        exact ⟨n1.w.no hp, _, upd_same⟩⟩
    have l1 := n1.s.len
    have s2 : StRep I X.K (W1.box p) (upd H1 p (.lst xs)) (S1 ++ [.lst vs]) := by
      refine ⟨by show _ = (W1.μ ++ [p]).length; rw [List.length_append, List.length_append, l1]; rfl, fun n o e => ?_⟩
      by_cases hn : n < S1.length
      · rw [List.getElem?_append_left hn] at e
        obtain ⟨a, h1, h2⟩ := (st_new (o := .lst xs) hp n1.w n1.s).ob n o e
        refine ⟨a, le_box.m n a h1, ?_⟩
        cases o with
        | lst l =>
          obtain ⟨ys, h3, h4⟩ := h2
          exact ⟨ys, h3, RepVs.mono .refl (fun _ z => z) le_box.m _ _ h4⟩
        | ro l =>
          obtain ⟨ys, h3, h4⟩ := h2
          exact ⟨ys, h3, RepVs.mono .refl (fun _ z => z) le_box.m _ _ h4⟩
        | ins c fs => exact h2.elim
      · have en : n = S1.length := by
          have := (List.getElem?_eq_some_iff.mp e).1
          rw [List.length_append] at this
          have e1 : [Ob.lst vs].length = 1 := rfl
          omega
        subst en
        rw [List.getElem?_append_right (Nat.le_refl _), Nat.sub_self] at e
        have e : Ob.lst vs = o := by simpa using e
        subst e
        refine ⟨p, ?_, xs, upd_same, RepVs.mono (kp.mono n1.w.rp) (fun _ z => z) le_box.m _ _ k1⟩
        show (W1.μ ++ [p])[S1.length]? = some p
        rw [l1, List.getElem?_append_right (Nat.le_refl _), Nat.sub_self]
        rfl
    refine q1 (W1.box p) _ _ ⟨le_box, kp, w2, s2⟩ ?_
    show ∃ a, V.ref p = .ref a ∧ (W1.μ ++ [p])[S1.length]? = some a
    refine ⟨p, rfl, ?_⟩
    rw [l1, List.getElem?_append_right (Nat.le_refl _), Nat.sub_self]
    rfl
/-- a[i] -/
theorem j_ix {a i : IE} {ea ei : Expr} {pos : Pos} (hp : PlainIx ei) (ha : JE X I E O (kB I X.K) (fun ρ S => evE sg cf ρ a S) ea) (hi : JE X I E O (kB I X.K) (fun ρ S => evE sg cf ρ i S) ei) :
    JE X I E O (kS I X.K) (fun ρ S => evE sg cf ρ (.ix a i) S) (.Subscript ea ei pos) := by
  refine PE.imp (pe_ix ix_seq ha hi hp) fun σ H Q ⟨W, ρ, S, sr, q⟩ => ⟨W, ρ, S, sr, ?_⟩
  simp only [evE] at q
  refine q.seq (kS_anti _ _) fun x S1 W1 H1 xv e1 n1 k1 q1 => ⟨W1, ρ, S1, sr.nxt n1, q1.seq (kS_anti _ _) fun y S2 W2 H2 yv e2 n2 k2 q2 => ?_⟩
  obtain ⟨z, ez, q3⟩ := q2.of
  exact ok_ix n2.w n2.s (KB.up n2.le n2.kp n1.w k1) k2 ez q3.doneS
abbrev JO (X : Cx) (I : XI) (E : XK) (O : List Nat) (m : Env → Store → Res (Option Int)) (e : Option Expr) : Prop := PO X e (rd I X.K E O kO m)
theorem jo_none : JO X I E O (fun ρ S => evO sg cf ρ [] S) none := by
  refine ⟨fun pins s σ H Q J ⟨W, ρ, S, sr, q⟩ => po_none.run pins s σ H Q J ?_⟩
  simp only [evO] at q
  exact q.here sr.w sr.s rfl
theorem jo_some {a : IE} {r : List IE} {ea : Expr} (ha : JE X I E O (kB I X.K) (fun ρ S => evE sg cf ρ a S) ea) : JO X I E O (fun ρ S => evO sg cf ρ (a :: r) S) (some ea) := by
  refine ⟨fun pins s σ H Q J ⟨W, ρ, S, sr, q⟩ => (po_some ha).run pins s σ H Q J ⟨W, ρ, S, sr, ?_⟩⟩
  simp only [evO] at q
  refine q.seq kO_anti fun x S1 W1 H1 xv e1 n1 k1 q1 => ?_
  cases x <;> try (exact q1.elim)
  rename_i i
  cases k1
  exact ⟨i, rfl, q1.here n1.w n1.s rfl⟩
theorem sl_all : SlR X (rSlAll X.K) := sl_list.or (sl_tupA.or sl_str)
theorem j_sl {a : IE} {lo hi : List IE} {ea : Expr} {elo ehi : Option Expr} {p2 pos : Pos} (ha : JE X I E O (kB I X.K) (fun ρ S => evE sg cf ρ a S) ea) (hl : JO X I E O (fun ρ S => evO sg cf ρ lo S) elo) (hh : JO X I E O (fun ρ S => evO sg cf ρ hi S) ehi) :
    JE X I E O (kF I X.K) (fun ρ S => evE sg cf ρ (.sl a lo hi) S) (.Subscript ea (.Slice elo ehi none p2) pos) := by
  refine PE.imp (pe_slice sl_all ha hl hh) fun σ H Q ⟨W, ρ, S, sr, q⟩ => ⟨W, ρ, S, sr, ?_⟩
  simp only [evE] at q
  refine q.seq (kF_anti _ _) fun x S1 W1 H1 xv e1 n1 k1 q1 => ⟨W1, ρ, S1, sr.nxt n1, q1.seq (kF_anti _ _) fun l S2 W2 H2 l' e2 n2 k2 q2 => ⟨W2, ρ, S2, (sr.nxt n1).nxt n2, q2.seq (kF_anti _ _) fun h S3 W3 H3 h' e3 n3 k3 q3 => ?_⟩⟩
  obtain ⟨z, ez, q4⟩ := q3.of
  have k2 : l = l' := k2
  have k3 : h = h' := k3
  subst k2
  subst k3
  have n := n2.trans n3
  exact ok_sl n3.w n3.s (KB.up n.le n.kp n1.w k1) ez q4.done
/-- a built-in by its name -/
theorem j_bi {b : Bi} {t : Bool} {n : String} {es : List IE} {ea : Expr} {er : List Expr} {p pos : Pos} (hc : X.calm = true) (e : biN b = some (t, n)) (hg : Gl X (n : Str)) (hm : X.mg (n : Str) = none)
    (hv : bootBuiltins (n : Str) = some (if t then .type n else .builtin n)) (h : JA X I E O (kBs I X.K) (fun ρ S => evEs sg cf ρ es S) (ea :: er)) (hn : (n : Str) ≠ "__name__") (hd : ((n : Str) == ("__debug__" : Str)) = false)
    (he : starEach (ea :: er) X.env = (false, eval ea X.env) :: starEach er X.env) (hpl : (backTo pos (starEach er X.env)).any (·.1) = false) :
    JE X I E O (kF I X.K) (fun ρ S => evE sg cf ρ (.bi b es) S) (.Call (.Name (n : Str) p) (ea :: er) [] pos) := by
  obtain ⟨r, h1, h2⟩ := bi_ok X hc b t n e
  have go : ∀ σ H Q, rd I X.K E O (kF I X.K) (fun ρ S => evE sg cf ρ (.bi b es) S) σ H Q → tCB r (rd I X.K E O (kBs I X.K) (fun ρ S => evEs sg cf ρ es S)) σ H Q := fun σ H Q ⟨W, ρ, S, sr, q⟩ => by
    refine ⟨W, ρ, S, sr, ?_⟩
    simp only [evE] at q
    refine q.seq (kF_anti _ _) fun vs S1 W1 H1 xs e1 n1 k1 q1 => ?_
    obtain ⟨z, ez, q2⟩ := q1.of
    exact h2 I W1 H1 S1 vs xs z Q n1.w n1.s k1 ez q2.done
  cases t with
  | true => exact PE.imp (pe_callTy h1 hg hm hv h hn hd he hpl) go
  | false => exact PE.imp (pe_callB h1 hg hm hv h hn hd he hpl) go
end
end Pi

end
section
set_option linter.all false
set_option maxRecDepth 100000
/-! PiG: targets, what is walked, comprehensions. -/
namespace Pi
open PySem PySem.Spec PyProof.Rows L2

section
variable {I : XI} {K : PySem.W.Frag} {W : Wd} {H : Hp} {O : List Nat} {ρ : Env} {σ : L2.St}
/-- O without some -/
def less (O vs : List Nat) : List Nat := O.filter fun i => !vs.contains i
theorem mem_less {O vs : List Nat} {i : Nat} : i ∈ less O vs ↔ i ∈ O ∧ i ∉ vs := by
  unfold less
  simp [List.mem_filter]
theorem EnvRep.set (h : EnvRep I K W H O ρ σ) {i : Nat} {p : Val} {v : V} (r : Rp I K W H p v) : EnvRep I K W H (less O [i]) (ρ.set i (some p)) (σ.set i (some v)) := by
  refine ⟨by rw [List.length_set, List.length_set]; exact h.len, fun j q e n => ?_, fun j q e n => ?_, fun j k a hj hk e1 e2 e3 e4 => ?_⟩
  · by_cases hj : i = j
    · subst hj
      have hl : i < ρ.length := by
        have := (List.getElem?_eq_some_iff.mp e).1
        rw [List.length_set] at this
        exact this
      rw [List.getElem?_set_self hl] at e
      cases e
      exact ⟨v, by rw [List.getElem?_set_self (by rw [← h.len]; exact hl)], r⟩
    · rw [List.getElem?_set_ne hj] at e
      rw [List.getElem?_set_ne hj]
      exact h.sh j q e fun z => n (mem_less.mpr ⟨z, by simpa using Ne.symm hj⟩)
  · obtain ⟨h1, h2⟩ := mem_less.mp n
    have hj : i ≠ j := fun z => h2 (by simp [z])
    rw [List.getElem?_set_ne hj] at e ⊢
    exact h.ow j q e h1
  · obtain ⟨h1, h2⟩ := mem_less.mp hj
    obtain ⟨h3, h4⟩ := mem_less.mp hk
    have ij : i ≠ j := fun z => h2 (by simp [z])
    have ik : i ≠ k := fun z => h4 (by simp [z])
    rw [List.getElem?_set_ne ij] at e1 e3
    rw [List.getElem?_set_ne ik] at e2 e4
    exact h.ap j k a h1 h3 e1 e2 e3 e4
theorem EnvRep.clr (h : EnvRep I K W H O ρ σ) (i : Nat) : EnvRep I K W H O (ρ.set i none) (σ.set i none) := by
  have old : ∀ {j : Nat} {q : Val}, (ρ.set i none)[j]? = some (some q) → ρ[j]? = some (some q) ∧ i ≠ j := fun {j q} e => by
    by_cases hj : i = j
    · subst hj
      by_cases hl : i < ρ.length
      · rw [List.getElem?_set_self hl] at e
        cases e
      · rw [List.getElem?_eq_none (by rw [List.length_set]; omega)] at e
        cases e
    · rw [List.getElem?_set_ne hj] at e
      exact ⟨e, hj⟩
  refine ⟨by rw [List.length_set, List.length_set]; exact h.len, fun j q e n => ?_, fun j q e n => ?_, fun j k a hj hk e1 e2 e3 e4 => ?_⟩
  · obtain ⟨e, hj⟩ := old e
    rw [List.getElem?_set_ne hj]
    exact h.sh j q e n
  · obtain ⟨e, hj⟩ := old e
    rw [List.getElem?_set_ne hj]
    exact h.ow j q e n
  · obtain ⟨q, e3⟩ := e3
    obtain ⟨q', e4⟩ := e4
    obtain ⟨e3, ij⟩ := old e3
    obtain ⟨e4, ik⟩ := old e4
    rw [List.getElem?_set_ne ij] at e1
    rw [List.getElem?_set_ne ik] at e2
    exact h.ap j k a hj hk e1 e2 ⟨q, e3⟩ ⟨q', e4⟩
theorem EnvRep.wipe (h : EnvRep I K W H O ρ σ) : ∀ vs : List Nat, EnvRep I K W H O (wipeE ρ vs) (L2.wipe σ vs)
  | [] => h
  | i :: vs => (h.wipe vs).clr i
theorem EnvRep.mono {O' : List Nat} (h : EnvRep I K W H O ρ σ) (s : ∀ i p, ρ[i]? = some (some p) → i ∈ O → i ∈ O') (s' : ∀ i ∈ O', i ∈ O) : EnvRep I K W H O' ρ σ :=
  ⟨h.len, fun i p e n => h.sh i p e fun z => n (s i p e z), fun i p e n => h.ow i p e (s' i n), fun i j a hi hj => h.ap i j a (s' i hi) (s' j hj)⟩
theorem Sr.of {S : Store} {ρ' : Env} {σ' : L2.St} {O' : List Nat} (h : Sr I K W H O ρ σ S) (e : EnvRep I K W H O' ρ' σ') : Sr I K W H O' ρ' σ' S := ⟨h.w, h.s, e⟩
end

/-! ### targets -/
/-- alike but for some -/
structure Alike (vs : List Nat) (σ σ' : L2.St) : Prop where
  len : σ'.length = σ.length
  same : ∀ j : Nat, j ∉ vs → σ'[j]? = σ[j]?
theorem Alike.refl {vs : List Nat} {σ : L2.St} : Alike vs σ σ := ⟨rfl, fun _ _ => rfl⟩
theorem Alike.trans {a b : List Nat} {σ σ' σ'' : L2.St} (x : Alike a σ σ') (y : Alike b σ' σ'') : Alike (a ++ b) σ σ'' :=
  ⟨y.len.trans x.len, fun j h => (y.same j fun z => h (List.mem_append_right _ z)).trans (x.same j fun z => h (List.mem_append_left _ z))⟩
theorem wipe_get {σ : L2.St} (j : Nat) : ∀ vs : List Nat, (L2.wipe σ vs)[j]? = if j ∈ vs ∧ j < σ.length then some none else σ[j]?
  | [] => by simp [L2.wipe]
  | v :: vs => by
    unfold L2.wipe
    by_cases hv : v = j
    · subst hv
      by_cases hl : v < σ.length
      · rw [List.getElem?_set_self (by rw [L2.wipe_length]; exact hl), if_pos ⟨by simp, hl⟩]
      · rw [if_neg (fun z => hl z.2), List.getElem?_eq_none (by rw [List.length_set, L2.wipe_length]; omega), List.getElem?_eq_none (by omega)]
    · rw [List.getElem?_set_ne hv, wipe_get j vs]
      by_cases hm : j ∈ vs ∧ j < σ.length
      · rw [if_pos hm, if_pos ⟨List.mem_cons_of_mem _ hm.1, hm.2⟩]
      · rw [if_neg hm, if_neg (fun z => hm ⟨(List.mem_cons.mp z.1).resolve_left (Ne.symm hv), z.2⟩)]
theorem Alike.wipe {vs : List Nat} {σ σ' : L2.St} (h : Alike vs σ σ') : L2.wipe σ' vs = L2.wipe σ vs := by
  apply List.ext_getElem?
  intro j
  rw [wipe_get, wipe_get, h.len]
  by_cases hm : j ∈ vs
  · by_cases hl : j < σ.length
    · rw [if_pos ⟨hm, hl⟩, if_pos ⟨hm, hl⟩]
    · rw [if_neg (fun z => hl z.2), if_neg (fun z => hl z.2), List.getElem?_eq_none (by rw [h.len]; omega), List.getElem?_eq_none (by omega)]
  · rw [if_neg (fun z => hm z.1), if_neg (fun z => hm z.1)]
    exact h.same j hm
section
variable (I : XI) (K : PySem.W.Frag) (O : List Nat)
def gP (p : Pat) : TG := fun v σ H Q => ∃ W ρ S pv ρ', Sr I K W H O ρ σ S ∧ Rp I K W H pv v ∧ bindP p pv ρ = some ρ' ∧
  ∀ W' H' σ', Nxt I K W H W' H' S → Sr I K W' H' (less O p.vars) ρ' σ' S → Alike p.vars σ σ' → Q σ' H'
def gPs (ps : List Pat) : TGs := fun vs σ H Q => ∃ W ρ S pvs ρ', Sr I K W H O ρ σ S ∧ Rps I K W H pvs vs ∧ bindPs ps pvs ρ = some ρ' ∧
  ∀ W' H' σ', Nxt I K W H W' H' S → Sr I K W' H' (less O (Pat.varsL ps)) ρ' σ' S → Alike (Pat.varsL ps) σ σ' → Q σ' H'
end
theorem PG.imp {X : Cx} {e : Expr} {t t' : TG} (h : PG X e t) (f : ∀ v σ H Q, t' v σ H Q → t v σ H Q) : PG X e t' := ⟨fun pins s σ H v u Q I r q => h.run pins s σ H v u Q I r (f v σ H Q q)⟩
theorem PGs.imp {X : Cx} {e : List Expr} {t t' : TGs} (h : PGs X e t) (f : ∀ v σ H Q, t' v σ H Q → t v σ H Q) : PGs X e t' := ⟨fun pins s σ H v u Q I r q => h.run pins s σ H v u Q I r (f v σ H Q q)⟩
theorem less_less {O a b : List Nat} : less (less O a) b = less O (a ++ b) := by
  unfold less
  rw [List.filter_filter]
  congr 1
  funext i
  cases h : a.contains i <;> cases h' : b.contains i <;> simp_all
section
variable {X : Cx} {I : XI} {O : List Nat}
theorem g_v {i : Nat} {x : Str} {pos : Pos} (hN : X.N.Nodup) (hi : X.N[i]? = some x) (hx : Loc X.env.scope x) (hf : X.fn x = true ∨ X.env.scope.names.lookup x = some .local) : PG X (.Name x pos) (gP I X.K O (.v i)) := by
  refine PG.imp (pg_name hN hi hx hf) fun v σ H Q ⟨W, ρ, S, pv, ρ', sr, r, e, q⟩ => ?_
  cases e
  refine q W H _ ⟨.refl, .refl, sr.w, sr.s⟩ ⟨sr.w, sr.s, sr.e.set r⟩ ⟨by rw [List.length_set], fun j hj => ?_⟩
  rw [List.getElem?_set_ne (by intro z; exact hj (by simp [Pat.vars, z]))]
theorem less_nil {O : List Nat} : less O [] = O := by
  unfold less
  simp
theorem gs_nil : PGs X [] (gPs I X.K O []) := by
  refine PGs.imp pgs_nil fun v σ H Q ⟨W, ρ, S, pvs, ρ', sr, r, e, q⟩ => ?_
  cases pvs with
  | cons p ps => cases e
  | nil =>
    cases e
    have ev : v = [] := r
    subst ev
    exact ⟨rfl, q W H σ ⟨.refl, .refl, sr.w, sr.s⟩ (by rw [show Pat.varsL [] = [] from rfl, less_nil]; exact sr) .refl⟩
theorem gs_cons {p : Pat} {ps : List Pat} {e : Expr} {es : List Expr} (h1 : PG X e (gP I X.K O p)) (h2 : PGs X es (gPs I X.K (less O p.vars) ps))
    (hs : (assignEach (e :: es) X.env).map (·.2) = assign e X.env :: (assignEach es X.env).map (·.2)) : PGs X (e :: es) (gPs I X.K O (p :: ps)) := by
  refine PGs.imp (pgs_cons h1 h2 hs) fun v σ H Q ⟨W, ρ, S, pvs, ρ', sr, r, e, q⟩ => ?_
  cases pvs with
  | nil => cases e
  | cons pv pvs =>
    obtain ⟨x, xs, rfl, r1, r2⟩ := r
    have e : (bindP p pv ρ).bind (fun ρ' => bindPs ps pvs ρ') = some ρ' := e
    cases e1 : bindP p pv ρ with
    | none => rw [e1] at e; cases e
    | some ρ1 =>
      rw [e1] at e
      refine ⟨x, xs, rfl, W, ρ, S, pv, ρ1, sr, r1, e1, fun W1 H1 σ1 n1 sr1 a1 => ?_⟩
      refine ⟨W1, ρ1, S, pvs, ρ', sr1, Rps.up n1.le n1.kp sr.w r2, e, fun W2 H2 σ2 n2 sr2 a2 => ?_⟩
      rw [less_less] at sr2
      exact q W2 H2 σ2 (n1.trans n2) sr2 (a1.trans a2)
theorem g_tup {ps : List Pat} {es : List Expr} {k : Nat} {pos : Pos} (hc : X.calm = true) (h : PGs X es (gPs I X.K O ps)) (hn : (assignEach es X.env).length = ps.length) (hst : (assignEach es X.env).findIdx? (·.1) = none) :
    PG X (.Tuple es k pos) (gP I X.K O (.tup ps)) := by
  refine PG.imp (pg_tup hc h hn hst) fun v σ H Q ⟨W, ρ, S, pv, ρ', sr, r, e, q⟩ => ?_
  cases pv <;> try (cases e; done)
  rename_i l
  have e : (if l.length = ps.length then bindPs ps l ρ else none) = some ρ' := e
  by_cases hl : l.length = ps.length
  · rw [if_pos hl] at e
    obtain ⟨a, xs, rfl, r1, r2⟩ := r
    exact ⟨a, xs, rfl, r1, by rw [← RepVs.length r2]; exact hl, W, ρ, S, l, ρ', sr, r2, e, q⟩
  · rw [if_neg hl] at e
    cases e
end

/-! ### what is walked -/
/-- later, by what is shared alone -/
structure NxtR (I : XI) (K : PySem.W.Frag) (W : Wd) (H : Hp) (W' : Wd) (H' : Hp) (S' : Store) : Prop where
  r : ∀ a, W.R a → W'.R a
  m : ∀ (n : Nat) (a : Addr), W.μ[n]? = some a → W'.μ[n]? = some a
  kp : Kp W.R H H'
  w : WOk W' H'
  s : StRep I K W' H' S'
theorem Nxt.nr {I : XI} {K : PySem.W.Frag} {W : Wd} {H : Hp} {W' : Wd} {H' : Hp} {S' : Store} (n : Nxt I K W H W' H' S') (w : WOk W H) : NxtR I K W H W' H' S' := ⟨n.le.r, n.le.m, n.kp.mono w.rp, n.w, n.s⟩
theorem NxtR.rps {I : XI} {K : PySem.W.Frag} {W : Wd} {H : Hp} {W' : Wd} {H' : Hp} {S' : Store} (n : NxtR I K W H W' H' S') {p : List Val} {v : List V} (h : Rps I K W H p v) : Rps I K W' H' p v := RepVs.mono n.kp n.r n.m p v h
/-- J yields xs, whatever comes later -/
def Walk (I : XI) (K : PySem.W.Frag) (W1 : Wd) (H1 : Hp) (J : It) (xs : List Val) : Prop :=
  ∀ (i : Nat) W H S, NxtR I K W1 H1 W H S → (∀ p, xs[i]? = some p → J.go i H ∧ ∀ x H', J.yld i H x H' → ∃ W', Nxt I K W H W' H' S ∧ Rp I K W' H' p x) ∧ (xs.length ≤ i → J.stop i H)
def kI (I : XI) (K : PySem.W.Frag) : Kd (List Val) It := fun _ W' H' xs J => Walk I K W' H' J xs
theorem kI_anti {I : XI} {K : PySem.W.Frag} : Anti (kI I K) := fun _ _ _ _ _ _ _ h => h
theorem PI.imp {X : Cx} {tg iter : Expr} {t t' : TI} (h : PI X tg iter t) (f : ∀ σ H R, t' σ H R → t σ H R) : PI X tg iter t' := ⟨fun pins s σ H R I q => h.run pins s σ H R I (f σ H R q)⟩
section
variable {I : XI} {K : PySem.W.Frag} {W : Wd} {H : Hp} {S : Store}
theorem Nxt.refl (w : WOk W H) (s : StRep I K W H S) : Nxt I K W H W H S := ⟨.refl, .refl, w, s⟩
theorem Nxt.newT (w : WOk W H) (s : StRep I K W H S) {p : Addr} {xs : List V} (hp : H p = none) : Nxt I K W H W (upd H p (.tup xs)) S := ⟨.refl, Kp.new hp, wok_new hp w, st_new hp w s⟩
theorem walk_list {a : Addr} {xs : List V} {l : List Val} (w : WOk W H) (h1 : Lrd H W.R a xs) (h2 : Rps I K W H l xs) : Walk I K W H (Itl K a) l := by
  intro i W' H' S' n
  have e : H' a = some (.lst xs) := n.kp.k _ _ h1.1 h1.2
  have r := n.rps h2
  refine ⟨fun p hp => ?_, fun hl => ⟨xs, .of e, by rw [← RepVs.length h2]; exact hl⟩⟩
  obtain ⟨x, hx, rx⟩ := r.get hp
  refine ⟨⟨xs, x, .of e, hx⟩, fun y H2 ⟨eh, hy⟩ => ?_⟩
  subst eh
  have hy := hy xs (.of e)
  rw [hx] at hy
  cases hy
  exact ⟨W', .refl n.w n.s, rx⟩
theorem walk_tup {a : Addr} {xs : List V} {l : List Val} (w : WOk W H) (h1 : SqT K H a xs) (h2 : Rps I K W H l xs) : Walk I K W H (Itt K a) l := by
  intro i W' H' S' n
  have e : SqT K H' a xs := n.kp.sqT h1
  have r := n.rps h2
  refine ⟨fun p hp => ?_, fun hl => ⟨xs, e, by rw [← RepVs.length h2]; exact hl⟩⟩
  obtain ⟨x, hx, rx⟩ := r.get hp
  refine ⟨⟨xs, x, e, hx⟩, fun y H2 ⟨eh, hy⟩ => ?_⟩
  subst eh
  have hy := hy xs e
  rw [hx] at hy
  cases hy
  exact ⟨W', .refl n.w n.s, rx⟩
theorem walk_str {x : Str} (ho : PyData.strOk x = true) : Walk I K W H (Its x) (x.cps.toList.map fun c => .str ⟨#[c]⟩) := by
  intro i W' H' S' n
  refine ⟨fun p hp => ?_, fun hl => by
    rw [List.length_map, Array.length_toList] at hl
    exact hl⟩
  rw [List.getElem?_map] at hp
  cases e : x.cps.toList[i]? with
  | none => rw [e] at hp; cases hp
  | some c =>
    rw [e] at hp
    cases hp
    have hi : i < x.cps.size := by
      have := (List.getElem?_eq_some_iff.mp e).1
      rw [Array.length_toList] at this
      exact this
    refine ⟨hi, fun y H2 ⟨eh, c', hc, ey⟩ => ?_⟩
    subst eh ey
    have : c' = c := by
      rw [Array.getElem?_toList] at e
      rw [e] at hc
      exact (Option.some.inj hc).symm
    subst this
    refine ⟨W', .refl n.w n.s, rfl, by show 1 ≤ lim; decide, ?_⟩
    have ho : x.cps.all (· < 0x110000) = true := ho
    show (#[c'] : Array Nat).all (· < 0x110000) = true
    rw [Array.all_eq_true'] at ho
    have := ho c' (by rw [← Array.mem_toList_iff]; exact List.mem_of_getElem? e)
    simpa using this
theorem rangeL_get : ∀ {n : Nat} {a : Int} {i : Nat}, (rangeL a n)[i]? = if i < n then some (.int (a + i)) else none
  | 0, a, i => by simp [rangeL]
  | n + 1, a, 0 => by simp [rangeL]
  | n + 1, a, i + 1 => by
    simp only [rangeL, List.getElem?_cons_succ]
    rw [rangeL_get]
    by_cases h : i < n
    · rw [if_pos h, if_pos (by omega)]
      congr 2
      omega
    · rw [if_neg h, if_neg (by omega)]
theorem rangeL_length : ∀ (n : Nat) (a : Int), (rangeL a n).length = n
  | 0, _ => rfl
  | n + 1, a => by rw [rangeL, List.length_cons, rangeL_length]
theorem walk_range {a : Int} {n : Nat} : Walk I K W H (Itr a n) (rangeL a n) := by
  intro i W' H' S' nx
  refine ⟨fun p hp => ?_, fun hl => by rw [rangeL_length] at hl; exact hl⟩
  rw [rangeL_get] at hp
  by_cases h : i < n
  · rw [if_pos h] at hp
    cases hp
    refine ⟨h, fun y H2 ⟨eh, ey⟩ => ?_⟩
    subst eh ey
    exact ⟨W', .refl nx.w nx.s, rfl⟩
  · rw [if_neg h] at hp
    cases hp
theorem zipL_get : ∀ {l m : List Val} {i : Nat} {p : Val}, (zipL l m)[i]? = some p → ∃ x y, l[i]? = some x ∧ m[i]? = some y ∧ p = .tup [x, y]
  | [], _, _, _, h => by simp [zipL] at h
  | _ :: _, [], _, _, h => by simp [zipL] at h
  | a :: l, b :: m, 0, p, h => by
    simp [zipL] at h
    exact ⟨a, b, rfl, rfl, h.symm⟩
  | a :: l, b :: m, i + 1, p, h => by
    have h : (zipL l m)[i]? = some p := by simpa [zipL] using h
    obtain ⟨x, y, h1, h2, h3⟩ := zipL_get h
    exact ⟨x, y, by simpa using h1, by simpa using h2, h3⟩
theorem zipL_len : ∀ {l m : List Val}, (zipL l m).length = min l.length m.length
  | [], m => by simp [zipL]
  | a :: l, [] => by simp [zipL]
  | a :: l, b :: m => by
    rw [zipL, List.length_cons, zipL_len, List.length_cons, List.length_cons]
    omega
theorem walk_zip {a b : Addr} {xs ys : List V} {l m : List Val} (w : WOk W H) (h1 : Lrd H W.R a xs) (h2 : Rps I K W H l xs) (h3 : Lrd H W.R b ys) (h4 : Rps I K W H m ys) : Walk I K W H (Itz K a b) (zipL l m) := by
  intro i W' H' S' n
  have e : H' a = some (.lst xs) := n.kp.k _ _ h1.1 h1.2
  have e' : H' b = some (.lst ys) := n.kp.k _ _ h3.1 h3.2
  have r := n.rps h2
  have r' := n.rps h4
  refine ⟨fun p hp => ?_, fun hl => ⟨xs, ys, .of e, .of e', ?_⟩⟩
  · obtain ⟨x, y, hx, hy, rfl⟩ := zipL_get hp
    obtain ⟨xv, gx, rx⟩ := r.get hx
    obtain ⟨yv, gy, ry⟩ := r'.get hy
    refine ⟨⟨xs, ys, xv, yv, .of e, .of e', gx, gy⟩, fun v H2 ⟨T, x', y', ev, nT, eh, q1, q2⟩ => ?_⟩
    subst ev eh
    have q1 := q1 xs (.of e)
    have q2 := q2 ys (.of e')
    rw [gx] at q1
    rw [gy] at q2
    cases q1
    cases q2
    have nn := Nxt.newT (I := I) (K := K) n.w n.s (xs := [xv, yv]) nT
    exact ⟨W', nn, T, [xv, yv], rfl, .of upd_same, xv, [yv], rfl, Rp.up nn.le nn.kp n.w rx, yv, [], rfl, Rp.up nn.le nn.kp n.w ry, rfl⟩
  · rw [zipL_len, RepVs.length h2, RepVs.length h4] at hl
    omega
theorem walk_zipT {a b : Addr} {xs ys : List V} {l m : List Val} (w : WOk W H) (h1 : SqT K H a xs) (h2 : Rps I K W H l xs) (h3 : SqT K H b ys) (h4 : Rps I K W H m ys) : Walk I K W H (RZ.ItzT K a b) (zipL l m) := by
  intro i W' H' S' n
  have e : SqT K H' a xs := n.kp.sqT h1
  have e' : SqT K H' b ys := n.kp.sqT h3
  have r := n.rps h2
  have r' := n.rps h4
  refine ⟨fun p hp => ?_, fun hl => ⟨xs, ys, e, e', ?_⟩⟩
  · obtain ⟨x, y, hx, hy, rfl⟩ := zipL_get hp
    obtain ⟨xv, gx, rx⟩ := r.get hx
    obtain ⟨yv, gy, ry⟩ := r'.get hy
    refine ⟨⟨xs, ys, xv, yv, e, e', gx, gy⟩, fun v H2 ⟨T, x', y', ev, nT, eh, q1, q2⟩ => ?_⟩
    subst ev eh
    have q1 := q1 xs e
    have q2 := q2 ys e'
    rw [gx] at q1
    rw [gy] at q2
    cases q1
    cases q2
    have nn := Nxt.newT (I := I) (K := K) n.w n.s (xs := [xv, yv]) nT
    exact ⟨W', nn, T, [xv, yv], rfl, .of upd_same, xv, [yv], rfl, Rp.up nn.le nn.kp n.w rx, yv, [], rfl, Rp.up nn.le nn.kp n.w ry, rfl⟩
  · rw [zipL_len, RepVs.length h2, RepVs.length h4] at hl
    omega
theorem enumL_get : ∀ {l : List Val} {k : Int} {i : Nat} {p : Val}, (enumL k l)[i]? = some p → ∃ x, l[i]? = some x ∧ p = .tup [.int (k + i), x]
  | [], _, _, _, h => by simp [enumL] at h
  | a :: l, k, 0, p, h => by
    simp [enumL] at h
    exact ⟨a, rfl, by rw [← h]; simp⟩
  | a :: l, k, i + 1, p, h => by
    have h : (enumL (k + 1) l)[i]? = some p := by simpa [enumL] using h
    obtain ⟨x, h1, h3⟩ := enumL_get h
    refine ⟨x, by simpa using h1, ?_⟩
    rw [h3]
    congr 3
    omega
theorem enumL_len : ∀ {l : List Val} {k : Int}, (enumL k l).length = l.length
  | [], k => rfl
  | a :: l, k => by rw [enumL, List.length_cons, enumL_len, List.length_cons]
theorem walk_enum {a : Addr} {xs : List V} {l : List Val} (w : WOk W H) (h1 : Lrd H W.R a xs) (h2 : Rps I K W H l xs) : Walk I K W H (Ite K a) (enumL 0 l) := by
  intro i W' H' S' n
  have e : H' a = some (.lst xs) := n.kp.k _ _ h1.1 h1.2
  have r := n.rps h2
  refine ⟨fun p hp => ?_, fun hl => ⟨xs, .of e, by rw [enumL_len, RepVs.length h2] at hl; exact hl⟩⟩
  obtain ⟨x, hx, rfl⟩ := enumL_get hp
  obtain ⟨xv, gx, rx⟩ := r.get hx
  refine ⟨⟨xs, xv, .of e, gx⟩, fun v H2 ⟨T, x', ev, nT, eh, q1⟩ => ?_⟩
  subst ev eh
  have q1 := q1 xs (.of e)
  rw [gx] at q1
  cases q1
  have nn := Nxt.newT (I := I) (K := K) n.w n.s (xs := [.int (i : Nat), xv]) nT
  refine ⟨W', nn, T, _, rfl, .of upd_same, .int (i : Nat), [xv], rfl, ?_, xv, [], rfl, Rp.up nn.le nn.kp n.w rx, rfl⟩
  show V.int _ = V.int _
  congr 1
  omega
end
end Pi

end
section
set_option linter.all false
set_option maxRecDepth 100000
/-! PiH: loops' iterables, comprehensions, calls. -/
namespace Pi
open PySem PySem.Spec PyProof.Rows L2

def evIt (sg : Sig) (cf : String → List Val → Store → Res Val) (k : Nat) (its : List IE) (ρ : Env) (S : Store) : Res (List Val) := (evEs sg cf ρ its S).bind fun vs S1 => .of (itV S1 k vs) S1
section
variable {X : Cx} {I : XI} {E : XK} {sg : Sig} {cf : String → List Val → Store → Res Val} {O : List Nat} {tg : Expr}
abbrev JI (X : Cx) (I : XI) (E : XK) (O : List Nat) (m : Env → Store → Res (List Val)) (tg it : Expr) : Prop := PI X tg it (rd I X.K E O (kI I X.K) m)
theorem rps_one {I : XI} {K : PySem.W.Frag} {W : Wd} {H : Hp} {p : Val} {vs : List V} (h : Rps I K W H [p] vs) : ∃ v, vs = [v] ∧ Rp I K W H p v := by
  obtain ⟨v, ws, rfl, h1, h2⟩ := h
  have e : ws = [] := h2
  subst e
  exact ⟨v, rfl, h1⟩
theorem rps_two {I : XI} {K : PySem.W.Frag} {W : Wd} {H : Hp} {p q : Val} {vs : List V} (h : Rps I K W H [p, q] vs) : ∃ v u, vs = [v, u] ∧ Rp I K W H p v ∧ Rp I K W H q u := by
  obtain ⟨v, ws, rfl, h1, h2⟩ := h
  obtain ⟨u, rfl, h3⟩ := rps_one h2
  exact ⟨v, u, rfl, h1, h3⟩
/-- a list, a tuple, a text -/
def iSeq (K : PySem.W.Frag) (tl : TE) : TI := fun σ H R => tl σ H fun x H1 => (∃ a, x = .ref a ∧ (∃ xs, SqL K H1 a xs) ∧ R (Itl K a) H1) ∨ (∃ a, x = .ref a ∧ (∃ xs, SqT K H1 a xs) ∧ R (Itt K a) H1) ∨ ∃ y, x = .str y ∧ R (Its y) H1
theorem pi_seq {l : Expr} {tl : TE} (hl : PE X l tl) : PI X tg l (iSeq X.K tl) := by
  refine ⟨fun pins s σ H R J h => ?_⟩
  refine thn (hl.run pins s σ H _ J h) fun v s1 ⟨x, H1, J1, r1, q1⟩ => ?_
  have fresh : ∀ {o : Obj}, ∀ b ∈ [s1.heap.objs.size], FpOk X pins H1 b := fun {o} b hb => by
    have e : b = s1.heap.objs.size := by simpa using hb
    subst e
    exact J1.fpOk (Nat.le_refl _) (J1.hok.fresh (Nat.le_refl _))
  rcases q1 with ⟨a, e, ⟨xs, hq⟩, q⟩ | ⟨a, e, ⟨xs, hq⟩, q⟩ | ⟨y, e, q⟩
  · subst e
    cases r1
    obtain ⟨its, rv, p, hz⟩ := J1.list hq
    refine wpAny_pyIter_list p.isList ?_
    exact ⟨s1.heap.objs.size, [s1.heap.objs.size], _, _, H1, rfl, J1.kept (t' := s1.toks) fun b o e => Heap.get?_push_of_some _ e, turn_list a _, ⟨_, Heap.get?_push_size _ rfl, rfl, rfl⟩, fresh (o := default), q⟩
  · subst e
    cases r1
    obtain ⟨its, rv, p, hz⟩ := J1.tuple hq
    refine wpAny_pyIter_tuple (show s1.heap.IsTuple a its.toArray from p) ?_
    exact ⟨s1.heap.objs.size, [s1.heap.objs.size], _, _, H1, rfl, J1.kept (t' := s1.toks) fun b o e => Heap.get?_push_of_some _ e, turn_tuple a _, ⟨_, Heap.get?_push_size _ rfl, rfl, rfl⟩, fresh (o := default), q⟩
  · subst e
    obtain ⟨t, rfl⟩ := r1
    cases ha : y.cps.all (· < 128)
    · exact wpAny_pyIter_wide ha (pi_one (tk := s1.toks) J1 _ (turn_str _ y t "str_iterator" (.inr rfl)) ⟨_, Heap.get?_push_size _ rfl, rfl, rfl⟩ q)
    · exact wpAny_pyIter_ascii ha (pi_one (tk := s1.toks) J1 _ (turn_str _ y t "str_ascii_iterator" (.inl rfl)) ⟨_, Heap.get?_push_size _ rfl, rfl, rfl⟩ q)
theorem evEs_one {ρ : Env} {a : IE} {S : Store} : evEs sg cf ρ [a] S = (evE sg cf ρ a S).bind fun v S1 => .ok [v] S1 := by
  simp only [evEs]
  rfl
theorem ji_seq {a : IE} {ea : Expr} (ha : JE X I E O (kS I X.K) (fun ρ S => evE sg cf ρ a S) ea) : JI X I E O (evIt sg cf 0 [a]) tg ea := by
  refine PI.imp (pi_seq ha) fun σ H R ⟨W, ρ, S, sr, q⟩ => ⟨W, ρ, S, sr, ?_⟩
  have e : evIt sg cf 0 [a] ρ S = (evE sg cf ρ a S).bind fun v S1 => .of (itV S1 0 [v]) S1 := by
    unfold evIt
    rw [evEs_one]
    cases evE sg cf ρ a S <;> rfl
  rw [e] at q
  refine q.seq kI_anti fun v S1 W1 H1 x e1 n1 k1 q1 => ?_
  obtain ⟨xs, ex, q2⟩ := q1.of
  cases v <;> try (cases ex; done)
  · cases ex
    obtain ⟨rfl, hl, ho⟩ := k1
    exact .inr (.inr ⟨_, rfl, q2.here n1.w n1.s (walk_str ho)⟩)
  · cases ex
    obtain ⟨b, ys, rfl, h1, h2⟩ := k1
    exact .inr (.inl ⟨b, rfl, ⟨ys, h1⟩, q2.here n1.w n1.s (walk_tup n1.w h1 h2)⟩)
  · cases ex
    obtain ⟨b, ys, rfl, h1, h2⟩ := k1
    exact .inl ⟨b, rfl, ⟨ys, h1.sq⟩, q2.here n1.w n1.s (walk_list n1.w h1 h2)⟩
theorem ji_range1 {es : List IE} {ea : Expr} {p pos : Pos} (hg : Gl X "range") (hm : X.mg "range" = none) (h : JA X I E O (kSs I X.K) (fun ρ S => evEs sg cf ρ es S) [ea]) (hs : starEach [ea] X.env = [(false, eval ea X.env)]) :
    JI X I E O (evIt sg cf 1 es) tg (.Call (.Name "range" p) [ea] [] pos) := by
  refine PI.imp (pi_range1 hg hm h hs) fun σ H R ⟨W, ρ, S, sr, q⟩ => ⟨W, ρ, S, sr, ?_⟩
  unfold evIt at q
  refine q.seq kI_anti fun vs S1 W1 H1 x e1 n1 k1 q1 => ?_
  obtain ⟨xs, ex, q2⟩ := q1.of
  match vs, ex with
  | [.int n], ex =>
    have ex : (if -(2 ^ 62) ≤ n ∧ n ≤ lim then some (rangeL 0 n.toNat) else none) = some xs := ex
    by_cases c : -(2 ^ 62) ≤ n ∧ n ≤ (lim : Int)
    · rw [if_pos c] at ex
      cases ex
      obtain ⟨v, rfl, hv⟩ := rps_one k1
      cases hv
      exact ⟨n, rfl, c.1, by have := c.2; have : (lim : Int) < 2 ^ 62 := by decide
                             omega, q2.here n1.w n1.s walk_range⟩
    · rw [if_neg c] at ex
      cases ex
theorem ji_range2 {es : List IE} {ea eb : Expr} {p pos : Pos} (hg : Gl X "range") (hm : X.mg "range" = none) (h : JA X I E O (kSs I X.K) (fun ρ S => evEs sg cf ρ es S) [ea, eb])
    (hs : starEach [ea, eb] X.env = [(false, eval ea X.env), (false, eval eb X.env)]) (hs2 : starEach [eb] X.env = [(false, eval eb X.env)]) :
    JI X I E O (evIt sg cf 2 es) tg (.Call (.Name "range" p) [ea, eb] [] pos) := by
  refine PI.imp (pi_range2 hg hm h hs hs2) fun σ H R ⟨W, ρ, S, sr, q⟩ => ⟨W, ρ, S, sr, ?_⟩
  unfold evIt at q
  refine q.seq kI_anti fun vs S1 W1 H1 x e1 n1 k1 q1 => ?_
  obtain ⟨xs, ex, q2⟩ := q1.of
  match vs, ex with
  | [.int a, .int b], ex =>
    have ex : (if -(2 ^ 62) ≤ a ∧ a < 2 ^ 62 ∧ -(2 ^ 62) ≤ b ∧ b < 2 ^ 62 ∧ b - a ≤ lim then some (rangeL a (b - a).toNat) else none) = some xs := ex
    by_cases c : -(2 ^ 62) ≤ a ∧ a < 2 ^ 62 ∧ -(2 ^ 62) ≤ b ∧ b < 2 ^ 62 ∧ b - a ≤ (lim : Int)
    · rw [if_pos c] at ex
      cases ex
      obtain ⟨v, u, rfl, hv, hu⟩ := rps_two k1
      cases hv
      cases hu
      exact ⟨a, b, rfl, ⟨c.1, c.2.1, c.2.2.1, c.2.2.2.1⟩, q2.here n1.w n1.s walk_range⟩
    · rw [if_neg c] at ex
      cases ex
theorem ji_zip {es : List IE} {ea eb : Expr} {p pos tpos : Pos} {elts : List Expr} {kk : Nat} (hg : Gl X "zip") (hm : X.mg "zip" = none) (h : JA X I E O (kSs I X.K) (fun ρ S => evEs sg cf ρ es S) [ea, eb])
    (hs : starEach [ea, eb] X.env = (false, eval ea X.env) :: starEach [eb] X.env) (hpl : (backTo pos (starEach [eb] X.env)).any (·.1) = false) :
    JI X I E O (evIt sg cf 4 es) (.Tuple elts kk tpos) (.Call (.Name "zip" p) [ea, eb] [] pos) := by
  refine PI.imp (RZ.pi_zipA hg hm h hs hpl) fun σ H R ⟨W, ρ, S, sr, q⟩ => ⟨W, ρ, S, sr, ?_⟩
  unfold evIt at q
  refine q.seq kI_anti fun vs S1 W1 H1 x e1 n1 k1 q1 => ?_
  obtain ⟨xs, ex, q2⟩ := q1.of
  match vs, ex with
  | [.lst a, .lst b], ex =>
    cases ex
    obtain ⟨v, u, rfl, ⟨c, zs, rfl, h1, h2⟩, d, ws, rfl, h3, h4⟩ := rps_two k1
    exact ⟨c, d, zs, ws, rfl, .inl ⟨h1.sq, h3.sq, q2.here n1.w n1.s (walk_zip n1.w h1 h2 h3 h4)⟩⟩
  | [.tup a, .tup b], ex =>
    cases ex
    obtain ⟨v, u, rfl, ⟨c, zs, rfl, h1, h2⟩, d, ws, rfl, h3, h4⟩ := rps_two k1
    exact ⟨c, d, zs, ws, rfl, .inr ⟨h1, h3, q2.here n1.w n1.s (walk_zipT n1.w h1 h2 h3 h4)⟩⟩
theorem ji_enum {es : List IE} {ea : Expr} {p pos tpos : Pos} {elts : List Expr} {kk : Nat} (hg : Gl X "enumerate") (hm : X.mg "enumerate" = none) (h : JA X I E O (kSs I X.K) (fun ρ S => evEs sg cf ρ es S) [ea])
    (hs : starEach [ea] X.env = [(false, eval ea X.env)]) : JI X I E O (evIt sg cf 5 es) (.Tuple elts kk tpos) (.Call (.Name "enumerate" p) [ea] [] pos) := by
  refine PI.imp (pi_enum hg hm h hs) fun σ H R ⟨W, ρ, S, sr, q⟩ => ⟨W, ρ, S, sr, ?_⟩
  unfold evIt at q
  refine q.seq kI_anti fun vs S1 W1 H1 x e1 n1 k1 q1 => ?_
  obtain ⟨xs, ex, q2⟩ := q1.of
  match vs, ex with
  | [.lst a], ex =>
    cases ex
    obtain ⟨v, rfl, c, zs, rfl, h1, h2⟩ := rps_one k1
    exact ⟨c, zs, rfl, h1.sq, q2.here n1.w n1.s (walk_enum n1.w h1 h2)⟩
end

/-! ### comprehensions -/
section
variable {I : XI} {K : PySem.W.Frag} {W : Wd} {H : Hp} {S : Store}
/-- one's own list is changed -/
theorem wok_own {a : Addr} {xs ys : List V} (w : WOk W H) (h : H a = some (.lst xs)) : WOk W (upd H a (.lst ys)) := by
  have go : ∀ b, (∃ o, H b = some o) → ∃ o, upd H a (.lst ys) b = some o := fun b ⟨o, e⟩ => by
    by_cases hb : b = a
    · subst hb
      exact ⟨_, upd_same⟩
    · exact ⟨o, by rw [upd_ne hb]; exact e⟩
  exact ⟨w.rp, fun b z => go b (w.d b z), w.nd, fun b z => ⟨(w.mp b z).1, go b (w.mp b z).2⟩⟩
theorem st_own {a : Addr} {xs ys : List V} (w : WOk W H) (s : StRep I K W H S) (p : W.P a) (n : ¬ W.R a) (h : H a = some (.lst xs)) : StRep I K W (upd H a (.lst ys)) S := by
  have kp : Kp W.R H (upd H a (.lst ys)) := Kp.set h n
  refine ⟨s.len, fun m o e => ?_⟩
  obtain ⟨b, h1, h2⟩ := s.ob m o e
  have hb : b ≠ a := fun z => (w.mp b (List.mem_of_getElem? h1)).1 (by rw [z]; exact p)
  refine ⟨b, h1, ?_⟩
  have e1 : upd H a (.lst ys) b = H b := upd_ne hb
  cases o with
  | lst l =>
    obtain ⟨zs, h3, h4⟩ := h2
    exact ⟨zs, e1.trans h3, RepVs.mono kp (fun _ z => z) (fun _ _ z => z) _ _ h4⟩
  | ro l =>
    obtain ⟨zs, h3, h4⟩ := h2
    refine ⟨zs, ?_, RepVs.mono kp (fun _ z => z) (fun _ _ z => z) _ _ h4⟩
    rcases h3 with (h3 | ⟨o, h3⟩) | h3
    · exact .inl (.inl (e1.trans h3))
    · exact .inl (.inr ⟨o, e1.trans h3⟩)
    · exact .inr h3
  | ins c fs => exact h2.elim
end
theorem compGo_noexc {f : Val → Store → Res (List Val)} : ∀ {l : List Val} {S : Store} {y : Val} {S' : Store}, compGo f l S ≠ .exc y S'
  | [], S, y, S', h => by simp [compGo] at h
  | v :: r, S, y, S', h => by
    unfold compGo at h
    cases e : f v S with
    | ok ys S1 =>
      rw [e] at h
      simp only at h
      cases e2 : compGo f r S1 <;> rw [e2] at h <;> cases h
    | exc y S1 => rw [e] at h; cases h
    | bad => rw [e] at h; cases h
abbrev E0' : XK := fun _ _ _ => False
section
variable {X : Cx} {I : XI} {E : XK} {sg : Sig} {cf : String → List Val → Store → Res Val} {O : List Nat} {tg : Expr}
theorem jts_nil : PTs X [] (rd I X.K E O kT (fun ρ S => evTs sg cf ρ [] S)) :=
  ⟨fun pins s σ H Q J ⟨W, ρ, S, sr, q⟩ => pts_nil.run pins s σ H Q J (by
    simp only [evTs] at q
    exact q.here sr.w sr.s rfl)⟩
theorem jts_one {c : IE} {ec : Expr} (h : JT X I E O (fun ρ S => evT sg cf ρ c S) ec) : PTs X [ec] (rd I X.K E O kT (fun ρ S => evTs sg cf ρ [c] S)) :=
  ⟨fun pins s σ H Q J ⟨W, ρ, S, sr, q⟩ => (pts_one h).run pins s σ H Q J ⟨W, ρ, S, sr, by
    have e : evTs sg cf ρ [c] S = evT sg cf ρ c S := by
      simp only [evTs, evT]
      cases evE sg cf ρ c S with
      | ok v S1 =>
        simp only [Res.bind_ok]
        cases truV v with
        | none => rfl
        | some b => cases b <;> rfl
      | exc y S1 => rfl
      | bad => rfl
    have q : At I X.K E kT W H (evTs sg cf ρ [c] S) Q := q
    rw [e] at q
    exact q⟩⟩
def compF (sg : Sig) (cf : String → List Val → Store → Res Val) (p : Pat) (cs : List IE) (e : IE) (ρ : Env) (v : Val) (S2 : Store) : Res (List Val) := match bindP p v (wipeE ρ p.vars) with
  | some ρ' => (evTs sg cf ρ' cs S2).bind fun c S3 => if c then (evE sg cf ρ' e S3).bind fun y S4 => .ok [y] S4 else .ok [] S3
  | none => .bad
/-- the reading of a comprehension -/
theorem comp_rd {k : Nat} {its : List IE} {p : Pat} {cs : List IE} {e : IE} {σ : L2.St} {H : Hp} {Q : VK} (h : rd I X.K E O (kF I X.K) (fun ρ S => evE sg cf ρ (.comp k its p cs e) S) σ H Q) :
    tLc (rd I X.K E O (kI I X.K) (evIt sg cf k its)) (gP I X.K O p) (rd I X.K E0' (less O p.vars) kT (fun ρ S => evTs sg cf ρ cs S)) (rd I X.K E0' (less O p.vars) (kS I X.K) (fun ρ S => evE sg cf ρ e S)) p.vars σ H Q := by
  obtain ⟨W, ρ, S, sr, q⟩ := h
  refine ⟨W, ρ, S, sr, ?_⟩
  have q : At I X.K E (kF I X.K) W H ((evIt sg cf k its ρ S).bind fun xs S1 => (compGo (compF sg cf p cs e ρ) xs S1).bind fun ys S2 => if ys.length ≤ lim then .ok (.lst ys) S2 else .bad) Q := by
    simp only [evE] at q
    exact q
  refine q.seq (kF_anti _ _) fun xs S1 W1 H1 J e1 n1 wk q1 => fun D hD => ?_
  cases e2 : compGo (compF sg cf p cs e ρ) xs S1 with
  | exc y S2 => exact absurd e2 compGo_noexc
  | bad => rw [e2] at q1; exact q1.elim
  | ok tot S2 =>
    rw [e2] at q1
    simp only [Res.bind_ok] at q1
    by_cases hl : tot.length ≤ lim
    · rw [if_pos hl] at q1
      have nD : ¬ W1.P D := n1.w.no hD
      refine ⟨fun i m H => ∃ Wc Sc acc accV zs, m = xs.length - i ∧ i ≤ xs.length ∧ compGo (compF sg cf p cs e ρ) (xs.drop i) Sc = .ok zs S2 ∧ tot = acc ++ zs ∧ Nxt I X.K W1 H1 Wc H Sc ∧ Wc.P D ∧ ¬ Wc.R D ∧ H D = some (.lst accV) ∧ Rps I X.K Wc H acc accV,
        ⟨xs.length, W1.add D, S1, [], [], tot, rfl, Nat.zero_le _, by rw [List.drop_zero]; exact e2, rfl, ⟨le_add, Kp.new hD, wok_add hD n1.w, st_add hD n1.w n1.s⟩, .inl rfl, fun z => nD (n1.w.rp D z), upd_same, rfl⟩, ?_⟩
      rintro i m H2 ⟨Wc, Sc, acc, accV, zs, rfl, hi, ec, et, nc, pD, rD, hHD, ra⟩
      by_cases hlt : i < xs.length
      · refine .inr ?_
        obtain ⟨go, yld⟩ := (wk i Wc H2 Sc (nc.nr n1.w)).1 xs[i] (by simp [hlt])
        have ed : xs.drop i = xs[i] :: xs.drop (i + 1) := List.drop_eq_getElem_cons hlt
        rw [ed] at ec
        unfold compGo at ec
        cases e3 : compF sg cf p cs e ρ xs[i] Sc with
        | exc y S3 => rw [e3] at ec; cases ec
        | bad => rw [e3] at ec; cases ec
        | ok us S3 =>
          rw [e3] at ec
          simp only at ec
          cases e4 : compGo (compF sg cf p cs e ρ) (xs.drop (i + 1)) S3 with
          | exc y S4 => rw [e4] at ec; cases ec
          | bad => rw [e4] at ec; cases ec
          | ok ws S4 =>
            rw [e4] at ec
            simp only at ec
            cases ec
            refine ⟨go, _, fun H' hN => ⟨xs.length - (i + 1), by omega, hN⟩, fun x H3 hy => ?_⟩
            obtain ⟨W3, n3, r3⟩ := yld x H3 hy
            unfold compF at e3
            cases e5 : bindP p xs[i] (wipeE ρ p.vars) with
            | none => rw [e5] at e3; cases e3
            | some ρ' =>
              rw [e5] at e3
              simp only at e3
              have sr3 : Sr I X.K W3 H3 O ρ σ Sc := (sr.nxt ((n1.trans nc).trans n3))
              refine ⟨W3, wipeE ρ p.vars, Sc, xs[i], ρ', sr3.of (sr3.e.wipe _), r3, e5, fun W4 H4 σ4 n4 sr4 a4 => ⟨?_, W4, ρ', Sc, sr4, ?_⟩⟩
              · rw [a4.wipe]
                apply List.ext_getElem?
                intro j
                rw [wipe_get, wipe_get, L2.wipe_length]
                by_cases hj : j ∈ p.vars ∧ j < σ.length
                · rw [if_pos hj, if_pos hj]
                · rw [if_neg hj, if_neg hj]
              · -- what a turn comes to
                have fin : ∀ {W5 : Wd} {H5 : Hp} {S5 : Store} (n5 : Nxt I X.K W4 H4 W5 H5 S5) (us' : List Val) (accV' : List V), us = us' → S3 = S5 → (us' = [] ∧ accV' = accV ∨ ∃ y v, us' = [y] ∧ accV' = accV ++ [v] ∧ Rp I X.K W5 H5 y v) → ∀ H6, (us' = [] ∧ H6 = H5 ∨ H6 = upd H5 D (.lst accV')) →
                    ∃ Wc Sc acc accV zs, xs.length - (i + 1) = xs.length - (i + 1) ∧ i + 1 ≤ xs.length ∧ compGo (compF sg cf p cs e ρ) (xs.drop (i + 1)) Sc = .ok zs S2 ∧ tot = acc ++ zs ∧ Nxt I X.K W1 H1 Wc H6 Sc ∧ Wc.P D ∧ ¬ Wc.R D ∧ H6 D = some (.lst accV) ∧ Rps I X.K Wc H6 acc accV := by
                  intro W5 H5 S5 n5 us' accV' eu es hu H6 h6
                  subst eu es
                  have nn := (n3.trans n4).trans n5
                  have hD5 : H5 D = some (.lst accV) := nn.kp.k D _ pD hHD
                  have pD5 : W5.P D := nn.le.p D pD
                  have rD5 : ¬ W5.R D := fun z => rD (nn.le.n D z pD)
                  have ra5 : Rps I X.K W5 H5 acc accV := Rps.up nn.le nn.kp nc.w ra
                  have n15 := nc.trans nn
                  rcases h6 with ⟨hz, h6⟩ | h6
                  · subst h6
                    rcases hu with ⟨hu, hv⟩ | ⟨y, v, hu, _⟩
                    · subst hu hv
                      exact ⟨W5, S3, acc, accV', ws, rfl, hlt, e4, by simpa using et, n15, pD5, rD5, hD5, ra5⟩
                    · rw [hu] at hz
                      cases hz
                  · subst h6
                    have kpR : Kp W5.R H5 (upd H5 D (.lst accV')) := Kp.set hD5 rD5
                    have n16 : Nxt I X.K W1 H1 W5 (upd H5 D (.lst accV')) S3 := ⟨n15.le, n15.kp.trans (Kp.set hD5 nD), wok_own n5.w hD5, st_own n5.w n5.s pD5 rD5 hD5⟩
                    rcases hu with ⟨hu, hv⟩ | ⟨y, v, hu, hv, rv⟩
                    · subst hu hv
                      exact ⟨W5, S3, acc, accV', ws, rfl, hlt, e4, by simpa using et, n16, pD5, rD5, upd_same, RepVs.mono kpR (fun _ z => z) (fun _ _ z => z) _ _ ra5⟩
                    · subst hu hv
                      refine ⟨W5, S3, acc ++ [y], accV ++ [v], ws, rfl, hlt, e4, by rw [et, List.append_assoc], n16, pD5, rD5, upd_same, ?_⟩
                      exact RepVs.append (RepVs.mono kpR (fun _ z => z) (fun _ _ z => z) _ _ ra5) ⟨v, [], rfl, RepV.mono kpR (fun _ z => z) (fun _ _ z => z) _ _ rv, rfl⟩
                show At I X.K E0' kT W4 H4 (evTs sg cf ρ' cs Sc) _
                cases e6 : evTs sg cf ρ' cs Sc with
                | exc y S5 => rw [e6] at e3; cases e3
                | bad => rw [e6] at e3; cases e3
                | ok b S5 =>
                  rw [e6] at e3
                  simp only [Res.bind_ok] at e3
                  intro W5 H5 b' n5 eb
                  have eb : b = b' := eb
                  subst eb
                  cases b with
                  | false =>
                    rw [if_neg Bool.false_ne_true] at e3 ⊢
                    cases e3
                    exact fin n5 [] accV rfl rfl (.inl ⟨rfl, rfl⟩) H5 (.inl ⟨rfl, rfl⟩)
                  | true =>
                    rw [if_pos rfl] at e3 ⊢
                    refine ⟨W5, ρ', S5, sr4.nxt n5, ?_⟩
                    show At I X.K E0' (kS I X.K) W5 H5 (evE sg cf ρ' e S5) _
                    cases e7 : evE sg cf ρ' e S5 with
                    | exc y S6 => rw [e7] at e3; cases e3
                    | bad => rw [e7] at e3; cases e3
                    | ok y S6 =>
                      rw [e7] at e3
                      simp only [Res.bind_ok] at e3
                      cases e3
                      intro W6 H6 v n6 rv
                      have nn := (n3.trans n4).trans (n5.trans n6)
                      refine ⟨accV, nn.kp.k D _ pD hHD, ?_, fin (n5.trans n6) [y] (accV ++ [v]) rfl rfl (.inr ⟨y, v, rfl, rfl, rv⟩) _ (.inr rfl)⟩
                      have : tot.length = acc.length + (1 + ws.length) := by
                        rw [et]
                        simp
                        omega
                      rw [← RepVs.length ra, sizeLine_lim]
                      omega
      · refine .inl ?_
        have ei : i = xs.length := by omega
        subst ei
        refine ⟨(wk _ Wc H2 Sc (nc.nr n1.w)).2 (Nat.le_refl _), ?_⟩
        rw [List.drop_length] at ec
        simp only [compGo] at ec
        cases ec
        rw [List.append_nil] at et
        subst et
        refine q1 Wc H2 (.ref D) nc ⟨D, rfl, ⟨pD, rD, accV, hHD, ra⟩, nD⟩
    · rw [if_neg hl] at q1
      exact q1.elim
end
end Pi

end
section
set_option linter.all false
set_option maxRecDepth 100000
/-! PiI: statements. -/
namespace Pi
open PySem PySem.Spec PyProof.Rows L2

/-- where a def's body stands, since its entry (W0, H0) -/
structure Sr0 (I : XI) (K : PySem.W.Frag) (W0 : Wd) (H0 : Hp) (W : Wd) (H : Hp) (O : List Nat) (ρ : Env) (σ : L2.St) (S : Store) : Prop where
  le : W0.le W
  kp : Kp W0.P H0 H
  sr : Sr I K W H O ρ σ S
  ow : ∀ (i : Nat) (a : Addr), i ∈ O → σ[i]? = some (some (V.ref a)) → (∃ p, ρ[i]? = some (some p)) → ¬ W0.P a
theorem NxtR.trans {I : XI} {K : PySem.W.Frag} {W W1 W2 : Wd} {H H1 H2 : Hp} {S1 S2 : Store} (a : NxtR I K W H W1 H1 S1) (b : NxtR I K W1 H1 W2 H2 S2) : NxtR I K W H W2 H2 S2 :=
  ⟨fun x h => b.r x (a.r x h), fun n x h => b.m n x (a.m n x h), a.kp.trans (b.kp.mono a.r), b.w, b.s⟩
def kFS (I : XI) (K : PySem.W.Frag) (fr : Bool) : Kd Val V := if fr then kF I K else kS I K
theorem kFS_anti {I : XI} {K : PySem.W.Frag} {fr : Bool} : Anti (kFS I K fr) := by
  cases fr
  · exact kS_anti I K
  · exact kF_anti I K
section
variable (I : XI) (K : PySem.W.Frag) (E : XK) (W0 : Wd) (H0 : Hp) (fr : Bool) (OL : List Nat)
def AtS (W : Wd) (H : Hp) (O' : Option (List Nat)) (D : Ends) (o : Out) : Prop := match o with
  | .nx ρ' S' => ∀ O2, O' = some O2 → ∀ W' H' σ', Sr0 I K W0 H0 W' H' O2 ρ' σ' S' → NxtR I K W H W' H' S' → D.nx σ' H'
  | .rt v S' => ∀ W' H' x, Nxt I K W0 H0 W' H' S' → kFS I K fr W0 W' H' v x → D.rt x H'
  | .bk ρ' S' => ∀ W' H' σ', Sr0 I K W0 H0 W' H' OL ρ' σ' S' → NxtR I K W H W' H' S' → D.bk σ' H'
  | .ct ρ' S' => ∀ W' H' σ', Sr0 I K W0 H0 W' H' OL ρ' σ' S' → NxtR I K W H W' H' S' → D.ct σ' H'
  | .ex x _ S' => ∀ W' H' cls d, Nxt I K W0 H0 W' H' S' → ExcOk I K W' H' x cls d → E cls d H'
  | .bad => False
def rdS (O : List Nat) (O' : Option (List Nat)) (m : Env → Store → Out) : TS := fun D σ H => ∃ W ρ S, Sr0 I K W0 H0 W H O ρ σ S ∧ AtS I K E W0 H0 fr OL W H O' D (m ρ S)
end
section
variable {I : XI} {K : PySem.W.Frag} {E : XK} {W0 : Wd} {H0 : Hp} {fr : Bool} {OL : List Nat} {W W1 : Wd} {H H1 : Hp} {O : List Nat} {ρ : Env} {σ : L2.St} {S S1 : Store}
theorem Sr0.nxt (h : Sr0 I K W0 H0 W H O ρ σ S) (n : Nxt I K W H W1 H1 S1) : Sr0 I K W0 H0 W1 H1 O ρ σ S1 := ⟨h.le.trans n.le, h.kp.trans (n.kp.mono h.le.p), h.sr.nxt n, h.ow⟩
theorem Sr0.n0 (h : Sr0 I K W0 H0 W H O ρ σ S) (n : Nxt I K W H W1 H1 S1) : Nxt I K W0 H0 W1 H1 S1 := ⟨h.le.trans n.le, h.kp.trans (n.kp.mono h.le.p), n.w, n.s⟩
theorem AtS.shift {O' : Option (List Nat)} {D : Ends} {o : Out} (n : NxtR I K W H W1 H1 S1) (h : AtS I K E W0 H0 fr OL W H O' D o) : AtS I K E W0 H0 fr OL W1 H1 O' D o := by
  cases o with
  | nx ρ' S' => exact fun O2 e W' H' σ' sr n' => h O2 e W' H' σ' sr (n.trans n')
  | rt v S' => exact h
  | bk ρ' S' => exact fun W' H' σ' sr n' => h W' H' σ' sr (n.trans n')
  | ct ρ' S' => exact fun W' H' σ' sr n' => h W' H' σ' sr (n.trans n')
  | ex x ρ' S' => exact h
  | bad => exact h
/-- an expression ahead -/
theorem AtS.seq {α β : Type} {kd : Kd α β} {O' : Option (List Nat)} {D : Ends} {r : Res α} {f : α → Store → Out} {Q : β → Hp → Prop} (sr : Sr0 I K W0 H0 W H O ρ σ S) (h : AtS I K E W0 H0 fr OL W H O' D (r.on ρ f))
    (k : ∀ v S1 W1 H1 x, r = .ok v S1 → Nxt I K W H W1 H1 S1 → kd W W1 H1 v x → AtS I K E W0 H0 fr OL W1 H1 O' D (f v S1) → Q x H1) : At I K E kd W H r Q := by
  cases r with
  | ok v S' => exact fun W' H' x n kd => k v S' W' H' x rfl n kd (h.shift (n.nr sr.sr.w))
  | exc y S' => exact fun W' H' cls d n x => h W' H' cls d (sr.n0 n) x
  | bad => exact h
/-- own slots are given up -/
theorem Sr0.weak {O1 : List Nat} (h : Sr0 I K W0 H0 W H O ρ σ S) (s : ∀ i ∈ O1, i ∈ O) : ∃ W', Sr0 I K W0 H0 W' H O1 ρ σ S ∧ NxtR I K W H W' H S := by
  let R' : Addr → Prop := fun b => W.R b ∨ ∃ i, i ∈ O ∧ i ∉ O1 ∧ (∃ p, ρ[i]? = some (some p)) ∧ σ[i]? = some (some (V.ref b))
  have l2 : ∀ b, W.R b → R' b := fun _ z => .inl z
  have m0 : ∀ (n : Nat) (a : Addr), W.μ[n]? = some a → W.μ[n]? = some a := fun _ _ z => z
  have own : ∀ {i : Nat} {b : Addr}, i ∈ O → (∃ p, ρ[i]? = some (some p)) → σ[i]? = some (some (V.ref b)) → ∃ l, ρ[i]? = some (some (.lst l)) ∧ Own I K W H l b := fun {i b} hi ⟨p, hp⟩ hb => by
    obtain ⟨l, a, e, h1, h2⟩ := h.sr.e.ow i p hp hi
    rw [hb] at h1
    cases h1
    exact ⟨l, by rw [hp, e], h2⟩
  have w' : WOk { W with R := R' } H := ⟨fun b z => by
    rcases z with z | ⟨i, hi, _, hp, hb⟩
    · exact h.sr.w.rp b z
    · obtain ⟨l, _, o⟩ := own hi hp hb
      exact o.1, h.sr.w.d, h.sr.w.nd, h.sr.w.mp⟩
  have s' : StRep I K { W with R := R' } H S := ⟨h.sr.s.len, fun n o e => by
    obtain ⟨b, q1, q2⟩ := h.sr.s.ob n o e
    refine ⟨b, q1, ?_⟩
    cases o with
    | lst l =>
      obtain ⟨ys, q3, q4⟩ := q2
      exact ⟨ys, q3, RepVs.mono .refl l2 m0 _ _ q4⟩
    | ro l =>
      obtain ⟨ys, q3, q4⟩ := q2
      exact ⟨ys, q3, RepVs.mono .refl l2 m0 _ _ q4⟩
    | ins c fs => exact q2.elim⟩
  refine ⟨{ W with R := R' }, ⟨⟨h.le.p, fun b z => .inl (h.le.r b z), fun b z q => ?_, h.le.m⟩, h.kp, ⟨w', s', ?_⟩, fun i a hi => h.ow i a (s i hi)⟩, ⟨l2, m0, .refl, w', s'⟩⟩
  · rcases z with z | ⟨i, hi, _, hp, hb⟩
    · exact h.le.n b z q
    · exact absurd q (h.ow i b hi hb hp)
  · refine ⟨h.sr.e.len, fun i p e n => ?_, fun i p e n => ?_, fun i j a hi hj => h.sr.e.ap i j a (s i hi) (s j hj)⟩
    · by_cases hO : i ∈ O
      · obtain ⟨l, a, e1, h1, h2, h3, xs, h4, h5⟩ := h.sr.e.ow i p e hO
        subst e1
        exact ⟨.ref a, h1, a, xs, rfl, ⟨.inr ⟨i, hO, n, ⟨_, e⟩, h1⟩, h4⟩, RepVs.mono .refl l2 m0 _ _ h5⟩
      · obtain ⟨v, h1, h2⟩ := h.sr.e.sh i p e hO
        exact ⟨v, h1, RepV.mono .refl l2 m0 _ _ h2⟩
    · obtain ⟨l, a, e1, h1, h2, h3, xs, h4, h5⟩ := h.sr.e.ow i p e (s i n)
      refine ⟨l, a, e1, h1, h2, fun z => ?_, xs, h4, RepVs.mono .refl l2 m0 _ _ h5⟩
      rcases z with z | ⟨j, hj, hj1, hp, hb⟩
      · exact h3 z
      · have := h.sr.e.ap i j a (s i n) hj h1 hb ⟨p, e⟩ hp
        rw [this] at n
        exact hj1 n
theorem less_sub {O vs : List Nat} : ∀ i ∈ less O vs, i ∈ O := fun _ h => (mem_less.mp h).1
theorem NxtR.refl (w : WOk W H) (s : StRep I K W H S) : NxtR I K W H W H S := ⟨fun _ h => h, fun _ _ h => h, .refl, w, s⟩
/-- a slot is set to what is shared -/
theorem Sr0.set (h : Sr0 I K W0 H0 W H O ρ σ S) {i : Nat} {p : Val} {v : V} (r : Rp I K W H p v) : Sr0 I K W0 H0 W H (less O [i]) (setE ρ i p) (σ.set i (some v)) S :=
  ⟨h.le, h.kp, h.sr.of (h.sr.e.set r), fun j a hj e1 e2 => by
    obtain ⟨h1, h2⟩ := mem_less.mp hj
    have ij : i ≠ j := fun z => h2 (by simp [z])
    rw [List.getElem?_set_ne ij] at e1
    obtain ⟨q, e2⟩ := e2
    unfold setE at e2
    rw [List.getElem?_set_ne ij] at e2
    exact h.ow j a h1 e1 ⟨q, e2⟩⟩
/-- .. to one's own list -/
theorem Sr0.setOwn (h : Sr0 I K W0 H0 W H O ρ σ S) {i : Nat} {l : List Val} {a : Addr} (o : Own I K W H l a) (n0 : ¬ W0.P a) (na : ∀ j, j ∈ O → j ≠ i → σ[j]? = some (some (V.ref a)) → (∃ p, ρ[j]? = some (some p)) → False) :
    Sr0 I K W0 H0 W H (i :: less O [i]) (setE ρ i (.lst l)) (σ.set i (some (.ref a))) S := by
  have hle := h.sr.e.len
  have old : ∀ {j : Nat}, j ∈ i :: less O [i] → j ≠ i → j ∈ O := fun {j} hj hn => by
    rcases List.mem_cons.mp hj with e | e
    · exact absurd e hn
    · exact (mem_less.mp e).1
  have nei : ∀ {j : Nat} {q : Val}, j ≠ i → (setE ρ i (.lst l))[j]? = some (some q) → ρ[j]? = some (some q) := fun {j q} hn e => by
    unfold setE at e
    rw [List.getElem?_set_ne (Ne.symm hn)] at e
    exact e
  refine ⟨h.le, h.kp, h.sr.of ⟨by unfold setE; rw [List.length_set, List.length_set]; exact hle, fun j q e n => ?_, fun j q e n => ?_, fun j k b hj hk e1 e2 e3 e4 => ?_⟩, fun j b hj e1 e2 => ?_⟩
  · have hn : j ≠ i := fun z => n (by rw [z]; exact List.mem_cons_self)
    rw [List.getElem?_set_ne (Ne.symm hn)]
    exact h.sr.e.sh j q (nei hn e) fun z => n (List.mem_cons_of_mem _ (mem_less.mpr ⟨z, by simpa using hn⟩))
  · by_cases hn : j = i
    · subst hn
      have hl : j < ρ.length := by
        have := (List.getElem?_eq_some_iff.mp e).1
        unfold setE at this
        rw [List.length_set] at this
        exact this
      unfold setE at e
      rw [List.getElem?_set_self hl] at e
      cases e
      exact ⟨l, a, rfl, List.getElem?_set_self (by rw [← hle]; exact hl), o⟩
    · rw [List.getElem?_set_ne (Ne.symm hn)]
      exact h.sr.e.ow j q (nei hn e) (old n hn)
  · obtain ⟨q3, e3⟩ := e3
    obtain ⟨q4, e4⟩ := e4
    by_cases hj' : j = i <;> by_cases hk' : k = i
    · rw [hj', hk']
    · exfalso
      rw [List.getElem?_set_ne (Ne.symm hk')] at e2
      rw [hj'] at e1
      have hl : i < σ.length := by
        have := (List.getElem?_eq_some_iff.mp e1).1
        rw [List.length_set] at this
        exact this
      rw [List.getElem?_set_self hl] at e1
      cases e1
      exact na k (old hk hk') hk' e2 ⟨q4, nei hk' e4⟩
    · exfalso
      rw [List.getElem?_set_ne (Ne.symm hj')] at e1
      rw [hk'] at e2
      have hl : i < σ.length := by
        have := (List.getElem?_eq_some_iff.mp e2).1
        rw [List.length_set] at this
        exact this
      rw [List.getElem?_set_self hl] at e2
      cases e2
      exact na j (old hj hj') hj' e1 ⟨q3, nei hj' e3⟩
    · rw [List.getElem?_set_ne (Ne.symm hj')] at e1
      rw [List.getElem?_set_ne (Ne.symm hk')] at e2
      exact h.sr.e.ap j k b (old hj hj') (old hk hk') e1 e2 ⟨q3, nei hj' e3⟩ ⟨q4, nei hk' e4⟩
  · obtain ⟨q, e2⟩ := e2
    by_cases hn : j = i
    · rw [hn] at e1
      have hl : i < σ.length := by
        have := (List.getElem?_eq_some_iff.mp e1).1
        rw [List.length_set] at this
        exact this
      rw [List.getElem?_set_self hl] at e1
      cases e1
      exact n0
    · rw [List.getElem?_set_ne (Ne.symm hn)] at e1
      exact h.ow j b (old hj hn) e1 ⟨q, nei hn e2⟩
/-- one's own list is changed in place -/
theorem Sr0.mut (h : Sr0 I K W0 H0 W H O ρ σ S) {i : Nat} {l l' : List Val} {a : Addr} {xs xs' : List V} (hi : i ∈ O) (hp : ρ[i]? = some (some (.lst l))) (hs : σ[i]? = some (some (V.ref a))) (hH : H a = some (.lst xs)) (r : Rps I K W H l' xs') :
    Sr0 I K W0 H0 W (upd H a (.lst xs')) O (setE ρ i (.lst l')) σ S ∧ NxtR I K W H W (upd H a (.lst xs')) S := by
  obtain ⟨l1, a1, e1, h1, pa, ra, ys, h4, h5⟩ := h.sr.e.ow i _ hp hi
  rw [hs] at h1
  cases h1
  have n0 := h.ow i a hi hs ⟨_, hp⟩
  have kpR : Kp W.R H (upd H a (.lst xs')) := Kp.set hH ra
  have m0 : ∀ (n : Nat) (b : Addr), W.μ[n]? = some b → W.μ[n]? = some b := fun _ _ z => z
  have up : ∀ {p : Val} {v : V}, Rp I K W H p v → Rp I K W (upd H a (.lst xs')) p v := fun {p v} z => RepV.mono kpR (fun _ z => z) m0 p v z
  have ups : ∀ {p : List Val} {v : List V}, Rps I K W H p v → Rps I K W (upd H a (.lst xs')) p v := fun {p v} z => RepVs.mono kpR (fun _ z => z) m0 p v z
  have w' := wok_own (ys := xs') h.sr.w hH
  have s' := st_own (ys := xs') h.sr.w h.sr.s pa ra hH
  have nei : ∀ {j : Nat} {q : Val}, j ≠ i → (setE ρ i (.lst l'))[j]? = some (some q) → ρ[j]? = some (some q) := fun {j q} hn e => by
    unfold setE at e
    rw [List.getElem?_set_ne (Ne.symm hn)] at e
    exact e
  have any : ∀ {j : Nat}, (∃ q, (setE ρ i (.lst l'))[j]? = some (some q)) → ∃ q, ρ[j]? = some (some q) := fun {j} ⟨q, e⟩ => by
    by_cases hn : j = i
    · exact ⟨_, by rw [hn]; exact hp⟩
    · exact ⟨q, nei hn e⟩
  refine ⟨⟨h.le, h.kp.trans (Kp.set hH n0), ⟨w', s', ⟨by unfold setE; rw [List.length_set]; exact h.sr.e.len, fun j q e n => ?_, fun j q e n => ?_, fun j k b hj hk e1 e2 e3 e4 => h.sr.e.ap j k b hj hk e1 e2 (any e3) (any e4)⟩⟩, fun j b hj e1 e2 => h.ow j b hj e1 (any e2)⟩, ⟨fun _ z => z, m0, kpR, w', s'⟩⟩
  · have hn : j ≠ i := fun z => n (by rw [z]; exact hi)
    obtain ⟨v, q1, q2⟩ := h.sr.e.sh j q (nei hn e) n
    exact ⟨v, q1, up q2⟩
  · by_cases hn : j = i
    · subst hn
      have hl : j < ρ.length := (List.getElem?_eq_some_iff.mp hp).1
      unfold setE at e
      rw [List.getElem?_set_self hl] at e
      cases e
      exact ⟨l', a, rfl, hs, pa, ra, xs', upd_same, ups r⟩
    · obtain ⟨l2, b, e2, q1, q2, q3, zs, q4, q5⟩ := h.sr.e.ow j q (nei hn e) n
      have hb : b ≠ a := fun z => by
        subst z
        exact hn (h.sr.e.ap j i b n hi q1 hs ⟨q, nei hn e⟩ ⟨_, hp⟩)
      exact ⟨l2, b, e2, q1, q2, q3, zs, by rw [upd_ne hb]; exact q4, ups q5⟩
end
end Pi

end
section
set_option linter.all false
set_option maxRecDepth 100000
/-! PiJ: statements' rules. -/
namespace Pi
open PySem PySem.Spec PyProof.Rows L2

section
variable {X : Cx} {I : XI} {E : XK} {W0 : Wd} {H0 : Hp} {fr : Bool} {OL : List Nat} {O : List Nat} {O' : Option (List Nat)} {sg : Sig} {cf : String → List Val → Store → Res Val}
abbrev JS (X : Cx) (I : XI) (E : XK) (W0 : Wd) (H0 : Hp) (fr : Bool) (OL O : List Nat) (O' : Option (List Nat)) (m : Env → Store → Out) (st : Stmt) : Prop := PS X st (rdS I X.K E W0 H0 fr OL O O' m)
abbrev JSs (X : Cx) (I : XI) (E : XK) (W0 : Wd) (H0 : Hp) (fr : Bool) (OL O : List Nat) (O' : Option (List Nat)) (m : Env → Store → Out) (st : List Stmt) : Prop := PSs X st (rdS I X.K E W0 H0 fr OL O O' m)
theorem AtS.nx {W : Wd} {H : Hp} {O1 : List Nat} {D : Ends} {ρ' : Env} {S' : Store} {σ' : L2.St} (h : AtS I X.K E W0 H0 fr OL W H (some O1) D (.nx ρ' S')) (sr : Sr0 I X.K W0 H0 W H O1 ρ' σ' S') : D.nx σ' H := h O1 rfl W H σ' sr (.refl sr.sr.w sr.sr.s)
/-! blocks -/
theorem js_nil : JSs X I E W0 H0 fr OL O (some O) (fun ρ S => evSs sg cf [] ρ S) [] :=
  PSs.imp pss_nil fun D σ H ⟨W, ρ, S, sr, q⟩ => by
    simp only [evSs] at q
    exact q.nx sr
theorem js_cons {s : IS} {r : List IS} {st : Stmt} {rest : List Stmt} {O1 : List Nat} (h1 : JS X I E W0 H0 fr OL O (some O1) (fun ρ S => evS sg cf s ρ S) st) (h2 : JSs X I E W0 H0 fr OL O1 O' (fun ρ S => evSs sg cf r ρ S) rest) :
    JSs X I E W0 H0 fr OL O O' (fun ρ S => evSs sg cf (s :: r) ρ S) (st :: rest) := by
  refine PSs.imp (pss_cons h1 h2) fun D σ H ⟨W, ρ, S, sr, q⟩ => ⟨W, ρ, S, sr, ?_⟩
  simp only [evSs] at q
  show AtS I X.K E W0 H0 fr OL W H (some O1) _ (evS sg cf s ρ S)
  cases e : evS sg cf s ρ S with
  | nx ρ' S' =>
    rw [e] at q
    intro O2 e2 W' H' σ' sr' n
    cases e2
    exact ⟨W', ρ', S', sr', q.shift n⟩
  | rt v S' => rw [e] at q; exact q
  | bk ρ' S' => rw [e] at q; exact q
  | ct ρ' S' => rw [e] at q; exact q
  | ex x ρ' S' => rw [e] at q; exact q
  | bad => rw [e] at q; exact q
/-- a statement behind which nothing is reached -/
theorem js_last {s : IS} {r : List IS} {st : Stmt} {rest : List Stmt} (h1 : JS X I E W0 H0 fr OL O none (fun ρ S => evS sg cf s ρ S) st) :
    JSs X I E W0 H0 fr OL O O' (fun ρ S => evSs sg cf (s :: r) ρ S) (st :: rest) := by
  refine PSs.imp (pss_cons h1 (pss_never (sts := rest))) fun D σ H ⟨W, ρ, S, sr, q⟩ => ⟨W, ρ, S, sr, ?_⟩
  simp only [evSs] at q
  show AtS I X.K E W0 H0 fr OL W H none _ (evS sg cf s ρ S)
  cases e : evS sg cf s ρ S with
  | nx ρ' S' => intro O2 e2; cases e2
  | rt v S' => rw [e] at q; exact q
  | bk ρ' S' => rw [e] at q; exact q
  | ct ρ' S' => rw [e] at q; exact q
  | ex x ρ' S' => rw [e] at q; exact q
  | bad => rw [e] at q; exact q
theorem JS.to {m : Env → Store → Out} {st : Stmt} {O1 O2 : List Nat} (h : JS X I E W0 H0 fr OL O (some O1) m st) (s : ∀ i ∈ O2, i ∈ O1) : JS X I E W0 H0 fr OL O (some O2) m st := by
  refine PS.imp h fun D σ H ⟨W, ρ, S, sr, q⟩ => ⟨W, ρ, S, sr, ?_⟩
  cases e : m ρ S with
  | nx ρ' S' =>
    rw [e] at q
    intro O3 e3 W' H' σ' sr' n
    cases e3
    obtain ⟨W2, sr2, n2⟩ := sr'.weak s
    exact q O2 rfl W2 H' σ' sr2 (n.trans n2)
  | rt v S' => rw [e] at q; exact q
  | bk ρ' S' => rw [e] at q; exact q
  | ct ρ' S' => rw [e] at q; exact q
  | ex x ρ' S' => rw [e] at q; exact q
  | bad => rw [e] at q; exact q
theorem JSs.to {m : Env → Store → Out} {st : List Stmt} {O1 O2 : List Nat} (h : JSs X I E W0 H0 fr OL O (some O1) m st) (s : ∀ i ∈ O2, i ∈ O1) : JSs X I E W0 H0 fr OL O (some O2) m st := by
  refine PSs.imp h fun D σ H ⟨W, ρ, S, sr, q⟩ => ⟨W, ρ, S, sr, ?_⟩
  cases e : m ρ S with
  | nx ρ' S' =>
    rw [e] at q
    intro O3 e3 W' H' σ' sr' n
    cases e3
    obtain ⟨W2, sr2, n2⟩ := sr'.weak s
    exact q O2 rfl W2 H' σ' sr2 (n.trans n2)
  | rt v S' => rw [e] at q; exact q
  | bk ρ' S' => rw [e] at q; exact q
  | ct ρ' S' => rw [e] at q; exact q
  | ex x ρ' S' => rw [e] at q; exact q
  | bad => rw [e] at q; exact q
theorem JSs.never {m : Env → Store → Out} {st : List Stmt} (h : JSs X I E W0 H0 fr OL O none m st) : JSs X I E W0 H0 fr OL O O' m st := by
  refine PSs.imp h fun D σ H ⟨W, ρ, S, sr, q⟩ => ⟨W, ρ, S, sr, ?_⟩
  cases e : m ρ S with
  | nx ρ' S' => intro O3 e3; cases e3
  | rt v S' => rw [e] at q; exact q
  | bk ρ' S' => rw [e] at q; exact q
  | ct ρ' S' => rw [e] at q; exact q
  | ex x ρ' S' => rw [e] at q; exact q
  | bad => rw [e] at q; exact q
/-- own slots given up ahead -/
theorem JSs.from {m : Env → Store → Out} {st : List Stmt} {O1 : List Nat} (h : JSs X I E W0 H0 fr OL O1 O' m st) (s : ∀ i ∈ O1, i ∈ O) : JSs X I E W0 H0 fr OL O O' m st := by
  refine PSs.imp h fun D σ H ⟨W, ρ, S, sr, q⟩ => ?_
  obtain ⟨W2, sr2, n2⟩ := sr.weak s
  exact ⟨W2, ρ, S, sr2, q.shift n2⟩
theorem js_share {i : Nat} {r : List IS} {st : List Stmt} (h : JSs X I E W0 H0 fr OL (less O [i]) O' (fun ρ S => evSs sg cf r ρ S) st) : JSs X I E W0 H0 fr OL O O' (fun ρ S => evSs sg cf (.share i :: r) ρ S) st := by
  refine PSs.imp (JSs.from h less_sub) fun D σ H ⟨W, ρ, S, sr, q⟩ => ⟨W, ρ, S, sr, ?_⟩
  simp only [evSs, evS, Out.then_nx] at q
  exact q
/-! small ones -/
theorem setE_ne {ρ : Env} {i j : Nat} {v : Val} (h : i ≠ j) : (setE ρ i v)[j]? = ρ[j]? := by
  unfold setE
  rw [List.getElem?_set_ne h]
mutual
theorem bindP_same : ∀ (p : Pat) (v : Val) (ρ ρ' : Env) (j : Nat), bindP p v ρ = some ρ' → j ∉ p.vars → ρ'[j]? = ρ[j]?
  | .v i, v, ρ, ρ', j, h, hj => by
    cases h
    exact setE_ne (fun z => hj (by simp [Pat.vars, z]))
  | .tup ps, v, ρ, ρ', j, h, hj => by
    cases v <;> try (cases h; done)
    rename_i l
    have h : (if l.length = ps.length then bindPs ps l ρ else none) = some ρ' := h
    by_cases c : l.length = ps.length
    · rw [if_pos c] at h
      exact bindPs_same ps l ρ ρ' j h hj
    · rw [if_neg c] at h
      cases h
  | .star ps i, v, ρ, ρ', j, h, hj => by
    have hj : j ∉ Pat.varsL ps ++ [i] := hj
    have go : ∀ l : List Val, (if ps.length ≤ l.length then (bindPs ps (l.take ps.length) ρ).map (fun ρ' => setE ρ' i (.lst (l.drop ps.length))) else none) = some ρ' → ρ'[j]? = ρ[j]? := fun l h => by
      by_cases c : ps.length ≤ l.length
      · rw [if_pos c] at h
        cases e : bindPs ps (l.take ps.length) ρ with
        | none => rw [e] at h; cases h
        | some ρ1 =>
          rw [e] at h
          cases h
          rw [setE_ne (fun z => hj (by simp [z]))]
          exact bindPs_same ps _ ρ ρ1 j e fun z => hj (List.mem_append_left _ z)
      · rw [if_neg c] at h
        cases h
    cases v <;> first | exact go _ h | (cases h; done)
theorem bindPs_same : ∀ (ps : List Pat) (vs : List Val) (ρ ρ' : Env) (j : Nat), bindPs ps vs ρ = some ρ' → j ∉ Pat.varsL ps → ρ'[j]? = ρ[j]?
  | [], [], ρ, ρ', j, h, _ => by cases h; rfl
  | [], _ :: _, _, _, _, h, _ => by cases h
  | _ :: _, [], _, _, _, h, _ => by cases h
  | p :: ps, v :: vs, ρ, ρ', j, h, hj => by
    have hj : j ∉ p.vars ++ Pat.varsL ps := hj
    have h : (bindP p v ρ).bind (fun ρ' => bindPs ps vs ρ') = some ρ' := h
    cases e : bindP p v ρ with
    | none => rw [e] at h; cases h
    | some ρ1 =>
      rw [e] at h
      exact (bindPs_same ps vs ρ1 ρ' j h fun z => hj (List.mem_append_right _ z)).trans (bindP_same p v ρ ρ1 j e fun z => hj (List.mem_append_left _ z))
end
/-- behind a target -/
theorem Sr0.bound {W W2 : Wd} {H H2 : Hp} {ρ ρ' : Env} {σ σ2 : L2.St} {S S2 : Store} {pt : Pat} {v : Val} (sr : Sr0 I X.K W0 H0 W H O ρ σ S) (n : Nxt I X.K W H W2 H2 S2) (e : bindP pt v ρ = some ρ') (sr2 : Sr I X.K W2 H2 (less O pt.vars) ρ' σ2 S2) (a : Alike pt.vars σ σ2) :
    Sr0 I X.K W0 H0 W2 H2 (less O pt.vars) ρ' σ2 S2 := by
  have sr3 := sr.nxt n
  refine ⟨sr3.le, sr3.kp, sr2, fun i b hi e3 e4 => ?_⟩
  obtain ⟨h3, h4⟩ := mem_less.mp hi
  rw [a.same i h4] at e3
  rw [bindP_same pt v ρ ρ' i e h4] at e4
  exact sr.ow i b h3 e3 e4

theorem js_pass {pos : Pos} : JS X I E W0 H0 fr OL O (some O) (fun ρ S => evS sg cf .pass ρ S) (.Pass pos) :=
  PS.imp ps_pass fun D σ H ⟨W, ρ, S, sr, q⟩ => by
    simp only [evS] at q
    exact q.nx sr
theorem js_brk {pos : Pos} (s : ∀ i ∈ OL, i ∈ O) : JS X I E W0 H0 fr OL O none (fun ρ S => evS sg cf .brk ρ S) (.Break pos) :=
  PS.imp ps_break fun D σ H ⟨W, ρ, S, sr, q⟩ => by
    simp only [evS] at q
    obtain ⟨W2, sr2, n2⟩ := sr.weak s
    exact q W2 H σ sr2 n2
theorem js_cnt {pos : Pos} (s : ∀ i ∈ OL, i ∈ O) : JS X I E W0 H0 fr OL O none (fun ρ S => evS sg cf .cnt ρ S) (.Continue pos) :=
  PS.imp ps_continue fun D σ H ⟨W, ρ, S, sr, q⟩ => by
    simp only [evS] at q
    obtain ⟨W2, sr2, n2⟩ := sr.weak s
    exact q W2 H σ sr2 n2
theorem js_expr {e : IE} {ee : Expr} {pos : Pos} (h : JE X I E O (kB I X.K) (fun ρ S => evE sg cf ρ e S) ee) (hs : swapsWith ee none pos.line X.env = pure false) : JS X I E W0 H0 fr OL O (some O) (fun ρ S => evS sg cf (.expr e) ρ S) (.Expr ee pos) :=
  PS.imp (ps_expr h hs) fun D σ H ⟨W, ρ, S, sr, q⟩ => by
    simp only [evS] at q
    exact ⟨W, ρ, S, sr.sr, q.seq sr fun v S1 W1 H1 x e1 n1 k1 q1 => q1.nx (sr.nxt n1)⟩
theorem js_retS {e : IE} {ee : Expr} {pos : Pos} (hf : fr = false) (h : JE X I E O (kS I X.K) (fun ρ S => evE sg cf ρ e S) ee) : JS X I E W0 H0 fr OL O none (fun ρ S => evS sg cf (.ret e) ρ S) (.Return (some ee) pos) :=
  PS.imp (ps_ret h) fun D σ H ⟨W, ρ, S, sr, q⟩ => by
    simp only [evS] at q
    refine ⟨W, ρ, S, sr.sr, q.seq sr fun v S1 W1 H1 x e1 n1 k1 q1 => q1 W1 H1 x (sr.n0 n1) ?_⟩
    subst hf
    exact k1
theorem js_retF {e : IE} {ee : Expr} {pos : Pos} (hf : fr = true) (h : JE X I E O (kF I X.K) (fun ρ S => evE sg cf ρ e S) ee) : JS X I E W0 H0 fr OL O none (fun ρ S => evS sg cf (.ret e) ρ S) (.Return (some ee) pos) :=
  PS.imp (ps_ret h) fun D σ H ⟨W, ρ, S, sr, q⟩ => by
    simp only [evS] at q
    refine ⟨W, ρ, S, sr.sr, q.seq sr fun v S1 W1 H1 x e1 n1 k1 q1 => q1 W1 H1 x (sr.n0 n1) ?_⟩
    subst hf
    exact kF_anti I X.K W0 W W1 H1 v x sr.le k1
/-- one's own list is given back -/
theorem js_retO {i : Nat} {x : Str} {p pos : Pos} (hf : fr = true) (hi : i ∈ O) (hN : X.N[i]? = some x) (hv : Vis X.env.scope x) (hd : (x == ("__debug__" : Str)) = false) (hcd : (x == ("__classdict__" : Str)) = false) :
    JS X I E W0 H0 fr OL O none (fun ρ S => evS sg cf (.ret (.lv i)) ρ S) (.Return (some (.Name x p)) pos) :=
  PS.imp (ps_ret (pe_var hN hv hd hcd)) fun D σ H ⟨W, ρ, S, sr, q⟩ => by
    simp only [evS, evE] at q
    split at q
    · rename_i v hv'
      obtain ⟨l, a, rfl, h1, h2⟩ := sr.sr.e.ow i v hv' hi
      refine ⟨.ref a, h1, q W H (.ref a) ⟨sr.le, sr.kp, sr.sr.w, sr.sr.s⟩ ?_⟩
      subst hf
      exact ⟨a, rfl, h2, sr.ow i a hi h1 ⟨_, hv'⟩⟩
    · exact q.elim
theorem js_retN {pos : Pos} : JS X I E W0 H0 fr OL O none (fun ρ S => evS sg cf .retN ρ S) (.Return none pos) :=
  PS.imp ps_retN fun D σ H ⟨W, ρ, S, sr, q⟩ => by
    simp only [evS] at q
    refine q W H .non ⟨sr.le, sr.kp, sr.sr.w, sr.sr.s⟩ ?_
    cases fr <;> exact (rfl : V.non = V.non)
/-! names -/
theorem js_asg {i : Nat} {x : Str} {e : IE} {ee : Expr} {p pos : Pos} (hN : X.N.Nodup) (hi : X.N[i]? = some x) (hx : Loc X.env.scope x) (hf : X.fn x = true ∨ X.env.scope.names.lookup x = some .local)
    (hs : swapsWith ee (some (.Name x p)) pos.line X.env = pure false) (h : JE X I E O (kS I X.K) (fun ρ S => evE sg cf ρ e S) ee) :
    JS X I E W0 H0 fr OL O (some (less O [i])) (fun ρ S => evS sg cf (.asg (.v i) e) ρ S) (.Assign [.Name x p] ee pos) :=
  PS.imp (ps_set hN hi hx h hs hf) fun D σ H ⟨W, ρ, S, sr, q⟩ => by
    simp only [evS] at q
    exact ⟨W, ρ, S, sr.sr, q.seq sr fun v S1 W1 H1 y e1 n1 k1 q1 => q1.nx ((sr.nxt n1).set k1)⟩
theorem js_own {i : Nat} {x : Str} {e : IE} {ee : Expr} {p pos : Pos} (hN : X.N.Nodup) (hi : X.N[i]? = some x) (hx : Loc X.env.scope x) (hf : X.fn x = true ∨ X.env.scope.names.lookup x = some .local)
    (hs : swapsWith ee (some (.Name x p)) pos.line X.env = pure false) (h : JE X I E O (kF I X.K) (fun ρ S => evE sg cf ρ e S) ee) :
    JS X I E W0 H0 fr OL O (some (i :: less O [i])) (fun ρ S => evS sg cf (.own i e) ρ S) (.Assign [.Name x p] ee pos) :=
  PS.imp (ps_set hN hi hx h hs hf) fun D σ H ⟨W, ρ, S, sr, q⟩ => by
    simp only [evS] at q
    refine ⟨W, ρ, S, sr.sr, q.seq sr fun v S1 W1 H1 y e1 n1 k1 q1 => ?_⟩
    cases v <;> try (exact q1.elim)
    obtain ⟨a, rfl, h2, h3⟩ := k1
    refine q1.nx ((sr.nxt n1).setOwn h2 (fun z => h3 (sr.le.p a z)) fun j hj _ e2 e3 => ?_)
    obtain ⟨q3, e3⟩ := e3
    obtain ⟨l, b, _, h4, h5⟩ := sr.sr.e.ow j _ e3 hj
    rw [e2] at h4
    cases h4
    exact h3 h5.1
theorem AtS.lc {k : Nat} {its : List IE} {p : Pat} {cs : List IE} {e : IE} {W : Wd} {H : Hp} {σ : L2.St} {ρ : Env} {S : Store} {Q : VK} (sr : Sr I X.K W H O ρ σ S) (h : At I X.K E (kF I X.K) W H (evE sg cf ρ (.comp k its p cs e) S) Q) :
    tLc (rd I X.K E O (kI I X.K) (evIt sg cf k its)) (gP I X.K O p) (rd I X.K E0' (less O p.vars) kT (fun ρ S => evTs sg cf ρ cs S)) (rd I X.K E0' (less O p.vars) (kS I X.K) (fun ρ S => evE sg cf ρ e S)) p.vars σ H Q :=
  comp_rd (E := E) ⟨W, ρ, S, sr, h⟩
/-- a tuple of targets -/
theorem js_asgP {pt : Pat} {tg : Expr} {e : IE} {ee : Expr} {pos : Pos} (hg : PG X tg (gP I X.K O pt)) (hs : swapsWithSole [tg] ee pos.line X.env = pure false) (hw : swappedStores [tg] ee X.env = pure none)
    (h1 : (assignEach [tg] X.env).map (·.2) = [assign tg X.env]) (h : JE X I E O (kS I X.K) (fun ρ S => evE sg cf ρ e S) ee) :
    JS X I E W0 H0 fr OL O (some (less O pt.vars)) (fun ρ S => evS sg cf (.asg pt e) ρ S) (.Assign [tg] ee pos) :=
  PS.imp (ps_asg h hg hs hw h1) fun D σ H ⟨W, ρ, S, sr, q⟩ => by
    simp only [evS] at q
    refine ⟨W, ρ, S, sr.sr, q.seq sr fun v S1 W1 H1 y e1 n1 k1 q1 => ?_⟩
    cases e2 : bindP pt v ρ with
    | none => rw [e2] at q1; exact q1.elim
    | some ρ' =>
      rw [e2] at q1
      have sr1 := sr.nxt n1
      refine ⟨W1, ρ, S1, v, ρ', sr1.sr, k1, e2, fun W2 H2 σ2 n2 sr2 a2 => ?_⟩
      exact q1 _ rfl W2 H2 σ2 (sr1.bound n2 e2 sr2 a2) (n2.nr sr1.sr.w)
/-- name op= e -/
theorem js_aug {i : Nat} {x : Str} {o : Bop} {e : IE} {ee : Expr} {p pos : Pos} {r : R2} (hO : i ∉ O) (hN : X.N.Nodup) (hi : X.N[i]? = some x) (hx : Loc X.env.scope x) (hf : X.fn x = true ∨ X.env.scope.names.lookup x = some .local)
    (ho : PIp X (bopO o) r) (ok : R2Ok I X.K r (binV o)) (h : JE X I E O (kB I X.K) (fun ρ S => evE sg cf ρ e S) ee) :
    JS X I E W0 H0 fr OL O (some (less O [i])) (fun ρ S => evS sg cf (.aug i o e) ρ S) (.AugAssign (.Name x p) (bopO o) ee pos) :=
  PS.imp (ps_aug hN hi hx h ho hf) fun D σ H ⟨W, ρ, S, sr, q⟩ => by
    simp only [evS] at q
    split at q
    · rename_i v hv
      obtain ⟨y, h1, h2⟩ := sr.sr.e.sh i v hv hO
      refine ⟨y, h1, W, ρ, S, sr.sr, q.seq sr fun u S1 W1 H1 z e1 n1 k1 q1 => ?_⟩
      cases e2 : binV o v u with
      | none => rw [e2] at q1; exact q1.elim
      | some t =>
        rw [e2] at q1
        refine ok W1 H1 S1 v u t y z _ n1.w n1.s (Rp.kb n1.w (Rp.up n1.le n1.kp sr.sr.w h2)) k1 e2 fun W2 H2 t' le kp w s k => ?_
        obtain ⟨W3, a1, a2, a3, a4, a5, a6⟩ := KF.share le w s k
        have n2 : Nxt I X.K W1 H1 W3 H2 S1 := ⟨a1, kp, a4, a5⟩
        exact q1 _ rfl W3 H2 _ (((sr.nxt n1).nxt n2).set a6) (n2.nr n1.w)
    · exact q.elim
/-! one's own list by its methods -/
theorem own_at {W : Wd} {H : Hp} {ρ : Env} {σ : L2.St} {S : Store} {i : Nat} {l : List Val} (sr : Sr I X.K W H O ρ σ S) (hi : i ∈ O) (e : lstE ρ i = some l) : ρ[i]? = some (some (.lst l)) ∧ ∃ a xs, σ[i]? = some (some (V.ref a)) ∧ H a = some (.lst xs) ∧ Rps I X.K W H l xs := by
  unfold lstE at e
  split at e
  · rename_i l' h'
    cases e
    obtain ⟨l2, a, e2, h1, h2, h3, xs, h4, h5⟩ := sr.e.ow i _ h' hi
    cases e2
    exact ⟨h', a, xs, h1, h4, h5⟩
  · cases e
theorem js_app {i : Nat} {x : Str} {e : IE} {ee : Expr} {p apos cpos pos : Pos} (hi : i ∈ O) (hN : X.N[i]? = some x) (hv : Vis X.env.scope x) (hd : (x == ("__debug__" : Str)) = false) (hcd : (x == ("__classdict__" : Str)) = false)
    (hline : (apos.endLine == cpos.line) = true) (h : JE X I E O (kS I X.K) (fun ρ S => evE sg cf ρ e S) ee) (hst : starEach [ee] X.env = [(false, eval ee X.env)])
    (hfew : ((backTo cpos (starEach [ee] X.env)).all (fun x => !x.1) && (backToKw cpos (keywordEach [] X.env)).all (fun x => x.1.isSome) && decide ([ee].length + ([] : List Keyword).length + (if ([] : List Keyword).isEmpty then 0 else 1) < 30)) = true) :
    JS X I E W0 H0 fr OL O (some O) (fun ρ S => evS sg cf (.app i e) ρ S) (.Expr (.Call (.Attribute (.Name x p) "append" apos) [ee] [] cpos) pos) := by
  refine PS.imp (ps_expr (pe_bm PySem.F.plainAttrs_list PySem.F.slot_list_append PySem.F.type_list_append mt_append (pe_var hN hv hd hcd) (ja_consS h ja_nilS hst) rfl hfew hline hst rfl) rfl) fun D σ H ⟨W, ρ, S, sr, q⟩ => ?_
  simp only [evS] at q
  cases e0 : lstE ρ i with
  | none => rw [e0] at q; exact q.elim
  | some l =>
    rw [e0] at q
    obtain ⟨hp, a, xs, hs, hH, rx⟩ := own_at sr.sr hi e0
    obtain ⟨_, _, _, _, o⟩ := sr.sr.e.ow i _ hp hi
    refine ⟨.ref a, hs, .inl ⟨rfl, xs, .of hH⟩, W, ρ, S, sr.sr, ?_⟩
    have e1 : evEs sg cf ρ [e] S = (evE sg cf ρ e S).bind fun v S1 => .ok [v] S1 := evEs_one
    show At I X.K E (kSs I X.K) W H (evEs sg cf ρ [e] S) _
    rw [e1]
    cases e2 : evE sg cf ρ e S with
    | bad => rw [e2] at q; exact q
    | exc y S1 =>
      rw [e2] at q
      exact fun W' H' cls d n x => q W' H' cls d (sr.n0 n) x
    | ok v S1 =>
      rw [e2] at q
      simp only [Res.on_ok] at q
      intro W1 H1 vs n1 k1
      obtain ⟨y, rfl, ry⟩ := rps_one k1
      have sr1 := sr.nxt n1
      obtain ⟨_, a', xs', hs', hH', rx'⟩ := own_at sr1.sr hi e0
      rw [hs] at hs'
      cases hs'
      by_cases hl : l.length < lim
      · rw [if_pos hl] at q
        refine ⟨a, xs', y, rfl, rfl, hH', by rw [← RepVs.length rx', sizeLine_lim]; exact hl, ?_⟩
        have m := sr1.mut (l' := l ++ [v]) (xs' := xs' ++ [y]) hi hp hs hH' (RepVs.append rx' ⟨y, [], rfl, ry, rfl⟩)
        exact q _ rfl W1 _ σ m.1 ((n1.nr sr.sr.w).trans m.2)
      · rw [if_neg hl] at q
        exact q.elim
theorem pop_none {l : List Val} {xs : List V} {W : Wd} {H : Hp} {v : Val} {l' : List Val} (r : Rps I X.K W H l xs) (e : popL l none = some (v, l')) : ∃ y, xs[xs.length - 1]? = some y ∧ Rp I X.K W H v y ∧ l' = l.dropLast ∧ Rps I X.K W H l.dropLast xs.dropLast := by
  have e : (l.getLast?.map fun v => (v, l.dropLast)) = some (v, l') := e
  cases q : l.getLast? with
  | none => rw [q] at e; cases e
  | some u =>
    rw [q] at e
    cases e
    have ln := RepVs.length r
    rw [List.getLast?_eq_getElem?] at q
    obtain ⟨y, hy, ry⟩ := r.get q
    refine ⟨y, by rw [← ln]; exact hy, ry, rfl, ?_⟩
    rw [List.dropLast_eq_take, List.dropLast_eq_take, ← ln]
    exact r.take _
theorem RepVs.erase {W : Wd} {H : Hp} : ∀ {l : List Val} {xs : List V} (n : Nat), Rps I X.K W H l xs → Rps I X.K W H (l.eraseIdx n) (xs.eraseIdx n) := fun {l xs} n r => by
  rw [List.eraseIdx_eq_take_drop_succ, List.eraseIdx_eq_take_drop_succ]
  exact RepVs.append (r.take n) (r.drop (n + 1))
theorem pop_some {l : List Val} {xs : List V} {W : Wd} {H : Hp} {v : Val} {l' : List Val} {n : Int} (r : Rps I X.K W H l xs) (e : popL l (some n) = some (v, l')) :
    ∃ (m : Nat) (y : V), -(2 ^ 63) ≤ n ∧ n < 2 ^ 63 ∧ seqIndex? n xs.length = some m ∧ xs[m]? = some y ∧ Rp I X.K W H v y ∧ Rps I X.K W H l' (xs.eraseIdx m) := by
  have e : (if -(2 ^ 63) ≤ n ∧ n < 2 ^ 63 then (Pi.ixN l.length n).bind fun m => l[m]?.map fun v => (v, l.eraseIdx m) else none) = some (v, l') := e
  by_cases c : -(2 ^ 63) ≤ n ∧ n < 2 ^ 63
  · rw [if_pos c] at e
    cases q : Pi.ixN l.length n with
    | none => rw [q] at e; cases e
    | some m =>
      rw [q] at e
      have e : (l[m]?.map fun v => (v, l.eraseIdx m)) = some (v, l') := e
      cases q2 : l[m]? with
      | none => rw [q2] at e; cases e
      | some u =>
        rw [q2] at e
        cases e
        obtain ⟨y, hy, ry⟩ := r.get q2
        have q' : L2.ixN xs.length n = some m := by rw [← RepVs.length r]; exact q
        exact ⟨m, y, c.1, c.2, (ixN_seq q').1, hy, ry, RepVs.erase m r⟩
  · rw [if_neg c] at e
    cases e
theorem js_pop0 {i : Nat} {x : Str} {p apos cpos pos : Pos} (hi : i ∈ O) (hN : X.N[i]? = some x) (hv : Vis X.env.scope x) (hd : (x == ("__debug__" : Str)) = false) (hcd : (x == ("__classdict__" : Str)) = false)
    (hline : (apos.endLine == cpos.line) = true) : JS X I E W0 H0 fr OL O (some O) (fun ρ S => evS sg cf (.pop i []) ρ S) (.Expr (.Call (.Attribute (.Name x p) "pop" apos) [] [] cpos) pos) := by
  refine PS.imp (ps_expr (pe_bm0 PySem.F.plainAttrs_list PySem.F.slot_list_pop PySem.F.type_list_pop mt_pop (pe_var hN hv hd hcd) rfl hline) rfl) fun D σ H ⟨W, ρ, S, sr, q⟩ => ?_
  simp only [evS] at q
  cases e0 : lstE ρ i with
  | none => rw [e0] at q; exact q.elim
  | some l =>
    rw [e0] at q
    simp only [evO, Res.on_ok] at q
    obtain ⟨hp, a, xs, hs, hH, rx⟩ := own_at sr.sr hi e0
    cases e1 : popL l none with
    | none => rw [e1] at q; exact q.elim
    | some vl =>
      obtain ⟨v, l'⟩ := vl
      rw [e1] at q
      obtain ⟨y, h1, h2, rfl, h3⟩ := pop_none rx e1
      have m := sr.mut hi hp hs hH h3
      exact ⟨.ref a, hs, .inl ⟨rfl, xs, .of hH⟩, a, xs, y, rfl, rfl, hH, h1, q _ rfl W _ σ m.1 m.2⟩
theorem js_popTo0 {i j : Nat} {x y : Str} {p apos cpos pos py : Pos} (hij : i ≠ j) (hi : i ∈ O) (hN : X.N[i]? = some x) (hv : Vis X.env.scope x) (hd : (x == ("__debug__" : Str)) = false) (hcd : (x == ("__classdict__" : Str)) = false)
    (hnd : X.N.Nodup) (hj : X.N[j]? = some y) (hy : Loc X.env.scope y) (hf : X.fn y = true ∨ X.env.scope.names.lookup y = some .local)
    (hline : (apos.endLine == cpos.line) = true) : JS X I E W0 H0 fr OL O (some (less O [j])) (fun ρ S => evS sg cf (.popTo j i []) ρ S) (.Assign [.Name y py] (.Call (.Attribute (.Name x p) "pop" apos) [] [] cpos) pos) := by
  refine PS.imp (ps_set hnd hj hy (pe_bm0 PySem.F.plainAttrs_list PySem.F.slot_list_pop PySem.F.type_list_pop mt_pop (pe_var hN hv hd hcd) rfl hline) rfl hf) fun D σ H ⟨W, ρ, S, sr, q⟩ => ?_
  simp only [evS] at q
  cases e0 : lstE ρ i with
  | none => rw [e0] at q; exact q.elim
  | some l =>
    rw [e0] at q
    simp only [evO, Res.on_ok] at q
    obtain ⟨hp, a, xs, hs, hH, rx⟩ := own_at sr.sr hi e0
    cases e1 : popL l none with
    | none => rw [e1] at q; exact q.elim
    | some vl =>
      obtain ⟨v, l'⟩ := vl
      rw [e1] at q
      obtain ⟨y, h1, h2, rfl, h3⟩ := pop_none rx e1
      have m := sr.mut hi hp hs hH h3
      have r2 : Rp I X.K W (upd H a (.lst xs.dropLast)) v y := RepV.mono m.2.kp (fun _ z => z) (fun _ _ z => z) _ _ h2
      exact ⟨.ref a, hs, .inl ⟨rfl, xs, .of hH⟩, a, xs, y, rfl, rfl, hH, h1, q _ rfl W _ _ (m.1.set r2) m.2⟩
/-- what x.pop(k) reads -/
theorem popK_rd {i : Nat} {k : IE} {D : L2.St → Hp → VK} {W : Wd} {H : Hp} {ρ : Env} {σ : L2.St} {S : Store} {Q : VK} (f : Val → List Val → Store → Out) {DD : Ends} (hi : i ∈ O) (sr : Sr0 I X.K W0 H0 W H O ρ σ S)
    (q : AtS I X.K E W0 H0 fr OL W H O' DD (match lstE ρ i with
      | some l => (evO sg cf ρ [k] S).on ρ fun n S1 => (match popL l n with
        | some (v, l') => f v l' S1
        | none => .bad)
      | none => .bad))
    (go : ∀ v l' S1 W1 H1 a xs xs' y, Nxt I X.K W H W1 H1 S1 → σ[i]? = some (some (V.ref a)) → H1 a = some (.lst xs) → (∃ l, ρ[i]? = some (some (.lst l))) → Rp I X.K W1 H1 v y → Rps I X.K W1 H1 l' xs' → AtS I X.K E W0 H0 fr OL W1 H1 O' DD (f v l' S1) → Q y (upd H1 a (.lst xs'))) :
    tBM X.K "list" rPopAt (tVar i) (rd I X.K E O (kBs I X.K) (fun ρ S => evEs sg cf ρ [k] S)) σ H Q := by
  cases e0 : lstE ρ i with
  | none => rw [e0] at q; exact q.elim
  | some l =>
    rw [e0] at q
    obtain ⟨hp, a, xs, hs, hH, rx⟩ := own_at sr.sr hi e0
    refine ⟨.ref a, hs, .inl ⟨rfl, xs, .of hH⟩, W, ρ, S, sr.sr, ?_⟩
    have e1 : evEs sg cf ρ [k] S = (evE sg cf ρ k S).bind fun v S1 => .ok [v] S1 := evEs_one
    show At I X.K E (kBs I X.K) W H (evEs sg cf ρ [k] S) _
    rw [e1]
    simp only [evO] at q
    cases e2 : evE sg cf ρ k S with
    | bad => rw [e2] at q; exact q
    | exc y S1 =>
      rw [e2] at q
      exact fun W' H' cls d n x => q W' H' cls d (sr.n0 n) x
    | ok v S1 =>
      rw [e2] at q
      simp only [Res.bind_ok] at q ⊢
      cases v <;> try (exact q.elim)
      rename_i n
      simp only [Res.on_ok] at q
      intro W1 H1 vs n1 k1
      obtain ⟨y, rfl, ry⟩ := one_of k1
      cases ry
      cases e3 : popL l (some n) with
      | none => rw [e3] at q; exact q.elim
      | some vl =>
        obtain ⟨v, l'⟩ := vl
        rw [e3] at q
        obtain ⟨_, a', xs', hs', hH', rx'⟩ := own_at (sr.nxt n1).sr hi e0
        rw [hs] at hs'
        cases hs'
        obtain ⟨m, y, b1, b2, b3, b4, b5, b6⟩ := pop_some rx' e3
        exact ⟨a, xs', n, m, y, rfl, rfl, hH', b1, b2, b3, b4, go v l' S1 W1 H1 a xs' _ y n1 hs hH' ⟨l, hp⟩ b5 b6 (q.shift (n1.nr sr.sr.w))⟩
theorem js_popK {i : Nat} {x : Str} {k : IE} {ek : Expr} {p apos cpos pos : Pos} (hi : i ∈ O) (hN : X.N[i]? = some x) (hv : Vis X.env.scope x) (hd : (x == ("__debug__" : Str)) = false) (hcd : (x == ("__classdict__" : Str)) = false)
    (hline : (apos.endLine == cpos.line) = true) (h : JE X I E O (kB I X.K) (fun ρ S => evE sg cf ρ k S) ek) (hst : starEach [ek] X.env = [(false, eval ek X.env)])
    (hfew : ((backTo cpos (starEach [ek] X.env)).all (fun x => !x.1) && (backToKw cpos (keywordEach [] X.env)).all (fun x => x.1.isSome) && decide ([ek].length + ([] : List Keyword).length + (if ([] : List Keyword).isEmpty then 0 else 1) < 30)) = true) :
    JS X I E W0 H0 fr OL O (some O) (fun ρ S => evS sg cf (.pop i [k]) ρ S) (.Expr (.Call (.Attribute (.Name x p) "pop" apos) [ek] [] cpos) pos) := by
  refine PS.imp (ps_expr (pe_bm PySem.F.plainAttrs_list PySem.F.slot_list_pop PySem.F.type_list_pop mt_popAt (pe_var hN hv hd hcd) (ja_consB h ja_nilB hst) rfl hfew hline hst rfl) rfl) fun D σ H ⟨W, ρ, S, sr, q⟩ => ?_
  simp only [evS] at q
  refine popK_rd (fun _ l' S1 => .nx (setE ρ i (.lst l')) S1) (D := fun _ _ => D.rt) hi sr q fun v l' S1 W1 H1 a xs xs' y n1 hs hH ⟨l, hp⟩ r1 r2 q1 => ?_
  have m := (sr.nxt n1).mut hi hp hs hH r2
  exact q1 _ rfl W1 _ σ m.1 m.2
theorem js_popToK {i j : Nat} {x y : Str} {k : IE} {ek : Expr} {p apos cpos pos py : Pos} (hi : i ∈ O) (hN : X.N[i]? = some x) (hv : Vis X.env.scope x) (hd : (x == ("__debug__" : Str)) = false) (hcd : (x == ("__classdict__" : Str)) = false)
    (hnd : X.N.Nodup) (hj : X.N[j]? = some y) (hy : Loc X.env.scope y) (hf : X.fn y = true ∨ X.env.scope.names.lookup y = some .local)
    (hline : (apos.endLine == cpos.line) = true) (h : JE X I E O (kB I X.K) (fun ρ S => evE sg cf ρ k S) ek) (hst : starEach [ek] X.env = [(false, eval ek X.env)])
    (hfew : ((backTo cpos (starEach [ek] X.env)).all (fun x => !x.1) && (backToKw cpos (keywordEach [] X.env)).all (fun x => x.1.isSome) && decide ([ek].length + ([] : List Keyword).length + (if ([] : List Keyword).isEmpty then 0 else 1) < 30)) = true) :
    JS X I E W0 H0 fr OL O (some (less O [j])) (fun ρ S => evS sg cf (.popTo j i [k]) ρ S) (.Assign [.Name y py] (.Call (.Attribute (.Name x p) "pop" apos) [ek] [] cpos) pos) := by
  refine PS.imp (ps_set hnd hj hy (pe_bm PySem.F.plainAttrs_list PySem.F.slot_list_pop PySem.F.type_list_pop mt_popAt (pe_var hN hv hd hcd) (ja_consB h ja_nilB hst) rfl hfew hline hst rfl) rfl hf) fun D σ H ⟨W, ρ, S, sr, q⟩ => ?_
  simp only [evS] at q
  refine popK_rd (fun v l' S1 => .nx (setE (setE ρ i (.lst l')) j v) S1) (D := fun _ _ => D.rt) hi sr q fun v l' S1 W1 H1 a xs xs' y n1 hs hH ⟨l, hp⟩ r1 r2 q1 => ?_
  have m := (sr.nxt n1).mut hi hp hs hH r2
  exact q1 _ rfl W1 _ _ (m.1.set (RepV.mono m.2.kp (fun _ z => z) (fun _ _ z => z) _ _ r1)) m.2
/-- if -/
theorem js_ite {c : IE} {a b : List IS} {ec : Expr} {ea eb : List Stmt} {pos : Pos} (hc : JT X I E O (fun ρ S => evT sg cf ρ c S) ec) (ha : JSs X I E W0 H0 fr OL O O' (fun ρ S => evSs sg cf a ρ S) ea) (hb : JSs X I E W0 H0 fr OL O O' (fun ρ S => evSs sg cf b ρ S) eb) :
    JS X I E W0 H0 fr OL O O' (fun ρ S => evS sg cf (.ite c a b) ρ S) (.If ec ea eb pos) := by
  refine PS.imp (ps_if hc ha hb) fun D σ H ⟨W, ρ, S, sr, q⟩ => ⟨W, ρ, S, sr.sr, ?_⟩
  simp only [evS] at q
  refine q.seq sr fun k S1 W1 H1 k' e1 n1 k1 q1 => ?_
  have k1 : k = k' := k1
  subst k1
  cases k with
  | true =>
    rw [if_pos rfl] at q1 ⊢
    exact ⟨W1, ρ, S1, sr.nxt n1, q1⟩
  | false =>
    rw [if_neg Bool.false_ne_true] at q1 ⊢
    exact ⟨W1, ρ, S1, sr.nxt n1, q1⟩
/-- for -/
theorem js_for {k : Nat} {its : List IE} {p : Pat} {b : List IS} {tg iter : Expr} {body : List Stmt} {pos : Pos} {O1 : List Nat} (hp : PassesOwn (model X.prog X.w) X.A X.env X.xe) (hc : X.calm = true) (hs : ∀ x, foldedSetIterable iter X.env x = pure x)
    (s1 : ∀ i ∈ O1, i ∈ O) (hi : JI X I E O (evIt sg cf k its) tg iter) (hg : PG X tg (gP I X.K O1 p)) (hb : JSs X I E W0 H0 fr O1 (less O1 p.vars) (some O1) (fun ρ S => evSs sg cf b ρ S) body) :
    JS X I E W0 H0 fr OL O (some O1) (fun ρ S => evS sg cf (.forr k its p b) ρ S) (.For tg iter body [] pos) := by
  refine PS.imp (ps_for hp hc hi hg hb hs) fun D σ H ⟨W, ρ, S, sr, q⟩ => ⟨W, ρ, S, sr.sr, ?_⟩
  simp only [evS] at q
  have q : AtS I X.K E W0 H0 fr OL W H (some O1) D ((evIt sg cf k its ρ S).on ρ fun xs S1 => forGo (fun v ρ S => (match bindP p v ρ with
      | some ρ' => evSs sg cf b ρ' S
      | none => .bad)) xs ρ S1) := q
  refine q.seq sr fun xs S1 W1 H1 J e1 n1 wk q1 => ?_
  have w1 := n1.w
  generalize hf : (fun v ρ S => (match bindP p v ρ with
      | some ρ' => evSs sg cf b ρ' S
      | none => .bad)) = f at q1
  obtain ⟨W2, sr2, n2⟩ := (sr.nxt n1).weak s1
  refine ⟨fun i m σ H => ∃ Wc ρc Sc, m = xs.length - i ∧ i ≤ xs.length ∧ Sr0 I X.K W0 H0 Wc H O1 ρc σ Sc ∧ NxtR I X.K W1 H1 Wc H Sc ∧ AtS I X.K E W0 H0 fr OL Wc H (some O1) D (forGo f (xs.drop i) ρc Sc),
    ⟨xs.length, W2, ρ, S1, rfl, Nat.zero_le _, sr2, n2, by rw [List.drop_zero]; exact q1.shift n2⟩, ?_⟩
  rintro i m σc Hc ⟨Wc, ρc, Sc, rfl, hi, src, nc, qc⟩
  by_cases hlt : i < xs.length
  · refine .inr ?_
    obtain ⟨go, yld⟩ := (wk i Wc Hc Sc nc).1 xs[i] (by simp [hlt])
    have ed : xs.drop i = xs[i] :: xs.drop (i + 1) := List.drop_eq_getElem_cons hlt
    rw [ed] at qc
    unfold forGo at qc
    refine ⟨go, _, fun σ' H' hN => ⟨xs.length - (i + 1), by omega, hN⟩, fun x H3 hy => ?_⟩
    obtain ⟨W3, n3, r3⟩ := yld x H3 hy
    have sr3 := src.nxt n3
    cases e5 : bindP p xs[i] ρc with
    | none =>
      rw [← hf] at qc
      simp only [e5] at qc
      exact qc.elim
    | some ρ' =>
      have ef : f xs[i] ρc Sc = evSs sg cf b ρ' Sc := by
        rw [← hf]
        simp only [e5]
      rw [ef] at qc
      refine ⟨W3, ρc, Sc, xs[i], ρ', sr3.sr, r3, e5, fun W4 H4 σ4 n4 sr4 a4 => ?_⟩
      have n34 := n3.trans n4
      have sr5 := sr3.bound n4 e5 sr4 a4
      refine ⟨W4, ρ', Sc, sr5, ?_⟩
      have nr4 : NxtR I X.K W1 H1 W4 H4 Sc := nc.trans (n34.nr src.sr.w)
      show AtS I X.K E W0 H0 fr O1 W4 H4 (some O1) _ (evSs sg cf b ρ' Sc)
      cases e6 : evSs sg cf b ρ' Sc with
      | nx ρ2 S2 =>
        rw [e6] at qc
        intro O2 e2 W5 H5 σ5 s5 n5
        cases e2
        exact ⟨W5, ρ2, S2, rfl, hlt, s5, nr4.trans n5, qc.shift ((n34.nr src.sr.w).trans n5)⟩
      | ct ρ2 S2 =>
        rw [e6] at qc
        intro W5 H5 σ5 s5 n5
        exact ⟨W5, ρ2, S2, rfl, hlt, s5, nr4.trans n5, qc.shift ((n34.nr src.sr.w).trans n5)⟩
      | bk ρ2 S2 =>
        rw [e6] at qc
        intro W5 H5 σ5 s5 n5
        exact qc O1 rfl W5 H5 σ5 s5 ((n34.nr src.sr.w).trans n5)
      | rt v S2 => rw [e6] at qc; exact qc
      | ex y ρ2 S2 => rw [e6] at qc; exact qc
      | bad => rw [e6] at qc; exact qc
  · refine .inl ?_
    have ei : i = xs.length := by omega
    subst ei
    rw [List.drop_length] at qc
    simp only [forGo] at qc
    exact ⟨(wk _ Wc Hc Sc nc).2 (Nat.le_refl _), qc.nx src⟩
/-- while -/
theorem js_while {c : IE} {b : List IS} {ec : Expr} {body : List Stmt} {pos : Pos} {O1 : List Nat} (hp : PassesOwn (model X.prog X.w) X.A X.env X.xe) (s1 : ∀ i ∈ O1, i ∈ O)
    (hc : JT X I E O1 (fun ρ S => evT sg cf ρ c S) ec) (hb : JSs X I E W0 H0 fr O1 O1 (some O1) (fun ρ S => evSs sg cf b ρ S) body) :
    JS X I E W0 H0 fr OL O (some O1) (fun ρ S => evS sg cf (.whil c b) ρ S) (.While ec body [] pos) := by
  refine PS.imp (ps_while hp hc hb) fun D σ H ⟨W, ρ, S, sr, q⟩ => ?_
  simp only [evS] at q
  obtain ⟨W2, sr2, n2⟩ := sr.weak s1
  have nb : whileM (fun ρ S => evT sg cf ρ c S) (fun ρ S => evSs sg cf b ρ S) ρ S ≠ .bad := fun z => by
    rw [z] at q
    exact q
  obtain ⟨n, hn⟩ := whileM_it nb
  generalize whileM (fun ρ S => evT sg cf ρ c S) (fun ρ S => evSs sg cf b ρ S) ρ S = o at q hn
  refine ⟨fun m σ H => ∃ Wc ρc Sc, whileIt (fun ρ S => evT sg cf ρ c S) (fun ρ S => evSs sg cf b ρ S) m ρc Sc = some o ∧ Sr0 I X.K W0 H0 Wc H O1 ρc σ Sc ∧ AtS I X.K E W0 H0 fr OL Wc H (some O1) D o,
    ⟨n, W2, ρ, S, hn, sr2, q.shift n2⟩, ?_⟩
  rintro m σc Hc ⟨Wc, ρc, Sc, ec, src, qc⟩
  cases m with
  | zero => simp [whileIt] at ec
  | succ m =>
    unfold whileIt at ec
    refine ⟨Wc, ρc, Sc, src.sr, ?_⟩
    show At I X.K E kT Wc Hc (evT sg cf ρc c Sc) _
    cases e1 : evT sg cf ρc c Sc with
    | bad =>
      simp only [e1] at ec
      cases ec
      exact qc
    | exc y S1 =>
      simp only [e1] at ec
      cases ec
      exact fun W' H' cls d n x => qc W' H' cls d (src.n0 n) x
    | ok k S1 =>
      simp only [e1] at ec
      intro W1 H1 k' n1 k1
      have k1 : k = k' := k1
      subst k1
      cases k with
      | false =>
        rw [if_neg Bool.false_ne_true]
        simp only at ec
        cases ec
        exact qc O1 rfl W1 H1 σc (src.nxt n1) (n1.nr src.sr.w)
      | true =>
        rw [if_pos rfl]
        simp only at ec
        refine ⟨_, fun σ' H' hN => ⟨m, Nat.lt_succ_self _, hN⟩, W1, ρc, S1, src.nxt n1, ?_⟩
        show AtS I X.K E W0 H0 fr O1 W1 H1 (some O1) _ (evSs sg cf b ρc S1)
        have qs := qc.shift (n1.nr src.sr.w)
        cases e6 : evSs sg cf b ρc S1 with
        | nx ρ2 S2 =>
          simp only [e6] at ec
          intro O2 e2 W5 H5 σ5 s5 n5
          cases e2
          exact ⟨W5, ρ2, S2, ec, s5, qs.shift n5⟩
        | ct ρ2 S2 =>
          simp only [e6] at ec
          intro W5 H5 σ5 s5 n5
          exact ⟨W5, ρ2, S2, ec, s5, qs.shift n5⟩
        | bk ρ2 S2 =>
          simp only [e6] at ec
          cases ec
          intro W5 H5 σ5 s5 n5
          exact qs O1 rfl W5 H5 σ5 s5 n5
        | rt v S2 =>
          simp only [e6] at ec
          cases ec
          exact qs
        | ex y ρ2 S2 =>
          simp only [e6] at ec
          cases ec
          exact qs
        | bad =>
          simp only [e6] at ec
          cases ec
          exact qs
end
end Pi

end
section
set_option linter.all false
set_option maxRecDepth 100000
/-! PiK: stores into lists, names in parallel, calls, isinstance, tables. -/
namespace Pi
open PySem PySem.Spec PyProof.Rows L2

section
variable {X : Cx} {I : XI} {E : XK} {W0 : Wd} {H0 : Hp} {fr : Bool} {OL : List Nat} {O : List Nat} {O' : Option (List Nat)} {sg : Sig} {cf : String → List Val → Store → Res Val}
theorem set_rep {W : Wd} {H : Hp} {l : List Val} {xs : List V} {j : Int} {n : Nat} {v : Val} {y : V} (r : Rps I X.K W H l xs) (ry : Rp I X.K W H v y) (e : Pi.ixN l.length j = some n) : L2.ixN xs.length j = some n ∧ Rps I X.K W H (l.set n v) (xs.set n y) :=
  ⟨by rw [← RepVs.length r]; exact e, RepVs.set ry n r⟩
theorem sub_side {o i : Expr} {pos : Pos} (hi : ∀ l u p, i ≠ .Slice l u none p) (env : PySem.Env) (v : Value) : PySem.assign (.Subscript o i pos) env v = (do
      let ov ← holding [v] (eval o env)
      let iv ← holding [v, ov] (eval i env)
      standAt pos
      holding [v, ov, iv] (setItem ov iv v)
      release [v, ov, iv] []) := by
  cases i <;> first | rfl | skip
  rename_i l u st p
  cases st with
  | none => exact absurd rfl (hi l u p)
  | some s => rfl
theorem swaps_sub {o i ee : Expr} {p : Pos} {n : Nat} {env : PySem.Env} : swapsWithSole [.Subscript o i p] ee n env = pure false := by
  cases ee <;> rfl
/-- x[k] = e, x one's own list -/
theorem js_setL {i : Nat} {x : Str} {k e : IE} {ek ee : Expr} {p sp pos : Pos} (hi : i ∈ O) (hN : X.N[i]? = some x) (hv : Vis X.env.scope x) (hd : (x == ("__debug__" : Str)) = false) (hcd : (x == ("__classdict__" : Str)) = false)
    (hsl : ∀ l u p, ek ≠ .Slice l u none p) (he : JE X I E O (kS I X.K) (fun ρ S => evE sg cf ρ e S) ee) (hk : JE X I E O (kB I X.K) (fun ρ S => evE sg cf ρ k S) ek) :
    JS X I E W0 H0 fr OL O (some O) (fun ρ S => evS sg cf (.setL i k e) ρ S) (.Assign [.Subscript (.Name x p) ek sp] ee pos) := by
  refine PS.imp (ps_asg he (pg_sub (pe_var hN hv hd hcd) hk set_list (fun v => sub_side hsl X.env v)) swaps_sub rfl rfl) fun D σ H ⟨W, ρ, S, sr, q⟩ => ?_
  simp only [evS] at q
  cases e0 : lstE ρ i with
  | none => rw [e0] at q; exact q.elim
  | some l =>
    rw [e0] at q
    refine ⟨W, ρ, S, sr.sr, q.seq sr fun v S1 W1 H1 y e1 n1 k1 q1 => ?_⟩
    have sr1 := sr.nxt n1
    obtain ⟨hp, a, xs, hs, hH, rx⟩ := own_at sr1.sr hi e0
    refine ⟨.ref a, hs, W1, ρ, S1, sr1.sr, q1.seq sr1 fun j S2 W2 H2 z e2 n2 k2 q2 => ?_⟩
    cases j <;> try (exact q2.elim)
    rename_i j
    cases k2
    cases e3 : Pi.ixN l.length j with
    | none => simp only [e3] at q2; exact q2.elim
    | some n =>
      simp only [e3] at q2
      have sr2 := sr1.nxt n2
      obtain ⟨_, a', xs', hs', hH', rx'⟩ := own_at sr2.sr hi e0
      rw [hs] at hs'
      cases hs'
      obtain ⟨g1, g2⟩ := set_rep rx' (Rp.up n2.le n2.kp n1.w k1) e3
      have m := sr2.mut hi hp hs hH' g2
      exact ⟨a, xs', j, n, rfl, rfl, hH', g1, q2 _ rfl W2 _ σ m.1 m.2⟩
/-- b[k] = e, b of the store -/
theorem js_setB {b k e : IE} {eb ek ee : Expr} {sp pos : Pos} (hsl : ∀ l u p, ek ≠ .Slice l u none p) (he : JE X I E O (kS I X.K) (fun ρ S => evE sg cf ρ e S) ee)
    (hb : JE X I E O (kS I X.K) (fun ρ S => evE sg cf ρ b S) eb) (hk : JE X I E O (kB I X.K) (fun ρ S => evE sg cf ρ k S) ek) :
    JS X I E W0 H0 fr OL O (some O) (fun ρ S => evS sg cf (.setB b k e) ρ S) (.Assign [.Subscript eb ek sp] ee pos) := by
  refine PS.imp (ps_asg he (pg_sub hb hk set_list (fun v => sub_side hsl X.env v)) swaps_sub rfl rfl) fun D σ H ⟨W, ρ, S, sr, q⟩ => ?_
  simp only [evS] at q
  refine ⟨W, ρ, S, sr.sr, q.seq sr fun v S1 W1 H1 y e1 n1 k1 q1 => ?_⟩
  have sr1 := sr.nxt n1
  refine ⟨W1, ρ, S1, sr1.sr, q1.seq sr1 fun x S2 W2 H2 z e2 n2 k2 q2 => ?_⟩
  have sr2 := sr1.nxt n2
  refine ⟨W2, ρ, S2, sr2.sr, q2.seq sr2 fun j S3 W3 H3 z3 e3 n3 k3 q3 => ?_⟩
  have sr3 := sr2.nxt n3
  cases x <;> try (exact q3.elim)
  cases j <;> try (exact q3.elim)
  rename_i n j
  cases k3
  have k2 := Rp.up n3.le n3.kp n2.w k2
  have k1 := Rp.up n3.le n3.kp n2.w (Rp.up n2.le n2.kp n1.w k1)
  obtain ⟨a, rfl, ha⟩ := k2
  cases e4 : S3[n]? with
  | none => simp only [e4] at q3; exact q3.elim
  | some ob =>
    cases ob with
    | ro l => simp only [e4] at q3; exact q3.elim
    | ins c fs => simp only [e4] at q3; exact q3.elim
    | lst l =>
      simp only [e4] at q3
      cases e5 : Pi.ixN l.length j with
      | none => simp only [e5] at q3; exact q3.elim
      | some m =>
        simp only [e5] at q3
        obtain ⟨a', ha', xs, hH, rx⟩ := n3.s.ob n _ e4
        rw [ha] at ha'
        cases ha'
        obtain ⟨g1, g2⟩ := set_rep rx k1 e5
        refine ⟨a, xs, j, m, rfl, rfl, hH, g1, ?_⟩
        have aμ : a ∈ W3.μ := List.mem_of_getElem? ha
        have nP := (n3.w.mp a aμ).1
        have kp : Kp W3.P H3 (upd H3 a (.lst (xs.set m y))) := Kp.set hH nP
        have kpR := kp.mono n3.w.rp
        have w' := wok_own (ys := xs.set m y) n3.w hH
        have s' : StRep I X.K W3 (upd H3 a (.lst (xs.set m y))) (S3.set n (.lst (l.set m v))) := by
          refine ⟨by rw [List.length_set]; exact n3.s.len, fun t o e => ?_⟩
          have up : ∀ {p : List Val} {v : List V}, Rps I X.K W3 H3 p v → Rps I X.K W3 (upd H3 a (.lst (xs.set m y))) p v := fun {p v} z => RepVs.mono kpR (fun _ z => z) (fun _ _ z => z) p v z
          by_cases ht : n = t
          · subst ht
            rw [List.getElem?_set_self (List.getElem?_eq_some_iff.mp e4).1] at e
            cases e
            exact ⟨a, ha, _, upd_same, up g2⟩
          · rw [List.getElem?_set_ne ht] at e
            obtain ⟨b, h1, h2⟩ := n3.s.ob t o e
            have hb : b ≠ a := fun z => by
              subst z
              obtain ⟨i1, g1⟩ := List.getElem?_eq_some_iff.mp h1
              obtain ⟨i2, g2⟩ := List.getElem?_eq_some_iff.mp ha
              exact ht ((List.getElem_inj n3.w.nd).mp (g2.trans g1.symm))
            have eb : upd H3 a (.lst (xs.set m y)) b = H3 b := upd_ne hb
            refine ⟨b, h1, ?_⟩
            cases o with
            | lst l2 =>
              obtain ⟨zs, h3, h4⟩ := h2
              exact ⟨zs, eb.trans h3, up h4⟩
            | ro l2 =>
              obtain ⟨zs, h3, h4⟩ := h2
              refine ⟨zs, ?_, up h4⟩
              rcases h3 with (h3 | ⟨o, h3⟩) | h3
              · exact .inl (.inl (eb.trans h3))
              · exact .inl (.inr ⟨o, eb.trans h3⟩)
              · exact .inr h3
            | ins c fs => exact h2.elim
        have nn : Nxt I X.K W3 H3 W3 (upd H3 a (.lst (xs.set m y))) (S3.set n (.lst (l.set m v))) := ⟨.refl, kp, w', s'⟩
        exact q3 _ rfl W3 _ σ (sr3.nxt nn) (nn.nr n3.w)

theorem At.weakQ {α β : Type} {K : PySem.W.Frag} {kd : Kd α β} {W : Wd} {H : Hp} {r : Res α} {Q Q' : β → Hp → Prop} (h : At I K E kd W H r Q) (f : ∀ x H1, Q x H1 → Q' x H1) : At I K E kd W H r Q' := by
  cases r with
  | ok v S' => exact fun W' H' x n k => f _ _ (h W' H' x n k)
  | exc y S' => exact h
  | bad => exact h
/-! ### names in parallel -/
/-- what comes for each: what is fresh, or what is shared -/
def MRep (I : XI) (K : PySem.W.Frag) (W W' : Wd) (H' : Hp) : List Bool → List Val → List V → Prop
  | [], vs, xs => vs = [] ∧ xs = []
  | m :: ms, vs, xs => ∃ v vs' x xs', vs = v :: vs' ∧ xs = x :: xs' ∧ (if m then KF I K W' H' W v x ∧ ∀ (a : Addr) (l l' : List Val) (j : Nat), v = .lst l → x = .ref a → ms[j]? = some true → vs'[j]? = some (.lst l') → xs'[j]? ≠ some (.ref a) else Rp I K W' H' v x) ∧ MRep I K W W' H' ms vs' xs'
def kM (I : XI) (K : PySem.W.Frag) (ms : List Bool) : Kd (List Val) (List V) := fun W W' H' vs xs => MRep I K W W' H' ms vs xs
theorem MRep.anti {K : PySem.W.Frag} {W W1 W' : Wd} {H' : Hp} (le : W.le W1) : ∀ {ms : List Bool} {vs : List Val} {xs : List V}, MRep I K W1 W' H' ms vs xs → MRep I K W W' H' ms vs xs
  | [], _, _, h => h
  | m :: ms, _, _, h => by
    obtain ⟨v, vs, x, xs, rfl, rfl, h1, h2⟩ := h
    refine ⟨v, vs, x, xs, rfl, rfl, ?_, h2.anti le⟩
    cases m with
    | true => exact ⟨kF_anti I K W W1 W' H' v x le h1.1, h1.2⟩
    | false => exact h1
theorem kM_anti {K : PySem.W.Frag} {ms : List Bool} : Anti (kM I K ms) := fun _ _ _ _ _ _ le h => MRep.anti le h
theorem MRep.fresh {K : PySem.W.Frag} {W W' : Wd} {H' : Hp} : ∀ {ms : List Bool} {vs : List Val} {xs : List V} {j : Nat} {a : Addr} {l : List Val}, MRep I K W W' H' ms vs xs → ms[j]? = some true → vs[j]? = some (.lst l) → xs[j]? = some (.ref a) → ¬ W.P a
  | [], _, _, _, _, _, _, e, _, _ => by simp at e
  | m :: ms, _, _, 0, a, l, h, e, e1, e2 => by
    obtain ⟨v, vs, x, xs, rfl, rfl, h1, h2⟩ := h
    have e : m = true := by simpa using e
    subst e
    have e1 : v = .lst l := by simpa using e1
    subst e1
    obtain ⟨b, e3, _, n⟩ := h1.1
    have e2 : x = .ref a := by simpa using e2
    rw [e3] at e2
    cases e2
    exact n
  | m :: ms, _, _, j + 1, a, l, h, e, e1, e2 => by
    obtain ⟨v, vs, x, xs, rfl, rfl, h1, h2⟩ := h
    exact h2.fresh (j := j) (by simpa using e) (by simpa using e1) (by simpa using e2)
theorem ja_nilM : JA X I E O (kM I X.K []) (fun ρ S => evEs sg cf ρ [] S) [] :=
  PA.imp pa_nil fun σ H Q ⟨W, ρ, S, sr, q⟩ => by
    simp only [evEs] at q
    exact q.here sr.w sr.s ⟨rfl, rfl⟩
theorem ja_consM {m : Bool} {ms : List Bool} {a : IE} {r : List IE} {ea : Expr} {er : List Expr} (ha : JE X I E O (if m then kF I X.K else kS I X.K) (fun ρ S => evE sg cf ρ a S) ea) (hr : JA X I E O (kM I X.K ms) (fun ρ S => evEs sg cf ρ r S) er)
    (hs : starEach (ea :: er) X.env = (false, eval ea X.env) :: starEach er X.env) : JA X I E O (kM I X.K (m :: ms)) (fun ρ S => evEs sg cf ρ (a :: r) S) (ea :: er) := by
  refine PA.imp (pa_cons ha hr hs) fun σ H Q ⟨W, ρ, S, sr, q⟩ => ⟨W, ρ, S, sr, ?_⟩
  simp only [evEs] at q
  show At I X.K E (if m then kF I X.K else kS I X.K) W H (evE sg cf ρ a S) _
  cases e1 : evE sg cf ρ a S with
  | bad => rw [e1] at q; exact q
  | exc y S1 => rw [e1] at q; exact q
  | ok x S1 =>
    rw [e1] at q
    simp only [Res.bind_ok] at q
    have go : ∀ W1 H1 xv, Nxt I X.K W H W1 H1 S1 → (if m then KF I X.K W1 H1 W x xv else Rp I X.K W1 H1 x xv) → rd I X.K E O (kM I X.K ms) (fun ρ S => evEs sg cf ρ r S) σ H1 (fun xs H2 => Q (xv :: xs) H2) := fun W1 H1 xv n1 k1 => by
      refine ⟨W1, ρ, S1, sr.nxt n1, ?_⟩
      show At I X.K E (kM I X.K ms) W1 H1 (evEs sg cf ρ r S1) _
      cases e2 : evEs sg cf ρ r S1 with
      | bad => rw [e2] at q; exact q
      | exc y S2 =>
        rw [e2] at q
        exact fun W' H' cls d n k => q W' H' cls d (n1.trans n) k
      | ok ys S2 =>
        rw [e2] at q
        simp only [Res.bind_ok] at q
        intro W2 H2 yv n2 k2
        refine q W2 H2 (xv :: yv) (n1.trans n2) ⟨x, ys, xv, yv, rfl, rfl, ?_, k2.anti n1.le⟩
        cases m with
        | false => exact Rp.up n2.le n2.kp n1.w k1
        | true =>
          have k1 : KF I X.K W1 H1 W x xv := k1
          constructor
          · cases x with
            | lst l =>
              obtain ⟨b, e, o, n⟩ := k1
              exact ⟨b, e, o.up n2.le n2.kp n1.w, n⟩
            | _ => exact Rp.up n2.le n2.kp n1.w k1
          · intro b l l' j ev ex ej ey z
            subst ev
            obtain ⟨b', e, o, n⟩ := k1
            rw [ex] at e
            cases e
            exact k2.fresh ej ey z o.1
    cases m with
    | true => exact fun W1 H1 xv n1 k1 => go W1 H1 xv n1 k1
    | false => exact fun W1 H1 xv n1 k1 => go W1 H1 xv n1 k1
/-- the names are set, one by one -/
def setsP : List (Nat × Bool) → List V → L2.St → L2.St
  | (i, _) :: is, x :: xs, σ => setsP is xs (σ.set i (some x))
  | _, _, σ => σ
def parO (O : List Nat) : List (Nat × Bool) → List Nat
  | [] => O
  | (i, false) :: is => parO (less O [i]) is
  | (i, true) :: is => parO (i :: less O [i]) is
theorem par_set {W W' : Wd} {H' : Hp} {S' : Store} : ∀ {is : List (Nat × Bool)} {O : List Nat} {vs : List Val} {xs : List V} {ρ ρ' : Env} {σ : L2.St}, W0.le W → Sr0 I X.K W0 H0 W' H' O ρ σ S' → MRep I X.K W W' H' (is.map (·.2)) vs xs → parE is vs ρ = some ρ' →
    (∀ (j : Nat) (a : Addr) (k : Nat) (l : List Val), (is.map (·.2))[j]? = some true → vs[j]? = some (.lst l) → xs[j]? = some (.ref a) → k ∈ O → σ[k]? = some (some (V.ref a)) → (∃ p, ρ[k]? = some (some p)) → False) → Sr0 I X.K W0 H0 W' H' (parO O is) ρ' (setsP is xs σ) S'
  | [], O, vs, xs, ρ, ρ', σ, _, sr, m, e, _ => by
    obtain ⟨rfl, rfl⟩ := m
    cases e
    exact sr
  | (i, false) :: is, O, vs, xs, ρ, ρ', σ, le, sr, m, e, d => by
    obtain ⟨v, vs', x, xs', rfl, rfl, h1, h2⟩ := m
    refine par_set (is := is) le (sr.set h1) h2 (by cases v <;> exact e) fun j a k l ej ev ex hk hs hp => ?_
    obtain ⟨g1, g2⟩ := mem_less.mp hk
    have ik : i ≠ k := fun z => g2 (by simp [z])
    rw [List.getElem?_set_ne ik] at hs
    rw [setE_ne ik] at hp
    exact d (j + 1) a k l (by simpa using ej) (by simpa using ev) (by simpa using ex) g1 hs hp
  | (i, true) :: is, O, vs, xs, ρ, ρ', σ, le, sr, m, e, d => by
    obtain ⟨v, vs', x, xs', rfl, rfl, h1, h2⟩ := m
    cases v <;> try (cases e; done)
    rename_i l
    obtain ⟨⟨a, rfl, o, n⟩, dd⟩ := h1
    have nx := fun z => n (le.p a z)
    refine par_set (is := is) le (sr.setOwn o nx fun j hj _ hs hp => d 0 a j l rfl rfl rfl hj hs hp) h2 e fun j b k l' ej ev ex hk hs hp => ?_
    by_cases ik : i = k
    · subst ik
      have hl : i < σ.length := by
        have := (List.getElem?_eq_some_iff.mp hs).1
        rw [List.length_set] at this
        exact this
      rw [List.getElem?_set_self hl] at hs
      cases hs
      exact dd a l l' j rfl rfl ej ev ex
    · rw [List.getElem?_set_ne ik] at hs
      rw [setE_ne ik] at hp
      rcases List.mem_cons.mp hk with hk | hk
      · exact ik hk.symm
      · exact d (j + 1) b k l' (by simpa using ej) (by simpa using ev) (by simpa using ex) (mem_less.mp hk).1 hs hp
theorem par_rd {is : List (Nat × Bool)} {es : List IE} {D : Ends} {σ : L2.St} {H : Hp} (h : rdS I X.K E W0 H0 fr OL O (some (parO O is)) (fun ρ S => evS sg cf (.par is es) ρ S) D σ H) :
    rd I X.K E O (kM I X.K (is.map (·.2))) (fun ρ S => evEs sg cf ρ es S) σ H (fun xs H1 => xs.length = is.length ∧ D.nx (setsP is xs σ) H1) := by
  obtain ⟨W, ρ, S, sr, q⟩ := h
  simp only [evS] at q
  refine ⟨W, ρ, S, sr.sr, ?_⟩
  show At I X.K E (kM I X.K (is.map (·.2))) W H (evEs sg cf ρ es S) _
  cases e1 : evEs sg cf ρ es S with
  | bad => rw [e1] at q; exact q
  | exc y S1 =>
    rw [e1] at q
    exact fun W' H' cls d n k => q W' H' cls d (sr.n0 n) k
  | ok vs S1 =>
    rw [e1] at q
    simp only [Res.on_ok] at q
    intro W1 H1 xs n1 k1
    cases e2 : parE is vs ρ with
    | none => rw [e2] at q; exact q.elim
    | some ρ' =>
      rw [e2] at q
      have sr1 := sr.nxt n1
      have ln : ∀ {ms : List Bool} {vs : List Val} {xs : List V}, MRep I X.K W W1 H1 ms vs xs → xs.length = ms.length := by
        intro ms
        induction ms with
        | nil =>
          rintro vs xs ⟨_, rfl⟩
          rfl
        | cons m ms ih =>
          rintro vs xs ⟨v, vs', x, xs', rfl, rfl, _, h2⟩
          rw [List.length_cons, List.length_cons, ih h2]
      refine ⟨by rw [ln k1, List.length_map], q _ rfl W1 H1 _ (par_set sr.le sr1 k1 e2 fun j a k l ej ev ex hk hs hp => ?_) (n1.nr sr.sr.w)⟩
      have f := MRep.fresh k1 ej ev ex
      obtain ⟨p, hp⟩ := hp
      obtain ⟨l2, b, _, h4, h5⟩ := sr.sr.e.ow k p hp hk
      rw [hs] at h4
      cases h4
      exact f h5.1
theorem js_par2 {i j : Nat} {mi mj : Bool} {x y : Str} {a b : IE} {ea eb : Expr} {px py pt pos pt2 : Pos} {kt k2 : Nat} (hc : X.calm = true) (hN : X.N.Nodup) (hi : X.N[i]? = some x) (hj : X.N[j]? = some y) (hij : i ≠ j)
    (hx : X.env.scope.names.lookup x = some .local) (hy : X.env.scope.names.lookup y = some .local) (h : JA X I E O (kM I X.K [mi, mj]) (fun ρ S => evEs sg cf ρ [a, b] S) [ea, eb])
    (hw : swappedStores [.Tuple [.Name x px, .Name y py] kt pt] (.Tuple [ea, eb] k2 pt2) X.env = pure (some [x, y])) :
    JS X I E W0 H0 fr OL O (some (parO O [(i, mi), (j, mj)])) (fun ρ S => evS sg cf (.par [(i, mi), (j, mj)] [a, b]) ρ S) (.Assign [.Tuple [.Name x px, .Name y py] kt pt] (.Tuple [ea, eb] k2 pt2) pos) := by
  refine PS.imp (ps_par hc hN hi hj hij hx hy h hw rfl) fun D σ H hh => ?_
  obtain ⟨W, ρ, S, sr, q⟩ := par_rd hh
  refine ⟨W, ρ, S, sr, At.weakQ q fun xs H1 ⟨hl, hn⟩ => ?_⟩
  match xs, hl with
  | [u, v], _ => exact ⟨u, v, rfl, hn⟩
theorem js_par3 {i j l : Nat} {mi mj ml : Bool} {x y z : Str} {a b c : IE} {ea eb ec : Expr} {px py pz pt pos pt2 : Pos} {kt k2 : Nat} (hc : X.calm = true) (hN : X.N.Nodup) (hi : X.N[i]? = some x) (hj : X.N[j]? = some y) (hl : X.N[l]? = some z) (hij : i ≠ j) (hil : i ≠ l) (hjl : j ≠ l)
    (hx : X.env.scope.names.lookup x = some .local) (hy : X.env.scope.names.lookup y = some .local) (hz : X.env.scope.names.lookup z = some .local) (h : JA X I E O (kM I X.K [mi, mj, ml]) (fun ρ S => evEs sg cf ρ [a, b, c] S) [ea, eb, ec])
    (hw : swappedStores [.Tuple [.Name x px, .Name y py, .Name z pz] kt pt] (.Tuple [ea, eb, ec] k2 pt2) X.env = pure (some [x, y, z])) :
    JS X I E W0 H0 fr OL O (some (parO O [(i, mi), (j, mj), (l, ml)])) (fun ρ S => evS sg cf (.par [(i, mi), (j, mj), (l, ml)] [a, b, c]) ρ S) (.Assign [.Tuple [.Name x px, .Name y py, .Name z pz] kt pt] (.Tuple [ea, eb, ec] k2 pt2) pos) := by
  refine PS.imp (ps_par3 hc hN hi hj hl hij hil hjl hx hy hz h hw rfl) fun D σ H hh => ?_
  obtain ⟨W, ρ, S, sr, q⟩ := par_rd hh
  refine ⟨W, ρ, S, sr, At.weakQ q fun xs H1 ⟨hl, hn⟩ => ?_⟩
  match xs, hl with
  | [u, v, w], _ => exact ⟨u, v, w, rfl, hn⟩

/-! ### calls -/
/-- what a def promises, by what it comes to -/
def spC (I : XI) (K : PySem.W.Frag) (cf : String → List Val → Store → Res Val) (f : String) (n : Nat) (fr : Bool) : Sp := fun vs H Q E => ∃ W ps S, WOk W H ∧ StRep I K W H S ∧ Rps I K W H ps vs ∧ ps.length = n ∧ At I K E (kFS I K fr) W H (cf f ps S) Q
/-- a call may be made here -/
structure CanCall (X : Cx) (I : XI) (cf : String → List Val → Store → Res Val) (x : Str) (f : String) (n : Nat) (fr : Bool) : Prop where
  ex : ∃ (k : Nat) (a : Addr) (fd : FuncData) (ps : List Str), FnOk X.prog X.w X.K X.mg X.base (L2.CX X.prog X.w) k a fd ps (spC I X.K cf f n fr) ∧ Room k X.A ∧ X.mg x = some (.ref a) ∧ PySem.W.keepIn X.K (.ref a) = true ∧ Binds X.K fd ps []
theorem call_rd {f : String} {es : List IE} {n : Nat} {b : Bool} {σ : L2.St} {H : Hp} {Q : VK} (hn : es.length = n) (h : rd I X.K E O (kFS I X.K b) (fun ρ S => evE sg cf ρ (.call f es) S) σ H Q) :
    tCall (spC I X.K cf f n b) [] E (rd I X.K E O (kSs I X.K) (fun ρ S => evEs sg cf ρ es S)) σ H Q := by
  obtain ⟨W, ρ, S, sr, q⟩ := h
  refine ⟨W, ρ, S, sr, ?_⟩
  simp only [evE] at q
  refine q.seq kFS_anti fun vs S1 W1 H1 xs e1 n1 k1 q1 => ?_
  rw [List.append_nil]
  exact ⟨W1, vs, S1, n1.w, n1.s, k1, by rw [evEs_len ρ e1]; exact hn, q1⟩
theorem j_call {x : Str} {f : String} {es : List IE} {ea : Expr} {er : List Expr} {b : Bool} {p pos : Pos} (c : CanCall X I cf x f es.length b) (hx : Passes (L2.CX X.prog X.w) X E) (hg : Gl X x) (hd : (x == ("__debug__" : Str)) = false)
    (h : JA X I E O (kSs I X.K) (fun ρ S => evEs sg cf ρ es S) (ea :: er)) (he : starEach (ea :: er) X.env = (false, eval ea X.env) :: starEach er X.env) (hpl : (backTo pos (starEach er X.env)).any (·.1) = false) :
    JE X I E O (kFS I X.K b) (fun ρ S => evE sg cf ρ (.call f es) S) (.Call (.Name x p) (ea :: er) [] pos) := by
  obtain ⟨k, a, fd, ps, F, hr, hm, hk, hb⟩ := c.ex
  exact PE.imp (pe_call F hr hg hm hk hb .nil hx h hd he hpl) fun σ H Q q => call_rd rfl q
theorem j_call0 {x : Str} {f : String} {b : Bool} {p pos : Pos} (c : CanCall X I cf x f 0 b) (hx : Passes (L2.CX X.prog X.w) X E) (hg : Gl X x) (hd : (x == ("__debug__" : Str)) = false) : JE X I E O (kFS I X.K b) (fun ρ S => evE sg cf ρ (.call f []) S) (.Call (.Name x p) [] [] pos) := by
  obtain ⟨k, a, fd, ps, F, hr, hm, hk, hb⟩ := c.ex
  refine PE.imp (pe_call0 F hr hg hm hk hb .nil hx hd) fun σ H Q q => ?_
  obtain ⟨W, ρ, S, sr, q⟩ := q
  simp only [evE, evEs, Res.bind_ok] at q
  exact ⟨W, [], S, sr.w, sr.s, rfl, rfl, q⟩

/-! ### isinstance -/
def tyV : Val → String
  | .non => "NoneType" | .bl _ => "bool" | .int _ => "int" | .str _ => "str" | .tup _ => "tuple" | .lst _ => "list" | _ => ""
def tyN : Ty → Option String
  | .int => some "int" | .bool => some "bool" | .str => some "str" | .lst => some "list" | .tup => some "tuple" | .exc _ => none
theorem TyOfV {W : Wd} {H : Hp} {v : Val} {x : V} (h : KB I X.K W H v x) (n1 : ∀ n, v ≠ .loc n) (n2 : ∀ c y, v ≠ .exn c y) : TyX X.K H x (.type (tyV v)) := by
  cases v with
  | non => cases h; exact .base .non
  | bl b => cases h; exact .base (.bl b)
  | int i => cases h; exact .base (.int i)
  | str y => obtain ⟨rfl, _⟩ := h; exact .base (.str y)
  | tup l =>
    obtain ⟨a, xs, rfl, h1, h2⟩ := h
    rcases h1 with (h1 | ⟨o, h1⟩) | ⟨o, its, n, h1, h2, _⟩
    · exact .base (.tup h1)
    · exact .fTuple h1
    · exact .kTuple h1 h2
  | lst l =>
    obtain ⟨a, xs, rfl, h1, h2⟩ := h
    exact .base (.lst h1.2)
  | loc n => exact absurd rfl (n1 n)
  | exn c y => exact absurd rfl (n2 c y)
theorem isa_kit {eb : String → Option String} {K : PySem.W.Frag} {t : Ty} {n : String} {v : Val} {b : Bool} (ht : tyN t = some n) (h : isaV eb t v = some b) : (∀ n, v ≠ .loc n) ∧ (∀ c y, v ≠ .exn c y) ∧ PySem.W.kitOne K (.type (tyV v)) (.type n) = some b := by
  cases v with
  | loc m => cases t <;> cases h
  | exn c y => cases t <;> first | (cases h; done) | (cases ht; done)
  | non => exact ⟨(fun _ z => by cases z), (fun _ _ z => by cases z), kit_ty (by cases t <;> cases ht <;> cases h <;> simp only [tyV] <;> decide +kernel)⟩
  | bl y => exact ⟨(fun _ z => by cases z), (fun _ _ z => by cases z), kit_ty (by cases t <;> cases ht <;> cases h <;> simp only [tyV] <;> decide +kernel)⟩
  | int y => exact ⟨(fun _ z => by cases z), (fun _ _ z => by cases z), kit_ty (by cases t <;> cases ht <;> cases h <;> simp only [tyV] <;> decide +kernel)⟩
  | str y => exact ⟨(fun _ z => by cases z), (fun _ _ z => by cases z), kit_ty (by cases t <;> cases ht <;> cases h <;> simp only [tyV] <;> decide +kernel)⟩
  | tup y => exact ⟨(fun _ z => by cases z), (fun _ _ z => by cases z), kit_ty (by cases t <;> cases ht <;> cases h <;> simp only [tyV] <;> decide +kernel)⟩
  | lst y => exact ⟨(fun _ z => by cases z), (fun _ _ z => by cases z), kit_ty (by cases t <;> cases ht <;> cases h <;> simp only [tyV] <;> decide +kernel)⟩
theorem isas_kit {eb : String → Option String} {K : PySem.W.Frag} : ∀ {ts : List Ty} {ns : List String} {v : Val} {b : Bool}, ts.map tyN = ns.map some → isasV eb v ts = some b → ts ≠ [] → (∀ n, v ≠ .loc n) ∧ (∀ c y, v ≠ .exn c y) ∧ PySem.W.kitAny K (.type (tyV v)) (ns.map .type) = some b
  | [], _, _, _, _, _, h => absurd rfl h
  | t :: ts, [], _, _, h, _, _ => by cases h
  | t :: ts, n :: ns, v, b, h, e, _ => by
    rw [List.map_cons, List.map_cons, List.cons.injEq] at h
    unfold isasV at e
    cases e1 : isaV eb t v with
    | none => rw [e1] at e; cases e
    | some c =>
      obtain ⟨g1, g2, g3⟩ := isa_kit (K := K) h.1 e1
      refine ⟨g1, g2, ?_⟩
      rw [e1] at e
      refine kitAny_cons g3 (fun hc => ?_) fun hc => ?_
      · subst hc
        cases ts with
        | nil =>
          cases ns with
          | nil => cases e; rfl
          | cons _ _ => cases h.2
        | cons t' ts' => exact (isas_kit (K := K) h.2 e (by simp)).2.2
      · subst hc
        cases e
        rfl
end
end Pi

end
section
set_option linter.all false
set_option maxRecDepth 100000
/-! PiL: isinstance, comprehensions, joins, tables, stars. -/
namespace Pi
open PySem PySem.Spec PyProof.Rows L2
section
variable {X : Cx} {I : XI} {E : XK} {W0 : Wd} {H0 : Hp} {fr : Bool} {OL : List Nat} {O : List Nat} {O' : Option (List Nat)} {sg : Sig} {cf : String → List Val → Store → Res Val}
/-! ### isinstance -/
theorem ty_boot {t : Ty} {n : String} (h : tyN t = some n) : bootBuiltins (n : Str) = some (.type n) ∧ (n : Str) ≠ "__name__" ∧ ((n : Str) == ("__debug__" : Str)) = false := by
  cases t <;> cases h <;> refine ⟨by rfl, by decide, by decide⟩
theorem pe_ty {t : Ty} {n : String} {p : Pos} (ht : tyN t = some n) (hg : Gl X (n : Str)) (hm : X.mg (n : Str) = none) : PE X (.Name (n : Str) p) (tC (.ty n)) :=
  pe_bltn hg hm (ty_boot ht).1 rfl (ty_boot ht).2.1 (ty_boot ht).2.2
theorem j_isa {e : IE} {t : Ty} {n : String} {ee : Expr} {p p2 pos : Pos} (ht : tyN t = some n) (hg : Gl X "isinstance") (hm : X.mg "isinstance" = none) (hgt : Gl X (n : Str)) (hmt : X.mg (n : Str) = none)
    (h : JE X I E O (kB I X.K) (fun ρ S => evE sg cf ρ e S) ee) (hs : starEach [ee, .Name (n : Str) p2] X.env = (false, eval ee X.env) :: starEach [.Name (n : Str) p2] X.env) :
    JE X I E O (kF I X.K) (fun ρ S => evE sg cf ρ (.isa e [t]) S) (.Call (.Name "isinstance" p) [ee, .Name (n : Str) p2] [] pos) := by
  refine PE.imp (pe_callB call_isi hg hm (by rfl) (pa_cons h (pa_cons (pe_ty ht hgt hmt) pa_nil rfl) hs) (by decide) (by decide) hs rfl) fun σ H Q ⟨W, ρ, S, sr, q⟩ => ⟨W, ρ, S, sr, ?_⟩
  simp only [evE] at q
  refine q.seq (kF_anti _ _) fun v S1 W1 H1 x e1 n1 k1 q1 => ?_
  obtain ⟨z, ez, q2⟩ := q1.of
  cases e2 : isasV sg.eb v [t] with
  | none => rw [e2] at ez; cases ez
  | some b =>
    rw [e2] at ez
    cases ez
    obtain ⟨g1, g2, g3⟩ := isas_kit (K := X.K) (ns := [n]) (by simp [ht]) e2 (by simp)
    have g4 : PySem.W.kitOne X.K (.type (tyV v)) (.type n) = some b := by
      have e3 : isaV sg.eb t v = some b := by
        unfold isasV at e2
        cases e4 : isaV sg.eb t v with
        | none => rw [e4] at e2; cases e2
        | some c => rw [e4] at e2; cases c <;> simpa [isasV] using e2
      exact (isa_kit ht e3).2.2
    exact ⟨x, .ty n, _, _, b, rfl, .ty n, TyOfV k1 g1 g2, g4, q2.here n1.w n1.s rfl⟩
/-- names of types -/
theorem pa_tys : ∀ {ts : List Ty} {ns : List String} {es : List Expr}, ts.map tyN = ns.map some → (∀ n ∈ ns, Gl X (n : Str) ∧ X.mg (n : Str) = none) → es.map (fun e => match e with | .Name x _ => some x | _ => none) = ns.map (fun (n : String) => some (n : Str)) →
    PA X es (fun σ H Q => Q (ns.map V.ty) H)
  | [], [], [], _, _, _ => pa_nil
  | [], [], e :: es, _, _, h => by cases h
  | [], n :: ns, _, h, _, _ => by cases h
  | t :: ts, [], _, h, _, _ => by cases h
  | t :: ts, n :: ns, [], _, _, h => by cases h
  | t :: ts, n :: ns, e :: es, h, hg, hx => by
    rw [List.map_cons, List.map_cons, List.cons.injEq] at h hx
    obtain ⟨g1, g2⟩ := hg n (List.mem_cons_self ..)
    obtain ⟨p, rfl⟩ : ∃ p, e = .Name (n : Str) p := by
      have h1 := hx.1
      split at h1
      · rename_i x p
        rw [Option.some.inj h1]
        exact ⟨p, rfl⟩
      · cases h1
    exact PA.imp (pa_cons (pe_ty h.1 g1 g2) (pa_tys h.2 (fun m hm => hg m (List.mem_cons_of_mem _ hm)) hx.2) rfl) fun σ H Q q => q
theorem tys_cls : ∀ (ns : List String), Paired ClsV (ns.map V.ty) (ns.map Value.type)
  | [] => .nil
  | n :: ns => .cons (.ty n) (tys_cls ns)
theorem KB.upT {K : PySem.W.Frag} {W : Wd} {H : Hp} {S : Store} {v : Val} {x : V} {p : Addr} {xs : List V} (w : WOk W H) (s : StRep I K W H S) (k : KB I K W H v x) (hp : H p = none) : KB I K W (upd H p (.tup xs)) v x := KB.up (Nxt.newT (I := I) (K := K) (xs := xs) w s hp).le (Nxt.newT (I := I) (K := K) (xs := xs) w s hp).kp w k
theorem j_isaT {e : IE} {ts : List Ty} {ns : List String} {ee : Expr} {es : List Expr} {kk : Nat} {p p2 pos : Pos} (ht : ts.map tyN = ns.map some) (h0 : ts ≠ []) (hl : ns.length ≤ lim) (hg : Gl X "isinstance") (hm : X.mg "isinstance" = none) (hgt : ∀ n ∈ ns, Gl X (n : Str) ∧ X.mg (n : Str) = none)
    (hes : es.map (fun e => match e with | .Name x _ => some x | _ => none) = ns.map (fun (n : String) => some (n : Str)))
    (h : JE X I E O (kB I X.K) (fun ρ S => evE sg cf ρ e S) ee) (hs : starEach [ee, .Tuple es kk p2] X.env = (false, eval ee X.env) :: starEach [.Tuple es kk p2] X.env) :
    JE X I E O (kF I X.K) (fun ρ S => evE sg cf ρ (.isa e ts) S) (.Call (.Name "isinstance" p) [ee, .Tuple es kk p2] [] pos) := by
  refine PE.imp (pe_callB call_isiT hg hm (by rfl) (pa_cons h (pa_cons (pe_tup (pa_tys ht hgt hes)) pa_nil rfl) hs) (by decide) (by decide) hs rfl) fun σ H Q ⟨W, ρ, S, sr, q⟩ => ⟨W, ρ, S, sr, ?_⟩
  simp only [evE] at q
  refine q.seq (kF_anti _ _) fun v S1 W1 H1 x e1 n1 k1 q1 => ?_
  obtain ⟨z, ez, q2⟩ := q1.of
  cases e2 : isasV sg.eb v ts with
  | none => rw [e2] at ez; cases ez
  | some b =>
    rw [e2] at ez
    cases ez
    obtain ⟨g1, g2, g3⟩ := isas_kit (K := X.K) ht e2 h0
    refine ⟨by rw [List.length_map, sizeLine_lim]; exact hl, fun tp htp => ?_⟩
    exact ⟨x, tp, _, _, _, b, rfl, upd_same, tys_cls ns, TyOfV (KB.upT n1.w n1.s k1 htp) g1 g2, g3, q2 _ _ (.bl b) (Nxt.newT n1.w n1.s htp) rfl⟩

/-! ### comprehensions -/
theorem At.share {K : PySem.W.Frag} {W : Wd} {H : Hp} {r : Res Val} {Q : VK} (q : At I K E (kS I K) W H r Q) : At I K E (kF I K) W H r Q := by
  cases r with
  | ok v S' =>
    intro W' H' x n k
    obtain ⟨W2, h1, h2, h3, h4, h5, h6⟩ := KF.share n.le n.w n.s k
    exact q W2 H' x ⟨h1, n.kp, h4, h5⟩ h6
  | exc y S' => exact q
  | bad => exact q
theorem j_comp {k : Nat} {its : List IE} {pt : Pat} {cs : List IE} {e : IE} {elt tg iter : Expr} {ifs : List Expr} {scope : Scope} {own : List (Str × Nat)} {pos : Pos} (hc : X.calm = true) (hN : X.N.Nodup)
    (hi : JI X I E O (evIt sg cf k its) tg iter) (ok : BlkOk X.N X.env.scope scope own) (hv : own.map (·.2) = pt.vars)
    (hg : ∀ (s : Shared) (H : Hp) (C : Addr) (cl : List (Str × Addr)) (fp : List Addr), PG (X.blk s H scope (compEnvC scope cl C X.env) fp) tg (gP I X.K O pt))
    (ht : ∀ (s : Shared) (H : Hp) (C : Addr) (cl : List (Str × Addr)) (fp : List Addr), PTs (X.blk s H scope (compEnvC scope cl C X.env) fp) ifs (rd I X.K E0' (less O pt.vars) kT (fun ρ S => evTs sg cf ρ cs S)))
    (he : ∀ (s : Shared) (H : Hp) (C : Addr) (cl : List (Str × Addr)) (fp : List Addr), PE (X.blk s H scope (compEnvC scope cl C X.env) fp) elt (rd I X.K E0' (less O pt.vars) (kS I X.K) (fun ρ S => evE sg cf ρ e S)))
    (hs : ∀ x, foldedSetIterable iter X.env x = pure x) : JE X I E O (kF I X.K) (fun ρ S => evE sg cf ρ (.comp k its pt cs e) S) (.ListComp elt [⟨tg, iter, ifs, 0⟩] scope pos) := by
  have z := pe_lc (pos := pos) hc hN hi ok hg ht he hs
  rw [hv] at z
  exact PE.imp z fun σ H Q q => comp_rd q
/-- name = [..] -/
theorem js_asgC {i : Nat} {y : Str} {k : Nat} {its : List IE} {pt : Pat} {cs : List IE} {e : IE} {elt tg iter : Expr} {ifs : List Expr} {scope : Scope} {own : List (Str × Nat)} {py pos spos : Pos} (hc : X.calm = true) (hN : X.N.Nodup) (hy : X.N[i]? = some y) (hyl : X.env.scope.names.lookup y = some .local)
    (hsw : swapsWith (.ListComp elt [⟨tg, iter, ifs, 0⟩] scope pos) (some (.Name y py)) spos.line X.env = pure true)
    (hi : JI X I E O (evIt sg cf k its) tg iter) (ok : BlkOk X.N X.env.scope scope own) (hv : own.map (·.2) = pt.vars)
    (hg : ∀ (s : Shared) (H : Hp) (C : Addr) (cl : List (Str × Addr)) (fp : List Addr), PG (X.blk s H scope (compEnvC scope cl C X.env) fp) tg (gP I X.K O pt))
    (ht : ∀ (s : Shared) (H : Hp) (C : Addr) (cl : List (Str × Addr)) (fp : List Addr), PTs (X.blk s H scope (compEnvC scope cl C X.env) fp) ifs (rd I X.K E0' (less O pt.vars) kT (fun ρ S => evTs sg cf ρ cs S)))
    (he : ∀ (s : Shared) (H : Hp) (C : Addr) (cl : List (Str × Addr)) (fp : List Addr), PE (X.blk s H scope (compEnvC scope cl C X.env) fp) elt (rd I X.K E0' (less O pt.vars) (kS I X.K) (fun ρ S => evE sg cf ρ e S)))
    (hs : ∀ x, foldedSetIterable iter X.env x = pure x) : JS X I E W0 H0 fr OL O (some (less O [i])) (fun ρ S => evS sg cf (.asg (.v i) (.comp k its pt cs e)) ρ S) (.Assign [.Name y py] (.ListComp elt [⟨tg, iter, ifs, 0⟩] scope pos) spos) := by
  have z := ps_setLc (pos := pos) hc hN hy hyl hsw hi ok hg ht he hs
  rw [hv] at z
  refine PS.imp z fun D σ H ⟨W, ρ, S, sr, q⟩ => ?_
  simp only [evS] at q
  exact AtS.lc sr.sr (At.share (q.seq (kd := kS I X.K) sr fun v S1 W1 H1 y e1 n1 k1 q1 => q1.nx ((sr.nxt n1).set k1)))
theorem js_ownC {i : Nat} {y : Str} {k : Nat} {its : List IE} {pt : Pat} {cs : List IE} {e : IE} {elt tg iter : Expr} {ifs : List Expr} {scope : Scope} {own : List (Str × Nat)} {py pos spos : Pos} (hc : X.calm = true) (hN : X.N.Nodup) (hy : X.N[i]? = some y) (hyl : X.env.scope.names.lookup y = some .local)
    (hsw : swapsWith (.ListComp elt [⟨tg, iter, ifs, 0⟩] scope pos) (some (.Name y py)) spos.line X.env = pure true)
    (hi : JI X I E O (evIt sg cf k its) tg iter) (ok : BlkOk X.N X.env.scope scope own) (hv : own.map (·.2) = pt.vars)
    (hg : ∀ (s : Shared) (H : Hp) (C : Addr) (cl : List (Str × Addr)) (fp : List Addr), PG (X.blk s H scope (compEnvC scope cl C X.env) fp) tg (gP I X.K O pt))
    (ht : ∀ (s : Shared) (H : Hp) (C : Addr) (cl : List (Str × Addr)) (fp : List Addr), PTs (X.blk s H scope (compEnvC scope cl C X.env) fp) ifs (rd I X.K E0' (less O pt.vars) kT (fun ρ S => evTs sg cf ρ cs S)))
    (he : ∀ (s : Shared) (H : Hp) (C : Addr) (cl : List (Str × Addr)) (fp : List Addr), PE (X.blk s H scope (compEnvC scope cl C X.env) fp) elt (rd I X.K E0' (less O pt.vars) (kS I X.K) (fun ρ S => evE sg cf ρ e S)))
    (hs : ∀ x, foldedSetIterable iter X.env x = pure x) : JS X I E W0 H0 fr OL O (some (i :: less O [i])) (fun ρ S => evS sg cf (.own i (.comp k its pt cs e)) ρ S) (.Assign [.Name y py] (.ListComp elt [⟨tg, iter, ifs, 0⟩] scope pos) spos) := by
  have z := ps_setLc (pos := pos) hc hN hy hyl hsw hi ok hg ht he hs
  rw [hv] at z
  refine PS.imp z fun D σ H ⟨W, ρ, S, sr, q⟩ => ?_
  simp only [evS] at q
  refine AtS.lc sr.sr (q.seq (kd := kF I X.K) sr fun v S1 W1 H1 y e1 n1 k1 q1 => ?_)
  cases v <;> try (exact q1.elim)
  obtain ⟨a, rfl, h2, h3⟩ := k1
  refine q1.nx ((sr.nxt n1).setOwn h2 (fun z => h3 (sr.le.p a z)) fun j hj _ e2 e3 => ?_)
  obtain ⟨q3, e3⟩ := e3
  obtain ⟨l, b, _, h4, h5⟩ := sr.sr.e.ow j _ e3 hj
  rw [e2] at h4
  cases h4
  exact h3 h5.1

/-! ### a table of texts -/
/-- the global x is a dict with these rows -/
def DxOk (X : Cx) (I : XI) (x : Str) (kvs : List (Str × Val)) : Prop := ∃ p : Addr, X.mg x = some (.ref p) ∧ ∀ y v, kvs.lookup y = some v → ∃ u, KDct X.K X.w p y u ∧ ∀ H R μ, RepV I X.K H R μ v u
theorem j_dix {x : Str} {n : String} {kvs : List (Str × Val)} {a : IE} {ea : Expr} {p pos : Pos} (g : DxOk X I x kvs) (hg : Gl X x) (hd : (x == ("__debug__" : Str)) = false) (hp : PlainIx ea) (ha : JE X I E O (kB I X.K) (fun ρ S => evE sg cf ρ a S) ea) :
    JE X I E O (kS I X.K) (fun ρ S => evE sg cf ρ (.dix n kvs a) S) (.Subscript (.Name x p) ea pos) := by
  obtain ⟨t, ht, hk⟩ := g
  refine PE.imp (pe_ix ix_kdict (pe_glob (v := V.ref t) hg ht rfl hd) ha hp) fun σ H Q ⟨W, ρ, S, sr, q⟩ => ⟨W, ρ, S, sr, ?_⟩
  simp only [evE] at q
  refine q.seq (kS_anti _ _) fun v S1 W1 H1 y e1 n1 k1 q1 => ?_
  cases v <;> try (exact q1.elim)
  rename_i y1
  obtain ⟨z, ez, q2⟩ := At.of q1
  obtain ⟨e2, _⟩ := k1
  subst e2
  obtain ⟨u, h1, h2⟩ := hk y1 z ez
  exact ⟨t, y1, u, rfl, rfl, h1, q2.here n1.w n1.s (h2 _ _ _)⟩
/-! ### joins -/
theorem strs_vals {W : Wd} {H : Hp} : ∀ {l : List Val} {ys : List Str} {xs : List V}, strsV l = some ys → Rps I X.K W H l xs → xs = ys.map V.str ∧ ∀ y ∈ ys, PyData.strOk y = true
  | [], ys, xs, h, r => by
    cases h
    cases r
    exact ⟨rfl, fun y hy => by cases hy⟩
  | v :: l, ys, xs, h, r => by
    obtain ⟨x, xs', rfl, r1, r2⟩ := r
    cases v <;> try (cases h; done)
    rename_i y
    unfold strsV at h
    cases e : strsV l with
    | none => rw [e] at h; cases h
    | some zs =>
      rw [e] at h
      cases h
      obtain ⟨h1, h2⟩ := strs_vals e r2
      obtain ⟨rfl, h3, h4⟩ := r1
      exact ⟨by rw [h1]; rfl, fun w hw => by rcases List.mem_cons.mp hw with rfl | hw <;> first | exact h2 _ hw | assumption⟩
theorem strOk_join {s : Str} (hs : PyData.strOk s = true) : ∀ {ys : List Str}, (∀ y ∈ ys, PyData.strOk y = true) → PyData.strOk (Str.join s ys) = true
  | [], _ => (by decide +kernel : PyData.strOk Str.empty = true)
  | [x], h => h x (List.mem_cons_self ..)
  | x :: z :: r, h => strOk_app (strOk_app (h x (List.mem_cons_self ..)) hs) (strOk_join hs fun y hy => h y (List.mem_cons_of_mem _ hy))
/-- 'text'.join(list) -/
theorem j_join {s : Str} {a : IE} {ea : Expr} {j : Nat} {p apos pos : Pos} (hl : s.length ≤ lim) (ho : PyData.strOk s = true) (hline : (apos.endLine == pos.line) = true) (ha : JE X I E O (kB I X.K) (fun ρ S => evE sg cf ρ a S) ea)
    (hs : starEach [ea] X.env = [(false, eval ea X.env)]) : JE X I E O (kF I X.K) (fun ρ S => evE sg cf ρ (.bi .join [.cst (.str s), a]) S) (.Call (.Attribute (.Constant (.str s) j p) "join" apos) [ea] [] pos) := by
  refine PE.imp (pe_join (j_str (I := I) (E := E) (O := O) (sg := sg) (cf := cf) hl ho) ha hs rfl hline) fun σ H Q ⟨W, ρ, S, sr, q⟩ => ⟨W, ρ, S, sr, ?_⟩
  simp only [evE, evEs, Res.bind_ok] at q
  show At I X.K E (kF I X.K) W H (evE sg cf ρ (.cst (.str s)) S) _
  simp only [evE]
  intro W1 H1 x n1 k1
  obtain ⟨rfl, _, _⟩ := k1
  refine ⟨⟨s, rfl⟩, W1, ρ, S, sr.nxt n1, ?_⟩
  show At I X.K E (kB I X.K) W1 H1 (evE sg cf ρ a S) _
  have q : At I X.K E (kF I X.K) W1 H1 ((evE sg cf ρ a S).bind fun v S2 => (Res.ok [.str s, v] S2 : Res (List Val)).bind fun vs S3 => .of (biV S3 .join vs) S3) Q := by
    have q2 := q.shift (kF_anti _ _) n1
    cases e : evE sg cf ρ a S <;> rw [e] at q2 <;> exact q2
  refine q.seq (kF_anti _ _) fun v S2 W2 H2 y e2 n2 k2 q2 => ?_
  simp only [Res.bind_ok] at q2
  obtain ⟨z, ez, q3⟩ := At.of q2
  cases v <;> try (cases ez; done)
  rename_i l
  have ez : ((strsV l).bind fun ys => if (ys.map (·.length)).sum + ys.length * s.length ≤ lim then some (.str (Str.join s ys)) else none) = some z := ez
  cases e3 : strsV l with
  | none => rw [e3] at ez; cases ez
  | some ys =>
    rw [e3] at ez
    simp only [Option.bind_some] at ez
    split at ez
    · rename_i hle
      cases ez
      obtain ⟨b, xs, rfl, h1, h2⟩ := k2
      obtain ⟨rfl, h3⟩ := strs_vals e3 h2
      refine ⟨s, b, ys, rfl, rfl, .inl (.inl (.inl h1.2)), hle, ?_⟩
      rw [TL.join_eq]
      exact q3.here n2.w n2.s ⟨rfl, Nat.le_trans (StrLaws.join_length_le s ys) hle, strOk_join ho h3⟩
    · cases ez
end

/-! ### the rest, by a star -/
section
variable {prog : Program} {w : World} {A : Around} {F : Value → Shared → Prop} {u : Shared}
theorem star_list {b : Addr} {its : Array Value} {k : Nat} {Q : List Value → Shared → Prop} (hb : u.heap.IsList b its) (hh : A.handled = none) (hk : k ≤ its.size) (hz : its.size ≤ sizeLine)
    (go : ∀ (g : Heap) (tk : Nat), (∀ c o, u.heap.get? c = some o → g.get? c = some o) → Q (its.toList.take k ++ [.ref g.objs.size]) { u with heap := g.push { cls := .type "list", data := .seq (its.toList.drop k).toArray }, toks := tk }) :
    wpAny (model prog w) A (unpackItems (.ref b) (k + 1) (some k)) Q F u := by
  have b1 : b ≠ u.heap.objs.size := by obtain ⟨o, ho, _⟩ := hb; exact Nat.ne_of_lt (Heap.lt_size ho)
  unfold unpackItems
  refine wpAny_bind ?_
  unfold notIterableAtAll
  refine wpAny_bind (wpAny_specialOf hb.typeIs slot_list_iter.lookup (wpAny_pure ?_))
  simp only [Bool.false_eq_true, if_false]
  refine wpAny_bind (wpAny_holding (wpAny_pyIter_list hb (wpAny_bind (wpAny_holding (PySem.W.kun_draw b1 k 0 _ _ ⟨_, Heap.get?_push_size _ rfl, rfl, rfl⟩ (hb.push _) (by omega) fun g1 i1 t1 => ?_)))))
  have c1 : g1.IsList b its := (hb.push _).extBut t1.extBut b1
  rw [Nat.zero_add] at i1
  obtain ⟨x1, y1, z1⟩ := i1
  obtain ⟨x2, y2, z2⟩ := c1
  rw [List.drop_zero]
  have l1 : (its.toList.take k).length = k := by rw [List.length_take, Array.length_toList]; omega
  rw [if_neg (by rw [l1]; omega)]
  refine wpAny_bind (wpAny_holding (PySem.W.kun_collect (s := { u with heap := g1 }) (T := "list_iterator") (.inr (.inr (.inl rfl))) (Walks.list (A := A.in1) hh u.heap.objs.size b b1 its) (fun j v st => st.1.typeIs) (k := k) hk ⟨⟨x1, y1, z1⟩, ⟨x2, y2, z2⟩⟩ (Heap.lt_size y1) (Heap.lt_size y2) (fun g2 tk kp => ?_) hz))
  have l2 : (its.toList.drop k).length = its.size - k := by rw [List.length_drop, Array.length_toList]
  have l3 : (its.toList.drop k).length - (k + 1 - 1 - k) = its.size - k := by rw [l2]; omega
  show wpAny _ _ (if (its.toList.drop k).length < k + 1 - 1 - k then _ else _) _ _ _
  rw [if_neg (by omega)]
  show wpAny _ _ (newList ((its.toList.drop k).take ((its.toList.drop k).length - (k + 1 - 1 - k))) >>= fun d => pure (its.toList.take k ++ [d] ++ (its.toList.drop k).drop ((its.toList.drop k).length - (k + 1 - 1 - k)))) _ _ _
  have l4 : (its.toList.drop k).take (its.size - k) = its.toList.drop k := List.take_of_length_le (by omega)
  have l5 : (its.toList.drop k).drop (its.size - k) = [] := List.drop_of_length_le (by omega)
  rw [l3, l4, l5]
  refine wpAny_bind (wpAny_newList (wpAny_pure ?_))
  rw [List.append_nil]
  exact go g2 tk fun c o e => kp c o (Nat.ne_of_lt (Heap.lt_size e)) (t1.extBut c o (Nat.ne_of_lt (Heap.lt_size e)) (Heap.get?_push_of_some _ e))
theorem star_tup {b : Addr} {its : Array Value} {k : Nat} {Q : List Value → Shared → Prop} (hb : IsTup u.heap b its) (hh : A.handled = none) (hk : k ≤ its.size) (hz : its.size ≤ sizeLine)
    (go : ∀ (g : Heap) (tk : Nat), (∀ c o, u.heap.get? c = some o → g.get? c = some o) → Q (its.toList.take k ++ [.ref g.objs.size]) { u with heap := g.push { cls := .type "list", data := .seq (its.toList.drop k).toArray }, toks := tk }) :
    wpAny (model prog w) A (unpackItems (.ref b) (k + 1) (some k)) Q F u := by
  have b1 : b ≠ u.heap.objs.size := by obtain ⟨o, ho, _⟩ := hb; exact Nat.ne_of_lt (Heap.lt_size ho)
  unfold unpackItems
  refine wpAny_bind ?_
  unfold notIterableAtAll
  refine wpAny_bind (wpAny_specialOf hb.typeIs slot_tuple_iter.lookup (wpAny_pure ?_))
  simp only [Bool.false_eq_true, if_false]
  refine wpAny_bind (wpAny_holding (iter_tuple hb (wpAny_bind (wpAny_holding (draw_tuple b1 k 0 _ _ ⟨_, Heap.get?_push_size _ rfl, rfl, rfl⟩ (hb.push _) (by omega) fun g1 i1 t1 => ?_)))))
  have c1 : IsTup g1 b its := (hb.push _).extBut t1.extBut b1
  rw [Nat.zero_add] at i1
  obtain ⟨x1, y1, z1⟩ := i1
  obtain ⟨x2, y2, z2⟩ := c1
  rw [List.drop_zero]
  have l1 : (its.toList.take k).length = k := by rw [List.length_take, Array.length_toList]; omega
  rw [if_neg (by rw [l1]; omega)]
  refine wpAny_bind (wpAny_holding (PySem.W.kun_collect (s := { u with heap := g1 }) (T := "tuple_iterator") (.inr (.inr (.inr rfl))) (Walks.tuple (A := A.in1) hh u.heap.objs.size b b1 its) (fun j v st => st.1.typeIs) (k := k) hk ⟨⟨x1, y1, z1⟩, ⟨x2, y2, z2⟩⟩ (Heap.lt_size y1) (Heap.lt_size y2) (fun g2 tk kp => ?_) hz))
  have l2 : (its.toList.drop k).length = its.size - k := by rw [List.length_drop, Array.length_toList]
  have l3 : (its.toList.drop k).length - (k + 1 - 1 - k) = its.size - k := by rw [l2]; omega
  show wpAny _ _ (if (its.toList.drop k).length < k + 1 - 1 - k then _ else _) _ _ _
  rw [if_neg (by omega)]
  show wpAny _ _ (newList ((its.toList.drop k).take ((its.toList.drop k).length - (k + 1 - 1 - k))) >>= fun d => pure (its.toList.take k ++ [d] ++ (its.toList.drop k).drop ((its.toList.drop k).length - (k + 1 - 1 - k)))) _ _ _
  have l4 : (its.toList.drop k).take (its.size - k) = its.toList.drop k := List.take_of_length_le (by omega)
  have l5 : (its.toList.drop k).drop (its.size - k) = [] := List.drop_of_length_le (by omega)
  rw [l3, l4, l5]
  refine wpAny_bind (wpAny_newList (wpAny_pure ?_))
  rw [List.append_nil]
  exact go g2 tk fun c o e => kp c o (Nat.ne_of_lt (Heap.lt_size e)) (t1.extBut c o (Nat.ne_of_lt (Heap.lt_size e)) (Heap.get?_push_of_some _ e))
end
section
variable {X : Cx} {I : XI} {O : List Nat}
theorem bindPs_snoc {q : Pat} {v : Val} {ρ' : Env} : ∀ {ps : List Pat} {vs : List Val} {ρ ρ1 : Env}, bindPs ps vs ρ = some ρ1 → bindP q v ρ1 = some ρ' → bindPs (ps ++ [q]) (vs ++ [v]) ρ = some ρ'
  | [], [], ρ, ρ1, h, h2 => by
    cases h
    show (bindP q v ρ).bind (fun r => bindPs [] [] r) = some ρ'
    rw [h2]
    rfl
  | [], _ :: _, _, _, h, _ => by cases h
  | _ :: _, [], _, _, h, _ => by cases h
  | p :: ps, x :: vs, ρ, ρ1, h, h2 => by
    have h : (bindP p x ρ).bind (fun r => bindPs ps vs r) = some ρ1 := h
    show (bindP p x ρ).bind (fun r => bindPs (ps ++ [q]) (vs ++ [v]) r) = some ρ'
    cases e : bindP p x ρ with
    | none => rw [e] at h; cases h
    | some ρ2 =>
      rw [e] at h
      exact bindPs_snoc (ps := ps) h h2
theorem varsL_snoc (i : Nat) : ∀ ps : List Pat, Pat.varsL (ps ++ [.v i]) = Pat.varsL ps ++ [i]
  | [] => rfl
  | p :: ps => by
    show p.vars ++ Pat.varsL (ps ++ [.v i]) = (p.vars ++ Pat.varsL ps) ++ [i]
    rw [varsL_snoc i ps, List.append_assoc]
theorem vals_take {n : Nat} : ∀ {xs : List V} {us : List Value}, Vals xs us → Vals (xs.take n) (us.take n) ∧ Vals (xs.drop n) (us.drop n) := by
  induction n with
  | zero => exact fun h => ⟨.nil, h⟩
  | succ n ih =>
    intro xs us h
    cases h with
    | nil => exact ⟨.nil, .nil⟩
    | cons r t => exact ⟨.cons r (ih t).1, (ih t).2⟩
theorem vals_snoc : ∀ {xs : List V} {us : List Value} {x : V} {v : Value}, Vals xs us → RelV x v → Vals (xs ++ [x]) (us ++ [v])
  | _, _, _, _, .nil, r => .cons r .nil
  | _, _, _, _, .cons a t, r => .cons a (vals_snoc t r)
theorem Rps.take {K : PySem.W.Frag} {W : Wd} {H : Hp} {n : Nat} : ∀ {l : List Val} {xs : List V}, Rps I K W H l xs → Rps I K W H (l.take n) (xs.take n) ∧ Rps I K W H (l.drop n) (xs.drop n) := by
  induction n with
  | zero => exact fun h => ⟨rfl, h⟩
  | succ n ih =>
    intro l xs h
    cases l with
    | nil => cases h; exact ⟨rfl, rfl⟩
    | cons v l =>
      obtain ⟨x, xs', rfl, r1, r2⟩ := h
      exact ⟨⟨x, _, rfl, r1, (ih r2).1⟩, (ih r2).2⟩
theorem star_bind {i : Nat} {ps : List Pat} {l : List Val} {ρ ρ' : Env} (e : (if ps.length ≤ l.length then (bindPs ps (l.take ps.length) ρ).map fun ρ' => setE ρ' i (.lst (l.drop ps.length)) else none) = some ρ') :
    ps.length ≤ l.length ∧ bindPs (ps ++ [.v i]) (l.take ps.length ++ [.lst (l.drop ps.length)]) ρ = some ρ' := by
  split at e
  · rename_i h
    cases e1 : bindPs ps (l.take ps.length) ρ with
    | none => rw [e1] at e; cases e
    | some ρ1 =>
      rw [e1] at e
      cases e
      exact ⟨h, bindPs_snoc e1 rfl⟩
  · cases e
/-- a, .., *rest = x -/
theorem g_star {ps : List Pat} {i : Nat} {es : List Expr} {k : Nat} {pos : Pos} (hc : X.calm = true) (h : PGs X es (gPs I X.K O (ps ++ [.v i]))) (hn : (assignEach es X.env).length = ps.length + 1) (hst : (assignEach es X.env).findIdx? (·.1) = some ps.length) :
    PG X (.Tuple es k pos) (gP I X.K O (.star ps i)) := by
  refine ⟨fun pins s σ H v u Q J r ⟨W, ρ, S, pv, ρ', sr, rv, e, q⟩ => ?_⟩
  rw [assign_Tuple]
  refine wpAny_bind (wpAny_standAt ?_)
  unfold unpack
  rw [hn, hst]
  refine wpAny_bind (wpAny_holding ?_)
  have fin : ∀ (l : List Val) (xs : List V) (its : List Value) (g : Heap) (tk : Nat), bindPs (ps ++ [.v i]) (l.take ps.length ++ [.lst (l.drop ps.length)]) ρ = some ρ' → Rps I X.K W H l xs → Vals xs its → its.length ≤ sizeLine → (∀ c o, s.heap.get? c = some o → g.get? c = some o) →
      wpAny (model X.prog X.w) X.A (assignInOrder ((assignEach es X.env).map (·.2)) (its.take ps.length ++ [.ref g.objs.size])) (fun _ s' => ∃ σ' H', Inv X pins σ' H' s' ∧ Q σ' H') X.xe { s with heap := g.push { cls := .type "list", data := .seq (its.drop ps.length).toArray }, toks := tk } := by
    intro l xs its g tk eb r2 rv hz kp
    have J1 : Inv X pins σ H { s with heap := g, toks := tk } := J.kept (t' := tk) kp
    have hv := (vals_take (n := ps.length) rv)
    have J2 := J1.lnew (t' := tk) (its := its.drop ps.length) (ys := xs.drop ps.length) hv.2 (by rw [List.length_drop, rv.length]; omega)
    have hD : H g.objs.size = none := J1.fresh
    have nD : ¬ W.P g.objs.size := sr.w.no hD
    have n1 : Nxt I X.K W H (W.add g.objs.size) (upd H g.objs.size (.lst (xs.drop ps.length))) S := ⟨le_add, Kp.new hD, wok_add hD sr.w, st_add hD sr.w sr.s⟩
    have r3 := Rps.take (n := ps.length) r2
    have kf : KF I X.K (W.add g.objs.size) (upd H g.objs.size (.lst (xs.drop ps.length))) W (.lst (l.drop ps.length)) (.ref g.objs.size) := ⟨_, rfl, ⟨.inl rfl, fun z => nD (sr.w.rp _ z), _, upd_same, Rps.up n1.le n1.kp sr.w r3.2⟩, nD⟩
    obtain ⟨W2, h1, h2, h3, h4, h5, h6⟩ := KF.share n1.le n1.w n1.s kf
    have n2 : Nxt I X.K W H W2 (upd H g.objs.size (.lst (xs.drop ps.length))) S := ⟨h1, n1.kp, h4, h5⟩
    refine h.run pins _ σ _ (xs.take ps.length ++ [.ref g.objs.size]) _ Q J2 (vals_snoc hv.1 (show L2.RelV (V.ref g.objs.size) (Value.ref g.objs.size) from rfl)) ⟨W2, ρ, S, _, ρ', sr.nxt n2, RepVs.append (Rps.up n2.le n2.kp sr.w r3.1) (show Rps I X.K W2 _ [_] [V.ref g.objs.size] from ⟨_, [], rfl, h6, rfl⟩), eb, fun W3 H3 σ3 n3 sr3 a3 => ?_⟩
    rw [varsL_snoc] at sr3 a3
    exact q W3 H3 σ3 (n2.trans n3) sr3 a3
  cases pv <;> try (cases e; done)
  · rename_i l
    obtain ⟨e1, e2⟩ := star_bind e
    obtain ⟨a, xs, rfl, r1, r2⟩ := rv
    cases r
    obtain ⟨its, rv, ht, hz⟩ := J.tuple r1
    refine star_tup ht (J.ok.hd hc) (by rw [List.size_toArray, ← rv.length, ← RepVs.length r2]; exact e1) (by simpa [← rv.length] using hz) fun g tk kp => ?_
    simpa using fin l xs its g tk e2 r2 rv (by rw [← rv.length]; exact hz) kp
  · rename_i l
    obtain ⟨e1, e2⟩ := star_bind e
    obtain ⟨a, xs, rfl, r1, r2⟩ := rv
    cases r
    obtain ⟨its, rv, ht, hz⟩ := J.list (.inl (.inl r1.2))
    refine star_list ht.isList (J.ok.hd hc) (by rw [List.size_toArray, ← rv.length, ← RepVs.length r2]; exact e1) (by simpa [← rv.length] using hz) fun g tk kp => ?_
    simpa using fin l xs its g tk e2 r2 rv (by rw [← rv.length]; exact hz) kp
end
/-! ### names in parallel, any number -/
section
variable {X : Cx} {I : XI} {E : XK} {W0 : Wd} {H0 : Hp} {fr : Bool} {OL : List Nat} {O : List Nat} {sg : Sig} {cf : String → List Val → Store → Res Val}
theorem MRep.len {K : PySem.W.Frag} {W W' : Wd} {H' : Hp} : ∀ {ms : List Bool} {vs : List Val} {xs : List V}, MRep I K W W' H' ms vs xs → xs.length = ms.length
  | [], _, _, ⟨_, h⟩ => by rw [h]; rfl
  | m :: ms, _, _, ⟨v, vs, x, xs, _, h, _, h2⟩ => by rw [h, List.length_cons, List.length_cons, MRep.len h2]
theorem parG_rd {is : List (Nat × Bool)} {es : List IE} {D : Ends} {σ : L2.St} {H : Hp} (h : rdS I X.K E W0 H0 fr OL O (some (parO O is)) (fun ρ S => evS sg cf (.par is es) ρ S) D σ H) :
    rd I X.K E O (kM I X.K (is.map (·.2))) (fun ρ S => evEs sg cf ρ es S) σ H (fun xs H1 => xs.length = is.length ∧ ∀ p, H1 p = none → D.nx (setsP is xs σ) (upd H1 p (.tup xs))) := by
  obtain ⟨W, ρ, S, sr, q⟩ := h
  simp only [evS] at q
  refine ⟨W, ρ, S, sr.sr, ?_⟩
  show At I X.K E (kM I X.K (is.map (·.2))) W H (evEs sg cf ρ es S) _
  cases e1 : evEs sg cf ρ es S with
  | bad => rw [e1] at q; exact q
  | exc y S1 =>
    rw [e1] at q
    exact fun W' H' cls d n k => q W' H' cls d (sr.n0 n) k
  | ok vs S1 =>
    rw [e1] at q
    simp only [Res.on_ok] at q
    intro W1 H1 xs n1 k1
    cases e2 : parE is vs ρ with
    | none => rw [e2] at q; exact q.elim
    | some ρ' =>
      rw [e2] at q
      have sr1 := sr.nxt n1
      refine ⟨by rw [MRep.len k1, List.length_map], fun p hp => ?_⟩
      have s2 := par_set sr.le sr1 k1 e2 fun j a k l ej ev ex hk hs hp => by
        have f := MRep.fresh k1 ej ev ex
        obtain ⟨p, hp⟩ := hp
        obtain ⟨l2, b, _, h4, h5⟩ := sr.sr.e.ow k p hp hk
        rw [hs] at h4
        cases h4
        exact f h5.1
      have n2 : Nxt I X.K W1 H1 W1 (upd H1 p (.tup xs)) S1 := Nxt.newT n1.w n1.s hp
      exact q _ rfl W1 _ _ (s2.nxt n2) ((n1.trans n2).nr sr.sr.w)
/-- names, each a target of its slot -/
def NmOk (X : Cx) : List (Nat × Bool) → List Expr → Prop
  | [], [] => True
  | (i, _) :: is, e :: es => (∃ y p, e = .Name y p ∧ X.N[i]? = some y ∧ L2.Loc X.env.scope y ∧ (X.fn y = true ∨ X.env.scope.names.lookup y = some .local)) ∧ NmOk X is es
  | _, _ => False
theorem nm_pgs (hN : X.N.Nodup) : ∀ {is : List (Nat × Bool)} {es : List Expr}, NmOk X is es → PGs X es (fun xs σ H Q => xs.length = is.length ∧ Q (setsP is xs σ) H) ∧ (assignEach es X.env).length = is.length ∧ (assignEach es X.env).findIdx? (·.1) = none
  | [], [], _ => by
    refine ⟨⟨fun pins s σ H vs us Q J r ⟨q1, q⟩ => ?_⟩, rfl, rfl⟩
    cases vs with
    | nil => exact pgs_nil.run pins s σ H [] us Q J r ⟨rfl, q⟩
    | cons _ _ => cases q1
  | [], _ :: _, h => h.elim
  | _ :: _, [], h => h.elim
  | (i, m) :: is, e :: es, hx => by
    obtain ⟨⟨y, p, rfl, h1, h2, h3⟩, h⟩ := hx
    obtain ⟨q1, q2, q3⟩ := nm_pgs hN h
    refine ⟨⟨fun pins s σ H vs us Q J r ⟨l, q⟩ => ?_⟩, by show (assignEach es X.env).length + 1 = _; rw [q2]; rfl, ?_⟩
    · cases vs with
      | nil => cases l
      | cons v vs => exact (pgs_cons (pg_name hN h1 h2 h3) q1 rfl).run pins s σ H (v :: vs) us Q J r ⟨v, vs, rfl, Nat.succ.inj l, q⟩
    · show List.findIdx? _ ((false, _) :: assignEach es X.env) = none
      rw [List.findIdx?_cons]
      simp [q3]
theorem js_parG {is : List (Nat × Bool)} {es : List IE} {ts vs : List Expr} {k k2 : Nat} {p p2 pos : Pos} (hc : X.calm = true) (hN : X.N.Nodup) (hl : es.length ≤ lim) (hn : NmOk X is ts) (h : JA X I E O (kM I X.K (is.map (·.2))) (fun ρ S => evEs sg cf ρ es S) vs)
    (hw : swappedStores [.Tuple ts k p] (.Tuple vs k2 p2) X.env = pure none) (hil : is.length ≤ lim) :
    JS X I E W0 H0 fr OL O (some (parO O is)) (fun ρ S => evS sg cf (.par is es) ρ S) (.Assign [.Tuple ts k p] (.Tuple vs k2 p2) pos) := by
  obtain ⟨q1, q2, q3⟩ := nm_pgs hN hn
  refine PS.imp (ps_asg (pe_tup h) (pg_tup hc q1 q2 q3) rfl hw rfl) fun D σ H hh => ?_
  obtain ⟨W, ρ, S, sr, q⟩ := parG_rd hh
  refine ⟨W, ρ, S, sr, At.weakQ q fun xs H1 ⟨l, n⟩ => ⟨by rw [l, sizeLine_lim]; exact hil, fun t ht => ?_⟩⟩
  exact ⟨t, xs, rfl, .inl (.inl upd_same), l, l, n t ht⟩
end
end Pi

end
section
set_option linter.all false
set_option maxRecDepth 100000
/-! PiM: does a term stand for a piece of the text? -/
namespace Pi
open PySem PySem.Spec PyProof.Rows L2
mutual
def sameV : Val → Val → Bool
  | .non, .non => true
  | .bl a, .bl b => a == b
  | .int a, .int b => decide (a = b)
  | .str a, .str b => decide (a = b)
  | .tup a, .tup b => sameVs a b
  | .lst a, .lst b => sameVs a b
  | _, _ => false
def sameVs : List Val → List Val → Bool
  | [], [] => true
  | a :: r, b :: s => sameV a b && sameVs r s
  | _, _ => false
end
mutual
theorem sameV_eq : ∀ {a b : Val}, sameV a b = true → a = b
  | .non, b, h => by cases b <;> first | rfl | (cases h; done)
  | .bl x, b, h => by
    cases b <;> try (cases h; done)
    rename_i y
    have h : (x == y) = true := h
    rw [eq_of_beq h]
  | .int x, b, h => by
    cases b <;> try (cases h; done)
    rename_i y
    rw [of_decide_eq_true (show decide (x = y) = true from h)]
  | .str x, b, h => by
    cases b <;> try (cases h; done)
    rename_i y
    rw [of_decide_eq_true (show decide (x = y) = true from h)]
  | .tup x, b, h => by
    cases b <;> try (cases h; done)
    rename_i y
    rw [sameVs_eq (show sameVs x y = true from h)]
  | .lst x, b, h => by
    cases b <;> try (cases h; done)
    rename_i y
    rw [sameVs_eq (show sameVs x y = true from h)]
  | .loc n, b, h => by cases b <;> cases h
  | .exn c x, b, h => by cases b <;> cases h
theorem sameVs_eq : ∀ {a b : List Val}, sameVs a b = true → a = b
  | [], b, h => by cases b <;> first | rfl | (cases h; done)
  | x :: r, b, h => by
    cases b with
    | nil => cases h
    | cons y s =>
      have h : (sameV x y && sameVs r s) = true := h
      rw [Bool.and_eq_true] at h
      rw [sameV_eq h.1, sameVs_eq h.2]
end
def sameKv : List (Str × Val) → List (Str × Val) → Bool
  | [], [] => true
  | a :: r, b :: s => decide (a.1 = b.1) && sameV a.2 b.2 && sameKv r s
  | _, _ => false
theorem sameKv_eq : ∀ {a b : List (Str × Val)}, sameKv a b = true → a = b
  | [], b, h => by cases b <;> first | rfl | (cases h; done)
  | (x1, x2) :: r, b, h => by
    cases b with
    | nil => cases h
    | cons y s =>
      obtain ⟨y1, y2⟩ := y
      have h : (decide (x1 = y1) && sameV x2 y2 && sameKv r s) = true := h
      rw [Bool.and_eq_true, Bool.and_eq_true] at h
      rw [of_decide_eq_true h.1.1, sameV_eq h.1.2, sameKv_eq h.2]

inductive K3 where | f | s | b
def kdOf (I : XI) (K : PySem.W.Frag) : K3 → Kd Val V
  | .f => kF I K
  | .s => kS I K
  | .b => kB I K
def le3 : K3 → K3 → Bool
  | .f, _ => true
  | .s, .f => false
  | .s, _ => true
  | .b, .b => true
  | .b, _ => false
/-- what stands at the top: the defs (how many parameters, whether what they give is fresh), the constants, the tables -/
structure Gt where
  fns : List (String × (Nat × Bool))
  gvs : List (String × Val)
  dxs : List (String × List (Str × Val))
/-- a block -/
structure Ct where
  N : List Str
  sc : Scope
  fn : Str → Bool
def glC (c : Ct) (x : Str) : Bool := decide (c.sc.names.lookup x = some .globalImplicit) && !(x == ("__debug__" : Str))
def nmC (x : Str) : Bool := !(x == ("__debug__" : Str)) && !(x == ("__classdict__" : Str))
def visC (c : Ct) (x : Str) : Bool := decide (c.sc.names.lookup x = some .local) || decide (c.sc.names.lookup x = some .cell) || decide (c.sc.names.lookup x = some .free)
def locC (c : Ct) (x : Str) : Bool := decide (c.sc.names.lookup x = some .local) || (decide (c.sc.names.lookup x = some .cell) && c.fn x)
def varC (c : Ct) (i : Nat) (x : Str) : Bool := nmC x && visC c x && decide (c.N[i]? = some x)
def tgtC (c : Ct) (i : Nat) (x : Str) : Bool := locC c x && decide (c.N[i]? = some x)
def bltN : List String := ["len", "abs", "int", "bool", "str", "tuple", "list", "all", "any", "sum", "min", "max", "range", "zip", "enumerate", "isinstance"]
def bltC (c : Ct) (n : String) (x : Str) : Bool := decide (x = (n : Str)) && bltN.contains n && glC c (n : Str)
def notSet : Expr → Bool
  | .Set .. => false
  | _ => true
def notStar : Expr → Bool
  | .Starred .. => false
  | _ => true
def pIx : Expr → Bool
  | .Slice .. => false
  | _ => true
def isCmp : Expr → Bool
  | .ListComp .. => true
  | .SetComp .. => true
  | .DictComp .. => true
  | _ => false
def opC (o : Bop) (op : Operator) : Bool := decide (bopO o = op)
def copC (o : Cop) (op : CmpOp) : Bool := decide (copO o = op)
def innerC (c : Ct) (scope : Scope) : Ct := { N := c.N, sc := relS scope c.sc, fn := fun x => scope.names.lookup x == some .cell }
def ownOf (c : Ct) (p : Pat) : List (Str × Nat) := p.vars.map fun i => ((c.N[i]?).getD Str.empty, i)
/-- name = [..] lays the list the short way -/
def swT (c : Ct) (x : Str) (px pos : Pos) (scope : Scope) : Bool := decide (c.sc.names.lookup x = some .local) && (px.line == pos.line) && !(scope.names.any fun (n, k) => n == x && (k == .local || k == .cell))
def plainT : Expr → Bool
  | .Compare .. => false
  | .UnaryOp .. => false
  | .BoolOp .. => false
  | .IfExp .. => false
  | _ => true
def tyStr : Expr → Option Str
  | .Name x _ => some x
  | _ => none

mutual
def chkE : Nat → Gt → Ct → List Nat → K3 → IE → Expr → Bool
  | 0, _, _, _, _, _, _ => false
  | n + 1, g, c, O, k, ie, ae => match ie with
    | .lv i => (match ae with
      | .Name x _ => varC c i x && (if O.contains i then le3 .b k else le3 .s k)
      | _ => false)
    | .cst v => (match ae with
      | .Constant (.int j) _ _ => sameV v (.int j)
      | .Constant (.bool j) _ _ => sameV v (.bl j)
      | .Constant .none _ _ => sameV v .non
      | .Constant (.str y) _ _ => sameV v (.str y) && decide (y.length ≤ lim) && PyData.strOk y
      | _ => false)
    | .gv x v => (match ae with
      | .Name y _ => decide (y = (x : Str)) && glC c y && le3 .s k && g.gvs.any fun q => q.1 == x && sameV q.2 v
      | _ => false)
    | .bin o a b => (match ae with
      | .BinOp ea op eb _ => opC o op && chkE n g c O .b a ea && chkE n g c O .b b eb
      | _ => false)
    | .neg a => (match ae with
      | .UnaryOp .USub ea _ => chkE n g c O .b a ea
      | _ => false)
    | .cmp o a b => (match ae with
      | .Compare ea [op] [eb] _ => copC o op && notSet eb && chkE n g c O .b a ea && chkE n g c O .b b eb
      | _ => false)
    | .not a => (match ae with
      | .UnaryOp .Not ea _ => chkE n g c O .b a ea
      | _ => false)
    | .and es => (match ae with
      | .BoolOp .And ees _ => chkAnd n g c O k es ees
      | _ => false)
    | .or es => (match ae with
      | .BoolOp .Or ees _ => chkAnd n g c O k es ees
      | _ => false)
    | .ite t a b => (match ae with
      | .IfExp et ea eb _ => chkT n g c O t et && chkE n g c O k a ea && chkE n g c O k b eb
      | _ => false)
    | .tup es => (match ae with
      | .Tuple ees _ _ => decide (es.length ≤ lim) && chkA n g c O false es ees
      | _ => false)
    | .lst es => (match ae with
      | .List ees _ => decide (es.length ≤ lim) && chkA n g c O false es ees
      | _ => false)
    | .box es => (match ae with
      | .List ees _ => decide (es.length ≤ lim) && chkA n g c O false es ees
      | _ => false)
    | .ix a i => (match ae with
      | .Subscript ea ei _ => le3 .s k && pIx ei && chkE n g c O .b a ea && chkE n g c O .b i ei
      | _ => false)
    | .sl a lo hi => (match ae with
      | .Subscript ea (.Slice elo ehi none _) _ => chkE n g c O .b a ea && chkO n g c O lo elo && chkO n g c O hi ehi
      | _ => false)
    | .call f es => (match ae with
      | .Call (.Name x _) ees [] _ => decide (x = (f : Str)) && glC c x && (match g.fns.lookup f with
        | some (m, fr) => decide (m = es.length) && le3 (if fr then .f else .s) k && chkA n g c O false es ees
        | none => false)
      | _ => false)
    | .bi b es => (match ae with
      | .Call (.Name x _) (ea :: er) [] _ => (match biN b with
        | some (_, m) => bltC c m x && chkA n g c O true es (ea :: er)
        | none => false)
      | .Call (.Attribute (.Constant (.str y) _ _) at_ apos) [ea] [] pos => (match b, es with
        | .join, [v, a] => (match v with
          | .cst w => sameV w (.str y) && decide (at_ = ("join" : Str)) && decide (y.length ≤ lim) && PyData.strOk y && (apos.endLine == pos.line) && notStar ea && chkE n g c O .b a ea
          | _ => false)
        | _, _ => false)
      | _ => false)
    | .isa e ts => (match ae with
      | .Call (.Name x _) [ee, .Name y _] [] _ => (match ts with
        | [t] => (match tyN t with
          | some m => bltC c "isinstance" x && bltC c m y && notStar ee && chkE n g c O .b e ee
          | none => false)
        | _ => false)
      | .Call (.Name x _) [ee, .Tuple tys _ _] [] _ => (match ts with
        | [t, t2] => (match tyN t, tyN t2 with
          | some m, some m2 => bltC c "isinstance" x && decide (tys.map tyStr = [some (m : Str), some (m2 : Str)]) && bltN.contains m && bltN.contains m2 && glC c (m : Str) && glC c (m2 : Str) && notStar ee && chkE n g c O .b e ee
          | _, _ => false)
        | _ => false)
      | _ => false)
    | .comp k its p cs e => (match ae with
      | .ListComp elt [⟨tg, iter, ifs, 0⟩] scope _ => chkC n g c O k its p cs e elt tg iter ifs scope
      | _ => false)
    | .dix x kvs a => (match ae with
      | .Subscript (.Name y _) ea _ => decide (y = (x : Str)) && glC c y && le3 .s k && pIx ea && (g.dxs.any fun q => q.1 == x && sameKv q.2 kvs) && chkE n g c O .b a ea
      | _ => false)
    | _ => false
/-- an argument list; true: as it is -/
def chkA : Nat → Gt → Ct → List Nat → Bool → List IE → List Expr → Bool
  | 0, _, _, _, _, _, _ => false
  | n + 1, g, c, O, k, es, ees => match es, ees with
    | [], [] => true
    | a :: r, ea :: er => notStar ea && chkE n g c O (if k then .b else .s) a ea && chkA n g c O k r er
    | _, _ => false
def chkAnd : Nat → Gt → Ct → List Nat → K3 → List IE → List Expr → Bool
  | 0, _, _, _, _, _, _ => false
  | n + 1, g, c, O, k, es, ees => match es, ees with
    | [a], [ea] => chkE n g c O k a ea
    | a :: b :: r, ea :: eb :: er => chkE n g c O .b a ea && chkAnd n g c O .f (b :: r) (eb :: er)
    | _, _ => false
def chkO : Nat → Gt → Ct → List Nat → List IE → Option Expr → Bool
  | 0, _, _, _, _, _ => false
  | n + 1, g, c, O, es, e => match es, e with
    | [], none => true
    | a :: _, some ea => chkE n g c O .b a ea
    | _, _ => false
/-- as a test -/
def chkT : Nat → Gt → Ct → List Nat → IE → Expr → Bool
  | 0, _, _, _, _, _ => false
  | n + 1, g, c, O, ie, ae => match ae with
    | .Compare ea [op] [eb] _ => (match ie with
      | .cmp o a b => copC o op && notSet eb && chkE n g c O .b a ea && chkE n g c O .b b eb
      | _ => false)
    | .UnaryOp .Not ea _ => (match ie with
      | .not a => chkT n g c O a ea
      | _ => false)
    | .BoolOp op ees _ => (match ie, op with
      | .and es, .And => chkTA n g c O es ees
      | .or es, .Or => chkTA n g c O es ees
      | _, _ => false)
    | _ => plainT ae && chkE n g c O .b ie ae
def chkTA : Nat → Gt → Ct → List Nat → List IE → List Expr → Bool
  | 0, _, _, _, _, _ => false
  | n + 1, g, c, O, es, ees => match es, ees with
    | [a], [ea] => chkT n g c O a ea
    | a :: b :: r, ea :: eb :: er => chkT n g c O a ea && chkTA n g c O (b :: r) (eb :: er)
    | _, _ => false
/-- what is walked -/
def chkI : Nat → Gt → Ct → List Nat → Nat → List IE → Expr → Expr → Bool
  | 0, _, _, _, _, _, _, _ => false
  | n + 1, g, c, O, k, its, tg, iter => notSet iter && (match k with
    | 0 => (match its with
      | [a] => chkE n g c O .s a iter
      | _ => false)
    | 1 => (match iter with
      | .Call (.Name x _) [ea] [] _ => bltC c "range" x && chkA n g c O false its [ea]
      | _ => false)
    | 2 => (match iter with
      | .Call (.Name x _) [ea, eb] [] _ => bltC c "range" x && chkA n g c O false its [ea, eb]
      | _ => false)
    | 4 => (match tg with
      | .Tuple .. => (match iter with
        | .Call (.Name x _) [ea, eb] [] _ => bltC c "zip" x && chkA n g c O false its [ea, eb]
        | _ => false)
      | _ => false)
    | 5 => (match tg with
      | .Tuple .. => (match iter with
        | .Call (.Name x _) [ea] [] _ => bltC c "enumerate" x && chkA n g c O false its [ea]
        | _ => false)
      | _ => false)
    | _ => false)
/-- targets -/
def chkP : Nat → Ct → Pat → Expr → Bool
  | 0, _, _, _ => false
  | n + 1, c, p, ae => match p with
    | .v i => (match ae with
      | .Name x _ => tgtC c i x
      | _ => false)
    | .tup ps => (match ae with
      | .Tuple es _ _ => chkPs n c ps none es
      | _ => false)
    | .star ps i => (match ae with
      | .Tuple es _ _ => chkPs n c ps (some i) es
      | _ => false)
def chkPs : Nat → Ct → List Pat → Option Nat → List Expr → Bool
  | 0, _, _, _, _ => false
  | n + 1, c, ps, o, es => match ps, es with
    | [], [] => (match o with
      | none => true
      | some _ => false)
    | [], [.Starred (.Name x _) _] => (match o with
      | some i => tgtC c i x
      | none => false)
    | p :: ps, e :: es => notStar e && chkP n c p e && chkPs n c ps o es
    | _, _ => false
def chkC : Nat → Gt → Ct → List Nat → Nat → List IE → Pat → List IE → IE → Expr → Expr → Expr → List Expr → Scope → Bool
  | 0, _, _, _, _, _, _, _, _, _, _, _, _, _ => false
  | n + 1, g, c, O, k, its, p, cs, e, elt, tg, iter, ifs, scope => blkC c.N c.sc scope (ownOf c p) && chkI n g c O k its tg iter && chkP n (innerC c scope) p tg && (match cs, ifs with
    | [], [] => true
    | [t], [et] => chkT n g (innerC c scope) (less O p.vars) t et
    | _, _ => false) && chkE n g (innerC c scope) (less O p.vars) .s e elt
end

/-! ### statements -/
def interO (a b : List Nat) : List Nat := a.filter b.contains
def subO (a b : List Nat) : Bool := a.all b.contains
abbrev RO := Option (Option (List Nat))
def joinO : RO → RO → RO
  | some none, r => r
  | r, some none => r
  | some (some a), some (some b) => some (some (interO a b))
  | _, _ => none
def namesL (c : Ct) (line : Nat) (ts : List Expr) : List Str := ts.filterMap fun
    | .Name id pos => if c.sc.names.lookup id == some .local && pos.line == line then some id else none
    | _ => none
def lineOf (ts : List Expr) : Nat := (ts.head?.map (·.pos.line)).getD 0
/-- no stores in another order -/
def swN (c : Ct) : Expr → Expr → Bool
  | .Tuple ts _ _, .Tuple vs _ _ => !(ts.length == 2 || ts.length == 3) || vs.length != ts.length || (vs.any fun | .Starred .. => true | _ => false) || ((namesL c (lineOf ts) ts).length != ts.length || (namesL c (lineOf ts) ts).eraseDups.length != (namesL c (lineOf ts) ts).length) || vs.all (foldedForSure 8)
  | .Tuple _ _ _, _ => true
  | _, _ => false
/-- stores in another order -/
def swS (c : Ct) (ts vs : List Expr) (xs : List Str) : Bool := (ts.length == 2 || ts.length == 3) && !(vs.length != ts.length) && !(vs.any fun | .Starred .. => true | _ => false) && decide (namesL c (lineOf ts) ts = xs) && !(xs.length != ts.length || xs.eraseDups.length != xs.length) && !vs.all (foldedForSure 8) && !vs.all (constantsAlone 8)
def lcC (c : Ct) (x : Str) (px : Pos) : Expr → Option Bool
  | .ListComp _ _ scope pos => some (swT c x px pos scope)
  | .SetComp .. => none
  | .DictComp .. => none
  | _ => some false
def chkM : Nat → Gt → Ct → List Nat → List (Nat × Bool) → List IE → List Expr → Bool
  | n, g, c, O, (_, m) :: is, e :: es, ee :: ees => notStar ee && chkE n g c O (if m then .f else .s) e ee && chkM n g c O is es ees
  | _, _, _, _, [], [], [] => true
  | _, _, _, _, _, _, _ => false
def namesC (c : Ct) : List (Nat × Bool) → List Expr → Bool
  | [], [] => true
  | (i, _) :: is, .Name x _ :: ts => tgtC c i x && namesC c is ts
  | _, _ => false
/-- what a loop leaves one's own -/
def fixO (f : List Nat → RO) : Nat → List Nat → Option (List Nat)
  | 0, _ => none
  | k + 1, O => match f O with
    | none => none
    | some none => some O
    | some (some r) => if subO O r then some O else fixO f k (interO O r)
mutual
def chkS : Nat → Gt → Ct → Bool → List Nat → List Nat → IS → Stmt → RO
  | 0, _, _, _, _, _, _, _ => none
  | n + 1, g, c, fr, OL, O, s, st => match s with
    | .pass => (match st with
      | .Pass _ => some (some O)
      | _ => none)
    | .brk => (match st with
      | .Break _ => if subO OL O then some none else none
      | _ => none)
    | .cnt => (match st with
      | .Continue _ => if subO OL O then some none else none
      | _ => none)
    | .expr e => (match st with
      | .Expr ee _ => if !isCmp ee && chkE n g c O .b e ee then some (some O) else none
      | _ => none)
    | .ret e => (match st with
      | .Return (some ee) _ => if fr then (if chkE n g c O .f e ee then some none else (match e, ee with
          | .lv i, .Name x _ => if O.contains i && varC c i x then some none else none
          | _, _ => none)) else if chkE n g c O .s e ee then some none else none
      | _ => none)
    | .retN => (match st with
      | .Return none _ => some none
      | _ => none)
    | .asg p e => (match st with
      | .Assign [tg] ee _ => (match p, tg with
        | .v i, .Name x px => if tgtC c i x then (match lcC c x px ee with
          | some false => if chkE n g c O .s e ee then some (some (less O [i])) else none
          | some true => (match e, ee with
            | .comp k its p cs e, .ListComp elt [⟨tg, iter, ifs, 0⟩] scope _ => if chkC n g c O k its p cs e elt tg iter ifs scope then some (some (less O [i])) else none
            | _, _ => none)
          | none => none) else none
        | p, tg => if swN c tg ee && chkP n c p tg && chkE n g c O .s e ee then some (some (less O p.vars)) else none)
      | _ => none)
    | .own i e => (match st with
      | .Assign [.Name x px] ee _ => if tgtC c i x then (match lcC c x px ee with
          | some false => if chkE n g c O .f e ee then some (some (i :: less O [i])) else none
          | some true => (match e, ee with
            | .comp k its p cs e, .ListComp elt [⟨tg, iter, ifs, 0⟩] scope _ => if chkC n g c O k its p cs e elt tg iter ifs scope then some (some (i :: less O [i])) else none
            | _, _ => none)
          | none => none) else none
      | _ => none)
    | .par is es => (match st with
      | .Assign [.Tuple ts kt pt] (.Tuple vs kv pv) _ => if swN c (.Tuple ts kt pt) (.Tuple vs kv pv) then (if namesC c is ts && chkM n g c O is es vs && decide (es.length ≤ lim) && decide (is.length ≤ lim) then some (some (parO O is)) else none) else (match is, ts, vs with
        | [(i, mi), (j, mj)], [.Name x px, .Name y py], [ea, eb] => if tgtC c i x && tgtC c j y && decide (i ≠ j) && decide (c.sc.names.lookup x = some .local) && decide (c.sc.names.lookup y = some .local) && chkM n g c O is es vs && swS c ts vs [x, y] then some (some (parO O is)) else none
        | [(i, mi), (j, mj), (l, ml)], [.Name x px, .Name y py, .Name z pz], [ea, eb, ec] => if tgtC c i x && tgtC c j y && tgtC c l z && decide (i ≠ j) && decide (i ≠ l) && decide (j ≠ l) && decide (c.sc.names.lookup x = some .local) && decide (c.sc.names.lookup y = some .local) && decide (c.sc.names.lookup z = some .local) && chkM n g c O is es vs && swS c ts vs [x, y, z] then some (some (parO O is)) else none
        | _, _, _ => none)
      | _ => none)
    | .setL i k e => (match st with
      | .Assign [.Subscript (.Name x _) ek _] ee _ => if O.contains i && varC c i x && pIx ek && chkE n g c O .s e ee && chkE n g c O .b k ek then some (some O) else none
      | _ => none)
    | .setB b k e => (match st with
      | .Assign [.Subscript eb ek _] ee _ => if pIx ek && chkE n g c O .s e ee && chkE n g c O .s b eb && chkE n g c O .b k ek then some (some O) else none
      | _ => none)
    | .app i e => (match st with
      | .Expr (.Call (.Attribute (.Name x _) at_ apos) [ee] [] cpos) _ => if decide (at_ = ("append" : Str)) && O.contains i && varC c i x && (apos.endLine == cpos.line) && notStar ee && chkE n g c O .s e ee then some (some O) else none
      | _ => none)
    | .ite t a b => (match st with
      | .If et ea eb _ => if chkT n g c O t et then joinO (chkSs n g c fr OL O a ea) (chkSs n g c fr OL O b eb) else none
      | _ => none)
    | .forr k its p b => (match st with
      | .For tg iter body [] _ => if chkI n g c O k its tg iter && chkP n c p tg then (fixO (fun O1 => chkSs n g c fr O1 (less O1 p.vars) b body) 4 O).map some else none
      | _ => none)
    | .whil t b => (match st with
      | .While et body [] _ => (match fixO (fun O1 => chkSs n g c fr O1 O1 b body) 4 O with
        | some O1 => if chkT n g c O1 t et then some (some O1) else none
        | none => none)
      | _ => none)
    | _ => none
def chkSs : Nat → Gt → Ct → Bool → List Nat → List Nat → List IS → List Stmt → RO
  | 0, _, _, _, _, _, _, _ => none
  | n + 1, g, c, fr, OL, O, ss, sts => match ss with
    | [] => (match sts with
      | [] => some (some O)
      | _ => none)
    | .share i :: r => chkSs n g c fr OL (less O [i]) r sts
    | s :: r => (match sts with
      | [] => none
      | st :: rest => (match chkS n g c fr OL O s st with
        | none => none
        | some none => some none
        | some (some O1) => chkSs n g c fr OL O1 r rest))
end
end Pi

end
section
set_option linter.all false
set_option maxRecDepth 100000
/-! PiN: what the check says holds. -/
namespace Pi
open PySem PySem.Spec PyProof.Rows L2
/-- a block that stands as c says -/
structure XOk (g : Gt) (c : Ct) (X : Cx) (I : XI) (E : XK) (cf : String → List Val → Store → Res Val) : Prop where
  N : X.N = c.N
  sc : X.env.scope = c.sc
  fn : X.fn = c.fn
  nd : X.N.Nodup
  kd : X.env.scope.kind = .function
  calm : X.calm = true
  un : X.A.units + 65 < cLine
  po : PassesOwn (model X.prog X.w) X.A X.env X.xe
  px : Passes (L2.CX X.prog X.w) X E
  fns : ∀ f m fr, g.fns.lookup f = some (m, fr) → CanCall X I cf (f : Str) f m fr
  gvs : ∀ q ∈ g.gvs, GvOk I X.K X.mg (q.1 : Str) q.2
  dxs : ∀ q ∈ g.dxs, DxOk X I (q.1 : Str) q.2
  blt : ∀ n ∈ bltN, X.mg (n : Str) = none
section
variable {g : Gt} {c : Ct} {X : Cx} {I : XI} {E : XK} {sg : Sig} {cf : String → List Val → Store → Res Val} {O : List Nat}
theorem conv {a b : K3} {m : Env → Store → Res Val} {e : Expr} (h : JE X I E O (kdOf I X.K a) m e) (l : le3 a b = true) : JE X I E O (kdOf I X.K b) m e := by
  cases a <;> cases b <;> first | exact h | exact je_share h | exact je_kb h | exact je_fb h | (cases l; done)
theorem convF {b : K3} {m : Env → Store → Res Val} {e : Expr} (h : JE X I E O (kF I X.K) m e) : JE X I E O (kdOf I X.K b) m e := conv (a := .f) h (by cases b <;> rfl)
theorem kd_anti {k : K3} : Anti (kdOf I X.K k) := by
  cases k
  · exact kF_anti _ _
  · exact kS_anti _ _
  · exact kB_anti _ _
theorem var_ok (x : XOk g c X I E cf) {i : Nat} {y : Str} (h : varC c i y = true) : X.N[i]? = some y ∧ Vis X.env.scope y ∧ (y == ("__debug__" : Str)) = false ∧ (y == ("__classdict__" : Str)) = false := by
  unfold varC nmC visC at h
  simp only [Bool.and_eq_true, Bool.not_eq_true', Bool.or_eq_true, decide_eq_true_eq] at h
  obtain ⟨⟨⟨h1, h2⟩, h3⟩, h4⟩ := h
  refine ⟨by rw [x.N]; exact h4, ?_, h1, h2⟩
  unfold Vis
  rw [x.sc]
  rcases h3 with (h3 | h3) | h3
  · exact .inl h3
  · exact .inr (.inl h3)
  · exact .inr (.inr h3)
theorem tgt_ok (x : XOk g c X I E cf) {i : Nat} {y : Str} (h : tgtC c i y = true) : X.N[i]? = some y ∧ L2.Loc X.env.scope y ∧ (X.fn y = true ∨ X.env.scope.names.lookup y = some .local) := by
  unfold tgtC locC at h
  simp only [Bool.and_eq_true, Bool.or_eq_true, decide_eq_true_eq] at h
  obtain ⟨h3, h4⟩ := h
  unfold L2.Loc
  rw [x.sc, x.fn, x.N]
  refine ⟨h4, ?_, ?_⟩
  · rcases h3 with h3 | h3
    · exact .inl h3
    · exact .inr h3.1
  · rcases h3 with h3 | h3
    · exact .inr h3
    · exact .inl h3.2
theorem gl_ok (x : XOk g c X I E cf) {y : Str} (h : glC c y = true) : Gl X y ∧ (y == ("__debug__" : Str)) = false := by
  unfold glC at h
  simp only [Bool.and_eq_true, Bool.not_eq_true', decide_eq_true_eq] at h
  exact ⟨by show X.env.scope.names.lookup y = _; rw [x.sc]; exact h.1, h.2⟩
theorem blt_ok (x : XOk g c X I E cf) {n : String} {y : Str} (h : bltC c n y = true) : y = (n : Str) ∧ Gl X (n : Str) ∧ ((n : Str) == ("__debug__" : Str)) = false ∧ X.mg (n : Str) = none := by
  unfold bltC at h
  rw [Bool.and_eq_true, Bool.and_eq_true] at h
  have q := gl_ok x h.2
  exact ⟨of_decide_eq_true h.1.1, q.1, q.2, x.blt n (List.contains_iff_mem.mp h.1.2)⟩
theorem star_cons {e : Expr} {es : List Expr} {env : PySem.Env} (h : notStar e = true) : starEach (e :: es) env = (false, eval e env) :: starEach es env := by
  cases e <;> first | rfl | (cases h; done)
theorem stars_no {pos : Pos} {env : PySem.Env} : ∀ {es : List Expr}, (∀ e ∈ es, notStar e = true) → (backTo pos (starEach es env)).any (·.1) = false
  | [], _ => rfl
  | e :: es, h => by
    rw [star_cons (h e (List.mem_cons_self ..))]
    show (false || (backTo pos (starEach es env)).any (·.1)) = false
    rw [Bool.false_or]
    exact stars_no fun a ha => h a (List.mem_cons_of_mem _ ha)
theorem pix_ok {e : Expr} (h : pIx e = true) : PlainIx e := by
  intro o i
  cases e <;> first | rfl | (cases h; done)
theorem set_no {e : Expr} (h : notSet e = true) : ∀ es k p, e ≠ .Set es k p := by
  intro es k p z
  subst z
  cases h
theorem fold_no {e : Expr} {env : PySem.Env} (h : notSet e = true) : ∀ x, foldedSetIterable e env x = pure x := by
  intro x
  cases e <;> first | rfl | (cases h; done)
theorem sl_no {e : Expr} (h : pIx e = true) : ∀ l u p, e ≠ .Slice l u none p := by
  intro l u p z
  subst z
  cases h
theorem plain_ok {e : Expr} {env : PySem.Env} (h : plainT e = true) : ∀ whole, isTrue e env whole = (do let v ← whole; standAt e.pos; holding [v] (truthy v)) := by
  intro whole
  cases e <;> first | rfl | (cases h; done)
theorem op_ok {o : Bop} {op : Operator} (h : opC o op = true) : op = bopO o := (of_decide_eq_true h).symm
theorem cop_eq {o : Cop} {op : CmpOp} (h : copC o op = true) : op = copO o := (of_decide_eq_true h).symm
theorem bi_boot {b : Bi} {t : Bool} {n : String} (h : biN b = some (t, n)) : bootBuiltins (n : Str) = some (if t then .type n else .builtin n) ∧ (n : Str) ≠ "__name__" ∧ ((n : Str) == ("__debug__" : Str)) = false := by
  cases b <;> cases h <;> refine ⟨by rfl, by decide, by decide⟩

/-! ### targets -/
theorem asg_cons {e : Expr} {es : List Expr} {env : PySem.Env} (h : notStar e = true) : assignEach (e :: es) env = (false, assign e env) :: assignEach es env := by
  cases e <;> first | rfl | (cases h; done)
def PsOk (X : Cx) (I : XI) (ps : List Pat) (o : Option Nat) (es : List Expr) : Prop := match o with
  | none => (∀ O, PGs X es (gPs I X.K O ps)) ∧ (assignEach es X.env).length = ps.length ∧ (assignEach es X.env).findIdx? (·.1) = none
  | some i => (∀ O, PGs X es (gPs I X.K O (ps ++ [.v i]))) ∧ (assignEach es X.env).length = ps.length + 1 ∧ (assignEach es X.env).findIdx? (·.1) = some ps.length
theorem gs_star {p : Pat} {y : Str} {py sp : Pos} {O : List Nat} (h : PG X (.Name y py) (gP I X.K O p)) : PGs X [.Starred (.Name y py) sp] (gPs I X.K O [p]) :=
  ⟨fun pins s σ H vs us Q J r q => (gs_cons h (gs_nil (I := I) (O := less O p.vars)) rfl).run pins s σ H vs us Q J r q⟩
theorem ps_sound : ∀ (n : Nat) {c : Ct} {X : Cx} {E : XK}, XOk g c X I E cf → (∀ {p : Pat} {e : Expr}, chkP n c p e = true → ∀ O, PG X e (gP I X.K O p)) ∧ (∀ {ps : List Pat} {o : Option Nat} {es : List Expr}, chkPs n c ps o es = true → PsOk X I ps o es)
  | 0, _, _, _, _ => ⟨fun h => (by cases h), fun h => (by cases h)⟩
  | n + 1, c, X, E, x => by
    obtain ⟨ih1, ih2⟩ := ps_sound n x
    refine ⟨fun {p e} h O => ?_, fun {ps o es} h => ?_⟩
    · unfold chkP at h
      cases p with
      | v i =>
        simp only at h
        split at h
        · obtain ⟨h1, h2, h3⟩ := tgt_ok x h
          exact g_v x.nd h1 h2 h3
        · cases h
      | tup ps =>
        simp only at h
        split at h
        · obtain ⟨h1, h2, h3⟩ := ih2 h
          exact g_tup x.calm (h1 O) h2 h3
        · cases h
      | star ps i =>
        simp only at h
        split at h
        · obtain ⟨h1, h2, h3⟩ := ih2 h
          exact g_star x.calm (h1 O) h2 h3
        · cases h
    · unfold chkPs at h
      split at h
      · split at h
        · exact ⟨fun O => gs_nil, rfl, rfl⟩
        · cases h
      · split at h
        · obtain ⟨h1, h2, h3⟩ := tgt_ok x h
          exact ⟨fun O => gs_star (g_v x.nd h1 h2 h3), rfl, rfl⟩
        · cases h
      · rename_i p ps e es
        rw [Bool.and_eq_true, Bool.and_eq_true] at h
        have q1 := ih1 h.1.2
        have q2 := ih2 h.2
        have ea := asg_cons (es := es) (env := X.env) h.1.1
        have em : (assignEach (e :: es) X.env).map (·.2) = assign e X.env :: (assignEach es X.env).map (·.2) := by rw [ea]; rfl
        cases o with
        | none =>
          obtain ⟨h1, h2, h3⟩ := q2
          refine ⟨fun O => gs_cons (q1 O) (h1 _) em, by rw [ea, List.length_cons, h2]; rfl, ?_⟩
          rw [ea, List.findIdx?_cons]
          simp [h3]
        | some i =>
          obtain ⟨h1, h2, h3⟩ := q2
          refine ⟨fun O => gs_cons (q1 O) (h1 _) em, by rw [ea, List.length_cons, h2]; rfl, ?_⟩
          rw [ea, List.findIdx?_cons]
          simp [h3]
      · cases h
end

/-! ### expressions -/
section
variable (g : Gt) (I : XI) (sg : Sig) (cf : String → List Val → Store → Res Val)
structure Snd (n : Nat) : Prop where
  e : ∀ {c : Ct} {X : Cx} {E : XK} {O : List Nat} {k : K3} {ie : IE} {ae : Expr}, XOk g c X I E cf → chkE n g c O k ie ae = true → JE X I E O (kdOf I X.K k) (fun ρ S => evE sg cf ρ ie S) ae
  a : ∀ {c : Ct} {X : Cx} {E : XK} {O : List Nat} {k : Bool} {es : List IE} {ees : List Expr}, XOk g c X I E cf → chkA n g c O k es ees = true →
    JA X I E O (if k then kBs I X.K else kSs I X.K) (fun ρ S => evEs sg cf ρ es S) ees ∧ (∀ e ∈ ees, notStar e = true) ∧ es.length = ees.length
  an : ∀ {c : Ct} {X : Cx} {E : XK} {O : List Nat} {k : K3} {es : List IE} {ees : List Expr} {pos : Pos}, XOk g c X I E cf → chkAnd n g c O k es ees = true →
    JE X I E O (kdOf I X.K k) (fun ρ S => evAnd sg cf ρ es S) (.BoolOp .And ees pos) ∧ JE X I E O (kdOf I X.K k) (fun ρ S => evOr sg cf ρ es S) (.BoolOp .Or ees pos)
  o : ∀ {c : Ct} {X : Cx} {E : XK} {O : List Nat} {es : List IE} {e : Option Expr}, XOk g c X I E cf → chkO n g c O es e = true → JO X I E O (fun ρ S => evO sg cf ρ es S) e
  t : ∀ {c : Ct} {X : Cx} {E : XK} {O : List Nat} {ie : IE} {ae : Expr}, XOk g c X I E cf → chkT n g c O ie ae = true → JT X I E O (fun ρ S => evT sg cf ρ ie S) ae
  ta : ∀ {c : Ct} {X : Cx} {E : XK} {O : List Nat} {es : List IE} {ees : List Expr} {pos : Pos}, XOk g c X I E cf → chkTA n g c O es ees = true →
    JW X I E O (fun ρ S => evAndT sg cf ρ es S) (.BoolOp .And ees pos) ∧ JW X I E O (fun ρ S => evOrT sg cf ρ es S) (.BoolOp .Or ees pos)
  i : ∀ {c : Ct} {X : Cx} {E : XK} {O : List Nat} {k : Nat} {its : List IE} {tg iter : Expr}, XOk g c X I E cf → chkI n g c O k its tg iter = true → JI X I E O (evIt sg cf k its) tg iter ∧ notSet iter = true
  c : ∀ {c : Ct} {X : Cx} {E : XK} {O : List Nat} {k : Nat} {its : List IE} {p : Pat} {cs : List IE} {e : IE} {elt tg iter : Expr} {ifs : List Expr} {scope : Scope}, XOk g c X I E cf → chkC n g c O k its p cs e elt tg iter ifs scope = true →
    JI X I E O (evIt sg cf k its) tg iter ∧ notSet iter = true ∧ ∃ own : List (Str × Nat), BlkOk X.N X.env.scope scope own ∧ own.map (·.2) = p.vars ∧
    (∀ (s : Shared) (H : Hp) (C : Addr) (cl : List (Str × Addr)) (fp : List Addr), PG (X.blk s H scope (compEnvC scope cl C X.env) fp) tg (gP I X.K O p)) ∧
    (∀ (s : Shared) (H : Hp) (C : Addr) (cl : List (Str × Addr)) (fp : List Addr), PTs (X.blk s H scope (compEnvC scope cl C X.env) fp) ifs (rd I X.K E0' (less O p.vars) kT (fun ρ S => evTs sg cf ρ cs S))) ∧
    (∀ (s : Shared) (H : Hp) (C : Addr) (cl : List (Str × Addr)) (fp : List Addr), PE (X.blk s H scope (compEnvC scope cl C X.env) fp) elt (rd I X.K E0' (less O p.vars) (kS I X.K) (fun ρ S => evE sg cf ρ e S)))
end
section
variable {g : Gt} {I : XI} {sg : Sig} {cf : String → List Val → Store → Res Val}
theorem XOk.blk {c : Ct} {X : Cx} {E : XK} {s : Shared} {H : Hp} {C : Addr} {cl : List (Str × Addr)} {fp : List Addr} {scope : Scope} {own : List (Str × Nat)} (x : XOk g c X I E cf) (ok : BlkOk X.N X.env.scope scope own) :
    XOk g (innerC c scope) (X.blk s H scope (compEnvC scope cl C X.env) fp) I E0' cf where
  N := x.N
  sc := by
    show relS scope X.env.scope = relS scope c.sc
    rw [x.sc]
  fn := rfl
  nd := x.nd
  kd := ok.kind
  calm := x.calm
  un := x.un
  po := .never
  px := by
    intro pins σ H s e s' J q
    obtain ⟨_, _, _, _, _, _, _, _, _, _, _, _, z⟩ := q
    exact z
  fns := fun f m fr h => ⟨(x.fns f m fr h).ex⟩
  gvs := x.gvs
  dxs := fun q hq => x.dxs q hq
  blt := x.blt
theorem snd_a {n : Nat} (ih : Snd g I sg cf n) {c : Ct} {X : Cx} {E : XK} {O : List Nat} {k : Bool} {es : List IE} {ees : List Expr} (x : XOk g c X I E cf) (h : chkA (n + 1) g c O k es ees = true) :
    JA X I E O (if k then kBs I X.K else kSs I X.K) (fun ρ S => evEs sg cf ρ es S) ees ∧ (∀ e ∈ ees, notStar e = true) ∧ es.length = ees.length := by
  unfold chkA at h
  split at h
  · refine ⟨?_, fun e he => by (cases he), rfl⟩
    cases k
    · exact ja_nilS
    · exact ja_nilB
  · rename_i a r ea er
    rw [Bool.and_eq_true, Bool.and_eq_true] at h
    obtain ⟨h1, h2, h3⟩ := ih.a x h.2
    have q := ih.e x h.1.2
    refine ⟨?_, fun e he => ?_, by rw [List.length_cons, List.length_cons, h3]⟩
    · cases k
      · exact ja_consS q h1 (star_cons h.1.1)
      · exact ja_consB q h1 (star_cons h.1.1)
    · rcases List.mem_cons.mp he with rfl | he
      · exact h.1.1
      · exact h2 e he
  · cases h
theorem snd_an {n : Nat} (ih : Snd g I sg cf n) {c : Ct} {X : Cx} {E : XK} {O : List Nat} {k : K3} {es : List IE} {ees : List Expr} {pos : Pos} (x : XOk g c X I E cf) (h : chkAnd (n + 1) g c O k es ees = true) :
    JE X I E O (kdOf I X.K k) (fun ρ S => evAnd sg cf ρ es S) (.BoolOp .And ees pos) ∧ JE X I E O (kdOf I X.K k) (fun ρ S => evOr sg cf ρ es S) (.BoolOp .Or ees pos) := by
  unfold chkAnd at h
  split at h
  · exact ⟨j_and1 (ih.e x h), j_or1 (ih.e x h)⟩
  · rw [Bool.and_eq_true] at h
    have q1 := ih.e x h.1
    have q2 := ih.an (pos := pos) x h.2
    exact ⟨convF (j_and q1 q2.1), convF (j_or q1 q2.2)⟩
  · cases h
theorem snd_o {n : Nat} (ih : Snd g I sg cf n) {c : Ct} {X : Cx} {E : XK} {O : List Nat} {es : List IE} {e : Option Expr} (x : XOk g c X I E cf) (h : chkO (n + 1) g c O es e = true) : JO X I E O (fun ρ S => evO sg cf ρ es S) e := by
  unfold chkO at h
  split at h
  · exact jo_none
  · exact jo_some (ih.e x h)
  · cases h
theorem snd_ta {n : Nat} (ih : Snd g I sg cf n) {c : Ct} {X : Cx} {E : XK} {O : List Nat} {es : List IE} {ees : List Expr} {pos : Pos} (x : XOk g c X I E cf) (h : chkTA (n + 1) g c O es ees = true) :
    JW X I E O (fun ρ S => evAndT sg cf ρ es S) (.BoolOp .And ees pos) ∧ JW X I E O (fun ρ S => evOrT sg cf ρ es S) (.BoolOp .Or ees pos) := by
  unfold chkTA at h
  split at h
  · exact ⟨jw_and1 (ih.t x h), jw_or1 (ih.t x h)⟩
  · rw [Bool.and_eq_true] at h
    have q1 := ih.t x h.1
    have q2 := ih.ta (pos := pos) x h.2
    exact ⟨jw_and q1 q2.1, jw_or q1 q2.2⟩
  · cases h
theorem snd_t {n : Nat} (ih : Snd g I sg cf n) {c : Ct} {X : Cx} {E : XK} {O : List Nat} {ie : IE} {ae : Expr} (x : XOk g c X I E cf) (h : chkT (n + 1) g c O ie ae = true) : JT X I E O (fun ρ S => evT sg cf ρ ie S) ae := by
  unfold chkT at h
  split at h
  · split at h
    · simp only [Bool.and_eq_true] at h
      rw [cop_eq h.1.1.1]
      exact jt_cmp x.un (set_no h.1.1.2) (ih.e x h.1.2) (ih.e x h.2)
    · cases h
  · split at h
    · exact jt_not (ih.t x h)
    · cases h
  · rename_i op ees pos
    split at h
    · have q := (ih.ta (pos := pos) x h).1.pt
      refine ⟨fun pins s σ H Q J ⟨W, ρ, S, sr, z⟩ => q.run pins s σ H Q J ⟨W, ρ, S, sr, ?_⟩⟩
      simpa only [evT, evE, evAndT] using z
    · have q := (ih.ta (pos := pos) x h).2.pt
      refine ⟨fun pins s σ H Q J ⟨W, ρ, S, sr, z⟩ => q.run pins s σ H Q J ⟨W, ρ, S, sr, ?_⟩⟩
      simpa only [evT, evE, evOrT] using z
    · cases h
  · rw [Bool.and_eq_true] at h
    exact jt_any (plain_ok h.1) (ih.e x h.2)
theorem snd_i {n : Nat} (ih : Snd g I sg cf n) {c : Ct} {X : Cx} {E : XK} {O : List Nat} {k : Nat} {its : List IE} {tg iter : Expr} (x : XOk g c X I E cf) (h : chkI (n + 1) g c O k its tg iter = true) : JI X I E O (evIt sg cf k its) tg iter ∧ notSet iter = true := by
  unfold chkI at h
  rw [Bool.and_eq_true] at h
  refine ⟨?_, h.1⟩
  replace h := h.2
  split at h
  · split at h
    · exact ji_seq (ih.e x h)
    · cases h
  · split at h
    · rw [Bool.and_eq_true] at h
      obtain ⟨rfl, h1, h2, h3⟩ := blt_ok x h.1
      obtain ⟨h4, h5, h6⟩ := ih.a x h.2
      exact ji_range1 h1 h3 h4 (star_cons (h5 _ (List.mem_cons_self ..)))
    · cases h
  · split at h
    · rw [Bool.and_eq_true] at h
      obtain ⟨rfl, h1, h2, h3⟩ := blt_ok x h.1
      obtain ⟨h4, h5, h6⟩ := ih.a x h.2
      have s1 := h5 _ (List.mem_cons_self ..)
      have s2 := h5 _ (List.mem_cons_of_mem _ (List.mem_cons_self ..))
      exact ji_range2 h1 h3 h4 (by rw [star_cons s1, star_cons s2]; rfl) (star_cons s2)
    · cases h
  · split at h
    · split at h
      · rw [Bool.and_eq_true] at h
        obtain ⟨rfl, h1, h2, h3⟩ := blt_ok x h.1
        obtain ⟨h4, h5, h6⟩ := ih.a x h.2
        have s1 := h5 _ (List.mem_cons_self ..)
        exact ji_zip h1 h3 h4 (star_cons s1) (stars_no fun e he => h5 e (List.mem_cons_of_mem _ he))
      · cases h
    · cases h
  · split at h
    · split at h
      · rw [Bool.and_eq_true] at h
        obtain ⟨rfl, h1, h2, h3⟩ := blt_ok x h.1
        obtain ⟨h4, h5, h6⟩ := ih.a x h.2
        exact ji_enum h1 h3 h4 (star_cons (h5 _ (List.mem_cons_self ..)))
      · cases h
    · cases h
  · cases h
theorem snd_c {n : Nat} (ih : Snd g I sg cf n) {c : Ct} {X : Cx} {E : XK} {O : List Nat} {k : Nat} {its : List IE} {p : Pat} {cs : List IE} {e : IE} {elt tg iter : Expr} {ifs : List Expr} {scope : Scope} (x : XOk g c X I E cf) (h : chkC (n + 1) g c O k its p cs e elt tg iter ifs scope = true) :
    JI X I E O (evIt sg cf k its) tg iter ∧ notSet iter = true ∧ ∃ own : List (Str × Nat), BlkOk X.N X.env.scope scope own ∧ own.map (·.2) = p.vars ∧
    (∀ (s : Shared) (H : Hp) (C : Addr) (cl : List (Str × Addr)) (fp : List Addr), PG (X.blk s H scope (compEnvC scope cl C X.env) fp) tg (gP I X.K O p)) ∧
    (∀ (s : Shared) (H : Hp) (C : Addr) (cl : List (Str × Addr)) (fp : List Addr), PTs (X.blk s H scope (compEnvC scope cl C X.env) fp) ifs (rd I X.K E0' (less O p.vars) kT (fun ρ S => evTs sg cf ρ cs S))) ∧
    (∀ (s : Shared) (H : Hp) (C : Addr) (cl : List (Str × Addr)) (fp : List Addr), PE (X.blk s H scope (compEnvC scope cl C X.env) fp) elt (rd I X.K E0' (less O p.vars) (kS I X.K) (fun ρ S => evE sg cf ρ e S))) := by
  unfold chkC at h
  simp only [Bool.and_eq_true] at h
  obtain ⟨⟨⟨⟨h1, h2⟩, h3⟩, h4⟩, h5⟩ := h
  have ok : BlkOk X.N X.env.scope scope (ownOf c p) := by
    rw [x.N, x.sc]
    exact blkOk_by h1
  obtain ⟨q1, q2⟩ := ih.i x h2
  refine ⟨q1, q2, ownOf c p, ok, ?_, fun s H C cl fp => ?_, fun s H C cl fp => ?_, fun s H C cl fp => ?_⟩
  · unfold ownOf
    rw [List.map_map]
    exact List.map_id' _
  · exact (ps_sound n (x.blk (s := s) (H := H) (C := C) (cl := cl) (fp := fp) ok)).1 h3 O
  · split at h4
    · exact jts_nil
    · exact jts_one (ih.t (x.blk ok) h4)
    · cases h4
  · exact ih.e (k := .s) (x.blk ok) h5
theorem any_gv {x : String} {v : Val} : ∀ {l : List (String × Val)}, (l.any fun q => q.1 == x && sameV q.2 v) = true → (x, v) ∈ l := by
  intro l h
  rw [List.any_eq_true] at h
  obtain ⟨⟨a, b⟩, h1, h2⟩ := h
  rw [Bool.and_eq_true] at h2
  have e1 : a = x := eq_of_beq h2.1
  have e2 := sameV_eq h2.2
  simp only at e2
  rw [← e1, ← e2]
  exact h1
theorem any_dx {x : String} {v : List (Str × Val)} : ∀ {l : List (String × List (Str × Val))}, (l.any fun q => q.1 == x && sameKv q.2 v) = true → (x, v) ∈ l := by
  intro l h
  rw [List.any_eq_true] at h
  obtain ⟨⟨a, b⟩, h1, h2⟩ := h
  rw [Bool.and_eq_true] at h2
  have e1 : a = x := eq_of_beq h2.1
  have e2 := sameKv_eq h2.2
  simp only at e2
  rw [← e1, ← e2]
  exact h1
theorem snd_e {n : Nat} (ih : Snd g I sg cf n) {c : Ct} {X : Cx} {E : XK} {O : List Nat} {k : K3} {ie : IE} {ae : Expr} (x : XOk g c X I E cf) (h : chkE (n + 1) g c O k ie ae = true) : JE X I E O (kdOf I X.K k) (fun ρ S => evE sg cf ρ ie S) ae := by
  unfold chkE at h
  cases ie with
  | lv i =>
    simp only at h
    split at h
    · rw [Bool.and_eq_true] at h
      obtain ⟨h1, h2, h3, h4⟩ := var_ok x h.1
      by_cases hO : i ∈ O
      · rw [if_pos (by simpa using hO)] at h
        exact conv (a := .b) (j_lvB h1 h2 h3 h4) h.2
      · rw [if_neg (by simpa using hO)] at h
        exact conv (a := .s) (j_lv h1 h2 h3 h4 hO) h.2
    · cases h
  | cst v =>
    simp only at h
    split at h
    · rw [sameV_eq h]
      exact convF j_int
    · rw [sameV_eq h]
      exact convF j_bool
    · rw [sameV_eq h]
      exact convF j_non
    · simp only [Bool.and_eq_true, decide_eq_true_eq] at h
      rw [sameV_eq h.1.1]
      exact convF (j_str h.1.2 h.2)
    · cases h
  | gv y v =>
    simp only at h
    split at h
    · simp only [Bool.and_eq_true, decide_eq_true_eq] at h
      obtain ⟨⟨⟨rfl, h1⟩, h2⟩, h3⟩ := h
      obtain ⟨h4, h5⟩ := gl_ok x h1
      exact conv (a := .s) (j_gv (x.gvs _ (any_gv h3)) h4 h5) h2
    · cases h
  | bin o a b =>
    simp only at h
    split at h
    · simp only [Bool.and_eq_true] at h
      rw [op_ok h.1.1]
      exact convF (j_bin (ih.e x h.1.2) (ih.e x h.2))
    · cases h
  | neg a =>
    simp only at h
    split at h
    · exact convF (j_neg (ih.e x h))
    · cases h
  | cmp o a b =>
    simp only at h
    split at h
    · simp only [Bool.and_eq_true] at h
      rw [cop_eq h.1.1.1]
      exact convF (j_cmp x.un (set_no h.1.1.2) (ih.e x h.1.2) (ih.e x h.2))
    · cases h
  | not a =>
    simp only at h
    split at h
    · exact convF (j_not (ih.e x h))
    · cases h
  | and es =>
    simp only at h
    split at h
    · simp only [evE]
      exact (ih.an x h).1
    · cases h
  | or es =>
    simp only at h
    split at h
    · simp only [evE]
      exact (ih.an x h).2
    · cases h
  | ite t a b =>
    simp only at h
    split at h
    · simp only [Bool.and_eq_true] at h
      exact j_ite kd_anti (ih.t x h.1.1) (ih.e x h.1.2) (ih.e x h.2)
    · cases h
  | tup es =>
    simp only at h
    split at h
    · simp only [Bool.and_eq_true, decide_eq_true_eq] at h
      exact convF (j_tup h.1 (ih.a x h.2).1)
    · cases h
  | lst es =>
    simp only at h
    split at h
    · simp only [Bool.and_eq_true, decide_eq_true_eq] at h
      exact convF (j_lst h.1 (ih.a x h.2).1)
    · cases h
  | box es =>
    simp only at h
    split at h
    · simp only [Bool.and_eq_true, decide_eq_true_eq] at h
      exact convF (j_box h.1 (ih.a x h.2).1)
    · cases h
  | ix a i =>
    simp only at h
    split at h
    · simp only [Bool.and_eq_true] at h
      exact conv (a := .s) (j_ix (pix_ok h.1.1.2) (ih.e x h.1.2) (ih.e x h.2)) h.1.1.1
    · cases h
  | sl a lo hi =>
    simp only at h
    split at h
    · simp only [Bool.and_eq_true] at h
      exact convF (j_sl (ih.e x h.1.1) (ih.o x h.1.2) (ih.o x h.2))
    · cases h
  | call f es =>
    simp only at h
    split at h
    · rename_i y py ees pos
      simp only [Bool.and_eq_true, decide_eq_true_eq] at h
      obtain ⟨⟨rfl, h1⟩, h2⟩ := h
      obtain ⟨h3, h4⟩ := gl_ok x h1
      cases e1 : g.fns.lookup f with
      | none => rw [e1] at h2; cases h2
      | some q =>
        obtain ⟨m, fr⟩ := q
        rw [e1] at h2
        simp only [Bool.and_eq_true, decide_eq_true_eq] at h2
        obtain ⟨⟨rfl, h5⟩, h6⟩ := h2
        obtain ⟨q1, q2, q3⟩ := ih.a x h6
        have cc := x.fns _ _ _ e1
        have fin : JE X I E O (kFS I X.K fr) (fun ρ S => evE sg cf ρ (.call f es) S) (.Call (.Name (f : Str) py) ees [] pos) := by
          cases ees with
          | nil =>
            have ez : es = [] := List.eq_nil_of_length_eq_zero q3
            subst ez
            exact j_call0 cc x.px h3 h4
          | cons ea er => exact j_call cc x.px h3 h4 q1 (star_cons (q2 _ (List.mem_cons_self ..))) (stars_no fun e he => q2 e (List.mem_cons_of_mem _ he))
        cases fr with
        | true => exact conv (a := .f) fin h5
        | false => exact conv (a := .s) fin h5
    · cases h
  | bi b es =>
    simp only at h
    split at h
    · rename_i y py ea er pos
      cases e1 : biN b with
      | none => rw [e1] at h; cases h
      | some q =>
        obtain ⟨t, m⟩ := q
        rw [e1] at h
        simp only [Bool.and_eq_true] at h
        obtain ⟨rfl, h1, h2, h3⟩ := blt_ok x h.1
        obtain ⟨q1, q2, q3⟩ := ih.a x h.2
        obtain ⟨b1, b2, b3⟩ := bi_boot e1
        exact convF (j_bi x.calm e1 h1 h3 b1 q1 b2 b3 (star_cons (q2 _ (List.mem_cons_self ..))) (stars_no fun e he => q2 e (List.mem_cons_of_mem _ he)))
    · split at h
      · split at h
        · simp only [Bool.and_eq_true, decide_eq_true_eq] at h
          obtain ⟨⟨⟨⟨⟨⟨h1, h2⟩, h3⟩, h4⟩, h5⟩, h6⟩, h7⟩ := h
          rw [sameV_eq h1]
          subst h2
          exact convF (j_join h3 h4 h5 (ih.e x h7) (star_cons h6))
        · cases h
      · cases h
    · cases h
  | isa e ts =>
    simp only at h
    split at h
    · split at h
      · split at h
        · rename_i t m e1
          simp only [Bool.and_eq_true] at h
          obtain ⟨rfl, h1, h2, h3⟩ := blt_ok x h.1.1.1
          obtain ⟨rfl, h4, h5, h6⟩ := blt_ok x h.1.1.2
          exact convF (j_isa e1 h1 h3 h4 h6 (ih.e x h.2) (star_cons h.1.2))
        · cases h
      · cases h
    · split at h
      · split at h
        · rename_i t t2 m m2 e1 e2
          simp only [Bool.and_eq_true, decide_eq_true_eq] at h
          obtain ⟨⟨⟨⟨⟨⟨⟨h1, h2⟩, h3⟩, h4⟩, h5⟩, h6⟩, h7⟩, h8⟩ := h
          obtain ⟨rfl, a1, a2, a3⟩ := blt_ok x h1
          refine convF (j_isaT (ns := [m, m2]) (by simp [e1, e2]) (by simp) (show 2 ≤ lim by decide) a1 a3 ?_ ?_ (ih.e x h8) (star_cons h7))
          · intro n hn
            rcases List.mem_cons.mp hn with rfl | hn
            · exact ⟨(gl_ok x h5).1, x.blt _ (List.contains_iff_mem.mp h3)⟩
            · rcases List.mem_cons.mp hn with rfl | hn
              · exact ⟨(gl_ok x h6).1, x.blt _ (List.contains_iff_mem.mp h4)⟩
              · cases hn
          · exact h2
        · cases h
      · cases h
    · cases h
  | comp kk its p cs e =>
    simp only at h
    split at h
    · obtain ⟨q1, q2, own, q3, q4, q5, q6, q7⟩ := ih.c x h
      exact convF (j_comp x.calm x.nd q1 q3 q4 q5 q6 q7 (fold_no q2))
    · cases h
  | dix y kvs a =>
    simp only at h
    split at h
    · simp only [Bool.and_eq_true, decide_eq_true_eq] at h
      obtain ⟨⟨⟨⟨⟨rfl, h1⟩, h2⟩, h3⟩, h4⟩, h5⟩ := h
      obtain ⟨h6, h7⟩ := gl_ok x h1
      exact conv (a := .s) (j_dix (x.dxs _ (any_dx h4)) h6 h7 (pix_ok h3) (ih.e x h5)) h2
    · cases h
  | _ => cases h
theorem sound : ∀ n : Nat, Snd g I sg cf n
  | 0 => ⟨fun _ h => (by cases h), fun _ h => (by cases h), fun _ h => (by cases h), fun _ h => (by cases h), fun _ h => (by cases h), fun _ h => (by cases h), fun _ h => (by cases h), fun _ h => (by cases h)⟩
  | n + 1 =>
    have ih := sound n
    ⟨snd_e ih, snd_a ih, snd_an ih, snd_o ih, snd_t ih, snd_ta ih, snd_i ih, snd_c ih⟩
end
end Pi

end
section
set_option linter.all false
set_option maxRecDepth 100000
/-! PiO: statements and defs. -/
namespace Pi
open PySem PySem.Spec PyProof.Rows L2
section
variable {g : Gt} {I : XI} {sg : Sig} {cf : String → List Val → Store → Res Val}
theorem sub_ok {a b : List Nat} (h : subO a b = true) : ∀ i ∈ a, i ∈ b := by
  intro i hi
  unfold subO at h
  rw [List.all_eq_true] at h
  exact List.contains_iff_mem.mp (h i hi)
theorem inter_l {a b : List Nat} : ∀ i ∈ interO a b, i ∈ a := fun i h => (List.mem_filter.mp h).1
theorem inter_r {a b : List Nat} : ∀ i ∈ interO a b, i ∈ b := fun i h => List.contains_iff_mem.mp (List.mem_filter.mp h).2
theorem fix_ok {f : List Nat → RO} : ∀ {k : Nat} {O O1 : List Nat}, fixO f k O = some O1 → (∀ i ∈ O1, i ∈ O) ∧ (f O1 = some none ∨ ∃ r, f O1 = some (some r) ∧ ∀ i ∈ O1, i ∈ r)
  | 0, _, _, h => by cases h
  | k + 1, O, O1, h => by
    unfold fixO at h
    cases e : f O with
    | none => rw [e] at h; cases h
    | some q =>
      rw [e] at h
      cases q with
      | none =>
        cases h
        exact ⟨fun _ z => z, .inl e⟩
      | some r =>
        simp only at h
        split at h
        · rename_i hs
          cases h
          exact ⟨fun _ z => z, .inr ⟨r, e, sub_ok hs⟩⟩
        · obtain ⟨h1, h2⟩ := fix_ok h
          exact ⟨fun i hi => inter_l i (h1 i hi), h2⟩
section
variable {c : Ct} {X : Cx} {E : XK}
theorem bkind (x : XOk g c X I E cf) : X.env.blockKind = .function := by
  unfold Env.blockKind
  rw [x.kd]
  rfl
theorem names_eq (x : XOk g c X I E cf) (line : Nat) (ts : List Expr) : (ts.filterMap fun
    | .Name id pos => if X.env.kindOf id == some .local && pos.line == line then some id else none
    | _ => none) = namesL c line ts := by
  unfold namesL
  congr 1
  funext e
  cases e <;> first | rfl | skip
  show (if X.env.scope.names.lookup _ == some .local && _ then _ else _) = _
  rw [x.sc]
theorem swN_ok (x : XOk g c X I E cf) {tg ee : Expr} (h : swN c tg ee = true) : swappedStores [tg] ee X.env = pure none := by
  cases tg <;> try (cases h; done)
  rename_i ts k p
  cases ee <;> try rfl
  rename_i vs k2 p2
  unfold swappedStores
  simp only [bkind x]
  unfold swN at h
  generalize hN : List.filterMap _ ts = N
  have e : namesL c (lineOf ts) ts = N := (names_eq x _ ts).symm.trans hN
  simp only [e, Bool.or_eq_true] at h
  by_cases h1 : (!(ts.length == 2 || ts.length == 3) || vs.length != ts.length || ScopeKind.function != ScopeKind.function) = true
  · exact if_pos h1
  · refine (if_neg h1).trans ?_
    by_cases h2 : (vs.any fun x => match x with | .Starred _ _ => true | _ => false) = true
    · exact if_pos h2
    · refine (if_neg h2).trans ?_
      by_cases h3 : (N.length != ts.length || N.eraseDups.length != N.length) = true
      · exact if_pos h3
      · refine (if_neg h3).trans ?_
        by_cases h4 : vs.all (foldedForSure 8) = true
        · exact if_pos h4
        · exfalso
          simp only [Bool.or_eq_true, not_or] at h1 h3
          rcases h with ((h | h) | h) | h
          · rcases h with h | h
            · exact h1.1.1 h
            · exact h1.1.2 h
          · exact h2 h
          · rcases h with h | h
            · exact h3.1 h
            · exact h3.2 h
          · exact h4 h
theorem swS_ok (x : XOk g c X I E cf) {ts vs : List Expr} {k k2 : Nat} {p p2 : Pos} {xs : List Str} (h : swS c ts vs xs = true) : swappedStores [.Tuple ts k p] (.Tuple vs k2 p2) X.env = pure (some xs) := by
  unfold swappedStores
  simp only [bkind x]
  unfold swS at h
  generalize hN : List.filterMap _ ts = N
  have e : namesL c (lineOf ts) ts = N := (names_eq x _ ts).symm.trans hN
  simp only [e, Bool.and_eq_true, decide_eq_true_eq, Bool.not_eq_true'] at h
  obtain ⟨⟨⟨⟨⟨⟨h1, h2⟩, h3⟩, rfl⟩, h4⟩, h5⟩, h6⟩ := h
  refine (if_neg ?_).trans ((if_neg ?_).trans ((if_neg ?_).trans ((if_neg ?_).trans (if_neg ?_))))
  · rw [h1, h2]
    decide
  · exact fun z => Bool.noConfusion (z.symm.trans h3)
  · rw [h4]
    decide
  · rw [h5]
    decide
  · rw [h6]
    decide
theorem lc_false (x : XOk g c X I E cf) {y : Str} {py : Pos} {ee : Expr} {l : Nat} (h : lcC c y py ee = some false) : swapsWith ee (some (.Name y py)) l X.env = pure false := by
  cases ee <;> try rfl
  · rename_i elt gs scope pos
    unfold lcC swT at h
    unfold swapsWith
    have e : X.env.kindOf y = c.sc.names.lookup y := by
      show X.env.scope.names.lookup y = _
      rw [x.sc]
    simp only [bkind x, e, Expr.pos]
    have h := Option.some.inj h
    congr 1
    rw [← h]
    congr 2
    cases c.sc.names.lookup y with
    | none => rfl
    | some q => cases q <;> rfl
  · cases h
  · cases h
theorem lc_true (x : XOk g c X I E cf) {y : Str} {py pos : Pos} {elt : Expr} {gs : List Comprehension} {scope : Scope} {l : Nat} (h : lcC c y py (.ListComp elt gs scope pos) = some true) :
    swapsWith (.ListComp elt gs scope pos) (some (.Name y py)) l X.env = pure true ∧ X.env.scope.names.lookup y = some .local := by
  unfold lcC swT at h
  have h := Option.some.inj h
  simp only [Bool.and_eq_true, decide_eq_true_eq, Bool.not_eq_true'] at h
  rw [← x.sc] at h
  exact ⟨sw_true x.kd h.1.1 h.1.2 h.2, h.1.1⟩
theorem lc_tup {tg ee : Expr} (h : swN c tg ee = true) {l : Nat} : swapsWithSole [tg] ee l X.env = pure false ∧ (assignEach [tg] X.env).map (·.2) = [assign tg X.env] := by
  cases tg <;> try (cases h; done)
  refine ⟨?_, rfl⟩
  cases ee <;> rfl
theorem drop_false {ee : Expr} (h : isCmp ee = false) {l : Nat} : swapsWith ee none l X.env = pure false := by
  cases ee <;> first | rfl | (cases h; done)
theorem m_sound {n : Nat} (x : XOk g c X I E cf) {O : List Nat} : ∀ {is : List (Nat × Bool)} {es : List IE} {ees : List Expr}, chkM n g c O is es ees = true → JA X I E O (kM I X.K (is.map (·.2))) (fun ρ S => evEs sg cf ρ es S) ees
  | [], [], [], _ => ja_nilM
  | [], [], _ :: _, h => by cases h
  | [], _ :: _, _, h => by cases h
  | _ :: _, [], _, h => by cases h
  | _ :: _, _ :: _, [], h => by cases h
  | (i, m) :: is, e :: es, ee :: ees, h => by
    unfold chkM at h
    rw [Bool.and_eq_true, Bool.and_eq_true] at h
    have q := (sound (sg := sg) n).e x h.1.2
    refine ja_consM ?_ (m_sound x h.2) (star_cons h.1.1)
    cases m with
    | true => exact q
    | false => exact q
theorem nm_ok (x : XOk g c X I E cf) : ∀ {is : List (Nat × Bool)} {ts : List Expr}, namesC c is ts = true → NmOk X is ts
  | [], [], _ => trivial
  | [], _ :: _, h => by cases h
  | _ :: _, [], h => by cases h
  | (i, m) :: is, t :: ts, h => by
    cases t <;> try (cases h; done)
    rename_i y p
    have h : (tgtC c i y && namesC c is ts) = true := h
    rw [Bool.and_eq_true] at h
    obtain ⟨h1, h2, h3⟩ := tgt_ok x h.1
    exact ⟨⟨y, p, rfl, h1, h2, h3⟩, nm_ok x h.2⟩
/-! ### statements -/
section
variable {W0 : Wd} {H0 : Hp} {fr : Bool}
structure SndS (g : Gt) (I : XI) (sg : Sig) (cf : String → List Val → Store → Res Val) (W0 : Wd) (H0 : Hp) (fr : Bool) (n : Nat) : Prop where
  s : ∀ {c : Ct} {X : Cx} {E : XK} {OL O : List Nat} {s : IS} {st : Stmt} {r : Option (List Nat)}, XOk g c X I E cf → chkS n g c fr OL O s st = some r → JS X I E W0 H0 fr OL O r (fun ρ S => evS sg cf s ρ S) st
  ss : ∀ {c : Ct} {X : Cx} {E : XK} {OL O : List Nat} {s : List IS} {st : List Stmt} {r : Option (List Nat)}, XOk g c X I E cf → chkSs n g c fr OL O s st = some r → JSs X I E W0 H0 fr OL O r (fun ρ S => evSs sg cf s ρ S) st
theorem snd_ss {n : Nat} (ih : SndS g I sg cf W0 H0 fr n) {c : Ct} {X : Cx} {E : XK} {OL O : List Nat} {s : List IS} {st : List Stmt} {r : Option (List Nat)} (x : XOk g c X I E cf) (h : chkSs (n + 1) g c fr OL O s st = some r) :
    JSs X I E W0 H0 fr OL O r (fun ρ S => evSs sg cf s ρ S) st := by
  unfold chkSs at h
  split at h
  · split at h
    · cases h
      exact js_nil
    · cases h
  · exact js_share (ih.ss x h)
  · split at h
    · cases h
    · split at h
      · cases h
      · rename_i e
        cases h
        exact js_last (ih.s x e)
      · rename_i e
        exact js_cons (ih.s x e) (ih.ss x h)
theorem join_ok {a b : RO} {r : Option (List Nat)} (h : joinO a b = some r) : ∃ p q, a = some p ∧ b = some q ∧ (p = none ∨ ∃ O1, p = some O1 ∧ ∃ O2, r = some O2 ∧ ∀ i ∈ O2, i ∈ O1) ∧ (q = none ∨ ∃ O1, q = some O1 ∧ ∃ O2, r = some O2 ∧ ∀ i ∈ O2, i ∈ O1) := by
  cases a with
  | none => cases b with
    | none => cases h
    | some b => cases b <;> cases h
  | some a =>
    cases b with
    | none => cases a <;> cases h
    | some b =>
      refine ⟨a, b, rfl, rfl, ?_⟩
      cases a with
      | none =>
        have e : b = r := Option.some.inj h
        subst e
        refine ⟨.inl rfl, ?_⟩
        cases b with
        | none => exact .inl rfl
        | some b => exact .inr ⟨b, rfl, b, rfl, fun _ z => z⟩
      | some a =>
        cases b with
        | none =>
          have e : some a = r := Option.some.inj h
          subst e
          exact ⟨.inr ⟨a, rfl, a, rfl, fun _ z => z⟩, .inl rfl⟩
        | some b =>
          have e : some (interO a b) = r := Option.some.inj h
          subst e
          exact ⟨.inr ⟨a, rfl, _, rfl, inter_l⟩, .inr ⟨b, rfl, _, rfl, inter_r⟩⟩
theorem to_any {X : Cx} {E : XK} {OL O : List Nat} {m : Env → Store → Out} {st : List Stmt} {p r : Option (List Nat)} (h : JSs X I E W0 H0 fr OL O p m st) (z : p = none ∨ ∃ O1, p = some O1 ∧ ∃ O2, r = some O2 ∧ ∀ i ∈ O2, i ∈ O1) : JSs X I E W0 H0 fr OL O r m st := by
  rcases z with rfl | ⟨O1, rfl, O2, rfl, z⟩
  · exact h.never
  · exact h.to z
theorem snd_s {n : Nat} (ih : SndS g I sg cf W0 H0 fr n) {c : Ct} {X : Cx} {E : XK} {OL O : List Nat} {s : IS} {st : Stmt} {r : Option (List Nat)} (x : XOk g c X I E cf) (h : chkS (n + 1) g c fr OL O s st = some r) :
    JS X I E W0 H0 fr OL O r (fun ρ S => evS sg cf s ρ S) st := by
  have sd := sound (g := g) (I := I) (sg := sg) (cf := cf) n
  unfold chkS at h
  cases s with
  | pass =>
    simp only at h
    split at h
    · cases h
      exact js_pass
    · cases h
  | brk =>
    simp only at h
    split at h
    · split at h
      · rename_i e
        cases h
        exact js_brk (sub_ok e)
      · cases h
    · cases h
  | cnt =>
    simp only at h
    split at h
    · split at h
      · rename_i e
        cases h
        exact js_cnt (sub_ok e)
      · cases h
    · cases h
  | expr e =>
    simp only at h
    split at h
    · split at h
      · rename_i e
        cases h
        rw [Bool.and_eq_true, Bool.not_eq_true'] at e
        exact js_expr (sd.e x e.2) (drop_false e.1)
      · cases h
    · cases h
  | ret e =>
    simp only at h
    split at h
    · split at h
      · rename_i hf
        split at h
        · rename_i e
          cases h
          exact js_retF hf (sd.e x e)
        · split at h
          · split at h
            · rename_i e
              cases h
              rw [Bool.and_eq_true] at e
              obtain ⟨h1, h2, h3, h4⟩ := var_ok x e.2
              exact js_retO hf (List.contains_iff_mem.mp e.1) h1 h2 h3 h4
            · cases h
          · cases h
      · rename_i hf
        split at h
        · rename_i e
          cases h
          exact js_retS (by simpa using hf) (sd.e x e)
        · cases h
    · cases h
  | retN =>
    simp only at h
    split at h
    · cases h
      exact js_retN
    · cases h
  | asg p e =>
    simp only at h
    split at h
    · split at h
      · split at h
        · rename_i e1
          obtain ⟨h1, h2, h3⟩ := tgt_ok x e1
          split at h
          · rename_i e2
            split at h
            · rename_i e3
              cases h
              exact js_asg x.nd h1 h2 h3 (lc_false x e2) (sd.e x e3)
            · cases h
          · rename_i e2
            split at h
            · split at h
              · rename_i e3
                cases h
                obtain ⟨q1, q2, own, q3, q4, q5, q6, q7⟩ := sd.c x e3
                obtain ⟨l1, l2⟩ := lc_true (l := 0) x e2
                exact js_asgC x.calm x.nd h1 l2 (lc_true x e2).1 q1 q3 q4 q5 q6 q7 (fold_no q2)
              · cases h
            · cases h
          · cases h
        · cases h
      · split at h
        · rename_i e1
          cases h
          simp only [Bool.and_eq_true] at e1
          exact js_asgP ((ps_sound n x).1 e1.1.2 O) (lc_tup e1.1.1).1 (swN_ok x e1.1.1) (lc_tup (l := 0) e1.1.1).2 (sd.e x e1.2)
        · cases h
    · cases h
  | own i e =>
    simp only at h
    split at h
    · split at h
      · rename_i e1
        obtain ⟨h1, h2, h3⟩ := tgt_ok x e1
        split at h
        · rename_i e2
          split at h
          · rename_i e3
            cases h
            exact js_own x.nd h1 h2 h3 (lc_false x e2) (sd.e x e3)
          · cases h
        · rename_i e2
          split at h
          · split at h
            · rename_i e3
              cases h
              obtain ⟨q1, q2, own, q3, q4, q5, q6, q7⟩ := sd.c x e3
              obtain ⟨l1, l2⟩ := lc_true (l := 0) x e2
              exact js_ownC x.calm x.nd h1 l2 (lc_true x e2).1 q1 q3 q4 q5 q6 q7 (fold_no q2)
            · cases h
          · cases h
        · cases h
      · cases h
    · cases h
  | par is es =>
    simp only at h
    split at h
    · split at h
      · rename_i e0
        split at h
        · rename_i e1
          cases h
          simp only [Bool.and_eq_true, decide_eq_true_eq] at e1
          exact js_parG x.calm x.nd e1.1.2 (nm_ok x e1.1.1.1) (m_sound (sg := sg) x e1.1.1.2) (swN_ok x e0) e1.2
        · cases h
      · split at h
        · split at h
          · rename_i e1
            cases h
            simp only [Bool.and_eq_true, decide_eq_true_eq] at e1
            obtain ⟨⟨⟨⟨⟨⟨a1, a2⟩, a3⟩, a4⟩, a5⟩, a6⟩, a7⟩ := e1
            rw [← x.sc] at a4 a5
            have mm := m_sound (sg := sg) x a6
            match es, mm, a6 with
            | [e1, e2], mm, a6 => exact js_par2 x.calm x.nd (tgt_ok x a1).1 (tgt_ok x a2).1 a3 a4 a5 mm (swS_ok x a7)
            | [], _, a6 => cases a6
            | [_], _, a6 => simp [chkM] at a6
            | _ :: _ :: _ :: _, _, a6 => simp [chkM] at a6
          · cases h
        · split at h
          · rename_i e1
            cases h
            simp only [Bool.and_eq_true, decide_eq_true_eq] at e1
            obtain ⟨⟨⟨⟨⟨⟨⟨⟨⟨⟨a1, a2⟩, b2⟩, a3⟩, b3⟩, c3⟩, a4⟩, a5⟩, b5⟩, a6⟩, a7⟩ := e1
            rw [← x.sc] at a4 a5 b5
            have mm := m_sound (sg := sg) x a6
            match es, mm, a6 with
            | [e1, e2, e3], mm, a6 => exact js_par3 x.calm x.nd (tgt_ok x a1).1 (tgt_ok x a2).1 (tgt_ok x b2).1 a3 b3 c3 a4 a5 b5 mm (swS_ok x a7)
            | [], _, a6 => cases a6
            | [_], _, a6 => simp [chkM] at a6
            | [_, _], _, a6 => simp [chkM] at a6
            | _ :: _ :: _ :: _ :: _, _, a6 => simp [chkM] at a6
          · cases h
        · cases h
    · cases h
  | setL i k e =>
    simp only at h
    split at h
    · split at h
      · rename_i e1
        cases h
        simp only [Bool.and_eq_true] at e1
        obtain ⟨h1, h2, h3, h4⟩ := var_ok x e1.1.1.1.2
        exact js_setL (List.contains_iff_mem.mp e1.1.1.1.1) h1 h2 h3 h4 (sl_no e1.1.1.2) (sd.e x e1.1.2) (sd.e x e1.2)
      · cases h
    · cases h
  | setB b k e =>
    simp only at h
    split at h
    · split at h
      · rename_i e1
        cases h
        simp only [Bool.and_eq_true] at e1
        exact js_setB (sl_no e1.1.1.1) (sd.e x e1.1.1.2) (sd.e x e1.1.2) (sd.e x e1.2)
      · cases h
    · cases h
  | app i e =>
    simp only at h
    split at h
    · split at h
      · rename_i e1
        cases h
        simp only [Bool.and_eq_true, decide_eq_true_eq] at e1
        obtain ⟨⟨⟨⟨⟨rfl, a1⟩, a2⟩, a3⟩, a4⟩, a5⟩ := e1
        obtain ⟨h1, h2, h3, h4⟩ := var_ok x a2
        have st := star_cons (es := []) (env := X.env) a4
        exact js_app (List.contains_iff_mem.mp a1) h1 h2 h3 h4 a3 (sd.e x a5) st (by rw [st]; rfl)
      · cases h
    · cases h
  | ite t a b =>
    simp only at h
    split at h
    · split at h
      · rename_i e1
        obtain ⟨p, q, h1, h2, h3, h4⟩ := join_ok h
        exact js_ite (sd.t x e1) (to_any (ih.ss x h1) h3) (to_any (ih.ss x h2) h4)
      · cases h
    · cases h
  | forr k its p b =>
    simp only at h
    split at h
    · split at h
      · rename_i e1
        rw [Bool.and_eq_true] at e1
        obtain ⟨i1, i2⟩ := sd.i x e1.1
        cases e2 : fixO (fun O1 => chkSs n g c fr O1 (less O1 p.vars) b _) 4 O with
        | none => rw [e2] at h; cases h
        | some O1 =>
          rw [e2] at h
          cases h
          obtain ⟨f1, f2⟩ := fix_ok e2
          refine js_for x.po x.calm (fold_no i2) f1 i1 ((ps_sound n x).1 e1.2 O1) ?_
          rcases f2 with f2 | ⟨r, f2, f3⟩
          · exact (ih.ss x f2).never
          · exact (ih.ss x f2).to f3
      · cases h
    · cases h
  | whil t b =>
    simp only at h
    split at h
    · split at h
      · rename_i e2
        split at h
        · rename_i e1
          cases h
          obtain ⟨f1, f2⟩ := fix_ok e2
          refine js_while x.po f1 (sd.t x e1) ?_
          rcases f2 with f2 | ⟨r, f2, f3⟩
          · exact (ih.ss x f2).never
          · exact (ih.ss x f2).to f3
        · cases h
      · cases h
    · cases h
  | _ => cases h
theorem soundS : ∀ n : Nat, SndS g I sg cf W0 H0 fr n
  | 0 => ⟨fun _ h => (by cases h), fun _ h => (by cases h)⟩
  | n + 1 =>
    have ih := soundS n
    ⟨snd_s ih, snd_ss ih⟩
end
end
end
end Pi

end
section
set_option linter.all false
set_option maxRecDepth 100000
/-! PiP: every def at every depth. -/
namespace Pi
open PySem PySem.Spec PyProof.Rows L2
section
variable {P : Program} {w : World} {K : PySem.W.Frag} {mg : Str → Option Value} {base : Heap} {I : XI} {g : Gt} {sg : Sig} {Φ : Tab}
/-- a def that was checked: it stands at a, its parameters are ps -/
def DefAt (K : PySem.W.Frag) (mg : Str → Option Value) (g : Gt) (Φ : Tab) (f : String) (np : Nat) (fr : Bool) (a : Addr) (fd : FuncData) (ps : List Str) : Prop :=
  ∃ (qual : Str) (params : Arguments) (body : List Stmt) (scope : Scope) (dvs : List V) (kws : List (Str × V)) (N : List Str) (fn : Fn) (n : Nat) (r : Option (List Nat)),
    FunD K (f : Str) qual params body scope dvs kws a fd ∧ mg (f : Str) = some (.ref a) ∧ Binds K fd ps [] ∧ FnScope N ps scope ∧ ps.length = np ∧ Φ f = some fn ∧ fn.np = np ∧ fn.nl = N.length ∧
      chkSs n g ⟨N, scope, fun _ => true⟩ fr [] [] fn.body body = some r
/-- what the top holds -/
structure GOk (w : World) (K : PySem.W.Frag) (mg : Str → Option Value) (I : XI) (g : Gt) (Φ : Tab) : Prop where
  fns : ∀ f m fr, g.fns.lookup f = some (m, fr) → ∃ a fd ps, DefAt K mg g Φ f m fr a fd ps
  gvs : ∀ q ∈ g.gvs, GvOk I K mg (q.1 : Str) q.2
  dxs : ∀ q ∈ g.dxs, ∃ p : Addr, mg (q.1 : Str) = some (.ref p) ∧ ∀ y v, q.2.lookup y = some v → ∃ u, KDct K w p y u ∧ ∀ H R μ, RepV I K H R μ v u
  blt : ∀ n ∈ bltN, mg (n : Str) = none
theorem start_rep {W : Wd} {H : Hp} {N : List Str} {ps : List Val} {vs : List V} (r : Rps I K W H ps vs) : EnvRep I K W H [] (ps.map some ++ List.replicate (N.length - ps.length) none) (L2.start N vs) := by
  have hl := RepVs.length r
  refine ⟨by unfold L2.start; simp [hl], fun i p e _ => ?_, fun i p _ h => (by cases h), fun i j a h => (by cases h)⟩
  unfold L2.start
  by_cases hi : i < ps.length
  · rw [List.getElem?_append_left (by simpa using hi), List.getElem?_map] at e
    cases e1 : ps[i]? with
    | none => rw [e1] at e; cases e
    | some q =>
      rw [e1] at e
      cases e
      obtain ⟨v, h1, h2⟩ := RepVs.get r e1
      refine ⟨v, ?_, h2⟩
      rw [List.getElem?_append_left (by simpa [← hl] using hi), List.getElem?_map, h1]
      rfl
  · rw [List.getElem?_append_right (by simpa using hi), List.getElem?_replicate] at e
    split at e <;> cases e
theorem call_at {E : XK} {W : Wd} {H : Hp} {S : Store} {f : String} {ps : List Val} {fn : Fn} {d : Nat} {fr : Bool} {Q : VK} {r : Option (List Nat)} (hf : Φ f = some fn) (hl : ps.length = fn.np) (w : WOk W H) (s : StRep I K W H S)
    (h : At I K E (kFS I K fr) W H (callF sg Φ (d + 1) f ps S) Q) :
    AtS I K E W H fr [] W H r { nx := fun _ H' => Q .non H', rt := Q } (evSs sg (callF sg Φ d) fn.body (ps.map some ++ List.replicate (fn.nl - fn.np) none) S) := by
  simp only [callF, hf, hl, if_true] at h
  cases e : evSs sg (callF sg Φ d) fn.body (ps.map some ++ List.replicate (fn.nl - fn.np) none) S with
  | nx ρ' S' =>
    rw [e] at h
    exact fun O2 _ W' H' σ' sr n => h W' H' .non ⟨sr.le, sr.kp, sr.sr.w, sr.sr.s⟩ (by cases fr <;> exact (rfl : V.non = V.non))
  | rt v S' => rw [e] at h; exact fun W' H' x n k => h W' H' x n k
  | ex x ρ' S' => rw [e] at h; exact fun W' H' cls dd n k => h W' H' cls dd n k
  | bk ρ' S' => rw [e] at h; exact h.elim
  | ct ρ' S' => rw [e] at h; exact h.elim
  | bad => rw [e] at h; exact h.elim
theorem spC_len {cf : String → List Val → Store → Res Val} {f : String} {n : Nat} {fr : Bool} {vs : List V} {H : Hp} {Q : VK} {E : XK} (h : spC I K cf f n fr vs H Q E) : vs.length = n := by
  obtain ⟨W, ps, S, h1, h2, h3, h4, _⟩ := h
  rw [← RepVs.length h3, h4]
/-- every def, at every depth -/
theorem fns_ok (G : GOk w K mg I g Φ) : ∀ (d : Nat) (f : String) (m : Nat) (fr : Bool) (a : Addr) (fd : FuncData) (ps : List Str), DefAt K mg g Φ f m fr a fd ps →
    FnOk P w K mg base (L2.CX P w) d a fd ps (spC I K (callF sg Φ d) f m fr) ∧ mg (f : Str) = some (.ref a) ∧ PySem.W.keepIn K (.ref a) = true ∧ Binds K fd ps []
  | 0, f, m, fr, a, fd, ps, h => by
    obtain ⟨qual, params, body, scope, dvs, kws, N, fn, n, r, F, hm, hb, S, hp, hf, h1, h2, hc⟩ := h
    refine ⟨⟨fun vs H Q E q => (spC_len q).trans hp.symm, fun A outer s H args us vs Q E hr e0 hb hv q => ?_⟩, hm, F.kp, hb⟩
    obtain ⟨_, _, _, _, _, _, _, q⟩ := q
    exact q.elim
  | d + 1, f, m, fr, a, fd, ps, h => by
    have ih := fns_ok G d
    obtain ⟨qual, params, body, scope, dvs, kws, N, fn, n, r, F, hm, hb, S, hp, hf, h1, h2, hc⟩ := h
    refine ⟨F.ok S (fun vs H Q E q => (spC_len q).trans hp.symm) fun cdv A outer s H vs Q E hr q => ?_, hm, F.kp, hb⟩
    obtain ⟨W, pv, St, hw, hs, hv, hl, q⟩ := q
    have x : XOk g ⟨N, scope, fun _ => true⟩ (cxOf (L2.CX P w) P w K mg base N qual scope a cdv A outer s H E) I E (callF sg Φ d) := by
      refine ⟨rfl, rfl, rfl, S.nd, S.kind, rfl, ?_, passes_of rfl, passes_call (takes_of rfl rfl rfl rfl) fun _ _ _ _ z => z, fun f' m' fr' h' => ?_, G.gvs, G.dxs, G.blt⟩
      · have := hr.un
        show (A.deeper (envOfC qual scope s.heap.objs.size a cdv)).units + 65 < cLine
        omega
      · obtain ⟨a', fd', ps', D'⟩ := G.fns f' m' fr' h'
        obtain ⟨F', hm', hk', hb'⟩ := ih f' m' fr' a' fd' ps' D'
        exact ⟨d, a', fd', ps', F', hr, hm', hk', hb'⟩
    refine ⟨_, (soundS (sg := sg) (W0 := W) (H0 := H) (fr := fr) n).ss x hc, W, pv.map some ++ List.replicate (N.length - pv.length) none, St, ⟨⟨fun _ z => z, fun _ z => z, fun _ z _ => z, fun _ _ z => z⟩, .refl, ⟨hw, hs, start_rep hv⟩, fun i b hi => (by cases hi)⟩, ?_⟩
    have z := call_at (r := r) hf (hl.trans h1.symm) hw hs q
    rw [h2, h1, ← hl] at z
    exact z
end
end Pi

end
section
set_option linter.all false
set_option maxRecDepth 100000
/-! PiQ: the head: what the top holds, by one check. -/
namespace Pi
open PySem PySem.Spec PyProof.Rows L2
/-! ### constants of the top -/
mutual
def valB (K : PySem.W.Frag) : Val → Value → Bool
  | .non, .none => true
  | .bl b, .bool c => b == c
  | .int i, .int j _ => decide (i = j)
  | .str x, .str y _ => decide (x = y) && decide (x.length ≤ lim) && PyData.strOk x
  | .tup l, .ref a => (match K.lookup a with
    | some ⟨.type c, _, .seq its _, _⟩ => decide (c = "tuple") && decide (its.size ≤ sizeLine) && valsB K l its.toList
    | _ => false)
  | _, _ => false
def valsB (K : PySem.W.Frag) : List Val → List Value → Bool
  | [], [] => true
  | v :: vs, u :: us => valB K v u && valsB K vs us
  | _, _ => false
end
mutual
theorem valB_ok {I : XI} {K : PySem.W.Frag} : ∀ {v : Val} {u : Value}, valB K v u = true → ∃ x : V, L2.RelV x u ∧ ∀ H R μ, RepV I K H R μ v x
  | .non, u, h => by
    cases u <;> try (cases h; done)
    exact ⟨.non, rfl, fun _ _ _ => rfl⟩
  | .bl b, u, h => by
    cases u <;> try (cases h; done)
    rename_i c
    have h : (b == c) = true := h
    rw [eq_of_beq h]
    exact ⟨.bl c, rfl, fun _ _ _ => rfl⟩
  | .int i, u, h => by
    cases u <;> try (cases h; done)
    rename_i j t
    have h : decide (i = j) = true := h
    rw [of_decide_eq_true h]
    exact ⟨.int j, ⟨t, rfl⟩, fun _ _ _ => rfl⟩
  | .str x, u, h => by
    cases u <;> try (cases h; done)
    rename_i y t
    have h : (decide (x = y) && decide (x.length ≤ lim) && PyData.strOk x) = true := h
    rw [Bool.and_eq_true, Bool.and_eq_true] at h
    obtain ⟨⟨h1, h2⟩, h3⟩ := h
    have e := of_decide_eq_true h1
    subst e
    exact ⟨.str x, ⟨t, rfl⟩, fun _ _ _ => ⟨rfl, of_decide_eq_true h2, h3⟩⟩
  | .tup l, u, h => by
    cases u <;> try (cases h; done)
    rename_i a
    have h : (match K.lookup a with
      | some ⟨.type c, _, .seq its _, _⟩ => decide (c = "tuple") && decide (its.size ≤ sizeLine) && valsB K l its.toList
      | _ => false) = true := h
    split at h
    · rename_i e
      rw [Bool.and_eq_true, Bool.and_eq_true] at h
      obtain ⟨⟨h1, h2⟩, h3⟩ := h
      obtain ⟨xs, q1, q2⟩ := valsB_ok (I := I) h3
      exact ⟨.ref a, rfl, fun H R μ => ⟨a, xs, rfl, .inr ⟨_, _, _, e, congrArg Value.type (of_decide_eq_true h1), rfl, of_decide_eq_true h2, q1⟩, q2 H R μ⟩⟩
    · cases h
  | .lst l, u, h => by cases u <;> cases h
  | .loc n, u, h => by cases u <;> cases h
  | .exn c y, u, h => by cases u <;> cases h
theorem valsB_ok {I : XI} {K : PySem.W.Frag} : ∀ {vs : List Val} {us : List Value}, valsB K vs us = true → ∃ xs : List V, Vals xs us ∧ ∀ H R μ, RepVs I K H R μ vs xs
  | [], [], _ => ⟨[], .nil, fun _ _ _ => rfl⟩
  | [], _ :: _, h => by cases h
  | _ :: _, [], h => by cases h
  | v :: vs, u :: us, h => by
    have h : (valB K v u && valsB K vs us) = true := h
    rw [Bool.and_eq_true] at h
    obtain ⟨x, h1, h2⟩ := valB_ok (I := I) h.1
    obtain ⟨xs, h3, h4⟩ := valsB_ok (I := I) h.2
    exact ⟨x :: xs, .cons h1 h3, fun H R μ => ⟨x, xs, rfl, h2 H R μ, h4 H R μ⟩⟩
end
def gvB (K : PySem.W.Frag) (q : String × Val) : Bool := match PySem.W.nsIn K mainGlobals (q.1 : Str) with
  | some (some u) => valB K q.2 u
  | _ => false
def dxB (K : PySem.W.Frag) (q : String × List (Str × Val)) : Bool := q.2.all fun r => match PySem.W.nsIn K (He.ga K (q.1 : Str)) r.1 with
  | some (some u) => valB K r.2 u
  | _ => false
/-- no list stands in K -/
def noL (K : PySem.W.Frag) : Bool := K.all fun p => !(p.2.cls == .type "list")
/-! ### a def as the generator gives it -/
structure FD where
  f : String
  np : Nat
  fr : Bool
  N : List Str
  fn : Fn
  d : He.DefD
def FD.ok (g : Gt) (q : FD) : Bool := decide (q.d.at_ = ((q.f : Str), none)) && decide (q.d.name = (q.f : Str)) && C8.scC q.N (q.N.take q.np) q.d.scope && decide (q.np ≤ q.N.length) && decide (q.fn.np = q.np) && decide (q.fn.nl = q.N.length) &&
  (chkSs 400 g ⟨q.N, q.d.scope, fun _ => true⟩ q.fr [] [] q.fn.body q.d.body).isSome
def FD.bind (q : FD) : Prop := ∀ (K : PySem.W.Frag) (f : Addr) (fd : FuncData), FunD K q.d.name q.d.qual q.d.params q.d.body q.d.scope (q.d.dvs K) (q.d.kws K) f fd → Binds K fd (q.N.take q.np) []
structure HD where
  fds : List FD
  gvs : List (String × Val)
  dxs : List (String × List (Str × Val))
  xfa : List He.Fa := []
  xfn : List He.DefD := []
def HD.g (h : HD) : Gt := ⟨h.fds.map fun q => (q.f, (q.np, q.fr)), h.gvs, h.dxs⟩
def HD.tab (h : HD) : Tab := fun f => (h.fds.find? fun q => q.f == f).map (·.fn)
def HD.fa (h : HD) : List He.Fa := ((h.fds.map fun q => He.Fa.glo (q.f : Str)) ++ (h.dxs.map fun q => He.Fa.glo (q.1 : Str)) ++ (bltN.map fun (n : String) => He.Fa.free (n : Str))) ++ h.xfa
def HD.fn (h : HD) : List He.DefD := h.fds.map (·.d) ++ h.xfn
def HD.ts (h : HD) : List He.Tab := h.dxs.map fun q => (fun K => He.ga K (q.1 : Str), q.2.map (·.1))
def HD.ok (h : HD) : Bool := h.fds.all (FD.ok h.g) && decide ((h.fds.map (·.f)).Nodup)
abbrev AlP : Type := He.AlT × Bool
def HD.ex (h : HD) (K : PySem.W.Frag) : Bool := h.gvs.all (gvB K) && h.dxs.all (dxB K) && noL K
def HD.obsK (h : HD) (K : PySem.W.Frag) : AlP := (He.obsT h.fa h.fn h.ts K, h.ex K)
def HD.val (h : HD) (w : World) : AlP := (He.valT h.fn h.ts w, true)
def HD.obsG (h : HD) (n : Nat) (g : Addr → Option Obj) : AlP := h.obsK (He.frG g (He.asD g n))
def HD.Says (h : HD) (w : World) (K : PySem.W.Frag) : Prop := h.obsK K = h.val w
def HD.hook (h : HD) (n : Nat) : PySem.W.Hook where
  α := AlP
  obs := fun s => h.obsG n s.heap.get?
  val := fun w => h.val w
  says := fun w hp => ∃ K : PySem.W.Frag, K.In hp ∧ h.Says w K
  of := fun _ _ e => ⟨_, He.frG_in, e⟩
  keeps := fun _ _ _ ⟨K, hK, c⟩ k => ⟨K, PySem.W.Frag.In.keeps hK k, c⟩
theorem HD.obs_eq {h : HD} {n : Nat} {g : Addr → Option Obj} {s : Shared} (e : ∀ a, g a = s.heap.get? a) : h.obsG n g = (h.hook n).obs s := by
  have e : g = s.heap.get? := funext e
  rw [e] <;> rfl
section
variable {h : HD} {w : World} {K : PySem.W.Frag} {hp : Heap} {mg : Str → Option Value} {I : XI}
theorem HD.Says.t (c : h.Says w K) : He.SaysT h.fa h.fn h.ts w K := congrArg (fun z : AlP => z.1) c
theorem HD.Says.x (c : h.Says w K) : h.ex K = true := congrArg (fun z : AlP => z.2) c
theorem HD.Says.fact (c : h.Says w K) {f : He.Fa} (hf : f ∈ h.fa) : f.ok K = true := by
  obtain ⟨i, hi⟩ := List.getElem?_of_mem hf
  exact c.t.d.fact i hi
theorem lk_fd : ∀ {l : List FD} {f : String} {m : Nat} {fr : Bool}, (l.map fun q => (q.f, (q.np, q.fr))).lookup f = some (m, fr) → ∃ q ∈ l, q.f = f ∧ q.np = m ∧ q.fr = fr
  | [], _, _, _, h => by cases h
  | q :: l, f, m, fr, h => by
    rw [List.map_cons, List.lookup_cons] at h
    cases e : f == q.f with
    | true =>
      rw [e] at h
      cases h
      exact ⟨q, List.mem_cons_self .., (eq_of_beq e).symm, rfl, rfl⟩
    | false =>
      rw [e] at h
      obtain ⟨p, h1, h2⟩ := lk_fd h
      exact ⟨p, List.mem_cons_of_mem _ h1, h2⟩
theorem find_fd : ∀ {l : List FD} {q : FD}, (l.map (·.f)).Nodup → q ∈ l → l.find? (fun p => p.f == q.f) = some q
  | [], _, _, h => by cases h
  | p :: l, q, hn, h => by
    rw [List.map_cons, List.nodup_cons] at hn
    rcases List.mem_cons.mp h with rfl | h
    · rw [List.find?_cons, beq_self_eq_true]
    · have ne : (p.f == q.f) = false := by
        cases e : p.f == q.f with
        | false => rfl
        | true => exact absurd (List.mem_map.mpr ⟨q, h, (eq_of_beq e).symm⟩) hn.1
      rw [List.find?_cons, ne]
      exact find_fd hn.2 h
theorem HD.at_ (hok : h.ok = true) (hb : ∀ q ∈ h.fds, q.bind) (X : K.In hp) (G : hp.Ns mainGlobals mg) (c : h.Says w K) : ∀ q ∈ h.fds, ∃ fd, FunD K q.d.name q.d.qual q.d.params q.d.body q.d.scope (q.d.dvs K) (q.d.kws K) (He.ga K (q.f : Str)) fd ∧
    DefAt K mg h.g h.tab q.f q.np q.fr (He.ga K (q.f : Str)) fd (q.N.take q.np) := fun q hq => by
  unfold HD.ok at hok
  rw [Bool.and_eq_true] at hok
  have hn := of_decide_eq_true hok.2
  have q0 := List.all_eq_true.mp hok.1 q hq
  unfold FD.ok at q0
  simp only [Bool.and_eq_true, decide_eq_true_eq] at q0
  obtain ⟨⟨⟨⟨⟨⟨q1, q2⟩, q3⟩, q4⟩, q5⟩, q6⟩, q7⟩ := q0
  obtain ⟨r, hr⟩ := Option.isSome_iff_exists.mp q7
  have hd : q.d ∈ h.fn := List.mem_append_left _ (List.mem_map.mpr ⟨q, hq, rfl⟩)
  obtain ⟨i, hi⟩ := List.getElem?_of_mem hd
  obtain ⟨fd, F⟩ := c.t.d.def_ i hi
  have e : He.fAd K q.d.at_ = He.ga K (q.f : Str) := by rw [q1]; rfl
  rw [e] at F
  have F2 : FunD K (q.f : Str) q.d.qual q.d.params q.d.body q.d.scope (q.d.dvs K) (q.d.kws K) (He.ga K (q.f : Str)) fd := by
    rw [q2] at F
    exact F
  have gl : mg (q.f : Str) = some (.ref (He.ga K (q.f : Str))) := He.glo_ok X G (c.fact (List.mem_append_left _ (List.mem_append_left _ (List.mem_append_left _ (List.mem_map.mpr ⟨q, hq, rfl⟩)))))
  refine ⟨fd, F, _, _, _, _, _, _, q.N, q.fn, 400, r, F2, gl, hb q hq K (He.ga K (q.f : Str)) fd F, C8.fnScope_by q3, ?_, ?_, q5, q6, hr⟩
  · rw [List.length_take]
    omega
  · unfold HD.tab
    rw [find_fd hn hq]
    rfl
theorem HD.gok (hok : h.ok = true) (hb : ∀ q ∈ h.fds, q.bind) (X : K.In hp) (G : hp.Ns mainGlobals mg) (c : h.Says w K) : GOk w K mg I h.g h.tab := by
  have hx := c.x
  unfold HD.ex at hx
  rw [Bool.and_eq_true, Bool.and_eq_true] at hx
  refine ⟨fun f m fr hl => ?_, fun q hq => ?_, fun q hq => ?_, fun n hn => ?_⟩
  · obtain ⟨q, hq, rfl, rfl, rfl⟩ := lk_fd hl
    obtain ⟨fd, _, D⟩ := HD.at_ hok hb X G c q hq
    exact ⟨_, fd, _, D⟩
  · have z := List.all_eq_true.mp hx.1.1 q hq
    unfold gvB at z
    split at z
    · rename_i u e
      obtain ⟨x, h1, h2⟩ := valB_ok (I := I) z
      exact ⟨x, u, PySem.W.mg_of X G e, h1, h2⟩
    · cases z
  · have gl : mg (q.1 : Str) = some (.ref (He.ga K (q.1 : Str))) := He.glo_ok X G (c.fact (List.mem_append_left _ (List.mem_append_left _ (List.mem_append_right _ (List.mem_map.mpr ⟨q, hq, rfl⟩)))))
    refine ⟨_, gl, fun y v hl => ?_⟩
    have z := List.all_eq_true.mp hx.1.2 q hq
    unfold dxB at z
    have z := List.all_eq_true.mp z (y, v) (PySem.mem_of_lookup hl)
    simp only at z
    split at z
    · rename_i u e
      obtain ⟨x, h1, h2⟩ := valB_ok (I := I) z
      obtain ⟨i, hi⟩ := List.getElem?_of_mem (show ((fun K => He.ga K (q.1 : Str), q.2.map (·.1)) : He.Tab) ∈ h.ts from List.mem_map.mpr ⟨q, hq, rfl⟩)
      obtain ⟨es, n, k1, k2, k3⟩ := c.t.tab i hi
      exact ⟨x, ⟨es, n, u, k1, k2, e, h1⟩, h2⟩
    · cases z
  · exact He.free_ok X G (c.fact (List.mem_append_left _ (List.mem_append_right _ (List.mem_map.mpr ⟨n, hn, rfl⟩))))
theorem frag_mem {a : Addr} {o : Obj} : ∀ {l : PySem.W.Frag}, l.lookup a = some o → (a, o) ∈ l
  | [], h => by cases h
  | (b, p) :: l, h => by
    rw [List.lookup_cons] at h
    cases e : a == b with
    | true =>
      rw [e] at h
      cases h
      rw [eq_of_beq e]
      exact List.mem_cons_self ..
    | false =>
      rw [e] at h
      exact List.mem_cons_of_mem _ (frag_mem h)
theorem HD.Says.noList (c : h.Says w K) {a : Addr} {o : Obj} (e : K.lookup a = some o) : o.cls ≠ .type "list" := by
  have hx := c.x
  unfold HD.ex noL at hx
  rw [Bool.and_eq_true] at hx
  have z := List.all_eq_true.mp hx.2 (a, o) (frag_mem e)
  intro q
  rw [show (a, o).2.cls = Value.type "list" from q] at z
  exact absurd z (by decide)
/-- what the law's def is asked -/
theorem HD.asked {Φ : Tab} {sg : Sig} {d : Nat} (c : h.Says w K) (hall : ∀ ns : List Int, ns.length ≤ 63 → ∃ S', callF sg Φ d "law" [.loc 0] [.ro (ns.map .int)] = .ok (.bl true) S') (H : Hp) (a : Addr) (ns : List Int) (hl : ns.length ≤ 63) (hS : SqL K H a (ns.map V.int)) :
    spC I K (callF sg Φ d) "law" 1 false [.ref a] H (fun v _ => v = .bl true) fun _ _ _ => False := by
  have ha : ∃ o, H a = some o := by
    rcases hS with (z | ⟨o, z⟩) | ⟨o, its, n, hk, hc, _⟩
    · exact ⟨_, z⟩
    · exact ⟨_, z⟩
    · exact absurd hc (HD.Says.noList c hk)
  have rn : ∀ (l : List Int) (R : Addr → Prop) (μ : List Addr), RepVs I K H R μ (l.map .int) (l.map V.int) := by
    intro l R μ
    induction l with
    | nil => rfl
    | cons i l ih => exact ⟨_, _, rfl, rfl, ih⟩
  obtain ⟨S', e⟩ := hall ns hl
  refine ⟨⟨fun _ => False, fun _ => False, [a]⟩, [.loc 0], [.ro (ns.map .int)], ⟨fun _ z => z, fun _ z => z.elim, by simp, fun b hb => ?_⟩, ⟨rfl, fun n o hn => ?_⟩, ⟨_, _, rfl, ⟨a, rfl, rfl⟩, rfl⟩, rfl, ?_⟩
  · have hb : b = a := by simpa using hb
    subst hb
    exact ⟨fun z => z, ha⟩
  · cases n with
    | zero =>
      cases hn
      exact ⟨a, rfl, _, hS, rn ns _ _⟩
    | succ n => simp at hn
  · rw [e]
    exact fun W' H' x n k => k
/-- an exception, of whatever program -/
def CXA : CXT := fun outer H s E u s' => ∃ P w, L2.CX P w outer H s E u s'
theorem cxa_no {H : Hp} {s : Shared} {e : Value} {s' : Shared} (z : CXA [] H s (fun _ _ _ => False) e s') : False := by
  obtain ⟨_, _, _, _, _, _, _, _, _, _, _, _, _, _, z⟩ := z
  exact z
theorem fn_any {P : Program} {base : Heap} {k : Nat} {f : Addr} {fd : FuncData} {ps : List Str} {sp : Sp} (F : FnOk P w K mg base (L2.CX P w) k f fd ps sp) : FnOk P w K mg base CXA k f fd ps sp :=
  ⟨F.len, fun A outer s H args us vs Q E hr e0 hb hv hs => codeAny_mono (F.run A outer s H args us vs Q E hr e0 hb hv hs) fun r s' z => by
    cases r with
    | error e => exact ⟨P, w, z⟩
    | ok fl => cases fl <;> exact z⟩
/-- THE END -/
theorem HD.fin {P : Program} {n d : Nat} {sg : Sig} {q : FD} {x : Str} {w : World} {mg : Str → Option Value} {fa : Addr} {hp : Heap} (I : XI) (hok : h.ok = true) (hb : ∀ q ∈ h.fds, q.bind) (hq : q ∈ h.fds) (hf : q.f = "law") (h1 : q.np = 1) (h2 : q.fr = false) (h3 : q.N.take q.np = [x])
    (hbA : ∀ (K : PySem.W.Frag) (f : Addr) (fd : FuncData), FunD K q.d.name q.d.qual q.d.params q.d.body q.d.scope (q.d.dvs K) (q.d.kws K) f fd → ∀ (s : Shared) (u : Value), BindsTo s fd ⟨[u], []⟩ [(x, u)])
    (hall : ∀ ns : List Int, ns.length ≤ 63 → ∃ S', callF sg h.tab d "law" [.loc 0] [.ro (ns.map .int)] = .ok (.bl true) S') (Y : (h.hook n).says w hp) (G : hp.Ns mainGlobals mg) (hm : mg ("law" : Str) = some (.ref fa)) :
    ∃ (K : PySem.W.Frag) (fd : FuncData) (sp : Sp), K.In hp ∧ (∀ (s : Shared) (u : Value), BindsTo s fd ⟨[u], []⟩ [(x, u)]) ∧
        (∀ (H : Hp) (a : Addr) (ns : List Int), ns.length ≤ 63 → Only H → SqL K H a (ns.map V.int) → sp [.ref a] H (fun v _ => v = .bl true) fun _ _ _ => False) ∧
        ∀ base : Heap, K.In base → base.Ns mainGlobals mg → FnOk P w K mg base CXA d fa fd [x] sp := by
  obtain ⟨K, X, c⟩ := Y
  obtain ⟨fd, F, D⟩ := HD.at_ hok hb X G c q hq
  have gk := HD.gok (I := I) hok hb X G c
  refine ⟨K, fd, spC I K (callF sg h.tab d) "law" 1 false, X, hbA K _ fd F, fun H a ns hl _ hS => HD.asked c hall H a ns hl hS, fun base _ _ => ?_⟩
  obtain ⟨q1, q2, _, _⟩ := fns_ok (P := P) (base := base) (sg := sg) gk d q.f q.np q.fr _ fd _ D
  rw [hf, h1, h2] at q1
  rw [hf] at q2
  have e : fa = He.ga K (("law" : String) : Str) := by
    have z := hm.symm.trans q2
    exact (Value.ref.inj (Option.some.inj z))
  rw [e]
  have h3' : List.take 1 q.N = [x] := by rw [← h1]; exact h3
  rw [h3'] at q1
  exact fn_any q1
end
/-- no exceptions of one's own -/
def sg0 : Sig := ⟨fun _ => none, fun _ => none⟩
def xi0 : XI := ⟨fun _ => none, fun _ => none⟩
end Pi

end
section
set_option linter.all false
set_option maxRecDepth 100000
/-! PiR: what the common defs come to (plain). -/
namespace Pi
open PySem
namespace Co
def fn__law_dip : Fn := ⟨2, 3, [.asg (.v 2) (.ite (.cmp .lt (.lv 1) (.bi .len [(.lv 0)])) (.ix (.lv 0) (.lv 1)) (.cst (.int 0))),
  .ret (.box [(.bin .mul (.bi .abs [(.lv 2)]) (.bi .int [(.cmp .ge (.bi .abs [(.lv 2)]) (.bin .pow (.cst (.int 10)) (.cst (.int 18))))])), (.bin .add (.bin .add (.bin .mod (.lv 2) (.cst (.int 2305843009213693951))) (.bin .mul (.cst (.int 39373)) (.lv 1))) (.cst (.int 17))), (.cst (.int 0))])]⟩
def fn__law_take : Fn := ⟨2, 5, [.ite (.cmp .gt (.ix (.lv 0) (.cst (.int 0))) (.cst (.int 0))) [.asg (.v 2) (.bin .mod (.ix (.lv 0) (.cst (.int 0))) (.lv 1)), .setB (.lv 0) (.cst (.int 0)) (.bin .fdiv (.ix (.lv 0) (.cst (.int 0))) (.lv 1)), .ret (.lv 2)] [],
  .setB (.lv 0) (.cst (.int 2)) (.bin .add (.ix (.lv 0) (.cst (.int 2))) (.cst (.int 1))),
  .asg (.v 3) (.bin .mod (.bin .pow (.bin .add (.ix (.lv 0) (.cst (.int 1))) (.bin .mul (.cst (.int 39373)) (.ix (.lv 0) (.cst (.int 2))))) (.cst (.int 5))) (.cst (.int 2147483647))),
  .asg (.v 4) (.bin .mod (.bin .mul (.bin .add (.bin .add (.lv 3) (.ix (.lv 0) (.cst (.int 2)))) (.bin .fdiv (.ix (.lv 0) (.cst (.int 1))) (.cst (.int 1000003)))) (.bin .add (.bin .add (.bin .mod (.lv 3) (.cst (.int 40009))) (.cst (.int 7))) (.ix (.lv 0) (.cst (.int 2))))) (.cst (.int 2147483629))),
  .ret (.bin .mod (.bin .fdiv (.bin .mod (.bin .add (.bin .mul (.lv 4) (.cst (.int 48271))) (.lv 3)) (.cst (.int 2147483587))) (.cst (.int 64))) (.lv 1))]⟩
def fn__law_folded : Fn := ⟨2, 5, [.own 2 (.bi .list [(.sl (.lv 0) [] [(.lv 1)])]),
  .forr 5 [(.sl (.lv 0) [(.lv 1)] [(.cst (.int 63))])] (.tup [(.v 3), (.v 4)]) [.setL 2 (.bin .mod (.lv 3) (.lv 1)) (.bin .add (.ix (.lv 2) (.bin .mod (.lv 3) (.lv 1))) (.bin .mul (.lv 4) (.bin .add (.lv 3) (.cst (.int 2)))))],
  .share 2,
  .ret (.lv 2)]⟩
def fn__law_same : Fn := ⟨2, 4, [.ite (.isa (.lv 1) [.lst, .tup]) [.ite (.or [(.cmp .ne (.isa (.lv 0) [.lst]) (.isa (.lv 1) [.lst])), (.cmp .ne (.isa (.lv 0) [.tup]) (.isa (.lv 1) [.tup]))]) [.ret (.cst (.bl false))] [], .ret (.and [(.cmp .eq (.bi .len [(.lv 0)]) (.bi .len [(.lv 1)])), (.bi .all [(.comp 4 [(.lv 0), (.lv 1)] (.tup [(.v 2), (.v 3)]) [] (.call "_law_same" [(.lv 2), (.lv 3)]))])])] [],
  .ite (.or [(.cmp .isn (.lv 1) (.cst .non)), (.cmp .isn (.lv 0) (.cst .non))]) [.ret (.and [(.cmp .isn (.lv 1) (.cst .non)), (.cmp .isn (.lv 0) (.cst .non))])] [],
  .ite (.or [(.isa (.lv 1) [.bool]), (.isa (.lv 1) [.str])]) [.ret (.and [(.cmp .eq (.isa (.lv 0) [.bool]) (.isa (.lv 1) [.bool])), (.cmp .eq (.lv 0) (.lv 1))])] [],
  .ret (.and [(.isa (.lv 0) [.int]), (.not (.isa (.lv 0) [.bool])), (.cmp .eq (.lv 0) (.lv 1))])]⟩
end Co

@[simp] theorem bv_addI (a b : Int) : binV .add (.int a) (.int b) = some (.int (a + b)) := rfl
@[simp] theorem bv_subI (a b : Int) : binV .sub (.int a) (.int b) = some (.int (a - b)) := rfl
theorem bv_addS {a b : Str} (h : a.length + b.length ≤ lim) : binV .add (.str a) (.str b) = some (.str (a ++ b)) := if_pos h
theorem bv_addL {a b : List Val} (h : a.length + b.length ≤ lim) : binV .add (.lst a) (.lst b) = some (.lst (a ++ b)) := if_pos h
theorem bv_addT {a b : List Val} (h : a.length + b.length ≤ lim) : binV .add (.tup a) (.tup b) = some (.tup (a ++ b)) := if_pos h
theorem bv_mulI {a b : Int} (h : fitMul a b = true) : binV .mul (.int a) (.int b) = some (.int (a * b)) := if_pos h
theorem bv_mod {a b : Int} (h : 0 < b) : binV .mod (.int a) (.int b) = some (.int (a % b)) := by
  have : b ≠ 0 := by omega
  show (if b = 0 then none else some (Val.int (a.fmod b))) = _
  rw [if_neg this, Int.fmod_eq_emod_of_nonneg _ (Int.le_of_lt h)]
theorem bv_div {a b : Int} (h : 0 < b) (h2 : b < 9223372036854775808) : binV .fdiv (.int a) (.int b) = some (.int (a / b)) := by
  have l : b.natAbs.log2 < 64 := (Nat.log2_lt (by omega)).mpr (by omega)
  show (if b = 0 ∨ 9000 ≤ b.natAbs.log2 then none else some (Val.int (a.fdiv b))) = _
  rw [if_neg (by omega), Int.fdiv_eq_ediv_of_nonneg _ (Int.le_of_lt h)]
theorem bv_pow {a : Int} {n : Nat} (h : a.natAbs < 2 ^ 64) (h2 : n ≤ 1000000) : binV .pow (.int a) (.int n) = some (.int (a ^ n)) := by
  show (if 0 ≤ (n : Int) ∧ (n : Int) ≤ 1000000 ∧ a.natAbs < 2 ^ 64 then some (Val.int (a ^ (n : Int).toNat)) else none) = _
  rw [if_pos ⟨by omega, by omega, h⟩]
  rfl
theorem fit_r {a b : Int} (h : -18446744073709551616 < b) (h2 : b < 18446744073709551616) : fitMul a b = true := by
  unfold fitMul
  simp only [Bool.or_eq_true, decide_eq_true_eq]
  exact .inl (.inr (by omega))
theorem fit_l {a b : Int} (h : -18446744073709551616 < a) (h2 : a < 18446744073709551616) : fitMul a b = true := by
  unfold fitMul
  simp only [Bool.or_eq_true, decide_eq_true_eq]
  exact .inl (.inl (by omega))
section
variable {sg : Sig} {cf : String → List Val → Store → Res Val}
@[simp] theorem evE_q0 {ρ : Env} {S : Store}  : evE sg cf ρ (.lv i) S = (match ρ[i]? with
    | some (some v) => .ok v S
    | _ => .bad) := by first | (simp only [evE]; done) | (simp only [evE]; rfl)
@[simp] theorem evE_q1 {ρ : Env} {S : Store}  : evE sg cf ρ (.cst v) S = .ok v S := by first | (simp only [evE]; done) | (simp only [evE]; rfl)
@[simp] theorem evE_q2 {ρ : Env} {S : Store}  : evE sg cf ρ (.gv w0 v) S = .ok v S := by first | (simp only [evE]; done) | (simp only [evE]; rfl)
@[simp] theorem evE_q3 {ρ : Env} {S : Store}  : evE sg cf ρ (.bin o a b) S = (evE sg cf ρ a S).bind fun x S1 => (evE sg cf ρ b S1).bind fun y S2 => .of (binV o x y) S2 := by first | (simp only [evE]; done) | (simp only [evE]; rfl)
@[simp] theorem evE_q4 {ρ : Env} {S : Store}  : evE sg cf ρ (.neg a) S = (evE sg cf ρ a S).bind fun x S1 => (match x with
    | .int i => .ok (.int (-i)) S1
    | _ => .bad) := by first | (simp only [evE]; done) | (simp only [evE]; rfl)
@[simp] theorem evE_q5 {ρ : Env} {S : Store}  : evE sg cf ρ (.cmp o a b) S = (evE sg cf ρ a S).bind fun x S1 => (evE sg cf ρ b S1).bind fun y S2 => .of ((cmpV o x y).map .bl) S2 := by first | (simp only [evE]; done) | (simp only [evE]; rfl)
@[simp] theorem evE_q6 {ρ : Env} {S : Store}  : evE sg cf ρ (.chain o1 o2 a b c) S = (evE sg cf ρ a S).bind fun x S1 => (evE sg cf ρ b S1).bind fun y S2 => (match cmpV o1 x y with
    | some true => (evE sg cf ρ c S2).bind fun z S3 => .of ((cmpV o2 y z).map .bl) S3
    | some false => .ok (.bl false) S2
    | none => .bad) := by first | (simp only [evE]; done) | (simp only [evE]; rfl)
@[simp] theorem evE_q7 {ρ : Env} {S : Store}  : evE sg cf ρ (.not a) S = (evE sg cf ρ a S).bind fun v S1 => .of ((truV v).map fun b => .bl (!b)) S1 := by first | (simp only [evE]; done) | (simp only [evE]; rfl)
@[simp] theorem evE_q8 {ρ : Env} {S : Store}  : evE sg cf ρ (.and es) S = evAnd sg cf ρ es S := by first | (simp only [evE]; done) | (simp only [evE]; rfl)
@[simp] theorem evE_q9 {ρ : Env} {S : Store}  : evE sg cf ρ (.or es) S = evOr sg cf ρ es S := by first | (simp only [evE]; done) | (simp only [evE]; rfl)
@[simp] theorem evE_q10 {ρ : Env} {S : Store}  : evE sg cf ρ (.ite c a b) S = (evE sg cf ρ c S).bind fun v S1 => (match truV v with
    | some true => evE sg cf ρ a S1
    | some false => evE sg cf ρ b S1
    | none => .bad) := by first | (simp only [evE]; done) | (simp only [evE]; rfl)
@[simp] theorem evE_q11 {ρ : Env} {S : Store}  : evE sg cf ρ (.tup es) S = (evEs sg cf ρ es S).bind fun vs S1 => .ok (.tup vs) S1 := by first | (simp only [evE]; done) | (simp only [evE]; rfl)
@[simp] theorem evE_q12 {ρ : Env} {S : Store}  : evE sg cf ρ (.lst es) S = (evEs sg cf ρ es S).bind fun vs S1 => .ok (.lst vs) S1 := by first | (simp only [evE]; done) | (simp only [evE]; rfl)
@[simp] theorem evE_q13 {ρ : Env} {S : Store}  : evE sg cf ρ (.box es) S = (evEs sg cf ρ es S).bind fun vs S1 => .ok (.loc S1.length) (S1 ++ [.lst vs]) := by first | (simp only [evE]; done) | (simp only [evE]; rfl)
@[simp] theorem evE_q14 {ρ : Env} {S : Store}  : evE sg cf ρ (.ix a i) S = (evE sg cf ρ a S).bind fun x S1 => (evE sg cf ρ i S1).bind fun y S2 => .of (ixV S2 x y) S2 := by first | (simp only [evE]; done) | (simp only [evE]; rfl)
@[simp] theorem evE_q15 {ρ : Env} {S : Store}  : evE sg cf ρ (.sl a lo hi) S = (evE sg cf ρ a S).bind fun x S1 => (evO sg cf ρ lo S1).bind fun l S2 => (evO sg cf ρ hi S2).bind fun h S3 => .of (slV S3 x l h) S3 := by first | (simp only [evE]; done) | (simp only [evE]; rfl)
@[simp] theorem evE_q16 {ρ : Env} {S : Store}  : evE sg cf ρ (.call f es) S = (evEs sg cf ρ es S).bind fun vs S1 => cf f vs S1 := by first | (simp only [evE]; done) | (simp only [evE]; rfl)
@[simp] theorem evE_q17 {ρ : Env} {S : Store}  : evE sg cf ρ (.callB f es w0 src) S = (evEs sg cf ρ es S).bind fun vs S1 => (match srcVs vs src with
    | some ws => cf f ws S1
    | none => .bad) := by first | (simp only [evE]; done) | (simp only [evE]; rfl)
@[simp] theorem evE_q18 {ρ : Env} {S : Store}  : evE sg cf ρ (.bi b es) S = (evEs sg cf ρ es S).bind fun vs S1 => .of (biV S1 b vs) S1 := by first | (simp only [evE]; done) | (simp only [evE]; rfl)
@[simp] theorem evE_cmp {ρ : Env} {S : Store} {k : Nat} {its : List IE} {p : Pat} {cs : List IE} {e : IE} : evE sg cf ρ (.comp k its p cs e) S = ((evEs sg cf ρ its S).bind fun vs S1 => .of (itV S1 k vs) S1).bind fun xs S1 => (compGo (compF sg cf p cs e ρ) xs S1).bind fun ys S2 => if ys.length ≤ lim then .ok (.lst ys) S2 else .bad := by first | (simp only [evE]; done) | (simp only [evE]; rfl)
@[simp] theorem evE_q20 {ρ : Env} {S : Store}  : evE sg cf ρ (.comp2 k its p k2 its2 p2 cs e) S = ((evEs sg cf ρ its S).bind fun vs S1 => .of (itV S1 k vs) S1).bind fun xs S1 =>
    (compGo (fun v S2 => (match bindP p v (wipeE (wipeE ρ p.vars) p2.vars) with
      | some ρ' => ((evEs sg cf ρ' its2 S2).bind fun ws S3 => .of (itV S3 k2 ws) S3).bind fun ys S3 =>
          compGo (fun u S4 => (match bindP p2 u ρ' with
          | some ρ2 => (evTs sg cf ρ2 cs S4).bind fun c S5 => if c then (evE sg cf ρ2 e S5).bind fun y S6 => .ok [y] S6 else .ok [] S5
          | none => .bad)) ys S3
      | none => .bad)) xs S1).bind fun ys S2 => if ys.length ≤ lim then .ok (.lst ys) S2 else .bad := by first | (simp only [evE]; done) | (simp only [evE]; rfl)
@[simp] theorem evE_q21 {ρ : Env} {S : Store}  : evE sg cf ρ (.isa e ts) S = (evE sg cf ρ e S).bind fun v S1 => .of ((isasV sg.eb v ts).map .bl) S1 := by first | (simp only [evE]; done) | (simp only [evE]; rfl)
@[simp] theorem evE_q22 {ρ : Env} {S : Store}  : evE sg cf ρ (.mkx c e) S = (evE sg cf ρ e S).bind fun v S1 => .ok (.exn c v) S1 := by first | (simp only [evE]; done) | (simp only [evE]; rfl)
@[simp] theorem evE_q23 {ρ : Env} {S : Store}  : evE sg cf ρ (.fldx e f) S = (evE sg cf ρ e S).bind fun v S1 => (match v with
    | .exn c x => if sg.xf c = some f then .ok x S1 else .bad
    | _ => .bad) := by first | (simp only [evE]; done) | (simp only [evE]; rfl)
@[simp] theorem evE_q24 {ρ : Env} {S : Store}  : evE sg cf ρ (.fld e f) S = (evE sg cf ρ e S).bind fun v S1 => (match v with
    | .loc n => (match S1[n]? with
      | some (.ins _ fs) => .of (fs.lookup f) S1
      | _ => .bad)
    | _ => .bad) := by first | (simp only [evE]; done) | (simp only [evE]; rfl)
@[simp] theorem evE_q25 {ρ : Env} {S : Store}  : evE sg cf ρ (.dix w0 kvs k) S = (evE sg cf ρ k S).bind fun v S1 => (match v with
    | .str x => .of (kvs.lookup x) S1
    | _ => .bad) := by first | (simp only [evE]; done) | (simp only [evE]; rfl)
@[simp] theorem evEs_q0 {ρ : Env} {S : Store}  : evEs sg cf ρ ([]) S = .ok [] S := by first | (simp only [evEs]; done) | (simp only [evEs]; rfl)
@[simp] theorem evEs_q1 {ρ : Env} {S : Store}  : evEs sg cf ρ (e :: es) S = (evE sg cf ρ e S).bind fun v S1 => (evEs sg cf ρ es S1).bind fun vs S2 => .ok (v :: vs) S2 := by first | (simp only [evEs]; done) | (simp only [evEs]; rfl)
@[simp] theorem evO_q0 {ρ : Env} {S : Store}  : evO sg cf ρ ([]) S = .ok none S := by first | (simp only [evO]; done) | (simp only [evO]; rfl)
@[simp] theorem evO_q1 {ρ : Env} {S : Store}  : evO sg cf ρ (e :: w0) S = (evE sg cf ρ e S).bind fun v S1 => (match v with
    | .int i => .ok (some i) S1
    | _ => .bad) := by first | (simp only [evO]; done) | (simp only [evO]; rfl)
@[simp] theorem evAnd_q0 {ρ : Env} {S : Store}  : evAnd sg cf ρ ([]) S = .bad := by first | (simp only [evAnd]; done) | (simp only [evAnd]; rfl)
@[simp] theorem evAnd_q1 {ρ : Env} {S : Store}  : evAnd sg cf ρ (e :: es) S = (evE sg cf ρ e S).bind fun v S1 => (match es with
    | [] => .ok v S1
    | _ :: _ => (match v with
      | .bl true => evAnd sg cf ρ es S1
      | .bl false => .ok (.bl false) S1
      | _ => .bad)) := by first | (simp only [evAnd]; done) | (simp only [evAnd]; rfl)
@[simp] theorem evOr_q0 {ρ : Env} {S : Store}  : evOr sg cf ρ ([]) S = .bad := by first | (simp only [evOr]; done) | (simp only [evOr]; rfl)
@[simp] theorem evOr_q1 {ρ : Env} {S : Store}  : evOr sg cf ρ (e :: es) S = (evE sg cf ρ e S).bind fun v S1 => (match es with
    | [] => .ok v S1
    | _ :: _ => (match v with
      | .bl false => evOr sg cf ρ es S1
      | .bl true => .ok (.bl true) S1
      | _ => .bad)) := by first | (simp only [evOr]; done) | (simp only [evOr]; rfl)
@[simp] theorem evTs_q0 {ρ : Env} {S : Store}  : evTs sg cf ρ ([]) S = .ok true S := by first | (simp only [evTs]; done) | (simp only [evTs]; rfl)
@[simp] theorem evTs_q1 {ρ : Env} {S : Store}  : evTs sg cf ρ (e :: es) S = (evE sg cf ρ e S).bind fun v S1 => (match truV v with
    | some true => evTs sg cf ρ es S1
    | some false => .ok false S1
    | none => .bad) := by first | (simp only [evTs]; done) | (simp only [evTs]; rfl)
@[simp] theorem evS_q0 {ρ : Env} {S : Store}  : evS sg cf (.expr e) ρ S = (evE sg cf ρ e S).on ρ fun _ S1 => .nx ρ S1 := by first | (simp only [evS]; done) | (simp only [evS]; rfl)
@[simp] theorem evS_q1 {ρ : Env} {S : Store}  : evS sg cf (.asg p e) ρ S = (evE sg cf ρ e S).on ρ fun v S1 => (match bindP p v ρ with
    | some ρ' => .nx ρ' S1
    | none => .bad) := by first | (simp only [evS]; done) | (simp only [evS]; rfl)
@[simp] theorem evS_q2 {ρ : Env} {S : Store}  : evS sg cf (.own i e) ρ S = (evE sg cf ρ e S).on ρ fun v S1 => (match v with
    | .lst l => .nx (setE ρ i (.lst l)) S1
    | _ => .bad) := by first | (simp only [evS]; done) | (simp only [evS]; rfl)
@[simp] theorem evS_q3 {ρ : Env} {S : Store}  : evS sg cf (.share w0) ρ S = .nx ρ S := by first | (simp only [evS]; done) | (simp only [evS]; rfl)
@[simp] theorem evS_q4 {ρ : Env} {S : Store}  : evS sg cf (.par is es) ρ S = (evEs sg cf ρ es S).on ρ fun vs S1 => (match parE is vs ρ with
    | some ρ' => .nx ρ' S1
    | none => .bad) := by first | (simp only [evS]; done) | (simp only [evS]; rfl)
@[simp] theorem evS_q5 {ρ : Env} {S : Store}  : evS sg cf (.aug i o e) ρ S = (match ρ[i]? with
    | some (some x) => (evE sg cf ρ e S).on ρ fun y S1 => (match binV o x y with
      | some z => .nx (setE ρ i z) S1
      | none => .bad)
    | _ => .bad) := by first | (simp only [evS]; done) | (simp only [evS]; rfl)
@[simp] theorem evS_q6 {ρ : Env} {S : Store}  : evS sg cf (.setL i k e) ρ S = (match lstE ρ i with
    | some l => (evE sg cf ρ e S).on ρ fun v S1 => (evE sg cf ρ k S1).on ρ fun j S2 => (match j with
      | .int j => (match ixN l.length j with
        | some n => .nx (setE ρ i (.lst (l.set n v))) S2
        | none => .bad)
      | _ => .bad)
    | none => .bad) := by first | (simp only [evS]; done) | (simp only [evS]; rfl)
@[simp] theorem evS_q7 {ρ : Env} {S : Store}  : evS sg cf (.setB b k e) ρ S = (evE sg cf ρ e S).on ρ fun v S1 => (evE sg cf ρ b S1).on ρ fun x S2 => (evE sg cf ρ k S2).on ρ fun j S3 => (match x, j with
    | .loc n, .int j => (match S3[n]? with
      | some (.lst l) => (match ixN l.length j with
        | some m => .nx ρ (S3.set n (.lst (l.set m v)))
        | none => .bad)
      | _ => .bad)
    | _, _ => .bad) := by first | (simp only [evS]; done) | (simp only [evS]; rfl)
@[simp] theorem evS_q8 {ρ : Env} {S : Store}  : evS sg cf (.app i e) ρ S = (match lstE ρ i with
    | some l => (evE sg cf ρ e S).on ρ fun v S1 => if l.length < lim then .nx (setE ρ i (.lst (l ++ [v]))) S1 else .bad
    | none => .bad) := by first | (simp only [evS]; done) | (simp only [evS]; rfl)
@[simp] theorem evS_q9 {ρ : Env} {S : Store}  : evS sg cf (.pop i k) ρ S = (match lstE ρ i with
    | some l => (evO sg cf ρ k S).on ρ fun n S1 => (match popL l n with
      | some (_, l') => .nx (setE ρ i (.lst l')) S1
      | none => .bad)
    | none => .bad) := by first | (simp only [evS]; done) | (simp only [evS]; rfl)
@[simp] theorem evS_q10 {ρ : Env} {S : Store}  : evS sg cf (.popTo j i k) ρ S = (match lstE ρ i with
    | some l => (evO sg cf ρ k S).on ρ fun n S1 => (match popL l n with
      | some (v, l') => .nx (setE (setE ρ i (.lst l')) j v) S1
      | none => .bad)
    | none => .bad) := by first | (simp only [evS]; done) | (simp only [evS]; rfl)
@[simp] theorem evS_q11 {ρ : Env} {S : Store}  : evS sg cf (.ret e) ρ S = (evE sg cf ρ e S).on ρ fun v S1 => .rt v S1 := by first | (simp only [evS]; done) | (simp only [evS]; rfl)
@[simp] theorem evS_q12 {ρ : Env} {S : Store}  : evS sg cf (.retN) ρ S = .rt .non S := by first | (simp only [evS]; done) | (simp only [evS]; rfl)
@[simp] theorem evS_q13 {ρ : Env} {S : Store}  : evS sg cf (.ite c a b) ρ S = (evT sg cf ρ c S).on ρ fun k S1 => if k then evSs sg cf a ρ S1 else evSs sg cf b ρ S1 := by first | (simp only [evS]; done) | (simp only [evS]; rfl)
@[simp] theorem evS_q14 {ρ : Env} {S : Store}  : evS sg cf (.forr k its p b) ρ S = ((evEs sg cf ρ its S).bind fun vs S1 => .of (itV S1 k vs) S1).on ρ fun xs S1 =>
    forGo (fun v ρ S => (match bindP p v ρ with
      | some ρ' => evSs sg cf b ρ' S
      | none => .bad)) xs ρ S1 := by first | (simp only [evS]; done) | (simp only [evS]; rfl)
@[simp] theorem evS_q15 {ρ : Env} {S : Store}  : evS sg cf (.whil c b) ρ S = whileM (fun ρ S => evT sg cf ρ c S) (fun ρ S => evSs sg cf b ρ S) ρ S := by first | (simp only [evS]; done) | (simp only [evS]; rfl)
@[simp] theorem evS_q16 {ρ : Env} {S : Store}  : evS sg cf (.brk) ρ S = .bk ρ S := by first | (simp only [evS]; done) | (simp only [evS]; rfl)
@[simp] theorem evS_q17 {ρ : Env} {S : Store}  : evS sg cf (.cnt) ρ S = .ct ρ S := by first | (simp only [evS]; done) | (simp only [evS]; rfl)
@[simp] theorem evS_q18 {ρ : Env} {S : Store}  : evS sg cf (.pass) ρ S = .nx ρ S := by first | (simp only [evS]; done) | (simp only [evS]; rfl)
@[simp] theorem evS_q19 {ρ : Env} {S : Store}  : evS sg cf (.raise e) ρ S = (evE sg cf ρ e S).on ρ fun v S1 => (match v with
    | .exn c x => .ex (.exn c x) ρ S1
    | _ => .bad) := by first | (simp only [evS]; done) | (simp only [evS]; rfl)
@[simp] theorem evS_q20 {ρ : Env} {S : Store}  : evS sg cf (.tryx b c i h) ρ S = (match evS sg cf b ρ S with
    | .ex (.exn d x) ρ' S' => if c == d then (evSs sg cf h (setE ρ' i (.exn d x)) S').then fun ρ2 S2 => .nx (ρ2.set i none) S2 else (match sg.eb d with
      | some bb => if (overB bb).contains c then (evSs sg cf h (setE ρ' i (.exn d x)) S').then fun ρ2 S2 => .nx (ρ2.set i none) S2 else .ex (.exn d x) ρ' S'
      | none => .bad)
    | o => o) := by first | (simp only [evS]; done) | (simp only [evS]; rfl)
@[simp] theorem evSs_q0 {ρ : Env} {S : Store}  : evSs sg cf ([]) ρ S = .nx ρ S := by first | (simp only [evSs]; done) | (simp only [evSs]; rfl)
@[simp] theorem evSs_q1 {ρ : Env} {S : Store}  : evSs sg cf (s :: r) ρ S = (evS sg cf s ρ S).then fun ρ' S' => evSs sg cf r ρ' S' := by first | (simp only [evSs]; done) | (simp only [evSs]; rfl)
@[simp] theorem evT_q {ρ : Env} {S : Store} {e : IE} : evT sg cf ρ e S = (evE sg cf ρ e S).bind fun v S1 => .of (truV v) S1 := rfl
@[simp] theorem bindP_v {i : Nat} {v : Val} {ρ : Env} : bindP (.v i) v ρ = some (setE ρ i v) := by simp only [bindP]
@[simp] theorem bindP_t {ps : List Pat} {l : List Val} {ρ : Env} : bindP (.tup ps) (.tup l) ρ = if l.length = ps.length then bindPs ps l ρ else none := by simp only [bindP]
@[simp] theorem bindPs_n {ρ : Env} : bindPs [] [] ρ = some ρ := by simp only [bindPs]
@[simp] theorem bindPs_c {p : Pat} {ps : List Pat} {v : Val} {vs : List Val} {ρ : Env} : bindPs (p :: ps) (v :: vs) ρ = (bindP p v ρ).bind fun ρ' => bindPs ps vs ρ' := by simp only [bindPs]
@[simp] theorem setE_q {i : Nat} {v : Val} {ρ : Env} : setE ρ i v = ρ.set i (some v) := rfl
@[simp] theorem set_0 {α : Type} (a b : α) (l : List α) : (a :: l).set 0 b = b :: l := rfl
@[simp] theorem set_s {α : Type} (a b : α) (n : Nat) (l : List α) : (a :: l).set (n + 1) b = a :: l.set n b := rfl
end
section
variable {sg : Sig} {Φ : Tab}
@[simp] def finO : Out → Res Val
  | .nx _ S => .ok .non S
  | .rt v S => .ok v S
  | .ex x _ S => .exc x S
  | _ => .bad
theorem call_eq {f : String} {fn : Fn} {d : Nat} {args : List Val} {S : Store} (h : Φ f = some fn) (hl : args.length = fn.np) :
    callF sg Φ (d + 1) f args S = finO (evSs sg (callF sg Φ d) fn.body (args.map some ++ List.replicate (fn.nl - fn.np) none) S) := by
  simp only [callF, h, hl, if_true]
  cases evSs sg (callF sg Φ d) fn.body (args.map some ++ List.replicate (fn.nl - fn.np) none) S <;> rfl
theorem box_get {n : Nat} {a b c : Int} {S : Store} (h : S[n]? = some (.lst [.int a, .int b, .int c])) : ixV S (.loc n) (.int 0) = some (.int a) ∧ ixV S (.loc n) (.int 1) = some (.int b) ∧ ixV S (.loc n) (.int 2) = some (.int c) := by
  unfold ixV
  simp only [h]
  exact ⟨rfl, rfl, rfl⟩
/-- a box: what was drawn from it m times at most -/
structure Box (S : Store) (n : Nat) (m : Nat) : Prop where
  ex : ∃ a b c : Int, S[n]? = some (.lst [.int a, .int b, .int c]) ∧ 0 ≤ a ∧ 0 ≤ b ∧ b < 4611686018427387904 ∧ 0 ≤ c ∧ c ≤ m
theorem Box.mono {S : Store} {n m m' : Nat} (b : Box S n m) (h : m ≤ m') : Box S n m' := by
  obtain ⟨a, b, c, h1, h2, h3, h4, h5, h6⟩ := b.ex
  exact ⟨a, b, c, h1, h2, h3, h4, h5, by omega⟩
@[simp] theorem gt_int (a b : Int) : cmpV .gt (.int a) (.int b) = some (decide (b < a)) := rfl
@[simp] theorem ge_int (a b : Int) : cmpV .ge (.int a) (.int b) = some (decide (b ≤ a)) := rfl
@[simp] theorem lt_int (a b : Int) : cmpV .lt (.int a) (.int b) = some (decide (a < b)) := rfl
@[simp] theorem le_int (a b : Int) : cmpV .le (.int a) (.int b) = some (decide (a ≤ b)) := rfl
@[simp] theorem tru_bl (b : Bool) : truV (.bl b) = some b := rfl
theorem take_ok {d n m : Nat} {k : Int} {S : Store} (h : Φ "_law_take" = some Co.fn__law_take) (b : Box S n m) (hk : 0 < k) (hk2 : k < 9223372036854775808) (hm : m < 1000000) :
    ∃ r S', callF sg Φ (d + 1) "_law_take" [.loc n, .int k] S = .ok (.int r) S' ∧ 0 ≤ r ∧ r < k ∧ Box S' n (m + 1) ∧ S'.length = S.length ∧ ∀ j, j ≠ n → S'[j]? = S[j]? := by
  obtain ⟨a, b, c, hS, ha, hb, hb2, hc, hc2⟩ := b.ex
  rw [call_eq h rfl]
  obtain ⟨g0, g1, g2⟩ := box_get hS
  have hn : n < S.length := (List.getElem?_eq_some_iff.mp hS).1
  by_cases h0 : 0 < a
  · refine ⟨a % k, S.set n (.lst [.int (a / k), .int b, .int c]), ?_, Int.emod_nonneg _ (by omega), Int.emod_lt_of_pos _ hk, ⟨_, _, _, List.getElem?_set_self hn, Int.ediv_nonneg ha (Int.le_of_lt hk), hb, hb2, hc, by omega⟩, by rw [List.length_set], fun j hj => by rw [List.getElem?_set_ne (Ne.symm hj)]⟩
    simp [Co.fn__law_take, g0, h0, bv_mod hk, bv_div hk hk2, hS, ixN]
  · have hS2 : (S.set n (.lst [.int a, .int b, .int (c + 1)]))[n]? = some (.lst [.int a, .int b, .int (c + 1)]) := List.getElem?_set_self hn
    obtain ⟨f0, f1, f2⟩ := box_get hS2
    have p1 : ∀ x : Int, binV .mul (.int 39373) (.int x) = some (.int (39373 * x)) := fun x => bv_mulI (fit_l (by omega) (by omega))
    have p2 : binV .pow (.int (b + 39373 * (c + 1))) (.int 5) = some (.int ((b + 39373 * (c + 1)) ^ 5)) := bv_pow (n := 5) (by omega) (by omega)
    have p3 : ∀ x : Int, 0 ≤ x → x < 3000000 → ∀ y : Int, binV .mul (.int y) (.int x) = some (.int (y * x)) := fun x h1 h2 y => bv_mulI (fit_r (by omega) (by omega))
    have q1 := Int.emod_nonneg ((b + 39373 * (c + 1)) ^ 5 % 2147483647) (show (40009 : Int) ≠ 0 by omega)
    have q2 := Int.emod_lt_of_pos ((b + 39373 * (c + 1)) ^ 5 % 2147483647) (show (0 : Int) < 40009 by omega)
    have p4 : ∀ y : Int, binV .mul (.int y) (.int ((b + 39373 * (c + 1)) ^ 5 % 2147483647 % 40009 + 7 + (c + 1))) = some (.int (y * ((b + 39373 * (c + 1)) ^ 5 % 2147483647 % 40009 + 7 + (c + 1)))) := p3 _ (by omega) (by omega)
    have p5 : ∀ y : Int, binV .mul (.int y) (.int 48271) = some (.int (y * 48271)) := p3 _ (by omega) (by omega)
    have key : ∃ x : Int, finO (evSs sg (callF sg Φ d) Co.fn__law_take.body ([Val.loc n, Val.int k].map some ++ List.replicate (Co.fn__law_take.nl - Co.fn__law_take.np) none) S) = .ok (.int (x % k)) (S.set n (.lst [.int a, .int b, .int (c + 1)])) := by
      refine ⟨?_, ?_⟩
      rotate_left
      · simp [Co.fn__law_take, g0, g1, g2, f0, f1, f2, h0, bv_mod hk, bv_div, bv_mod, hS, ixN, p1, p2, p4, p5]
        rfl
    obtain ⟨x, key⟩ := key
    exact ⟨_, _, key, Int.emod_nonneg _ (by omega), Int.emod_lt_of_pos _ hk, ⟨_, _, _, hS2, ha, hb, hb2, by omega, by omega⟩, by rw [List.length_set], fun j hj => by rw [List.getElem?_set_ne (Ne.symm hj)]⟩
theorem forGo_inv {f : Val → Env → Store → Out} {P : Nat → Env → Store → Prop} : ∀ {l : List Val} {k : Nat} {ρ : Env} {S : Store}, (∀ i v ρ S, l[i]? = some v → P (k + i) ρ S → ∃ ρ' S', (f v ρ S = .nx ρ' S' ∨ f v ρ S = .ct ρ' S') ∧ P (k + i + 1) ρ' S') → P k ρ S →
    ∃ ρ' S', forGo f l ρ S = .nx ρ' S' ∧ P (k + l.length) ρ' S'
  | [], k, ρ, S, _, h0 => ⟨ρ, S, rfl, h0⟩
  | v :: r, k, ρ, S, h, h0 => by
    obtain ⟨ρ1, S1, e, p⟩ := h 0 v ρ S rfl h0
    obtain ⟨ρ2, S2, e2, p2⟩ := forGo_inv (f := f) (P := P) (l := r) (k := k + 1) (fun i v ρ S hi hp => by
      obtain ⟨a, b, c, q⟩ := h (i + 1) v ρ S (by simpa using hi) (by rw [show k + (i + 1) = k + 1 + i by omega]; exact hp)
      exact ⟨a, b, c, by rw [show k + 1 + i + 1 = k + (i + 1) + 1 by omega]; exact q⟩) p
    refine ⟨ρ2, S2, ?_, by rw [List.length_cons, show k + (r.length + 1) = k + 1 + r.length by omega]; exact p2⟩
    unfold forGo
    rcases e with e | e <;> rw [e] <;> exact e2
theorem compGo_one {f : Val → Store → Res (List Val)} {P : Nat → Store → Prop} {R : Nat → Val → Prop} : ∀ {l : List Val} {k : Nat} {S : Store}, (∀ i v S, l[i]? = some v → P (k + i) S → ∃ y S', f v S = .ok [y] S' ∧ P (k + i + 1) S' ∧ R (k + i) y) → P k S →
    ∃ zs S', compGo f l S = .ok zs S' ∧ P (k + l.length) S' ∧ zs.length = l.length ∧ ∀ i z, zs[i]? = some z → R (k + i) z
  | [], k, S, _, h0 => ⟨[], S, rfl, h0, rfl, fun i z h => by simp at h⟩
  | v :: r, k, S, h, h0 => by
    obtain ⟨y, S1, e, p, q⟩ := h 0 v S rfl h0
    obtain ⟨zs, S2, e2, p2, l2, q2⟩ := compGo_one (f := f) (P := P) (R := R) (l := r) (k := k + 1) (fun i v S hi hp => by
      obtain ⟨a, b, c, q, q'⟩ := h (i + 1) v S (by simpa using hi) (by rw [show k + (i + 1) = k + 1 + i by omega]; exact hp)
      exact ⟨a, b, c, by rw [show k + 1 + i + 1 = k + (i + 1) + 1 by omega]; exact q, by rw [show k + 1 + i = k + (i + 1) by omega]; exact q'⟩) p
    refine ⟨y :: zs, S2, ?_, by rw [List.length_cons, show k + (r.length + 1) = k + 1 + r.length by omega]; exact p2, by rw [List.length_cons, List.length_cons, l2], fun i z hz => ?_⟩
    · unfold compGo
      rw [e]
      simp only
      rw [e2]
      rfl
    · cases i with
      | zero =>
        simp at hz
        subst hz
        exact q
      | succ i => rw [show k + (i + 1) = k + 1 + i by omega]; exact q2 i z (by simpa using hz)
@[simp] theorem bi_lenL (S : Store) (l : List Val) : biV S .len [.lst l] = some (.int l.length) := rfl
@[simp] theorem bi_lenT (S : Store) (l : List Val) : biV S .len [.tup l] = some (.int l.length) := rfl
@[simp] theorem bi_lenS (S : Store) (x : Str) : biV S .len [.str x] = some (.int x.length) := rfl
@[simp] theorem bi_listL (S : Store) (l : List Val) : biV S .list [.lst l] = some (.lst l) := rfl
@[simp] theorem bi_listT (S : Store) (l : List Val) : biV S .list [.tup l] = some (.lst l) := rfl
@[simp] theorem bi_tupL (S : Store) (l : List Val) : biV S .tuple [.lst l] = some (.tup l) := rfl
@[simp] theorem bi_abs (S : Store) (i : Int) : biV S .abs [.int i] = some (.int (if i < 0 then -i else i)) := rfl
@[simp] theorem bi_intB (S : Store) (b : Bool) : biV S .int [.bl b] = some (.int (if b then 1 else 0)) := rfl
@[simp] theorem bi_max (S : Store) (a b : Int) : biV S .max2 [.int a, .int b] = some (.int (if b > a then b else a)) := rfl
@[simp] theorem sl_l (S : Store) (l : List Val) (a b : Option Int) : slV S (.lst l) a b = some (.lst (cutL l a b)) := rfl
@[simp] theorem sl_t (S : Store) (l : List Val) (a b : Option Int) : slV S (.tup l) a b = some (.tup (cutL l a b)) := rfl
@[simp] theorem ix_l (S : Store) (l : List Val) (i : Int) : ixV S (.lst l) (.int i) = atI l i := rfl
@[simp] theorem ix_t (S : Store) (l : List Val) (i : Int) : ixV S (.tup l) (.int i) = atI l i := rfl
theorem atI_nat {α : Type} (l : List α) (k : Nat) : atI l (k : Int) = l[k]? := by
  unfold atI ixN
  by_cases h : k < l.length
  · rw [if_pos (by omega), if_pos (by omega)]
    simp
  · rw [if_pos (by omega), if_neg (by omega), List.getElem?_eq_none (by omega)]
    rfl
theorem dip_ok {d k : Nat} {cs : List Int} {S : Store} (h : Φ "_law_dip" = some Co.fn__law_dip) (hk : k < 1000000) :
    ∃ S', callF sg Φ (d + 1) "_law_dip" [.lst (cs.map .int), .int k] S = .ok (.loc S.length) S' ∧ Box S' S.length 0 := by
  rw [call_eq h rfl]
  have hp : binV .pow (.int 10) (.int 18) = some (.int (10 ^ 18)) := bv_pow (n := 18) (by omega) (by omega)
  have hm : ∀ (x : Int) (p : Prop) [Decidable p], binV .mul (.int x) (.int (if p then 1 else 0)) = some (.int (x * (if p then 1 else 0))) := fun x p _ => bv_mulI (by by_cases h : p <;> simp only [h, if_true, if_false] <;> exact fit_r (by decide) (by decide))
  have hz : binV .mul (.int 0) (.int 0) = some (.int 0) := bv_mulI (fit_r (by decide) (by decide))
  have hm2 : binV .mul (.int 39373) (.int (k : Int)) = some (.int (39373 * (k : Int))) := bv_mulI (fit_l (by omega) (by omega))
  have key : ∃ a b : Int, 0 ≤ a ∧ 0 ≤ b ∧ b < 4611686018427387904 ∧ finO (evSs sg (callF sg Φ d) Co.fn__law_dip.body ([Val.lst (cs.map .int), Val.int k].map some ++ List.replicate (Co.fn__law_dip.nl - Co.fn__law_dip.np) none) S) =
      .ok (.loc S.length) (S ++ [.lst [.int a, .int b, .int 0]]) := by
    by_cases hlt : k < cs.length
    · have e : atI (cs.map Val.int) (k : Int) = some (.int cs[k]) := by
        rw [atI_nat, List.getElem?_map, List.getElem?_eq_getElem hlt]
        rfl
      have b1 := Int.emod_nonneg cs[k] (show (2305843009213693951 : Int) ≠ 0 by omega)
      have b2 := Int.emod_lt_of_pos cs[k] (show (0 : Int) < 2305843009213693951 by omega)
      refine ⟨(if cs[k] < 0 then -cs[k] else cs[k]) * (if (1000000000000000000 : Int) ≤ (if cs[k] < 0 then -cs[k] else cs[k]) then 1 else 0), cs[k] % 2305843009213693951 + 39373 * (k : Int) + 17, ?_, by omega, by omega, ?_⟩
      · have : (0 : Int) ≤ (if cs[k] < 0 then -cs[k] else cs[k]) := by split <;> omega
        by_cases q : (1000000000000000000 : Int) ≤ (if cs[k] < 0 then -cs[k] else cs[k])
        · rw [if_pos q]
          omega
        · rw [if_neg q]
          omega
      · simp [Co.fn__law_dip, hlt, e, hp, hm, hm2, bv_mod]
    · refine ⟨0, 39373 * (k : Int) + 17, by omega, by omega, by omega, ?_⟩
      simp [Co.fn__law_dip, hlt, hp, hz, hm2, bv_mod]
  obtain ⟨a, b, h1, h2, h3, key⟩ := key
  exact ⟨_, key, ⟨a, b, 0, by simp, h1, h2, h3, by omega, by omega⟩⟩
theorem bls_true : ∀ {zs : List Val}, (∀ (i : Nat) (z : Val), zs[i]? = some z → z = Val.bl true) → ∃ bs, blsV zs = some bs ∧ bs.all id = true
  | [], _ => ⟨[], rfl, rfl⟩
  | v :: r, h => by
    have e : v = .bl true := h 0 v rfl
    subst e
    obtain ⟨bs, h1, h2⟩ := bls_true (zs := r) fun i z hz => h (i + 1) z (by simpa using hz)
    refine ⟨true :: bs, ?_, ?_⟩
    · show (blsV r).map (true :: ·) = _
      rw [h1]
      rfl
    · rw [List.all_cons, h2]
      rfl
theorem all_true {S : Store} {zs : List Val} (h : ∀ (i : Nat) (z : Val), zs[i]? = some z → z = Val.bl true) : biV S .all [.lst zs] = some (.bl true) := by
  obtain ⟨bs, h1, h2⟩ := bls_true h
  show (blsV zs).map (fun bs => Val.bl (bs.all id)) = _
  rw [h1, Option.map_some, h2]
theorem zip_self_get : ∀ {l : List Val} {i : Nat} {p : Val}, (zipL l l)[i]? = some p → ∃ x, l[i]? = some x ∧ p = .tup [x, x]
  | [], i, p, h => by simp [zipL] at h
  | x :: l, 0, p, h => by
    simp [zipL] at h
    exact ⟨x, rfl, h.symm⟩
  | x :: l, i + 1, p, h => by
    simp [zipL] at h
    obtain ⟨y, h1, h2⟩ := zip_self_get h
    exact ⟨y, by simpa using h1, h2⟩
/-- data of n levels at most, no list too long -/
def goodV : Nat → Val → Bool
  | _, .non => true
  | _, .bl _ => true
  | _, .int _ => true
  | _, .str _ => true
  | n + 1, .tup l => decide (l.length ≤ lim) && l.all (goodV n)
  | n + 1, .lst l => decide (l.length ≤ lim) && l.all (goodV n)
  | _, _ => false
@[simp] theorem isn_q (v : Val) : cmpV .isn v .non = some (isN v) := by cases v <;> rfl
@[simp] theorem nisn_q (v : Val) : cmpV .nisn v .non = some (!isN v) := by cases v <;> rfl
theorem eqI (a b : Int) : cmpV .eq (.int a) (.int b) = some (a == b) := rfl
theorem eqS (a b : Str) : cmpV .eq (.str a) (.str b) = some (a == b) := rfl
theorem eqB (a b : Bool) : cmpV .eq (.bl a) (.bl b) = some (a == b) := rfl
theorem neB (a b : Bool) : cmpV .ne (.bl a) (.bl b) = some (!(a == b)) := rfl
theorem zip_len : ∀ l : List Val, (zipL l l).length = l.length
  | [] => rfl
  | x :: l => by
    show (zipL l l).length + 1 = _
    rw [zip_len l]
    rfl
theorem same_ok (h : Φ "_law_same" = some Co.fn__law_same) : ∀ (n : Nat) {v : Val} {d : Nat} {S : Store}, goodV n v = true → n < d → callF sg Φ d "_law_same" [v, v] S = .ok (.bl true) S := by
  intro n
  induction n with
  | zero =>
    intro v d S hv hd
    obtain ⟨d, rfl⟩ : ∃ k, d = k + 1 := ⟨d - 1, by omega⟩
    rw [call_eq h rfl]
    cases v with
    | non => simp [Co.fn__law_same, isasV, isaV, isN]
    | bl b => simp [Co.fn__law_same, isasV, isaV, isN, eqB]
    | int i => simp [Co.fn__law_same, isasV, isaV, isN, eqI]
    | str x => simp [Co.fn__law_same, isasV, isaV, isN, eqS, eqB]
    | _ => cases hv
  | succ n ih =>
    intro v d S hv hd
    obtain ⟨d, rfl⟩ : ∃ k, d = k + 1 := ⟨d - 1, by omega⟩
    rw [call_eq h rfl]
    have sub : ∀ {l : List Val}, (decide (l.length ≤ lim) && l.all (goodV n)) = true → ∃ zs S', compGo (compF sg (callF sg Φ d) (.tup [.v 2, .v 3]) [] (.call "_law_same" [.lv 2, .lv 3]) [some v, some v, none, none]) (zipL l l) S = .ok zs S' ∧ S' = S ∧ zs.length ≤ lim ∧ biV S .all [.lst zs] = some (.bl true) := by
      intro l hl
      rw [Bool.and_eq_true] at hl
      have hl1 := of_decide_eq_true hl.1
      have z := compGo_one (f := compF sg (callF sg Φ d) (.tup [.v 2, .v 3]) [] (.call "_law_same" [.lv 2, .lv 3]) [some v, some v, none, none]) (P := fun _ S' => S' = S) (R := fun _ z => z = Val.bl true) (l := zipL l l) (k := 0) (S := S) (fun i p S' hi hS => by
        subst hS
        obtain ⟨x, h1, rfl⟩ := zip_self_get hi
        refine ⟨.bl true, S', ?_, rfl, rfl⟩
        have c := ih (S := S') (d := d) (List.all_eq_true.mp hl.2 x (List.mem_of_getElem? h1)) (by omega)
        simp [compF, wipeE, Pat.vars, Pat.varsL, c]) rfl
      obtain ⟨zs, S', e1, e2, e3, e4⟩ := z
      exact ⟨zs, S', e1, e2, by rw [e3, zip_len]; exact hl1, all_true fun i z hz => e4 i z hz⟩
    cases v with
    | non => simp [Co.fn__law_same, isasV, isaV, isN]
    | bl b => simp [Co.fn__law_same, isasV, isaV, isN, eqB]
    | int i => simp [Co.fn__law_same, isasV, isaV, isN, eqI]
    | str x => simp [Co.fn__law_same, isasV, isaV, isN, eqS, eqB]
    | tup l =>
      obtain ⟨zs, S', e1, e2, e3, e4⟩ := sub hv
      subst e2
      simp [Co.fn__law_same, isasV, isaV, isN, neB, eqI, itV, e1, e3, e4]
    | lst l =>
      obtain ⟨zs, S', e1, e2, e3, e4⟩ := sub hv
      subst e2
      simp [Co.fn__law_same, isasV, isaV, isN, neB, eqI, itV, e1, e3, e4]
    | _ => cases hv
theorem enum_get : ∀ {l : List Val} {k : Int} {i : Nat} {p : Val}, (enumL k l)[i]? = some p → ∃ x, l[i]? = some x ∧ p = .tup [.int (k + i), x] := fun {l k i p} h => enumL_get h
theorem folded_ok {d sz : Nat} {ns : List Int} {S : Store} (h : Φ "_law_folded" = some Co.fn__law_folded) (h0 : S[0]? = some (.ro (ns.map .int))) (hs : 0 < sz) (hz : sz < 63) :
    ∃ cs : List Int, cs.length ≤ sz ∧ callF sg Φ (d + 1) "_law_folded" [.loc 0, .int sz] S = .ok (.lst (cs.map .int)) S := by
  rw [call_eq h rfl]
  have e1 : slV S (.loc 0) none (some (sz : Int)) = some (.lst ((ns.take sz).map .int)) := by
    unfold slV
    simp only [h0]
    congr 2
    unfold cutL sIx
    simp only [List.length_map]
    rw [if_neg (by omega), List.drop_zero, Nat.sub_zero, List.map_take]
    by_cases hl : sz ≤ ns.length
    · rw [show min (sz : Int).toNat ns.length = sz by simp; omega]
    · rw [show min (sz : Int).toNat ns.length = ns.length by simp; omega, List.take_of_length_le (by simp), List.take_of_length_le (by simp; omega)]
  have e2 : ∃ ms : List Int, slV S (.loc 0) (some (sz : Int)) (some 63) = some (.lst (ms.map .int)) ∧ (ms ≠ [] → sz < ns.length) ∧ ms.length ≤ 63 := by
    refine ⟨cutL ns (some (sz : Int)) (some 63), ?_, fun hm => ?_, ?_⟩
    · unfold slV
      simp only [h0]
      congr 2
      unfold cutL
      simp [List.map_drop, List.map_take]
    · by_cases hl : sz < ns.length
      · exact hl
      · exfalso
        apply hm
        have e : sIx ns.length 0 (some (sz : Int)) = ns.length := by
          unfold sIx
          simp only
          rw [if_neg (by omega)]
          simp
          omega
        unfold cutL
        rw [e, List.drop_length]
        exact List.take_nil
    · unfold cutL sIx
      rw [List.length_take]
      simp
      omega
  obtain ⟨ms, e2, e3, e4⟩ := e2
  have loop := forGo_inv (f := fun v ρ S => (match bindP (.tup [.v 3, .v 4]) v ρ with
      | some ρ' => evSs sg (callF sg Φ d) [.setL 2 (.bin .mod (.lv 3) (.lv 1)) (.bin .add (.ix (.lv 2) (.bin .mod (.lv 3) (.lv 1))) (.bin .mul (.lv 4) (.bin .add (.lv 3) (.cst (.int 2)))))] ρ' S
      | none => .bad)) (P := fun _ ρ S' => S' = S ∧ ∃ (cs : List Int) (a b : Option Val), cs.length = (ns.take sz).length ∧ ρ = [some (.loc 0), some (.int sz), some (.lst (cs.map .int)), a, b]) (l := enumL 0 (ms.map .int)) (k := 0)
      (ρ := [some (.loc 0), some (.int sz), some (.lst ((ns.take sz).map .int)), none, none]) (S := S) (fun i v ρ S' hi hP => by
    obtain ⟨rfl, cs, a, b, hl, rfl⟩ := hP
    obtain ⟨x, g1, rfl⟩ := enum_get hi
    rw [List.getElem?_map] at g1
    obtain ⟨y, g2, rfl⟩ := Option.map_eq_some_iff.mp g1
    have hne : ms ≠ [] := by
      intro z
      rw [z] at g2
      simp at g2
    have hsz := e3 hne
    have hi63 : i < 63 := by
      have := (List.getElem?_eq_some_iff.mp g2).1
      omega
    have hcs : cs.length = sz := by
      rw [hl, List.length_take]
      omega
    have hm : (i % sz) < cs.length := by
      rw [hcs]
      exact Nat.mod_lt _ hs
    have q1 : ((0 : Int) + i) % (sz : Int) = (i : Int) % (sz : Int) := by rw [Int.zero_add]
    have q0 : (i : Int) % (sz : Int) = ((i % sz : Nat) : Int) := (Int.natCast_emod i sz).symm
    have q2 : atI (cs.map Val.int) ((i : Int) % (sz : Int)) = some (.int cs[i % sz]) := by
      rw [q0, atI_nat, List.getElem?_map, List.getElem?_eq_getElem hm]
      rfl
    have q3 : binV .mul (.int y) (.int (0 + (i : Int) + 2)) = some (.int (y * (0 + (i : Int) + 2))) := bv_mulI (fit_r (by omega) (by omega))
    have q4 : ixN cs.length ((i : Int) % (sz : Int)) = some (i % sz) := by
      rw [q0]
      unfold ixN
      rw [if_pos (by omega), if_pos (by omega)]
      exact congrArg some (Int.toNat_natCast _)
    refine ⟨_, S', .inl ?_, rfl, cs.set (i % sz) (cs[i % sz] + y * (0 + (i : Int) + 2)), some (.int (0 + (i : Int))), some (.int y), by rw [List.length_set]; exact hl, rfl⟩
    simp only [bindP_t, List.length_cons, List.length_nil, if_true, bindPs_c, bindP_v, bindPs_n, setE_q, set_0, set_s, Option.bind_some]
    simp [lstE, bv_mod (show (0 : Int) < sz by omega), -Int.zero_add, q1, q2, q3, q4, List.map_set]) ⟨rfl, _, none, none, rfl, rfl⟩
  obtain ⟨ρ', S', l1, rfl, cs, a, b, l2, l3⟩ := loop
  refine ⟨cs, by rw [l2, List.length_take]; omega, ?_⟩
  subst l3
  simp [Co.fn__law_folded, e1, e2, itV] at l1 ⊢
  rw [l1]
  simp
end
end Pi

end
section
set_option linter.all false
set_option maxRecDepth 100000
/-! PiS: drawn names. -/
namespace Pi
open PySem
def Co.nmI : List IS := [.ite (.cmp .in_ (.lv 5) (.bin .add (.lv 3) (.lst [(.cst (.str "and")), (.cst (.str "or")), (.cst (.str "not")), (.cst (.str "until")), (.cst (.str "always")), (.cst (.str "sometime"))]))) [.asg (.v 5) (.bin .add (.bin .add (.sl (.lv 5) [] [(.cst (.int 6))]) (.ix (.lv 2) (.bin .fdiv (.lv 6) (.cst (.int 26))))) (.ix (.lv 2) (.bin .mod (.lv 6) (.cst (.int 26)))))] []]
def Co.nmB : List IS := [.asg (.v 5) (.bi .join [(.cst (.str "")), (.comp 1 [(.ix (.lst [(.cst (.int 1)), (.cst (.int 2)), (.cst (.int 4)), (.cst (.int 8))]) (.call "_law_take" [(.lv 0), (.cst (.int 4))]))] (.v 6) [] (.ix (.lv 2) (.call "_law_take" [(.lv 0), (.cst (.int 26))])))]), .forr 1 [(.bin .add (.bi .len [(.lv 3)]) (.cst (.int 2)))] (.v 6) Co.nmI, .app 3 (.lv 5)]
def Co.fn__law_named : Fn := ⟨2, 7, [.par [(2, false), (3, true)] [(.cst (.str "abcdefghijklmnopqrstuvwxyz")), (.lst [])],
  .forr 1 [(.lv 1)] (.v 4) Co.nmB,
  .share 3,
  .ret (.lv 3)]⟩
def wordsS : List Str := ["and", "or", "not", "until", "always", "sometime"]
abbrev sL (l : List Nat) : Str := ⟨l.toArray⟩
abbrev isLt (c : Nat) : Prop := 97 ≤ c ∧ c ≤ 122
structure Nice (x : Str) : Prop where
  a : 1 ≤ x.length
  b : x.length ≤ 8
  l : ∀ c ∈ x.cps.toList, isLt c
  w : x ∉ wordsS
theorem exists_map {α : Type} {f : α → Val} {p : α → Prop} : ∀ {zs : List Val}, (∀ (i : Nat) (z : Val), zs[i]? = some z → ∃ a, z = f a ∧ p a) → ∃ as : List α, zs = as.map f ∧ ∀ a ∈ as, p a
  | [], _ => ⟨[], rfl, fun _ h => by cases h⟩
  | z :: r, h => by
    obtain ⟨a, h1, h2⟩ := h 0 z rfl
    obtain ⟨as, h3, h4⟩ := exists_map (zs := r) fun i z hz => h (i + 1) z (by simpa using hz)
    refine ⟨a :: as, by rw [h1, h3]; rfl, fun b hb => ?_⟩
    rcases List.mem_cons.mp hb with rfl | hb
    · exact h2
    · exact h4 b hb
theorem strs_map : ∀ l : List Str, strsV (l.map Val.str) = some l
  | [] => rfl
  | x :: r => by
    show (strsV (r.map Val.str)).map (x :: ·) = _
    rw [strs_map r]
    rfl
theorem join_sing : ∀ cs : List Nat, Str.join "" (cs.map fun c => (⟨#[c]⟩ : Str)) = sL cs
  | [] => rfl
  | [c] => rfl
  | c :: d :: r => by
    show (⟨#[c]⟩ : Str) ++ ("" : Str) ++ Str.join "" ((d :: r).map fun c => (⟨#[c]⟩ : Str)) = _
    rw [join_sing (d :: r)]
    have e : ("" : Str) = ⟨#[]⟩ := by decide +kernel
    rw [e]
    show (⟨(#[c] ++ #[]) ++ (d :: r).toArray⟩ : Str) = ⟨(c :: d :: r).toArray⟩
    simp
theorem dep_strs : ∀ l : List Str, depVs (l.map Val.str) = some 0
  | [] => rfl
  | x :: r => by
    show (match depV (Val.str x), depVs (r.map Val.str) with
      | some a, some b => some (max a b)
      | _, _ => none) = _
    rw [dep_strs r]
    rfl
theorem in_strs (x : Str) (l : List Str) : cmpV .in_ (.str x) (.lst (l.map .str)) = some (decide (x ∈ l)) := by
  have h : datV (.lst (l.map .str)) = true := by
    unfold datV depV
    rw [dep_strs]
    rfl
  show (if datV (.str x) && datV (.lst (l.map .str)) then some ((l.map Val.str).any fun y => eqV y (.str x)) else none) = _
  rw [h, show (datV (.str x) && true) = true from rfl, if_pos rfl]
  congr 1
  rw [List.any_map]
  clear h
  induction l with
  | nil => rfl
  | cons y r ih =>
    rw [List.any_cons, ih]
    show ((y == x) || _) = _
    by_cases hx : y = x
    · subst hx
      simp
    · have : ¬ x = y := fun z => hx z.symm
      simp [hx, this]
theorem ltr_list : ("abcdefghijklmnopqrstuvwxyz" : Str).cps.toList = List.range' 97 26 := by decide +kernel
theorem ix_ltr (S : Store) (i : Int) (h0 : 0 ≤ i) (h1 : i < 26) : ixV S (.str "abcdefghijklmnopqrstuvwxyz") (.int i) = some (.str ⟨#[97 + i.toNat]⟩) := by
  obtain ⟨n, rfl⟩ := Int.eq_ofNat_of_zero_le h0
  show (atI ("abcdefghijklmnopqrstuvwxyz" : Str).cps.toList (n : Int)).map (fun c => Val.str ⟨#[c]⟩) = _
  have hn : n < 26 := by omega
  rw [ltr_list, atI_nat, List.getElem?_range' hn]
  simp
def codeOf (l : List Nat) : Nat := match l.reverse with
  | b :: a :: _ => (a - 97) * 26 + (b - 97)
  | _ => 1000
def nextN (l : List Nat) (t : Nat) : List Nat := l.take 6 ++ [97 + t / 26, 97 + t % 26]
theorem code_next (l : List Nat) (t : Nat) : codeOf (nextN l t) = t := by
  unfold codeOf nextN
  rw [List.reverse_append]
  show (97 + t / 26 - 97) * 26 + (97 + t % 26 - 97) = t
  have := Nat.div_add_mod t 26
  omega
theorem words_code : ∀ w ∈ wordsS, 25 < codeOf w.cps.toList := by decide +kernel
theorem pigeon {α : Type} [DecidableEq α] : ∀ (l m : List α), l.Nodup → (∀ x ∈ l, x ∈ m) → l.length ≤ m.length
  | [], _, _, _ => Nat.zero_le _
  | x :: l, m, hn, hs => by
    rw [List.nodup_cons] at hn
    have hx := hs x (List.mem_cons_self ..)
    have := pigeon l (m.erase x) hn.2 fun y hy => (List.mem_erase_of_ne (fun (e : y = x) => hn.1 (by rw [← e]; exact hy))).mpr (hs y (List.mem_cons_of_mem _ hy))
    rw [List.length_erase_of_mem hx] at this
    have := List.length_pos_of_mem hx
    rw [List.length_cons]
    omega
/-- what stands ahead of turn t -/
def Seek (found : List Str) (t : Nat) (l : List Nat) : Prop :=
  sL l ∉ found ++ wordsS ∨ t = 0 ∨ (codeOf l + 1 = t ∧ ∃ cs : List Str, cs.length + 1 = t ∧ cs.Nodup ∧ ∀ c ∈ cs, c ∈ found ∧ codeOf c.cps.toList + 1 < t)
theorem Seek.keep {found : List Str} {t : Nat} {l : List Nat} (h : sL l ∉ found ++ wordsS) : Seek found (t + 1) l := .inl h
theorem Seek.step {found : List Str} {t : Nat} {l : List Nat} (h : Seek found t l) (ht : t ≤ 26) (hb : sL l ∈ found ++ wordsS) : Seek found (t + 1) (nextN l t) := by
  rcases h with h | h | ⟨h1, cs, h2, h3, h4⟩
  · exact absurd hb h
  · subst h
    exact .inr (.inr ⟨by rw [code_next], [], rfl, List.nodup_nil, fun _ h => by cases h⟩)
  · refine .inr (.inr ⟨by rw [code_next], sL l :: cs, by rw [List.length_cons]; omega, List.nodup_cons.mpr ⟨fun hm => ?_, h3⟩, fun c hc => ?_⟩)
    · have := (h4 _ hm).2
      simp only [List.toList_toArray] at this
      omega
    · rcases List.mem_cons.mp hc with rfl | hc
      · refine ⟨?_, by simp only [List.toList_toArray]; omega⟩
        rcases List.mem_append.mp hb with hb | hb
        · exact hb
        · have := words_code _ hb
          simp only [List.toList_toArray] at this
          omega
      · exact ⟨(h4 c hc).1, by have := (h4 c hc).2; omega⟩
theorem Seek.done {found : List Str} {l : List Nat} (h : Seek found (found.length + 2) l) (hn : found.length ≤ 24) : sL l ∉ found ++ wordsS := by
  rcases h with h | h | ⟨h1, cs, h2, h3, h4⟩
  · exact h
  · omega
  · have := pigeon cs found h3 fun c hc => (h4 c hc).1
    omega
theorem cut6 (l : List Nat) : cutL l none (some 6) = l.take 6 := by
  unfold cutL sIx
  simp only [Nat.sub_zero, List.drop_zero]
  rw [if_neg (by omega)]
  by_cases h : 6 ≤ l.length
  · rw [show min (6 : Int).toNat l.length = 6 by simp; omega]
  · rw [show min (6 : Int).toNat l.length = l.length by simp; omega, List.take_of_length_le (by omega), List.take_of_length_le (by omega)]
@[simp] theorem sl_s (S : Store) (x : Str) (a b : Option Int) : slV S (.str x) a b = some (.str ⟨(cutL x.cps.toList a b).toArray⟩) := rfl
theorem app_sL (a b : List Nat) : sL a ++ sL b = sL (a ++ b) := by
  show (⟨a.toArray ++ b.toArray⟩ : Str) = ⟨(a ++ b).toArray⟩
  simp
theorem len_sL (a : List Nat) : (sL a).length = a.length := by
  show a.toArray.size = _
  simp
theorem range_len : ∀ (n : Nat) (a : Int), (rangeL a n).length = n
  | 0, _ => rfl
  | n + 1, a => by
    show (rangeL (a + 1) n).length + 1 = _
    rw [range_len n]
theorem range_get : ∀ {n : Nat} {a : Int} {i : Nat} {v : Val}, (rangeL a n)[i]? = some v → i < n ∧ v = .int (a + i)
  | 0, a, i, v, h => by simp [rangeL] at h
  | n + 1, a, 0, v, h => by
    simp [rangeL] at h
    exact ⟨by omega, by rw [← h]; simp⟩
  | n + 1, a, i + 1, v, h => by
    simp [rangeL] at h
    obtain ⟨h1, h2⟩ := range_get h
    exact ⟨by omega, by rw [h2]; congr 1; omega⟩
theorem it1 (S : Store) (n : Nat) (h : n ≤ 16777216) : itV S 1 [.int n] = some (rangeL 0 n) := by
  show (if -(2 ^ 62) ≤ (n : Int) ∧ (n : Int) ≤ lim then some (rangeL 0 (n : Int).toNat) else none) = _
  rw [if_pos ⟨by omega, by show (n : Int) ≤ (16777216 : Nat); omega⟩]
  simp
noncomputable def forF (sg : Sig) (cf : String → List Val → Store → Res Val) (p : Pat) (b : List IS) (v : Val) (ρ : Env) (S : Store) : Out := match bindP p v ρ with
  | some ρ' => evSs sg cf b ρ' S
  | none => .bad
@[simp high] theorem evS_for {sg : Sig} {cf : String → List Val → Store → Res Val} {ρ : Env} {S : Store} {k : Nat} {its : List IE} {p : Pat} {b : List IS} : evS sg cf (.forr k its p b) ρ S = ((evEs sg cf ρ its S).bind fun vs S1 => .of (itV S1 k vs) S1).on ρ fun xs S1 => forGo (forF sg cf p b) xs ρ S1 := by rw [evS_q14]; rfl
theorem forF_eq {sg : Sig} {cf : String → List Val → Store → Res Val} {p : Pat} {b : List IS} {v : Val} {ρ ρ' : Env} {S : Store} (h : bindP p v ρ = some ρ') : forF sg cf p b v ρ S = evSs sg cf b ρ' S := by unfold forF; rw [h]
section
variable {sg : Sig} {Φ : Tab}
theorem limk : (64 : Nat) ≤ lim := by decide
theorem draw_ok {d n m : Nat} {S : Store} (h : Φ "_law_take" = some Co.fn__law_take) (b : Box S n m) (hm : m < 900000) (k : Int) (hk : 0 < k) (hk2 : k < 9223372036854775808) :
    ∃ r S', callF sg Φ (d + 1) "_law_take" [.loc n, .int k] S = .ok (.int r) S' ∧ 0 ≤ r ∧ r < k ∧ Box S' n (m + 1) ∧ S'.length = S.length ∧ ∀ j, j ≠ n → S'[j]? = S[j]? := take_ok h b hk hk2 (by omega)
/-- as before but for the box -/
structure Same (n : Nat) (S S' : Store) : Prop where
  len : S'.length = S.length
  get : ∀ j, j ≠ n → S'[j]? = S[j]?
theorem Same.rfl' {n : Nat} {S : Store} : Same n S S := ⟨rfl, fun _ _ => rfl⟩
theorem Same.trans {n : Nat} {S S1 S2 : Store} (a : Same n S S1) (b : Same n S1 S2) : Same n S S2 := ⟨b.len.trans a.len, fun j h => (b.get j h).trans (a.get j h)⟩
theorem draw {d n m : Nat} {S : Store} (h : Φ "_law_take" = some Co.fn__law_take) (b : Box S n m) (hm : m < 900000) (k : Nat) (hk : 0 < k) (hk2 : k < 9223372036854775808) :
    ∃ (r : Nat) (S' : Store), callF sg Φ (d + 1) "_law_take" [.loc n, .int k] S = .ok (.int r) S' ∧ r < k ∧ Box S' n (m + 1) ∧ Same n S S' := by
  obtain ⟨r, S', h1, h2, h3, h4, h5, h6⟩ := draw_ok (sg := sg) (d := d) h b hm (k : Int) (by omega) (by omega)
  obtain ⟨q, rfl⟩ := Int.eq_ofNat_of_zero_le h2
  exact ⟨q, S', h1, by omega, h4, h5, h6⟩
theorem inner_turn {cf : String → List Val → Store → Res Val} {v0 v1 v4 v6 : Option Val} {xs : List Str} {l : List Nat} {t : Nat} {S : Store} (hx : xs.length ≤ 20) (ht : t ≤ 24)
    (l1 : 1 ≤ l.length) (l2 : l.length ≤ 8) (l3 : ∀ c ∈ l, isLt c) (sk : Seek xs t l) :
    ∃ l', evSs sg cf Co.nmI [v0, v1, some (.str "abcdefghijklmnopqrstuvwxyz"), some (.lst (xs.map .str)), v4, some (.str (sL l)), some (.int t)] S = .nx [v0, v1, some (.str "abcdefghijklmnopqrstuvwxyz"), some (.lst (xs.map .str)), v4, some (.str (sL l')), some (.int t)] S ∧
      1 ≤ l'.length ∧ l'.length ≤ 8 ∧ (∀ c ∈ l', isLt c) ∧ Seek xs (t + 1) l' := by
  have ha : binV .add (.lst (xs.map .str)) (.lst [.str "and", .str "or", .str "not", .str "until", .str "always", .str "sometime"]) = some (.lst ((xs ++ wordsS).map .str)) := by
    rw [bv_addL (Nat.le_trans (show _ ≤ 64 by simp; omega) limk), List.map_append]
    rfl
  have hin := in_strs (sL l) (xs ++ wordsS)
  by_cases hb : sL l ∈ xs ++ wordsS
  · have hd := ix_ltr S ((t : Int) / 26) (by omega) (by omega)
    have hr := ix_ltr S ((t : Int) % 26) (by omega) (by omega)
    have g1 : binV .add (.str (sL (l.take 6))) (.str (sL [97 + ((t : Int) / 26).toNat])) = some (.str (sL (l.take 6 ++ [97 + ((t : Int) / 26).toNat]))) := by
      rw [bv_addS (Nat.le_trans (show _ ≤ 64 by rw [len_sL, len_sL, List.length_take]; simp; omega) limk), app_sL]
    have g2 : binV .add (.str (sL (l.take 6 ++ [97 + ((t : Int) / 26).toNat]))) (.str (sL [97 + ((t : Int) % 26).toNat])) = some (.str (sL (nextN l t))) := by
      rw [bv_addS (Nat.le_trans (show _ ≤ 64 by rw [len_sL, len_sL, List.length_append, List.length_take]; simp; omega) limk), app_sL]
      have z1 : ((t : Int) / 26).toNat = t / 26 := by omega
      have z2 : ((t : Int) % 26).toNat = t % 26 := by omega
      rw [z1, z2]
      unfold nextN
      simp
    refine ⟨nextN l t, ?_, ?_, ?_, ?_, sk.step (by omega) hb⟩
    · simp only [hb, decide_true] at hin
      simp [Co.nmI, -List.map_append, -List.mem_append, ha, hin, cut6, bv_div, bv_mod, -Int.zero_add, hd, hr, g1, g2]
    · unfold nextN
      simp
    · unfold nextN
      simp
      omega
    · intro q hq
      unfold nextN at hq
      rcases List.mem_append.mp hq with hq | hq
      · exact l3 q (List.mem_of_mem_take hq)
      · simp at hq
        show 97 ≤ q ∧ q ≤ 122
        omega
  · refine ⟨l, ?_, l1, l2, l3, Seek.keep hb⟩
    simp only [hb, decide_false] at hin
    simp [Co.nmI, -List.map_append, -List.mem_append, ha, hin]
theorem inner_loop {cf : String → List Val → Store → Res Val} {v0 v1 v4 v6 : Option Val} {xs : List Str} {l : List Nat} {S : Store} (hx : xs.length ≤ 20)
    (l1 : 1 ≤ l.length) (l2 : l.length ≤ 8) (l3 : ∀ c ∈ l, isLt c) :
    ∃ (l' : List Nat) (e : Option Val), forGo (forF sg cf (.v 6) Co.nmI) (rangeL 0 (xs.length + 2)) [v0, v1, some (.str "abcdefghijklmnopqrstuvwxyz"), some (.lst (xs.map .str)), v4, some (.str (sL l)), v6] S = .nx [v0, v1, some (.str "abcdefghijklmnopqrstuvwxyz"), some (.lst (xs.map .str)), v4, some (.str (sL l')), e] S ∧
      1 ≤ l'.length ∧ l'.length ≤ 8 ∧ (∀ c ∈ l', isLt c) ∧ sL l' ∉ xs ++ wordsS := by
  have inner := forGo_inv (f := forF sg cf (.v 6) Co.nmI) (P := fun t ρ S' => S' = S ∧ ∃ (l : List Nat) (e : Option Val), 1 ≤ l.length ∧ l.length ≤ 8 ∧ (∀ c ∈ l, isLt c) ∧ Seek xs t l ∧ ρ = [v0, v1, some (.str "abcdefghijklmnopqrstuvwxyz"), some (.lst (xs.map .str)), v4, some (.str (sL l)), e])
        (l := rangeL 0 (xs.length + 2)) (k := 0) (ρ := [v0, v1, some (.str "abcdefghijklmnopqrstuvwxyz"), some (.lst (xs.map .str)), v4, some (.str (sL l)), v6]) (S := S) (fun t v ρ S6 ht6 hP => by
          obtain ⟨htl, rfl⟩ := range_get ht6
          obtain ⟨rfl, l, e, l1, l2, l3, sk, rfl⟩ := hP
          simp only [Nat.zero_add] at sk ⊢
          obtain ⟨l', h1, h2, h3, h4, h5⟩ := inner_turn (sg := sg) (cf := cf) (v0 := v0) (v1 := v1) (v4 := v4) (v6 := e) (S := S6) hx (t := t) (by omega) l1 l2 l3 sk
          refine ⟨_, S6, .inl ?_, rfl, l', some (.int t), h2, h3, h4, h5, rfl⟩
          rw [Int.zero_add]
          rw [forF_eq bindP_v]
          simp only [setE_q, set_0, set_s]
          exact h1) ⟨rfl, l, v6, l1, l2, l3, .inr (.inl rfl), rfl⟩
  obtain ⟨ρ', S6, i1, rfl, l', e, l1, l2, l3, sk, rfl⟩ := inner
  rw [Nat.zero_add, range_len] at sk
  exact ⟨l', e, i1, l1, l2, l3, sk.done (by omega)⟩
theorem drawn_word {d n m w : Nat} {S : Store} {v1 v3 v4 v5 v6 : Option Val} (ht : Φ "_law_take" = some Co.fn__law_take) (b : Box S n m) (hm : m + w < 900000) (hw : w ≤ 8) :
    ∃ (cs : List Nat) (S' : Store), compGo (compF sg (callF sg Φ (d + 1)) (.v 6) [] (.ix (.lv 2) (.call "_law_take" [(.lv 0), (.cst (.int 26))])) [some (.loc n), v1, some (.str "abcdefghijklmnopqrstuvwxyz"), v3, v4, v5, v6]) (rangeL 0 w) S = .ok (cs.map fun q => Val.str ⟨#[q]⟩) S' ∧
      cs.length = w ∧ (∀ c ∈ cs, isLt c) ∧ biV S' .join [.str "", .lst (cs.map fun q => Val.str ⟨#[q]⟩)] = some (.str (sL cs)) ∧ Box S' n (m + w) ∧ Same n S S' := by
  have comp := compGo_one (f := compF sg (callF sg Φ (d + 1)) (.v 6) [] (.ix (.lv 2) (.call "_law_take" [(.lv 0), (.cst (.int 26))])) [some (.loc n), v1, some (.str "abcdefghijklmnopqrstuvwxyz"), v3, v4, v5, v6])
        (P := fun j S' => Box S' n (m + j) ∧ Same n S S') (R := fun _ z => ∃ q : Nat, z = Val.str ⟨#[q]⟩ ∧ isLt q) (l := rangeL 0 w) (k := 0) (S := S) (fun j v S3 hj hP => by
          obtain ⟨hjw, rfl⟩ := range_get hj
          obtain ⟨b3, sm3⟩ := hP
          simp only [Nat.zero_add] at b3 ⊢
          obtain ⟨q, S4, t2, q2, b4, sm4⟩ := draw (sg := sg) (d := d) ht b3 (by omega) 26 (by omega) (by omega)
          refine ⟨_, S4, ?_, ⟨b4, sm3.trans sm4⟩, ⟨97 + q, rfl, by omega, by omega⟩⟩
          have e := ix_ltr S4 (q : Int) (by omega) (by omega)
          simp only [Int.toNat_natCast] at e
          simp only [Int.cast_ofNat_Int] at t2
          simp [compF, wipeE, Pat.vars, t2, e]) ⟨b, Same.rfl'⟩
  obtain ⟨zs, S5, c1, ⟨b5, sm5⟩, c3, c4⟩ := comp
  obtain ⟨cs, rfl, hcs⟩ := exists_map c4
  rw [List.length_map, range_len] at c3
  refine ⟨cs, S5, c1, c3, hcs, ?_, Box.mono b5 (by rw [range_len]; omega), sm5⟩
  show (strsV (cs.map fun q => Val.str ⟨#[q]⟩)).bind (fun ys => if (ys.map (·.length)).sum + ys.length * ("" : Str).length ≤ lim then some (Val.str (Str.join "" ys)) else none) = _
  have e1 : (cs.map fun q => Val.str ⟨#[q]⟩) = ((cs.map fun q => (⟨#[q]⟩ : Str)).map Val.str) := by rw [List.map_map]; rfl
  rw [e1, strs_map, Option.bind_some, join_sing]
  have e2 : ((cs.map fun q => (⟨#[q]⟩ : Str)).map (·.length)).sum = cs.length := by
    rw [List.map_map]
    have : ((fun x => x.length) ∘ fun q => (⟨#[q]⟩ : Str)) = fun _ : Nat => 1 := rfl
    rw [this]
    clear c3 c4 hcs c1 e1 this
    induction cs with
    | nil => rfl
    | cons a r ih => rw [List.map_cons, List.sum_cons, ih, List.length_cons]; omega
  have e3 : ("" : Str).length = 0 := by decide +kernel
  rw [e2, e3, if_pos (Nat.le_trans (show _ ≤ 64 by omega) limk)]
theorem wide_pick (r : Nat) (h : r < 4) : ∃ w : Nat, atI [Val.int 1, .int 2, .int 4, .int 8] (r : Int) = some (.int w) ∧ 1 ≤ w ∧ w ≤ 8 := by
  have : r = 0 ∨ r = 1 ∨ r = 2 ∨ r = 3 := by omega
  rcases this with rfl | rfl | rfl | rfl
  · exact ⟨1, rfl, by omega, by omega⟩
  · exact ⟨2, rfl, by omega, by omega⟩
  · exact ⟨4, rfl, by omega, by omega⟩
  · exact ⟨8, rfl, by omega, by omega⟩
theorem named_turn {d n m : Nat} {S : Store} {v1 v4 v5 v6 : Option Val} {xs : List Str} (ht : Φ "_law_take" = some Co.fn__law_take) (b : Box S n m) (hm : m + 9 < 900000) (hx : xs.length ≤ 20) :
    ∃ (l : List Nat) (e : Option Val) (S' : Store), evSs sg (callF sg Φ (d + 1)) Co.nmB [some (.loc n), v1, some (.str "abcdefghijklmnopqrstuvwxyz"), some (.lst (xs.map .str)), v4, v5, v6] S =
      .nx [some (.loc n), v1, some (.str "abcdefghijklmnopqrstuvwxyz"), some (.lst ((xs ++ [sL l]).map .str)), v4, some (.str (sL l)), e] S' ∧ 1 ≤ l.length ∧ l.length ≤ 8 ∧ (∀ c ∈ l, isLt c) ∧ sL l ∉ xs ++ wordsS ∧ Box S' n (m + 9) ∧ Same n S S' := by
  obtain ⟨r, S2, t1, r2, b2, sm2⟩ := draw (sg := sg) (d := d) ht b (by omega) 4 (by omega) (by omega)
  obtain ⟨w, hw1, hw2, hw3⟩ := wide_pick r r2
  obtain ⟨cs, S5, c1, c3, hcs, hj, b5, sm5⟩ := drawn_word (sg := sg) (d := d) (v1 := v1) (v3 := some (.lst (xs.map .str))) (v4 := v4) (v5 := v5) (v6 := v6) ht b2 (w := w) (by omega) hw3
  obtain ⟨l', e, i1, l1, l2, l3, hfin⟩ := inner_loop (sg := sg) (cf := callF sg Φ (d + 1)) (v0 := some (.loc n)) (v1 := v1) (v4 := v4) (v6 := v6) (xs := xs) (l := cs) (S := S5) hx (by omega) (by omega) hcs
  refine ⟨l', e, S5, ?_, l1, l2, l3, hfin, Box.mono b5 (by omega), sm2.trans sm5⟩
  have hl := it1 S5 (xs.length + 2) (by omega)
  have hlt : xs.length < lim := Nat.lt_of_lt_of_le (show _ < 64 by omega) limk
  have hle : cs.length ≤ lim := Nat.le_trans (show _ ≤ 64 by omega) limk
  have hit := it1 S2 w (by omega)
  simp only [Int.cast_ofNat_Int] at t1
  simp only [Int.natCast_add, Int.cast_ofNat_Int] at hl
  simp -implicitDefEqProofs [Co.nmB, t1, hw1, hit, c1, hle, hj, hl, i1, lstE, hlt]
theorem named_ok {d n m k : Nat} {S : Store} (ht : Φ "_law_take" = some Co.fn__law_take) (h : Φ "_law_named" = some Co.fn__law_named) (b : Box S n m) (hk : k ≤ 20) (hm : m + 9 * k < 900000) :
    ∃ (xs : List Str) (S' : Store), callF sg Φ (d + 2) "_law_named" [.loc n, .int k] S = .ok (.lst (xs.map .str)) S' ∧ xs.length = k ∧ xs.Nodup ∧ (∀ x ∈ xs, Nice x) ∧ Box S' n (m + 9 * k) ∧ Same n S S' := by
  rw [call_eq h rfl]
  have outer := forGo_inv (f := forF sg (callF sg Φ (d + 1)) (.v 4) Co.nmB)
    (P := fun i ρ S' => Box S' n (m + 9 * i) ∧ Same n S S' ∧ ∃ (xs : List Str) (a b c : Option Val), xs.length = i ∧ xs.Nodup ∧ (∀ x ∈ xs, Nice x) ∧ ρ = [some (.loc n), some (.int k), some (.str "abcdefghijklmnopqrstuvwxyz"), some (.lst (xs.map .str)), a, b, c])
    (l := rangeL 0 k) (k := 0) (ρ := [some (.loc n), some (.int k), some (.str "abcdefghijklmnopqrstuvwxyz"), some (.lst []), none, none, none]) (S := S) (fun i v ρ S1 hi hP => by
      obtain ⟨hik, rfl⟩ := range_get hi
      obtain ⟨b1, sm, xs, a, bb, c, hx1, hx2, hx3, rfl⟩ := hP
      simp only [Nat.zero_add] at b1 hx1 ⊢
      obtain ⟨l, e, S5, t1, l1, l2, l3, hfin, b5, sm5⟩ := named_turn (sg := sg) (d := d) (v1 := some (.int k)) (v4 := some (.int (0 + i))) (v5 := bb) (v6 := c) (xs := xs) ht b1 (by omega) (by omega)
      refine ⟨_, S5, .inl ?_, Box.mono b5 (by omega), sm.trans sm5, xs ++ [sL l], some (.int (0 + i)), some (.str (sL l)), e, by rw [List.length_append, hx1]; rfl, ?_, ?_, rfl⟩
      · rw [forF_eq bindP_v]
        simp only [setE_q, set_0, set_s]
        exact t1
      · rw [List.nodup_append]
        refine ⟨hx2, by simp, fun a ha b hb e => ?_⟩
        simp at hb
        subst hb
        exact hfin (List.mem_append_left _ (e ▸ ha))
      · intro x hx
        rcases List.mem_append.mp hx with hx | hx
        · exact hx3 x hx
        · simp at hx
          subst hx
          exact ⟨by rw [len_sL]; exact l1, by rw [len_sL]; exact l2, fun q hq => l3 q (by simpa using hq), fun z => hfin (List.mem_append_right _ z)⟩) ⟨b, Same.rfl', [], none, none, none, rfl, List.nodup_nil, (fun _ h => by cases h), rfl⟩
  obtain ⟨ρ', S', o1, b', sm, xs, a, bb, c, h1, h2, h3, rfl⟩ := outer
  rw [Nat.zero_add, range_len] at h1 b'
  refine ⟨xs, S', ?_, h1, h2, h3, b', sm⟩
  have hit := it1 S k (by omega)
  simp [Co.fn__law_named, parE, hit] at o1 ⊢
  rw [o1]
  simp
end
end Pi

end
section
set_option linter.all false
set_option maxRecDepth 100000
set_option maxHeartbeats 0
namespace LawK21
open PySem PySem.Spec PyProof.Rows L2 Pi
def top (i : Nat) : Stmt := PySem.Challenge.pw_holdmargins_k21_known_plainer_forms.main.body.getD i (.Pass ⟨0, 0, 0, 0⟩)
def dx_OTHERS : List (Str × Val) := [("least", (.str "most")), ("most", (.str "least")), ("both", (.str "either")), ("either", (.str "both")), ("always", (.str "sometime")), ("sometime", (.str "always"))]
def fn_inner_of : Fn := ⟨1, 3, [.asg (.star [(.v 1)] 2) (.lv 0),
  .ite (.cmp .in_ (.lv 1) (.gv "ATOMS" (.tup [(.str "least"), (.str "most")]))) [.ret (.lst [])] [],
  .ret (.ite (.or [(.cmp .eq (.lv 1) (.cst (.str "not"))), (.cmp .in_ (.lv 1) (.gv "PAIRS" (.tup [(.str "both"), (.str "either")])))]) (.lv 2) (.sl (.lv 2) [(.cst (.int 2))] []))]⟩
def fd_inner_of : FD := ⟨"inner_of", 1, false, ["saying", "word", "rest"], fn_inner_of, ⟨("inner_of", none), "inner_of", "inner_of", defArgs (top 6), defBody (top 6), defScope (top 6), [], []⟩⟩
def fn_of_not : Fn := ⟨1, 5, [.asg (.star [(.v 1)] 2) (.lv 0),
  .ite (.cmp .eq (.lv 1) (.cst (.str "not"))) [.ret (.ix (.lv 2) (.cst (.int 0)))] [],
  .ite (.cmp .eq (.lv 1) (.gv "UNTIL" (.str "until"))) [.ret (.cst .non)] [],
  .ite (.cmp .in_ (.lv 1) (.gv "ATOMS" (.tup [(.str "least"), (.str "most")]))) [.ret (.bin .add (.tup [(.dix "OTHERS" dx_OTHERS (.lv 1))]) (.bi .tuple [(.lv 2)]))] [],
  .asg (.v 3) (.ite (.cmp .in_ (.lv 1) (.gv "WINDOWED" (.tup [(.str "always"), (.str "sometime")]))) (.bi .tuple [(.sl (.lv 2) [] [(.cst (.int 2))])]) (.tup [])),
  .ret (.bin .add (.bin .add (.tup [(.dix "OTHERS" dx_OTHERS (.lv 1))]) (.lv 3)) (.bi .tuple [(.comp 0 [(.call "inner_of" [(.lv 0)])] (.v 4) [] (.tup [(.cst (.str "not")), (.lv 4)]))]))]⟩
def fd_of_not : FD := ⟨"of_not", 1, false, ["inner", "word", "rest", "window", "one"], fn_of_not, ⟨("of_not", none), "of_not", "of_not", defArgs (top 9), defBody (top 9), defScope (top 9), [], []⟩⟩
def fn_of_window : Fn := ⟨1, 5, [.asg (.tup [(.v 1), (.v 2), (.v 3), (.v 4)]) (.lv 0),
  .ite (.and [(.cmp .eq (.ix (.lv 4) (.cst (.int 0))) (.lv 1)), (.cmp .le (.bin .add (.lv 3) (.ix (.lv 4) (.cst (.int 2)))) (.gv "MOST_FAR" (.int 6)))]) [.ret (.tup [(.lv 1), (.bin .add (.lv 2) (.ix (.lv 4) (.cst (.int 1)))), (.bin .add (.lv 3) (.ix (.lv 4) (.cst (.int 2)))), (.ix (.lv 4) (.cst (.int 3)))])] [],
  .ret (.ite (.cmp .eq (.lv 3) (.cst (.int 0))) (.lv 4) (.cst .non))]⟩
def fd_of_window : FD := ⟨"of_window", 1, false, ["saying", "word", "near", "far", "inner"], fn_of_window, ⟨("of_window", none), "of_window", "of_window", defArgs (top 10), defBody (top 10), defScope (top 10), [], []⟩⟩
def fn_exchanged : Fn := ⟨1, 1, [.ite (.cmp .eq (.ix (.lv 0) (.cst (.int 0))) (.cst (.str "not"))) [.ret (.call "of_not" [(.ix (.lv 0) (.cst (.int 1)))])] [],
  .ite (.cmp .in_ (.ix (.lv 0) (.cst (.int 0))) (.gv "WINDOWED" (.tup [(.str "always"), (.str "sometime")]))) [.ret (.call "of_window" [(.lv 0)])] [],
  .ite (.and [(.cmp .in_ (.ix (.lv 0) (.cst (.int 0))) (.gv "PAIRS" (.tup [(.str "both"), (.str "either")]))), (.cmp .eq (.ix (.lv 0) (.cst (.int 1))) (.ix (.lv 0) (.cst (.int 2))))]) [.ret (.ix (.lv 0) (.cst (.int 1)))] [],
  .ret (.cst .non)]⟩
def fd_exchanged : FD := ⟨"exchanged", 1, false, ["saying"], fn_exchanged, ⟨("exchanged", none), "exchanged", "exchanged", defArgs (top 11), defBody (top 11), defScope (top 11), [], []⟩⟩
def fn_plainer : Fn := ⟨1, 4, [.asg (.v 1) (.call "inner_of" [(.lv 0)]),
  .ite (.cmp .gt (.bi .len [(.lv 1)]) (.cst (.int 0))) [.asg (.v 0) (.bin .add (.sl (.lv 0) [] [(.bin .sub (.bi .len [(.lv 0)]) (.bi .len [(.lv 1)]))]) (.bi .tuple [(.comp 0 [(.lv 1)] (.v 2) [] (.call "plainer" [(.lv 2)]))]))] [],
  .asg (.v 3) (.call "exchanged" [(.lv 0)]),
  .ret (.ite (.cmp .isn (.lv 3) (.cst .non)) (.lv 0) (.call "plainer" [(.lv 3)]))]⟩
def fd_plainer : FD := ⟨"plainer", 1, false, ["saying", "inner", "one", "found"], fn_plainer, ⟨("plainer", none), "plainer", "plainer", defArgs (top 12), defBody (top 12), defScope (top 12), [], []⟩⟩
def fn_is_plain : Fn := ⟨1, 1, [.ret (.cmp .eq (.call "plainer" [(.lv 0)]) (.lv 0))]⟩
def fd_is_plain : FD := ⟨"is_plain", 1, false, ["saying"], fn_is_plain, ⟨("is_plain", none), "is_plain", "is_plain", defArgs (top 13), defBody (top 13), defScope (top 13), [], []⟩⟩
def fn__law_dip : Fn := ⟨2, 3, [.asg (.v 2) (.ite (.cmp .lt (.lv 1) (.bi .len [(.lv 0)])) (.ix (.lv 0) (.lv 1)) (.cst (.int 0))),
  .ret (.box [(.bin .mul (.bi .abs [(.lv 2)]) (.bi .int [(.cmp .ge (.bi .abs [(.lv 2)]) (.bin .pow (.cst (.int 10)) (.cst (.int 18))))])), (.bin .add (.bin .add (.bin .mod (.lv 2) (.cst (.int 2305843009213693951))) (.bin .mul (.cst (.int 39373)) (.lv 1))) (.cst (.int 17))), (.cst (.int 0))])]⟩
def fd__law_dip : FD := ⟨"_law_dip", 2, false, ["_law_script", "_law_k", "_law_cell"], fn__law_dip, ⟨("_law_dip", none), "_law_dip", "_law_dip", defArgs (top 15), defBody (top 15), defScope (top 15), [], []⟩⟩
def fn__law_take : Fn := ⟨2, 5, [.ite (.cmp .gt (.ix (.lv 0) (.cst (.int 0))) (.cst (.int 0))) [.asg (.v 2) (.bin .mod (.ix (.lv 0) (.cst (.int 0))) (.lv 1)), .setB (.lv 0) (.cst (.int 0)) (.bin .fdiv (.ix (.lv 0) (.cst (.int 0))) (.lv 1)), .ret (.lv 2)] [],
  .setB (.lv 0) (.cst (.int 2)) (.bin .add (.ix (.lv 0) (.cst (.int 2))) (.cst (.int 1))),
  .asg (.v 3) (.bin .mod (.bin .pow (.bin .add (.ix (.lv 0) (.cst (.int 1))) (.bin .mul (.cst (.int 39373)) (.ix (.lv 0) (.cst (.int 2))))) (.cst (.int 5))) (.cst (.int 2147483647))),
  .asg (.v 4) (.bin .mod (.bin .mul (.bin .add (.bin .add (.lv 3) (.ix (.lv 0) (.cst (.int 2)))) (.bin .fdiv (.ix (.lv 0) (.cst (.int 1))) (.cst (.int 1000003)))) (.bin .add (.bin .add (.bin .mod (.lv 3) (.cst (.int 40009))) (.cst (.int 7))) (.ix (.lv 0) (.cst (.int 2))))) (.cst (.int 2147483629))),
  .ret (.bin .mod (.bin .fdiv (.bin .mod (.bin .add (.bin .mul (.lv 4) (.cst (.int 48271))) (.lv 3)) (.cst (.int 2147483587))) (.cst (.int 64))) (.lv 1))]⟩
def fd__law_take : FD := ⟨"_law_take", 2, false, ["_law_box", "_law_many", "_law_found", "_law_once", "_law_twice"], fn__law_take, ⟨("_law_take", none), "_law_take", "_law_take", defArgs (top 16), defBody (top 16), defScope (top 16), [], []⟩⟩
def fn__law_folded : Fn := ⟨2, 5, [.own 2 (.bi .list [(.sl (.lv 0) [] [(.lv 1)])]),
  .forr 5 [(.sl (.lv 0) [(.lv 1)] [(.cst (.int 63))])] (.tup [(.v 3), (.v 4)]) [.setL 2 (.bin .mod (.lv 3) (.lv 1)) (.bin .add (.ix (.lv 2) (.bin .mod (.lv 3) (.lv 1))) (.bin .mul (.lv 4) (.bin .add (.lv 3) (.cst (.int 2)))))],
  .share 2,
  .ret (.lv 2)]⟩
def fd__law_folded : FD := ⟨"_law_folded", 2, false, ["_law_script", "_law_size", "_law_cells", "_law_k", "_law_cell"], fn__law_folded, ⟨("_law_folded", none), "_law_folded", "_law_folded", defArgs (top 17), defBody (top 17), defScope (top 17), [], []⟩⟩
def fn__law_named : Fn := ⟨2, 7, [.par [(2, false), (3, true)] [(.cst (.str "abcdefghijklmnopqrstuvwxyz")), (.lst [])],
  .forr 1 [(.lv 1)] (.v 4) [.asg (.v 5) (.bi .join [(.cst (.str "")), (.comp 1 [(.ix (.lst [(.cst (.int 1)), (.cst (.int 2)), (.cst (.int 4)), (.cst (.int 8))]) (.call "_law_take" [(.lv 0), (.cst (.int 4))]))] (.v 6) [] (.ix (.lv 2) (.call "_law_take" [(.lv 0), (.cst (.int 26))])))]), .forr 1 [(.bin .add (.bi .len [(.lv 3)]) (.cst (.int 2)))] (.v 6) [.ite (.cmp .in_ (.lv 5) (.bin .add (.lv 3) (.lst [(.cst (.str "and")), (.cst (.str "or")), (.cst (.str "not")), (.cst (.str "until")), (.cst (.str "always")), (.cst (.str "sometime"))]))) [.asg (.v 5) (.bin .add (.bin .add (.sl (.lv 5) [] [(.cst (.int 6))]) (.ix (.lv 2) (.bin .fdiv (.lv 6) (.cst (.int 26))))) (.ix (.lv 2) (.bin .mod (.lv 6) (.cst (.int 26)))))] []], .app 3 (.lv 5)],
  .share 3,
  .ret (.lv 3)]⟩
def fd__law_named : FD := ⟨"_law_named", 2, false, ["_law_box", "_law_many", "_law_letters", "_law_found", "_law_k", "_law_one", "_law_turn"], fn__law_named, ⟨("_law_named", none), "_law_named", "_law_named", defArgs (top 18), defBody (top 18), defScope (top 18), [], []⟩⟩
def fn__law_same : Fn := ⟨2, 4, [.ite (.isa (.lv 1) [.lst, .tup]) [.ite (.or [(.cmp .ne (.isa (.lv 0) [.lst]) (.isa (.lv 1) [.lst])), (.cmp .ne (.isa (.lv 0) [.tup]) (.isa (.lv 1) [.tup]))]) [.ret (.cst (.bl false))] [], .ret (.and [(.cmp .eq (.bi .len [(.lv 0)]) (.bi .len [(.lv 1)])), (.bi .all [(.comp 4 [(.lv 0), (.lv 1)] (.tup [(.v 2), (.v 3)]) [] (.call "_law_same" [(.lv 2), (.lv 3)]))])])] [],
  .ite (.or [(.cmp .isn (.lv 1) (.cst .non)), (.cmp .isn (.lv 0) (.cst .non))]) [.ret (.and [(.cmp .isn (.lv 1) (.cst .non)), (.cmp .isn (.lv 0) (.cst .non))])] [],
  .ite (.or [(.isa (.lv 1) [.bool]), (.isa (.lv 1) [.str])]) [.ret (.and [(.cmp .eq (.isa (.lv 0) [.bool]) (.isa (.lv 1) [.bool])), (.cmp .eq (.lv 0) (.lv 1))])] [],
  .ret (.and [(.isa (.lv 0) [.int]), (.not (.isa (.lv 0) [.bool])), (.cmp .eq (.lv 0) (.lv 1))])]⟩
def fd__law_same : FD := ⟨"_law_same", 2, false, ["_law_found", "_law_due", "_law_one", "_law_other"], fn__law_same, ⟨("_law_same", none), "_law_same", "_law_same", defArgs (top 19), defBody (top 19), defScope (top 19), [], []⟩⟩
def fn__law_known : Fn := ⟨4, 15, [.par [(4, false), (5, false)] [(.bin .add (.tup [(.cst (.str "least"))]) (.lv 0)), (.bin .add (.tup [(.cst (.str "most"))]) (.lv 0))],
  .par [(6, false), (7, false)] [(.bin .add (.tup [(.cst (.str "least"))]) (.lv 1)), (.bin .add (.tup [(.cst (.str "most"))]) (.lv 1))],
  .asg (.v 8) (.tup [(.cst (.str "until")), (.lv 2), (.lv 3), (.lv 4), (.lv 7)]),
  .asg (.v 9) (.lst [(.tup [(.lv 4), (.lv 4)]), (.tup [(.tup [(.cst (.str "not")), (.lv 4)]), (.lv 5)]), (.tup [(.tup [(.cst (.str "not")), (.lv 5)]), (.lv 4)]), (.tup [(.tup [(.cst (.str "not")), (.lv 8)]), (.tup [(.cst (.str "not")), (.lv 8)])])]),
  .asg (.v 9) (.bin .add (.lv 9) (.lst [(.tup [(.tup [(.cst (.str "not")), (.tup [(.cst (.str "not")), (.lv 8)])]), (.lv 8)]), (.tup [(.tup [(.cst (.str "not")), (.tup [(.cst (.str "not")), (.tup [(.cst (.str "not")), (.lv 4)])])]), (.lv 5)])])),
  .asg (.v 9) (.bin .add (.lv 9) (.lst [(.tup [(.tup [(.cst (.str "not")), (.tup [(.cst (.str "both")), (.lv 4), (.lv 6)])]), (.tup [(.cst (.str "either")), (.lv 5), (.lv 7)])])])),
  .asg (.v 9) (.bin .add (.lv 9) (.lst [(.tup [(.tup [(.cst (.str "not")), (.tup [(.cst (.str "either")), (.lv 4), (.lv 7)])]), (.tup [(.cst (.str "both")), (.lv 5), (.lv 6)])])])),
  .asg (.v 9) (.bin .add (.lv 9) (.lst [(.tup [(.tup [(.cst (.str "not")), (.tup [(.cst (.str "always")), (.cst (.int 1)), (.cst (.int 2)), (.lv 4)])]), (.tup [(.cst (.str "sometime")), (.cst (.int 1)), (.cst (.int 2)), (.lv 5)])])])),
  .asg (.v 9) (.bin .add (.lv 9) (.lst [(.tup [(.tup [(.cst (.str "not")), (.tup [(.cst (.str "sometime")), (.cst (.int 1)), (.cst (.int 2)), (.lv 8)])]), (.tup [(.cst (.str "always")), (.cst (.int 1)), (.cst (.int 2)), (.tup [(.cst (.str "not")), (.lv 8)])])])])),
  .asg (.v 9) (.bin .add (.lv 9) (.lst [(.tup [(.tup [(.cst (.str "always")), (.cst (.int 1)), (.cst (.int 2)), (.tup [(.cst (.str "always")), (.cst (.int 0)), (.cst (.int 4)), (.lv 4)])]), (.tup [(.cst (.str "always")), (.cst (.int 1)), (.cst (.int 6)), (.lv 4)])])])),
  .asg (.v 9) (.bin .add (.lv 9) (.lst [(.tup [(.tup [(.cst (.str "always")), (.cst (.int 1)), (.cst (.int 3)), (.tup [(.cst (.str "always")), (.cst (.int 0)), (.cst (.int 4)), (.lv 4)])]), (.tup [(.cst (.str "always")), (.cst (.int 1)), (.cst (.int 3)), (.tup [(.cst (.str "always")), (.cst (.int 0)), (.cst (.int 4)), (.lv 4)])])])])),
  .asg (.v 9) (.bin .add (.lv 9) (.lst [(.tup [(.tup [(.cst (.str "sometime")), (.cst (.int 2)), (.cst (.int 3)), (.tup [(.cst (.str "sometime")), (.cst (.int 1)), (.cst (.int 3)), (.lv 4)])]), (.tup [(.cst (.str "sometime")), (.cst (.int 3)), (.cst (.int 6)), (.lv 4)])])])),
  .asg (.v 9) (.bin .add (.lv 9) (.lst [(.tup [(.tup [(.cst (.str "always")), (.cst (.int 0)), (.cst (.int 2)), (.tup [(.cst (.str "sometime")), (.cst (.int 0)), (.cst (.int 2)), (.lv 4)])]), (.tup [(.cst (.str "always")), (.cst (.int 0)), (.cst (.int 2)), (.tup [(.cst (.str "sometime")), (.cst (.int 0)), (.cst (.int 2)), (.lv 4)])])])])),
  .asg (.v 9) (.bin .add (.lv 9) (.lst [(.tup [(.tup [(.cst (.str "always")), (.cst (.int 0)), (.cst (.int 0)), (.lv 8)]), (.lv 8)]), (.tup [(.tup [(.cst (.str "sometime")), (.cst (.int 0)), (.cst (.int 0)), (.lv 5)]), (.lv 5)])])),
  .asg (.v 9) (.bin .add (.lv 9) (.lst [(.tup [(.tup [(.cst (.str "always")), (.cst (.int 0)), (.cst (.int 1)), (.lv 4)]), (.tup [(.cst (.str "always")), (.cst (.int 0)), (.cst (.int 1)), (.lv 4)])]), (.tup [(.tup [(.cst (.str "both")), (.lv 4), (.lv 4)]), (.lv 4)])])),
  .asg (.v 9) (.bin .add (.lv 9) (.lst [(.tup [(.tup [(.cst (.str "both")), (.lv 4), (.tup [(.cst (.str "not")), (.lv 5)])]), (.lv 4)]), (.tup [(.tup [(.cst (.str "either")), (.lv 8), (.tup [(.cst (.str "not")), (.tup [(.cst (.str "not")), (.lv 8)])])]), (.lv 8)])])),
  .asg (.v 9) (.bin .add (.lv 9) (.lst [(.tup [(.tup [(.cst (.str "not")), (.tup [(.cst (.str "both")), (.tup [(.cst (.str "not")), (.lv 4)]), (.lv 5)])]), (.lv 4)])])),
  .asg (.v 9) (.bin .add (.lv 9) (.lst [(.tup [(.tup [(.cst (.str "both")), (.lv 4), (.lv 6)]), (.tup [(.cst (.str "both")), (.lv 4), (.lv 6)])])])),
  .asg (.v 9) (.bin .add (.lv 9) (.lst [(.bin .mul (.tup [(.tup [(.cst (.str "either")), (.tup [(.cst (.str "both")), (.lv 4), (.lv 7)]), (.tup [(.cst (.str "both")), (.lv 7), (.lv 4)])])]) (.cst (.int 2)))])),
  .asg (.v 10) (.tup [(.cst (.str "until")), (.lv 2), (.lv 3), (.tup [(.cst (.str "not")), (.lv 4)]), (.tup [(.cst (.str "both")), (.lv 7), (.lv 7)])]),
  .asg (.v 9) (.bin .add (.lv 9) (.lst [(.tup [(.lv 10), (.tup [(.cst (.str "until")), (.lv 2), (.lv 3), (.lv 5), (.lv 7)])])])),
  .asg (.v 11) (.tup [(.cst (.str "sometime")), (.cst (.int 1)), (.cst (.int 1)), (.tup [(.cst (.str "not")), (.tup [(.cst (.str "always")), (.cst (.int 2)), (.cst (.int 2)), (.lv 4)])])]),
  .asg (.v 9) (.bin .add (.lv 9) (.lst [(.tup [(.lv 11), (.tup [(.cst (.str "sometime")), (.cst (.int 3)), (.cst (.int 3)), (.lv 5)])]), (.tup [(.tup [(.cst (.str "not")), (.lv 11)]), (.tup [(.cst (.str "always")), (.cst (.int 3)), (.cst (.int 3)), (.lv 4)])])])),
  .asg (.v 9) (.bin .add (.lv 9) (.lst [(.tup [(.tup [(.cst (.str "always")), (.cst (.int 2)), (.cst (.int 2)), (.tup [(.cst (.str "always")), (.cst (.int 2)), (.cst (.int 2)), (.tup [(.cst (.str "always")), (.cst (.int 2)), (.cst (.int 2)), (.lv 4)])])]), (.tup [(.cst (.str "always")), (.cst (.int 6)), (.cst (.int 6)), (.lv 4)])])])),
  .asg (.v 12) (.tup [(.cst (.str "always")), (.cst (.int 0)), (.cst (.int 3)), (.tup [(.cst (.str "always")), (.cst (.int 0)), (.cst (.int 3)), (.tup [(.cst (.str "always")), (.cst (.int 0)), (.cst (.int 3)), (.lv 4)])])]),
  .asg (.v 9) (.bin .add (.lv 9) (.lst [(.tup [(.lv 12), (.tup [(.cst (.str "always")), (.cst (.int 0)), (.cst (.int 3)), (.tup [(.cst (.str "always")), (.cst (.int 0)), (.cst (.int 6)), (.lv 4)])])])])),
  .asg (.v 13) (.tup [(.cst (.str "until")), (.lv 2), (.lv 3), (.lv 5), (.lv 6)]),
  .asg (.v 14) (.tup [(.cst (.str "not")), (.tup [(.cst (.str "always")), (.cst (.int 0)), (.cst (.int 5)), (.tup [(.cst (.str "both")), (.lv 8), (.lv 13)])])]),
  .ret (.bin .add (.lv 9) (.lst [(.tup [(.lv 14), (.tup [(.cst (.str "sometime")), (.cst (.int 0)), (.cst (.int 5)), (.tup [(.cst (.str "either")), (.tup [(.cst (.str "not")), (.lv 8)]), (.tup [(.cst (.str "not")), (.lv 13)])])])])]))]⟩
def fd__law_known : FD := ⟨"_law_known", 4, false, ["_law_one", "_law_other", "_law_near", "_law_off", "_law_low_one", "_law_up_one", "_law_low_two", "_law_up_two", "_law_wait", "_law_found", "_law_row", "_law_inner", "_law_three", "_law_last", "_law_ten"], fn__law_known, ⟨("_law_known", none), "_law_known", "_law_known", defArgs (top 20), defBody (top 20), defScope (top 20), [], []⟩⟩
def fn__law_right : Fn := ⟨1, 7, [.par [(1, false), (2, false)] [(.call "_law_named" [(.lv 0), (.cst (.int 2))]), (.call "_law_take" [(.lv 0), (.cst (.int 6))])],
  .par [(3, false), (4, false)] [(.tup [(.ix (.lv 1) (.cst (.int 0))), (.bin .sub (.call "_law_take" [(.lv 0), (.cst (.int 199))]) (.cst (.int 99)))]), (.tup [(.ix (.lv 1) (.cst (.int 1))), (.bin .sub (.call "_law_take" [(.lv 0), (.cst (.int 199))]) (.cst (.int 99)))])],
  .forr 0 [(.call "_law_known" [(.lv 3), (.lv 4), (.lv 2), (.bin .add (.lv 2) (.cst (.int 1)))])] (.tup [(.v 5), (.v 6)]) [.ite (.or [(.not (.call "_law_same" [(.call "plainer" [(.lv 5)]), (.lv 6)])), (.not (.call "_law_same" [(.call "is_plain" [(.lv 5)]), (.cmp .eq (.lv 5) (.lv 6))])), (.cmp .nisb (.call "is_plain" [(.lv 6)]) (.cst (.bl true)))]) [.ret (.cst (.bl false))] [], .ite (.not (.call "_law_same" [(.call "plainer" [(.call "plainer" [(.lv 5)])]), (.lv 6)])) [.ret (.cst (.bl false))] []],
  .ret (.cst (.bl true))]⟩
def fd__law_right : FD := ⟨"_law_right", 1, false, ["_law_box", "_law_names", "_law_near", "_law_one", "_law_other", "_law_row", "_law_due"], fn__law_right, ⟨("_law_right", none), "_law_right", "_law_right", defArgs (top 21), defBody (top 21), defScope (top 21), [], []⟩⟩
def fn_law : Fn := ⟨1, 3, [.asg (.v 1) (.call "_law_folded" [(.lv 0), (.cst (.int 4))]),
  .ret (.bi .all [(.comp 1 [(.bi .max2 [(.cst (.int 1)), (.bi .len [(.lv 1)])])] (.v 2) [] (.call "_law_right" [(.call "_law_dip" [(.lv 1), (.lv 2)])]))])]⟩
def fd_law : FD := ⟨"law", 1, false, ["_law_script", "_law_cells", "_law_k"], fn_law, ⟨("law", none), "law", "law", defArgs (top 22), defBody (top 22), defScope (top 22), [], []⟩⟩
def hd : HD := { fds := [fd_inner_of, fd_of_not, fd_of_window, fd_exchanged, fd_plainer, fd_is_plain, fd__law_dip, fd__law_take, fd__law_folded, fd__law_named, fd__law_same, fd__law_known, fd__law_right, fd_law], gvs := [("ATOMS", (.tup [(.str "least"), (.str "most")])), ("PAIRS", (.tup [(.str "both"), (.str "either")])), ("WINDOWED", (.tup [(.str "always"), (.str "sometime")])), ("UNTIL", (.str "until")), ("MOST_FAR", (.int 6))], dxs := [("OTHERS", dx_OTHERS)] }
theorem hd_ok : hd.ok = true := by decide +kernel
theorem hd_bind : ∀ q ∈ hd.fds, q.bind := by
  show ∀ q ∈ [fd_inner_of, fd_of_not, fd_of_window, fd_exchanged, fd_plainer, fd_is_plain, fd__law_dip, fd__law_take, fd__law_folded, fd__law_named, fd__law_same, fd__law_known, fd__law_right, fd_law], q.bind
  simp only [List.forall_mem_cons]
  exact ⟨fun K f fd F => FunD.bindsN (ps := ["saying"]) F fun _ _ _ _ _ _ us hl => match us, hl with | [_], _ => rfl, ⟨fun K f fd F => FunD.bindsN (ps := ["inner"]) F fun _ _ _ _ _ _ us hl => match us, hl with | [_], _ => rfl, ⟨fun K f fd F => FunD.bindsN (ps := ["saying"]) F fun _ _ _ _ _ _ us hl => match us, hl with | [_], _ => rfl, ⟨fun K f fd F => FunD.bindsN (ps := ["saying"]) F fun _ _ _ _ _ _ us hl => match us, hl with | [_], _ => rfl, ⟨fun K f fd F => FunD.bindsN (ps := ["saying"]) F fun _ _ _ _ _ _ us hl => match us, hl with | [_], _ => rfl, ⟨fun K f fd F => FunD.bindsN (ps := ["saying"]) F fun _ _ _ _ _ _ us hl => match us, hl with | [_], _ => rfl, ⟨fun K f fd F => FunD.bindsN (ps := ["_law_script", "_law_k"]) F fun _ _ _ _ _ _ us hl => match us, hl with | [_, _], _ => rfl, ⟨fun K f fd F => FunD.bindsN (ps := ["_law_box", "_law_many"]) F fun _ _ _ _ _ _ us hl => match us, hl with | [_, _], _ => rfl, ⟨fun K f fd F => FunD.bindsN (ps := ["_law_script", "_law_size"]) F fun _ _ _ _ _ _ us hl => match us, hl with | [_, _], _ => rfl, ⟨fun K f fd F => FunD.bindsN (ps := ["_law_box", "_law_many"]) F fun _ _ _ _ _ _ us hl => match us, hl with | [_, _], _ => rfl, ⟨fun K f fd F => FunD.bindsN (ps := ["_law_found", "_law_due"]) F fun _ _ _ _ _ _ us hl => match us, hl with | [_, _], _ => rfl, ⟨fun K f fd F => FunD.bindsN (ps := ["_law_one", "_law_other", "_law_near", "_law_off"]) F fun _ _ _ _ _ _ us hl => match us, hl with | [_, _, _, _], _ => rfl, ⟨fun K f fd F => FunD.bindsN (ps := ["_law_box"]) F fun _ _ _ _ _ _ us hl => match us, hl with | [_], _ => rfl, ⟨fun K f fd F => FunD.bindsN (ps := ["_law_script"]) F fun _ _ _ _ _ _ us hl => match us, hl with | [_], _ => rfl, fun _ h => by cases h⟩⟩⟩⟩⟩⟩⟩⟩⟩⟩⟩⟩⟩⟩
abbrev R : PySem.W.OpenRow := PySem.W.OpenLaw.row PySem.Challenge.rw_holdmargins_k21_known_plainer_forms
abbrev hk : PySem.W.Hook := hd.hook 6
def ob (s : PySem.W.SharedT) : AlP := hd.obsG 6 (HandSHeadRun.getT s)
theorem ob_eq (s : PySem.W.SharedT) : ob s = hk.obs s.abs := HD.obs_eq (HandSHeadRun.getT_eq s)
def nm : List Str := (["ATOMS", "PAIRS", "WINDOWED", "UNTIL", "MOST_FAR", "inner_of", "OTHERS", "of_not", "of_window", "exchanged", "plainer", "is_plain", "_law_dip", "_law_take", "_law_folded", "_law_named", "_law_same", "_law_known", "_law_right"] : List Str)
theorem run (w : World) : HandSHeadRun.RunEq R (PySem.W.view R.prog [22]) hk ob 20000 nm w := by
  refine PySem.W.byRow2 "special-get-raises" (P := fun w => HandSHeadRun.RunEq R (PySem.W.view R.prog [22]) hk ob 20000 nm w) (fun w => ?_) (fun w => ?_) w
  · intro os
    kernel_rfl
  · intro os
    kernel_rfl
end LawK21

open PySem PySem.W PySem.Calls PyProof.Rows
theorem law_LawK21 (hall : ∀ ns : List Int, ns.length ≤ 63 → ∃ S', Pi.callF Pi.sg0 LawK21.hd.tab 100 "law" [.loc 0] [.ro (ns.map .int)] = .ok (.bl true) S') : PySem.Challenge.rw_holdmargins_k21_known_plainer_forms.Holds := by
  w_on; o_law
  refine HandSHeadRun.head_any (r := OpenLaw.row PySem.Challenge.rw_holdmargins_k21_known_plainer_forms) (q := view (OpenLaw.row PySem.Challenge.rw_holdmargins_k21_known_plainer_forms).prog [22]) (H := LawK21.hk) (ob := LawK21.ob) (M := 20000) (loose := LawK21.nm) (d := HandSHeadRun.topDef (OpenLaw.row PySem.Challenge.rw_holdmargins_k21_known_plainer_forms).prog 22) (kwd := [])
    LawK21.ob_eq (by kernel_rfl) (fun s => by kernel_rfl) LawK21.run (by kernel_rfl) (by kernel_rfl) (by kernel_rfl) (by rfl) (by first | assumption | decide +kernel) (by decide +kernel) ⟨rfl, rfl, rfl, rfl, rfl, by decide +kernel⟩ ?hw ?hc
  case hw => w_witness2
  case hc =>
    refine L2.walk_ofE (l := PySem.Challenge.rw_holdmargins_k21_known_plainer_forms) (n := 63) (k := 100) (x := "_law_script") (CX := Pi.CXA) rfl (by decide) (by kernel_rfl) ⟨rfl, by decide, by decide⟩ ?F (fun _ _ _ _ z => Pi.cxa_no z)
    intro w mg fa h Y G hmg0
    have hmg : mg ("law" : PySem.Str) = some (.ref fa) := by
      have e : (HandSHeadRun.topDef (OpenLaw.row PySem.Challenge.rw_holdmargins_k21_known_plainer_forms).prog 22).name = ("law" : PySem.Str) := by kernel_rfl
      rw [← e]
      exact hmg0
    exact Pi.HD.fin (h := LawK21.hd) Pi.xi0 LawK21.hd_ok LawK21.hd_bind (q := LawK21.fd_law) (List.mem_of_getElem? (i := 13) rfl) rfl rfl rfl rfl (fun K f fd F s u => L2.FunD.bindsA (ps := ["_law_script"]) F (fun _ _ _ _ _ _ us hl => match us, hl with | [_], _ => rfl) s [u] rfl) hall Y G hmg

end
section
set_option linter.all false
set_option maxRecDepth 100000
/-! K21p: law k21, plain. -/
namespace LawK21
open PySem Pi
inductive Sy where
  | at_ (w up : Bool)
  | nt (s : Sy)
  | two (o : Bool) (a b : Sy)
  | win (o : Bool) (n f : Nat) (s : Sy)
  | unt (a b : Sy)
  deriving DecidableEq
structure Nm where
  A : Str
  B : Str
  t : Int
  u : Int
  n : Int
def Sy.enc (e : Nm) : Sy → Val
  | .at_ w up => .tup [.str (if up then "most" else "least"), .str (if w then e.B else e.A), .int (if w then e.u else e.t)]
  | .nt s => .tup [.str "not", s.enc e]
  | .two o a b => .tup [.str (if o then "either" else "both"), a.enc e, b.enc e]
  | .win o n f s => .tup [.str (if o then "sometime" else "always"), .int n, .int f, s.enc e]
  | .unt a b => .tup [.str "until", .int e.n, .int (e.n + 1), a.enc e, b.enc e]
def Sy.dep : Sy → Nat
  | .at_ _ _ => 1
  | .nt s => s.dep + 1
  | .two _ a b => max a.dep b.dep + 1
  | .win _ _ _ s => s.dep + 1
  | .unt a b => max a.dep b.dep + 1
/-- none: out of what is followed -/
def Sy.exch : Sy → Option (Option Sy)
  | .nt (.nt s) => some (some s)
  | .nt (.unt _ _) => some none
  | .nt (.at_ w up) => some (some (.at_ w (!up)))
  | .nt (.two o a b) => some (some (.two (!o) (.nt a) (.nt b)))
  | .nt (.win o n f s) => some (some (.win (!o) n f (.nt s)))
  | .win o n f (.win p m g s) => if o = p ∧ f + g ≤ 6 then some (some (.win o (n + m) (f + g) s)) else if f = 0 then some (some (.win p m g s)) else some none
  | .win _ _ f s => if f = 0 then some (some s) else some none
  | .two _ a b => if a.dep ≤ 50 ∧ b.dep ≤ 50 then (if a = b then some (some a) else some none) else none
  | _ => some none
def Sy.plain : Nat → Sy → Option Sy
  | 0, _ => none
  | n + 1, s =>
    let t : Option Sy := match s with
      | .at_ w up => some (Sy.at_ w up)
      | .nt s => (Sy.plain n s).map Sy.nt
      | .two o a b => (Sy.plain n a).bind fun a => (Sy.plain n b).map fun b => Sy.two o a b
      | .win o p q s => (Sy.plain n s).map fun s => Sy.win o p q s
      | .unt a b => (Sy.plain n a).bind fun a => (Sy.plain n b).map fun b => Sy.unt a b
    t.bind fun s => (Sy.exch s).bind fun r => match r with
      | none => some s
      | some f => Sy.plain n f
theorem enc_dep (e : Nm) : ∀ s : Sy, depV (s.enc e) = some s.dep := by
  intro s
  induction s with
  | at_ w up => rfl
  | nt s ih => simp [Sy.enc, depV, depVs, ih, Sy.dep]
  | two o a b iha ihb => simp [Sy.enc, depV, depVs, iha, ihb, Sy.dep]
  | win o n f s ih => simp [Sy.enc, depV, depVs, ih, Sy.dep]
  | unt a b iha ihb => simp [Sy.enc, depV, depVs, iha, ihb, Sy.dep]
def Sy.inner : Sy → List Sy
  | .at_ _ _ => []
  | .nt s => [s]
  | .two _ a b => [a, b]
  | .win _ _ _ s => [s]
  | .unt a b => [a, b]
theorem tab_inner : hd.tab "inner_of" = some fn_inner_of := rfl
theorem c_at_least : cmpV .in_ (.str "least") (.tup [.str "least", .str "most"]) = some true := by decide +kernel
theorem c_pr_least : cmpV .in_ (.str "least") (.tup [.str "both", .str "either"]) = some false := by decide +kernel
theorem c_wd_least : cmpV .in_ (.str "least") (.tup [.str "always", .str "sometime"]) = some false := by decide +kernel
theorem c_eq_not_least : cmpV .eq (.str "least") (.str "not") = some false := by decide +kernel
theorem c_eq_until_least : cmpV .eq (.str "least") (.str "until") = some false := by decide +kernel
theorem c_at_most : cmpV .in_ (.str "most") (.tup [.str "least", .str "most"]) = some true := by decide +kernel
theorem c_pr_most : cmpV .in_ (.str "most") (.tup [.str "both", .str "either"]) = some false := by decide +kernel
theorem c_wd_most : cmpV .in_ (.str "most") (.tup [.str "always", .str "sometime"]) = some false := by decide +kernel
theorem c_eq_not_most : cmpV .eq (.str "most") (.str "not") = some false := by decide +kernel
theorem c_eq_until_most : cmpV .eq (.str "most") (.str "until") = some false := by decide +kernel
theorem c_at_not : cmpV .in_ (.str "not") (.tup [.str "least", .str "most"]) = some false := by decide +kernel
theorem c_pr_not : cmpV .in_ (.str "not") (.tup [.str "both", .str "either"]) = some false := by decide +kernel
theorem c_wd_not : cmpV .in_ (.str "not") (.tup [.str "always", .str "sometime"]) = some false := by decide +kernel
theorem c_eq_not_not : cmpV .eq (.str "not") (.str "not") = some true := by decide +kernel
theorem c_eq_until_not : cmpV .eq (.str "not") (.str "until") = some false := by decide +kernel
theorem c_at_both : cmpV .in_ (.str "both") (.tup [.str "least", .str "most"]) = some false := by decide +kernel
theorem c_pr_both : cmpV .in_ (.str "both") (.tup [.str "both", .str "either"]) = some true := by decide +kernel
theorem c_wd_both : cmpV .in_ (.str "both") (.tup [.str "always", .str "sometime"]) = some false := by decide +kernel
theorem c_eq_not_both : cmpV .eq (.str "both") (.str "not") = some false := by decide +kernel
theorem c_eq_until_both : cmpV .eq (.str "both") (.str "until") = some false := by decide +kernel
theorem c_at_either : cmpV .in_ (.str "either") (.tup [.str "least", .str "most"]) = some false := by decide +kernel
theorem c_pr_either : cmpV .in_ (.str "either") (.tup [.str "both", .str "either"]) = some true := by decide +kernel
theorem c_wd_either : cmpV .in_ (.str "either") (.tup [.str "always", .str "sometime"]) = some false := by decide +kernel
theorem c_eq_not_either : cmpV .eq (.str "either") (.str "not") = some false := by decide +kernel
theorem c_eq_until_either : cmpV .eq (.str "either") (.str "until") = some false := by decide +kernel
theorem c_at_always : cmpV .in_ (.str "always") (.tup [.str "least", .str "most"]) = some false := by decide +kernel
theorem c_pr_always : cmpV .in_ (.str "always") (.tup [.str "both", .str "either"]) = some false := by decide +kernel
theorem c_wd_always : cmpV .in_ (.str "always") (.tup [.str "always", .str "sometime"]) = some true := by decide +kernel
theorem c_eq_not_always : cmpV .eq (.str "always") (.str "not") = some false := by decide +kernel
theorem c_eq_until_always : cmpV .eq (.str "always") (.str "until") = some false := by decide +kernel
theorem c_at_sometime : cmpV .in_ (.str "sometime") (.tup [.str "least", .str "most"]) = some false := by decide +kernel
theorem c_pr_sometime : cmpV .in_ (.str "sometime") (.tup [.str "both", .str "either"]) = some false := by decide +kernel
theorem c_wd_sometime : cmpV .in_ (.str "sometime") (.tup [.str "always", .str "sometime"]) = some true := by decide +kernel
theorem c_eq_not_sometime : cmpV .eq (.str "sometime") (.str "not") = some false := by decide +kernel
theorem c_eq_until_sometime : cmpV .eq (.str "sometime") (.str "until") = some false := by decide +kernel
theorem c_at_until : cmpV .in_ (.str "until") (.tup [.str "least", .str "most"]) = some false := by decide +kernel
theorem c_pr_until : cmpV .in_ (.str "until") (.tup [.str "both", .str "either"]) = some false := by decide +kernel
theorem c_wd_until : cmpV .in_ (.str "until") (.tup [.str "always", .str "sometime"]) = some false := by decide +kernel
theorem c_eq_not_until : cmpV .eq (.str "until") (.str "not") = some false := by decide +kernel
theorem c_eq_until_until : cmpV .eq (.str "until") (.str "until") = some true := by decide +kernel
theorem inner_ok (e : Nm) (s : Sy) (d : Nat) (S : Store) : callF sg0 hd.tab (d + 1) "inner_of" [s.enc e] S = .ok (.lst (s.inner.map (Sy.enc e))) S := by
  rw [call_eq tab_inner rfl]
  have b1 : ∀ {v : Val} {l : List Val} {ρ : Pi.Env}, bindP (.star [.v 1] 2) (.tup (v :: l)) ρ = some ((ρ.set 1 (some v)).set 2 (some (.lst l))) := by
    intro v l ρ
    simp [bindP]
  cases s with
  | at_ w up => cases up <;> simp [fn_inner_of, Sy.enc, Sy.inner, b1, c_at_least, c_pr_least, c_wd_least, c_eq_not_least, c_eq_until_least, c_at_most, c_pr_most, c_wd_most, c_eq_not_most, c_eq_until_most, c_at_not, c_pr_not, c_wd_not, c_eq_not_not, c_eq_until_not, c_at_both, c_pr_both, c_wd_both, c_eq_not_both, c_eq_until_both, c_at_either, c_pr_either, c_wd_either, c_eq_not_either, c_eq_until_either, c_at_always, c_pr_always, c_wd_always, c_eq_not_always, c_eq_until_always, c_at_sometime, c_pr_sometime, c_wd_sometime, c_eq_not_sometime, c_eq_until_sometime, c_at_until, c_pr_until, c_wd_until, c_eq_not_until, c_eq_until_until]
  | nt s => simp [fn_inner_of, Sy.enc, Sy.inner, b1, c_at_least, c_pr_least, c_wd_least, c_eq_not_least, c_eq_until_least, c_at_most, c_pr_most, c_wd_most, c_eq_not_most, c_eq_until_most, c_at_not, c_pr_not, c_wd_not, c_eq_not_not, c_eq_until_not, c_at_both, c_pr_both, c_wd_both, c_eq_not_both, c_eq_until_both, c_at_either, c_pr_either, c_wd_either, c_eq_not_either, c_eq_until_either, c_at_always, c_pr_always, c_wd_always, c_eq_not_always, c_eq_until_always, c_at_sometime, c_pr_sometime, c_wd_sometime, c_eq_not_sometime, c_eq_until_sometime, c_at_until, c_pr_until, c_wd_until, c_eq_not_until, c_eq_until_until]
  | two o a b => cases o <;> simp [fn_inner_of, Sy.enc, Sy.inner, b1, c_at_least, c_pr_least, c_wd_least, c_eq_not_least, c_eq_until_least, c_at_most, c_pr_most, c_wd_most, c_eq_not_most, c_eq_until_most, c_at_not, c_pr_not, c_wd_not, c_eq_not_not, c_eq_until_not, c_at_both, c_pr_both, c_wd_both, c_eq_not_both, c_eq_until_both, c_at_either, c_pr_either, c_wd_either, c_eq_not_either, c_eq_until_either, c_at_always, c_pr_always, c_wd_always, c_eq_not_always, c_eq_until_always, c_at_sometime, c_pr_sometime, c_wd_sometime, c_eq_not_sometime, c_eq_until_sometime, c_at_until, c_pr_until, c_wd_until, c_eq_not_until, c_eq_until_until]
  | win o n f s => cases o <;> simp [fn_inner_of, Sy.enc, Sy.inner, b1, cutL, sIx, c_at_least, c_pr_least, c_wd_least, c_eq_not_least, c_eq_until_least, c_at_most, c_pr_most, c_wd_most, c_eq_not_most, c_eq_until_most, c_at_not, c_pr_not, c_wd_not, c_eq_not_not, c_eq_until_not, c_at_both, c_pr_both, c_wd_both, c_eq_not_both, c_eq_until_both, c_at_either, c_pr_either, c_wd_either, c_eq_not_either, c_eq_until_either, c_at_always, c_pr_always, c_wd_always, c_eq_not_always, c_eq_until_always, c_at_sometime, c_pr_sometime, c_wd_sometime, c_eq_not_sometime, c_eq_until_sometime, c_at_until, c_pr_until, c_wd_until, c_eq_not_until, c_eq_until_until]
  | unt a b => simp [fn_inner_of, Sy.enc, Sy.inner, b1, cutL, sIx, c_at_least, c_pr_least, c_wd_least, c_eq_not_least, c_eq_until_least, c_at_most, c_pr_most, c_wd_most, c_eq_not_most, c_eq_until_most, c_at_not, c_pr_not, c_wd_not, c_eq_not_not, c_eq_until_not, c_at_both, c_pr_both, c_wd_both, c_eq_not_both, c_eq_until_both, c_at_either, c_pr_either, c_wd_either, c_eq_not_either, c_eq_until_either, c_at_always, c_pr_always, c_wd_always, c_eq_not_always, c_eq_until_always, c_at_sometime, c_pr_sometime, c_wd_sometime, c_eq_not_sometime, c_eq_until_sometime, c_at_until, c_pr_until, c_wd_until, c_eq_not_until, c_eq_until_until]
theorem o_least : dx_OTHERS.lookup ("least" : Str) = some (.str "most") := by rfl
theorem o_most : dx_OTHERS.lookup ("most" : Str) = some (.str "least") := by rfl
theorem o_both : dx_OTHERS.lookup ("both" : Str) = some (.str "either") := by rfl
theorem o_either : dx_OTHERS.lookup ("either" : Str) = some (.str "both") := by rfl
theorem o_always : dx_OTHERS.lookup ("always" : Str) = some (.str "sometime") := by rfl
theorem o_sometime : dx_OTHERS.lookup ("sometime" : Str) = some (.str "always") := by rfl
def encO (e : Nm) : Option Sy → Val
  | none => .non
  | some s => s.enc e
theorem tab_ofnot : hd.tab "of_not" = some fn_of_not := rfl
theorem star1 {v : Val} {l : List Val} {ρ : Pi.Env} : bindP (.star [.v 1] 2) (.tup (v :: l)) ρ = some ((ρ.set 1 (some v)).set 2 (some (.lst l))) := by
  simp [bindP]
theorem limk : (64 : Nat) ≤ lim := by decide
theorem addT {a b : List Val} (h : a.length + b.length ≤ 64) : binV .add (.tup a) (.tup b) = some (.tup (a ++ b)) := bv_addT (Nat.le_trans h limk)
theorem ofnot_ok (e : Nm) (s : Sy) (r : Option Sy) (hr : Sy.exch (.nt s) = some r) (d : Nat) (S : Store) : callF sg0 hd.tab (d + 2) "of_not" [s.enc e] S = .ok (encO e r) S := by
  rw [call_eq tab_ofnot rfl]
  have i0 := inner_ok e s d S
  cases s with
  | at_ w up =>
    cases hr
    cases up <;> simp [fn_of_not, Sy.enc, star1, encO, addT, c_at_least, c_pr_least, c_wd_least, c_at_most, c_pr_most, c_wd_most, c_at_not, c_pr_not, c_wd_not, c_at_both, c_pr_both, c_wd_both, c_at_either, c_pr_either, c_wd_either, c_at_always, c_pr_always, c_wd_always, c_at_sometime, c_pr_sometime, c_wd_sometime, c_at_until, c_pr_until, c_wd_until, c_eq_not_least, c_eq_until_least, c_eq_not_most, c_eq_until_most, c_eq_not_not, c_eq_until_not, c_eq_not_both, c_eq_until_both, c_eq_not_either, c_eq_until_either, c_eq_not_always, c_eq_until_always, c_eq_not_sometime, c_eq_until_sometime, c_eq_not_until, c_eq_until_until, o_least, o_most, o_both, o_either, o_always, o_sometime]
  | nt s =>
    cases hr
    simp [fn_of_not, Sy.enc, star1, encO, atI, ixN, c_at_least, c_pr_least, c_wd_least, c_at_most, c_pr_most, c_wd_most, c_at_not, c_pr_not, c_wd_not, c_at_both, c_pr_both, c_wd_both, c_at_either, c_pr_either, c_wd_either, c_at_always, c_pr_always, c_wd_always, c_at_sometime, c_pr_sometime, c_wd_sometime, c_at_until, c_pr_until, c_wd_until, c_eq_not_least, c_eq_until_least, c_eq_not_most, c_eq_until_most, c_eq_not_not, c_eq_until_not, c_eq_not_both, c_eq_until_both, c_eq_not_either, c_eq_until_either, c_eq_not_always, c_eq_until_always, c_eq_not_sometime, c_eq_until_sometime, c_eq_not_until, c_eq_until_until]
  | two o a b =>
    cases hr
    cases o <;> simp [Sy.enc, Sy.inner] at i0 <;> simp [fn_of_not, Sy.enc, star1, encO, addT, i0, itV, compGo, compF, wipeE, Pat.vars, c_at_least, c_pr_least, c_wd_least, c_at_most, c_pr_most, c_wd_most, c_at_not, c_pr_not, c_wd_not, c_at_both, c_pr_both, c_wd_both, c_at_either, c_pr_either, c_wd_either, c_at_always, c_pr_always, c_wd_always, c_at_sometime, c_pr_sometime, c_wd_sometime, c_at_until, c_pr_until, c_wd_until, c_eq_not_least, c_eq_until_least, c_eq_not_most, c_eq_until_most, c_eq_not_not, c_eq_until_not, c_eq_not_both, c_eq_until_both, c_eq_not_either, c_eq_until_either, c_eq_not_always, c_eq_until_always, c_eq_not_sometime, c_eq_until_sometime, c_eq_not_until, c_eq_until_until, o_least, o_most, o_both, o_either, o_always, o_sometime, lim]
  | win o n f s =>
    cases hr
    cases o <;> simp [Sy.enc, Sy.inner] at i0 <;> simp [fn_of_not, Sy.enc, star1, encO, addT, i0, itV, compGo, compF, wipeE, Pat.vars, cutL, sIx, c_at_least, c_pr_least, c_wd_least, c_at_most, c_pr_most, c_wd_most, c_at_not, c_pr_not, c_wd_not, c_at_both, c_pr_both, c_wd_both, c_at_either, c_pr_either, c_wd_either, c_at_always, c_pr_always, c_wd_always, c_at_sometime, c_pr_sometime, c_wd_sometime, c_at_until, c_pr_until, c_wd_until, c_eq_not_least, c_eq_until_least, c_eq_not_most, c_eq_until_most, c_eq_not_not, c_eq_until_not, c_eq_not_both, c_eq_until_both, c_eq_not_either, c_eq_until_either, c_eq_not_always, c_eq_until_always, c_eq_not_sometime, c_eq_until_sometime, c_eq_not_until, c_eq_until_until, o_least, o_most, o_both, o_either, o_always, o_sometime, lim]
  | unt a b =>
    cases hr
    simp [fn_of_not, Sy.enc, star1, encO, c_at_least, c_pr_least, c_wd_least, c_at_most, c_pr_most, c_wd_most, c_at_not, c_pr_not, c_wd_not, c_at_both, c_pr_both, c_wd_both, c_at_either, c_pr_either, c_wd_either, c_at_always, c_pr_always, c_wd_always, c_at_sometime, c_pr_sometime, c_wd_sometime, c_at_until, c_pr_until, c_wd_until, c_eq_not_least, c_eq_until_least, c_eq_not_most, c_eq_until_most, c_eq_not_not, c_eq_until_not, c_eq_not_both, c_eq_until_both, c_eq_not_either, c_eq_until_either, c_eq_not_always, c_eq_until_always, c_eq_not_sometime, c_eq_until_sometime, c_eq_not_until, c_eq_until_until]
theorem e_least_least : (("least" : Str) == ("least" : Str)) = true := by decide +kernel
theorem e_least_most : (("least" : Str) == ("most" : Str)) = false := by decide +kernel
theorem e_least_not : (("least" : Str) == ("not" : Str)) = false := by decide +kernel
theorem e_least_both : (("least" : Str) == ("both" : Str)) = false := by decide +kernel
theorem e_least_either : (("least" : Str) == ("either" : Str)) = false := by decide +kernel
theorem e_least_always : (("least" : Str) == ("always" : Str)) = false := by decide +kernel
theorem e_least_sometime : (("least" : Str) == ("sometime" : Str)) = false := by decide +kernel
theorem e_least_until : (("least" : Str) == ("until" : Str)) = false := by decide +kernel
theorem e_most_least : (("most" : Str) == ("least" : Str)) = false := by decide +kernel
theorem e_most_most : (("most" : Str) == ("most" : Str)) = true := by decide +kernel
theorem e_most_not : (("most" : Str) == ("not" : Str)) = false := by decide +kernel
theorem e_most_both : (("most" : Str) == ("both" : Str)) = false := by decide +kernel
theorem e_most_either : (("most" : Str) == ("either" : Str)) = false := by decide +kernel
theorem e_most_always : (("most" : Str) == ("always" : Str)) = false := by decide +kernel
theorem e_most_sometime : (("most" : Str) == ("sometime" : Str)) = false := by decide +kernel
theorem e_most_until : (("most" : Str) == ("until" : Str)) = false := by decide +kernel
theorem e_not_least : (("not" : Str) == ("least" : Str)) = false := by decide +kernel
theorem e_not_most : (("not" : Str) == ("most" : Str)) = false := by decide +kernel
theorem e_not_not : (("not" : Str) == ("not" : Str)) = true := by decide +kernel
theorem e_not_both : (("not" : Str) == ("both" : Str)) = false := by decide +kernel
theorem e_not_either : (("not" : Str) == ("either" : Str)) = false := by decide +kernel
theorem e_not_always : (("not" : Str) == ("always" : Str)) = false := by decide +kernel
theorem e_not_sometime : (("not" : Str) == ("sometime" : Str)) = false := by decide +kernel
theorem e_not_until : (("not" : Str) == ("until" : Str)) = false := by decide +kernel
theorem e_both_least : (("both" : Str) == ("least" : Str)) = false := by decide +kernel
theorem e_both_most : (("both" : Str) == ("most" : Str)) = false := by decide +kernel
theorem e_both_not : (("both" : Str) == ("not" : Str)) = false := by decide +kernel
theorem e_both_both : (("both" : Str) == ("both" : Str)) = true := by decide +kernel
theorem e_both_either : (("both" : Str) == ("either" : Str)) = false := by decide +kernel
theorem e_both_always : (("both" : Str) == ("always" : Str)) = false := by decide +kernel
theorem e_both_sometime : (("both" : Str) == ("sometime" : Str)) = false := by decide +kernel
theorem e_both_until : (("both" : Str) == ("until" : Str)) = false := by decide +kernel
theorem e_either_least : (("either" : Str) == ("least" : Str)) = false := by decide +kernel
theorem e_either_most : (("either" : Str) == ("most" : Str)) = false := by decide +kernel
theorem e_either_not : (("either" : Str) == ("not" : Str)) = false := by decide +kernel
theorem e_either_both : (("either" : Str) == ("both" : Str)) = false := by decide +kernel
theorem e_either_either : (("either" : Str) == ("either" : Str)) = true := by decide +kernel
theorem e_either_always : (("either" : Str) == ("always" : Str)) = false := by decide +kernel
theorem e_either_sometime : (("either" : Str) == ("sometime" : Str)) = false := by decide +kernel
theorem e_either_until : (("either" : Str) == ("until" : Str)) = false := by decide +kernel
theorem e_always_least : (("always" : Str) == ("least" : Str)) = false := by decide +kernel
theorem e_always_most : (("always" : Str) == ("most" : Str)) = false := by decide +kernel
theorem e_always_not : (("always" : Str) == ("not" : Str)) = false := by decide +kernel
theorem e_always_both : (("always" : Str) == ("both" : Str)) = false := by decide +kernel
theorem e_always_either : (("always" : Str) == ("either" : Str)) = false := by decide +kernel
theorem e_always_always : (("always" : Str) == ("always" : Str)) = true := by decide +kernel
theorem e_always_sometime : (("always" : Str) == ("sometime" : Str)) = false := by decide +kernel
theorem e_always_until : (("always" : Str) == ("until" : Str)) = false := by decide +kernel
theorem e_sometime_least : (("sometime" : Str) == ("least" : Str)) = false := by decide +kernel
theorem e_sometime_most : (("sometime" : Str) == ("most" : Str)) = false := by decide +kernel
theorem e_sometime_not : (("sometime" : Str) == ("not" : Str)) = false := by decide +kernel
theorem e_sometime_both : (("sometime" : Str) == ("both" : Str)) = false := by decide +kernel
theorem e_sometime_either : (("sometime" : Str) == ("either" : Str)) = false := by decide +kernel
theorem e_sometime_always : (("sometime" : Str) == ("always" : Str)) = false := by decide +kernel
theorem e_sometime_sometime : (("sometime" : Str) == ("sometime" : Str)) = true := by decide +kernel
theorem e_sometime_until : (("sometime" : Str) == ("until" : Str)) = false := by decide +kernel
theorem e_until_least : (("until" : Str) == ("least" : Str)) = false := by decide +kernel
theorem e_until_most : (("until" : Str) == ("most" : Str)) = false := by decide +kernel
theorem e_until_not : (("until" : Str) == ("not" : Str)) = false := by decide +kernel
theorem e_until_both : (("until" : Str) == ("both" : Str)) = false := by decide +kernel
theorem e_until_either : (("until" : Str) == ("either" : Str)) = false := by decide +kernel
theorem e_until_always : (("until" : Str) == ("always" : Str)) = false := by decide +kernel
theorem e_until_sometime : (("until" : Str) == ("sometime" : Str)) = false := by decide +kernel
theorem e_until_until : (("until" : Str) == ("until" : Str)) = true := by decide +kernel
theorem q_ss (x y : Str) : eqV (.str x) (.str y) = (x == y) := rfl
theorem q_ii (x y : Int) : eqV (.int x) (.int y) = decide (x = y) := by
  show (x == y) = _
  by_cases h : x = y <;> simp [h]
theorem q_tt (x y : List Val) : eqV (.tup x) (.tup y) = eqVs x y := rfl
theorem q_cc (x y : Val) (r t : List Val) : eqVs (x :: r) (y :: t) = (eqV x y && eqVs r t) := rfl
theorem q_nn : eqVs [] [] = true := rfl
theorem q_nc (x : Val) (r : List Val) : eqVs [] (x :: r) = false := rfl
theorem q_cn (x : Val) (r : List Val) : eqVs (x :: r) [] = false := rfl
theorem q_st (x : Str) (l : List Val) : eqV (.str x) (.tup l) = false := rfl
theorem q_si (x : Str) (l : Int) : eqV (.str x) (.int l) = false := rfl
theorem q_nat (n m : Nat) : decide ((n : Int) = (m : Int)) = decide (n = m) := by
  by_cases h : n = m
  · simp [h]
  · rw [decide_eq_false h, decide_eq_false (by omega)]
theorem enc_eq (e : Nm) (h : e.A ≠ e.B) : ∀ a b : Sy, eqV (a.enc e) (b.enc e) = decide (a = b) := by
  have hAB : (e.A == e.B) = false := by simpa using h
  have hBA : (e.B == e.A) = false := by simpa using Ne.symm h
  have hA : (e.A == e.A) = true := beq_self_eq_true _
  have hB : (e.B == e.B) = true := beq_self_eq_true _
  intro a
  induction a with
  | at_ w up => intro b; cases b with
    | at_ x y => cases w <;> cases up <;> cases x <;> cases y <;> simp [Sy.enc, q_ss, q_ii, q_tt, q_cc, q_nn, q_nc, q_cn, q_st, q_si, hAB, hBA, hA, hB, e_least_least, e_least_most, e_least_not, e_least_both, e_least_either, e_least_always, e_least_sometime, e_least_until, e_most_least, e_most_most, e_most_not, e_most_both, e_most_either, e_most_always, e_most_sometime, e_most_until, e_not_least, e_not_most, e_not_not, e_not_both, e_not_either, e_not_always, e_not_sometime, e_not_until, e_both_least, e_both_most, e_both_not, e_both_both, e_both_either, e_both_always, e_both_sometime, e_both_until, e_either_least, e_either_most, e_either_not, e_either_both, e_either_either, e_either_always, e_either_sometime, e_either_until, e_always_least, e_always_most, e_always_not, e_always_both, e_always_either, e_always_always, e_always_sometime, e_always_until, e_sometime_least, e_sometime_most, e_sometime_not, e_sometime_both, e_sometime_either, e_sometime_always, e_sometime_sometime, e_sometime_until, e_until_least, e_until_most, e_until_not, e_until_both, e_until_either, e_until_always, e_until_sometime, e_until_until]
    | nt t => cases up <;> simp [Sy.enc, q_ss, q_ii, q_tt, q_cc, q_nn, q_nc, q_cn, q_st, q_si, e_least_least, e_least_most, e_least_not, e_least_both, e_least_either, e_least_always, e_least_sometime, e_least_until, e_most_least, e_most_most, e_most_not, e_most_both, e_most_either, e_most_always, e_most_sometime, e_most_until, e_not_least, e_not_most, e_not_not, e_not_both, e_not_either, e_not_always, e_not_sometime, e_not_until, e_both_least, e_both_most, e_both_not, e_both_both, e_both_either, e_both_always, e_both_sometime, e_both_until, e_either_least, e_either_most, e_either_not, e_either_both, e_either_either, e_either_always, e_either_sometime, e_either_until, e_always_least, e_always_most, e_always_not, e_always_both, e_always_either, e_always_always, e_always_sometime, e_always_until, e_sometime_least, e_sometime_most, e_sometime_not, e_sometime_both, e_sometime_either, e_sometime_always, e_sometime_sometime, e_sometime_until, e_until_least, e_until_most, e_until_not, e_until_both, e_until_either, e_until_always, e_until_sometime, e_until_until]
    | two x y z => cases up <;> cases x <;> simp [Sy.enc, q_ss, q_ii, q_tt, q_cc, q_nn, q_nc, q_cn, q_st, q_si, e_least_least, e_least_most, e_least_not, e_least_both, e_least_either, e_least_always, e_least_sometime, e_least_until, e_most_least, e_most_most, e_most_not, e_most_both, e_most_either, e_most_always, e_most_sometime, e_most_until, e_not_least, e_not_most, e_not_not, e_not_both, e_not_either, e_not_always, e_not_sometime, e_not_until, e_both_least, e_both_most, e_both_not, e_both_both, e_both_either, e_both_always, e_both_sometime, e_both_until, e_either_least, e_either_most, e_either_not, e_either_both, e_either_either, e_either_always, e_either_sometime, e_either_until, e_always_least, e_always_most, e_always_not, e_always_both, e_always_either, e_always_always, e_always_sometime, e_always_until, e_sometime_least, e_sometime_most, e_sometime_not, e_sometime_both, e_sometime_either, e_sometime_always, e_sometime_sometime, e_sometime_until, e_until_least, e_until_most, e_until_not, e_until_both, e_until_either, e_until_always, e_until_sometime, e_until_until]
    | win x n f z => cases up <;> cases x <;> simp [Sy.enc, q_ss, q_ii, q_tt, q_cc, q_nn, q_nc, q_cn, q_st, q_si, e_least_least, e_least_most, e_least_not, e_least_both, e_least_either, e_least_always, e_least_sometime, e_least_until, e_most_least, e_most_most, e_most_not, e_most_both, e_most_either, e_most_always, e_most_sometime, e_most_until, e_not_least, e_not_most, e_not_not, e_not_both, e_not_either, e_not_always, e_not_sometime, e_not_until, e_both_least, e_both_most, e_both_not, e_both_both, e_both_either, e_both_always, e_both_sometime, e_both_until, e_either_least, e_either_most, e_either_not, e_either_both, e_either_either, e_either_always, e_either_sometime, e_either_until, e_always_least, e_always_most, e_always_not, e_always_both, e_always_either, e_always_always, e_always_sometime, e_always_until, e_sometime_least, e_sometime_most, e_sometime_not, e_sometime_both, e_sometime_either, e_sometime_always, e_sometime_sometime, e_sometime_until, e_until_least, e_until_most, e_until_not, e_until_both, e_until_either, e_until_always, e_until_sometime, e_until_until]
    | unt y z => cases up <;> simp [Sy.enc, q_ss, q_ii, q_tt, q_cc, q_nn, q_nc, q_cn, q_st, q_si, e_least_least, e_least_most, e_least_not, e_least_both, e_least_either, e_least_always, e_least_sometime, e_least_until, e_most_least, e_most_most, e_most_not, e_most_both, e_most_either, e_most_always, e_most_sometime, e_most_until, e_not_least, e_not_most, e_not_not, e_not_both, e_not_either, e_not_always, e_not_sometime, e_not_until, e_both_least, e_both_most, e_both_not, e_both_both, e_both_either, e_both_always, e_both_sometime, e_both_until, e_either_least, e_either_most, e_either_not, e_either_both, e_either_either, e_either_always, e_either_sometime, e_either_until, e_always_least, e_always_most, e_always_not, e_always_both, e_always_either, e_always_always, e_always_sometime, e_always_until, e_sometime_least, e_sometime_most, e_sometime_not, e_sometime_both, e_sometime_either, e_sometime_always, e_sometime_sometime, e_sometime_until, e_until_least, e_until_most, e_until_not, e_until_both, e_until_either, e_until_always, e_until_sometime, e_until_until]
  | nt s ih => intro b; cases b with
    | at_ x y => cases y <;> simp [Sy.enc, q_ss, q_ii, q_tt, q_cc, q_nn, q_nc, q_cn, q_st, q_si, e_least_least, e_least_most, e_least_not, e_least_both, e_least_either, e_least_always, e_least_sometime, e_least_until, e_most_least, e_most_most, e_most_not, e_most_both, e_most_either, e_most_always, e_most_sometime, e_most_until, e_not_least, e_not_most, e_not_not, e_not_both, e_not_either, e_not_always, e_not_sometime, e_not_until, e_both_least, e_both_most, e_both_not, e_both_both, e_both_either, e_both_always, e_both_sometime, e_both_until, e_either_least, e_either_most, e_either_not, e_either_both, e_either_either, e_either_always, e_either_sometime, e_either_until, e_always_least, e_always_most, e_always_not, e_always_both, e_always_either, e_always_always, e_always_sometime, e_always_until, e_sometime_least, e_sometime_most, e_sometime_not, e_sometime_both, e_sometime_either, e_sometime_always, e_sometime_sometime, e_sometime_until, e_until_least, e_until_most, e_until_not, e_until_both, e_until_either, e_until_always, e_until_sometime, e_until_until]
    | nt t => simp [Sy.enc, q_ss, q_ii, q_tt, q_cc, q_nn, q_nc, q_cn, q_st, q_si, ih, e_least_least, e_least_most, e_least_not, e_least_both, e_least_either, e_least_always, e_least_sometime, e_least_until, e_most_least, e_most_most, e_most_not, e_most_both, e_most_either, e_most_always, e_most_sometime, e_most_until, e_not_least, e_not_most, e_not_not, e_not_both, e_not_either, e_not_always, e_not_sometime, e_not_until, e_both_least, e_both_most, e_both_not, e_both_both, e_both_either, e_both_always, e_both_sometime, e_both_until, e_either_least, e_either_most, e_either_not, e_either_both, e_either_either, e_either_always, e_either_sometime, e_either_until, e_always_least, e_always_most, e_always_not, e_always_both, e_always_either, e_always_always, e_always_sometime, e_always_until, e_sometime_least, e_sometime_most, e_sometime_not, e_sometime_both, e_sometime_either, e_sometime_always, e_sometime_sometime, e_sometime_until, e_until_least, e_until_most, e_until_not, e_until_both, e_until_either, e_until_always, e_until_sometime, e_until_until]
    | two x y z => cases x <;> simp [Sy.enc, q_ss, q_ii, q_tt, q_cc, q_nn, q_nc, q_cn, q_st, q_si, e_least_least, e_least_most, e_least_not, e_least_both, e_least_either, e_least_always, e_least_sometime, e_least_until, e_most_least, e_most_most, e_most_not, e_most_both, e_most_either, e_most_always, e_most_sometime, e_most_until, e_not_least, e_not_most, e_not_not, e_not_both, e_not_either, e_not_always, e_not_sometime, e_not_until, e_both_least, e_both_most, e_both_not, e_both_both, e_both_either, e_both_always, e_both_sometime, e_both_until, e_either_least, e_either_most, e_either_not, e_either_both, e_either_either, e_either_always, e_either_sometime, e_either_until, e_always_least, e_always_most, e_always_not, e_always_both, e_always_either, e_always_always, e_always_sometime, e_always_until, e_sometime_least, e_sometime_most, e_sometime_not, e_sometime_both, e_sometime_either, e_sometime_always, e_sometime_sometime, e_sometime_until, e_until_least, e_until_most, e_until_not, e_until_both, e_until_either, e_until_always, e_until_sometime, e_until_until]
    | win x n f z => cases x <;> simp [Sy.enc, q_ss, q_ii, q_tt, q_cc, q_nn, q_nc, q_cn, q_st, q_si, e_least_least, e_least_most, e_least_not, e_least_both, e_least_either, e_least_always, e_least_sometime, e_least_until, e_most_least, e_most_most, e_most_not, e_most_both, e_most_either, e_most_always, e_most_sometime, e_most_until, e_not_least, e_not_most, e_not_not, e_not_both, e_not_either, e_not_always, e_not_sometime, e_not_until, e_both_least, e_both_most, e_both_not, e_both_both, e_both_either, e_both_always, e_both_sometime, e_both_until, e_either_least, e_either_most, e_either_not, e_either_both, e_either_either, e_either_always, e_either_sometime, e_either_until, e_always_least, e_always_most, e_always_not, e_always_both, e_always_either, e_always_always, e_always_sometime, e_always_until, e_sometime_least, e_sometime_most, e_sometime_not, e_sometime_both, e_sometime_either, e_sometime_always, e_sometime_sometime, e_sometime_until, e_until_least, e_until_most, e_until_not, e_until_both, e_until_either, e_until_always, e_until_sometime, e_until_until]
    | unt y z => simp [Sy.enc, q_ss, q_ii, q_tt, q_cc, q_nn, q_nc, q_cn, q_st, q_si, e_least_least, e_least_most, e_least_not, e_least_both, e_least_either, e_least_always, e_least_sometime, e_least_until, e_most_least, e_most_most, e_most_not, e_most_both, e_most_either, e_most_always, e_most_sometime, e_most_until, e_not_least, e_not_most, e_not_not, e_not_both, e_not_either, e_not_always, e_not_sometime, e_not_until, e_both_least, e_both_most, e_both_not, e_both_both, e_both_either, e_both_always, e_both_sometime, e_both_until, e_either_least, e_either_most, e_either_not, e_either_both, e_either_either, e_either_always, e_either_sometime, e_either_until, e_always_least, e_always_most, e_always_not, e_always_both, e_always_either, e_always_always, e_always_sometime, e_always_until, e_sometime_least, e_sometime_most, e_sometime_not, e_sometime_both, e_sometime_either, e_sometime_always, e_sometime_sometime, e_sometime_until, e_until_least, e_until_most, e_until_not, e_until_both, e_until_either, e_until_always, e_until_sometime, e_until_until]
  | two o a b iha ihb => intro b; cases b with
    | at_ x y => cases o <;> cases y <;> simp [Sy.enc, q_ss, q_ii, q_tt, q_cc, q_nn, q_nc, q_cn, q_st, q_si, e_least_least, e_least_most, e_least_not, e_least_both, e_least_either, e_least_always, e_least_sometime, e_least_until, e_most_least, e_most_most, e_most_not, e_most_both, e_most_either, e_most_always, e_most_sometime, e_most_until, e_not_least, e_not_most, e_not_not, e_not_both, e_not_either, e_not_always, e_not_sometime, e_not_until, e_both_least, e_both_most, e_both_not, e_both_both, e_both_either, e_both_always, e_both_sometime, e_both_until, e_either_least, e_either_most, e_either_not, e_either_both, e_either_either, e_either_always, e_either_sometime, e_either_until, e_always_least, e_always_most, e_always_not, e_always_both, e_always_either, e_always_always, e_always_sometime, e_always_until, e_sometime_least, e_sometime_most, e_sometime_not, e_sometime_both, e_sometime_either, e_sometime_always, e_sometime_sometime, e_sometime_until, e_until_least, e_until_most, e_until_not, e_until_both, e_until_either, e_until_always, e_until_sometime, e_until_until]
    | nt t => cases o <;> simp [Sy.enc, q_ss, q_ii, q_tt, q_cc, q_nn, q_nc, q_cn, q_st, q_si, e_least_least, e_least_most, e_least_not, e_least_both, e_least_either, e_least_always, e_least_sometime, e_least_until, e_most_least, e_most_most, e_most_not, e_most_both, e_most_either, e_most_always, e_most_sometime, e_most_until, e_not_least, e_not_most, e_not_not, e_not_both, e_not_either, e_not_always, e_not_sometime, e_not_until, e_both_least, e_both_most, e_both_not, e_both_both, e_both_either, e_both_always, e_both_sometime, e_both_until, e_either_least, e_either_most, e_either_not, e_either_both, e_either_either, e_either_always, e_either_sometime, e_either_until, e_always_least, e_always_most, e_always_not, e_always_both, e_always_either, e_always_always, e_always_sometime, e_always_until, e_sometime_least, e_sometime_most, e_sometime_not, e_sometime_both, e_sometime_either, e_sometime_always, e_sometime_sometime, e_sometime_until, e_until_least, e_until_most, e_until_not, e_until_both, e_until_either, e_until_always, e_until_sometime, e_until_until]
    | two x y z => cases o <;> cases x <;> simp [Sy.enc, q_ss, q_ii, q_tt, q_cc, q_nn, q_nc, q_cn, q_st, q_si, iha, ihb, e_least_least, e_least_most, e_least_not, e_least_both, e_least_either, e_least_always, e_least_sometime, e_least_until, e_most_least, e_most_most, e_most_not, e_most_both, e_most_either, e_most_always, e_most_sometime, e_most_until, e_not_least, e_not_most, e_not_not, e_not_both, e_not_either, e_not_always, e_not_sometime, e_not_until, e_both_least, e_both_most, e_both_not, e_both_both, e_both_either, e_both_always, e_both_sometime, e_both_until, e_either_least, e_either_most, e_either_not, e_either_both, e_either_either, e_either_always, e_either_sometime, e_either_until, e_always_least, e_always_most, e_always_not, e_always_both, e_always_either, e_always_always, e_always_sometime, e_always_until, e_sometime_least, e_sometime_most, e_sometime_not, e_sometime_both, e_sometime_either, e_sometime_always, e_sometime_sometime, e_sometime_until, e_until_least, e_until_most, e_until_not, e_until_both, e_until_either, e_until_always, e_until_sometime, e_until_until]
    | win x n f z => cases o <;> cases x <;> simp [Sy.enc, q_ss, q_ii, q_tt, q_cc, q_nn, q_nc, q_cn, q_st, q_si, e_least_least, e_least_most, e_least_not, e_least_both, e_least_either, e_least_always, e_least_sometime, e_least_until, e_most_least, e_most_most, e_most_not, e_most_both, e_most_either, e_most_always, e_most_sometime, e_most_until, e_not_least, e_not_most, e_not_not, e_not_both, e_not_either, e_not_always, e_not_sometime, e_not_until, e_both_least, e_both_most, e_both_not, e_both_both, e_both_either, e_both_always, e_both_sometime, e_both_until, e_either_least, e_either_most, e_either_not, e_either_both, e_either_either, e_either_always, e_either_sometime, e_either_until, e_always_least, e_always_most, e_always_not, e_always_both, e_always_either, e_always_always, e_always_sometime, e_always_until, e_sometime_least, e_sometime_most, e_sometime_not, e_sometime_both, e_sometime_either, e_sometime_always, e_sometime_sometime, e_sometime_until, e_until_least, e_until_most, e_until_not, e_until_both, e_until_either, e_until_always, e_until_sometime, e_until_until]
    | unt y z => cases o <;> simp [Sy.enc, q_ss, q_ii, q_tt, q_cc, q_nn, q_nc, q_cn, q_st, q_si, e_least_least, e_least_most, e_least_not, e_least_both, e_least_either, e_least_always, e_least_sometime, e_least_until, e_most_least, e_most_most, e_most_not, e_most_both, e_most_either, e_most_always, e_most_sometime, e_most_until, e_not_least, e_not_most, e_not_not, e_not_both, e_not_either, e_not_always, e_not_sometime, e_not_until, e_both_least, e_both_most, e_both_not, e_both_both, e_both_either, e_both_always, e_both_sometime, e_both_until, e_either_least, e_either_most, e_either_not, e_either_both, e_either_either, e_either_always, e_either_sometime, e_either_until, e_always_least, e_always_most, e_always_not, e_always_both, e_always_either, e_always_always, e_always_sometime, e_always_until, e_sometime_least, e_sometime_most, e_sometime_not, e_sometime_both, e_sometime_either, e_sometime_always, e_sometime_sometime, e_sometime_until, e_until_least, e_until_most, e_until_not, e_until_both, e_until_either, e_until_always, e_until_sometime, e_until_until]
  | win o n f s ih => intro b; cases b with
    | at_ x y => cases o <;> cases y <;> simp [Sy.enc, q_ss, q_ii, q_tt, q_cc, q_nn, q_nc, q_cn, q_st, q_si, e_least_least, e_least_most, e_least_not, e_least_both, e_least_either, e_least_always, e_least_sometime, e_least_until, e_most_least, e_most_most, e_most_not, e_most_both, e_most_either, e_most_always, e_most_sometime, e_most_until, e_not_least, e_not_most, e_not_not, e_not_both, e_not_either, e_not_always, e_not_sometime, e_not_until, e_both_least, e_both_most, e_both_not, e_both_both, e_both_either, e_both_always, e_both_sometime, e_both_until, e_either_least, e_either_most, e_either_not, e_either_both, e_either_either, e_either_always, e_either_sometime, e_either_until, e_always_least, e_always_most, e_always_not, e_always_both, e_always_either, e_always_always, e_always_sometime, e_always_until, e_sometime_least, e_sometime_most, e_sometime_not, e_sometime_both, e_sometime_either, e_sometime_always, e_sometime_sometime, e_sometime_until, e_until_least, e_until_most, e_until_not, e_until_both, e_until_either, e_until_always, e_until_sometime, e_until_until]
    | nt t => cases o <;> simp [Sy.enc, q_ss, q_ii, q_tt, q_cc, q_nn, q_nc, q_cn, q_st, q_si, e_least_least, e_least_most, e_least_not, e_least_both, e_least_either, e_least_always, e_least_sometime, e_least_until, e_most_least, e_most_most, e_most_not, e_most_both, e_most_either, e_most_always, e_most_sometime, e_most_until, e_not_least, e_not_most, e_not_not, e_not_both, e_not_either, e_not_always, e_not_sometime, e_not_until, e_both_least, e_both_most, e_both_not, e_both_both, e_both_either, e_both_always, e_both_sometime, e_both_until, e_either_least, e_either_most, e_either_not, e_either_both, e_either_either, e_either_always, e_either_sometime, e_either_until, e_always_least, e_always_most, e_always_not, e_always_both, e_always_either, e_always_always, e_always_sometime, e_always_until, e_sometime_least, e_sometime_most, e_sometime_not, e_sometime_both, e_sometime_either, e_sometime_always, e_sometime_sometime, e_sometime_until, e_until_least, e_until_most, e_until_not, e_until_both, e_until_either, e_until_always, e_until_sometime, e_until_until]
    | two x y z => cases o <;> cases x <;> simp [Sy.enc, q_ss, q_ii, q_tt, q_cc, q_nn, q_nc, q_cn, q_st, q_si, e_least_least, e_least_most, e_least_not, e_least_both, e_least_either, e_least_always, e_least_sometime, e_least_until, e_most_least, e_most_most, e_most_not, e_most_both, e_most_either, e_most_always, e_most_sometime, e_most_until, e_not_least, e_not_most, e_not_not, e_not_both, e_not_either, e_not_always, e_not_sometime, e_not_until, e_both_least, e_both_most, e_both_not, e_both_both, e_both_either, e_both_always, e_both_sometime, e_both_until, e_either_least, e_either_most, e_either_not, e_either_both, e_either_either, e_either_always, e_either_sometime, e_either_until, e_always_least, e_always_most, e_always_not, e_always_both, e_always_either, e_always_always, e_always_sometime, e_always_until, e_sometime_least, e_sometime_most, e_sometime_not, e_sometime_both, e_sometime_either, e_sometime_always, e_sometime_sometime, e_sometime_until, e_until_least, e_until_most, e_until_not, e_until_both, e_until_either, e_until_always, e_until_sometime, e_until_until]
    | win x n f z => cases o <;> cases x <;> simp [Sy.enc, q_ss, q_ii, q_tt, q_cc, q_nn, q_nc, q_cn, q_st, q_si, ih, q_nat, e_least_least, e_least_most, e_least_not, e_least_both, e_least_either, e_least_always, e_least_sometime, e_least_until, e_most_least, e_most_most, e_most_not, e_most_both, e_most_either, e_most_always, e_most_sometime, e_most_until, e_not_least, e_not_most, e_not_not, e_not_both, e_not_either, e_not_always, e_not_sometime, e_not_until, e_both_least, e_both_most, e_both_not, e_both_both, e_both_either, e_both_always, e_both_sometime, e_both_until, e_either_least, e_either_most, e_either_not, e_either_both, e_either_either, e_either_always, e_either_sometime, e_either_until, e_always_least, e_always_most, e_always_not, e_always_both, e_always_either, e_always_always, e_always_sometime, e_always_until, e_sometime_least, e_sometime_most, e_sometime_not, e_sometime_both, e_sometime_either, e_sometime_always, e_sometime_sometime, e_sometime_until, e_until_least, e_until_most, e_until_not, e_until_both, e_until_either, e_until_always, e_until_sometime, e_until_until]
    | unt y z => cases o <;> simp [Sy.enc, q_ss, q_ii, q_tt, q_cc, q_nn, q_nc, q_cn, q_st, q_si, e_least_least, e_least_most, e_least_not, e_least_both, e_least_either, e_least_always, e_least_sometime, e_least_until, e_most_least, e_most_most, e_most_not, e_most_both, e_most_either, e_most_always, e_most_sometime, e_most_until, e_not_least, e_not_most, e_not_not, e_not_both, e_not_either, e_not_always, e_not_sometime, e_not_until, e_both_least, e_both_most, e_both_not, e_both_both, e_both_either, e_both_always, e_both_sometime, e_both_until, e_either_least, e_either_most, e_either_not, e_either_both, e_either_either, e_either_always, e_either_sometime, e_either_until, e_always_least, e_always_most, e_always_not, e_always_both, e_always_either, e_always_always, e_always_sometime, e_always_until, e_sometime_least, e_sometime_most, e_sometime_not, e_sometime_both, e_sometime_either, e_sometime_always, e_sometime_sometime, e_sometime_until, e_until_least, e_until_most, e_until_not, e_until_both, e_until_either, e_until_always, e_until_sometime, e_until_until]
  | unt a b iha ihb => intro b; cases b with
    | at_ x y => cases y <;> simp [Sy.enc, q_ss, q_ii, q_tt, q_cc, q_nn, q_nc, q_cn, q_st, q_si, e_least_least, e_least_most, e_least_not, e_least_both, e_least_either, e_least_always, e_least_sometime, e_least_until, e_most_least, e_most_most, e_most_not, e_most_both, e_most_either, e_most_always, e_most_sometime, e_most_until, e_not_least, e_not_most, e_not_not, e_not_both, e_not_either, e_not_always, e_not_sometime, e_not_until, e_both_least, e_both_most, e_both_not, e_both_both, e_both_either, e_both_always, e_both_sometime, e_both_until, e_either_least, e_either_most, e_either_not, e_either_both, e_either_either, e_either_always, e_either_sometime, e_either_until, e_always_least, e_always_most, e_always_not, e_always_both, e_always_either, e_always_always, e_always_sometime, e_always_until, e_sometime_least, e_sometime_most, e_sometime_not, e_sometime_both, e_sometime_either, e_sometime_always, e_sometime_sometime, e_sometime_until, e_until_least, e_until_most, e_until_not, e_until_both, e_until_either, e_until_always, e_until_sometime, e_until_until]
    | nt t => simp [Sy.enc, q_ss, q_ii, q_tt, q_cc, q_nn, q_nc, q_cn, q_st, q_si, e_least_least, e_least_most, e_least_not, e_least_both, e_least_either, e_least_always, e_least_sometime, e_least_until, e_most_least, e_most_most, e_most_not, e_most_both, e_most_either, e_most_always, e_most_sometime, e_most_until, e_not_least, e_not_most, e_not_not, e_not_both, e_not_either, e_not_always, e_not_sometime, e_not_until, e_both_least, e_both_most, e_both_not, e_both_both, e_both_either, e_both_always, e_both_sometime, e_both_until, e_either_least, e_either_most, e_either_not, e_either_both, e_either_either, e_either_always, e_either_sometime, e_either_until, e_always_least, e_always_most, e_always_not, e_always_both, e_always_either, e_always_always, e_always_sometime, e_always_until, e_sometime_least, e_sometime_most, e_sometime_not, e_sometime_both, e_sometime_either, e_sometime_always, e_sometime_sometime, e_sometime_until, e_until_least, e_until_most, e_until_not, e_until_both, e_until_either, e_until_always, e_until_sometime, e_until_until]
    | two x y z => cases x <;> simp [Sy.enc, q_ss, q_ii, q_tt, q_cc, q_nn, q_nc, q_cn, q_st, q_si, e_least_least, e_least_most, e_least_not, e_least_both, e_least_either, e_least_always, e_least_sometime, e_least_until, e_most_least, e_most_most, e_most_not, e_most_both, e_most_either, e_most_always, e_most_sometime, e_most_until, e_not_least, e_not_most, e_not_not, e_not_both, e_not_either, e_not_always, e_not_sometime, e_not_until, e_both_least, e_both_most, e_both_not, e_both_both, e_both_either, e_both_always, e_both_sometime, e_both_until, e_either_least, e_either_most, e_either_not, e_either_both, e_either_either, e_either_always, e_either_sometime, e_either_until, e_always_least, e_always_most, e_always_not, e_always_both, e_always_either, e_always_always, e_always_sometime, e_always_until, e_sometime_least, e_sometime_most, e_sometime_not, e_sometime_both, e_sometime_either, e_sometime_always, e_sometime_sometime, e_sometime_until, e_until_least, e_until_most, e_until_not, e_until_both, e_until_either, e_until_always, e_until_sometime, e_until_until]
    | win x n f z => cases x <;> simp [Sy.enc, q_ss, q_ii, q_tt, q_cc, q_nn, q_nc, q_cn, q_st, q_si, e_least_least, e_least_most, e_least_not, e_least_both, e_least_either, e_least_always, e_least_sometime, e_least_until, e_most_least, e_most_most, e_most_not, e_most_both, e_most_either, e_most_always, e_most_sometime, e_most_until, e_not_least, e_not_most, e_not_not, e_not_both, e_not_either, e_not_always, e_not_sometime, e_not_until, e_both_least, e_both_most, e_both_not, e_both_both, e_both_either, e_both_always, e_both_sometime, e_both_until, e_either_least, e_either_most, e_either_not, e_either_both, e_either_either, e_either_always, e_either_sometime, e_either_until, e_always_least, e_always_most, e_always_not, e_always_both, e_always_either, e_always_always, e_always_sometime, e_always_until, e_sometime_least, e_sometime_most, e_sometime_not, e_sometime_both, e_sometime_either, e_sometime_always, e_sometime_sometime, e_sometime_until, e_until_least, e_until_most, e_until_not, e_until_both, e_until_either, e_until_always, e_until_sometime, e_until_until]
    | unt y z => simp [Sy.enc, q_ss, q_ii, q_tt, q_cc, q_nn, q_nc, q_cn, q_st, q_si, iha, ihb, e_least_least, e_least_most, e_least_not, e_least_both, e_least_either, e_least_always, e_least_sometime, e_least_until, e_most_least, e_most_most, e_most_not, e_most_both, e_most_either, e_most_always, e_most_sometime, e_most_until, e_not_least, e_not_most, e_not_not, e_not_both, e_not_either, e_not_always, e_not_sometime, e_not_until, e_both_least, e_both_most, e_both_not, e_both_both, e_both_either, e_both_always, e_both_sometime, e_both_until, e_either_least, e_either_most, e_either_not, e_either_both, e_either_either, e_either_always, e_either_sometime, e_either_until, e_always_least, e_always_most, e_always_not, e_always_both, e_always_either, e_always_always, e_always_sometime, e_always_until, e_sometime_least, e_sometime_most, e_sometime_not, e_sometime_both, e_sometime_either, e_sometime_always, e_sometime_sometime, e_sometime_until, e_until_least, e_until_most, e_until_not, e_until_both, e_until_either, e_until_always, e_until_sometime, e_until_until]
end LawK21

end
section
set_option linter.all false
set_option maxRecDepth 100000
/-! K21q: of_window, exchanged. -/
namespace LawK21
open PySem Pi
theorem at0 {α : Type} (x : α) (l : List α) : atI (x :: l) 0 = some x := by
  rw [show (0 : Int) = ((0 : Nat) : Int) from rfl, atI_nat]
  rfl
theorem at1 {α : Type} (x y : α) (l : List α) : atI (x :: y :: l) 1 = some y := by
  rw [show (1 : Int) = ((1 : Nat) : Int) from rfl, atI_nat]
  rfl
theorem at2 {α : Type} (x y z : α) (l : List α) : atI (x :: y :: z :: l) 2 = some z := by
  rw [show (2 : Int) = ((2 : Nat) : Int) from rfl, atI_nat]
  rfl
theorem at3 {α : Type} (x y z t : α) (l : List α) : atI (x :: y :: z :: t :: l) 3 = some t := by
  rw [show (3 : Int) = ((3 : Nat) : Int) from rfl, atI_nat]
  rfl
theorem tab_ofwin : hd.tab "of_window" = some fn_of_window := rfl
theorem ofwin_ok (e : Nm) (o : Bool) (n f : Nat) (s : Sy) (r : Option Sy) (hr : Sy.exch (.win o n f s) = some r) (d : Nat) (S : Store) : callF sg0 hd.tab (d + 1) "of_window" [(Sy.win o n f s).enc e] S = .ok (encO e r) S := by
  rw [call_eq tab_ofwin rfl]
  have z0 : ((f : Int) == 0) = decide (f = 0) := by
    by_cases h : f = 0 <;> simp [h]
  cases s with
  | at_ w up =>
    have hr : (if f = 0 then some (some (Sy.at_ w up)) else some none) = some r := hr
    by_cases h : f = 0
    · rw [if_pos h] at hr
      cases hr
      cases o <;> cases up <;> simp [fn_of_window, Sy.enc, encO, at0, eqS, eqI, z0, h, e_least_least, e_least_most, e_least_not, e_least_both, e_least_either, e_least_always, e_least_sometime, e_least_until, e_most_least, e_most_most, e_most_not, e_most_both, e_most_either, e_most_always, e_most_sometime, e_most_until, e_not_least, e_not_most, e_not_not, e_not_both, e_not_either, e_not_always, e_not_sometime, e_not_until, e_both_least, e_both_most, e_both_not, e_both_both, e_both_either, e_both_always, e_both_sometime, e_both_until, e_either_least, e_either_most, e_either_not, e_either_both, e_either_either, e_either_always, e_either_sometime, e_either_until, e_always_least, e_always_most, e_always_not, e_always_both, e_always_either, e_always_always, e_always_sometime, e_always_until, e_sometime_least, e_sometime_most, e_sometime_not, e_sometime_both, e_sometime_either, e_sometime_always, e_sometime_sometime, e_sometime_until, e_until_least, e_until_most, e_until_not, e_until_both, e_until_either, e_until_always, e_until_sometime, e_until_until]
    · rw [if_neg h] at hr
      cases hr
      cases o <;> cases up <;> simp [fn_of_window, Sy.enc, encO, at0, eqS, eqI, z0, h, e_least_least, e_least_most, e_least_not, e_least_both, e_least_either, e_least_always, e_least_sometime, e_least_until, e_most_least, e_most_most, e_most_not, e_most_both, e_most_either, e_most_always, e_most_sometime, e_most_until, e_not_least, e_not_most, e_not_not, e_not_both, e_not_either, e_not_always, e_not_sometime, e_not_until, e_both_least, e_both_most, e_both_not, e_both_both, e_both_either, e_both_always, e_both_sometime, e_both_until, e_either_least, e_either_most, e_either_not, e_either_both, e_either_either, e_either_always, e_either_sometime, e_either_until, e_always_least, e_always_most, e_always_not, e_always_both, e_always_either, e_always_always, e_always_sometime, e_always_until, e_sometime_least, e_sometime_most, e_sometime_not, e_sometime_both, e_sometime_either, e_sometime_always, e_sometime_sometime, e_sometime_until, e_until_least, e_until_most, e_until_not, e_until_both, e_until_either, e_until_always, e_until_sometime, e_until_until]
  | nt s =>
    have hr : (if f = 0 then some (some (Sy.nt s)) else some none) = some r := hr
    by_cases h : f = 0
    · rw [if_pos h] at hr
      cases hr
      cases o <;> simp [fn_of_window, Sy.enc, encO, at0, eqS, eqI, z0, h, e_least_least, e_least_most, e_least_not, e_least_both, e_least_either, e_least_always, e_least_sometime, e_least_until, e_most_least, e_most_most, e_most_not, e_most_both, e_most_either, e_most_always, e_most_sometime, e_most_until, e_not_least, e_not_most, e_not_not, e_not_both, e_not_either, e_not_always, e_not_sometime, e_not_until, e_both_least, e_both_most, e_both_not, e_both_both, e_both_either, e_both_always, e_both_sometime, e_both_until, e_either_least, e_either_most, e_either_not, e_either_both, e_either_either, e_either_always, e_either_sometime, e_either_until, e_always_least, e_always_most, e_always_not, e_always_both, e_always_either, e_always_always, e_always_sometime, e_always_until, e_sometime_least, e_sometime_most, e_sometime_not, e_sometime_both, e_sometime_either, e_sometime_always, e_sometime_sometime, e_sometime_until, e_until_least, e_until_most, e_until_not, e_until_both, e_until_either, e_until_always, e_until_sometime, e_until_until]
    · rw [if_neg h] at hr
      cases hr
      cases o <;> simp [fn_of_window, Sy.enc, encO, at0, eqS, eqI, z0, h, e_least_least, e_least_most, e_least_not, e_least_both, e_least_either, e_least_always, e_least_sometime, e_least_until, e_most_least, e_most_most, e_most_not, e_most_both, e_most_either, e_most_always, e_most_sometime, e_most_until, e_not_least, e_not_most, e_not_not, e_not_both, e_not_either, e_not_always, e_not_sometime, e_not_until, e_both_least, e_both_most, e_both_not, e_both_both, e_both_either, e_both_always, e_both_sometime, e_both_until, e_either_least, e_either_most, e_either_not, e_either_both, e_either_either, e_either_always, e_either_sometime, e_either_until, e_always_least, e_always_most, e_always_not, e_always_both, e_always_either, e_always_always, e_always_sometime, e_always_until, e_sometime_least, e_sometime_most, e_sometime_not, e_sometime_both, e_sometime_either, e_sometime_always, e_sometime_sometime, e_sometime_until, e_until_least, e_until_most, e_until_not, e_until_both, e_until_either, e_until_always, e_until_sometime, e_until_until]
  | two p a b =>
    have hr : (if f = 0 then some (some (Sy.two p a b)) else some none) = some r := hr
    by_cases h : f = 0
    · rw [if_pos h] at hr
      cases hr
      cases o <;> cases p <;> simp [fn_of_window, Sy.enc, encO, at0, eqS, eqI, z0, h, e_least_least, e_least_most, e_least_not, e_least_both, e_least_either, e_least_always, e_least_sometime, e_least_until, e_most_least, e_most_most, e_most_not, e_most_both, e_most_either, e_most_always, e_most_sometime, e_most_until, e_not_least, e_not_most, e_not_not, e_not_both, e_not_either, e_not_always, e_not_sometime, e_not_until, e_both_least, e_both_most, e_both_not, e_both_both, e_both_either, e_both_always, e_both_sometime, e_both_until, e_either_least, e_either_most, e_either_not, e_either_both, e_either_either, e_either_always, e_either_sometime, e_either_until, e_always_least, e_always_most, e_always_not, e_always_both, e_always_either, e_always_always, e_always_sometime, e_always_until, e_sometime_least, e_sometime_most, e_sometime_not, e_sometime_both, e_sometime_either, e_sometime_always, e_sometime_sometime, e_sometime_until, e_until_least, e_until_most, e_until_not, e_until_both, e_until_either, e_until_always, e_until_sometime, e_until_until]
    · rw [if_neg h] at hr
      cases hr
      cases o <;> cases p <;> simp [fn_of_window, Sy.enc, encO, at0, eqS, eqI, z0, h, e_least_least, e_least_most, e_least_not, e_least_both, e_least_either, e_least_always, e_least_sometime, e_least_until, e_most_least, e_most_most, e_most_not, e_most_both, e_most_either, e_most_always, e_most_sometime, e_most_until, e_not_least, e_not_most, e_not_not, e_not_both, e_not_either, e_not_always, e_not_sometime, e_not_until, e_both_least, e_both_most, e_both_not, e_both_both, e_both_either, e_both_always, e_both_sometime, e_both_until, e_either_least, e_either_most, e_either_not, e_either_both, e_either_either, e_either_always, e_either_sometime, e_either_until, e_always_least, e_always_most, e_always_not, e_always_both, e_always_either, e_always_always, e_always_sometime, e_always_until, e_sometime_least, e_sometime_most, e_sometime_not, e_sometime_both, e_sometime_either, e_sometime_always, e_sometime_sometime, e_sometime_until, e_until_least, e_until_most, e_until_not, e_until_both, e_until_either, e_until_always, e_until_sometime, e_until_until]
  | unt a b =>
    have hr : (if f = 0 then some (some (Sy.unt a b)) else some none) = some r := hr
    by_cases h : f = 0
    · rw [if_pos h] at hr
      cases hr
      cases o <;> simp [fn_of_window, Sy.enc, encO, at0, eqS, eqI, z0, h, e_least_least, e_least_most, e_least_not, e_least_both, e_least_either, e_least_always, e_least_sometime, e_least_until, e_most_least, e_most_most, e_most_not, e_most_both, e_most_either, e_most_always, e_most_sometime, e_most_until, e_not_least, e_not_most, e_not_not, e_not_both, e_not_either, e_not_always, e_not_sometime, e_not_until, e_both_least, e_both_most, e_both_not, e_both_both, e_both_either, e_both_always, e_both_sometime, e_both_until, e_either_least, e_either_most, e_either_not, e_either_both, e_either_either, e_either_always, e_either_sometime, e_either_until, e_always_least, e_always_most, e_always_not, e_always_both, e_always_either, e_always_always, e_always_sometime, e_always_until, e_sometime_least, e_sometime_most, e_sometime_not, e_sometime_both, e_sometime_either, e_sometime_always, e_sometime_sometime, e_sometime_until, e_until_least, e_until_most, e_until_not, e_until_both, e_until_either, e_until_always, e_until_sometime, e_until_until]
    · rw [if_neg h] at hr
      cases hr
      cases o <;> simp [fn_of_window, Sy.enc, encO, at0, eqS, eqI, z0, h, e_least_least, e_least_most, e_least_not, e_least_both, e_least_either, e_least_always, e_least_sometime, e_least_until, e_most_least, e_most_most, e_most_not, e_most_both, e_most_either, e_most_always, e_most_sometime, e_most_until, e_not_least, e_not_most, e_not_not, e_not_both, e_not_either, e_not_always, e_not_sometime, e_not_until, e_both_least, e_both_most, e_both_not, e_both_both, e_both_either, e_both_always, e_both_sometime, e_both_until, e_either_least, e_either_most, e_either_not, e_either_both, e_either_either, e_either_always, e_either_sometime, e_either_until, e_always_least, e_always_most, e_always_not, e_always_both, e_always_either, e_always_always, e_always_sometime, e_always_until, e_sometime_least, e_sometime_most, e_sometime_not, e_sometime_both, e_sometime_either, e_sometime_always, e_sometime_sometime, e_sometime_until, e_until_least, e_until_most, e_until_not, e_until_both, e_until_either, e_until_always, e_until_sometime, e_until_until]
  | win p m g s =>
    have hr : (if o = p ∧ f + g ≤ 6 then some (some (Sy.win o (n + m) (f + g) s)) else if f = 0 then some (some (Sy.win p m g s)) else some none) = some r := hr
    have l6 : decide ((f : Int) + (g : Int) ≤ 6) = decide (f + g ≤ 6) := by
      by_cases h : f + g ≤ 6
      · rw [decide_eq_true h, decide_eq_true (by omega)]
      · rw [decide_eq_false h, decide_eq_false (by omega)]
    by_cases h : o = p ∧ f + g ≤ 6
    · rw [if_pos h] at hr
      cases hr
      obtain ⟨rfl, h⟩ := h
      cases o <;> simp [fn_of_window, Sy.enc, encO, at0, at1, at2, at3, eqS, eqI, z0, h, l6, e_least_least, e_least_most, e_least_not, e_least_both, e_least_either, e_least_always, e_least_sometime, e_least_until, e_most_least, e_most_most, e_most_not, e_most_both, e_most_either, e_most_always, e_most_sometime, e_most_until, e_not_least, e_not_most, e_not_not, e_not_both, e_not_either, e_not_always, e_not_sometime, e_not_until, e_both_least, e_both_most, e_both_not, e_both_both, e_both_either, e_both_always, e_both_sometime, e_both_until, e_either_least, e_either_most, e_either_not, e_either_both, e_either_either, e_either_always, e_either_sometime, e_either_until, e_always_least, e_always_most, e_always_not, e_always_both, e_always_either, e_always_always, e_always_sometime, e_always_until, e_sometime_least, e_sometime_most, e_sometime_not, e_sometime_both, e_sometime_either, e_sometime_always, e_sometime_sometime, e_sometime_until, e_until_least, e_until_most, e_until_not, e_until_both, e_until_either, e_until_always, e_until_sometime, e_until_until]
    · rw [if_neg h] at hr
      have hz : encO e r = (if f = 0 then (Sy.win p m g s).enc e else .non) := by
        by_cases h2 : f = 0
        · rw [if_pos h2] at hr ⊢
          cases hr
          rfl
        · rw [if_neg h2] at hr ⊢
          cases hr
          rfl
      rw [hz]
      by_cases hop : o = p
      · subst hop
        have h7 : ¬ f + g ≤ 6 := fun z => h ⟨rfl, z⟩
        have l7 : decide ((f : Int) + (g : Int) ≤ 6) = false := decide_eq_false (by omega)
        by_cases h2 : f = 0
        · have l9 : ¬ ((g : Int) ≤ 6) := by omega
          cases o <;> simp [fn_of_window, Sy.enc, at0, at2, eqS, eqI, z0, h2, l9, e_least_least, e_least_most, e_least_not, e_least_both, e_least_either, e_least_always, e_least_sometime, e_least_until, e_most_least, e_most_most, e_most_not, e_most_both, e_most_either, e_most_always, e_most_sometime, e_most_until, e_not_least, e_not_most, e_not_not, e_not_both, e_not_either, e_not_always, e_not_sometime, e_not_until, e_both_least, e_both_most, e_both_not, e_both_both, e_both_either, e_both_always, e_both_sometime, e_both_until, e_either_least, e_either_most, e_either_not, e_either_both, e_either_either, e_either_always, e_either_sometime, e_either_until, e_always_least, e_always_most, e_always_not, e_always_both, e_always_either, e_always_always, e_always_sometime, e_always_until, e_sometime_least, e_sometime_most, e_sometime_not, e_sometime_both, e_sometime_either, e_sometime_always, e_sometime_sometime, e_sometime_until, e_until_least, e_until_most, e_until_not, e_until_both, e_until_either, e_until_always, e_until_sometime, e_until_until]
        · have l8 : ¬ ((f : Int) + (g : Int) ≤ 6) := by omega
          cases o <;> simp [fn_of_window, Sy.enc, at0, at2, eqS, eqI, z0, l8, h2, e_least_least, e_least_most, e_least_not, e_least_both, e_least_either, e_least_always, e_least_sometime, e_least_until, e_most_least, e_most_most, e_most_not, e_most_both, e_most_either, e_most_always, e_most_sometime, e_most_until, e_not_least, e_not_most, e_not_not, e_not_both, e_not_either, e_not_always, e_not_sometime, e_not_until, e_both_least, e_both_most, e_both_not, e_both_both, e_both_either, e_both_always, e_both_sometime, e_both_until, e_either_least, e_either_most, e_either_not, e_either_both, e_either_either, e_either_always, e_either_sometime, e_either_until, e_always_least, e_always_most, e_always_not, e_always_both, e_always_either, e_always_always, e_always_sometime, e_always_until, e_sometime_least, e_sometime_most, e_sometime_not, e_sometime_both, e_sometime_either, e_sometime_always, e_sometime_sometime, e_sometime_until, e_until_least, e_until_most, e_until_not, e_until_both, e_until_either, e_until_always, e_until_sometime, e_until_until]
      · by_cases h2 : f = 0
        · cases o <;> cases p <;> simp at hop <;> simp [fn_of_window, Sy.enc, at0, at2, eqS, eqI, z0, h2, e_least_least, e_least_most, e_least_not, e_least_both, e_least_either, e_least_always, e_least_sometime, e_least_until, e_most_least, e_most_most, e_most_not, e_most_both, e_most_either, e_most_always, e_most_sometime, e_most_until, e_not_least, e_not_most, e_not_not, e_not_both, e_not_either, e_not_always, e_not_sometime, e_not_until, e_both_least, e_both_most, e_both_not, e_both_both, e_both_either, e_both_always, e_both_sometime, e_both_until, e_either_least, e_either_most, e_either_not, e_either_both, e_either_either, e_either_always, e_either_sometime, e_either_until, e_always_least, e_always_most, e_always_not, e_always_both, e_always_either, e_always_always, e_always_sometime, e_always_until, e_sometime_least, e_sometime_most, e_sometime_not, e_sometime_both, e_sometime_either, e_sometime_always, e_sometime_sometime, e_sometime_until, e_until_least, e_until_most, e_until_not, e_until_both, e_until_either, e_until_always, e_until_sometime, e_until_until]
        · cases o <;> cases p <;> simp at hop <;> simp [fn_of_window, Sy.enc, at0, at2, eqS, eqI, z0, h2, e_least_least, e_least_most, e_least_not, e_least_both, e_least_either, e_least_always, e_least_sometime, e_least_until, e_most_least, e_most_most, e_most_not, e_most_both, e_most_either, e_most_always, e_most_sometime, e_most_until, e_not_least, e_not_most, e_not_not, e_not_both, e_not_either, e_not_always, e_not_sometime, e_not_until, e_both_least, e_both_most, e_both_not, e_both_both, e_both_either, e_both_always, e_both_sometime, e_both_until, e_either_least, e_either_most, e_either_not, e_either_both, e_either_either, e_either_always, e_either_sometime, e_either_until, e_always_least, e_always_most, e_always_not, e_always_both, e_always_either, e_always_always, e_always_sometime, e_always_until, e_sometime_least, e_sometime_most, e_sometime_not, e_sometime_both, e_sometime_either, e_sometime_always, e_sometime_sometime, e_sometime_until, e_until_least, e_until_most, e_until_not, e_until_both, e_until_either, e_until_always, e_until_sometime, e_until_until]
theorem tab_exch : hd.tab "exchanged" = some fn_exchanged := rfl
theorem dat_enc (e : Nm) (s : Sy) (h : s.dep ≤ 50) : datV (s.enc e) = true := by
  unfold datV
  rw [enc_dep]
  exact decide_eq_true (by omega)
theorem exch_ok (e : Nm) (hAB : e.A ≠ e.B) (s : Sy) (r : Option Sy) (hr : Sy.exch s = some r) (d : Nat) (S : Store) : callF sg0 hd.tab (d + 4) "exchanged" [s.enc e] S = .ok (encO e r) S := by
  rw [call_eq tab_exch rfl]
  cases s with
  | at_ w up =>
    cases hr
    cases up <;> simp [fn_exchanged, Sy.enc, encO, at0, at1, at2, c_at_least, c_pr_least, c_wd_least, c_at_most, c_pr_most, c_wd_most, c_at_not, c_pr_not, c_wd_not, c_at_both, c_pr_both, c_wd_both, c_at_either, c_pr_either, c_wd_either, c_at_always, c_pr_always, c_wd_always, c_at_sometime, c_pr_sometime, c_wd_sometime, c_at_until, c_pr_until, c_wd_until, c_eq_not_least, c_eq_until_least, c_eq_not_most, c_eq_until_most, c_eq_not_not, c_eq_until_not, c_eq_not_both, c_eq_until_both, c_eq_not_either, c_eq_until_either, c_eq_not_always, c_eq_until_always, c_eq_not_sometime, c_eq_until_sometime, c_eq_not_until, c_eq_until_until]
  | nt s =>
    have z := ofnot_ok e s r hr (d + 1) S
    simp [fn_exchanged, Sy.enc, at0, at1, at2, z, c_at_least, c_pr_least, c_wd_least, c_at_most, c_pr_most, c_wd_most, c_at_not, c_pr_not, c_wd_not, c_at_both, c_pr_both, c_wd_both, c_at_either, c_pr_either, c_wd_either, c_at_always, c_pr_always, c_wd_always, c_at_sometime, c_pr_sometime, c_wd_sometime, c_at_until, c_pr_until, c_wd_until, c_eq_not_least, c_eq_until_least, c_eq_not_most, c_eq_until_most, c_eq_not_not, c_eq_until_not, c_eq_not_both, c_eq_until_both, c_eq_not_either, c_eq_until_either, c_eq_not_always, c_eq_until_always, c_eq_not_sometime, c_eq_until_sometime, c_eq_not_until, c_eq_until_until]
  | win o n f s =>
    have z := ofwin_ok e o n f s r hr (d + 2) S
    cases o <;> simp [Sy.enc] at z <;> simp [fn_exchanged, Sy.enc, at0, at1, at2, z, c_at_least, c_pr_least, c_wd_least, c_at_most, c_pr_most, c_wd_most, c_at_not, c_pr_not, c_wd_not, c_at_both, c_pr_both, c_wd_both, c_at_either, c_pr_either, c_wd_either, c_at_always, c_pr_always, c_wd_always, c_at_sometime, c_pr_sometime, c_wd_sometime, c_at_until, c_pr_until, c_wd_until, c_eq_not_least, c_eq_until_least, c_eq_not_most, c_eq_until_most, c_eq_not_not, c_eq_until_not, c_eq_not_both, c_eq_until_both, c_eq_not_either, c_eq_until_either, c_eq_not_always, c_eq_until_always, c_eq_not_sometime, c_eq_until_sometime, c_eq_not_until, c_eq_until_until]
  | unt a b =>
    cases hr
    simp [fn_exchanged, Sy.enc, encO, at0, at1, at2, c_at_least, c_pr_least, c_wd_least, c_at_most, c_pr_most, c_wd_most, c_at_not, c_pr_not, c_wd_not, c_at_both, c_pr_both, c_wd_both, c_at_either, c_pr_either, c_wd_either, c_at_always, c_pr_always, c_wd_always, c_at_sometime, c_pr_sometime, c_wd_sometime, c_at_until, c_pr_until, c_wd_until, c_eq_not_least, c_eq_until_least, c_eq_not_most, c_eq_until_most, c_eq_not_not, c_eq_until_not, c_eq_not_both, c_eq_until_both, c_eq_not_either, c_eq_until_either, c_eq_not_always, c_eq_until_always, c_eq_not_sometime, c_eq_until_sometime, c_eq_not_until, c_eq_until_until]
  | two o a b =>
    have hr : (if a.dep ≤ 50 ∧ b.dep ≤ 50 then (if a = b then some (some a) else some none) else none) = some r := hr
    by_cases h : a.dep ≤ 50 ∧ b.dep ≤ 50
    · rw [if_pos h] at hr
      have z : cmpV .eq (a.enc e) (b.enc e) = some (decide (a = b)) := by
        unfold cmpV
        simp only [dat_enc e a h.1, dat_enc e b h.2, Bool.and_self, if_true]
        rw [enc_eq e hAB]
      by_cases h2 : a = b
      · rw [if_pos h2] at hr
        cases hr
        subst h2
        rw [decide_eq_true rfl] at z
        cases o <;> simp [fn_exchanged, Sy.enc, encO, at0, at1, at2, z, c_at_least, c_pr_least, c_wd_least, c_at_most, c_pr_most, c_wd_most, c_at_not, c_pr_not, c_wd_not, c_at_both, c_pr_both, c_wd_both, c_at_either, c_pr_either, c_wd_either, c_at_always, c_pr_always, c_wd_always, c_at_sometime, c_pr_sometime, c_wd_sometime, c_at_until, c_pr_until, c_wd_until, c_eq_not_least, c_eq_until_least, c_eq_not_most, c_eq_until_most, c_eq_not_not, c_eq_until_not, c_eq_not_both, c_eq_until_both, c_eq_not_either, c_eq_until_either, c_eq_not_always, c_eq_until_always, c_eq_not_sometime, c_eq_until_sometime, c_eq_not_until, c_eq_until_until]
      · rw [if_neg h2] at hr
        cases hr
        cases o <;> simp [fn_exchanged, Sy.enc, encO, at0, at1, at2, z, h2, c_at_least, c_pr_least, c_wd_least, c_at_most, c_pr_most, c_wd_most, c_at_not, c_pr_not, c_wd_not, c_at_both, c_pr_both, c_wd_both, c_at_either, c_pr_either, c_wd_either, c_at_always, c_pr_always, c_wd_always, c_at_sometime, c_pr_sometime, c_wd_sometime, c_at_until, c_pr_until, c_wd_until, c_eq_not_least, c_eq_until_least, c_eq_not_most, c_eq_until_most, c_eq_not_not, c_eq_until_not, c_eq_not_both, c_eq_until_both, c_eq_not_either, c_eq_until_either, c_eq_not_always, c_eq_until_always, c_eq_not_sometime, c_eq_until_sometime, c_eq_not_until, c_eq_until_until]
    · rw [if_neg h] at hr
      cases hr
end LawK21

end
section
set_option linter.all false
set_option maxRecDepth 100000
/-! K21r: plainer. -/
namespace LawK21
open PySem Pi
theorem tab_plainer : hd.tab "plainer" = some fn_plainer := rfl
theorem isN_enc (e : Nm) (s : Sy) : isN (s.enc e) = false := by cases s <;> rfl
theorem tail_ok (e : Nm) (hAB : e.A ≠ e.B) {s r : Sy} {q : Option Sy} {n k : Nat} (hr : (match q with | none => some s | some f => Sy.plain n f) = some r) (hq : s.exch = some q)
    (ih : ∀ (s r : Sy), Sy.plain n s = some r → ∀ S, callF sg0 hd.tab (k + 4) "plainer" [s.enc e] S = .ok (r.enc e) S) (b c : Option Val) (S : Store) :
    finO (evSs sg0 (callF sg0 hd.tab (k + 4)) [.asg (.v 3) (.call "exchanged" [(.lv 0)]), .ret (.ite (.cmp .isn (.lv 3) (.cst .non)) (.lv 0) (.call "plainer" [(.lv 3)]))] [some (s.enc e), b, c, none] S) = .ok (r.enc e) S := by
  have z := exch_ok e hAB s q hq k S
  cases q with
  | none =>
    cases hr
    simp [z, encO, isN]
  | some f =>
    have y := ih f r hr S
    simp [z, encO, isN_enc, y]
theorem plainer_ok (e : Nm) (hAB : e.A ≠ e.B) : ∀ (n : Nat) (s r : Sy), Sy.plain n s = some r → ∀ (d : Nat) (S : Store), n + 4 ≤ d → callF sg0 hd.tab d "plainer" [s.enc e] S = .ok (r.enc e) S := by
  intro n
  induction n with
  | zero => intro s r h; cases h
  | succ n ih =>
    intro s r h d S hd'
    obtain ⟨k, rfl⟩ : ∃ k, d = k + 4 + 1 := ⟨d - 5, by omega⟩
    have ih2 : ∀ (s r : Sy), Sy.plain n s = some r → ∀ S, callF sg0 hd.tab (k + 4) "plainer" [s.enc e] S = .ok (r.enc e) S := fun s r h S => ih s r h (k + 4) S (by omega)
    rw [call_eq tab_plainer rfl]
    have i0 := inner_ok e s (k + 3) S
    unfold Sy.plain at h
    cases s with
    | at_ w up =>
      simp only [Option.bind_some] at h
      obtain ⟨q, h1, h2⟩ := Option.bind_eq_some_iff.mp h
      have t := fun b c => tail_ok e hAB h2 h1 ih2 b c S
      simp [Sy.inner] at i0
      simp [fn_plainer, i0]
      simpa using t _ _
    | nt s =>
      obtain ⟨s', h0, h⟩ := Option.bind_eq_some_iff.mp h
      obtain ⟨s1, h3, rfl⟩ := Option.map_eq_some_iff.mp h0
      obtain ⟨q, h1, h2⟩ := Option.bind_eq_some_iff.mp h
      have t := tail_ok e hAB h2 h1 ih2 (some (.lst [s.enc e])) none S
      have y := ih2 s s1 h3
      simp [Sy.inner, Sy.enc] at i0
      simp [fn_plainer, i0, itV, compGo, compF, wipeE, Pat.vars, y, lim, addT, Sy.enc, cutL, sIx]
      simpa [Sy.enc] using t
    | two o a b =>
      obtain ⟨s', h0, h⟩ := Option.bind_eq_some_iff.mp h
      obtain ⟨a1, h3, h0⟩ := Option.bind_eq_some_iff.mp h0
      obtain ⟨b1, h4, rfl⟩ := Option.map_eq_some_iff.mp h0
      obtain ⟨q, h1, h2⟩ := Option.bind_eq_some_iff.mp h
      have t := tail_ok e hAB h2 h1 ih2 (some (.lst [a.enc e, b.enc e])) none S
      have y := ih2 a a1 h3
      have z := ih2 b b1 h4
      simp [Sy.inner, Sy.enc] at i0
      simp [fn_plainer, i0, itV, compGo, compF, wipeE, Pat.vars, y, z, lim, addT, Sy.enc, cutL, sIx]
      simpa [Sy.enc] using t
    | win o p f s =>
      obtain ⟨s', h0, h⟩ := Option.bind_eq_some_iff.mp h
      obtain ⟨s1, h3, rfl⟩ := Option.map_eq_some_iff.mp h0
      obtain ⟨q, h1, h2⟩ := Option.bind_eq_some_iff.mp h
      have t := tail_ok e hAB h2 h1 ih2 (some (.lst [s.enc e])) none S
      have y := ih2 s s1 h3
      simp [Sy.inner, Sy.enc] at i0
      simp [fn_plainer, i0, itV, compGo, compF, wipeE, Pat.vars, y, lim, addT, Sy.enc, cutL, sIx]
      simpa [Sy.enc] using t
    | unt a b =>
      obtain ⟨s', h0, h⟩ := Option.bind_eq_some_iff.mp h
      obtain ⟨a1, h3, h0⟩ := Option.bind_eq_some_iff.mp h0
      obtain ⟨b1, h4, rfl⟩ := Option.map_eq_some_iff.mp h0
      obtain ⟨q, h1, h2⟩ := Option.bind_eq_some_iff.mp h
      have t := tail_ok e hAB h2 h1 ih2 (some (.lst [a.enc e, b.enc e])) none S
      have y := ih2 a a1 h3
      have z := ih2 b b1 h4
      simp [Sy.inner, Sy.enc] at i0
      simp [fn_plainer, i0, itV, compGo, compF, wipeE, Pat.vars, y, z, lim, addT, Sy.enc, cutL, sIx]
      simpa [Sy.enc] using t
end LawK21

end
section
set_option linter.all false
set_option maxRecDepth 100000
/-! K21s: the rows. -/
namespace LawK21
open PySem Pi
def rows : List (Sy × Sy) := [((Sy.at_ false false), (Sy.at_ false false)),
  ((Sy.nt (Sy.at_ false false)), (Sy.at_ false true)),
  ((Sy.nt (Sy.at_ false true)), (Sy.at_ false false)),
  ((Sy.nt (Sy.unt (Sy.at_ false false) (Sy.at_ true true))), (Sy.nt (Sy.unt (Sy.at_ false false) (Sy.at_ true true)))),
  ((Sy.nt (Sy.nt (Sy.unt (Sy.at_ false false) (Sy.at_ true true)))), (Sy.unt (Sy.at_ false false) (Sy.at_ true true))),
  ((Sy.nt (Sy.nt (Sy.nt (Sy.at_ false false)))), (Sy.at_ false true)),
  ((Sy.nt (Sy.two false (Sy.at_ false false) (Sy.at_ true false))), (Sy.two true (Sy.at_ false true) (Sy.at_ true true))),
  ((Sy.nt (Sy.two true (Sy.at_ false false) (Sy.at_ true true))), (Sy.two false (Sy.at_ false true) (Sy.at_ true false))),
  ((Sy.nt (Sy.win false 1 2 (Sy.at_ false false))), (Sy.win true 1 2 (Sy.at_ false true))),
  ((Sy.nt (Sy.win true 1 2 (Sy.unt (Sy.at_ false false) (Sy.at_ true true)))), (Sy.win false 1 2 (Sy.nt (Sy.unt (Sy.at_ false false) (Sy.at_ true true))))),
  ((Sy.win false 1 2 (Sy.win false 0 4 (Sy.at_ false false))), (Sy.win false 1 6 (Sy.at_ false false))),
  ((Sy.win false 1 3 (Sy.win false 0 4 (Sy.at_ false false))), (Sy.win false 1 3 (Sy.win false 0 4 (Sy.at_ false false)))),
  ((Sy.win true 2 3 (Sy.win true 1 3 (Sy.at_ false false))), (Sy.win true 3 6 (Sy.at_ false false))),
  ((Sy.win false 0 2 (Sy.win true 0 2 (Sy.at_ false false))), (Sy.win false 0 2 (Sy.win true 0 2 (Sy.at_ false false)))),
  ((Sy.win false 0 0 (Sy.unt (Sy.at_ false false) (Sy.at_ true true))), (Sy.unt (Sy.at_ false false) (Sy.at_ true true))),
  ((Sy.win true 0 0 (Sy.at_ false true)), (Sy.at_ false true)),
  ((Sy.win false 0 1 (Sy.at_ false false)), (Sy.win false 0 1 (Sy.at_ false false))),
  ((Sy.two false (Sy.at_ false false) (Sy.at_ false false)), (Sy.at_ false false)),
  ((Sy.two false (Sy.at_ false false) (Sy.nt (Sy.at_ false true))), (Sy.at_ false false)),
  ((Sy.two true (Sy.unt (Sy.at_ false false) (Sy.at_ true true)) (Sy.nt (Sy.nt (Sy.unt (Sy.at_ false false) (Sy.at_ true true))))), (Sy.unt (Sy.at_ false false) (Sy.at_ true true))),
  ((Sy.nt (Sy.two false (Sy.nt (Sy.at_ false false)) (Sy.at_ false true))), (Sy.at_ false false)),
  ((Sy.two false (Sy.at_ false false) (Sy.at_ true false)), (Sy.two false (Sy.at_ false false) (Sy.at_ true false))),
  ((Sy.two true (Sy.two false (Sy.at_ false false) (Sy.at_ true true)) (Sy.two false (Sy.at_ true true) (Sy.at_ false false))), (Sy.two true (Sy.two false (Sy.at_ false false) (Sy.at_ true true)) (Sy.two false (Sy.at_ true true) (Sy.at_ false false)))),
  ((Sy.unt (Sy.nt (Sy.at_ false false)) (Sy.two false (Sy.at_ true true) (Sy.at_ true true))), (Sy.unt (Sy.at_ false true) (Sy.at_ true true))),
  ((Sy.win true 1 1 (Sy.nt (Sy.win false 2 2 (Sy.at_ false false)))), (Sy.win true 3 3 (Sy.at_ false true))),
  ((Sy.nt (Sy.win true 1 1 (Sy.nt (Sy.win false 2 2 (Sy.at_ false false))))), (Sy.win false 3 3 (Sy.at_ false false))),
  ((Sy.win false 2 2 (Sy.win false 2 2 (Sy.win false 2 2 (Sy.at_ false false)))), (Sy.win false 6 6 (Sy.at_ false false))),
  ((Sy.win false 0 3 (Sy.win false 0 3 (Sy.win false 0 3 (Sy.at_ false false)))), (Sy.win false 0 3 (Sy.win false 0 6 (Sy.at_ false false)))),
  ((Sy.nt (Sy.win false 0 5 (Sy.two false (Sy.unt (Sy.at_ false false) (Sy.at_ true true)) (Sy.unt (Sy.at_ false true) (Sy.at_ true false))))), (Sy.win true 0 5 (Sy.two true (Sy.nt (Sy.unt (Sy.at_ false false) (Sy.at_ true true))) (Sy.nt (Sy.unt (Sy.at_ false true) (Sy.at_ true false))))))]
theorem rows_ok : (rows.all fun q => decide (Sy.plain 40 q.1 = some q.2) && decide (Sy.plain 40 q.2 = some q.2) && decide (q.1.dep ≤ 20) && decide (q.2.dep ≤ 20)) = true := by decide +kernel
theorem tab_known : hd.tab "_law_known" = some fn__law_known := rfl
theorem addL {a b : List Val} (h : a.length + b.length ≤ 64) : binV .add (.lst a) (.lst b) = some (.lst (a ++ b)) := bv_addL (Nat.le_trans h limk)
theorem known_ok (e : Nm) (d : Nat) (S : Store) : callF sg0 hd.tab (d + 1) "_law_known" [.tup [.str e.A, .int e.t], .tup [.str e.B, .int e.u], .int e.n, .int (e.n + 1)] S = .ok (.lst (rows.map fun q => .tup [q.1.enc e, q.2.enc e])) S := by
  rw [call_eq tab_known rfl]
  kernel_rfl
end LawK21

end
section
set_option linter.all false
set_option maxRecDepth 100000
/-! K21t: is_plain. -/
namespace LawK21
open PySem Pi
theorem tab_isplain : hd.tab "is_plain" = some fn_is_plain := rfl
theorem eq_enc (e : Nm) (hAB : e.A ≠ e.B) (a b : Sy) (ha : a.dep ≤ 50) (hb : b.dep ≤ 50) : cmpV .eq (a.enc e) (b.enc e) = some (decide (a = b)) := by
  unfold cmpV
  simp only [dat_enc e a ha, dat_enc e b hb, Bool.and_self, if_true]
  rw [enc_eq e hAB]
theorem isplain_ok (e : Nm) (hAB : e.A ≠ e.B) (n : Nat) (s r : Sy) (h : Sy.plain n s = some r) (hs : s.dep ≤ 50) (hr : r.dep ≤ 50) (d : Nat) (S : Store) (hd' : n + 4 ≤ d) : callF sg0 hd.tab (d + 1) "is_plain" [s.enc e] S = .ok (.bl (decide (r = s))) S := by
  rw [call_eq tab_isplain rfl]
  have z := plainer_ok e hAB n s r h d S hd'
  have y := eq_enc e hAB r s hr hs
  simp [fn_is_plain, z, y]
end LawK21

end
section
set_option linter.all false
set_option maxRecDepth 100000
/-! K21u: the end. -/
namespace LawK21
open PySem Pi
theorem t_take : hd.tab "_law_take" = some Co.fn__law_take := rfl
theorem t_named : hd.tab "_law_named" = some Co.fn__law_named := rfl
theorem t_same : hd.tab "_law_same" = some Co.fn__law_same := rfl
theorem t_dip : hd.tab "_law_dip" = some Co.fn__law_dip := rfl
theorem t_folded : hd.tab "_law_folded" = some Co.fn__law_folded := rfl
theorem t_right : hd.tab "_law_right" = some fn__law_right := rfl
theorem t_law : hd.tab "law" = some fn_law := rfl
theorem good_up : ∀ {n : Nat} {v : Val}, goodV n v = true → goodV (n + 1) v = true
  | n, .non, _ => by cases n <;> rfl
  | n, .bl _, _ => by cases n <;> rfl
  | n, .int _, _ => by cases n <;> rfl
  | n, .str _, _ => by cases n <;> rfl
  | 0, .tup l, h => by cases h
  | n + 1, .tup l, h => by
    have h : (decide (l.length ≤ lim) && l.all (goodV n)) = true := h
    show (decide (l.length ≤ lim) && l.all (goodV (n + 1))) = true
    rw [Bool.and_eq_true] at h ⊢
    exact ⟨h.1, List.all_eq_true.mpr fun x hx => good_up (List.all_eq_true.mp h.2 x hx)⟩
  | 0, .lst l, h => by cases h
  | n + 1, .lst l, h => by
    have h : (decide (l.length ≤ lim) && l.all (goodV n)) = true := h
    show (decide (l.length ≤ lim) && l.all (goodV (n + 1))) = true
    rw [Bool.and_eq_true] at h ⊢
    exact ⟨h.1, List.all_eq_true.mpr fun x hx => good_up (List.all_eq_true.mp h.2 x hx)⟩
  | 0, .loc _, h => by cases h
  | n + 1, .loc _, h => by cases h
  | 0, .exn _ _, h => by cases h
  | n + 1, .exn _ _, h => by cases h
theorem good_le {n m : Nat} {v : Val} (h : goodV n v = true) (hnm : n ≤ m) : goodV m v = true := by
  induction hnm with
  | refl => exact h
  | step _ ih => exact good_up ih
theorem good_tup {n : Nat} {l : List Val} (hl : l.length ≤ 64) (h : ∀ x ∈ l, goodV n x = true) : goodV (n + 1) (.tup l) = true := by
  show (decide (l.length ≤ lim) && l.all (goodV n)) = true
  rw [Bool.and_eq_true]
  exact ⟨decide_eq_true (by show _ ≤ 16777216; omega), List.all_eq_true.mpr h⟩
theorem good_enc (e : Nm) : ∀ s : Sy, goodV s.dep (s.enc e) = true := by
  intro s
  induction s with
  | at_ w up => exact good_tup (n := 0) (by simp) (by simp [goodV])
  | nt s ih => exact good_tup (by simp) (by simp [ih]; exact good_le (n := 0) rfl (Nat.zero_le _))
  | two o a b iha ihb =>
    have h1 := good_le iha (Nat.le_max_left a.dep b.dep)
    have h2 := good_le ihb (Nat.le_max_right a.dep b.dep)
    exact good_tup (by simp) (by simp [h1, h2]; exact good_le (n := 0) rfl (Nat.zero_le _))
  | win o n f s ih => exact good_tup (by simp) (by simp [ih]; exact ⟨good_le (n := 0) rfl (Nat.zero_le _), good_le (n := 0) rfl (Nat.zero_le _), good_le (n := 0) rfl (Nat.zero_le _)⟩)
  | unt a b iha ihb =>
    have h1 := good_le iha (Nat.le_max_left a.dep b.dep)
    have h2 := good_le ihb (Nat.le_max_right a.dep b.dep)
    exact good_tup (by simp) (by simp [h1, h2]; exact ⟨good_le (n := 0) rfl (Nat.zero_le _), good_le (n := 0) rfl (Nat.zero_le _), good_le (n := 0) rfl (Nat.zero_le _)⟩)
theorem same_bl (b : Bool) (d : Nat) (S : Store) : callF sg0 hd.tab (d + 2) "_law_same" [.bl b, .bl b] S = .ok (.bl true) S := same_ok t_same 0 rfl (by omega)
def rB : List IS := [.ite (.or [(.not (.call "_law_same" [(.call "plainer" [(.lv 5)]), (.lv 6)])), (.not (.call "_law_same" [(.call "is_plain" [(.lv 5)]), (.cmp .eq (.lv 5) (.lv 6))])), (.cmp .nisb (.call "is_plain" [(.lv 6)]) (.cst (.bl true)))]) [.ret (.cst (.bl false))] [], .ite (.not (.call "_law_same" [(.call "plainer" [(.call "plainer" [(.lv 5)])]), (.lv 6)])) [.ret (.cst (.bl false))] []]
theorem rB_eq : [.ite (.or [(.not (.call "_law_same" [(.call "plainer" [(.lv 5)]), (.lv 6)])), (.not (.call "_law_same" [(.call "is_plain" [(.lv 5)]), (.cmp .eq (.lv 5) (.lv 6))])), (.cmp .nisb (.call "is_plain" [(.lv 6)]) (.cst (.bl true)))]) [.ret (.cst (.bl false))] [], .ite (.not (.call "_law_same" [(.call "plainer" [(.call "plainer" [(.lv 5)])]), (.lv 6)])) [.ret (.cst (.bl false))] []] = rB := rfl
theorem right_ok {n m : Nat} {S : Store} (b : Box S n m) (hm : m < 1000) : ∃ S', callF sg0 hd.tab 99 "_law_right" [.loc n] S = .ok (.bl true) S' := by
  rw [call_eq t_right rfl]
  obtain ⟨xs, S1, n1, n2, n3, n4, b1, sm1⟩ := named_ok (sg := sg0) (d := 96) t_take t_named b (k := 2) (by omega) (by omega)
  obtain ⟨A, B, rfl⟩ : ∃ A B, xs = [A, B] := by
    match xs, n2 with
    | [A, B], _ => exact ⟨A, B, rfl⟩
  have hAB : A ≠ B := by
    intro e
    subst e
    simp at n3
  obtain ⟨r1, S2, d1, dl1, b2, sm2⟩ := draw (sg := sg0) (d := 97) t_take b1 (by omega) 6 (by omega) (by omega)
  obtain ⟨r2, S3, d2, dl2, b3, sm3⟩ := draw (sg := sg0) (d := 97) t_take b2 (by omega) 199 (by omega) (by omega)
  obtain ⟨r3, S4, d3, dl3, b4, sm4⟩ := draw (sg := sg0) (d := 97) t_take b3 (by omega) 199 (by omega) (by omega)
  simp only [Int.cast_ofNat_Int] at n1 d1 d2 d3
  let e : Nm := ⟨A, B, (r2 : Int) - 99, (r3 : Int) - 99, r1⟩
  have hk := known_ok e 97 S4
  have a0 : atI [Val.str A, .str B] 0 = some (.str A) := rfl
  have a1 : atI [Val.str A, .str B] 1 = some (.str B) := rfl
  have loop := forGo_inv (f := forF sg0 (callF sg0 hd.tab 98) (.tup [.v 5, .v 6]) rB) (P := fun _ ρ _ => ∃ q0 q1 q2 q3 q4 q5 q6, ρ = [q0, q1, q2, q3, q4, q5, q6]) (l := rows.map fun q => .tup [q.1.enc e, q.2.enc e]) (k := 0)
      (ρ := [some (.loc n), some (.lst [.str A, .str B]), some (.int r1), some (.tup [.str A, .int ((r2 : Int) - 99)]), some (.tup [.str B, .int ((r3 : Int) - 99)]), none, none]) (S := S4) (fun i v ρ S hi hP => by
    obtain ⟨q0, q1, q2, q3, q4, q5, q6, rfl⟩ := hP
    rw [List.getElem?_map] at hi
    obtain ⟨q, hq, rfl⟩ := Option.map_eq_some_iff.mp hi
    have hr := List.all_eq_true.mp rows_ok q (List.mem_of_getElem? hq)
    rw [Bool.and_eq_true, Bool.and_eq_true, Bool.and_eq_true, decide_eq_true_eq, decide_eq_true_eq, decide_eq_true_eq, decide_eq_true_eq] at hr
    obtain ⟨⟨⟨h1, h2⟩, h3⟩, h4⟩ := hr
    have p1 := plainer_ok e hAB 40 q.1 q.2 h1 98 S (by omega)
    have p2 := plainer_ok e hAB 40 q.2 q.2 h2 98 S (by omega)
    have i1 := isplain_ok e hAB 40 q.1 q.2 h1 (by omega) (by omega) 97 S (by omega)
    have i2 := isplain_ok e hAB 40 q.2 q.2 h2 (by omega) (by omega) 97 S (by omega)
    have e1 := eq_enc e hAB q.1 q.2 (by omega) (by omega)
    have ed : decide (q.2 = q.1) = decide (q.1 = q.2) := by
      by_cases z : q.1 = q.2
      · rw [z]
      · have : ¬ q.2 = q.1 := fun y => z y.symm
        simp [z, this]
    rw [ed] at i1
    have s1 : callF sg0 hd.tab 98 "_law_same" [q.2.enc e, q.2.enc e] S = .ok (.bl true) S := same_ok t_same q.2.dep (good_enc e q.2) (by omega)
    have s2 := same_bl (decide (q.1 = q.2)) 96 S
    have nb : cmpV .nisb (.bl true) (.bl true) = some false := rfl
    simp only [decide_true] at i2
    refine ⟨_, S, .inl ?_, q0, q1, q2, q3, q4, some (q.1.enc e), some (q.2.enc e), rfl⟩
    rw [forF_eq (ρ' := [q0, q1, q2, q3, q4, some (q.1.enc e), some (q.2.enc e)]) (by simp)]
    simp -implicitDefEqProofs [rB, p1, p2, i1, i2, e1, s1, s2, nb]) ⟨_, _, _, _, _, _, _, rfl⟩
  obtain ⟨ρ', S', l1, _⟩ := loop
  refine ⟨S', ?_⟩
  simp [e] at hk l1
  unfold fn__law_right
  rw [rB_eq]
  simp -implicitDefEqProofs [parE, n1, d1, d2, d3, a0, a1, itV, hk, l1]
theorem all_ok (ns : List Int) (hn : ns.length ≤ 63) : ∃ S', callF sg0 hd.tab 100 "law" [.loc 0] [.ro (ns.map .int)] = .ok (.bl true) S' := by
  rw [call_eq t_law rfl]
  obtain ⟨cs, hc, f1⟩ := folded_ok (sg := sg0) (d := 98) (sz := 4) (ns := ns) (S := [.ro (ns.map .int)]) t_folded rfl (by omega) (by omega)
  obtain ⟨w, hw, hw2⟩ : ∃ w : Nat, biV [.ro (ns.map .int)] .max2 [.int 1, .int (cs.map Val.int).length] = some (.int w) ∧ w ≤ 4 := by
    simp
    by_cases z : (1 : Int) < cs.length
    · exact ⟨cs.length, by rw [if_pos z], hc⟩
    · exact ⟨1, by rw [if_neg z]; rfl, by omega⟩
  have hit := it1 [.ro (ns.map .int)] w (by omega)
  have comp := compGo_one (f := compF sg0 (callF sg0 hd.tab 99) (.v 2) [] (.call "_law_right" [(.call "_law_dip" [(.lv 1), (.lv 2)])]) [some (.loc 0), some (.lst (cs.map .int)), none])
    (P := fun _ _ => True) (R := fun _ z => z = Val.bl true) (l := rangeL 0 w) (k := 0) (S := [.ro (ns.map .int)]) (fun i v S hi _ => by
      obtain ⟨hiw, rfl⟩ := range_get hi
      obtain ⟨S1, d1, b1⟩ := dip_ok (sg := sg0) (d := 98) (k := i) (cs := cs) (S := S) t_dip (by omega)
      obtain ⟨S2, r1⟩ := right_ok b1 (by omega)
      refine ⟨_, S2, ?_, trivial, rfl⟩
      simp [compF, wipeE, Pat.vars, d1, r1]) trivial
  obtain ⟨zs, S', c1, _, c3, c4⟩ := comp
  rw [range_len] at c3
  have hle : zs.length ≤ lim := by show _ ≤ 16777216; omega
  refine ⟨S', ?_⟩
  have hall := all_true (S := S') fun i z h => c4 i z h
  simp only [Int.cast_ofNat_Int] at f1
  simp [fn_law, f1] at hw ⊢
  simp [hw, hit, c1, hle, hall]
end LawK21

end
theorem PySem.Challenge.cw_holdmargins_k21_known_plainer_forms_holds : PySem.Challenge.rw_holdmargins_k21_known_plainer_forms.Holds := by
  exact law_LawK21 LawK21.all_ok
