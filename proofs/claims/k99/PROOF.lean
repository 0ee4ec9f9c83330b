import PyProof.Rows.All
import Wide.All
import OpenK.AllK
import Wide.FinOn
import HandS.ForMost
import HandS.Exc
import HandS.TryOnly
import HandS.TryMany
import HandS.WordsExc
import HandS.ExcInit
import HandS.ExcField
import HandS.IsInst
import HandS.Flow
import HandS.TupAny
import HandS.Deep
import HandS.Wide
import HandS.EndBits
import HandS.Conv
import HandS.RaiseMore
import HandS.Zip
import PySem.Challenge.RW_cutworths_k99_results_are_equal_by_class
set_option autoImplicit false
set_option Elab.async false
set_option linter.all false
set_option maxRecDepth 100000
set_option maxHeartbeats 4000000
/-! DV: plain data, own terms, what they mean (no heap). -/
namespace DV
open PySem L2
/-- plain data -/
inductive D where
  | non | bl (b : Bool) | int (i : Int) | str (x : Str)
  | tup (xs : List D) | lst (xs : List D)
  | ins (c : Nat) (ns : List Nat) (vs : List D)
  | hand
inductive Slot where
  | val (d : D) | own (ds : List D) | ownI (c : Nat) (all ns : List Nat) (vs : List D) | mat (rs : List (List D)) | exc (x : D)
def Slot.ow : Slot → Bool
  | .own _ => true
  | .ownI _ _ _ _ => true
  | .mat _ => true
  | _ => false
def Slot.mt : Slot → Bool
  | .mat _ => true
  | _ => false
abbrev Env := List (Option Slot)
abbrev W (α : Type) := (α → Prop) → (D → Prop) → Prop
def ret {α : Type} (a : α) : W α := fun Q _ => Q a
def bnd {α β : Type} (w : W α) (k : α → W β) : W β := fun Q E => w (fun a => k a Q E) E
def fail {α : Type} : W α := fun _ _ => False
def req {α : Type} (p : Prop) (w : W α) : W α := fun Q E => p ∧ w Q E
/-- nothing is raised -/
def nox {α : Type} (w : W α) : W α := fun Q _ => w Q fun _ => False
mutual
/-- no list, no instance, no hand within -/
def noRef : D → Bool
  | .non => true | .bl _ => true | .int _ => true | .str _ => true
  | .tup xs => noRefs xs
  | .lst _ => false | .ins _ _ _ => false | .hand => false
def noRefs : List D → Bool
  | [] => true
  | x :: xs => noRef x && noRefs xs
end
mutual
/-- as the library's data (instances and the hand are none) -/
def toP : D → PyData
  | .non => .none | .bl b => .bool b | .int i => .int i | .str x => .str x
  | .tup xs => .tuple (toPs xs)
  | .lst xs => .list (toPs xs)
  | .ins _ _ _ => .none | .hand => .none
def toPs : List D → List PyData
  | [] => []
  | x :: xs => toP x :: toPs xs
end
mutual
/-- no instance, no hand within -/
def isP : D → Bool
  | .non => true | .bl _ => true | .int _ => true | .str _ => true
  | .tup xs => isPs xs
  | .lst xs => isPs xs
  | .ins _ _ _ => false | .hand => false
def isPs : List D → Bool
  | [] => true
  | x :: xs => isP x && isPs xs
end
mutual
def dep : D → Nat
  | .tup xs => deps xs + 1
  | .lst xs => deps xs + 1
  | _ => 0
def deps : List D → Nat
  | [] => 0
  | x :: xs => max (dep x) (deps xs)
end
mutual
/-- Python's == on data -/
def deq : D → D → Bool
  | .non, .non => true
  | .bl a, .bl b => a == b
  | .bl a, .int j => (if a then 1 else 0) == j
  | .int i, .bl b => i == (if b then 1 else 0)
  | .int i, .int j => i == j
  | .str x, .str y => x == y
  | .lst xs, .lst ys => deqs xs ys
  | .tup xs, .tup ys => deqs xs ys
  | _, _ => false
def deqs : List D → List D → Bool
  | [], [] => true
  | x :: xs, y :: ys => deq x y && deqs xs ys
  | _, _ => false
end
def isFlat : D → Bool
  | .non => true | .bl _ => true | .int _ => true | .str _ => true | _ => false
def isNon : D → Bool
  | .non => true | _ => false
/-- may be compared by == -/
def eqOk (d : D) : Prop := isP d = true ∧ dep d ≤ 64
inductive BOp where | add | sub | mul | fdiv | mod | band | bor | shr | shl | pow
  deriving DecidableEq
inductive COp where | eq | ne | lt | le | gt | ge | isN | notN | inn | nin
  deriving DecidableEq
/-- the built-in functions -/
inductive BF where | len | int | bool | list | tuple | abs | max | min | sum | sorted | any | all | lrange | repr | str
  deriving DecidableEq
def BF.nm : BF → Str
  | .len => "len" | .int => "int" | .bool => "bool" | .list => "list" | .tuple => "tuple" | .abs => "abs" | .max => "max" | .min => "min"
  | .sum => "sum" | .sorted => "sorted" | .any => "any" | .all => "all" | .lrange => "range" | .repr => "repr" | .str => "str"
mutual
inductive E where
  | yes
  | var (i : Nat)
  | int (i : Int) | bl (b : Bool) | non | str (x : Str)
  | glob (k : Nat)
  | bin (o : BOp) (a b : E)
  | neg (a : E)
  | cmp (o : COp) (a b : E)
  | chn (o p : COp) (a b c : E)
  | and (a b : E) | or (a b : E) | not (a : E)
  | ite (c a b : E)
  | call (f : Nat) (es : Es)
  | make (c : Nat) (es : Es)
  | meth (o : E) (m : Nat) (es : Es)
  | bf (f : BF) (es : Es)
  | lrng (tu : Bool) (a : E)
  | isi (e : E) (tys : List Str) (many : Bool)
  | fld (e : E) (f : Nat)
  | xf (i : Nat) (f : Nat)
  | isc (e : E) (c : Nat)
  | eqi (m : Nat) (a b : E)
  | ix (a b : E)
  | sl (a lo hi : E)
  | tup (es : Es) | lst (es : Es)
  | rng1 (a : E) | rng2 (a b : E) | enu (a : E) | zip (a b : E)
  | comp (ts : List Nat) (un : Bool) (src cond elt : E)
inductive Es where
  | nil
  | cons (e : E) (r : Es)
end
/-! ### what the operations give -/
def lenOk (n : Nat) : Prop := n ≤ sizeLine
def binW : BOp → D → D → W D
  | .add, .int i, .int j => ret (.int (i + j))
  | .add, .str a, .str b => req (a.length + b.length ≤ sizeLine) (ret (.str (a ++ b)))
  | .add, .tup a, .tup b => req (a.length + b.length ≤ sizeLine) (ret (.tup (a ++ b)))
  | .add, .lst a, .lst b => req (a.length + b.length ≤ sizeLine) (ret (.lst (a ++ b)))
  | .sub, .int i, .int j => ret (.int (i - j))
  | .mul, .int i, .int j => req (CMul i j) (ret (.int (i * j)))
  | .fdiv, .int i, .int j => req (CDivW i j) (ret (.int (i / j)))
  | .mod, .int i, .int j => req (0 < j) (ret (.int (i % j)))
  | .band, .int i, .int j => ret (.int (Builtin.bitAnd i j))
  | .bor, .int i, .int j => ret (.int (Builtin.bitOr i j))
  | .shr, .int i, .int j => req (0 ≤ j) (ret (.int (i / 2 ^ j.toNat)))
  | .shl, .int i, .int j => req (CPow i j) (ret (.int (i * 2 ^ j.toNat)))
  | .pow, .int i, .int j => req (CPow i j) (ret (.int (i ^ j.toNat)))
  | _, _, _ => fail
/-- x op= y -/
def augW : BOp → D → D → W D
  | .add, .int i, .int j => ret (.int (i + j))
  | .add, .str a, .str b => req (a.length + b.length ≤ sizeLine) (ret (.str (a ++ b)))
  | .sub, .int i, .int j => ret (.int (i - j))
  | .mul, .int i, .int j => req (CMul i j) (ret (.int (i * j)))
  | _, _, _ => fail
def anyEq (x : D) (ys : List D) : Bool := ys.any fun y => deq y x
def inW (x : D) : D → W Bool
  | .lst ys => req (eqOk x ∧ eqOk (.lst ys)) (ret (anyEq x ys))
  | .tup ys => req (isFlat x = true ∧ ys.all isFlat = true) (ret (anyEq x ys))
  | .str z => match x with
    | .str y => ret (!(Builtin.Str.occurrences z y 0 z.length 1).isEmpty)
    | _ => fail
  | _ => fail
def cmpW : COp → D → D → W Bool
  | .eq, a, b => req (eqOk a ∧ eqOk b) (ret (deq a b))
  | .ne, a, b => req (eqOk a ∧ eqOk b) (ret (!deq a b))
  | .lt, .int i, .int j => ret (decide (i < j))
  | .le, .int i, .int j => ret (decide (i ≤ j))
  | .gt, .int i, .int j => ret (decide (j < i))
  | .ge, .int i, .int j => ret (decide (j ≤ i))
  | .isN, a, .non => ret (isNon a)
  | .notN, a, .non => ret (!isNon a)
  | .inn, a, b => inW a b
  | .nin, a, b => bnd (inW a b) fun t => ret (!t)
  | _, _, _ => fail
def truW : D → W Bool
  | .non => ret false
  | .bl b => ret b
  | .int i => ret (i != 0)
  | .str x => req (x.length ≤ sizeLine) (ret ((x.length : Int) != 0))
  | .tup xs => ret (!xs.isEmpty)
  | .lst xs => ret (!xs.isEmpty)
  | _ => fail
def cutL {α : Type} (xs : List α) (lo hi : Option Int) : List α := (xs.drop (HT.sIx xs.length 0 lo)).take (HT.sIx xs.length xs.length hi - HT.sIx xs.length 0 lo)
def ixW : D → D → W D
  | .lst xs, .int i => match atI xs i with
    | some d => ret d
    | none => fail
  | .tup xs, .int i => match atI xs i with
    | some d => ret d
    | none => fail
  | .str z, .int i => match atI z.cps.toList i with
    | some c => req (z.length ≤ sizeLine) (ret (.str ⟨#[c]⟩))
    | none => fail
  | _, _ => fail
def slW : D → Option Int → Option Int → W D
  | .lst xs, lo, hi => ret (.lst (cutL xs lo hi))
  | .tup xs, lo, hi => ret (.tup (cutL xs lo hi))
  | _, _, _ => fail
def look2 : List Nat → List D → Nat → Option D
  | n :: ns, d :: ds, f => if f = n then some d else look2 ns ds f
  | _, _, _ => none
def fldW : D → Nat → W D
  | .ins _ ns vs, f => match look2 ns vs f with
    | some d => ret d
    | none => fail
  | _, _ => fail
def seqOf : D → Option (List D)
  | .lst xs => some xs
  | .tup xs => some xs
  | _ => none
def intsOf : List D → Option (List Int)
  | [] => some []
  | .int i :: r => (intsOf r).map (i :: ·)
  | _ :: _ => none
def blsOf : List D → Option (List Bool)
  | [] => some []
  | .bl i :: r => (blsOf r).map (i :: ·)
  | _ :: _ => none
def rangeD (lo : Int) (n : Nat) : List D := (List.range n).map fun (k : Nat) => D.int (lo + (k : Int))
def repD : D → W D
  | .int i => req (i.natAbs.log2 < 1920) (ret (.str (toString i)))
  | .bl b => ret (.str (if b = true then "True" else "False"))
  | .non => ret (.str "None")
  | .str x => req ((reprText x).length ≤ sizeLine ∧ PyData.strOk (reprText x) = true) (ret (.str (reprText x)))
  | _ => fail
def bfW : BF → List D → W D
  | .repr, [d] => repD d
  | .str, [.int i] => req (i.natAbs.log2 < 1920) (ret (.str (toString i)))
  | .str, [.str x] => ret (.str x)
  | .len, [d] => match seqOf d with
    | some xs => ret (.int xs.length)
    | none => match d with
      | .str x => req (x.length ≤ sizeLine) (ret (.int x.length))
      | _ => fail
  | .int, [.int i] => ret (.int i)
  | .int, [.bl b] => ret (.int (if b then 1 else 0))
  | .bool, [.int i] => ret (.bl (i != 0))
  | .bool, [.bl b] => ret (.bl b)
  | .list, [d] => match seqOf d with
    | some xs => ret (.lst xs)
    | none => fail
  | .tuple, [d] => match seqOf d with
    | some xs => ret (.tup xs)
    | none => fail
  | .abs, [.int i] => ret (.int (if i < 0 then -i else i))
  | .max, [.int i, .int j] => ret (.int (if j > i then j else i))
  | .min, [.int i, .int j] => ret (.int (if j < i then j else i))
  | .sum, [.lst xs] => match intsOf xs with
    | some ns => ret (.int ns.sum)
    | none => fail
  | .any, [d] => match seqOf d with
    | some xs => match blsOf xs with
      | some bs => ret (.bl (bs.any id))
      | none => fail
    | none => fail
  | .all, [d] => match seqOf d with
    | some xs => match blsOf xs with
      | some bs => ret (.bl (bs.all id))
      | none => fail
    | none => fail
  | _, _ => fail
/-- the name of a thing's built-in type -/
def tyName : D → Option Str
  | .non => some "NoneType" | .bl _ => some "bool" | .int _ => some "int" | .str _ => some "str" | .tup _ => some "tuple" | .lst _ => some "list"
  | _ => none
def kit1 (t c : Str) : Bool := decide (t = c) || (decide (t = "bool") && decide (c = "int"))
def isiW (d : D) (tys : List Str) : W D := match tyName d with
  | some t => ret (.bl (tys.any fun c => kit1 t c))
  | none => fail
/-! ### the environment -/
def getS (ρ : Env) (i : Nat) : Option D := match ρ[i]? with
  | some (some (.val d)) => some d
  | some (some (.own ds)) => some (.lst ds)
  | some (some (.ownI c _ ns vs)) => some (.ins c ns vs)
  | _ => none
def isOwn (ρ : Env) (i : Nat) : Bool := match ρ[i]? with
  | some (some s) => s.ow
  | _ => false
def esLen : Es → Nat
  | .nil => 0
  | .cons _ r => esLen r + 1
mutual
/-- what is made holds nothing that is owned -/
def cl (ow : Nat → Bool) : E → Bool
  | .var i => !ow i
  | .tup es => cls ow es
  | .lst es => cls ow es
  | .ite _ a b => cl ow a && cl ow b
  | .and a b => cl ow a && cl ow b
  | .or a b => cl ow a && cl ow b
  | .ix a _ => cc ow a
  | .sl a _ _ => cc ow a
  | .bin _ a b => cc ow a && cc ow b
  | .bf _ es => ccs ow es
  | .fld a _ => cc ow a
  | .enu a => cl ow a
  | .zip a b => cl ow a && cl ow b
  | .lrng _ a => cl ow a
  | _ => true
/-- .. but itself -/
def cc (ow : Nat → Bool) : E → Bool
  | .var _ => true
  | .tup es => cls ow es
  | .lst es => cls ow es
  | .ite _ a b => cl ow a && cl ow b
  | .and a b => cl ow a && cl ow b
  | .or a b => cl ow a && cl ow b
  | .ix a _ => cc ow a
  | .sl a _ _ => cc ow a
  | .bin _ a b => cc ow a && cc ow b
  | .bf _ es => ccs ow es
  | .fld a _ => cc ow a
  | .enu a => cc ow a
  | .zip a b => cc ow a && cc ow b
  | .lrng _ a => cc ow a
  | _ => true
def cls (ow : Nat → Bool) : Es → Bool
  | .nil => true
  | .cons e r => cl ow e && cls ow r
def ccs (ow : Nat → Bool) : Es → Bool
  | .nil => true
  | .cons e r => cc ow e && ccs ow r
end
/-- the tables: what defs, classes and methods do, the module's constants -/
structure Tab where
  fn : Nat → Option (Nat × (List D → W D))
  mkr : Nat → Option (Nat × (List D → W D))
  mt : Nat → Nat → Option (Nat × (List D → W D))
  cst : Nat → Option D
  exc : Nat → Option (List Nat)
  sub : Nat → Nat → Option Bool
  isub : Nat → Nat → Option Bool
  icl : Nat → Bool
/-- what an exception holds -/
def xArgs : D → List D
  | .ins _ _ vs => vs
  | _ => []
def callW (o : Option (Nat × (List D → W D))) (c : Bool) (ds : List D) : W D := match o with
  | some (n, φ) => req (ds.length = n) (if c = true then φ ds else fun Q X => φ ds (fun d => noRef d = true ∧ Q d) (fun x => noRefs (xArgs x) = true ∧ X x))
  | none => fail
/-- a loop's target takes an item -/
def setAll : List Nat → List D → Env → Option Env
  | [], [], ρ => some ρ
  | i :: is, d :: ds, ρ => setAll is ds (ρ.set i (some (.val d)))
  | _, _, _ => none
def bindT (ts : List Nat) (un : Bool) (d : D) (ρ : Env) : Option Env :=
  if un then match d with
    | .tup ds => if ds.length = ts.length then setAll ts ds ρ else none
    | _ => none
  else match ts with
    | [i] => some (ρ.set i (some (.val d)))
    | _ => none
def wipeE (ρ : Env) : List Nat → Env
  | [] => ρ
  | v :: vs => (wipeE ρ vs).set v none
def compW (bind : D → Option Env) (c : Env → W Bool) (e : Env → W D) : List D → W (List D)
  | [] => ret []
  | x :: xs => match bind x with
    | none => fail
    | some ρ => bnd (c ρ) fun t => if t then bnd (e ρ) fun y => bnd (compW bind c e xs) fun ys => ret (y :: ys) else compW bind c e xs
def optI : D → Option (Option Int)
  | .int i => some (some i)
  | _ => none
def zipD : List D → List D → List D
  | x :: xs, y :: ys => .tup [x, y] :: zipD xs ys
  | _, _ => []
def enuD : Nat → List D → List D
  | _, [] => []
  | k, x :: xs => .tup [.int k, x] :: enuD (k + 1) xs
/-- the items that are walked -/
def rng1W : D → W (List D)
  | .int j => req (-(2 ^ 62) ≤ j ∧ j < 2 ^ 62 ∧ j.toNat ≤ sizeLine) (ret (rangeD 0 j.toNat))
  | _ => fail
def rng2W : D → D → W (List D)
  | .int i, .int j => req ((-(2 ^ 62) ≤ i ∧ i < 2 ^ 62 ∧ -(2 ^ 62) ≤ j ∧ j < 2 ^ 62) ∧ (j - i).toNat ≤ sizeLine) (ret (rangeD i (j - i).toNat))
  | _, _ => fail
def enuW : D → W (List D)
  | .lst xs => ret (enuD 0 xs)
  | _ => fail
def zipW : D → D → W (List D)
  | .lst xs, .lst ys => ret (zipD xs ys)
  | _, _ => fail
/-- what a term means: as a value, as a test, as a condition, as a slice's end, as what is walked -/
structure Se where
  v : Env → W D
  t : Env → W Bool
  c : Env → W Bool
  o : Env → W (Option Int)
  i : Env → W (List D)
def oW (x : D) : W (Option Int) := match x with
  | .int i => ret (some i)
  | _ => fail
def iW (x : D) : W (List D) := match seqOf x with
  | some xs => ret xs
  | none => fail
def seT (v : Env → W D) (t : Env → W Bool) : Se := ⟨v, t, t, fun ρ => bnd (v ρ) oW, fun ρ => bnd (v ρ) iW⟩
def seV (v : Env → W D) : Se := seT v fun ρ => bnd (v ρ) truW
def seI (i : Env → W (List D)) : Se := ⟨fun _ => fail, fun _ => fail, fun _ => fail, fun _ => fail, i⟩
def varW (i : Nat) (ρ : Env) : W D := match getS ρ i with
  | some d => ret d
  | none => fail
def cstW (o : Option D) : W D := match o with
  | some d => ret d
  | none => fail
def negW (x : D) : W D := match x with
  | .int i => ret (.int (-i))
  | _ => fail
def fnW (o : Option (Nat × (List D → W D))) (w : W (List D)) (c : Bool) : W D := match o with
  | some e => bnd w fun ds => callW (some e) c ds
  | none => fail
/-- the method of a thing -/
def mtE (mt : Nat → Nat → Option (Nat × (List D → W D))) (m : Nat) : D → Option (Nat × (List D → W D))
  | .ins k _ _ => mt k m
  | _ => none
def methW (o : Option (Nat × (List D → W D))) (w : W (List D)) (c : Bool) (x : D) : W D := match o with
  | some e => bnd w fun ds => callW (some e) c (x :: ds)
  | none => fail
/-- isinstance(e, C) -/
def iscW (isub : Nat → Nat → Option Bool) (icl : Nat → Bool) (c : Nat) : D → W Bool
  | .ins k _ _ => match isub k c with
    | some b => ret b
    | none => fail
  | d => match tyName d with
    | some _ => if icl c = true then ret false else fail
    | none => fail
/-- may stand at the right of a class's == -/
def rightOk (isub : Nat → Nat → Option Bool) (icl : Nat → Bool) (c : Nat) : D → Prop
  | .ins k _ _ => isub k c = some false ∨ (k = c ∧ isub c c = some true)
  | d => tyName d ≠ none ∧ icl c = true
def eqiW (isub : Nat → Nat → Option Bool) (icl : Nat → Bool) (mt : Nat → Nat → Option (Nat × (List D → W D))) (mi : Nat) (cln : Bool) : D → D → W Bool
  | .ins c ns vs, y => req (rightOk isub icl c y) (match mt c mi with
    | some (n, φ) => fun Q E => callW (some (n, φ)) cln [.ins c ns vs, y] (fun d => ∃ r, d = .bl r ∧ Q r) E
    | none => fail)
  | _, _ => fail
def xfW (G : Tab) (ρ : Env) (i f : Nat) : W D := match ρ[i]? with
  | some (some (.exc (.ins c ns vs))) => req (G.exc c = some ns) (match look2 ns vs f with
    | some d => ret d
    | none => fail)
  | _ => fail
mutual
def se (G : Tab) : E → Se
  | .yes => ⟨fun _ => fail, fun _ => fail, fun _ => ret true, fun _ => ret none, fun _ => fail⟩
  | .var i => seV (varW i)
  | .int i => seV fun _ => ret (.int i)
  | .bl b => seV fun _ => ret (.bl b)
  | .non => seV fun _ => ret .non
  | .str x => seV fun _ => ret (.str x)
  | .glob k => seV fun _ => cstW (G.cst k)
  | .bin o a b => seV fun ρ => bnd ((se G a).v ρ) fun x => bnd ((se G b).v ρ) fun y => binW o x y
  | .neg a => seV fun ρ => bnd ((se G a).v ρ) negW
  | .cmp o a b => seT (fun ρ => bnd ((se G a).v ρ) fun x => bnd ((se G b).v ρ) fun y => bnd (cmpW o x y) fun t => ret (.bl t))
      (fun ρ => bnd ((se G a).v ρ) fun x => bnd ((se G b).v ρ) fun y => cmpW o x y)
  | .chn o p a b c => seT (fun ρ => bnd ((se G a).v ρ) fun x => bnd ((se G b).v ρ) fun y => bnd (cmpW o x y) fun t => if t = true then bnd ((se G c).v ρ) fun z => bnd (cmpW p y z) fun t => ret (.bl t) else ret (.bl false))
      (fun ρ => bnd ((se G a).v ρ) fun x => bnd ((se G b).v ρ) fun y => bnd (cmpW o x y) fun t => if t = true then bnd ((se G c).v ρ) fun z => cmpW p y z else ret false)
  | .and a b => seT (fun ρ => bnd ((se G a).v ρ) fun x => bnd (truW x) fun t => if t = true then (se G b).v ρ else ret x)
      (fun ρ => bnd ((se G a).t ρ) fun t => if t = true then (se G b).t ρ else ret false)
  | .or a b => seT (fun ρ => bnd ((se G a).v ρ) fun x => bnd (truW x) fun t => if t = true then ret x else (se G b).v ρ)
      (fun ρ => bnd ((se G a).t ρ) fun t => if t = true then ret true else (se G b).t ρ)
  | .not a => seT (fun ρ => bnd ((se G a).v ρ) fun x => bnd (truW x) fun t => ret (.bl (!t))) (fun ρ => bnd ((se G a).t ρ) fun t => ret (!t))
  | .ite c a b => seT (fun ρ => bnd ((se G c).t ρ) fun t => if t = true then (se G a).v ρ else (se G b).v ρ) (fun ρ => bnd ((se G c).t ρ) fun t => if t = true then (se G a).t ρ else (se G b).t ρ)
  | .call f es => seV fun ρ => fnW (G.fn f) (ses G es ρ) (cls (isOwn ρ) es)
  | .make c es => seV fun ρ => fnW (G.mkr c) (ses G es ρ) (cls (isOwn ρ) es)
  | .meth o m es => seV fun ρ => bnd ((se G o).v ρ) fun x => methW (mtE G.mt m x) (ses G es ρ) (cl (isOwn ρ) o && cls (isOwn ρ) es) x
  | .bf f es => seV fun ρ => bnd (ses G es ρ) fun ds => bfW f ds
  | .lrng tu a => seV fun ρ => bnd ((se G a).i ρ) fun xs => ret (if tu = true then .tup xs else .lst xs)
  | .isi e tys _ => seV fun ρ => bnd ((se G e).v ρ) fun x => isiW x tys
  | .fld e f => seV fun ρ => bnd ((se G e).v ρ) fun x => fldW x f
  | .xf i f => seV fun ρ => xfW G ρ i f
  | .isc e c => seV fun ρ => req (G.icl c = true) (bnd ((se G e).v ρ) fun x => bnd (iscW G.isub G.icl c x) fun t => ret (.bl t))
  | .eqi m a b => seT (fun ρ => bnd ((se G a).v ρ) fun x => bnd ((se G b).v ρ) fun y => bnd (eqiW G.isub G.icl G.mt m (cl (isOwn ρ) a && cl (isOwn ρ) b) x y) fun t => ret (.bl t))
      (fun ρ => bnd ((se G a).v ρ) fun x => bnd ((se G b).v ρ) fun y => eqiW G.isub G.icl G.mt m (cl (isOwn ρ) a && cl (isOwn ρ) b) x y)
  | .ix a b => seV fun ρ => bnd ((se G a).v ρ) fun x => bnd ((se G b).v ρ) fun y => ixW x y
  | .sl a lo hi => seV fun ρ => bnd ((se G a).v ρ) fun x => bnd ((se G lo).o ρ) fun l => bnd ((se G hi).o ρ) fun h => slW x l h
  | .tup es => seV fun ρ => bnd (ses G es ρ) fun ds => req (ds.length ≤ sizeLine) (ret (.tup ds))
  | .lst es => seV fun ρ => bnd (ses G es ρ) fun ds => req (ds.length ≤ sizeLine) (ret (.lst ds))
  | .rng1 a => seI fun ρ => bnd ((se G a).v ρ) rng1W
  | .rng2 a b => seI fun ρ => bnd ((se G a).v ρ) fun x => bnd ((se G b).v ρ) fun y => rng2W x y
  | .enu a => seI fun ρ => bnd ((se G a).v ρ) enuW
  | .zip a b => seI fun ρ => bnd ((se G a).v ρ) fun x => bnd ((se G b).v ρ) fun y => zipW x y
  | .comp ts un src cond elt => seV fun ρ => req (cc (isOwn ρ) src = true ∧ cl (isOwn (wipeE ρ ts)) elt = true) (bnd ((se G src).i ρ) fun xs =>
      bnd (nox (compW (fun d => bindT ts un d (wipeE ρ ts)) (se G cond).c (se G elt).v xs)) fun ys => ret (.lst ys))
def ses (G : Tab) : Es → Env → W (List D)
  | .nil => fun _ => ret []
  | .cons e r => fun ρ => bnd ((se G e).v ρ) fun d => bnd (ses G r ρ) fun ds => ret (d :: ds)
end
abbrev wE (G : Tab) (e : E) (ρ : Env) : W D := (se G e).v ρ
abbrev wT (G : Tab) (e : E) (ρ : Env) : W Bool := (se G e).t ρ
abbrev wI (G : Tab) (e : E) (ρ : Env) : W (List D) := (se G e).i ρ
/-! ### statements -/
mutual
inductive S1 where
  | asg (i : Nat) (e : E) | own (i : Nat) (e : E)
  | unp (ts : List Nat) (e : E)
  | aug (i : Nat) (o : BOp) (e : E)
  | app (i : Nat) (e : E)
  | six (i : Nat) (j e : E)
  | ext (i : Nat) (e : E)
  | ex (e : E)
  | ite (c : E) (a b : S)
  | for_ (ts : List Nat) (un : Bool) (src : E) (b : S)
  | whl (c : E) (b : S)
  | ret (e : E) | retN
  | brk | cnt | pass
  | rse (c : Nat) (es : Es)
  | sfl (i : Nat) (f : Nat) (e : E)
  | apop (i j : Nat) (e : E)
  | mat (i : Nat) (t1 t2 : Nat) (n1 n2 : E) (elt : E)
  | six2 (i : Nat) (j k e : E)
  | tri (b : S) (hs : Hs)
inductive S where
  | nil
  | cons (a : S1) (b : S)
  | frz (i : Nat) (b : S)
inductive Hs where
  | nil
  | cons (c : Nat) (i : Option Nat) (s : S) (r : Hs)
end
inductive Fl where
  | nx (ρ : Env) | rt (d : D) | bk (ρ : Env) | ct (ρ : Env)
abbrev WS := (Fl → Prop) → (D → Env → Prop) → Prop
def nxt (ρ : Env) : WS := fun Q _ => Q (.nx ρ)
/-- an expression's outcome, then a statement's -/
def eS {α : Type} (ρ : Env) (w : W α) (k : α → WS) : WS := fun Q X => w (fun a => k a Q X) (fun x => X x ρ)
def seqS (w : WS) (k : Env → WS) : WS := fun Q X => w (fun f => match f with
  | .nx ρ => k ρ Q X
  | f => Q f) X
def reqS (p : Prop) (w : WS) : WS := fun Q X => p ∧ w Q X
def failS : WS := fun _ _ => False
def forS (bind : D → Env → Option Env) (body : Env → WS) : List D → Env → WS
  | [], ρ => nxt ρ
  | x :: xs, ρ => match bind x ρ with
    | none => failS
    | some ρ1 => fun Q X => body ρ1 (fun f => match f with
      | .nx ρ2 => forS bind body xs ρ2 Q X
      | .ct ρ2 => forS bind body xs ρ2 Q X
      | .bk ρ2 => Q (.nx ρ2)
      | .rt d => Q (.rt d)) X
def whlN (c : Env → W Bool) (body : Env → WS) : Nat → Env → WS
  | 0, _ => failS
  | n + 1, ρ => eS ρ (c ρ) fun t => if t = true then fun Q X => body ρ (fun f => match f with
      | .nx ρ2 => whlN c body n ρ2 Q X
      | .ct ρ2 => whlN c body n ρ2 Q X
      | .bk ρ2 => Q (.nx ρ2)
      | .rt d => Q (.rt d)) X else nxt ρ
def whlS (c : Env → W Bool) (body : Env → WS) (ρ : Env) : WS := fun Q X => ∃ n, whlN c body n ρ Q X
/-- fresh lists: what may be owned -/
def frE : E → Bool
  | .lst _ => true
  | .comp _ _ _ _ _ => true
  | .bf .list _ => true
  | .lrng false _ => true
  | _ => false
def ownS (ρ : Env) (i : Nat) (k : List D → WS) : WS := match ρ[i]? with
  | some (some (.own ds)) => k ds
  | _ => failS
def setV (ρ : Env) (i : Nat) (d : D) : Env := ρ.set i (some (.val d))
def setO (ρ : Env) (i : Nat) (ds : List D) : Env := ρ.set i (some (.own ds))
def noMat (ρ : Env) : Bool := ρ.all fun o => match o with
  | some s => !s.mt
  | none => true
def noOw (ρ : Env) : Bool := ρ.all fun o => match o with
  | some s => !s.ow
  | none => true
def setM (ρ : Env) (i : Nat) (rs : List (List D)) : Env := ρ.set i (some (.mat rs))
def matS (ρ : Env) (i : Nat) (k : List (List D) → WS) : WS := match ρ[i]? with
  | some (some (.mat ds)) => k ds
  | _ => failS
def rowsOf : List D → Option (List (List D))
  | [] => some []
  | .lst ds :: r => (rowsOf r).map (ds :: ·)
  | _ :: _ => none
def matK (ρ : Env) (i : Nat) (d : D) : WS := match d with
  | .lst ds => match rowsOf ds with
    | some rs => nxt (setM ρ i rs)
    | none => failS
  | _ => failS
/-- frozen -/
def frzS (ρ : Env) (i : Nat) (k : Env → WS) : WS := match ρ[i]? with
  | some (some (.own ds)) => k (setV ρ i (.lst ds))
  | some (some (.mat rs)) => k (setV ρ i (.lst (rs.map D.lst)))
  | _ => failS
/-- the caught exception goes -/
def dropX (ρ : Env) : Env := ρ.map fun o => match o with
  | some (.exc _) => none
  | o => o
def dropF (f : Fl) : Fl := match f with
  | .nx ρ' => .nx (dropX ρ')
  | .bk ρ' => .bk (dropX ρ')
  | .ct ρ' => .ct (dropX ρ')
  | .rt d => .rt d
def fstO (i : Nat) (f : Fl) : Fl := match f with
  | .nx ρ' => .nx ((dropX ρ').set i none)
  | .bk ρ' => .bk ((dropX ρ').set i none)
  | .ct ρ' => .ct ((dropX ρ').set i none)
  | .rt d => .rt d
/-- clean, or nothing that could be owned within -/
def okV (ρ : Env) (e : E) (d : D) : Prop := cl (isOwn ρ) e = true ∨ noRef d = true
mutual
def w1 (G : Tab) : S1 → Env → WS
  | .asg i e => fun ρ => eS ρ (wE G e ρ) fun d => reqS (okV ρ e d) (nxt (setV ρ i d))
  | .own i e => fun ρ => reqS (frE e = true ∧ cl (isOwn ρ) e = true ∧ noMat ρ = true) (eS ρ (wE G e ρ) fun d => match d with
    | .lst ds => nxt (setO ρ i ds)
    | _ => failS)
  | .unp ts e => fun ρ => eS ρ (wE G e ρ) fun d => reqS (okV ρ e d) (match bindT ts true d ρ with
    | some ρ' => nxt ρ'
    | none => failS)
  | .aug i o e => fun ρ => match getS ρ i with
    | some x => eS ρ (wE G e ρ) fun y => eS ρ (augW o x y) fun z => nxt (setV ρ i z)
    | none => failS
  | .app i e => fun ρ => ownS ρ i fun ds => eS ρ (wE G e ρ) fun d => reqS (okV ρ e d ∧ ds.length < sizeLine) (nxt (setO ρ i (ds ++ [d])))
  | .six i j e => fun ρ => eS ρ (wE G e ρ) fun d => ownS ρ i fun ds => eS ρ (wE G j ρ) fun k => reqS (okV ρ e d) (match k with
    | .int z => match ixN ds.length z with
      | some n => nxt (setO ρ i (ds.set n d))
      | none => failS
    | _ => failS)
  | .ext i e => fun ρ => ownS ρ i fun ds => eS ρ (wE G e ρ) fun d => match d with
    | .lst xs => reqS ((cc (isOwn ρ) e = true ∨ noRefs xs = true) ∧ ds.length + xs.length ≤ sizeLine) (nxt (setO ρ i (ds ++ xs)))
    | _ => failS
  | .ex e => fun ρ => eS ρ (wE G e ρ) fun _ => nxt ρ
  | .ite c a b => fun ρ => eS ρ (wT G c ρ) fun t => if t = true then wB G a ρ else wB G b ρ
  | .for_ ts un src b => fun ρ => reqS (cl (isOwn ρ) src = true) (eS ρ (wI G src ρ) fun xs => forS (bindT ts un) (wB G b) xs ρ)
  | .whl c b => fun ρ => whlS (wT G c) (wB G b) ρ
  | .ret e => fun ρ => eS ρ (wE G e ρ) fun d Q _ => Q (.rt d)
  | .retN => fun _ Q _ => Q (.rt .non)
  | .brk => fun ρ Q _ => Q (.bk ρ)
  | .cnt => fun ρ Q _ => Q (.ct ρ)
  | .pass => fun ρ => nxt ρ
  | .sfl i f e => fun ρ => eS ρ (wE G e ρ) fun d => match ρ[i]? with
    | some (some (.ownI c all ns vs)) => reqS (okV ρ e d ∧ f ∈ all ∧ f ∉ ns ∧ ns.length < 900) (nxt (ρ.set i (some (.ownI c all (ns ++ [f]) (vs ++ [d])))))
    | _ => failS
  | .apop i j e => fun ρ => ownS ρ i fun ds => ownS ρ j fun es => eS ρ (wE G e ρ) fun k => reqS (i ≠ j ∧ ds.length < sizeLine) (match k with
    | .int z => match es[z.toNat]? with
      | some d => reqS (0 ≤ z ∧ z < 2 ^ 63) (nxt (setO (setO ρ j (es.eraseIdx z.toNat)) i (ds ++ [d])))
      | none => failS
    | _ => failS)
  | .mat i t1 t2 n1 n2 elt => fun ρ => reqS (noOw ρ = true) (eS ρ (wE G (.comp [t1] false n1 .yes (.comp [t2] false n2 .yes elt)) ρ) (matK ρ i))
  | .six2 i j k e => fun ρ => eS ρ (wE G e ρ) fun d => matS ρ i fun rs => eS ρ (wE G j ρ) fun a => match a with
    | .int x => match rs[x.toNat]? with
      | some row => reqS (0 ≤ x) (eS ρ (wE G k ρ) fun b => reqS (okV ρ e d) (match b with
        | .int y => reqS (0 ≤ y ∧ y.toNat < row.length) (nxt (setM ρ i (rs.set x.toNat (row.set y.toNat d))))
        | _ => failS))
      | none => failS
    | _ => failS
  | .tri b hs => fun ρ => fun Q X => wB G b ρ Q (fun x ρ' => wH G hs x ρ' Q X)
  | .rse c es => fun ρ => match G.exc c with
    | some ns => reqS (cls (isOwn ρ) es = true ∧ ns.length = esLen es) (eS ρ (ses G es ρ) fun ds _ X => X (.ins c ns ds) ρ)
    | none => failS
def wB (G : Tab) : S → Env → WS
  | .nil => fun ρ => nxt ρ
  | .cons a b => fun ρ => seqS (w1 G a ρ) (wB G b)
  | .frz i b => fun ρ => frzS ρ i (wB G b)
def wH (G : Tab) : Hs → D → Env → WS
  | .nil => fun x ρ _ X => X x ρ
  | .cons c i s r => fun x ρ => match x with
    | .ins k _ _ => match G.sub k c with
      | some true => (match i with
        | none => fun Q _ => wB G s ρ (fun f => Q (dropF f)) (fun _ _ => False)
        | some j => fun Q _ => wB G s (ρ.set j (some (.exc x))) (fun f => Q (fstO j f)) (fun _ _ => False))
      | some false => wH G r x ρ
      | none => failS
    | _ => failS
end
/-- a def's body on its arguments -/
def startE (n : Nat) (ds : List D) : Env := (ds.map fun d => some (Slot.val d)) ++ List.replicate (n - ds.length) none
def bodyW (G : Tab) (n : Nat) (b : S) (ds : List D) : W D := fun Q X => wB G b (startE n ds) (fun f => match f with
  | .rt d => Q d
  | .nx _ => Q .non
  | _ => False) (fun x _ => X x)
end DV
/-! DV: what stands for a datum in the heap. -/
namespace DV
open PySem PySem.Spec PyProof.Rows L2
/-- the classes' addresses; the exception that is caught -/
structure Ca where
  f : Nat → Addr
  xc : Option (Addr × Value × Option Addr) := none
instance : CoeFun Ca (fun _ => Nat → Addr) := ⟨Ca.f⟩
structure Cm where
  K : PySem.W.Frag
  ca : Ca
  fl : Nat → Str
abbrev AP := Addr → Prop
/-- what never changes: frozen lists and instances, tuples -/
def Sta (F : AP) (H H' : Hp) : Prop :=
  (∀ a, F a → H' a = H a) ∧ (∀ a xs, H a = some (.tup xs) → H' a = some (.tup xs)) ∧ ∀ a o u, H a = some (.frz o u) → H' a = some (.frz o u)
/-- all that is tracked stays, but the hand -/
def SB (hd : Option Addr) (H H' : Hp) : Prop := ∀ a o, H a = some o → hd ≠ some a → H' a = some o
theorem Sta.refl (F : AP) (H : Hp) : Sta F H H := ⟨fun _ _ => rfl, fun _ _ h => h, fun _ _ _ h => h⟩
theorem Sta.trans {F : AP} {H H1 H2 : Hp} (a : Sta F H H1) (b : Sta F H1 H2) : Sta F H H2 :=
  ⟨fun x h => (b.1 x h).trans (a.1 x h), fun x xs h => b.2.1 x xs (a.2.1 x xs h), fun x o u h => b.2.2 x o u (a.2.2 x o u h)⟩
theorem Sta.sub {F F' : AP} {H H' : Hp} (s : Sta F' H H') (h : ∀ a, F a → F' a) : Sta F H H' := ⟨fun a x => s.1 a (h a x), s.2.1, s.2.2⟩
theorem SB.refl (hd : Option Addr) (H : Hp) : SB hd H H := fun _ _ h _ => h
theorem SB.trans {hd : Option Addr} {H H1 H2 : Hp} (a : SB hd H H1) (b : SB hd H1 H2) : SB hd H H2 := fun x o h n => b x o (a x o h n) n
theorem SB.new {hd : Option Addr} {H : Hp} {p : Addr} {o : HO} (h : H p = none) : SB hd H (upd H p o) := fun a x e _ => by
  rw [upd_ne (ne_of_none e h)]
  exact e
theorem SB.of_same {hd : Option Addr} {H H' : Hp} (h : ∀ a o, H a = some o → H' a = some o) : SB hd H H' := fun a o e _ => h a o e
theorem SB.free {hd : Option Addr} {H H' : Hp} (s : SB hd H H') {p : Addr} (h : H' p = none) (hp : hd ≠ some p) : H p = none := by
  cases e : H p with
  | none => rfl
  | some o => rw [s p o e hp] at h; cases h
structure InsOk (cm : Cm) (c : Nat) (ns : List Nat) : Prop where
  cl : Cls cm.K (cm.ca c)
  na : ∀ n ∈ ns, NoAttr cm.K (cm.ca c) (cm.fl n)
  inj : ∀ n ∈ ns, ∀ m ∈ ns, cm.fl n = cm.fl m → n = m
mutual
inductive Den (cm : Cm) (F : AP) (hd : Option Addr) (H : Hp) : V → D → Prop
  | non : Den cm F hd H .non .non
  | bl (b : Bool) : Den cm F hd H (.bl b) (.bl b)
  | int (i : Int) : Den cm F hd H (.int i) (.int i)
  | str (x : Str) : PyData.strOk x = true → Den cm F hd H (.str x) (.str x)
  | tup {a : Addr} {vs : List V} {ds : List D} : SqT cm.K H a vs → vs.length ≤ sizeLine → DenL cm F hd H vs ds → Den cm F hd H (.ref a) (.tup ds)
  | lst {a : Addr} {vs : List V} {ds : List D} : F a → H a = some (.lst vs) → vs.length ≤ sizeLine → DenL cm F hd H vs ds → Den cm F hd H (.ref a) (.lst ds)
  | ins {a dx : Addr} {c : Nat} {ns : List Nat} {fs : List (Str × V)} {ds : List D} : F a → H a = some (.ins (cm.ca c) dx fs) → fs.map (·.1) = ns.map cm.fl → InsOk cm c ns → DenL cm F hd H (fs.map (·.2)) ds →
      Den cm F hd H (.ref a) (.ins c ns ds)
  | hand {a : Addr} : hd = some a → Den cm F hd H (.ref a) .hand
inductive DenL (cm : Cm) (F : AP) (hd : Option Addr) (H : Hp) : List V → List D → Prop
  | nil : DenL cm F hd H [] []
  | cons {v : V} {vs : List V} {d : D} {ds : List D} : Den cm F hd H v d → DenL cm F hd H vs ds → DenL cm F hd H (v :: vs) (d :: ds)
end
section
variable {cm : Cm} {F F' : AP} {hd : Option Addr} {H H' : Hp}
theorem rd_sta {a : Addr} {u : HO} (s : Sta F H H') (f : F a) (h : Rd H a u) : Rd H' a u := by
  rcases h with h | ⟨o, h⟩
  · exact .inl ((s.1 a f).trans h)
  · exact .inr ⟨o, s.2.2 a o u h⟩
theorem sqt_sta {K : PySem.W.Frag} {a : Addr} {vs : List V} (s : Sta F H H') (h : SqT K H a vs) : SqT K H' a vs := by
  rcases h with (h | ⟨o, h⟩) | h
  · exact .inl (.inl (s.2.1 a vs h))
  · exact .inl (.inr ⟨o, s.2.2 a o _ h⟩)
  · exact .inr h
mutual
theorem Den.mono (hF : ∀ a, F a → F' a) (s : Sta F H H') : ∀ {v : V} {d : D}, Den cm F hd H v d → Den cm F' hd H' v d
  | _, _, .non => .non
  | _, _, .bl b => .bl b
  | _, _, .int i => .int i
  | _, _, .str x h => .str x h
  | _, _, .tup h l r => .tup (sqt_sta s h) l (DenL.mono hF s r)
  | _, _, .lst f h l r => .lst (hF _ f) ((s.1 _ f).trans h) l (DenL.mono hF s r)
  | _, _, .ins f h n k r => .ins (hF _ f) ((s.1 _ f).trans h) n k (DenL.mono hF s r)
  | _, _, .hand h => .hand h
theorem DenL.mono (hF : ∀ a, F a → F' a) (s : Sta F H H') : ∀ {vs : List V} {ds : List D}, DenL cm F hd H vs ds → DenL cm F' hd H' vs ds
  | _, _, .nil => .nil
  | _, _, .cons h r => .cons (Den.mono hF s h) (DenL.mono hF s r)
end
theorem noRefs_c {d : D} {ds : List D} (e : noRefs (d :: ds) = true) : noRef d = true ∧ noRefs ds = true := by simpa [noRefs] using e
theorem isPs_c {d : D} {ds : List D} (e : isPs (d :: ds) = true) : isP d = true ∧ isPs ds = true := by simpa [isPs] using e
mutual
/-- without references the frozen part does not matter -/
theorem Den.bare : ∀ {v : V} {d : D}, Den cm F hd H v d → noRef d = true → Den cm F' hd H v d
  | _, _, .non, _ => .non
  | _, _, .bl b, _ => .bl b
  | _, _, .int i, _ => .int i
  | _, _, .str x h, _ => .str x h
  | _, _, .tup h l r, e => .tup h l (DenL.bare r (by simpa [noRef] using e))
  | _, _, .lst f h l r, e => by simp [noRef] at e
  | _, _, .ins f h n k r, e => by simp [noRef] at e
  | _, _, .hand h, e => by simp [noRef] at e
theorem DenL.bare : ∀ {vs : List V} {ds : List D}, DenL cm F hd H vs ds → noRefs ds = true → DenL cm F' hd H vs ds
  | _, _, .nil, _ => .nil
  | _, _, .cons h r, e => .cons (Den.bare h (noRefs_c e).1) (DenL.bare r (noRefs_c e).2)
end
theorem DenL.length : ∀ {vs : List V} {ds : List D}, DenL cm F hd H vs ds → vs.length = ds.length
  | _, _, .nil => rfl
  | _, _, .cons _ r => by rw [List.length_cons, List.length_cons, DenL.length r]
theorem DenL.get : ∀ {vs : List V} {ds : List D} {i : Nat} {v : V}, DenL cm F hd H vs ds → vs[i]? = some v → ∃ d, ds[i]? = some d ∧ Den cm F hd H v d
  | _, _, _, _, .nil, e => by simp at e
  | _, _, 0, _, .cons h _, e => by
    simp at e; subst e; exact ⟨_, rfl, h⟩
  | _, _, i + 1, v, .cons _ r, e => by
    obtain ⟨d, h1, h2⟩ := DenL.get (i := i) (v := v) r (by simpa using e)
    exact ⟨d, by simpa using h1, h2⟩
theorem DenL.get' : ∀ {vs : List V} {ds : List D} {i : Nat} {d : D}, DenL cm F hd H vs ds → ds[i]? = some d → ∃ v, vs[i]? = some v ∧ Den cm F hd H v d
  | _, _, _, _, .nil, e => by simp at e
  | _, _, 0, _, .cons h _, e => by
    simp at e; subst e; exact ⟨_, rfl, h⟩
  | _, _, i + 1, v, .cons _ r, e => by
    obtain ⟨d, h1, h2⟩ := DenL.get' (i := i) (d := v) r (by simpa using e)
    exact ⟨d, by simpa using h1, h2⟩
theorem DenL.append : ∀ {vs ws : List V} {ds es : List D}, DenL cm F hd H vs ds → DenL cm F hd H ws es → DenL cm F hd H (vs ++ ws) (ds ++ es)
  | _, _, _, _, .nil, s => s
  | _, _, _, _, .cons r t, s => .cons r (DenL.append t s)
theorem DenL.take : ∀ {vs : List V} {ds : List D} (n : Nat), DenL cm F hd H vs ds → DenL cm F hd H (vs.take n) (ds.take n)
  | _, _, 0, _ => by rw [List.take_zero, List.take_zero]; exact .nil
  | _, _, _ + 1, .nil => .nil
  | _, _, n + 1, .cons r t => by rw [List.take_succ_cons, List.take_succ_cons]; exact .cons r (DenL.take n t)
theorem DenL.drop : ∀ {vs : List V} {ds : List D} (n : Nat), DenL cm F hd H vs ds → DenL cm F hd H (vs.drop n) (ds.drop n)
  | _, _, 0, r => r
  | _, _, _ + 1, .nil => .nil
  | _, _, n + 1, .cons _ t => DenL.drop n t
theorem DenL.set {v : V} {d : D} (h : Den cm F hd H v d) : ∀ {vs : List V} {ds : List D} (i : Nat), DenL cm F hd H vs ds → DenL cm F hd H (vs.set i v) (ds.set i d)
  | _, _, _, .nil => .nil
  | _, _, 0, .cons _ t => .cons h t
  | _, _, i + 1, .cons q t => .cons q (DenL.set h i t)
theorem DenL.cut {vs : List V} {ds : List D} (lo hi : Option Int) (h : DenL cm F hd H vs ds) : DenL cm F hd H (cutV vs lo hi) (cutL ds lo hi) := by
  unfold cutV cutL
  rw [h.length]
  exact (h.drop _).take _
theorem DenL.at {vs : List V} {ds : List D} {i : Int} {d : D} (h : DenL cm F hd H vs ds) (e : atI ds i = some d) : ∃ v, atI vs i = some v ∧ Den cm F hd H v d := by
  unfold atI at e ⊢
  rw [h.length]
  cases q : ixN ds.length i with
  | none => rw [q] at e; cases e
  | some j =>
    rw [q] at e
    obtain ⟨v, h1, h2⟩ := h.get' (show ds[j]? = some d from e)
    exact ⟨v, h1, h2⟩
theorem Den.lstI {w : V} {ds : List D} (h : Den cm F hd H w (.lst ds)) : ∃ a vs, w = .ref a ∧ F a ∧ H a = some (.lst vs) ∧ vs.length ≤ sizeLine ∧ DenL cm F hd H vs ds := by
  cases h with
  | lst f r l q => exact ⟨_, _, rfl, f, r, l, q⟩
theorem Den.tupI {w : V} {ds : List D} (h : Den cm F hd H w (.tup ds)) : ∃ a vs, w = .ref a ∧ SqT cm.K H a vs ∧ vs.length ≤ sizeLine ∧ DenL cm F hd H vs ds := by
  cases h with
  | tup r l q => exact ⟨_, _, rfl, r, l, q⟩
theorem Den.intI {w : V} {i : Int} (h : Den cm F hd H w (.int i)) : w = .int i := by cases h; rfl
theorem Den.blI {w : V} {i : Bool} (h : Den cm F hd H w (.bl i)) : w = .bl i := by cases h; rfl
theorem Den.strI {w : V} {i : Str} (h : Den cm F hd H w (.str i)) : w = .str i ∧ PyData.strOk i = true := by cases h; exact ⟨rfl, by assumption⟩
theorem Den.nonI {w : V} (h : Den cm F hd H w .non) : w = .non := by cases h; rfl
mutual
theorem Den.dp : ∀ {w : V} {d : D}, Den cm F hd H w d → isP d = true → Dp cm.K H w (toP d)
  | _, _, .non, _ => .non
  | _, _, .bl b, _ => .bl b
  | _, _, .int i, _ => .int i
  | _, _, .str x h, _ => .str x
  | _, _, .tup h l r, e => .tup h (DenL.dp r (by simpa [isP] using e))
  | _, _, .lst f h l r, e => .lst (.inl (.inl h)) (DenL.dp r (by simpa [isP] using e))
  | _, _, .ins f h n k r, e => by simp [isP] at e
  | _, _, .hand h, e => by simp [isP] at e
theorem DenL.dp : ∀ {vs : List V} {ds : List D}, DenL cm F hd H vs ds → isPs ds = true → DpAll cm.K H vs (toPs ds)
  | _, _, .nil, _ => .nil
  | _, _, .cons h r, e => .cons (Den.dp h (isPs_c e).1) (DenL.dp r (isPs_c e).2)
end
mutual
theorem Den.lay : ∀ {w : V} {d : D}, Den cm F hd H w d → isP d = true → (toP d).canLay0 = true
  | _, _, .non, _ => by simp [toP, PyData.canLay0]
  | _, _, .bl b, _ => by simp [toP, PyData.canLay0]
  | _, _, .int i, _ => by simp [toP, PyData.canLay0]
  | _, _, .str x h, _ => by simpa [toP, PyData.canLay0] using h
  | _, _, .tup h l r, e => by simpa [toP, PyData.canLay0] using DenL.lay r (by simpa [isP] using e)
  | _, _, .lst f h l r, e => by simpa [toP, PyData.canLay0] using DenL.lay r (by simpa [isP] using e)
  | _, _, .ins f h n k r, e => by simp [isP] at e
  | _, _, .hand h, e => by simp [isP] at e
theorem DenL.lay : ∀ {vs : List V} {ds : List D}, DenL cm F hd H vs ds → isPs ds = true → PyData.canLayAll0 (toPs ds) = true
  | _, _, .nil, _ => by simp [toPs, PyData.canLayAll0]
  | _, _, .cons h r, e => by
    simp [toPs, PyData.canLayAll0, Den.lay h (isPs_c e).1, DenL.lay r (isPs_c e).2]
end
end
mutual
theorem dep_toP : ∀ d : D, isP d = true → (toP d).depth = dep d
  | .non, _ => by simp [toP, PyData.depth, dep]
  | .bl b, _ => by simp [toP, PyData.depth, dep]
  | .int i, _ => by simp [toP, PyData.depth, dep]
  | .str x, _ => by simp [toP, PyData.depth, dep]
  | .tup xs, e => by simp [toP, PyData.depth, dep, deps_toPs xs (by simpa [isP] using e)]
  | .lst xs, e => by simp [toP, PyData.depth, dep, deps_toPs xs (by simpa [isP] using e)]
  | .ins _ _ _, e => by simp [isP] at e
  | .hand, e => by simp [isP] at e
theorem deps_toPs : ∀ ds : List D, isPs ds = true → PyData.depthAll (toPs ds) = deps ds
  | [], _ => by simp [toPs, PyData.depthAll, deps]
  | d :: ds, e => by
    have e' : isP d = true ∧ isPs ds = true := by simpa [isPs] using e
    simp [toPs, PyData.depthAll, deps, dep_toP d e'.1, deps_toPs ds e'.2]
end
mutual
theorem deq_toP : ∀ a b : D, isP a = true → isP b = true → PyData.eqv (toP a) (toP b) = deq a b
  | .tup xs, .tup ys, ha, hb => by simp [toP, PyData.eqv, deq, deqs_toPs xs ys (by simpa [isP] using ha) (by simpa [isP] using hb)]
  | .lst xs, .lst ys, ha, hb => by simp [toP, PyData.eqv, deq, deqs_toPs xs ys (by simpa [isP] using ha) (by simpa [isP] using hb)]
  | .ins _ _ _, _, ha, _ => by simp [isP] at ha
  | .hand, _, ha, _ => by simp [isP] at ha
  | .non, b, _, hb => by cases b <;> simp [toP, PyData.eqv, deq, isP] at hb ⊢
  | .bl _, b, _, hb => by cases b <;> simp [toP, PyData.eqv, deq, isP] at hb ⊢
  | .int _, b, _, hb => by cases b <;> simp [toP, PyData.eqv, deq, isP] at hb ⊢
  | .str _, b, _, hb => by cases b <;> simp [toP, PyData.eqv, deq, isP] at hb ⊢
  | .tup _, .non, _, _ => by simp [toP, PyData.eqv, deq]
  | .tup _, .bl _, _, _ => by simp [toP, PyData.eqv, deq]
  | .tup _, .int _, _, _ => by simp [toP, PyData.eqv, deq]
  | .tup _, .str _, _, _ => by simp [toP, PyData.eqv, deq]
  | .tup _, .lst _, _, _ => by simp [toP, PyData.eqv, deq]
  | .tup _, .ins _ _ _, _, hb => by simp [isP] at hb
  | .tup _, .hand, _, hb => by simp [isP] at hb
  | .lst _, .non, _, _ => by simp [toP, PyData.eqv, deq]
  | .lst _, .bl _, _, _ => by simp [toP, PyData.eqv, deq]
  | .lst _, .int _, _, _ => by simp [toP, PyData.eqv, deq]
  | .lst _, .str _, _, _ => by simp [toP, PyData.eqv, deq]
  | .lst _, .tup _, _, _ => by simp [toP, PyData.eqv, deq]
  | .lst _, .ins _ _ _, _, hb => by simp [isP] at hb
  | .lst _, .hand, _, hb => by simp [isP] at hb
theorem deqs_toPs : ∀ a b : List D, isPs a = true → isPs b = true → PyData.eqvAll (toPs a) (toPs b) = deqs a b
  | [], [], _, _ => by simp [toPs, PyData.eqvAll, deqs]
  | [], _ :: _, _, _ => by simp [toPs, PyData.eqvAll, deqs]
  | _ :: _, [], _, _ => by simp [toPs, PyData.eqvAll, deqs]
  | x :: xs, y :: ys, ha, hb => by
    have ha' : isP x = true ∧ isPs xs = true := by simpa [isPs] using ha
    have hb' : isP y = true ∧ isPs ys = true := by simpa [isPs] using hb
    simp [toPs, PyData.eqvAll, deqs, deq_toP x y ha'.1 hb'.1, deqs_toPs xs ys ha'.2 hb'.2]
end
theorem shaped_of {cm : Cm} {F : AP} {hd : Option Addr} {H : Hp} {w : V} {d : D} (h : Den cm F hd H w d) (e : eqOk d) : SeqAt.shaped (toP d) = true := by
  unfold SeqAt.shaped
  rw [h.lay e.1, dep_toP d e.1, decide_eq_true e.2]
  rfl
theorem toPs_map : ∀ ds : List D, toPs ds = ds.map toP
  | [] => rfl
  | d :: ds => by rw [toPs, toPs_map ds]; rfl
/-! ### the state -/
/-- the hand: its cells, its place, the great cell being taken, the mixed sum -/
def HandOk (F : AP) (H : Hp) (h : Addr) : Prop := ∃ (c : Addr) (cells : List Int) (p r m : Int), H h = some (.lst [.ref c, .int p, .int r, .int m]) ∧ F c ∧ H c = some (.lst (cells.map V.int)) ∧
  cells.length ≤ 63 ∧ (∀ z ∈ cells, 0 ≤ z) ∧ 0 ≤ p ∧ p ≤ 63 ∧ 0 ≤ r ∧ 0 ≤ m ∧ m < 2 ^ 31
structure WF (F : AP) (hd : Option Addr) (H : Hp) : Prop where
  tr : ∀ a, F a → H a ≠ none
  nh : ∀ a, F a → hd ≠ some a
  ho : ∀ h, hd = some h → HandOk F H h
/-- the entry: the hand, the heap, the frozen part -/
structure Sit where
  hd : Option Addr
  H0 : Hp
  F0 : AP
  an : List (AP × Hp)
  me : Option Addr
/-- how an exception lies in the heap -/
def DenX (cm : Cm) (F : AP) (hd : Option Addr) (H : Hp) (cls : Value) (dd : Option Addr) (x : D) : Prop :=
  ∃ (c : Nat) (ns : List Nat) (vs : List V) (ds : List D), x = .ins c ns ds ∧ cls = .ref (cm.ca c) ∧ DenL cm F hd H vs ds ∧ ns.length = ds.length ∧
    ((ns = [] ∧ dd = none) ∨ ∃ (d : Addr) (fs : List (Str × V)), dd = some d ∧ H d = some (.xd fs) ∧ ∀ (j n : Nat) (v : V), ns[j]? = some n → vs[j]? = some v → fs.lookup (cm.fl n) = some v)
def SlotR (cm : Cm) (S : Sit) (F : AP) (H : Hp) (v : Option V) : Slot → Prop
  | .val d => ∃ w, v = some w ∧ Den cm F S.hd H w d
  | .own ds => ∃ p vs, v = some (.ref p) ∧ ¬ F p ∧ S.hd ≠ some p ∧ S.H0 p = none ∧ H p = some (.lst vs) ∧ vs.length ≤ sizeLine ∧ DenL cm F S.hd H vs ds
  | .ownI c all ns ds => ∃ p dx fs, v = some (.ref p) ∧ ¬ F p ∧ S.hd ≠ some p ∧ (S.H0 p = none ∧ S.me = some p) ∧ H p = some (.ins (cm.ca c) dx fs) ∧ fs.map (·.1) = ns.map cm.fl ∧ InsOk cm c all ∧ (∀ n ∈ ns, n ∈ all) ∧ DenL cm F S.hd H (fs.map (·.2)) ds
  | .mat rs => ∃ (p : Addr) (qs : List Addr), v = some (.ref p) ∧ ¬ F p ∧ S.hd ≠ some p ∧ S.H0 p = none ∧ H p = some (.lst (qs.map V.ref)) ∧ qs.length = rs.length ∧ qs.length ≤ sizeLine ∧ qs.Nodup ∧ p ∉ qs ∧
      ∀ (k : Nat) (q : Addr) (row : List D), qs[k]? = some q → rs[k]? = some row → ¬ F q ∧ S.hd ≠ some q ∧ S.H0 q = none ∧ ∃ vs, H q = some (.lst vs) ∧ vs.length ≤ sizeLine ∧ DenL cm F S.hd H vs row
  | .exc x => ∃ a cls dd, cm.ca.xc = some (a, cls, dd) ∧ v = some (.ref a) ∧ DenX cm F S.hd H cls dd x
structure Real (cm : Cm) (S : Sit) (F : AP) (ρ : Env) (σ : L2.St) (H : Hp) : Prop where
  wf : WF F S.hd H
  len : ρ.length = σ.length
  sl : ∀ (i : Nat) (s : Slot), ρ[i]? = some (some s) → ∃ v, σ[i]? = some v ∧ SlotR cm S F H v s
  ap : ∀ (i j : Nat) (s t : Slot) (p : Addr), ρ[i]? = some (some s) → ρ[j]? = some (some t) → s.ow = true → t.ow = true → σ[i]? = some (some (.ref p)) → σ[j]? = some (some (.ref p)) → i = j
  mt : ∀ (i j : Nat) (s t : Slot), ρ[i]? = some (some s) → ρ[j]? = some (some t) → s.mt = true → t.ow = true → i = j
  sb : SB S.hd S.H0 H
  up : ∀ a, S.F0 a → F a
  dn : ∀ a, F a → S.F0 a ∨ S.H0 a = none
  hc : ∀ h c r, S.hd = some h → S.H0 h = some (.lst (.ref c :: r)) → ∃ r', H h = some (.lst (.ref c :: r'))
  an : ∀ q ∈ S.an, Sta q.1 q.2 H ∧ ∀ a, q.1 a → F a
/-- the frozen part and what is owned -/
def Fb (F : AP) (ρ : Env) (σ : L2.St) : AP := fun a => F a ∨ ∃ (i : Nat) (s : Slot), ρ[i]? = some (some s) ∧ s.ow = true ∧ σ[i]? = some (some (.ref a))
/-- a term was evaluated -/
structure Ev (hd : Option Addr) (H H' : Hp) (F F' : AP) : Prop where
  sb : SB hd H H'
  up : ∀ a, F a → F' a
  dn : ∀ a, F' a → F a ∨ H a = none
  wf : WF F' hd H'
  hc : ∀ h c r, hd = some h → H h = some (.lst (.ref c :: r)) → ∃ r', H' h = some (.lst (.ref c :: r'))
section
variable {cm : Cm} {S : Sit} {F F' F1 F2 : AP} {ρ : Env} {σ : L2.St} {H H' H1 H2 : Hp} {hd : Option Addr}
theorem Ev.refl (w : WF F hd H) : Ev hd H H F F := ⟨.refl _ _, fun _ h => h, fun _ h => .inl h, w, fun h c r _ q => ⟨r, q⟩⟩
theorem Ev.trans (w : WF F hd H) (a : Ev hd H H1 F F1) (b : Ev hd H1 H2 F1 F2) : Ev hd H H2 F F2 := by
  refine ⟨a.sb.trans b.sb, fun x h => b.up x (a.up x h), fun x h => ?_, b.wf, fun h c r e q => ?_⟩
  rotate_left
  · obtain ⟨r', q'⟩ := a.hc h c r e q
    exact b.hc h c r' e q'
  rcases b.dn x h with h1 | h1
  · exact a.dn x h1
  · by_cases e : hd = some x
    · exact absurd e (b.wf.nh x h)
    · exact .inr (a.sb.free h1 e)
theorem Ev.sta (w : WF F hd H) (e : Ev hd H H1 F F1) : Sta F H H1 := by
  refine ⟨fun a f => ?_, fun a xs h => e.sb a _ h ?_, fun a o u h => e.sb a _ h ?_⟩
  · cases q : H a with
    | none => exact absurd q (w.tr a f)
    | some o => exact e.sb a o q (w.nh a f)
  · intro z
    obtain ⟨c, cells, p, r, m, q, _⟩ := w.ho a z
    rw [h] at q; cases q
  · intro z
    obtain ⟨c, cells, p, r, m, q, _⟩ := w.ho a z
    rw [h] at q; cases q
theorem Real.fb_tr (R : Real cm S F ρ σ H) : ∀ a, Fb F ρ σ a → H a ≠ none ∧ S.hd ≠ some a := fun a h => by
  rcases h with h | ⟨i, s, h1, ho, h2⟩
  · exact ⟨R.wf.tr a h, R.wf.nh a h⟩
  · obtain ⟨v, e, hs⟩ := R.sl i _ h1
    rw [h2] at e
    cases e
    cases s with
    | val d => cases ho
    | exc d => cases ho
    | own ds =>
      obtain ⟨p, vs, ev, _, hn, _, hp, _⟩ := hs
      cases ev
      exact ⟨(by rw [hp]; exact (fun z => nomatch z)), hn⟩
    | ownI c all ns ds =>
      obtain ⟨p, dx, fs, ev, _, hn, _, hp, _⟩ := hs
      cases ev
      exact ⟨(by rw [hp]; exact (fun z => nomatch z)), hn⟩
    | mat rs =>
      obtain ⟨p, qs, ev, _, hn, _, hp, _⟩ := hs
      cases ev
      exact ⟨(by rw [hp]; exact (fun z => nomatch z)), hn⟩
theorem DenX.ev {cls : Value} {dd : Option Addr} {x : D} (w : WF F hd H) (e : Ev hd H H1 F F1) (h : DenX cm F hd H cls dd x) : DenX cm F1 hd H1 cls dd x := by
  obtain ⟨c, ns, vs, ds, e1, e2, e3, e4, e5⟩ := h
  refine ⟨c, ns, vs, ds, e1, e2, e3.mono e.up (e.sta w), e4, ?_⟩
  rcases e5 with e5 | ⟨d, fs, h1, h2, h3⟩
  · exact .inl e5
  · refine .inr ⟨d, fs, h1, e.sb d _ h2 fun z => ?_, h3⟩
    obtain ⟨_, _, _, _, _, q, _⟩ := w.ho d z
    rw [h2] at q; cases q
theorem Real.stab (R : Real cm S F ρ σ H) (e : Ev S.hd H H1 F F1) : Sta (Fb F ρ σ) H H1 := by
  refine ⟨fun a f => ?_, (e.sta R.wf).2.1, (e.sta R.wf).2.2⟩
  obtain ⟨h1, h2⟩ := R.fb_tr a f
  cases q : H a with
  | none => exact absurd q h1
  | some o => exact e.sb a o q h2
theorem Real.ev (R : Real cm S F ρ σ H) (e : Ev S.hd H H1 F F1) : Real cm S F1 ρ σ H1 := by
  refine ⟨e.wf, R.len, fun i s h => ?_, R.ap, R.mt, R.sb.trans e.sb, fun a h => e.up a (R.up a h), fun a h => ?_, fun h c r eh q => ?_, fun q hq => ?_⟩
  · obtain ⟨v, hv, r⟩ := R.sl i s h
    refine ⟨v, hv, ?_⟩
    cases s with
    | val d =>
      obtain ⟨w, rfl, q⟩ := r
      exact ⟨w, rfl, q.mono e.up (e.sta R.wf)⟩
    | own ds =>
      obtain ⟨p, vs, rfl, nf, nh, n0, hp, l, q⟩ := r
      refine ⟨p, vs, rfl, fun z => ?_, nh, n0, e.sb p _ hp nh, l, q.mono e.up (e.sta R.wf)⟩
      rcases e.dn p z with z | z
      · exact nf z
      · rw [hp] at z; cases z
    | ownI c all ns ds =>
      obtain ⟨p, dx, fs, rfl, nf, nh, n0, hp, hk, ho, hn, q⟩ := r
      refine ⟨p, dx, fs, rfl, fun z => ?_, nh, n0, e.sb p _ hp nh, hk, ho, hn, q.mono e.up (e.sta R.wf)⟩
      rcases e.dn p z with z | z
      · exact nf z
      · rw [hp] at z; cases z
    | mat rs =>
      obtain ⟨p, qs, rfl, nf, nh, n0, hp, h1, h2, h3, h4, h5⟩ := r
      refine ⟨p, qs, rfl, fun z => ?_, nh, n0, e.sb p _ hp nh, h1, h2, h3, h4, fun k q row hq hr => ?_⟩
      · rcases e.dn p z with z | z
        · exact nf z
        · rw [hp] at z; cases z
      · obtain ⟨g1, g2, g3, vs, g4, g5, g6⟩ := h5 k q row hq hr
        refine ⟨fun z => ?_, g2, g3, vs, e.sb q _ g4 g2, g5, g6.mono e.up (e.sta R.wf)⟩
        rcases e.dn q z with z | z
        · exact g1 z
        · rw [g4] at z; cases z
    | exc x =>
      obtain ⟨a, cls, dd, h1, h2, h3⟩ := r
      exact ⟨a, cls, dd, h1, h2, h3.ev R.wf e⟩
  · rcases e.dn a h with h1 | h1
    · exact R.dn a h1
    · by_cases z : S.hd = some a
      · exact absurd z (e.wf.nh a h)
      · exact .inr (R.sb.free h1 z)
  · obtain ⟨r', q'⟩ := R.hc h c r eh q
    exact e.hc h c r' eh q'
  · obtain ⟨h1, h2⟩ := R.an q hq
    exact ⟨h1.trans ((e.sta R.wf).sub h2), fun a z => e.up a (h2 a z)⟩
theorem Real.ev0 (R : Real cm S F ρ σ H) : Ev S.hd S.H0 H S.F0 F := ⟨R.sb, R.up, R.dn, R.wf, R.hc⟩
theorem Fb.up (h : ∀ a, F a → F' a) : ∀ a, Fb F ρ σ a → Fb F' ρ σ a := fun a x => x.elim (fun z => .inl (h a z)) .inr
/-- a new object beside: a list or an instance that is frozen at once -/
theorem WF.new {p : Addr} {o : HO} (w : WF F hd H) (hp : H p = none) : WF (fun a => F a ∨ a = p) hd (upd H p o) := by
  have np : ∀ h, hd = some h → h ≠ p := fun h e z => by
    obtain ⟨c, cells, p', r, m, q, _⟩ := w.ho h e
    rw [z, hp] at q; cases q
  refine ⟨fun a h => ?_, fun a h => ?_, fun h e => ?_⟩
  · by_cases z : a = p
    · rw [z, upd_same]; exact fun q => nomatch q
    · rw [upd_ne z]
      exact w.tr a (h.elim id fun q => absurd q z)
  · rcases h with h | h
    · exact w.nh a h
    · intro z; exact np a z h
  · obtain ⟨c, cells, p', r, m, q, fc, hc, rest⟩ := w.ho h e
    refine ⟨c, cells, p', r, m, by rw [upd_ne (np h e)]; exact q, .inl fc, by rw [upd_ne (ne_of_none hc hp)]; exact hc, rest⟩
/-- .. or not -/
theorem WF.new0 {p : Addr} {o : HO} (w : WF F hd H) (hp : H p = none) : WF F hd (upd H p o) := by
  have q := w.new (o := o) hp
  refine ⟨fun a h => q.tr a (.inl h), fun a h => w.nh a h, fun h e => ?_⟩
  obtain ⟨c, cells, p', r, m, q1, fc, hc, rest⟩ := w.ho h e
  refine ⟨c, cells, p', r, m, by rw [upd_ne (ne_of_none q1 hp)]; exact q1, fc, by rw [upd_ne (ne_of_none hc hp)]; exact hc, rest⟩
theorem Ev.new {p : Addr} {o : HO} (w : WF F hd H) (hp : H p = none) : Ev hd H (upd H p o) F (fun a => F a ∨ a = p) :=
  ⟨SB.new hp, fun _ h => .inl h, fun a h => h.elim .inl fun e => .inr (e ▸ hp), w.new hp, fun h c r _ q => ⟨r, by rw [upd_ne (ne_of_none q hp)]; exact q⟩⟩
theorem Ev.new0 {p : Addr} {o : HO} (w : WF F hd H) (hp : H p = none) : Ev hd H (upd H p o) F F :=
  ⟨SB.new hp, fun _ h => h, fun a h => .inl h, w.new0 hp, fun h c r _ q => ⟨r, by rw [upd_ne (ne_of_none q hp)]; exact q⟩⟩
end
end DV
/-! DV: the terms' rules, by the hand layer's. -/
namespace DV
open PySem PySem.Spec PyProof.Rows L2
/-- frozen but for the list itself -/
def Cc (cm : Cm) (F : AP) (hd : Option Addr) (H : Hp) (u : V) : D → Prop
  | .lst ds => ∃ (a : Addr) (vs : List V), u = .ref a ∧ H a = some (.lst vs) ∧ vs.length ≤ sizeLine ∧ DenL cm F hd H vs ds
  | .ins c ns ds => ∃ (a dx : Addr) (fs : List (Str × V)), u = .ref a ∧ H a = some (.ins (cm.ca c) dx fs) ∧ fs.map (·.1) = ns.map cm.fl ∧ InsOk cm c ns ∧ DenL cm F hd H (fs.map (·.2)) ds
  | d => Den cm F hd H u d
theorem Den.cc {cm : Cm} {F : AP} {hd : Option Addr} {H : Hp} {u : V} {d : D} (h : Den cm F hd H u d) : Cc cm F hd H u d := by
  cases h with
  | lst f r l q => exact ⟨_, _, rfl, r, l, q⟩
  | non => exact .non
  | bl b => exact .bl b
  | int i => exact .int i
  | str x h => exact .str x h
  | tup r l q => exact .tup r l q
  | ins f h n k r => exact ⟨_, _, _, rfl, h, n, k, r⟩
  | hand h => exact .hand h
/-- what is known of a value: whole, clean, clean but itself -/
structure Kn (cm : Cm) (hd : Option Addr) (F B : AP) (H : Hp) (c k : Prop) (u : V) (d : D) : Prop where
  b : Den cm B hd H u d
  c : c → Den cm F hd H u d
  k : k → Cc cm F hd H u d
inductive KnL (cm : Cm) (hd : Option Addr) (F B : AP) (H : Hp) : Es → (E → Prop) → (E → Prop) → List V → List D → Prop
  | nil {c k : E → Prop} : KnL cm hd F B H .nil c k [] []
  | cons {c k : E → Prop} {e : E} {r : Es} {u : V} {d : D} {us : List V} {ds : List D} : Kn cm hd F B H (c e) (k e) u d → KnL cm hd F B H r c k us ds → KnL cm hd F B H (.cons e r) c k (u :: us) (d :: ds)
/-- what is wanted of a value -/
def Lk (cm : Cm) (S : Sit) (ρ : Env) (σ : L2.St) (c k : Prop) (Qd : D → Prop) (F : AP) (H : Hp) (Q : VK) : Prop :=
  ∀ (F' : AP) (H' : Hp) (u : V) (d : D), Ev S.hd H H' F F' → Kn cm S.hd F' (Fb F' ρ σ) H' c k u d → Qd d → Q u H'
def LkB (S : Sit) (Qd : Bool → Prop) (F : AP) (H : Hp) (Q : Bool → Hp → Prop) : Prop :=
  ∀ (F' : AP) (H' : Hp) (b : Bool), Ev S.hd H H' F F' → Qd b → Q b H'
def Xk (cm : Cm) (S : Sit) (Ed : D → Prop) (F : AP) (H : Hp) (R : Value → Option Addr → Hp → Prop) : Prop :=
  ∀ (F' : AP) (H' : Hp) (cls : Value) (dd : Option Addr) (x : D), Ev S.hd H H' F F' → DenX cm F' S.hd H' cls dd x → Ed x → R cls dd H'
/-- a term's reading -/
def tV (cm : Cm) (v : Env → W D) (c k : Env → Bool) (Wx : WX) : TE := fun σ H Q => ∃ (S : Sit) (F : AP) (ρ : Env) (Qd Ed : D → Prop),
  Real cm S F ρ σ H ∧ v ρ Qd Ed ∧ Lk cm S ρ σ (c ρ = true) (k ρ = true) Qd F H Q ∧ Xk cm S Ed F H (fun cls d H' => Wx cls d σ H')
def tT (cm : Cm) (t : Env → W Bool) (Wx : WX) : TT := fun σ H Q => ∃ (S : Sit) (F : AP) (ρ : Env) (Qd : Bool → Prop) (Ed : D → Prop),
  Real cm S F ρ σ H ∧ t ρ Qd Ed ∧ LkB S Qd F H Q ∧ Xk cm S Ed F H (fun cls d H' => Wx cls d σ H')
/-- a walk over items: Fs stays -/
structure Wk (cm : Cm) (hd : Option Addr) (Fs Fi : AP) (H : Hp) (J : It) (ds : List D) : Prop where
  len : ds.length ≤ sizeLine
  go : ∀ (i : Nat) (H1 : Hp), Sta Fs H H1 → i < ds.length → J.go i H1
  stop : ∀ H1 : Hp, Sta Fs H H1 → J.stop ds.length H1
  yld : ∀ (i : Nat) (H1 : Hp) (x : V) (H2 : Hp), Sta Fs H H1 → i < ds.length → J.yld i H1 x H2 → (H2 = H1 ∨ ∃ p vs, H1 p = none ∧ H2 = upd H1 p (.tup vs)) ∧ ∃ d, ds[i]? = some d ∧ Den cm Fi hd H2 x d
def tI (cm : Cm) (it : Env → W (List D)) (c cc : Env → Bool) (Wx : WX) : TI := fun σ H R => ∃ (S : Sit) (F : AP) (ρ : Env) (Qd : List D → Prop) (Ed : D → Prop),
  Real cm S F ρ σ H ∧ it ρ Qd Ed ∧
  (∀ (F' : AP) (H' : Hp) (ds : List D) (J : It), Ev S.hd H H' F F' → (c ρ = true → Wk cm S.hd F' F' H' J ds) → (cc ρ = true → Wk cm S.hd (Fb F' ρ σ) F' H' J ds) → Qd ds → R J H') ∧
  Xk cm S Ed F H (fun cls d H' => Wx cls d σ H')
def tO (cm : Cm) (t : Env → W (Option Int)) (Wx : WX) : TO := fun σ H Q => ∃ (S : Sit) (F : AP) (ρ : Env) (Qd : Option Int → Prop) (Ed : D → Prop),
  Real cm S F ρ σ H ∧ t ρ Qd Ed ∧ (∀ (F' : AP) (H' : Hp) (b : Option Int), Ev S.hd H H' F F' → Qd b → Q b H') ∧ Xk cm S Ed F H (fun cls d H' => Wx cls d σ H')
section
variable {cm : Cm} {S : Sit} {F F1 : AP} {ρ : Env} {σ : L2.St} {H H1 : Hp} {c k : Prop} {Qd : D → Prop} {Ed : D → Prop} {Q : VK} {R : Value → Option Addr → Hp → Prop} {Wx : WX}
theorem Cc.mono {F' : AP} {hd : Option Addr} {u : V} {d : D} {B : AP} (hF : ∀ a, F a → F' a) (s : Sta F H H1) (sb : Sta B H H1) (hb : Den cm B hd H u d) (h : Cc cm F hd H u d) : Cc cm F' hd H1 u d := by
  cases hb with
  | lst f r l q =>
    obtain ⟨a, vs, e, r', l', q'⟩ := h
    cases e
    exact ⟨_, _, rfl, (sb.1 _ f).trans r', l', q'.mono hF s⟩
  | non => exact Den.mono hF s h
  | bl b => exact Den.mono hF s h
  | int i => exact Den.mono hF s h
  | str x h' => exact Den.mono hF s h
  | tup r l q => exact Den.mono hF s h
  | ins f h' n k r =>
    obtain ⟨a, dx, fs, e, r', l', k', q'⟩ := h
    cases e
    exact ⟨_, _, _, rfl, (sb.1 _ f).trans r', l', k', q'.mono hF s⟩
  | hand h' => exact Den.mono hF s h
theorem Kn.ev {u : V} {d : D} (r : Real cm S F ρ σ H) (e : Ev S.hd H H1 F F1) (h : Kn cm S.hd F (Fb F ρ σ) H c k u d) : Kn cm S.hd F1 (Fb F1 ρ σ) H1 c k u d :=
  ⟨h.b.mono (Fb.up e.up) (r.stab e), fun z => (h.c z).mono e.up (e.sta r.wf), fun z => (h.k z).mono e.up (e.sta r.wf) (r.stab e) h.b⟩
theorem KnL.ev {fc fk : E → Prop} (r : Real cm S F ρ σ H) (e : Ev S.hd H H1 F F1) : ∀ {es : Es} {us : List V} {ds : List D}, KnL cm S.hd F (Fb F ρ σ) H es fc fk us ds → KnL cm S.hd F1 (Fb F1 ρ σ) H1 es fc fk us ds
  | _, _, _, .nil => .nil
  | _, _, _, .cons h t => .cons (h.ev r e) (KnL.ev r e t)
theorem Kn.of {u : V} {d : D} (hb : Den cm (Fb F ρ σ) S.hd H u d) (hc : c → Den cm F S.hd H u d) (hk : k → c) : Kn cm S.hd F (Fb F ρ σ) H c k u d := ⟨hb, hc, fun z => (hc (hk z)).cc⟩
theorem KnL.ball {hd : Option Addr} {B : AP} {fc fk : E → Prop} : ∀ {es : Es} {us : List V} {ds : List D}, KnL cm hd F B H es fc fk us ds → DenL cm B hd H us ds
  | _, _, _, .nil => .nil
  | _, _, _, .cons h t => .cons h.b (KnL.ball t)
theorem KnL.cle {hd : Option Addr} {B : AP} {ow : Nat → Bool} {fk : E → Prop} : ∀ {es : Es} {us : List V} {ds : List D}, KnL cm hd F B H es (fun e => cl ow e = true) fk us ds → cls ow es = true → DenL cm F hd H us ds
  | _, _, _, .nil, _ => .nil
  | _, _, _, .cons (e := e) (r := r) h t, q => by
    have q' : cl ow e = true ∧ cls ow r = true := by simpa [cls] using q
    exact .cons (h.c q'.1) (KnL.cle t q'.2)
theorem Lk.ev (w : WF F S.hd H) (h : Lk cm S ρ σ c k Qd F H Q) (e : Ev S.hd H H1 F F1) : Lk cm S ρ σ c k Qd F1 H1 Q := fun F' H' u d e' => h F' H' u d (e.trans w e')
theorem Xk.ev (w : WF F S.hd H) (h : Xk cm S Ed F H R) (e : Ev S.hd H H1 F F1) : Xk cm S Ed F1 H1 R := fun F' H' cls dd x e' => h F' H' cls dd x (e.trans w e')
theorem LkB.ev {Qb : Bool → Prop} {Q : Bool → Hp → Prop} (w : WF F S.hd H) (h : LkB S Qb F H Q) (e : Ev S.hd H H1 F F1) : LkB S Qb F1 H1 Q := fun F' H' b e' => h F' H' b (e.trans w e')
theorem fb_in {F : AP} : ∀ a, F a → Fb F ρ σ a := fun _ h => .inl h
theorem Den.inb {u : V} {d : D} {hd : Option Addr} (h : Den cm F hd H u d) : Den cm (Fb F ρ σ) hd H u d := h.mono fb_in (.refl _ _)
theorem DenL.inb {u : List V} {d : List D} {hd : Option Addr} (h : DenL cm F hd H u d) : DenL cm (Fb F ρ σ) hd H u d := h.mono fb_in (.refl _ _)
/-- a value that is frozen whole -/
theorem Kn.all {u : V} {d : D} (h : Den cm F S.hd H u d) : Kn cm S.hd F (Fb F ρ σ) H c k u d := ⟨h.inb, fun _ => h, fun _ => h.cc⟩
/-- a value that holds no reference, at once -/
theorem Lk.bare {u : V} {d : D} (w : WF F S.hd H) (h : Lk cm S ρ σ c k Qd F H Q) (q : Qd d) (hd : Den cm F S.hd H u d) : Q u H :=
  h F H u d (.refl w) (.all hd) q
theorem Lk.here {u : V} {d : D} (w : WF F S.hd H) (h : Lk cm S ρ σ c k Qd F H Q) (q : Qd d) (hb : Kn cm S.hd F (Fb F ρ σ) H c k u d) : Q u H :=
  h F H u d (.refl w) hb q
theorem Xk.no : Xk cm S (fun _ => False) F H R := fun _ _ _ _ _ _ _ q => q.elim
theorem Real.new (r : Real cm S F ρ σ H) : ∀ p o, H p = none → Sta (Fb F ρ σ) H (upd H p o) := fun p o hp => r.stab (Ev.new0 r.wf hp)
/-- a new list, frozen -/
theorem Lk.newL {vs : List V} {ds : List D} (r : Real cm S F ρ σ H) (h : Lk cm S ρ σ c k Qd F H Q) (q : Qd (.lst ds)) (l : vs.length ≤ sizeLine) (hb : DenL cm (Fb F ρ σ) S.hd H vs ds) (hc : c → DenL cm F S.hd H vs ds) (hk : k → c) :
    ∀ p, H p = none → Q (.ref p) (upd H p (.lst vs)) := fun p hp => by
  have e : Ev S.hd H (upd H p (.lst vs)) F (fun a => F a ∨ a = p) := Ev.new r.wf hp
  refine h _ _ _ _ e (.of ?_ (fun hc' => ?_) hk) q
  · exact .lst (.inl (.inr rfl)) upd_same l (hb.mono (Fb.up fun a z => .inl z) (r.new p _ hp))
  · exact .lst (.inr rfl) upd_same l ((hc hc').mono (fun a z => .inl z) (e.sta r.wf))
theorem Lk.newT {vs : List V} {ds : List D} (r : Real cm S F ρ σ H) (h : Lk cm S ρ σ c k Qd F H Q) (q : Qd (.tup ds)) (l : vs.length ≤ sizeLine) (hb : DenL cm (Fb F ρ σ) S.hd H vs ds) (hc : c → DenL cm F S.hd H vs ds) (hk : k → c) :
    ∀ p, H p = none → Q (.ref p) (upd H p (.tup vs)) := fun p hp => by
  have e : Ev S.hd H (upd H p (.tup vs)) F F := Ev.new0 r.wf hp
  refine h _ _ _ _ e (.of ?_ (fun hc' => ?_) hk) q
  · exact .tup (.inl (.inl upd_same)) l (hb.mono (fun _ z => z) (r.new p _ hp))
  · exact .tup (.inl (.inl upd_same)) l ((hc hc').mono (fun _ z => z) (e.sta r.wf))
/-- the frozen part, or all, as what is made is clean or not -/
def Fc (c : Prop) (F B : AP) : AP := fun a => F a ∨ (¬ c ∧ B a)
theorem Cc.sub {F' : AP} {hd : Option Addr} {u : V} {d : D} (hF : ∀ a, F a → F' a) (h : Cc cm F hd H u d) : Cc cm F' hd H u d := by
  cases d with
  | lst ds =>
    obtain ⟨a, vs, e, r', l', q'⟩ := h
    exact ⟨a, vs, e, r', l', q'.mono hF (.refl _ _)⟩
  | ins c ns ds =>
    obtain ⟨a, dx, fs, e, r', l', k', q'⟩ := h
    exact ⟨a, dx, fs, e, r', l', k', q'.mono hF (.refl _ _)⟩
  | _ => exact Den.mono hF (.refl _ _) h
theorem Kn.fc {B : AP} {hd : Option Addr} {u : V} {d : D} {cx kx : Prop} (h : Kn cm hd F B H cx kx u d) (hc : c → kx) : Cc cm (Fc c F B) hd H u d := by
  by_cases z : c
  · exact (h.k (hc z)).sub fun a => .inl
  · exact h.b.cc.sub fun a q => .inr ⟨z, q⟩
theorem fc_b (a : Addr) (h : Fc c F (Fb F ρ σ) a) : Fb F ρ σ a := h.elim .inl fun z => z.2
theorem fc_c {B : AP} (z : c) (a : Addr) (h : Fc c F B a) : F a := h.elim id fun q => absurd z q.1
theorem Kn.ofc {u : V} {d : D} (h : Den cm (Fc c F (Fb F ρ σ)) S.hd H u d) (hk : k → c) : Kn cm S.hd F (Fb F ρ σ) H c k u d :=
  .of (h.mono fc_b (.refl _ _)) (fun z => h.mono (fc_c z) (.refl _ _)) hk
theorem Lk.fcL {vs : List V} {ds : List D} (r : Real cm S F ρ σ H) (h : Lk cm S ρ σ c k Qd F H Q) (q : Qd (.lst ds)) (l : vs.length ≤ sizeLine) (hb : DenL cm (Fc c F (Fb F ρ σ)) S.hd H vs ds) (hk : k → c) :
    ∀ p, H p = none → Q (.ref p) (upd H p (.lst vs)) := h.newL r q l (hb.mono fc_b (.refl _ _)) (fun z => hb.mono (fc_c z) (.refl _ _)) hk
theorem Lk.fcT {vs : List V} {ds : List D} (r : Real cm S F ρ σ H) (h : Lk cm S ρ σ c k Qd F H Q) (q : Qd (.tup ds)) (l : vs.length ≤ sizeLine) (hb : DenL cm (Fc c F (Fb F ρ σ)) S.hd H vs ds) (hk : k → c) :
    ∀ p, H p = none → Q (.ref p) (upd H p (.tup vs)) := h.newT r q l (hb.mono fc_b (.refl _ _)) (fun z => hb.mono (fc_c z) (.refl _ _)) hk
theorem Lk.fc {u : V} {d : D} (r : Real cm S F ρ σ H) (h : Lk cm S ρ σ c k Qd F H Q) (q : Qd d) (hb : Den cm (Fc c F (Fb F ρ σ)) S.hd H u d) (hk : k → c) : Q u H := h.here r.wf q (.ofc hb hk)
/-- one term -/
theorem one {va : Env → W D} {ca ka : Env → Bool} {P : D → Prop} {Gl : VK} (r : Real cm S F ρ σ H) (h : va ρ P Ed) (xk : Xk cm S Ed F H (fun cls d H' => Wx cls d σ H'))
    (hk : ∀ (F2 : AP) (H2 : Hp) (v : V) (x : D), Ev S.hd H H2 F F2 → Real cm S F2 ρ σ H2 → Xk cm S Ed F2 H2 (fun cls d H' => Wx cls d σ H') → Kn cm S.hd F2 (Fb F2 ρ σ) H2 (ca ρ = true) (ka ρ = true) v x → P x → Gl v H2) : tV cm va ca ka Wx σ H Gl :=
  ⟨S, F, ρ, P, Ed, r, h, fun F1 H1 v x e1 b1 q1 => hk F1 H1 v x e1 (r.ev e1) (xk.ev r.wf e1) b1 q1, xk⟩
/-- two terms in a row -/
theorem two {va vb : Env → W D} {ca ka cb kb : Env → Bool} {P : D → D → Prop} {Gl : V → V → Hp → Prop} (r : Real cm S F ρ σ H) (h : va ρ (fun x => vb ρ (fun y => P x y) Ed) Ed) (xk : Xk cm S Ed F H (fun cls d H' => Wx cls d σ H'))
    (hk : ∀ (F2 : AP) (H2 : Hp) (v w : V) (x y : D), Ev S.hd H H2 F F2 → Real cm S F2 ρ σ H2 → Xk cm S Ed F2 H2 (fun cls d H' => Wx cls d σ H') → Kn cm S.hd F2 (Fb F2 ρ σ) H2 (ca ρ = true) (ka ρ = true) v x →
      Kn cm S.hd F2 (Fb F2 ρ σ) H2 (cb ρ = true) (kb ρ = true) w y → P x y → Gl v w H2) :
    tV cm va ca ka Wx σ H fun v H1 => tV cm vb cb kb Wx σ H1 fun w H2 => Gl v w H2 :=
  one r h xk fun F1 H1 v x e1 r1 x1 b1 q1 => one r1 q1 x1 fun F2 H2 w y e2 r2 x2 b2 q2 => hk F2 H2 v w x y (e1.trans r.wf e2) r2 x2 (b1.ev r1 e2) b2 q2
end
section
variable {X : Cx} {ca : Ca} {fl : Nat → Str} {Wx : WX}
abbrev cmX (X : Cx) (ca : Ca) (fl : Nat → Str) : Cm := ⟨X.K, ca, fl⟩
/-- what truth says of data -/
theorem tru_of {cm : Cm} {F : AP} {hd : Option Addr} {H : Hp} {w : V} {d : D} {Qb : Bool → Prop} {Ed : D → Prop} (h : Den cm F hd H w d) (q : truW d Qb Ed) : ∃ k, TruV cm.K w H k ∧ Qb k := by
  cases h with
  | non => exact ⟨false, rfl, q⟩
  | bl b => exact ⟨b, rfl, q⟩
  | int i => exact ⟨_, rfl, q⟩
  | str x hx => exact ⟨_, ⟨q.1, rfl⟩, q.2⟩
  | tup r l t =>
    refine ⟨_, .inr (.inl ⟨_, r, rfl⟩), ?_⟩
    have e := t.length
    have q' : Qb (!List.isEmpty _) := q
    rename_i a vs ds
    have : vs.isEmpty = ds.isEmpty := by cases vs <;> cases ds <;> simp_all
    rw [this]; exact q'
  | lst f r l t =>
    refine ⟨_, .inl ⟨_, .inl (.inl r), rfl⟩, ?_⟩
    have e := t.length
    have q' : Qb (!List.isEmpty _) := q
    rename_i a vs ds
    have : vs.isEmpty = ds.isEmpty := by cases vs <;> cases ds <;> simp_all
    rw [this]; exact q'
  | ins f r n k t => exact q.elim
  | hand f => exact q.elim
def PlT (X : Cx) (e : Expr) : Prop := ∀ whole, isTrue e X.env whole = (do let v ← whole; standAt e.pos; holding [v] (truthy v))
theorem pt_of {e : Expr} {v : Env → W D} {c k : Env → Bool} (he : PE X e (tV (cmX X ca fl) v c k Wx)) (hp : PlT X e) : PT X e (tT (cmX X ca fl) (fun ρ => bnd (v ρ) truW) Wx) := by
  refine ⟨fun pins s σ H Q I h => ?_⟩
  obtain ⟨S, F, ρ, Qd, Ed, r, hv, lk, xk⟩ := h
  refine (pt_truth he hp).run pins s σ H Q I ?_
  refine ⟨S, F, ρ, _, Ed, r, hv, fun F' H' u d e b q => ?_, xk⟩
  obtain ⟨k, h1, h2⟩ := tru_of b.b q
  exact ⟨k, h1, lk F' H' k e h2⟩
/-- a list or a tuple is walked -/
def iSeq (K : PySem.W.Frag) (tl : TE) : TI := fun σ H R => tl σ H fun x H1 => ∃ a, x = .ref a ∧ ((∃ xs, SqL K H1 a xs ∧ R (Itl K a) H1) ∨ ∃ xs, SqT K H1 a xs ∧ R (Itt K a) H1)
theorem pi_seq {tg l : Expr} {tl : TE} (hl : PE X l tl) : PI X tg l (iSeq X.K tl) := by
  refine ⟨fun pins s σ H R I h => ?_⟩
  refine thn (hl.run pins s σ H _ I h) fun v s1 ⟨x, H1, I1, r1, q1⟩ => ?_
  obtain ⟨a, e, q⟩ := q1
  subst e
  cases r1
  rcases q with ⟨xs, hq, q⟩ | ⟨xs, hq, q⟩
  · obtain ⟨its, rv, p, hz⟩ := I1.list hq
    refine wpAny_pyIter_list p.isList ?_
    refine ⟨s1.heap.objs.size, [s1.heap.objs.size], _, _, H1, rfl, I1.kept (t' := s1.toks) fun b o e => Heap.get?_push_of_some _ e, turn_list a _, ⟨_, Heap.get?_push_size _ rfl, rfl, rfl⟩, fun b hb => ?_, q⟩
    have e : b = s1.heap.objs.size := by simpa using hb
    subst e
    exact I1.fpOk (Nat.le_refl _) (I1.hok.fresh (Nat.le_refl _))
  · obtain ⟨its, rv, p, hz⟩ := I1.tuple hq
    refine wpAny_pyIter_tuple (show s1.heap.IsTuple a its.toArray from p) ?_
    refine ⟨s1.heap.objs.size, [s1.heap.objs.size], _, _, H1, rfl, I1.kept (t' := s1.toks) fun b o e => Heap.get?_push_of_some _ e, turn_tuple a _, ⟨_, Heap.get?_push_size _ rfl, rfl, rfl⟩, fun b hb => ?_, q⟩
    have e : b = s1.heap.objs.size := by simpa using hb
    subst e
    exact I1.fpOk (Nat.le_refl _) (I1.hok.fresh (Nat.le_refl _))
theorem wk_list {cm : Cm} {hd : Option Addr} {Fs Fi : AP} {H : Hp} {a : Addr} {vs : List V} {ds : List D} (hf : Fs a) (r : H a = some (.lst vs)) (l : vs.length ≤ sizeLine) (h : DenL cm Fi hd H vs ds) (hi : ∀ x, Fi x → Fs x) : Wk cm hd Fs Fi H (Itl cm.K a) ds := by
  have e := h.length
  refine ⟨by omega, fun i H1 s hl => ?_, fun H1 s => ?_, fun i H1 x H2 s hl y => ?_⟩
  · have hv : i < vs.length := by omega
    exact ⟨vs, vs[i], .inl (.inl ((s.1 _ hf).trans r)), List.getElem?_eq_getElem hv⟩
  · exact ⟨vs, .inl (.inl ((s.1 _ hf).trans r)), by omega⟩
  · obtain ⟨rfl, y⟩ := y
    have q := y vs (.inl (.inl ((s.1 _ hf).trans r)))
    obtain ⟨d, h1, h2⟩ := h.get q
    exact ⟨.inl rfl, d, h1, h2.mono (fun _ z => z) (s.sub hi)⟩
theorem wk_tup {cm : Cm} {hd : Option Addr} {Fs Fi : AP} {H : Hp} {a : Addr} {vs : List V} {ds : List D} (r : SqT cm.K H a vs) (l : vs.length ≤ sizeLine) (h : DenL cm Fi hd H vs ds) (hi : ∀ x, Fi x → Fs x) : Wk cm hd Fs Fi H (Itt cm.K a) ds := by
  have e := h.length
  refine ⟨by omega, fun i H1 s hl => ?_, fun H1 s => ?_, fun i H1 x H2 s hl y => ?_⟩
  · have hv : i < vs.length := by omega
    exact ⟨vs, vs[i], sqt_sta s r, List.getElem?_eq_getElem hv⟩
  · exact ⟨vs, sqt_sta s r, by omega⟩
  · obtain ⟨rfl, y⟩ := y
    have q := y vs (sqt_sta s r)
    obtain ⟨d, h1, h2⟩ := h.get q
    exact ⟨.inl rfl, d, h1, h2.mono (fun _ z => z) (s.sub hi)⟩
/-- a term is walked -/
theorem pi_of {tg e : Expr} {v : Env → W D} {c k : Env → Bool} (he : PE X e (tV (cmX X ca fl) v c k Wx)) : PI X tg e (tI (cmX X ca fl) (fun ρ => bnd (v ρ) iW) c k Wx) := by
  refine ⟨fun pins s σ H R I h => ?_⟩
  obtain ⟨S, F, ρ, Qd, Ed, r, hv, lk, xk⟩ := h
  refine (pi_seq he).run pins s σ H R I ?_
  refine one r hv xk fun F' H' u d e r' _ b q => ?_
  cases d with
  | lst ds =>
    obtain ⟨a, vs, rfl, hf, hr, hl, hd⟩ := b.b.lstI
    refine ⟨a, rfl, .inl ⟨vs, .inl (.inl hr), lk F' H' ds _ e (fun hc => ?_) (fun hk => ?_) q⟩⟩
    · obtain ⟨a', vs', ea, hf', hr', hl', hd'⟩ := (b.c hc).lstI
      cases ea
      exact wk_list hf' hr' hl' hd' fun _ z => z
    · obtain ⟨a', vs', ea, hr', hl', hd'⟩ := b.k hk
      cases ea
      exact wk_list hf hr' hl' hd' fb_in
  | tup ds =>
    obtain ⟨a, vs, rfl, hr, hl, hd⟩ := b.b.tupI
    refine ⟨a, rfl, .inr ⟨vs, hr, lk F' H' ds _ e (fun hc => ?_) (fun hk => ?_) q⟩⟩
    · obtain ⟨a', vs', ea, hr', hl', hd'⟩ := (b.c hc).tupI
      cases ea
      exact wk_tup hr' hl' hd' fun _ z => z
    · obtain ⟨a', vs', ea, hr', hl', hd'⟩ := (show Den _ _ _ _ _ _ from b.k hk).tupI
      cases ea
      exact wk_tup hr' hl' hd' fb_in
  | _ => exact q.elim
end
end DV
/-! DV: node by node. -/
namespace DV
open PySem PySem.Spec PyProof.Rows L2
section
variable {X : Cx} {ca : Ca} {fl : Nat → Str} {Wx : WX} {a b e : Expr} {pos : Pos} {va vb ve : Env → W D} {cA kA cB kB cE kE : Env → Bool}
theorem n_var {i : Nat} {x : Str} (hN : X.N[i]? = some x) (hv : Vis X.env.scope x) (hd : (x == ("__debug__" : Str)) = false) (hcd : (x == ("__classdict__" : Str)) = false) :
    PE X (.Name x pos) (tV (cmX X ca fl) (varW i) (fun ρ => !isOwn ρ i) (fun _ => true) Wx) := by
  refine ⟨fun pins s σ H Q I h => (pe_var hN hv hd hcd).run pins s σ H Q I ?_⟩
  obtain ⟨S, F, ρ, Qd, Ed, r, hq, lk, xk⟩ := h
  unfold varW getS at hq
  cases e : ρ[i]? with
  | none => rw [e] at hq; exact hq.elim
  | some o =>
    cases o with
    | none => rw [e] at hq; exact hq.elim
    | some sl =>
      obtain ⟨v, hv1, hs⟩ := r.sl i sl e
      rw [e] at hq
      cases sl with
      | val d =>
        obtain ⟨w, rfl, hd⟩ := hs
        exact ⟨w, hv1, lk.bare r.wf hq hd⟩
      | own ds =>
        obtain ⟨p, vs, rfl, nf, nh, n0, hp, l, hd⟩ := hs
        refine ⟨.ref p, hv1, lk.here r.wf hq ⟨.lst (.inr ⟨i, _, e, rfl, hv1⟩) hp l hd.inb, fun z => ?_, fun _ => ⟨p, vs, rfl, hp, l, hd⟩⟩⟩
        have : isOwn ρ i = true := by unfold isOwn; rw [e]; rfl
        have z' : (!isOwn ρ i) = true := z
        rw [this] at z'; cases z'
      | ownI c all ns ds =>
        obtain ⟨p, dx, fs, rfl, nf, nh, n0, hp, hk, ho, hn, hd⟩ := hs
        have hi : InsOk (cmX X ca fl) c ns := ⟨ho.cl, fun n h => ho.na n (hn n h), fun n h m h' => ho.inj n (hn n h) m (hn m h')⟩
        refine ⟨.ref p, hv1, lk.here r.wf hq ⟨.ins (.inr ⟨i, _, e, rfl, hv1⟩) hp hk hi hd.inb, fun z => ?_, fun _ => ⟨p, dx, fs, rfl, hp, hk, hi, hd⟩⟩⟩
        have : isOwn ρ i = true := by unfold isOwn; rw [e]; rfl
        have z' : (!isOwn ρ i) = true := z
        rw [this] at z'; cases z'
      | exc x => exact hq.elim
      | mat rs => exact hq.elim
theorem n_int {i : Int} {j : Nat} {c k : Env → Bool} : PE X (.Constant (.int i) j pos) (tV (cmX X ca fl) (fun _ => ret (.int i)) c k Wx) := by
  refine ⟨fun pins s σ H Q I h => pe_int.run pins s σ H Q I ?_⟩
  obtain ⟨S, F, ρ, Qd, Ed, r, hq, lk, xk⟩ := h
  exact lk.bare r.wf hq (.int i)
theorem n_bl {i : Bool} {j : Nat} {c k : Env → Bool} : PE X (.Constant (.bool i) j pos) (tV (cmX X ca fl) (fun _ => ret (.bl i)) c k Wx) := by
  refine ⟨fun pins s σ H Q I h => pe_bl.run pins s σ H Q I ?_⟩
  obtain ⟨S, F, ρ, Qd, Ed, r, hq, lk, xk⟩ := h
  exact lk.bare r.wf hq (.bl i)
theorem n_non {j : Nat} {c k : Env → Bool} : PE X (.Constant .none j pos) (tV (cmX X ca fl) (fun _ => ret .non) c k Wx) := by
  refine ⟨fun pins s σ H Q I h => pe_non.run pins s σ H Q I ?_⟩
  obtain ⟨S, F, ρ, Qd, Ed, r, hq, lk, xk⟩ := h
  exact lk.bare r.wf hq .non
theorem n_str {x : Str} {j : Nat} {c k : Env → Bool} (hx : PyData.strOk x = true) : PE X (.Constant (.str x) j pos) (tV (cmX X ca fl) (fun _ => ret (.str x)) c k Wx) := by
  refine ⟨fun pins s σ H Q I h => pe_str.run pins s σ H Q I ?_⟩
  obtain ⟨S, F, ρ, Qd, Ed, r, hq, lk, xk⟩ := h
  exact lk.bare r.wf hq (.str x hx)
/-- a module's constant -/
theorem n_glob {x : Str} {v : V} {u : Value} {o : Option D} {c k : Env → Bool} (hg : Gl X x) (hm : X.mg x = some u) (rv : RelV v u) (hd : (x == ("__debug__" : Str)) = false) (hD : ∀ d, o = some d → ∀ (F : AP) (hd : Option Addr) (H : Hp), Den (cmX X ca fl) F hd H v d) :
    PE X (.Name x pos) (tV (cmX X ca fl) (fun _ => cstW o) c k Wx) := by
  refine ⟨fun pins s σ H Q I h => (pe_glob hg hm rv hd).run pins s σ H Q I ?_⟩
  obtain ⟨S, F, ρ, Qd, Ed, r, hq, lk, xk⟩ := h
  cases o with
  | none => exact hq.elim
  | some d => exact lk.bare r.wf hq (hD d rfl _ _ _)
theorem strOk_append {x y : Str} (h : PyData.strOk x = true) (h' : PyData.strOk y = true) : PyData.strOk (x ++ y) = true := by
  unfold PyData.strOk at h h' ⊢
  show (x.cps ++ y.cps).all _ = true
  rw [Array.all_append, h, h']; rfl
/-- what an operator asks, and what it gives -/
def BinR (X : Cx) (o : BOp) (op : Operator) : Prop := ∃ rr : R2, OpR X (binaryOp op) rr ∧
  ∀ (ca : Ca) (fl : Nat → Str) (S : Sit) (F : AP) (ρ : Env) (σ : L2.St) (H : Hp) (x y : D) (v w : V) (c k : Prop) (Qd Ed : D → Prop) (Q : VK),
    Real (cmX X ca fl) S F ρ σ H → Cc (cmX X ca fl) (Fc c F (Fb F ρ σ)) S.hd H v x → Cc (cmX X ca fl) (Fc c F (Fb F ρ σ)) S.hd H w y → (k → c) → Lk (cmX X ca fl) S ρ σ c k Qd F H Q → binW o x y Qd Ed → rr v w H Q
theorem n_bin {o : BOp} {op : Operator} (ho : BinR X o op) (ha : PE X a (tV (cmX X ca fl) va cA kA Wx)) (hb : PE X b (tV (cmX X ca fl) vb cB kB Wx)) :
    PE X (.BinOp a op b pos) (tV (cmX X ca fl) (fun ρ => bnd (va ρ) fun x => bnd (vb ρ) fun y => binW o x y) (fun ρ => kA ρ && kB ρ) (fun ρ => kA ρ && kB ρ) Wx) := by
  obtain ⟨rr, h1, h2⟩ := ho
  refine ⟨fun pins s σ H Q I h => (pe_op h1 ha hb).run pins s σ H Q I ?_⟩
  obtain ⟨S, F, ρ, Qd, Ed, r, hq, lk, xk⟩ := h
  refine two r hq xk fun F2 H2 v w x y e2 r2 x2 b1 b2 q => ?_
  exact h2 ca fl S F2 ρ σ H2 x y v w _ _ Qd Ed Q r2 (b1.fc fun z => (Bool.and_eq_true_iff.mp z).1) (b2.fc fun z => (Bool.and_eq_true_iff.mp z).2) (fun z => z) (lk.ev r.wf e2) q
theorem Cc.intI {cm : Cm} {F : AP} {hd : Option Addr} {H : Hp} {v : V} {i : Int} (h : Cc cm F hd H v (.int i)) : v = .int i := Den.intI h
theorem Cc.strI {cm : Cm} {F : AP} {hd : Option Addr} {H : Hp} {v : V} {i : Str} (h : Cc cm F hd H v (.str i)) : v = .str i ∧ PyData.strOk i = true := Den.strI h
theorem Cc.tupI {cm : Cm} {F : AP} {hd : Option Addr} {H : Hp} {v : V} {ds : List D} (h : Cc cm F hd H v (.tup ds)) : ∃ a vs, v = .ref a ∧ SqT cm.K H a vs ∧ vs.length ≤ sizeLine ∧ DenL cm F hd H vs ds := Den.tupI h
theorem Cc.lstI {cm : Cm} {F : AP} {hd : Option Addr} {H : Hp} {v : V} {ds : List D} (h : Cc cm F hd H v (.lst ds)) : ∃ a vs, v = .ref a ∧ H a = some (.lst vs) ∧ vs.length ≤ sizeLine ∧ DenL cm F hd H vs ds := h
theorem DenL.nil_of {cm : Cm} {F : AP} {hd : Option Addr} {H : Hp} {ds : List D} (h : DenL cm F hd H [] ds) : ds = [] := by cases h; rfl
theorem binR_add : BinR X .add .Add := by
  refine ⟨_, op_add.or (op_add_str.or (op_catA.or op_cat)), fun ca fl S F ρ σ H x y v w c k Qd Ed Q r hx hy hk lk q => ?_⟩
  cases x <;> cases y <;> first | exact False.elim q | skip
  · cases hx.intI; cases hy.intI
    exact .inl ⟨_, _, rfl, rfl, lk.bare r.wf q (.int _)⟩
  · obtain ⟨rfl, sx⟩ := hx.strI
    obtain ⟨rfl, sy⟩ := hy.strI
    exact .inr (.inl ⟨_, _, rfl, rfl, q.1, lk.bare r.wf q.2 (.str _ (strOk_append sx sy))⟩)
  · rename_i xs ys
    obtain ⟨p, vs, rfl, hp, l1, d1⟩ := hx.tupI
    obtain ⟨p', ws, rfl, hp', l2, d2⟩ := hy.tupI
    have hl : vs.length + ws.length ≤ sizeLine := by rw [d1.length, d2.length]; exact q.1
    refine .inr (.inr (.inl ⟨p, p', vs, ws, rfl, rfl, hp, hp', hl, fun e => ?_, fun _ e => ?_, fun _ _ => ?_⟩))
    · subst e
      cases d1.nil_of
      exact lk.fc r (show Qd (.tup ([] ++ ys)) from q.2) (.tup hp' l2 d2) hk
    · subst e
      cases d2.nil_of
      have q2 : Qd (.tup (xs ++ [])) := q.2
      rw [List.append_nil] at q2
      exact lk.fc r q2 (.tup hp l1 d1) hk
    · exact lk.fcT r q.2 (by rw [List.length_append]; exact hl) (d1.append d2) hk
  · rename_i xs ys
    obtain ⟨p, vs, rfl, hp, l1, d1⟩ := hx.lstI
    obtain ⟨p', ws, rfl, hp', l2, d2⟩ := hy.lstI
    have hl : vs.length + ws.length ≤ sizeLine := by rw [d1.length, d2.length]; exact q.1
    exact .inr (.inr (.inr ⟨p, p', vs, ws, rfl, rfl, hp, hp', hl, lk.fcL r q.2 (by rw [List.length_append]; exact hl) (d1.append d2) hk⟩))
theorem binR_I {o : BOp} {op : Operator} {C : Int → Int → Prop} {g : Int → Int → Int} (h : OpR X (binaryOp op) (rI C fun i j => .int (g i j)))
    (hw : ∀ (x y : D) (Qd Ed : D → Prop), binW o x y Qd Ed → ∃ i j, x = .int i ∧ y = .int j ∧ C i j ∧ Qd (.int (g i j))) : BinR X o op := by
  refine ⟨_, h, fun ca fl S F ρ σ H x y v w c k Qd Ed Q r hx hy hk lk q => ?_⟩
  obtain ⟨i, j, rfl, rfl, hC, q'⟩ := hw x y Qd Ed q
  cases hx.intI; cases hy.intI
  exact ⟨_, _, rfl, rfl, hC, lk.bare r.wf q' (.int _)⟩
theorem rI_of0 {X : Cx} {f : Value → Value → Sem Value} {g : Int → Int → V} (h : OpR X f (rI0 g)) : OpR X f (rI (fun _ _ => True) g) := fun pins s σ H x y v u Q I rx ry q => by
  obtain ⟨i, j, h1, h2, _, h3⟩ := q
  exact h pins s σ H x y v u Q I rx ry ⟨i, j, h1, h2, h3⟩
theorem binR_sub : BinR X .sub .Sub := binR_I (rI_of0 op_sub) fun x y Qd Ed q => by
  cases x <;> cases y <;> first | exact False.elim q | exact ⟨_, _, rfl, rfl, trivial, q⟩
theorem binR_mul : BinR X .mul .Mult := binR_I op_mul fun x y Qd Ed q => by
  cases x <;> cases y <;> first | exact False.elim q | exact ⟨_, _, rfl, rfl, q.1, q.2⟩
theorem binR_fdiv : BinR X .fdiv .FloorDiv := binR_I op_fdivW fun x y Qd Ed q => by
  cases x <;> cases y <;> first | exact False.elim q | exact ⟨_, _, rfl, rfl, q.1, q.2⟩
theorem binR_mod : BinR X .mod .Mod := binR_I op_mod fun x y Qd Ed q => by
  cases x <;> cases y <;> first | exact False.elim q | exact ⟨_, _, rfl, rfl, q.1, q.2⟩
theorem binR_band : BinR X .band .BitAnd := binR_I (rI_of0 op_and) fun x y Qd Ed q => by
  cases x <;> cases y <;> first | exact False.elim q | exact ⟨_, _, rfl, rfl, trivial, q⟩
theorem binR_bor : BinR X .bor .BitOr := binR_I (rI_of0 op_or) fun x y Qd Ed q => by
  cases x <;> cases y <;> first | exact False.elim q | exact ⟨_, _, rfl, rfl, trivial, q⟩
theorem binR_shr : BinR X .shr .RShift := binR_I op_shr fun x y Qd Ed q => by
  cases x <;> cases y <;> first | exact False.elim q | exact ⟨_, _, rfl, rfl, q.1, q.2⟩
theorem binR_shl : BinR X .shl .LShift := binR_I op_shl fun x y Qd Ed q => by
  cases x <;> cases y <;> first | exact False.elim q | exact ⟨_, _, rfl, rfl, q.1, q.2⟩
theorem binR_pow : BinR X .pow .Pow := binR_I op_pow fun x y Qd Ed q => by
  cases x <;> cases y <;> first | exact False.elim q | exact ⟨_, _, rfl, rfl, q.1, q.2⟩
def bopOf : BOp → Operator
  | .add => .Add | .sub => .Sub | .mul => .Mult | .fdiv => .FloorDiv | .mod => .Mod | .band => .BitAnd | .bor => .BitOr | .shr => .RShift | .shl => .LShift | .pow => .Pow
theorem binR_all (o : BOp) : BinR X o (bopOf o) := by
  cases o
  · exact binR_add
  · exact binR_sub
  · exact binR_mul
  · exact binR_fdiv
  · exact binR_mod
  · exact binR_band
  · exact binR_bor
  · exact binR_shr
  · exact binR_shl
  · exact binR_pow
theorem n_neg {c k : Env → Bool} (ha : PE X a (tV (cmX X ca fl) va cA kA Wx)) : PE X (.UnaryOp .USub a pos) (tV (cmX X ca fl) (fun ρ => bnd (va ρ) negW) c k Wx) := by
  refine ⟨fun pins s σ H Q I h => (pe_un un_neg ha).run pins s σ H Q I ?_⟩
  obtain ⟨S, F, ρ, Qd, Ed, r, hq, lk, xk⟩ := h
  refine one r hq xk fun F2 H2 v x e2 r2 x2 b1 q => ?_
  cases x <;> first | exact False.elim q | skip
  cases b1.b.intI
  exact ⟨_, rfl, (lk.ev r.wf e2).bare r2.wf q (.int _)⟩
/-! ### comparisons -/
def CmpR (X : Cx) (o : COp) (op : CmpOp) : Prop := ∃ rr : R2, OpR X (compareOp op) rr ∧
  ∀ (ca : Ca) (fl : Nat → Str) (F : AP) (hd : Option Addr) (H : Hp) (x y : D) (v w : V) (Qb : Bool → Prop) (Ed : D → Prop) (Q : VK),
    Den (cmX X ca fl) F hd H v x → Den (cmX X ca fl) F hd H w y → cmpW o x y Qb Ed → (∀ t, Qb t → Q (.bl t) H) → rr v w H Q
theorem cmpR_eq (hu : X.A.units + 64 < cLine) : CmpR X .eq .Eq := by
  refine ⟨_, op_eqD hu, fun ca fl F hd H x y v w Qb Ed Q hx hy q k => ?_⟩
  obtain ⟨⟨q1, q2⟩, q⟩ := q
  exact ⟨_, _, hx.dp q1.1, hy.dp q2.1, shaped_of hx q1, shaped_of hy q2, by rw [deq_toP x y q1.1 q2.1]; exact k _ q⟩
theorem op_neD' (hu : X.A.units + 64 < cLine) : OpR X (compareOp .NotEq) (rNeD X.K) := op_neD hu
theorem cmpR_ne (hu : X.A.units + 64 < cLine) : CmpR X .ne .NotEq := by
  refine ⟨_, op_neD hu, fun ca fl F hd H x y v w Qb Ed Q hx hy q k => ?_⟩
  obtain ⟨⟨q1, q2⟩, q⟩ := q
  exact ⟨_, _, hx.dp q1.1, hy.dp q2.1, shaped_of hx q1, shaped_of hy q2, by rw [deq_toP x y q1.1 q2.1]; exact k _ q⟩
theorem cmpR_I {o : COp} {op : CmpOp} {g : Int → Int → Bool} (h : OpR X (compareOp op) (rI0 fun i j => .bl (g i j)))
    (hw : ∀ (x y : D) (Qb : Bool → Prop) (Ed : D → Prop), cmpW o x y Qb Ed → ∃ i j, x = .int i ∧ y = .int j ∧ Qb (g i j)) : CmpR X o op := by
  refine ⟨_, h, fun ca fl F hd H x y v w Qb Ed Q hx hy q k => ?_⟩
  obtain ⟨i, j, rfl, rfl, q'⟩ := hw x y Qb Ed q
  cases hx.intI; cases hy.intI
  exact ⟨_, _, rfl, rfl, k _ q'⟩
theorem cmpR_lt : CmpR X .lt .Lt := cmpR_I op_lt fun x y Qd Ed q => by
  cases x <;> cases y <;> first | exact False.elim q | exact ⟨_, _, rfl, rfl, q⟩
theorem cmpR_le : CmpR X .le .LtE := cmpR_I op_le fun x y Qd Ed q => by
  cases x <;> cases y <;> first | exact False.elim q | exact ⟨_, _, rfl, rfl, q⟩
theorem cmpR_gt : CmpR X .gt .Gt := cmpR_I op_gt fun x y Qd Ed q => by
  cases x <;> cases y <;> first | exact False.elim q | exact ⟨_, _, rfl, rfl, q⟩
theorem cmpR_ge : CmpR X .ge .GtE := cmpR_I op_ge fun x y Qd Ed q => by
  cases x <;> cases y <;> first | exact False.elim q | exact ⟨_, _, rfl, rfl, q⟩
theorem isNon_of {cm : Cm} {F : AP} {hd : Option Addr} {H : Hp} {v : V} {x : D} (h : Den cm F hd H v x) : decide (v = .non) = isNon x := by
  cases h <;> simp [isNon]
theorem cmpR_isN : CmpR X .isN .Is := by
  refine ⟨_, op_isN, fun ca fl F hd H x y v w Qb Ed Q hx hy q k => ?_⟩
  cases y <;> first | exact False.elim q | skip
  exact ⟨hy.nonI, by rw [isNon_of hx]; exact k _ q⟩
theorem cmpR_notN : CmpR X .notN .IsNot := by
  refine ⟨_, op_notN, fun ca fl F hd H x y v w Qb Ed Q hx hy q k => ?_⟩
  cases y <;> first | exact False.elim q | skip
  exact ⟨hy.nonI, by rw [isNon_of hx]; exact k _ q⟩
theorem flat_of {cm : Cm} {F : AP} {hd : Option Addr} {H : Hp} {v : V} {x : D} (h : Den cm F hd H v x) (f : isFlat x = true) : flatV v = true := by
  cases h <;> first | rfl | cases f
theorem eqV_of {cm : Cm} {F : AP} {hd : Option Addr} {H : Hp} {v w : V} {x y : D} (h : Den cm F hd H v x) (h' : Den cm F hd H w y) (f : isFlat x = true) (f' : isFlat y = true) : eqV v w = deq x y := by
  cases h <;> cases h' <;> simp_all [isFlat, eqV, deq]
theorem inV_of {cm : Cm} {F : AP} {hd : Option Addr} {H : Hp} {w : V} {y : D} (h' : Den cm F hd H w y) (f' : isFlat y = true) : ∀ {vs : List V} {ds : List D}, DenL cm F hd H vs ds → ds.all isFlat = true → inV w vs = anyEq y ds ∧ vs.all flatV = true
  | _, _, .nil, _ => ⟨rfl, rfl⟩
  | _, _, .cons (v := v) (vs := vs) (d := d) (ds := ds) h r, f => by
    have f1 : isFlat d = true ∧ ds.all isFlat = true := by simpa using f
    obtain ⟨e1, e2⟩ := inV_of h' f' r f1.2
    refine ⟨?_, ?_⟩
    · show (eqV v w || inV w vs) = (deq d y || anyEq y ds)
      rw [eqV_of h h' f1.1 f', e1]
    · show (flatV v && vs.all flatV) = true
      rw [flat_of h f1.1, e2]; rfl
theorem anyP {y : D} (hy : isP y = true) : ∀ {ds : List D}, isPs ds = true → ((toPs ds).any fun z => PyData.eqv z (toP y)) = anyEq y ds
  | [], _ => rfl
  | d :: ds, h => by
    show (PyData.eqv (toP d) (toP y) || (toPs ds).any _) = (deq d y || anyEq y ds)
    rw [deq_toP d y (isPs_c h).1 hy, anyP hy (isPs_c h).2]
/-- in: a list at any depth, a tuple of flat things, a text -/
theorem cmpR_in (hu : X.A.units + 65 < cLine) : CmpR X .inn .In := by
  refine ⟨_, (op_inD hu).or (op_in_seq.or op_in_str), fun ca fl F hd H x y v w Qb Ed Q hx hy q k => ?_⟩
  cases y <;> first | exact False.elim q | skip
  · rename_i z
    cases x <;> first | exact False.elim q | skip
    exact .inr (.inr ⟨_, _, hx.strI.1, hy.strI.1, k _ q⟩)
  · rename_i ds
    obtain ⟨⟨q1, q2⟩, q⟩ := q
    obtain ⟨p, vs, rfl, hp, l, dd⟩ := hy.tupI
    obtain ⟨e1, e2⟩ := inV_of hx q1 dd q2
    refine .inr (.inl ⟨p, vs, rfl, .inr hp, flat_of hx q1, e2, ?_⟩)
    rw [if_neg Bool.false_ne_true, e1]
    exact k _ q
  · rename_i ds
    obtain ⟨⟨q1, q2⟩, q⟩ := q
    refine .inl ⟨toP x, toPs ds, hx.dp q1.1, hy.dp q2.1, shaped_of hx q1, shaped_of hy q2, ?_⟩
    rw [anyP q1.1 (by simpa [isP] using q2.1)]
    exact k _ q
theorem cmpR_nin (hu : X.A.units + 65 < cLine) : CmpR X .nin .NotIn := by
  refine ⟨_, (op_notInD hu).or (op_notIn_seq.or op_notIn_str), fun ca fl F hd H x y v w Qb Ed Q hx hy q k => ?_⟩
  cases y <;> first | exact False.elim q | skip
  · rename_i z
    cases x <;> first | exact False.elim q | skip
    exact .inr (.inr ⟨_, _, hx.strI.1, hy.strI.1, k _ q⟩)
  · rename_i ds
    obtain ⟨⟨q1, q2⟩, q⟩ := q
    obtain ⟨p, vs, rfl, hp, l, dd⟩ := hy.tupI
    obtain ⟨e1, e2⟩ := inV_of hx q1 dd q2
    refine .inr (.inl ⟨p, vs, rfl, .inr hp, flat_of hx q1, e2, ?_⟩)
    rw [if_pos rfl, e1]
    exact k _ q
  · rename_i ds
    obtain ⟨⟨q1, q2⟩, q⟩ := q
    refine .inl ⟨toP x, toPs ds, hx.dp q1.1, hy.dp q2.1, shaped_of hx q1, shaped_of hy q2, ?_⟩
    rw [anyP q1.1 (by simpa [isP] using q2.1)]
    exact k _ q
def copOf : COp → CmpOp
  | .eq => .Eq | .ne => .NotEq | .lt => .Lt | .le => .LtE | .gt => .Gt | .ge => .GtE | .isN => .Is | .notN => .IsNot | .inn => .In | .nin => .NotIn
theorem cmpR_all (hu : X.A.units + 65 < cLine) (o : COp) : CmpR X o (copOf o) := by
  have hu' : X.A.units + 64 < cLine := by omega
  cases o
  · exact cmpR_eq hu'
  · exact cmpR_ne hu'
  · exact cmpR_lt
  · exact cmpR_le
  · exact cmpR_gt
  · exact cmpR_ge
  · exact cmpR_isN
  · exact cmpR_notN
  · exact cmpR_in hu
  · exact cmpR_nin hu
end
end DV
/-! DV: node by node (2). -/
namespace DV
open PySem PySem.Spec PyProof.Rows L2
def notStar : Expr → Bool
  | .Starred _ _ => false
  | _ => true
def notSlice : Expr → Bool
  | .Slice _ _ _ _ => false
  | _ => true
def notSet : Expr → Bool
  | .Set _ _ _ => false
  | _ => true
def noBase : Expr → Bool
  | .Call (.Name _ _) [] [] _ => false
  | _ => true
theorem star_cons {e : Expr} {es : List Expr} {env : PySem.Env} (h : notStar e = true) : starEach (e :: es) env = (false, eval e env) :: starEach es env := by
  cases e <;> first | rfl | cases h
theorem star_any {env : PySem.Env} {pos : Pos} : ∀ {es : List Expr}, es.all notStar = true → (backTo pos (starEach es env)).any (·.1) = false
  | [], _ => rfl
  | e :: es, h => by
    have h' : notStar e = true ∧ es.all notStar = true := by simpa using h
    rw [star_cons h'.1]
    show (false || (backTo pos (starEach es env)).any (·.1)) = false
    rw [star_any h'.2]; rfl
theorem star_all {env : PySem.Env} {pos : Pos} : ∀ {es : List Expr}, es.all notStar = true → (backTo pos (starEach es env)).all (fun x => !x.1) = true
  | [], _ => rfl
  | e :: es, h => by
    have h' : notStar e = true ∧ es.all notStar = true := by simpa using h
    rw [star_cons h'.1]
    show (!false && (backTo pos (starEach es env)).all (fun x => !x.1)) = true
    rw [star_all h'.2]; rfl
theorem base_of {o : Expr} {m : Str} {env : PySem.Env} {w : Sem Value} (h : noBase o = true) : attributeBase o m env w = w := by
  unfold attributeBase
  split
  · exact absurd h (by simp [noBase])
  · rfl
theorem ht_of {o : Expr} {m : Str} {apos pos : Pos} {args : List Expr} {env : PySem.Env} (hb : noBase o = true) (hl : (apos.endLine == pos.line) = true) (hs : args.all notStar = true) (hn : args.length < 30) :
    eval (.Call (.Attribute o m apos) args [] pos) env = (do
      let ov ← eval o env
      standAt apos.atName
      let (f, first) ← holding [ov] (getMethod ov m (do return (← importBound o env).getD true))
      callWith pos f first (backTo pos (starEach args env)) (backToKw pos (keywordEach [] env))) := by
  show (do
    let ov ← attributeBase o m env (eval o env)
    standAt apos.atName
    methodCall o m apos pos env ov (args.length + ([] : List Keyword).length) (backTo pos (starEach args env)) (backToKw pos (keywordEach [] env))) = _
  rw [base_of hb]
  have hf : methodCallForm (args.length + ([] : List Keyword).length) (backTo pos (starEach args env)) (backToKw pos (keywordEach [] env)) = true := by
    unfold methodCallForm
    rw [star_all hs]
    show (true && true && decide (args.length + 0 + 0 < 30)) = true
    rw [decide_eq_true (by omega)]; rfl
  unfold methodCall methodCallPos calleeOf
  rw [hf]
  simp only [hl, Bool.not_true, Bool.false_or, if_true, pure_bind]
section
variable {X : Cx} {ca : Ca} {fl : Nat → Str} {Wx : WX} {a b c e : Expr} {pos : Pos} {va vb vc ve : Env → W D} {cA kA cB kB cE kE cF kF cC kC : Env → Bool} {tA tB' tC' : Env → W Bool}
theorem n_cmp {o : COp} {op : CmpOp} (ho : CmpR X o op) (hm : behindInMarks op b = false) (ha : PE X a (tV (cmX X ca fl) va cA kA Wx)) (hb : PE X b (tV (cmX X ca fl) vb cB kB Wx)) :
    PE X (.Compare a [op] [b] pos) (tV (cmX X ca fl) (fun ρ => bnd (va ρ) fun x => bnd (vb ρ) fun y => bnd (cmpW o x y) fun t => ret (.bl t)) cF kF Wx) := by
  obtain ⟨rr, h1, h2⟩ := ho
  refine ⟨fun pins s σ H Q I h => (pe_cmpR h1 ha hb hm).run pins s σ H Q I ?_⟩
  obtain ⟨S, F, ρ, Qd, Ed, r, hq, lk, xk⟩ := h
  refine two r hq xk fun F2 H2 v w x y e2 r2 x2 b1 b2 q => ?_
  exact h2 ca fl _ _ _ _ _ _ _ _ _ _ b1.b b2.b q fun t qt => (lk.ev r.wf e2).bare r2.wf qt (.bl t)
theorem n_cmpT {o : COp} {op : CmpOp} (ho : CmpR X o op) (hm : behindInMarks op b = false) (ha : PE X a (tV (cmX X ca fl) va cA kA Wx)) (hb : PE X b (tV (cmX X ca fl) vb cB kB Wx)) :
    PT X (.Compare a [op] [b] pos) (tT (cmX X ca fl) (fun ρ => bnd (va ρ) fun x => bnd (vb ρ) fun y => cmpW o x y) Wx) := by
  obtain ⟨rr, h1, h2⟩ := ho
  refine ⟨fun pins s σ H Q I h => (pt_cmpR h1 ha hb hm).run pins s σ H Q I ?_⟩
  obtain ⟨S, F, ρ, Qd, Ed, r, hq, lk, xk⟩ := h
  refine two r hq xk fun F2 H2 v w x y e2 r2 x2 b1 b2 q => ?_
  exact h2 ca fl _ _ _ _ _ _ _ _ _ _ b1.b b2.b q fun t qt => ⟨t, rfl, lk _ _ _ e2 qt⟩
theorem chn_of {o p : COp} {op op' : CmpOp} {rr rr' : R2}
    (h2 : ∀ (F : AP) (hd : Option Addr) (H : Hp) (x y : D) (v w : V) (Qb : Bool → Prop) (Ed : D → Prop) (Q : VK), Den (cmX X ca fl) F hd H v x → Den (cmX X ca fl) F hd H w y → cmpW o x y Qb Ed → (∀ t, Qb t → Q (.bl t) H) → rr v w H Q)
    (h2' : ∀ (F : AP) (hd : Option Addr) (H : Hp) (x y : D) (v w : V) (Qb : Bool → Prop) (Ed : D → Prop) (Q : VK), Den (cmX X ca fl) F hd H v x → Den (cmX X ca fl) F hd H w y → cmpW p x y Qb Ed → (∀ t, Qb t → Q (.bl t) H) → rr' v w H Q)
    {S : Sit} {F : AP} {ρ : Env} {σ : L2.St} {H : Hp} {Qb : Bool → Prop} {Ed : D → Prop} {Q : VK} (r : Real (cmX X ca fl) S F ρ σ H)
    (hq : (bnd (va ρ) fun x => bnd (vb ρ) fun y => bnd (cmpW o x y) fun t => if t = true then bnd (vc ρ) fun z => cmpW p y z else ret false) Qb Ed)
    (xk : Xk (cmX X ca fl) S Ed F H (fun cls d H' => Wx cls d σ H')) (lk : ∀ (F' : AP) (H' : Hp) (t : Bool), Ev S.hd H H' F F' → Qb t → Q (.bl t) H') :
    tChain rr rr' (tV (cmX X ca fl) va cA kA Wx) (tV (cmX X ca fl) vb cB kB Wx) (tV (cmX X ca fl) vc cC kC Wx) σ H Q := by
  refine two r hq xk fun F2 H2 v w x y e2 r2 x2 b1 b2 q => ?_
  refine h2 _ _ _ _ _ _ _ _ _ _ b1.b b2.b q fun t qt => ⟨t, rfl, ?_⟩
  cases t with
  | false =>
    show Q (.bl false) H2
    exact lk F2 H2 false e2 qt
  | true =>
    show tV (cmX X ca fl) vc cC kC Wx σ H2 fun z H3 => rr' w z H3 Q
    refine one r2 qt x2 fun F3 H3 z dz e3 r3 x3 b3 q3 => ?_
    exact h2' _ _ _ _ _ _ _ _ _ _ (b2.ev r2 e3).b b3.b q3 fun t qt => lk F3 H3 t (e2.trans r.wf e3) qt
theorem n_chn {o p : COp} {op op' : CmpOp} (ho : CmpR X o op) (hp : CmpR X p op') (hm : lastMarks [op, op'] [b, c] = false) (ha : PE X a (tV (cmX X ca fl) va cA kA Wx)) (hb : PE X b (tV (cmX X ca fl) vb cB kB Wx)) (hc : PE X c (tV (cmX X ca fl) vc cC kC Wx)) :
    PE X (.Compare a [op, op'] [b, c] pos) (tV (cmX X ca fl) (fun ρ => bnd (va ρ) fun x => bnd (vb ρ) fun y => bnd (cmpW o x y) fun t => if t = true then bnd (vc ρ) fun z => bnd (cmpW p y z) fun t => ret (.bl t) else ret (.bl false)) cF kF Wx) := by
  obtain ⟨rr, h1, h2⟩ := ho
  obtain ⟨rr', h1', h2'⟩ := hp
  refine ⟨fun pins s σ H Q I h => (pe_chain h1 h1' ha hb hc hm).run pins s σ H Q I ?_⟩
  obtain ⟨S, F, ρ, Qd, Ed, r, hq, lk, xk⟩ := h
  refine chn_of (o := o) (p := p) (Qb := fun t => Qd (.bl t)) (Ed := Ed) (op := op) (op' := op') (h2 ca fl) (h2' ca fl) r ?_ xk fun F' H' t e q => (lk.ev r.wf e).bare e.wf q (.bl t)
  have e : (fun x => (bnd (vb ρ) fun y => bnd (cmpW o x y) fun t => if t = true then bnd (vc ρ) fun z => bnd (cmpW p y z) fun t => ret (D.bl t) else ret (D.bl false)) Qd Ed) =
      fun x => (bnd (vb ρ) fun y => bnd (cmpW o x y) fun t => if t = true then bnd (vc ρ) fun z => cmpW p y z else ret false) (fun t => Qd (.bl t)) Ed := by
    funext x
    show (vb ρ) (fun y => cmpW o x y (fun t => (if t = true then bnd (vc ρ) fun z => bnd (cmpW p y z) fun t => ret (D.bl t) else ret (D.bl false)) Qd Ed) Ed) Ed = (vb ρ) (fun y => cmpW o x y (fun t => (if t = true then bnd (vc ρ) fun z => cmpW p y z else ret false) (fun t => Qd (.bl t)) Ed) Ed) Ed
    congr 1
    funext y
    congr 1
    funext t
    cases t <;> rfl
  show (va ρ) (fun x => (bnd (vb ρ) fun y => bnd (cmpW o x y) fun t => if t = true then bnd (vc ρ) fun z => cmpW p y z else ret false) (fun t => Qd (.bl t)) Ed) Ed
  rw [← e]
  exact hq
theorem n_chnT {o p : COp} {op op' : CmpOp} (ho : CmpR X o op) (hp : CmpR X p op') (hm : lastMarks [op, op'] [b, c] = false) (ha : PE X a (tV (cmX X ca fl) va cA kA Wx)) (hb : PE X b (tV (cmX X ca fl) vb cB kB Wx)) (hc : PE X c (tV (cmX X ca fl) vc cC kC Wx)) :
    PT X (.Compare a [op, op'] [b, c] pos) (tT (cmX X ca fl) (fun ρ => bnd (va ρ) fun x => bnd (vb ρ) fun y => bnd (cmpW o x y) fun t => if t = true then bnd (vc ρ) fun z => cmpW p y z else ret false) Wx) := by
  obtain ⟨rr, h1, h2⟩ := ho
  obtain ⟨rr', h1', h2'⟩ := hp
  refine ⟨fun pins s σ H Q I h => (pt_chain h1 h1' ha hb hc hm).run pins s σ H Q I ?_⟩
  obtain ⟨S, F, ρ, Qd, Ed, r, hq, lk, xk⟩ := h
  exact chn_of (o := o) (p := p) (op := op) (op' := op') (h2 ca fl) (h2' ca fl) r hq xk fun F' H' t e q => ⟨t, rfl, lk F' H' t e q⟩
/-! ### and, or, not, if -/
variable {rest : List Expr}
theorem n_and (ha : PE X a (tV (cmX X ca fl) va cA kA Wx)) (hb : PE X (.BoolOp .And (b :: rest) pos) (tV (cmX X ca fl) vb cB kB Wx)) (hcA : ∀ ρ, cF ρ = true → cA ρ = true) (hcB : ∀ ρ, cF ρ = true → cB ρ = true) (hkF : ∀ ρ, kF ρ = true → cF ρ = true) :
    PE X (.BoolOp .And (a :: b :: rest) pos) (tV (cmX X ca fl) (fun ρ => bnd (va ρ) fun x => bnd (truW x) fun t => if t = true then vb ρ else ret x) cF kF Wx) := by
  refine ⟨fun pins s σ H Q I h => (pe_andT ha hb).run pins s σ H Q I ?_⟩
  obtain ⟨S, F, ρ, Qd, Ed, r, hq, lk, xk⟩ := h
  refine one r hq xk fun F2 H2 v x e2 r2 x2 b1 q => ?_
  obtain ⟨t, h1, h2⟩ := tru_of b1.b q
  refine ⟨t, h1, ?_⟩
  cases t with
  | true =>
    show tV (cmX X ca fl) vb cB kB Wx σ H2 Q
    exact one r2 h2 x2 fun F3 H3 w y e3 r3 x3 b3 q3 => (lk.ev r.wf (e2.trans r.wf e3)).here r3.wf q3 (.of b3.b (fun z => b3.c (hcB ρ z)) (hkF ρ))
  | false =>
    show Q v H2
    exact (lk.ev r.wf e2).here r2.wf h2 (.of b1.b (fun z => b1.c (hcA ρ z)) (hkF ρ))
theorem n_or (ha : PE X a (tV (cmX X ca fl) va cA kA Wx)) (hb : PE X (.BoolOp .Or (b :: rest) pos) (tV (cmX X ca fl) vb cB kB Wx)) (hcA : ∀ ρ, cF ρ = true → cA ρ = true) (hcB : ∀ ρ, cF ρ = true → cB ρ = true) (hkF : ∀ ρ, kF ρ = true → cF ρ = true) :
    PE X (.BoolOp .Or (a :: b :: rest) pos) (tV (cmX X ca fl) (fun ρ => bnd (va ρ) fun x => bnd (truW x) fun t => if t = true then ret x else vb ρ) cF kF Wx) := by
  refine ⟨fun pins s σ H Q I h => (pe_orT ha hb).run pins s σ H Q I ?_⟩
  obtain ⟨S, F, ρ, Qd, Ed, r, hq, lk, xk⟩ := h
  refine one r hq xk fun F2 H2 v x e2 r2 x2 b1 q => ?_
  obtain ⟨t, h1, h2⟩ := tru_of b1.b q
  refine ⟨t, h1, ?_⟩
  cases t with
  | false =>
    show tV (cmX X ca fl) vb cB kB Wx σ H2 Q
    exact one r2 h2 x2 fun F3 H3 w y e3 r3 x3 b3 q3 => (lk.ev r.wf (e2.trans r.wf e3)).here r3.wf q3 (.of b3.b (fun z => b3.c (hcB ρ z)) (hkF ρ))
  | true =>
    show Q v H2
    exact (lk.ev r.wf e2).here r2.wf h2 (.of b1.b (fun z => b1.c (hcA ρ z)) (hkF ρ))
theorem n_not (ha : PE X a (tV (cmX X ca fl) va cA kA Wx)) : PE X (.UnaryOp .Not a pos) (tV (cmX X ca fl) (fun ρ => bnd (va ρ) fun x => bnd (truW x) fun t => ret (.bl (!t))) cF kF Wx) := by
  refine ⟨fun pins s σ H Q I h => (pe_notT ha).run pins s σ H Q I ?_⟩
  obtain ⟨S, F, ρ, Qd, Ed, r, hq, lk, xk⟩ := h
  refine one r hq xk fun F2 H2 v x e2 r2 x2 b1 q => ?_
  obtain ⟨t, h1, h2⟩ := tru_of b1.b q
  exact ⟨t, h1, (lk.ev r.wf e2).bare r2.wf h2 (.bl _)⟩
/-- one test -/
theorem oneT {cm : Cm} {S : Sit} {F : AP} {ρ : Env} {σ : L2.St} {H : Hp} {Ed : D → Prop} {tA : Env → W Bool} {P : Bool → Prop} {Gl : Bool → Hp → Prop} (r : Real cm S F ρ σ H) (h : tA ρ P Ed) (xk : Xk cm S Ed F H (fun cls d H' => Wx cls d σ H'))
    (hk : ∀ (F2 : AP) (H2 : Hp) (t : Bool), Ev S.hd H H2 F F2 → Real cm S F2 ρ σ H2 → Xk cm S Ed F2 H2 (fun cls d H' => Wx cls d σ H') → P t → Gl t H2) : tT cm tA Wx σ H Gl :=
  ⟨S, F, ρ, P, Ed, r, h, fun F1 H1 t e1 q1 => hk F1 H1 t e1 (r.ev e1) (xk.ev r.wf e1) q1, xk⟩
theorem n_andT (ha : PT X a (tT (cmX X ca fl) tA Wx)) (hb : PW X (.BoolOp .And (b :: rest) pos) (tT (cmX X ca fl) tB' Wx)) : PW X (.BoolOp .And (a :: b :: rest) pos) (tT (cmX X ca fl) (fun ρ => bnd (tA ρ) fun t => if t = true then tB' ρ else ret false) Wx) := by
  refine ⟨fun whole pins s σ H Q I h => (pw_and ha hb).run whole pins s σ H Q I ?_⟩
  obtain ⟨S, F, ρ, Qd, Ed, r, hq, lk, xk⟩ := h
  refine oneT r hq xk fun F2 H2 t e2 r2 x2 q => ?_
  cases t with
  | true =>
    show tT (cmX X ca fl) tB' Wx σ H2 Q
    exact oneT r2 q x2 fun F3 H3 t e3 r3 x3 q3 => lk _ _ _ (e2.trans r.wf e3) q3
  | false =>
    show Q false H2
    exact lk _ _ _ e2 q
theorem n_orT (ha : PT X a (tT (cmX X ca fl) tA Wx)) (hb : PW X (.BoolOp .Or (b :: rest) pos) (tT (cmX X ca fl) tB' Wx)) : PW X (.BoolOp .Or (a :: b :: rest) pos) (tT (cmX X ca fl) (fun ρ => bnd (tA ρ) fun t => if t = true then ret true else tB' ρ) Wx) := by
  refine ⟨fun whole pins s σ H Q I h => (pw_or ha hb).run whole pins s σ H Q I ?_⟩
  obtain ⟨S, F, ρ, Qd, Ed, r, hq, lk, xk⟩ := h
  refine oneT r hq xk fun F2 H2 t e2 r2 x2 q => ?_
  cases t with
  | false =>
    show tT (cmX X ca fl) tB' Wx σ H2 Q
    exact oneT r2 q x2 fun F3 H3 t e3 r3 x3 q3 => lk _ _ _ (e2.trans r.wf e3) q3
  | true =>
    show Q true H2
    exact lk _ _ _ e2 q
theorem n_notT (ha : PT X a (tT (cmX X ca fl) tA Wx)) : PT X (.UnaryOp .Not a pos) (tT (cmX X ca fl) (fun ρ => bnd (tA ρ) fun t => ret (!t)) Wx) := by
  refine ⟨fun pins s σ H Q I h => (pt_not ha).run pins s σ H Q I ?_⟩
  obtain ⟨S, F, ρ, Qd, Ed, r, hq, lk, xk⟩ := h
  exact oneT r hq xk fun F2 H2 t e2 r2 x2 q => lk _ _ _ e2 q
theorem n_ite (hc : PT X c (tT (cmX X ca fl) tC' Wx)) (ha : PE X a (tV (cmX X ca fl) va cA kA Wx)) (hb : PE X b (tV (cmX X ca fl) vb cB kB Wx)) (hcA : ∀ ρ, cF ρ = true → cA ρ = true) (hcB : ∀ ρ, cF ρ = true → cB ρ = true) (hkF : ∀ ρ, kF ρ = true → cF ρ = true) :
    PE X (.IfExp c a b pos) (tV (cmX X ca fl) (fun ρ => bnd (tC' ρ) fun t => if t = true then va ρ else vb ρ) cF kF Wx) := by
  refine ⟨fun pins s σ H Q I h => (pe_ifExp hc ha hb).run pins s σ H Q I ?_⟩
  obtain ⟨S, F, ρ, Qd, Ed, r, hq, lk, xk⟩ := h
  refine oneT r hq xk fun F2 H2 t e2 r2 x2 q => ?_
  cases t with
  | true =>
    show tV (cmX X ca fl) va cA kA Wx σ H2 Q
    exact one r2 q x2 fun F3 H3 w y e3 r3 x3 b3 q3 => (lk.ev r.wf (e2.trans r.wf e3)).here r3.wf q3 (.of b3.b (fun z => b3.c (hcA ρ z)) (hkF ρ))
  | false =>
    show tV (cmX X ca fl) vb cB kB Wx σ H2 Q
    exact one r2 q x2 fun F3 H3 w y e3 r3 x3 b3 q3 => (lk.ev r.wf (e2.trans r.wf e3)).here r3.wf q3 (.of b3.b (fun z => b3.c (hcB ρ z)) (hkF ρ))
theorem wpAny_isTrue_IfExp {M : Model} {A : Around} {E' : Value → Shared → Prop} {s : Shared} {env : PySem.Env} {Q : Bool → Shared → Prop} {whole : Sem Value}
    (h : wpAny M A (isTrue c env (eval c env)) (fun t s1 => wpAny M A (if t = true then isTrue a env (eval a env) else isTrue b env (eval b env)) Q E' s1) E' s) : wpAny M A (isTrue (.IfExp c a b pos) env whole) Q E' s := by
  show wpAny M A (isTrue c env (eval c env) >>= fun t => if t = true then isTrue a env (eval a env) else isTrue b env (eval b env)) Q E' s
  exact wpAny_bind h
theorem n_iteT (hc : PT X c (tT (cmX X ca fl) tC' Wx)) (ha : PT X a (tT (cmX X ca fl) tA Wx)) (hb : PT X b (tT (cmX X ca fl) tB' Wx)) :
    PT X (.IfExp c a b pos) (tT (cmX X ca fl) (fun ρ => bnd (tC' ρ) fun t => if t = true then tA ρ else tB' ρ) Wx) := by
  refine ⟨fun pins s σ H Q I h => wpAny_isTrue_IfExp ?_⟩
  obtain ⟨S, F, ρ, Qd, Ed, r, hq, lk, xk⟩ := h
  refine thn (hc.run pins s σ H (fun t H1 => if t = true then tT (cmX X ca fl) tA Wx σ H1 Q else tT (cmX X ca fl) tB' Wx σ H1 Q) I ?_) fun t s1 hh => ?_
  · refine oneT r hq xk fun F2 H2 t e2 r2 x2 q => ?_
    cases t with
    | true =>
      show tT (cmX X ca fl) tA Wx σ H2 Q
      exact oneT r2 q x2 fun F3 H3 t e3 r3 x3 q3 => lk _ _ _ (e2.trans r.wf e3) q3
    | false =>
      show tT (cmX X ca fl) tB' Wx σ H2 Q
      exact oneT r2 q x2 fun F3 H3 t e3 r3 x3 q3 => lk _ _ _ (e2.trans r.wf e3) q3
  · obtain ⟨H1, I1, q1⟩ := hh
    cases t with
    | true => exact ha.run pins s1 σ H1 Q I1 q1
    | false => exact hb.run pins s1 σ H1 Q I1 q1
/-! ### displays, subscripts, fields -/
/-- the terms of a list, from the left -/
structure AR (cm : Cm) (Wx : WX) (es : Es) (w : Env → W (List D)) (t : TA) : Prop where
  run : ∀ (S : Sit) (F : AP) (ρ : Env) (σ : L2.St) (H : Hp) (Ed : D → Prop) (P : List D → Prop) (Gl : List V → Hp → Prop), Real cm S F ρ σ H → w ρ P Ed → Xk cm S Ed F H (fun cls d H' => Wx cls d σ H') →
    (∀ (F2 : AP) (H2 : Hp) (vs : List V) (ds : List D), Ev S.hd H H2 F F2 → Real cm S F2 ρ σ H2 → Xk cm S Ed F2 H2 (fun cls d H' => Wx cls d σ H') →
      KnL cm S.hd F2 (Fb F2 ρ σ) H2 es (fun e => cl (isOwn ρ) e = true) (fun e => cc (isOwn ρ) e = true) vs ds → P ds → Gl vs H2) → t σ H Gl
theorem ar_nil {cm : Cm} : AR cm Wx .nil (fun _ => ret []) tNil := ⟨fun S F ρ σ H Ed P Gl r h xk hk => hk F H [] [] (.refl r.wf) r xk .nil h⟩
theorem ar_cons {cm : Cm} {e : E} {r : Es} {v : Env → W D} {w : Env → W (List D)} {t : TA} (hr : AR cm Wx r w t) :
    AR cm Wx (.cons e r) (fun ρ => bnd (v ρ) fun d => bnd (w ρ) fun ds => ret (d :: ds)) (tCons (tV cm v (fun ρ => cl (isOwn ρ) e) (fun ρ => cc (isOwn ρ) e) Wx) t) :=
  ⟨fun S F ρ σ H Ed P Gl r h xk hk => one r h xk fun F1 H1 u d e1 r1 x1 b1 q1 => hr.run S F1 ρ σ H1 Ed _ _ r1 q1 x1 fun F2 H2 us ds e2 r2 x2 b2 q2 => hk F2 H2 _ _ (e1.trans r.wf e2) r2 x2 (.cons (b1.ev r1 e2) b2) q2⟩
theorem n_tup {es : List Expr} {sE : Es} {w : Env → W (List D)} {t : TA} {x1 : Nat} (h : PA X es t) (ha : AR (cmX X ca fl) Wx sE w t) :
    PE X (.Tuple es x1 pos) (tV (cmX X ca fl) (fun ρ => bnd (w ρ) fun ds => req (ds.length ≤ sizeLine) (ret (.tup ds))) (fun ρ => cls (isOwn ρ) sE) (fun ρ => cls (isOwn ρ) sE) Wx) := by
  refine ⟨fun pins s σ H Q I hh => (pe_tup h).run pins s σ H Q I ?_⟩
  obtain ⟨S, F, ρ, Qd, Ed, r, hq, lk, xk⟩ := hh
  refine ha.run S F ρ σ H Ed _ _ r hq xk fun F2 H2 vs ds e2 r2 x2 b2 q => ?_
  obtain ⟨q1, q2⟩ := q
  have el := b2.ball.length
  exact ⟨by omega, (lk.ev r.wf e2).newT r2 q2 (by omega) b2.ball (fun z => b2.cle z) (fun z => z)⟩
theorem n_lst {es : List Expr} {sE : Es} {w : Env → W (List D)} {t : TA} (h : PA X es t) (ha : AR (cmX X ca fl) Wx sE w t) :
    PE X (.List es pos) (tV (cmX X ca fl) (fun ρ => bnd (w ρ) fun ds => req (ds.length ≤ sizeLine) (ret (.lst ds))) (fun ρ => cls (isOwn ρ) sE) (fun ρ => cls (isOwn ρ) sE) Wx) := by
  refine ⟨fun pins s σ H Q I hh => (pe_lst h).run pins s σ H Q I ?_⟩
  obtain ⟨S, F, ρ, Qd, Ed, r, hq, lk, xk⟩ := hh
  refine ha.run S F ρ σ H Ed _ _ r hq xk fun F2 H2 vs ds e2 r2 x2 b2 q => ?_
  obtain ⟨q1, q2⟩ := q
  have el := b2.ball.length
  exact ⟨by omega, (lk.ev r.wf e2).newL r2 q2 (by omega) b2.ball (fun z => b2.cle z) (fun z => z)⟩
theorem plainIx_of (h : notSlice b = true) : PlainIx b := fun o i => by
  unfold subscripted
  cases b <;> first | rfl | cases h
theorem Lk.get {cm : Cm} {S : Sit} {F : AP} {ρ : Env} {σ : L2.St} {H : Hp} {c k : Prop} {Qd : D → Prop} {Q : VK} {vs : List V} {ds : List D} {i : Int} {d : D} (r : Real cm S F ρ σ H) (h : Lk cm S ρ σ c k Qd F H Q) (hk : k → c)
    (hd : DenL cm (Fc c F (Fb F ρ σ)) S.hd H vs ds) (e : atI ds i = some d) (q : Qd d) : ∃ v, atI vs i = some v ∧ Q v H := by
  obtain ⟨v, h1, h2⟩ := hd.at e
  exact ⟨v, h1, h.fc r q h2 hk⟩
theorem n_ix (hs : notSlice b = true) (ha : PE X a (tV (cmX X ca fl) va cA kA Wx)) (hb : PE X b (tV (cmX X ca fl) vb cB kB Wx)) :
    PE X (.Subscript a b pos) (tV (cmX X ca fl) (fun ρ => bnd (va ρ) fun x => bnd (vb ρ) fun y => ixW x y) kA kA Wx) := by
  refine ⟨fun pins s σ H Q I h => (pe_ix ix_seq ha hb (plainIx_of hs)).run pins s σ H Q I ?_⟩
  obtain ⟨S, F, ρ, Qd, Ed, r, hq, lk, xk⟩ := h
  refine two r hq xk fun F2 H2 v w x y e2 r2 x2 b1 b2 q => ?_
  have lk2 := lk.ev r.wf e2
  have c1 := b1.fc (c := kA ρ = true) fun z => z
  cases y <;> cases x <;> first | exact False.elim q | skip
  · rename_i i z
    cases b2.b.intI
    obtain ⟨rfl, sx⟩ := c1.strI
    change (match atI z.cps.toList i with
      | some c => req (z.length ≤ sizeLine) (ret (D.str ⟨#[c]⟩))
      | none => fail) Qd Ed at q
    cases e : atI z.cps.toList i with
    | none => rw [e] at q; exact False.elim q
    | some ch =>
      rw [e] at q
      refine .inr (.inr ⟨_, _, ch, rfl, rfl, q.1, e, lk2.bare r2.wf q.2 (.str _ ?_)⟩)
      obtain ⟨j, h1, h2, _⟩ := atI_get e
      unfold PyData.strOk at sx ⊢
      have hm : ch ∈ z.cps := by
        rw [← Array.mem_toList_iff]
        exact List.mem_of_getElem? h2
      have := (Array.all_eq_true_iff_forall_mem.mp sx) ch hm
      simpa using this
  · rename_i i ds
    cases b2.b.intI
    obtain ⟨p, vs, rfl, hp, l, dd⟩ := c1.tupI
    change (match atI ds i with
      | some d => ret d
      | none => fail) Qd Ed at q
    cases e : atI ds i with
    | none => rw [e] at q; exact False.elim q
    | some d =>
      rw [e] at q
      obtain ⟨v', h1, h2⟩ := lk2.get r2 (fun z => z) dd e q
      exact .inr (.inl ⟨p, vs, _, v', rfl, rfl, hp, h1, h2⟩)
  · rename_i i ds
    cases b2.b.intI
    obtain ⟨p, vs, rfl, hp, l, dd⟩ := c1.lstI
    change (match atI ds i with
      | some d => ret d
      | none => fail) Qd Ed at q
    cases e : atI ds i with
    | none => rw [e] at q; exact False.elim q
    | some d =>
      rw [e] at q
      obtain ⟨v', h1, h2⟩ := lk2.get r2 (fun z => z) dd e q
      exact .inl ⟨p, vs, _, v', rfl, rfl, .inl (.inl hp), h1, h2⟩
theorem n_po {v : Env → W D} {c' k' : Env → Bool} (he : PE X e (tV (cmX X ca fl) v c' k' Wx)) : PO X (some e) (tO (cmX X ca fl) (fun ρ => bnd (v ρ) oW) Wx) := by
  refine ⟨fun pins s σ H Q I h => (po_some he).run pins s σ H Q I ?_⟩
  obtain ⟨S, F, ρ, Qd, Ed, r, hq, lk, xk⟩ := h
  refine one r hq xk fun F2 H2 v x e2 r2 x2 b1 q => ?_
  cases x <;> first | exact False.elim q | skip
  cases b1.b.intI
  exact ⟨_, rfl, lk _ _ _ e2 q⟩
theorem n_po0 : PO X none (tO (cmX X ca fl) (fun _ => ret none) Wx) := by
  refine ⟨fun pins s σ H Q I h => po_none.run pins s σ H Q I ?_⟩
  obtain ⟨S, F, ρ, Qd, Ed, r, hq, lk, xk⟩ := h
  exact lk _ _ _ (.refl r.wf) hq
theorem n_sl {lo hi : Option Expr} {tl th : Env → W (Option Int)} {p2 : Pos} (ha : PE X a (tV (cmX X ca fl) va cA kA Wx)) (hl : PO X lo (tO (cmX X ca fl) tl Wx)) (hh : PO X hi (tO (cmX X ca fl) th Wx)) :
    PE X (.Subscript a (.Slice lo hi none p2) pos) (tV (cmX X ca fl) (fun ρ => bnd (va ρ) fun x => bnd (tl ρ) fun l => bnd (th ρ) fun h => slW x l h) kA kA Wx) := by
  refine ⟨fun pins s σ H Q I h => (pe_slice (sl_list.or sl_tupA) ha hl hh).run pins s σ H Q I ?_⟩
  obtain ⟨S, F, ρ, Qd, Ed, r, hq, lk, xk⟩ := h
  refine one r hq xk fun F2 H2 v x e2 r2 x2 b1 q => ?_
  refine ⟨S, F2, ρ, _, Ed, r2, q, fun F3 H3 l e3 q3 => ?_, x2⟩
  have r3 := r2.ev e3
  refine ⟨S, F3, ρ, _, Ed, r3, q3, fun F4 H4 h e4 q4 => ?_, x2.ev r2.wf e3⟩
  have r4 := r3.ev e4
  have lk4 := lk.ev r.wf ((e2.trans r.wf e3).trans r.wf e4)
  have c1 := ((b1.ev r2 e3).ev r3 e4).fc (c := kA ρ = true) fun z => z
  cases x <;> first | exact False.elim q4 | skip
  · rename_i ds
    obtain ⟨p, vs, rfl, hp, ll, dd⟩ := c1.tupI
    refine .inr ⟨p, vs, rfl, hp, fun hw => ?_, fun _ => ?_⟩
    · have e0 : cutL ds l h = ds := by
        unfold cutL
        rw [← dd.length, hw.1, hw.2]
        show List.take _ ds = ds
        rw [List.take_of_length_le]
        rw [dd.length]; omega
      have q5 : Qd (.tup (cutL ds l h)) := q4
      rw [e0] at q5
      exact lk4.fc r4 q5 (.tup hp ll dd) (fun z => z)
    · exact lk4.fcT r4 q4 (Nat.le_trans (cutV_length _ _ _) ll) (dd.cut l h) (fun z => z)
  · rename_i ds
    obtain ⟨p, vs, rfl, hp, ll, dd⟩ := c1.lstI
    exact .inl ⟨p, vs, rfl, .inl (.inl hp), lk4.fcL r4 q4 (Nat.le_trans (cutV_length _ _ _) ll) (dd.cut l h) (fun z => z)⟩
theorem look2_mem {f : Nat} {d : D} : ∀ {ns : List Nat} {vs : List D}, look2 ns vs f = some d → f ∈ ns
  | [], _, h => by simp [look2] at h
  | n :: ns, [], h => by simp [look2] at h
  | n :: ns, x :: vs, h => by
    unfold look2 at h
    by_cases e : f = n
    · simp [e]
    · rw [if_neg e] at h
      exact List.mem_cons_of_mem _ (look2_mem h)
theorem look2_of {cm : Cm} {F : AP} {hd : Option Addr} {H : Hp} {f : Nat} {d : D} : ∀ {ns : List Nat} {vs : List D} {fs : List (Str × V)}, fs.map (·.1) = ns.map cm.fl → DenL cm F hd H (fs.map (·.2)) vs → (∀ n ∈ ns, cm.fl n = cm.fl f → n = f) → look2 ns vs f = some d →
    f ∈ ns ∧ ∃ v, fs.lookup (cm.fl f) = some v ∧ Den cm F hd H v d
  | [], _, _, _, _, _, h => by simp [look2] at h
  | n :: ns, [], _, _, _, _, h => by simp [look2] at h
  | n :: ns, x :: vs, [], hk, _, _, h => by simp at hk
  | n :: ns, x :: vs, (g, w) :: fs, hk, hd, hi, h => by
    have hk' : g = cm.fl n ∧ fs.map (·.1) = ns.map cm.fl := by simpa using hk
    cases hd with
    | cons h1 h2 =>
      unfold look2 at h
      by_cases e : f = n
      · rw [if_pos e] at h
        cases h
        refine ⟨by simp [e], w, ?_, h1⟩
        rw [hk'.1, e, List.lookup_cons]
        simp
      · rw [if_neg e] at h
        obtain ⟨hm, v, hv, hdv⟩ := look2_of hk'.2 h2 (fun m hm' => hi m (List.mem_cons_of_mem _ hm')) h
        refine ⟨List.mem_cons_of_mem _ hm, v, ?_, hdv⟩
        have ng : (cm.fl f == g) = false := by
          rw [hk'.1, beq_eq_false_iff_ne]
          exact fun z => e (hi n (List.mem_cons_self) z.symm).symm
        rw [List.lookup_cons, ng]
        exact hv
theorem n_fld {f : Nat} (hn : noBase a = true) (ha : PE X a (tV (cmX X ca fl) va cA kA Wx)) : PE X (.Attribute a (fl f) pos) (tV (cmX X ca fl) (fun ρ => bnd (va ρ) fun x => fldW x f) kA kA Wx) := by
  refine ⟨fun pins s σ H Q I h => (pe_fld ha (base_of hn)).run pins s σ H Q I ?_⟩
  obtain ⟨S, F, ρ, Qd, Ed, r, hq, lk, xk⟩ := h
  refine one r hq xk fun F2 H2 v x e2 r2 x2 b1 q => ?_
  have c1 := b1.fc (c := kA ρ = true) fun z => z
  cases x <;> first | exact False.elim q | skip
  rename_i c ns ds
  obtain ⟨p, dx, fs, rfl, hp, hk, hi, dd⟩ := c1
  change (match look2 ns ds f with
    | some d => ret d
    | none => fail) Qd Ed at q
  cases e : look2 ns ds f with
  | none => rw [e] at q; exact False.elim q
  | some d =>
    rw [e] at q
    have hm : f ∈ ns := look2_mem e
    obtain ⟨_, w, hw, hdw⟩ := look2_of hk dd (fun n hn => hi.inj n hn f hm) e
    exact ⟨p, _, dx, fs, w, rfl, hp, hi.cl, hi.na f hm, hw, (lk.ev r.wf e2).fc r2 q hdw (fun z => z)⟩
end
end DV
/-! DV: calls, built-ins, walks. -/
namespace DV
open PySem PySem.Spec PyProof.Rows L2
/-- a def's promise by what it means -/
def SpOf (cm : Cm) (n : Nat) (φ : List D → W D) : Sp := fun vs H Q E => ∃ (F : AP) (hd : Option Addr) (ds : List D) (Qd Ed : D → Prop), ds.length = n ∧ WF F hd H ∧ DenL cm F hd H vs ds ∧ φ ds Qd Ed ∧
  (∀ (F' : AP) (H' : Hp) (u : V) (d : D), Ev hd H H' F F' → Den cm F' hd H' u d → Qd d → Q u H') ∧
  (∀ (F' : AP) (H' : Hp) (cls : Value) (dd : Option Addr) (x : D), Ev hd H H' F F' → DenX cm F' hd H' cls dd x → Ed x → E cls dd H')
def without (H : Hp) (x : Addr) : Hp := fun a => if a = x then none else H a
/-- .. of an __init__: the new instance gets its fields -/
def SpIn (cm : Cm) (c n : Nat) (φ : List D → W D) : Sp := fun vs H Q E => ∃ (x dx : Addr) (us : List V) (F : AP) (hd : Option Addr) (ds : List D) (Qd Ed : D → Prop), vs = .ref x :: us ∧ ds.length = n ∧ H x = some (.ins (cm.ca c) dx []) ∧ WF F hd (without H x) ∧
  DenL cm F hd (without H x) us ds ∧ φ ds Qd Ed ∧
  (∀ (F' : AP) (H' : Hp) (dx' : Addr) (ns : List Nat) (fs : List (Str × V)) (ws : List D), Ev hd (without H x) H' F F' → ¬ F' x → H' x = some (.ins (cm.ca c) dx' fs) → fs.map (·.1) = ns.map cm.fl → InsOk cm c ns → DenL cm F' hd H' (fs.map (·.2)) ws → Qd (.ins c ns ws) → Q .non H') ∧
  (∀ (F' : AP) (H' : Hp) (cls : Value) (dd : Option Addr) (y : D), Ev hd (without H x) H' F F' → DenX cm F' hd H' cls dd y → Ed y → E cls dd H')
theorem bare_x {cm : Cm} {F F' : AP} {hd : Option Addr} {H : Hp} {cls : Value} {dd : Option Addr} {x : D} (h : DenX cm F hd H cls dd x) (e : noRefs (xArgs x) = true) : DenX cm F' hd H cls dd x := by
  obtain ⟨c, ns, vs, ds, rfl, h2, h3, h4, h5⟩ := h
  exact ⟨c, ns, vs, ds, rfl, h2, h3.bare e, h4, h5⟩
/-- back from all that is borrowed -/
theorem Ev.back {cm : Cm} {S : Sit} {F F' : AP} {ρ : Env} {σ : L2.St} {H H' : Hp} (r : Real cm S F ρ σ H) (e : Ev S.hd H H' (Fb F ρ σ) F') : Ev S.hd H H' F F := by
  refine ⟨e.sb, fun _ h => h, fun _ h => .inl h, ⟨fun a h => ?_, r.wf.nh, fun h eh => ?_⟩, e.hc⟩
  · cases q : H a with
    | none => exact absurd q (r.wf.tr a h)
    | some o => rw [e.sb a o q (r.wf.nh a h)]; exact fun z => nomatch z
  · obtain ⟨c, cells, p, rr, m, h1, h2, h3⟩ := r.wf.ho h eh
    obtain ⟨c', cells', p', rr', m', g1, g2, g3⟩ := e.wf.ho h eh
    obtain ⟨r', q⟩ := e.hc h c _ eh h1
    rw [g1] at q
    cases q
    exact ⟨_, cells', p', rr', m', g1, h2, g3⟩
theorem Real.wfb {cm : Cm} {S : Sit} {F : AP} {ρ : Env} {σ : L2.St} {H : Hp} (r : Real cm S F ρ σ H) : WF (Fb F ρ σ) S.hd H :=
  ⟨fun a h => (r.fb_tr a h).1, fun a h => (r.fb_tr a h).2, fun h eh => by
    obtain ⟨c, cells, p, rr, m, h1, h2, h3⟩ := r.wf.ho h eh
    exact ⟨c, cells, p, rr, m, h1, .inl h2, h3⟩⟩
theorem call_use {cm : Cm} {S : Sit} {F : AP} {ρ : Env} {σ : L2.St} {H : Hp} {Qd Ed : D → Prop} {Q : VK} {R : Value → Option Addr → Hp → Prop} {c k : Prop} {b : Bool} {n : Nat} {φ : List D → W D} {vs : List V} {ds : List D}
    (r : Real cm S F ρ σ H) (h : callW (some (n, φ)) b ds Qd Ed) (hb : DenL cm (Fb F ρ σ) S.hd H vs ds) (hc : b = true → DenL cm F S.hd H vs ds) (lk : Lk cm S ρ σ c k Qd F H Q) (xk : Xk cm S Ed F H R) : SpOf cm n φ vs H Q R := by
  obtain ⟨hn, h⟩ := h
  cases b with
  | true => exact ⟨F, S.hd, ds, Qd, Ed, hn, r.wf, hc rfl, h, fun F' H' u d e q1 q2 => lk F' H' u d e (.all q1) q2, xk⟩
  | false =>
    refine ⟨Fb F ρ σ, S.hd, ds, _, _, hn, r.wfb, hb, h, fun F' H' u d e q1 q2 => lk F H' u d (e.back r) (.all (q1.bare q2.1)) q2.2, fun F' H' cls dd x e q1 q2 => xk F H' cls dd x (e.back r) (bare_x q1 q2.1) q2.2⟩
section
variable {X : Cx} {ca : Ca} {fl : Nat → Str} {Wx : WX} {a b e : Expr} {pos p : Pos} {va vb ve : Env → W D} {cA kA cB kB cE kE cF kF : Env → Bool}
/-- what the context lets out -/
def Lets (X : Cx) (Wx : WX) : Prop := ∀ (E : L2.St → XK), (∀ σ c d H, E σ c d H → Wx c d σ H) → ∀ σ, PassesAt (L2.CX X.prog X.w) X σ (E σ)
theorem lets_of (tk : Takes X Wx) : Lets X Wx := fun E h σ => passAt (W := fun c d σ H => E σ c d H) (tk.imp fun c d σ H q => h σ c d H q) σ
theorem lets_no : Lets X (fun _ _ _ _ => False) := fun E h σ pins H s e s' I c => by
  obtain ⟨_, _, _, _, _, _, _, _, _, _, _, _, q⟩ := c
  exact (h _ _ _ _ q).elim
/-- a def of the module -/
def FnE (X : Cx) (ca : Ca) (fl : Nat → Str) (k : Nat) (x : Str) (n : Nat) (φ : List D → W D) : Prop := ∃ (fa : Addr) (fd : FuncData) (ps : List Str) (j : Nat), j ≤ k ∧ ps.length = n ∧
  FnOk X.prog X.w X.K X.mg X.base (L2.CX X.prog X.w) j fa fd ps (SpOf (cmX X ca fl) n φ) ∧ X.mg x = some (.ref fa) ∧ PySem.W.keepIn X.K (.ref fa) = true ∧ Binds X.K fd ps []
theorem n_call {k n : Nat} {x : Str} {φ : List D → W D} {es : List Expr} {sE : Es} {w : Env → W (List D)} {t : TA} (hF : FnE X ca fl k x n φ) (hr : Room k X.A) (hl : Lets X Wx) (hg : Gl X x) (hdb : (x == ("__debug__" : Str)) = false) (hs : (e :: es).all notStar = true)
    (h : PA X (e :: es) t) (ha : AR (cmX X ca fl) Wx sE w t) :
    PE X (.Call (.Name x p) (e :: es) [] pos) (tV (cmX X ca fl) (fun ρ => bnd (w ρ) fun ds => callW (some (n, φ)) (cls (isOwn ρ) sE) ds) cF kF Wx) := by
  obtain ⟨fa, fd, ps, j, hj, hps, G, hm, hk, hb⟩ := hF
  have hs' : notStar e = true ∧ es.all notStar = true := by simpa using hs
  refine ⟨fun pins s σ H Q I hh => (pe_callS (E := fun σ => fun cls d H' => Wx cls d σ H') G (hr.mono hj) hg hm hk hb (hl _ fun _ _ _ _ q => q) h hdb (star_cons hs'.1) (star_any hs'.2)).run pins s σ H Q I ?_⟩
  obtain ⟨S, F, ρ, Qd, Ed, r, hq, lk, xk⟩ := hh
  refine ha.run S F ρ σ H Ed _ _ r hq xk fun F2 H2 vs ds e2 r2 x2 b2 q => ?_
  exact call_use r2 q b2.ball (fun z => b2.cle z) (lk.ev r.wf e2) x2
theorem n_call0 {k n : Nat} {x : Str} {φ : List D → W D} (hF : FnE X ca fl k x n φ) (hr : Room k X.A) (hl : Lets X Wx) (hg : Gl X x) (hdb : (x == ("__debug__" : Str)) = false) :
    PE X (.Call (.Name x p) [] [] pos) (tV (cmX X ca fl) (fun ρ => bnd (ret []) fun ds => callW (some (n, φ)) true ds) cF kF Wx) := by
  obtain ⟨fa, fd, ps, j, hj, hps, G, hm, hk, hb⟩ := hF
  refine ⟨fun pins s σ H Q I hh => ?_⟩
  refine wpAny_Call_Name_kw (ld_glob I hg hm ?_ hdb)
  refine PySem.W.callWith_K0 I.kIn hk (run_fnS (us := []) (vs := []) (E := fun σ => fun cls d H' => Wx cls d σ H') G (hr.mono hj) hb (hl _ (fun _ _ _ _ q => q) σ) I .nil ?_)
  obtain ⟨S, F, ρ, Qd, Ed, r, hq, lk, xk⟩ := hh
  exact call_use r hq .nil (fun z => .nil) lk xk
theorem wt_same {H : Hp} {x dx : Addr} {o : HO} {o' : HO} (hx : H x = none) (hn : dx ≠ x) : ∀ a u, H a = some u → dx ≠ a → without (upd (upd H dx o) x o') x a = some u := fun a u h hd => by
  have na : a ≠ x := fun z => by rw [z, hx] at h; cases h
  unfold without
  rw [if_neg na, upd_ne na, upd_ne (Ne.symm hd)]
  exact h
/-- a class of the module, made -/
def MkE (X : Cx) (ca : Ca) (fl : Nat → Str) (k : Nat) (x : Str) (c n : Nat) (φ : List D → W D) : Prop := ∃ (fI : Addr) (fd : FuncData) (ps : List Str) (j : Nat), j + 1 ≤ k ∧ ps.length = n + 1 ∧ Mk X.K (ca c) fI ∧
  FnOk X.prog X.w X.K X.mg X.base (L2.CX X.prog X.w) j fI fd ps (SpIn (cmX X ca fl) c n φ) ∧ X.mg x = some (.ref (ca c)) ∧ Binds X.K fd ps []
theorem run_makeS {CX : CXT} {k : Nat} {f C : Addr} {fd : FuncData} {ps : List Str} {sp : Sp} {E : L2.St → XK} {pins : List (Addr × Obj)} {σ : L2.St} {H : Hp} {s : Shared} {Q : VK} {us : List Value} {vs : List V} (M : Mk X.K C f) (F : FnOk X.prog X.w X.K X.mg X.base CX k f fd ps sp) (hr : Room (k + 1) X.A) (hb : Binds X.K fd ps [])
    (hx : PassesAt CX X σ (E σ)) (I : L2.Inv X pins σ H s) (r : Vals vs us)
    (h : ∀ x dx, H x = none → H dx = none → dx ≠ x → sp (.ref x :: vs) (upd (upd H dx (.own x)) x (.ins C dx [])) (fun v H2 => v = .non ∧ Q (.ref x) H2) (E σ)) :
    wpAny (model X.prog X.w) X.A (call (.ref C) us) (EP X pins σ Q) X.xe s := by
  have hq := h (s.heap.objs.size + 1) s.heap.objs.size (I.hok.fresh (Nat.le_succ _)) (I.hok.fresh (Nat.le_refl _)) (Nat.ne_of_lt (Nat.lt_succ_self _))
  have I2 := Inv.made (C := C) I
  have r2 : Vals (V.ref (s.heap.objs.size + 1) :: vs) (Value.ref (s.heap.objs.size + 1) :: us) := .cons rfl r
  have hl : (Value.ref (s.heap.objs.size + 1) :: us).length = ps.length := by
    have e := r2.length
    rw [F.len _ _ _ _ hq] at e
    exact e.symm
  have hl' : (Value.ref (s.heap.objs.size + 1) :: us ++ []).length = ps.length := by rw [List.append_nil]; exact hl
  have b := hb _ (Value.ref (s.heap.objs.size + 1) :: us) I2.kIn hl'
  rw [List.append_nil] at b
  refine wpAny_call (make_map (f := f) I.kIn M.makes M.init (beq_iff_eq.mp M.fn) (codeAny_mono (F.run _ X.stack _ _ ⟨Value.ref (s.heap.objs.size + 1) :: us, []⟩ (Value.ref (s.heap.objs.size + 1) :: us) _ _ (E σ) (hr.make C us [])
    (I2.env0.make C us []) b r2 hq) fun r s' hq' => ?_))
  cases r with
  | error e => exact hx pins _ _ e s' I2 hq'
  | ok fl =>
    cases fl with
    | ret u =>
      obtain ⟨v, H', I3, rv, ev, q3⟩ := I2.after hq'
      subst ev
      exact ⟨rv, ⟨V.ref (s.heap.objs.size + 1), H', I3, rfl, q3⟩⟩
    | next => exact False.elim hq'
    | brk => exact False.elim hq'
    | cont => exact False.elim hq'
/-- the new instance is beside all that is known -/
theorem wf_made {cm : Cm} {F : AP} {hd : Option Addr} {H : Hp} {x dx : Addr} {o o' : HO} (w : WF F hd H) (hx : H x = none) (hdx : H dx = none) (hn : dx ≠ x) : Ev hd H (without (upd (upd H dx o) x o') x) F F := by
  have st : ∀ a u, H a = some u → without (upd (upd H dx o) x o') x a = some u := fun a u h => wt_same hx hn a u h fun z => by rw [← z, hdx] at h; cases h
  refine ⟨fun a u h _ => st a u h, fun _ h => h, fun _ h => .inl h, ⟨fun a h => ?_, w.nh, fun h eh => ?_⟩, fun h c r _ q => ⟨r, st h _ q⟩⟩
  · cases q : H a with
    | none => exact absurd q (w.tr a h)
    | some u => rw [st a u q]; exact fun z => nomatch z
  · obtain ⟨c, cells, p, rr, m, h1, h2, h3, h4⟩ := w.ho h eh
    exact ⟨c, cells, p, rr, m, st h _ h1, h2, st c _ h3, h4⟩
theorem make_use {cm : Cm} {S : Sit} {F : AP} {ρ : Env} {σ : L2.St} {H : Hp} {Qd Ed : D → Prop} {Q : VK} {R : Value → Option Addr → Hp → Prop} {c' k' : Prop} {b : Bool} {c n : Nat} {φ : List D → W D} {vs : List V} {ds : List D} {x dx : Addr}
    (r : Real cm S F ρ σ H) (h : callW (some (n, φ)) b ds Qd Ed) (hb : DenL cm (Fb F ρ σ) S.hd H vs ds) (hc : b = true → DenL cm F S.hd H vs ds) (lk : Lk cm S ρ σ c' k' Qd F H Q) (xk : Xk cm S Ed F H R) (hx : H x = none) (hdx : H dx = none) (hn : dx ≠ x) :
    SpIn cm c n φ (.ref x :: vs) (upd (upd H dx (.own x)) x (.ins (cm.ca c) dx [])) (fun v H2 => v = .non ∧ Q (.ref x) H2) R := by
  obtain ⟨hl, h⟩ := h
  have hX : (upd (upd H dx (.own x)) x (.ins (cm.ca c) dx [])) x = some (.ins (cm.ca c) dx []) := upd_same
  have nhx : S.hd ≠ some x := fun z => by
    obtain ⟨_, _, _, _, _, q, _⟩ := r.wf.ho x z
    rw [hx] at q; cases q
  have fin : ∀ {F0 F' : AP} {H' : Hp} {dx' : Addr} {fs : List (Str × V)}, Ev S.hd H H' F0 F' → H' x = some (.ins (cm.ca c) dx' fs) → ¬ F' x → Ev S.hd H H' F0 fun a => F' a ∨ a = x := by
    intro F0 F' H' dx' fs e hX' nf
    refine ⟨e.sb, fun a z => .inl (e.up a z), fun a z => ?_, ⟨fun a z => ?_, fun a z => ?_, fun h eh => ?_⟩, e.hc⟩
    · rcases z with z | z
      · exact e.dn a z
      · exact .inr (by rw [z]; exact hx)
    · rcases z with z | z
      · exact e.wf.tr a z
      · rw [z, hX']; exact (fun z => nomatch z)
    · rcases z with z | z
      · exact e.wf.nh a z
      · rw [z]; exact nhx
    · obtain ⟨c, cells, p, rr, m, h1, h2, h3⟩ := e.wf.ho h eh
      exact ⟨c, cells, p, rr, m, h1, .inl h2, h3⟩
  cases b with
  | true =>
    have e0 := wf_made (cm := cm) (o := .own x) (o' := .ins (cm.ca c) dx []) r.wf hx hdx hn
    refine ⟨x, dx, vs, F, S.hd, ds, Qd, Ed, rfl, hl, hX, e0.wf, (hc rfl).mono (fun _ z => z) (e0.sta r.wf), h, fun F' H' dx' ns fs ws e nf hX' hk hi hd q => ⟨rfl, ?_⟩, fun F' H' cls dd y e q1 q2 => ?_⟩
    · have e1 := e0.trans r.wf e
      refine lk _ H' (.ref x) _ (fin e1 hX' nf) (.all (.ins (.inr rfl) hX' hk hi (hd.mono (fun a z => .inl z) (.refl _ _)))) q
    · exact xk F' H' cls dd y (e0.trans r.wf e) q1 q2
  | false =>
    have e0 := wf_made (cm := cm) (o := .own x) (o' := .ins (cm.ca c) dx []) r.wfb hx hdx hn
    refine ⟨x, dx, vs, Fb F ρ σ, S.hd, ds, _, _, rfl, hl, hX, e0.wf, hb.mono (fun _ z => z) (e0.sta r.wfb), h, fun F' H' dx' ns fs ws e nf hX' hk hi hd q => ?_, fun F' H' cls dd y e q1 q2 => ?_⟩
    · have q1 := q.1
      simp [noRef] at q1
    · exact xk F H' cls dd y ((e0.trans r.wfb e).back r) (bare_x q1 q2.1) q2.2
theorem n_make {k n c : Nat} {x : Str} {φ : List D → W D} {es : List Expr} {sE : Es} {w : Env → W (List D)} {t : TA} (hF : MkE X ca fl k x c n φ) (hr : Room k X.A) (hl : Lets X Wx) (hg : Gl X x) (hdb : (x == ("__debug__" : Str)) = false) (hs : (e :: es).all notStar = true)
    (h : PA X (e :: es) t) (ha : AR (cmX X ca fl) Wx sE w t) :
    PE X (.Call (.Name x p) (e :: es) [] pos) (tV (cmX X ca fl) (fun ρ => bnd (w ρ) fun ds => callW (some (n, φ)) (cls (isOwn ρ) sE) ds) cF kF Wx) := by
  obtain ⟨fI, fd, ps, j, hj, hps, M, G, hm, hb⟩ := hF
  have hs' : notStar e = true ∧ es.all notStar = true := by simpa using hs
  refine ⟨fun pins s σ H Q I hh => ?_⟩
  refine wpAny_Call_Name_kw (ld_glob I hg hm ?_ hdb)
  obtain ⟨S, F, ρ, Qd, Ed, r, hq, lk, xk⟩ := hh
  refine PySem.W.callWith_K (h₀ := X.base) I.ok.mod.kin M.kp (thn (h.run pos pins s σ H (fun vs H1 => ∀ x dx, H1 x = none → H1 dx = none → dx ≠ x → SpIn (cmX X ca fl) c n φ (.ref x :: vs) (upd (upd H1 dx (.own x)) x (.ins (ca c) dx [])) (fun v H2 => v = .non ∧ Q (.ref x) H2) (fun cls d H' => Wx cls d σ H')) I ?_) fun us s1 ⟨vs, H1, I1, rr, q⟩ => ⟨I1.kIn, ?_⟩) (star_cons hs'.1) (star_any hs'.2)
  · refine ha.run S F ρ σ H Ed _ _ r hq xk fun F2 H2 vs ds e2 r2 x2 b2 q x dx hx hdx hn => ?_
    exact make_use (cm := cmX X ca fl) r2 q b2.ball (fun z => b2.cle z) (lk.ev r.wf e2) x2 hx hdx hn
  · exact run_makeS (E := fun σ => fun cls d H' => Wx cls d σ H') M G (hr.mono hj) hb (hl _ (fun _ _ _ _ q => q) σ) I1 rr q
/-- methods -/
def MtE (X : Cx) (ca : Ca) (fl : Nat → Str) (k : Nat) (m : Str) (c n : Nat) (φ : List D → W D) : Prop := ∃ (fa : Addr) (fd : FuncData) (ps : List Str) (j : Nat), j ≤ k ∧ ps.length = n ∧ Meth X.K (ca c) m fa ∧ (∀ f, fl f ≠ m) ∧
  FnOk X.prog X.w X.K X.mg X.base (L2.CX X.prog X.w) j fa fd ps (SpOf (cmX X ca fl) n φ) ∧ Binds X.K fd ps []
theorem lookup_no {cm : Cm} {m : Str} (h : ∀ f, cm.fl f ≠ m) : ∀ {ns : List Nat} {fs : List (Str × V)}, fs.map (·.1) = ns.map cm.fl → fs.lookup m = none
  | _, [], _ => rfl
  | [], _ :: _, e => by simp at e
  | n :: ns, (g, v) :: fs, e => by
    have e' : g = cm.fl n ∧ fs.map (·.1) = ns.map cm.fl := by simpa using e
    have ng : (m == g) = false := by
      rw [e'.1, beq_eq_false_iff_ne]
      exact fun z => h n z.symm
    rw [List.lookup_cons, ng]
    exact lookup_no h e'.2
theorem n_meth {k mi : Nat} {m : Str} {mt : Nat → Nat → Option (Nat × (List D → W D))} {o : Expr} {vo : Env → W D} {sO : E} {es : List Expr} {sE : Es} {w : Env → W (List D)} {t : TA} {apos : Pos} (hM : ∀ c n φ, mt c mi = some (n, φ) → MtE X ca fl k m c n φ) (hr : Room k X.A) (hl : Lets X Wx) (hb : noBase o = true) (hp : (apos.endLine == pos.line) = true)
    (hs : es.all notStar = true) (hn : es.length < 30) (ho : PE X o (tV (cmX X ca fl) vo (fun ρ => cl (isOwn ρ) sO) (fun ρ => cc (isOwn ρ) sO) Wx)) (h : PA X es t) (h0 : es = [] → t = tNil) (ha : AR (cmX X ca fl) Wx sE w t) :
    PE X (.Call (.Attribute o m apos) es [] pos) (tV (cmX X ca fl) (fun ρ => bnd (vo ρ) fun x => methW (mtE mt mi x) (w ρ) (cl (isOwn ρ) sO && cls (isOwn ρ) sE) x) cF kF Wx) := by
  refine ⟨fun pins s σ H Q I hh => ?_⟩
  obtain ⟨S, F, ρ, Qd, Ed, r, hq, lk, xk⟩ := hh
  refine PySem.W.methodCall_KW (pl := do return (← importBound o X.env).getD true) (thn (ho.run pins s σ H (fun x H1 => ∃ (a dx : Addr) (c : Nat) (fs : List (Str × V)) (ns : List Nat) (xs : List D), x = .ref a ∧ H1 a = some (.ins (ca c) dx fs) ∧ fs.map (·.1) = ns.map fl ∧ Cls X.K (ca c) ∧
    ∃ n φ, mt c mi = some (n, φ) ∧ t σ H1 fun vs H2 => SpOf (cmX X ca fl) n φ (x :: vs) H2 Q (fun cls d H' => Wx cls d σ H')) I ?_) fun u s1 ⟨x, H1, I1, rx, a, dx, c, fs, ns, xs, ex, ea, hk, hcl, n, φ, hmt, q⟩ => ?_) (ht_of hb hp hs hn)
  · refine one r hq xk fun F2 H2 v x e2 r2 x2 b1 q => ?_
    cases x with
    | ins c ns xs =>
      have bb := b1.b
      cases bb with
      | @ins a dx _ _ fs _ hf hp' hk hi hd =>
        have q0 : methW (mt c mi) (w ρ) (cl (isOwn ρ) sO && cls (isOwn ρ) sE) (.ins c ns xs) Qd Ed := q
        cases hmt : mt c mi with
        | none =>
          rw [hmt] at q0
          exact False.elim q0
        | some nφ =>
          obtain ⟨n, φ⟩ := nφ
          rw [hmt] at q0
          refine ⟨a, dx, c, fs, ns, xs, rfl, hp', hk, hi.cl, n, φ, hmt, ?_⟩
          refine ha.run S F2 ρ σ H2 Ed _ _ r2 q0 x2 fun F3 H3 vs ds e3 r3 x3 b3 q3 => ?_
          have b1' := b1.ev r2 e3
          refine call_use r3 q3 (.cons b1'.b b3.ball) (fun z => ?_) (lk.ev r.wf (e2.trans r.wf e3)) x3
          have z' := Bool.and_eq_true_iff.mp z
          exact .cons (b1'.c z'.1) (b3.cle z'.2)
    | _ => exact False.elim q
  · subst ex
    obtain rfl : u = Value.ref a := rx
    obtain ⟨fa, fd, ps, j, hj, hps, hM', hno, G, hbd⟩ := hM c n φ hmt
    refine getmeth_ok I1 ea hcl hM' (lookup_no (cm := cmX X ca fl) hno hk) ?_
    cases es with
    | nil =>
      rw [h0 rfl] at q
      exact PySem.W.callWith_K0 (first := [.ref a]) I1.kIn hM'.kp (run_fnS (us := [.ref a]) (vs := [.ref a]) (E := fun σ => fun cls d H' => Wx cls d σ H') G (hr.mono hj) hbd (hl _ (fun _ _ _ _ q => q) σ) I1 (.cons rfl .nil) q)
    | cons e es =>
      have hs' : notStar e = true ∧ es.all notStar = true := by simpa using hs
      refine PySem.W.callWith_K (first := [.ref a]) (h₀ := X.base) I.ok.mod.kin hM'.kp (thn (h.run pos pins s1 σ H1 _ I1 q) fun us s2 ⟨vs, H2, I2, rr, q2⟩ => ⟨I2.kIn, ?_⟩) (star_cons hs'.1) (star_any hs'.2)
      exact run_fnS (us := .ref a :: us) (vs := .ref a :: vs) (E := fun σ => fun cls d H' => Wx cls d σ H') G (hr.mono hj) hbd (hl _ (fun _ _ _ _ q => q) σ) I2 (.cons rfl rr) q2
end
end DV
/-! DV: built-ins, isinstance, walks. -/
namespace DV
open PySem PySem.Spec PyProof.Rows L2
section
variable {X : Cx} {ca : Ca} {fl : Nat → Str} {Wx : WX} {a b e : Expr} {pos p : Pos} {va vb ve : Env → W D} {cA kA cB kB cE kE cF kF : Env → Bool}
theorem KnL.cce {cm : Cm} {F B : AP} {hd : Option Addr} {H : Hp} {c : Prop} {fc : E → Prop} {ow : Nat → Bool} : ∀ {es : Es} {us : List V} {ds : List D}, KnL cm hd F B H es fc (fun e => cc ow e = true) us ds → (c → ccs ow es = true) → ∀ (i : Nat) (u : V) (d : D), us[i]? = some u → ds[i]? = some d → Cc cm (Fc c F B) hd H u d
  | _, _, _, .nil, _, _, _, _, h, _ => by simp at h
  | _, _, _, .cons (e := e) (r := r) h t, q, i, u, d, h1, h2 => by
    have q' : c → cc ow e = true ∧ ccs ow r = true := fun z => by simpa [ccs] using q z
    cases i with
    | zero =>
      simp at h1 h2
      subst h1 h2
      exact h.fc fun z => (q' z).1
    | succ i => exact KnL.cce t (fun z => (q' z).2) i u d (by simpa using h1) (by simpa using h2)
theorem KnL.len {cm : Cm} {F B : AP} {hd : Option Addr} {H : Hp} {fc fk : E → Prop} {es : Es} {us : List V} {ds : List D} (h : KnL cm hd F B H es fc fk us ds) : us.length = ds.length := h.ball.length
/-- a built-in's rule on data -/
def BfR (X : Cx) (f : BF) (rr : List V → Hp → VK → Prop) : Prop :=
  ∀ (ca : Ca) (fl : Nat → Str) (S : Sit) (F : AP) (ρ : Env) (σ : L2.St) (H : Hp) (us : List V) (ds : List D) (c k : Prop) (Qd Ed : D → Prop) (Q : VK),
    Real (cmX X ca fl) S F ρ σ H → us.length = ds.length → (∀ (i : Nat) (u : V) (d : D), us[i]? = some u → ds[i]? = some d → Cc (cmX X ca fl) (Fc c F (Fb F ρ σ)) S.hd H u d) → (k → c) → Lk (cmX X ca fl) S ρ σ c k Qd F H Q → bfW f ds Qd Ed → rr us H Q
theorem intsOf_of {cm : Cm} {F : AP} {hd : Option Addr} {H : Hp} : ∀ {vs : List V} {ds : List D} {ns : List Int}, DenL cm F hd H vs ds → intsOf ds = some ns → vs = ns.map V.int
  | _, _, _, .nil, e => by simp [intsOf] at e; subst e; rfl
  | _, _, ns, .cons (d := d) h t, e => by
    cases d <;> simp [intsOf] at e
    obtain ⟨r, e1, e2⟩ := e
    subst e2
    rw [h.intI, intsOf_of t e1]
    rfl
theorem blsOf_of {cm : Cm} {F : AP} {hd : Option Addr} {H : Hp} : ∀ {vs : List V} {ds : List D} {ns : List Bool}, DenL cm F hd H vs ds → blsOf ds = some ns → vs = ns.map V.bl
  | _, _, _, .nil, e => by simp [blsOf] at e; subst e; rfl
  | _, _, ns, .cons (d := d) h t, e => by
    cases d <;> simp [blsOf] at e
    obtain ⟨r, e1, e2⟩ := e
    subst e2
    rw [h.blI, blsOf_of t e1]
    rfl
theorem len1 {α : Type} {us : List α} (h : us.length = 1) : ∃ u, us = [u] := by
  match us, h with
  | [u], _ => exact ⟨u, rfl⟩
theorem len2 {α : Type} {us : List α} (h : us.length = 2) : ∃ u w, us = [u, w] := by
  match us, h with
  | [u, w], _ => exact ⟨u, w, rfl⟩
def rLenX (K : PySem.W.Frag) : List V → Hp → VK → Prop := fun xs H Q => (∃ p ys, xs = [.ref p] ∧ (SqL K H p ys ∨ SqT K H p ys) ∧ Q (.int ys.length) H) ∨ (∃ z, xs = [.str z] ∧ z.length ≤ sizeLine ∧ Q (.int z.length) H)
theorem bf_len : BfR X .len (rLenX X.K) := by
  intro ca fl S F ρ σ H us ds c k Qd Ed Q r hl hd hk lk q
  match ds, q with
  | [d], q =>
    obtain ⟨u, rfl⟩ := len1 hl
    have h := hd 0 u d rfl rfl
    cases d with
    | lst xs =>
      obtain ⟨p, vs, rfl, hp, l, dd⟩ := h.lstI
      exact .inl ⟨p, vs, rfl, .inl (.inl (.inl hp)), by rw [dd.length]; exact lk.bare r.wf q (.int _)⟩
    | tup xs =>
      obtain ⟨p, vs, rfl, hp, l, dd⟩ := h.tupI
      exact .inl ⟨p, vs, rfl, .inr hp, by rw [dd.length]; exact lk.bare r.wf q (.int _)⟩
    | str z =>
      obtain ⟨rfl, _⟩ := h.strI
      exact .inr ⟨z, rfl, q.1, lk.bare r.wf q.2 (.int _)⟩
    | _ => exact False.elim q
theorem bf_int : BfR X .int (fun xs H Q => (∃ i, xs = [.int i] ∧ Q (.int i) H) ∨ ∃ k, xs = [.bl k] ∧ Q (.int (if k then 1 else 0)) H) := by
  intro ca fl S F ρ σ H us ds c k Qd Ed Q r hl hd hk lk q
  match ds, q with
  | [d], q =>
    obtain ⟨u, rfl⟩ := len1 hl
    have h := hd 0 u d rfl rfl
    cases d with
    | int i => cases h.intI; exact .inl ⟨_, rfl, lk.bare r.wf q (.int _)⟩
    | bl i => cases (show Den _ _ _ _ _ _ from h).blI; exact .inr ⟨_, rfl, lk.bare r.wf q (.int _)⟩
    | _ => exact False.elim q
  | a :: b :: r, q => cases a <;> exact False.elim q
theorem bf_bool : BfR X .bool (fun xs H Q => (∃ i, xs = [.int i] ∧ Q (.bl (i != 0)) H) ∨ ∃ k, xs = [.bl k] ∧ Q (.bl k) H) := by
  intro ca fl S F ρ σ H us ds c k Qd Ed Q r hl hd hk lk q
  match ds, q with
  | [d], q =>
    obtain ⟨u, rfl⟩ := len1 hl
    have h := hd 0 u d rfl rfl
    cases d with
    | int i => cases h.intI; exact .inl ⟨_, rfl, lk.bare r.wf q (.bl _)⟩
    | bl i => cases (show Den _ _ _ _ _ _ from h).blI; exact .inr ⟨_, rfl, lk.bare r.wf q (.bl _)⟩
    | _ => exact False.elim q
  | a :: b :: r, q => cases a <;> exact False.elim q
theorem bf_list : BfR X .list (fun xs H Q => ∃ p ys, xs = [.ref p] ∧ (SqL X.K H p ys ∨ SqT X.K H p ys) ∧ ∀ l, H l = none → Q (.ref l) (upd H l (.lst ys))) := by
  intro ca fl S F ρ σ H us ds c k Qd Ed Q r hl hd hk lk q
  match ds, q with
  | [d], q =>
    obtain ⟨u, rfl⟩ := len1 hl
    have h := hd 0 u d rfl rfl
    cases d with
    | lst xs =>
      obtain ⟨p, vs, rfl, hp, l, dd⟩ := h.lstI
      exact ⟨p, vs, rfl, .inl (.inl (.inl hp)), lk.fcL r q l dd hk⟩
    | tup xs =>
      obtain ⟨p, vs, rfl, hp, l, dd⟩ := h.tupI
      exact ⟨p, vs, rfl, .inr hp, lk.fcL r q l dd hk⟩
    | _ => exact False.elim q
theorem bf_tuple : BfR X .tuple (fun xs H Q => ∃ p ys, xs = [.ref p] ∧ ((SqL X.K H p ys ∧ ∀ l, H l = none → Q (.ref l) (upd H l (.tup ys))) ∨ (SqT X.K H p ys ∧ Q (.ref p) H))) := by
  intro ca fl S F ρ σ H us ds c k Qd Ed Q r hl hd hk lk q
  match ds, q with
  | [d], q =>
    obtain ⟨u, rfl⟩ := len1 hl
    have h := hd 0 u d rfl rfl
    cases d with
    | lst xs =>
      obtain ⟨p, vs, rfl, hp, l, dd⟩ := h.lstI
      exact ⟨p, vs, rfl, .inl ⟨.inl (.inl hp), lk.fcT r q l dd hk⟩⟩
    | tup xs =>
      obtain ⟨p, vs, rfl, hp, l, dd⟩ := h.tupI
      exact ⟨p, vs, rfl, .inr ⟨hp, lk.fc r q (.tup hp l dd) hk⟩⟩
    | _ => exact False.elim q
theorem bf_abs : BfR X .abs (fun xs H Q => ∃ i, xs = [.int i] ∧ Q (.int (if i < 0 then -i else i)) H) := by
  intro ca fl S F ρ σ H us ds c k Qd Ed Q r hl hd hk lk q
  match ds, q with
  | [d], q =>
    obtain ⟨u, rfl⟩ := len1 hl
    have h := hd 0 u d rfl rfl
    cases d with
    | int i => cases h.intI; exact ⟨_, rfl, lk.bare r.wf q (.int _)⟩
    | _ => exact False.elim q
  | a :: b :: r, q => cases a <;> exact False.elim q
theorem bf_max : BfR X .max (fun xs H Q => ∃ i j, xs = [.int i, .int j] ∧ Q (.int (if j > i then j else i)) H) := by
  intro ca fl S F ρ σ H us ds c k Qd Ed Q r hl hd hk lk q
  match ds, q with
  | [.int i, .int j], q =>
    obtain ⟨u, w, rfl⟩ := len2 hl
    cases (hd 0 u _ rfl rfl).intI
    cases (hd 1 w _ rfl rfl).intI
    exact ⟨_, _, rfl, lk.bare r.wf q (.int _)⟩
theorem bf_min : BfR X .min (fun xs H Q => ∃ i j, xs = [.int i, .int j] ∧ Q (.int (if j < i then j else i)) H) := by
  intro ca fl S F ρ σ H us ds c k Qd Ed Q r hl hd hk lk q
  match ds, q with
  | [.int i, .int j], q =>
    obtain ⟨u, w, rfl⟩ := len2 hl
    cases (hd 0 u _ rfl rfl).intI
    cases (hd 1 w _ rfl rfl).intI
    exact ⟨_, _, rfl, lk.bare r.wf q (.int _)⟩
theorem bf_sum : BfR X .sum (rSum X.K) := by
  intro ca fl S F ρ σ H us ds c k Qd Ed Q r hl hd hk lk q
  match ds, q with
  | [.lst xs], q =>
    obtain ⟨u, rfl⟩ := len1 hl
    obtain ⟨p, vs, rfl, hp, l, dd⟩ := (hd 0 u _ rfl rfl).lstI
    change (match intsOf xs with
      | some ns => ret (D.int ns.sum)
      | none => fail) Qd Ed at q
    cases e : intsOf xs with
    | none => rw [e] at q; exact False.elim q
    | some ns =>
      rw [e] at q
      exact ⟨p, ns, rfl, .inl (.inl (by rw [← intsOf_of dd e]; exact hp)), lk.bare r.wf q (.int _)⟩
def rAnyT (K : PySem.W.Frag) : List V → Hp → VK → Prop := fun vs H Q => ∃ (a : Addr) (bs : List Bool), vs = [V.ref a] ∧ SqT K H a (bs.map V.bl) ∧ Q (.bl (bs.any id)) H
theorem cr_anyT (hc : X.calm = true) : CallR X (.builtin "any") (rAnyT X.K) := by
  intro pins s σ H vs us Q I r h
  obtain ⟨a, bs, rfl, hs, q⟩ := h
  obtain ⟨its, rv, hl, _⟩ := I.tuple hs
  rw [Vals.ref1 r]
  have hb := rv.bls
  have hlt : a < s.heap.objs.size := by obtain ⟨_, e, _⟩ := hl; exact Heap.lt_size e
  refine call_any_walk (wpAny_pyIter_tuple hl ?_)
  refine ⟨_, _, _, _, _, _, _, rfl, Walks.tuple (A := X.A.in1) (I.ok.hd hc) _ a (Nat.ne_of_lt hlt) its.toArray, ⟨⟨_, Heap.get?_push_size _ rfl, rfl, rfl⟩, hl.push _⟩, truth_bools hb, fun h' tk hk => ?_⟩
  refine ⟨.bl _, H, I.kept fun b o eo => hk b o (fun hmem => ?_) (Heap.get?_push_of_some _ eo), ?_, q⟩
  · rcases List.mem_cons.mp hmem with e1 | hmem
    · exact absurd (e1 ▸ Heap.lt_size eo) (Nat.lt_irrefl _)
    · cases hmem
  · show Value.bool _ = Value.bool _
    rw [← L2.any_range, hb, List.size_toArray, List.length_map]
theorem bf_any : BfR X .any (fun xs H Q => rAny X.K xs H Q ∨ rAnyT X.K xs H Q) := by
  intro ca fl S F ρ σ H us ds c k Qd Ed Q r hl hd hk lk q
  match ds, q with
  | [d], q =>
    obtain ⟨u, rfl⟩ := len1 hl
    have h := hd 0 u d rfl rfl
    cases d with
    | lst xs =>
      obtain ⟨p, vs, rfl, hp, l, dd⟩ := h.lstI
      change (match blsOf xs with
        | some bs => ret (D.bl (bs.any id))
        | none => fail) Qd Ed at q
      cases e : blsOf xs with
      | none => rw [e] at q; exact False.elim q
      | some bs =>
        rw [e] at q
        exact .inl ⟨p, bs, rfl, .inl (.inl (by rw [← blsOf_of dd e]; exact hp)), lk.bare r.wf q (.bl _)⟩
    | tup xs =>
      obtain ⟨p, vs, rfl, hp, l, dd⟩ := h.tupI
      change (match blsOf xs with
        | some bs => ret (D.bl (bs.any id))
        | none => fail) Qd Ed at q
      cases e : blsOf xs with
      | none => rw [e] at q; exact False.elim q
      | some bs =>
        rw [e] at q
        exact .inr ⟨p, bs, rfl, (by rw [← blsOf_of dd e]; exact hp), lk.bare r.wf q (.bl _)⟩
    | _ => exact False.elim q
def rAllT (K : PySem.W.Frag) : List V → Hp → VK → Prop := fun vs H Q => ∃ (a : Addr) (bs : List Bool), vs = [V.ref a] ∧ SqT K H a (bs.map V.bl) ∧ Q (.bl (bs.all id)) H
theorem cr_allT (hc : X.calm = true) : CallR X (.builtin "all") (rAllT X.K) := by
  intro pins s σ H vs us Q I r h
  obtain ⟨a, bs, rfl, hs, q⟩ := h
  obtain ⟨its, rv, hl, _⟩ := I.tuple hs
  rw [Vals.ref1 r]
  have hb := rv.bls
  have hlt : a < s.heap.objs.size := by obtain ⟨_, e, _⟩ := hl; exact Heap.lt_size e
  refine call_all_walk (wpAny_pyIter_tuple hl ?_)
  refine ⟨_, _, _, _, _, _, _, rfl, Walks.tuple (A := X.A.in1) (I.ok.hd hc) _ a (Nat.ne_of_lt hlt) its.toArray, ⟨⟨_, Heap.get?_push_size _ rfl, rfl, rfl⟩, hl.push _⟩, truth_bools hb, fun h' tk hk => ?_⟩
  refine ⟨.bl _, H, I.kept fun b o eo => hk b o (fun hmem => ?_) (Heap.get?_push_of_some _ eo), ?_, q⟩
  · rcases List.mem_cons.mp hmem with e1 | hmem
    · exact absurd (e1 ▸ Heap.lt_size eo) (Nat.lt_irrefl _)
    · cases hmem
  · show Value.bool _ = Value.bool _
    rw [← L2.all_range, hb, List.size_toArray, List.length_map]
theorem bf_all : BfR X .all (fun xs H Q => rAll X.K xs H Q ∨ rAllT X.K xs H Q) := by
  intro ca fl S F ρ σ H us ds c k Qd Ed Q r hl hd hk lk q
  match ds, q with
  | [d], q =>
    obtain ⟨u, rfl⟩ := len1 hl
    have h := hd 0 u d rfl rfl
    cases d with
    | lst xs =>
      obtain ⟨p, vs, rfl, hp, l, dd⟩ := h.lstI
      change (match blsOf xs with
        | some bs => ret (D.bl (bs.all id))
        | none => fail) Qd Ed at q
      cases e : blsOf xs with
      | none => rw [e] at q; exact False.elim q
      | some bs =>
        rw [e] at q
        exact .inl ⟨p, bs, rfl, .inl (.inl (by rw [← blsOf_of dd e]; exact hp)), lk.bare r.wf q (.bl _)⟩
    | tup xs =>
      obtain ⟨p, vs, rfl, hp, l, dd⟩ := h.tupI
      change (match blsOf xs with
        | some bs => ret (D.bl (bs.all id))
        | none => fail) Qd Ed at q
      cases e : blsOf xs with
      | none => rw [e] at q; exact False.elim q
      | some bs =>
        rw [e] at q
        exact .inr ⟨p, bs, rfl, (by rw [← blsOf_of dd e]; exact hp), lk.bare r.wf q (.bl _)⟩
    | _ => exact False.elim q
theorem strOk_of (s : String) : PyData.strOk (s : Str) = true := by
  unfold PyData.strOk
  show (Str.ofString s).cps.all _ = true
  rw [Str.ofString_eq_toList, Array.all_eq_true']
  intro c hc
  obtain ⟨k, _, rfl⟩ := List.mem_map.mp (by simpa using hc)
  simp only [decide_eq_true_eq]
  rcases k.valid with h | ⟨_, h⟩
  · have : k.toNat < 0xd800 := h
    omega
  · exact h
def rRepr : List V → Hp → VK → Prop := fun xs H Q => (∃ i, xs = [.int i] ∧ i.natAbs.log2 < 1920 ∧ Q (.str (toString i)) H) ∨ (∃ b, xs = [.bl b] ∧ Q (.str (if b = true then "True" else "False")) H) ∨ (xs = [.non] ∧ Q (.str "None") H) ∨
  ∃ x, xs = [.str x] ∧ (reprText x).length ≤ sizeLine ∧ Q (.str (reprText x)) H
theorem cr_repr : CallR X (.builtin "repr") rRepr := by
  intro pins s σ H xs us Q I r h
  rcases h with ⟨i, rfl, hz, q⟩ | ⟨b, rfl, q⟩ | ⟨rfl, q⟩ | ⟨x, rfl, hz, q⟩
  · obtain ⟨u, rfl, t, rfl⟩ := vals1 r
    exact PySem.P.repr_of_int hz ⟨.str _, H, I.tok _, ⟨_, rfl⟩, q⟩
  · obtain ⟨u, rfl, rx⟩ := vals1 r
    obtain rfl : u = .bool b := rx
    refine PySem.P.repr_of_bool ⟨.str _, H, I.tok _, ⟨s.toks, ?_⟩, q⟩
    cases b <;> rfl
  · obtain ⟨u, rfl, rx⟩ := vals1 r
    obtain rfl : u = .none := rx
    exact PySem.P.repr_of_none ⟨.str _, H, I.tok _, ⟨_, rfl⟩, q⟩
  · obtain ⟨u, rfl, t, rfl⟩ := vals1 r
    exact PySem.P.repr_of_str ⟨.str _, H, I.tok _, ⟨_, rfl⟩, q⟩ hz
theorem bf_repr : BfR X .repr rRepr := by
  intro ca fl S F ρ σ H us ds c k Qd Ed Q r hl hd hk lk q
  match ds, q with
  | [d], q =>
    obtain ⟨u, rfl⟩ := len1 hl
    have h := hd 0 u d rfl rfl
    cases d with
    | int i => cases h.intI; exact .inl ⟨_, rfl, q.1, lk.bare r.wf q.2 (.str _ (strOk_of _))⟩
    | bl i =>
      cases (show Den _ _ _ _ _ _ from h).blI
      refine .inr (.inl ⟨_, rfl, lk.bare r.wf q (.str _ ?_)⟩)
      cases i <;> exact strOk_of _
    | non => cases (show Den _ _ _ _ _ _ from h).nonI; exact .inr (.inr (.inl ⟨rfl, lk.bare r.wf q (.str _ (strOk_of _))⟩))
    | str x => obtain ⟨rfl, _⟩ := h.strI; exact .inr (.inr (.inr ⟨_, rfl, q.1.1, lk.bare r.wf q.2 (.str _ q.1.2)⟩))
    | _ => exact False.elim q
theorem bf_str : BfR X .str (fun xs H Q => (∃ i, xs = [.int i] ∧ i.natAbs.log2 < 1920 ∧ Q (.str (toString i)) H) ∨ ∃ a, xs = [.str a] ∧ Q (.str a) H) := by
  intro ca fl S F ρ σ H us ds c k Qd Ed Q r hl hd hk lk q
  match ds, q with
  | [d], q =>
    obtain ⟨u, rfl⟩ := len1 hl
    have h := hd 0 u d rfl rfl
    cases d with
    | int i => cases h.intI; exact .inl ⟨_, rfl, q.1, lk.bare r.wf q.2 (.str _ (strOk_of _))⟩
    | str x =>
      obtain ⟨rfl, ho⟩ := h.strI
      exact .inr ⟨_, rfl, lk.bare r.wf q (.str _ ho)⟩
    | _ => exact False.elim q
  | a :: b :: r, q => cases a <;> exact False.elim q
def BF.ok : BF → Bool
  | .len => true | .int => true | .bool => true | .list => true | .tuple => true | .abs => true | .max => true | .min => true | .sum => true | .any => true | .all => true | .repr => true | .str => true
  | _ => false
/-- needs no calm -/
def BF.cool : BF → Bool
  | .len => true | .int => true | .bool => true | .list => true | .tuple => true | .abs => true | .repr => true | .str => true
  | _ => false
theorem n_bfB {f : BF} {id : String} {rr : List V → Hp → VK → Prop} {es : List Expr} {sE : Es} {w : Env → W (List D)} {t : TA} (hR : BfR X f rr) (hc : CallR X (.builtin id) rr) (hg : Gl X f.nm) (hm : X.mg f.nm = none) (hv : bootBuiltins f.nm = some (.builtin id)) (hn : f.nm ≠ "__name__") (hdb : (f.nm == ("__debug__" : Str)) = false)
    (hs : (e :: es).all notStar = true) (h : PA X (e :: es) t) (ha : AR (cmX X ca fl) Wx sE w t) :
    PE X (.Call (.Name f.nm p) (e :: es) [] pos) (tV (cmX X ca fl) (fun ρ => bnd (w ρ) fun ds => bfW f ds) (fun ρ => ccs (isOwn ρ) sE) (fun ρ => ccs (isOwn ρ) sE) Wx) := by
  have hs' : notStar e = true ∧ es.all notStar = true := by simpa using hs
  refine ⟨fun pins s σ H Q I hh => (pe_callB hc hg hm hv h hn hdb (star_cons hs'.1) (star_any hs'.2)).run pins s σ H Q I ?_⟩
  obtain ⟨S, F, ρ, Qd, Ed, r, hq, lk, xk⟩ := hh
  refine ha.run S F ρ σ H Ed _ _ r hq xk fun F2 H2 vs ds e2 r2 x2 b2 q => ?_
  exact hR ca fl S F2 ρ σ H2 vs ds _ _ Qd Ed Q r2 b2.len (b2.cce fun z => z) (fun z => z) (lk.ev r.wf e2) q
theorem n_bfT {f : BF} {T : String} {rr : List V → Hp → VK → Prop} {es : List Expr} {sE : Es} {w : Env → W (List D)} {t : TA} (hR : BfR X f rr) (hc : CallR X (.type T) rr) (hg : Gl X f.nm) (hm : X.mg f.nm = none) (hv : bootBuiltins f.nm = some (.type T)) (hn : f.nm ≠ "__name__") (hdb : (f.nm == ("__debug__" : Str)) = false)
    (hs : (e :: es).all notStar = true) (h : PA X (e :: es) t) (ha : AR (cmX X ca fl) Wx sE w t) :
    PE X (.Call (.Name f.nm p) (e :: es) [] pos) (tV (cmX X ca fl) (fun ρ => bnd (w ρ) fun ds => bfW f ds) (fun ρ => ccs (isOwn ρ) sE) (fun ρ => ccs (isOwn ρ) sE) Wx) := by
  have hs' : notStar e = true ∧ es.all notStar = true := by simpa using hs
  refine ⟨fun pins s σ H Q I hh => (pe_callTy hc hg hm hv h hn hdb (star_cons hs'.1) (star_any hs'.2)).run pins s σ H Q I ?_⟩
  obtain ⟨S, F, ρ, Qd, Ed, r, hq, lk, xk⟩ := hh
  refine ha.run S F ρ σ H Ed _ _ r hq xk fun F2 H2 vs ds e2 r2 x2 b2 q => ?_
  exact hR ca fl S F2 ρ σ H2 vs ds _ _ Qd Ed Q r2 b2.len (b2.cce fun z => z) (fun z => z) (lk.ev r.wf e2) q
theorem n_bf {f : BF} (hok : f.ok = true) (hc : f.cool = false → X.calm = true) {es : List Expr} {sE : Es} {w : Env → W (List D)} {t : TA} (hg : Gl X f.nm) (hm : X.mg f.nm = none)
    (hs : (e :: es).all notStar = true) (h : PA X (e :: es) t) (ha : AR (cmX X ca fl) Wx sE w t) :
    PE X (.Call (.Name f.nm p) (e :: es) [] pos) (tV (cmX X ca fl) (fun ρ => bnd (w ρ) fun ds => bfW f ds) (fun ρ => ccs (isOwn ρ) sE) (fun ρ => ccs (isOwn ρ) sE) Wx) := by
  cases f with
  | len => exact n_bfB bf_len (call_len_seq.or call_len_str) hg hm (by decide +kernel) (by decide +kernel) (by decide +kernel) hs h ha
  | int => exact n_bfT bf_int call_int1 hg hm (by decide +kernel) (by decide +kernel) (by decide +kernel) hs h ha
  | bool => exact n_bfT bf_bool call_bool1 hg hm (by decide +kernel) (by decide +kernel) (by decide +kernel) hs h ha
  | list => exact n_bfT bf_list call_list_of hg hm (by decide +kernel) (by decide +kernel) (by decide +kernel) hs h ha
  | tuple => exact n_bfT bf_tuple call_tuple_of hg hm (by decide +kernel) (by decide +kernel) (by decide +kernel) hs h ha
  | abs => exact n_bfB bf_abs call_abs hg hm (by decide +kernel) (by decide +kernel) (by decide +kernel) hs h ha
  | max => exact n_bfB bf_max (call_max2 (hc rfl)) hg hm (by decide +kernel) (by decide +kernel) (by decide +kernel) hs h ha
  | min => exact n_bfB bf_min (call_min2 (hc rfl)) hg hm (by decide +kernel) (by decide +kernel) (by decide +kernel) hs h ha
  | sum => exact n_bfB bf_sum (cr_sum (hc rfl)) hg hm (by decide +kernel) (by decide +kernel) (by decide +kernel) hs h ha
  | any => exact n_bfB bf_any ((cr_any (hc rfl)).or (cr_anyT (hc rfl))) hg hm (by decide +kernel) (by decide +kernel) (by decide +kernel) hs h ha
  | all => exact n_bfB bf_all ((cr_all (hc rfl)).or (cr_allT (hc rfl))) hg hm (by decide +kernel) (by decide +kernel) (by decide +kernel) hs h ha
  | str => exact n_bfT bf_str (call_str_int.or SkE.call_str_str) hg hm (by decide +kernel) (by decide +kernel) (by decide +kernel) hs h ha
  | repr => exact n_bfB bf_repr cr_repr hg hm (by decide +kernel) (by decide +kernel) (by decide +kernel) hs h ha
  | _ => cases hok
/-! ### isinstance -/
theorem tyx_of {cm : Cm} {F : AP} {hd : Option Addr} {H : Hp} {v : V} {d : D} {t : Str} (h : Den cm F hd H v d) (e : tyName d = some t) : ∃ n : String, t = (n : Str) ∧ TyX cm.K H v (.type n) ∧ n ∈ ["NoneType", "bool", "int", "str", "tuple", "list"] := by
  cases h with
  | non => exact ⟨"NoneType", (Option.some.inj e).symm, .base .non, by simp⟩
  | bl b => exact ⟨"bool", (Option.some.inj e).symm, .base (.bl b), by simp⟩
  | int i => exact ⟨"int", (Option.some.inj e).symm, .base (.int i), by simp⟩
  | str x hx => exact ⟨"str", (Option.some.inj e).symm, .base (.str x), by simp⟩
  | tup r l q =>
    refine ⟨"tuple", (Option.some.inj e).symm, ?_, by simp⟩
    rcases r with (r | ⟨o, r⟩) | ⟨o, its, n, h1, h2, _⟩
    · exact .base (.tup r)
    · exact .fTuple r
    · exact .kTuple h1 h2
  | lst f r l q => exact ⟨"list", (Option.some.inj e).symm, .base (.lst r), by simp⟩
  | ins f h n k r => cases e
  | hand h => cases e
def tyNames : List String := ["int", "bool", "str", "list", "tuple"]
theorem kit_of2 {K : PySem.W.Frag} {n c : String} (hn : n ∈ ["NoneType", "bool", "int", "str", "tuple", "list"]) (hc : c ∈ tyNames) : PySem.W.kitOne K (.type n) (.type c) = some (kit1 (n : Str) (c : Str)) := by
  have h : ∀ n ∈ ["NoneType", "bool", "int", "str", "tuple", "list"], ∀ c ∈ tyNames, kitB n c = some (kit1 (n : Str) (c : Str)) := by decide +kernel
  exact kit_ty (h n hn c hc)
theorem kitAny_of2 {K : PySem.W.Frag} {n : String} (hn : n ∈ ["NoneType", "bool", "int", "str", "tuple", "list"]) : ∀ {cs : List String}, (∀ c ∈ cs, c ∈ tyNames) → PySem.W.kitAny K (.type n) (cs.map Value.type) = some (cs.any fun c => kit1 (n : Str) (c : Str))
  | [], _ => rfl
  | c :: cs, h => by
    have h1 := kit_of2 (K := K) hn (h c (List.mem_cons_self))
    have h2 := kitAny_of2 (K := K) hn (cs := cs) fun x hx => h x (List.mem_cons_of_mem _ hx)
    show (match PySem.W.kitOne K (.type n) (.type c) with
      | some true => some true
      | some false => PySem.W.kitAny K (.type n) (cs.map Value.type)
      | none => none) = some (kit1 (n : Str) (c : Str) || cs.any fun c => kit1 (n : Str) (c : Str))
    rw [h1]
    cases kit1 (n : Str) (c : Str) with
    | true => rfl
    | false => rw [h2]; rfl
/-- a type's name as a value -/
theorem n_ty {c : String} {x : Str} (hx : x = (c : Str)) (hc : c ∈ tyNames) (hg : Gl X x) (hm : X.mg x = none) : PE X (.Name x p) (tC (.ty c)) := by
  have hb : ∀ c ∈ tyNames, bootBuiltins (c : Str) = some (.type c) ∧ (c : Str) ≠ ("__name__" : Str) ∧ ((c : Str) == ("__debug__" : Str)) = false := by decide +kernel
  subst hx
  obtain ⟨h1, h2, h3⟩ := hb c hc
  exact pe_bltn (v := .ty c) hg hm h1 rfl h2 h3
theorem n_isi1 {c : String} {x : Str} {cp ip : Pos} {sE : E} (hx : x = (c : Str)) (hc : c ∈ tyNames) (hgi : Gl X "isinstance") (hmi : X.mg "isinstance" = none) (hg : Gl X x) (hm : X.mg x = none) (hs : notStar e = true) (he : PE X e (tV (cmX X ca fl) ve cE kE Wx)) :
    PE X (.Call (.Name "isinstance" ip) [e, .Name x cp] [] pos) (tV (cmX X ca fl) (fun ρ => bnd (ve ρ) fun d => isiW d [x]) cF kF Wx) := by
  refine ⟨fun pins s σ H Q I hh => (pe_callB call_isi hgi hmi (by decide +kernel) (pa_cons he (pa_cons (n_ty hx hc hg hm) pa_nil (star_cons rfl)) (star_cons hs)) (by decide +kernel) (by decide +kernel) (star_cons hs) (star_any (es := [.Name x cp]) rfl)).run pins s σ H Q I ?_⟩
  obtain ⟨S, F, ρ, Qd, Ed, r, hq, lk, xk⟩ := hh
  refine one r hq xk fun F2 H2 v d e2 r2 x2 b1 q => ?_
  change (isiW d [x]) Qd Ed at q
  unfold isiW at q
  cases et : tyName d with
  | none => rw [et] at q; exact False.elim q
  | some t =>
    rw [et] at q
    obtain ⟨n, hn, ht, hm'⟩ := tyx_of b1.b et
    refine ⟨v, .ty c, .type n, .type c, _, rfl, .ty c, ht, kit_of2 hm' hc, ?_⟩
    have q' : Qd (.bl (kit1 t x || false)) := q
    rw [Bool.or_false, hn, hx] at q'
    exact (lk.ev r.wf e2).bare r2.wf q' (.bl _)
theorem vals_tys : ∀ (cs : List String), Paired ClsV (cs.map V.ty) (cs.map Value.type)
  | [] => .nil
  | c :: cs => .cons (.ty c) (vals_tys cs)
theorem pa_tys : ∀ (cs : List String) (es : List Expr), (∀ c ∈ cs, c ∈ tyNames) → es.length = cs.length → (∀ (i : Nat) (c : String) (e : Expr), cs[i]? = some c → es[i]? = some e → ∃ x q, e = .Name x q ∧ x = (c : Str) ∧ Gl X x ∧ X.mg x = none) →
    ∃ t : TA, PA X es t ∧ ∀ σ H (Q : List V → Hp → Prop), Q (cs.map V.ty) H → t σ H Q
  | [], [], _, _, _ => ⟨tNil, pa_nil, fun _ _ _ q => q⟩
  | [], _ :: _, _, h, _ => by simp at h
  | _ :: _, [], _, h, _ => by simp at h
  | c :: cs, e :: es, h1, h2, h3 => by
    obtain ⟨x, q, rfl, hx, hg, hm⟩ := h3 0 c e rfl rfl
    obtain ⟨t, ht, hq⟩ := pa_tys cs es (fun c hc => h1 c (List.mem_cons_of_mem _ hc)) (by simpa using h2) fun i c e e1 e2 => h3 (i + 1) c e (by simpa using e1) (by simpa using e2)
    refine ⟨tCons (tC (.ty c)) t, pa_cons (n_ty hx (h1 c List.mem_cons_self) hg hm) ht (star_cons rfl), fun σ H Q q => ?_⟩
    exact hq σ H _ q
theorem n_isiT {cs : List String} {tys : List Str} {es : List Expr} {ip tp : Pos} {x1 : Nat} (hcs : tys = cs.map Str.ofString) (hc : ∀ c ∈ cs, c ∈ tyNames) (hl : es.length = cs.length) (hgi : Gl X "isinstance") (hmi : X.mg "isinstance" = none) (hsz : cs.length ≤ 100)
    (hes : ∀ (i : Nat) (c : String) (e : Expr), cs[i]? = some c → es[i]? = some e → ∃ x q, e = .Name x q ∧ x = (c : Str) ∧ Gl X x ∧ X.mg x = none) (hs : notStar e = true) (he : PE X e (tV (cmX X ca fl) ve cE kE Wx)) :
    PE X (.Call (.Name "isinstance" ip) [e, .Tuple es x1 tp] [] pos) (tV (cmX X ca fl) (fun ρ => bnd (ve ρ) fun d => isiW d tys) cF kF Wx) := by
  obtain ⟨t, ht, hq0⟩ := pa_tys cs es hc hl hes
  refine ⟨fun pins s σ H Q I hh => (pe_callB call_isiT hgi hmi (by decide +kernel) (pa_cons he (pa_cons (pe_tup ht) pa_nil (star_cons rfl)) (star_cons hs)) (by decide +kernel) (by decide +kernel) (star_cons hs) (star_any (es := [.Tuple es x1 tp]) rfl)).run pins s σ H Q I ?_⟩
  obtain ⟨S, F, ρ, Qd, Ed, r, hq, lk, xk⟩ := hh
  refine one r hq xk fun F2 H2 v d e2 r2 x2 b1 q => ?_
  change (isiW d tys) Qd Ed at q
  unfold isiW at q
  cases et : tyName d with
  | none => rw [et] at q; exact False.elim q
  | some t' =>
    rw [et] at q
    refine hq0 σ H2 _ ⟨by rw [List.length_map]; exact Nat.le_trans hsz (by decide), fun p hp => ?_⟩
    have e3 : Ev S.hd H2 (upd H2 p (.tup (cs.map V.ty))) F2 F2 := Ev.new0 r2.wf hp
    obtain ⟨n, hn, ht', hm'⟩ := tyx_of (b1.ev r2 e3).b et
    refine ⟨v, p, cs.map V.ty, .type n, cs.map Value.type, _, rfl, upd_same, vals_tys cs, ht', kitAny_of2 hm' hc, ?_⟩
    have q' : Qd (.bl (tys.any fun c => kit1 t' c)) := q
    rw [hcs, hn, List.any_map] at q'
    exact (lk.ev r.wf (e2.trans r.wf e3)).bare e3.wf q' (.bl _)
/-! ### what is walked -/
theorem rangeD_len (lo : Int) (n : Nat) : (rangeD lo n).length = n := by unfold rangeD; rw [List.length_map, List.length_range]
theorem rangeD_get {lo : Int} {n i : Nat} (h : i < n) : (rangeD lo n)[i]? = some (.int (lo + (i : Int))) := by
  unfold rangeD
  rw [List.getElem?_map, List.getElem?_range h]
  rfl
theorem wk_range {cm : Cm} {hd : Option Addr} {Fs Fi : AP} {H : Hp} {lo : Int} {n : Nat} (l : n ≤ sizeLine) : Wk cm hd Fs Fi H (Itr lo n) (rangeD lo n) := by
  refine ⟨by rw [rangeD_len]; exact l, fun i H1 s hl => ?_, fun H1 s => ?_, fun i H1 x H2 s hl y => ?_⟩
  · rw [rangeD_len] at hl; exact hl
  · rw [rangeD_len]; exact Nat.le_refl _
  · rw [rangeD_len] at hl
    obtain ⟨rfl, rfl⟩ := y
    exact ⟨.inl rfl, _, rangeD_get hl, .int _⟩
variable {tg : Expr}
theorem i_rng1 (hg : Gl X "range") (hm : X.mg "range" = none) (hs : notStar a = true) (ha : PE X a (tV (cmX X ca fl) va cA kA Wx)) : PI X tg (.Call (.Name "range" p) [a] [] pos) (tI (cmX X ca fl) (fun ρ => bnd (va ρ) rng1W) cF kF Wx) := by
  refine ⟨fun pins s σ H R I h => (pi_range1 hg hm (pa_cons ha pa_nil (star_cons hs)) (star_cons hs)).run pins s σ H R I ?_⟩
  obtain ⟨S, F, ρ, Qd, Ed, r, hq, lk, xk⟩ := h
  refine one r hq xk fun F2 H2 v x e2 r2 x2 b1 q => ?_
  cases x with
  | int j =>
    cases b1.b.intI
    obtain ⟨⟨q1, q2, q3⟩, q⟩ := q
    exact ⟨j, rfl, q1, q2, lk F2 H2 _ _ e2 (fun _ => wk_range q3) (fun _ => wk_range q3) q⟩
  | _ => exact False.elim q
theorem i_rng2 (hg : Gl X "range") (hm : X.mg "range" = none) (hs : notStar a = true) (hs' : notStar b = true) (ha : PE X a (tV (cmX X ca fl) va cA kA Wx)) (hb : PE X b (tV (cmX X ca fl) vb cB kB Wx)) :
    PI X tg (.Call (.Name "range" p) [a, b] [] pos) (tI (cmX X ca fl) (fun ρ => bnd (va ρ) fun x => bnd (vb ρ) fun y => rng2W x y) cF kF Wx) := by
  have e2 : starEach [b] X.env = [(false, eval b X.env)] := star_cons hs'
  refine ⟨fun pins s σ H R I h => (pi_range2 hg hm (pa_cons ha (pa_cons hb pa_nil (star_cons hs')) (star_cons hs)) (by rw [star_cons hs, e2]) e2).run pins s σ H R I ?_⟩
  obtain ⟨S, F, ρ, Qd, Ed, r, hq, lk, xk⟩ := h
  refine two r hq xk fun F2 H2 v w x y e2 r2 x2 b1 b2 q => ?_
  cases x <;> cases y <;> first | exact False.elim q | skip
  cases b1.b.intI
  cases b2.b.intI
  obtain ⟨⟨q1, q3⟩, q⟩ := q
  exact ⟨_, _, rfl, q1, lk F2 H2 _ _ e2 (fun _ => wk_range q3) (fun _ => wk_range q3) q⟩
/-- list(range(..)), tuple(range(..)) -/
theorem rgV_den {cm : Cm} {F : AP} {hd : Option Addr} {H : Hp} (a b : Int) : DenL cm F hd H (rgV a b) (rangeD a (b - a).toNat) := by
  unfold rgV rangeD
  generalize List.range (b - a).toNat = l
  induction l with
  | nil => exact .nil
  | cons x l ih => exact .cons (.int _) ih
def PRi (X : Cx) (cm : Cm) (Wx : WX) (e : Expr) (w : Env → W (List D)) : Prop := ∃ t, PRg X e t ∧ ∀ (S : Sit) (F : AP) (ρ : Env) (σ : L2.St) (H : Hp) (Ed : D → Prop) (P : List D → Prop) (Gl : Int → Int → Hp → Prop), Real cm S F ρ σ H → w ρ P Ed → Xk cm S Ed F H (fun cls d H' => Wx cls d σ H') →
  (∀ (F2 : AP) (H2 : Hp) (a b : Int), Ev S.hd H H2 F F2 → Real cm S F2 ρ σ H2 → RgOk a b → P (rangeD a (b - a).toNat) → Gl a b H2) → t σ H Gl
theorem sl24 : sizeLine = 2 ^ 24 := by decide
theorem pri_1 (hg : Gl X "range") (hm : X.mg "range" = none) (hs : notStar a = true) (ha : PE X a (tV (cmX X ca fl) va cA kA Wx)) : PRi X (cmX X ca fl) Wx (.Call (.Name "range" p) [a] [] pos) (fun ρ => bnd (va ρ) rng1W) := by
  refine ⟨_, prg_1 hg hm ha (star_cons hs), fun S F ρ σ H Ed P Gl r h xk hk => ?_⟩
  refine one r h xk fun F2 H2 v x e2 r2 x2 b1 q => ?_
  cases x with
  | int j =>
    cases b1.b.intI
    obtain ⟨⟨q1, q2, q3⟩, q⟩ := q
    rw [sl24] at q3
    refine ⟨j, rfl, hk F2 H2 0 j e2 r2 ⟨by omega, by omega, q1, q2, by omega⟩ ?_⟩
    rw [Int.sub_zero]; exact q
  | _ => exact False.elim q
theorem pri_2 (hg : Gl X "range") (hm : X.mg "range" = none) (hs : notStar a = true) (hs' : notStar b = true) (ha : PE X a (tV (cmX X ca fl) va cA kA Wx)) (hb : PE X b (tV (cmX X ca fl) vb cB kB Wx)) :
    PRi X (cmX X ca fl) Wx (.Call (.Name "range" p) [a, b] [] pos) (fun ρ => bnd (va ρ) fun x => bnd (vb ρ) fun y => rng2W x y) := by
  refine ⟨_, prg_2 hg hm ha hb (star_cons hs) (star_cons hs') (star_any (es := [b]) (by simp [hs'])), fun S F ρ σ H Ed P Gl r h xk hk => ?_⟩
  refine two r h xk fun F2 H2 v w x y e2 r2 x2 b1 b2 q => ?_
  cases x <;> cases y <;> first | exact False.elim q | skip
  cases b1.b.intI
  cases b2.b.intI
  obtain ⟨⟨q1, q3⟩, q⟩ := q
  rw [sl24] at q3
  exact ⟨_, _, rfl, rfl, hk F2 H2 _ _ e2 r2 ⟨q1.1, q1.2.1, q1.2.2.1, q1.2.2.2, q3⟩ q⟩
theorem n_lrngL {w : Env → W (List D)} (hc : X.calm = true) (hg : Gl X "list") (hm : X.mg "list" = none) (hs : notStar e = true) (he : PRi X (cmX X ca fl) Wx e w) : PE X (.Call (.Name "list" p) [e] [] pos) (tV (cmX X ca fl) (fun ρ => bnd (w ρ) fun xs => ret (if false = true then .tup xs else .lst xs)) cF kF Wx) := by
  obtain ⟨t, h1, h2⟩ := he
  refine ⟨fun pins s σ H Q I hh => (pe_listRg hc hg hm h1 (star_cons hs)).run pins s σ H Q I ?_⟩
  obtain ⟨S, F, ρ, Qd, Ed, r, hq, lk, xk⟩ := hh
  refine h2 S F ρ σ H Ed _ _ r hq xk fun F2 H2 a b e2 r2 ok q => ⟨ok, fun p hp => ?_⟩
  have e3 : Ev S.hd H2 (upd H2 p (.lst (rgV a b))) F2 (fun z => F2 z ∨ z = p) := Ev.new r2.wf hp
  refine (lk.ev r.wf (e2.trans r.wf e3)).bare e3.wf q (.lst (.inr rfl) upd_same ?_ (rgV_den a b))
  rw [rgV_length, sl24]
  exact ok.2.2.2.2
theorem n_lrngT {w : Env → W (List D)} (hc : X.calm = true) (hg : Gl X "tuple") (hm : X.mg "tuple" = none) (hs : notStar e = true) (he : PRi X (cmX X ca fl) Wx e w) : PE X (.Call (.Name "tuple" p) [e] [] pos) (tV (cmX X ca fl) (fun ρ => bnd (w ρ) fun xs => ret (if true = true then .tup xs else .lst xs)) cF kF Wx) := by
  obtain ⟨t, h1, h2⟩ := he
  refine ⟨fun pins s σ H Q I hh => (pe_tupRg hc hg hm h1 (star_cons hs)).run pins s σ H Q I ?_⟩
  obtain ⟨S, F, ρ, Qd, Ed, r, hq, lk, xk⟩ := hh
  refine h2 S F ρ σ H Ed _ _ r hq xk fun F2 H2 a b e2 r2 ok q => ⟨ok, fun p hp => ?_⟩
  have e3 : Ev S.hd H2 (upd H2 p (.tup (rgV a b))) F2 F2 := Ev.new0 r2.wf hp
  refine (lk.ev r.wf (e2.trans r.wf e3)).bare e3.wf q (.tup (.inl (.inl upd_same)) ?_ (rgV_den a b))
  rw [rgV_length, sl24]
  exact ok.2.2.2.2
end
end DV
/-! DV: targets, comprehensions. -/
namespace DV
open PySem PySem.Spec PyProof.Rows L2
section
variable {cm : Cm} {S : Sit} {F F' : AP} {ρ ρ' : Env} {σ : L2.St} {H H' H1 : Hp} {hd : Option Addr} {p : Addr} {o : HO}
/-- a mutable object beside what is known changes -/
theorem Ev.mut (e : Ev hd H H' F F') (h0 : H p = none) (nf : ¬ F' p) (nh : hd ≠ some p) : Ev hd H (upd H' p o) F F' := by
  have np : ∀ a u, H a = some u → a ≠ p := fun a u h z => by rw [z, h0] at h; cases h
  have nhp : ∀ h, hd = some h → h ≠ p := fun h eh z => nh (by rw [eh, z])
  refine ⟨fun a u h n => ?_, e.up, e.dn, ⟨fun a h => ?_, e.wf.nh, fun h eh => ?_⟩, fun h c r eh q => ?_⟩
  · rw [upd_ne (np a u h)]; exact e.sb a u h n
  · have : a ≠ p := fun z => nf (z ▸ h)
    rw [upd_ne this]; exact e.wf.tr a h
  · obtain ⟨c, cells, q, r, m, h1, h2, h3, h4⟩ := e.wf.ho h eh
    have : c ≠ p := fun z => nf (z ▸ h2)
    exact ⟨c, cells, q, r, m, by rw [upd_ne (nhp h eh)]; exact h1, h2, by rw [upd_ne this]; exact h3, h4⟩
  · rw [upd_ne (nhp h eh)]; exact e.hc h c r eh q
theorem Sta.mut {xs : List V} (s : Sta F H H') (nf : ¬ F p) (hp : H' p = some (.lst xs)) : Sta F H (upd H' p o) := by
  refine ⟨fun a f => ?_, fun a ys h => ?_, fun a ob u h => ?_⟩
  · have : a ≠ p := fun z => nf (z ▸ f)
    rw [upd_ne this]; exact s.1 a f
  · have h' := s.2.1 a ys h
    have : a ≠ p := fun z => by rw [z, hp] at h'; cases h'
    rw [upd_ne this]; exact h'
  · have h' := s.2.2 a ob u h
    have : a ≠ p := fun z => by rw [z, hp] at h'; cases h'
    rw [upd_ne this]; exact h'
theorem Ev.nf (e : Ev hd H H' F F') (hp : H p ≠ none) (nf : ¬ F p) : ¬ F' p := fun z => by
  rcases e.dn p z with h | h
  · exact nf h
  · exact hp h
theorem Ev.same (w : WF F hd H) (h : ∀ a u, H a = some u → H' a = some u) : Ev hd H H' F F := by
  refine ⟨fun a u q _ => h a u q, fun _ h => h, fun _ h => .inl h, ⟨fun a z => ?_, w.nh, fun x ex => ?_⟩, fun x c r _ q => ⟨r, h _ _ q⟩⟩
  · cases q : H a with
    | none => exact absurd q (w.tr a z)
    | some u => rw [h a u q]; exact (fun z => nomatch z)
  · obtain ⟨c, cells, q, r, m, h1, h2, h3, h4⟩ := w.ho x ex
    exact ⟨c, cells, q, r, m, h _ _ h1, h2, h _ _ h3, h4⟩
/-- a slot takes a frozen value -/
theorem Real.setV {i : Nat} {v : V} {d : D} (r : Real cm S F ρ σ H) (h : Den cm F S.hd H v d) : Real cm S F (ρ.set i (some (.val d))) (σ.set i (some v)) H := by
  have old : ∀ (j : Nat) (s : Slot), (ρ.set i (some (.val d)))[j]? = some (some s) → (j = i ∧ s = .val d ∧ i < ρ.length) ∨ (j ≠ i ∧ ρ[j]? = some (some s)) := fun j s e => by
    by_cases z : j = i
    · subst z
      by_cases hl : j < ρ.length
      · rw [List.getElem?_set_self hl] at e
        cases e
        exact .inl ⟨rfl, rfl, hl⟩
      · rw [List.getElem?_eq_none (by rw [List.length_set]; omega)] at e
        cases e
    · rw [List.getElem?_set_ne (Ne.symm z)] at e
      exact .inr ⟨z, e⟩
  refine ⟨r.wf, by rw [List.length_set, List.length_set]; exact r.len, fun j s e => ?_, fun j k s t p e1 e2 o1 o2 q1 q2 => ?_, fun j k s t e1 e2 o1 o2 => ?_, r.sb, r.up, r.dn, r.hc, r.an⟩
  · rcases old j s e with ⟨rfl, rfl, hl⟩ | ⟨z, e'⟩
    · exact ⟨some v, by rw [List.getElem?_set_self (by rw [← r.len]; exact hl)], v, rfl, h⟩
    · rw [List.getElem?_set_ne (Ne.symm z)]
      exact r.sl j s e'
  · rcases old j s e1 with ⟨rfl, rfl, hl⟩ | ⟨z, e'⟩
    · cases o1
    · rcases old k t e2 with ⟨rfl, rfl, hl⟩ | ⟨z2, e2'⟩
      · cases o2
      · rw [List.getElem?_set_ne (Ne.symm z)] at q1
        rw [List.getElem?_set_ne (Ne.symm z2)] at q2
        exact r.ap j k s t p e' e2' o1 o2 q1 q2
  · rcases old j s e1 with ⟨rfl, rfl, hl⟩ | ⟨z, e'⟩
    · cases o1
    · rcases old k t e2 with ⟨rfl, rfl, hl⟩ | ⟨z2, e2'⟩
      · cases o2
      · exact r.mt j k s t e' e2' o1 o2
theorem Real.unset {i : Nat} (r : Real cm S F ρ σ H) : Real cm S F (ρ.set i none) (σ.set i none) H := by
  have old : ∀ (j : Nat) (s : Slot), (ρ.set i none)[j]? = some (some s) → j ≠ i ∧ ρ[j]? = some (some s) := fun j s e => by
    by_cases z : j = i
    · subst z
      by_cases hl : j < ρ.length
      · rw [List.getElem?_set_self hl] at e; cases e
      · rw [List.getElem?_eq_none (by rw [List.length_set]; omega)] at e; cases e
    · rw [List.getElem?_set_ne (Ne.symm z)] at e
      exact ⟨z, e⟩
  refine ⟨r.wf, by rw [List.length_set, List.length_set]; exact r.len, fun j s e => ?_, fun j k s t p e1 e2 o1 o2 q1 q2 => ?_, fun j k s t e1 e2 o1 o2 => ?_, r.sb, r.up, r.dn, r.hc, r.an⟩
  · obtain ⟨z, e'⟩ := old j s e
    rw [List.getElem?_set_ne (Ne.symm z)]
    exact r.sl j s e'
  · obtain ⟨z, e'⟩ := old j s e1
    obtain ⟨z2, e2'⟩ := old k t e2
    rw [List.getElem?_set_ne (Ne.symm z)] at q1
    rw [List.getElem?_set_ne (Ne.symm z2)] at q2
    exact r.ap j k s t p e' e2' o1 o2 q1 q2
  · obtain ⟨z, e'⟩ := old j s e1
    obtain ⟨z2, e2'⟩ := old k t e2
    exact r.mt j k s t e' e2' o1 o2
theorem Real.wipe (r : Real cm S F ρ σ H) : ∀ ts : List Nat, Real cm S F (wipeE ρ ts) (L2.wipe σ ts) H
  | [] => r
  | t :: ts => (Real.wipe r ts).unset
theorem wipe_idx : ∀ (σ : L2.St) (ts : List Nat) (j : Nat), (L2.wipe σ ts)[j]? = if j ∈ ts ∧ j < σ.length then some none else σ[j]?
  | σ, [], j => by simp [L2.wipe]
  | σ, t :: ts, j => by
    show ((L2.wipe σ ts).set t none)[j]? = _
    by_cases z : t = j
    · subst z
      by_cases hl : t < σ.length
      · rw [List.getElem?_set_self (by rw [wipe_length]; exact hl), if_pos ⟨List.mem_cons_self, hl⟩]
      · rw [List.getElem?_eq_none (by rw [List.length_set, wipe_length]; omega), if_neg (by omega), List.getElem?_eq_none (by omega)]
    · rw [List.getElem?_set_ne z, wipe_idx σ ts j]
      have : (j ∈ t :: ts) ↔ j ∈ ts := by simp [Ne.symm z]
      simp only [this]
theorem wipe_eq {σ τ : L2.St} {ts : List Nat} (hl : σ.length = τ.length) (h : ∀ j, j ∉ ts → σ[j]? = τ[j]?) : L2.wipe σ ts = L2.wipe τ ts := by
  apply List.ext_getElem?
  intro j
  rw [wipe_idx, wipe_idx, hl]
  by_cases z : j ∈ ts ∧ j < τ.length
  · rw [if_pos z, if_pos z]
  · rw [if_neg z, if_neg z]
    by_cases z2 : j ∈ ts
    · have : ¬ j < τ.length := fun q => z ⟨z2, q⟩
      rw [List.getElem?_eq_none (by omega), List.getElem?_eq_none (by omega)]
    · exact h j z2
/-- a target takes an item -/
def TgP (cm : Cm) (ts : List Nat) (un : Bool) (g : TG) : Prop := ∀ (S : Sit) (F : AP) (ρ ρ' : Env) (σ : L2.St) (H : Hp) (v : V) (d : D) (Q : L2.St → Hp → Prop), Real cm S F ρ σ H → Den cm F S.hd H v d → bindT ts un d ρ = some ρ' →
  (∀ σ' : L2.St, Real cm S F ρ' σ' H → L2.wipe σ' ts = L2.wipe σ ts → Q σ' H) → g v σ H Q
theorem set_off {σ : L2.St} {i j : Nat} {x : Option V} {ts : List Nat} (h : i ∈ ts) (n : j ∉ ts) : (σ.set i x)[j]? = σ[j]? := List.getElem?_set_ne fun z => n (by rw [← z]; exact h)
theorem tg_one {i : Nat} : TgP cm [i] false (gName i) := fun S F ρ ρ' σ H v d Q r hd e k => by
  have e' : some (ρ.set i (some (.val d))) = some ρ' := e
  cases e'
  exact k _ (r.setV hd) (wipe_eq (by rw [List.length_set]) fun j hj => set_off (by simp) hj)
def gNames : List Nat → TGs
  | [] => gNil
  | i :: is => gCons (gName i) (gNames is)
theorem tg_names : ∀ (ts : List Nat) (S : Sit) (F : AP) (ρ ρ' : Env) (σ : L2.St) (H : Hp) (vs : List V) (ds : List D) (Q : L2.St → Hp → Prop) (all : List Nat), (∀ t ∈ ts, t ∈ all) → Real cm S F ρ σ H → DenL cm F S.hd H vs ds → setAll ts ds ρ = some ρ' →
    (∀ σ' : L2.St, Real cm S F ρ' σ' H → L2.wipe σ' all = L2.wipe σ all → Q σ' H) → gNames ts vs σ H Q
  | [], S, F, ρ, ρ', σ, H, vs, ds, Q, all, ha, r, h, e, k => by
    cases h with
    | nil => cases e; exact ⟨rfl, k σ r rfl⟩
    | cons _ _ => cases e
  | t :: ts, S, F, ρ, ρ', σ, H, vs, ds, Q, all, ha, r, h, e, k => by
    cases h with
    | nil => cases e
    | cons h1 h2 =>
      refine ⟨_, _, rfl, ?_⟩
      refine tg_names ts S F _ ρ' _ H _ _ Q all (fun x hx => ha x (List.mem_cons_of_mem _ hx)) (r.setV h1) h2 e fun σ' r' w => k σ' r' ?_
      rw [w]
      exact wipe_eq (by rw [List.length_set]) fun j hj => set_off (ha t List.mem_cons_self) hj
theorem tg_tup {ts : List Nat} : TgP cm ts true (gTup cm.K ts.length (gNames ts)) := fun S F ρ ρ' σ H v d Q r hd e k => by
  unfold bindT at e
  rw [if_pos rfl] at e
  cases d with
  | tup ds =>
    obtain ⟨a, vs, rfl, hp, l, dd⟩ := hd.tupI
    dsimp only at e
    by_cases z : ds.length = ts.length
    · rw [if_pos z] at e
      exact ⟨a, vs, rfl, hp, by rw [dd.length]; exact z, tg_names ts S F ρ ρ' σ H vs ds Q ts (fun _ h => h) r dd e k⟩
    · rw [if_neg z] at e; cases e
  | _ => cases e
theorem isOwn_set {i : Nat} {s : Option Slot} (hs : ∀ t, s = some t → t.ow = false) (j : Nat) : isOwn (ρ.set i s) j = (isOwn ρ j && !decide (j = i)) := by
  unfold isOwn
  by_cases z : j = i
  · subst z
    rw [decide_eq_true rfl]
    by_cases hl : j < ρ.length
    · rw [List.getElem?_set_self hl]
      cases s with
      | none => simp
      | some t => simp [hs t rfl]
    · rw [List.getElem?_eq_none (by rw [List.length_set]; omega)]
      simp
  · rw [List.getElem?_set_ne (Ne.symm z), decide_eq_false z]
    simp
theorem isOwn_wipe : ∀ (ts : List Nat) (j : Nat), isOwn (wipeE ρ ts) j = (isOwn ρ j && !decide (j ∈ ts))
  | [], j => by simp [wipeE]
  | t :: ts, j => by
    show isOwn ((wipeE ρ ts).set t none) j = _
    rw [isOwn_set (s := none) (fun _ z => by cases z), isOwn_wipe ts j]
    by_cases z : j = t <;> by_cases z2 : j ∈ ts <;> simp [z, z2]
theorem isOwn_setAll : ∀ {ts : List Nat} {ds : List D} {ρ ρ' : Env}, setAll ts ds ρ = some ρ' → ∀ j, isOwn ρ' j = (isOwn ρ j && !decide (j ∈ ts))
  | [], [], ρ, ρ', e, j => by cases e; simp
  | [], _ :: _, _, _, e, _ => by cases e
  | _ :: _, [], _, _, e, _ => by cases e
  | t :: ts, d :: ds, ρ, ρ', e, j => by
    have h := isOwn_setAll (ts := ts) (ds := ds) (ρ := ρ.set t (some (.val d))) (ρ' := ρ') e j
    rw [h, isOwn_set (fun x z => by cases z; rfl)]
    by_cases z : j = t <;> by_cases z2 : j ∈ ts <;> simp [z, z2]
theorem isOwn_bindT {ts : List Nat} {un : Bool} {d : D} (e : bindT ts un d ρ = some ρ') (j : Nat) : isOwn ρ' j = (isOwn ρ j && !decide (j ∈ ts)) := by
  unfold bindT at e
  cases un with
  | true =>
    rw [if_pos rfl] at e
    cases d with
    | tup ds =>
      dsimp only at e
      by_cases z : ds.length = ts.length
      · rw [if_pos z] at e; exact isOwn_setAll e j
      · rw [if_neg z] at e; cases e
    | _ => cases e
  | false =>
    rw [if_neg Bool.false_ne_true] at e
    cases ts with
    | nil => cases e
    | cons i r =>
      cases r with
      | nil =>
        cases e
        rw [isOwn_set (fun x z => by cases z; rfl)]
        simp
      | cons _ _ => cases e
theorem isOwn_in {ts : List Nat} {un : Bool} {d : D} (e : bindT ts un d (wipeE ρ ts) = some ρ') : isOwn ρ' = isOwn (wipeE ρ ts) := by
  funext j
  rw [isOwn_bindT e, isOwn_wipe]
  cases isOwn ρ j <;> cases decide (j ∈ ts) <;> rfl
end
section
variable {X : Cx} {ca : Ca} {fl : Nat → Str} {Wx : WX}
abbrev noW : WX := fun _ _ _ _ => False
theorem n_comp {elt tg iter : Expr} {ifs : List Expr} {scope : Scope} {own : List (Str × Nat)} {pos : Pos} {ts : List Nat} {un : Bool} {g : TG} {it : Env → W (List D)} {c cc' cF kF : Env → Bool} {tc : Env → W Bool} {te : Env → W D} {ke : Env → Bool} {sE : E}
    (hc : X.calm = true) (hN : X.N.Nodup) (hi : PI X tg iter (tI (cmX X ca fl) it c cc' Wx)) (ok : BlkOk X.N X.env.scope scope own) (hts : own.map (·.2) = ts) (hgp : TgP (cmX X ca fl) ts un g)
    (hg : ∀ (s : Shared) (H : Hp) (C : Addr) (cl : List (Str × Addr)) (fp : List Addr), PG (X.blk s H scope (compEnvC scope cl C X.env) fp) tg g)
    (ht : ∀ (s : Shared) (H : Hp) (C : Addr) (cl : List (Str × Addr)) (fp : List Addr), PTs (X.blk s H scope (compEnvC scope cl C X.env) fp) ifs (tT (cmX X ca fl) tc noW))
    (he : ∀ (s : Shared) (H : Hp) (C : Addr) (cl' : List (Str × Addr)) (fp : List Addr), PE (X.blk s H scope (compEnvC scope cl' C X.env) fp) elt (tV (cmX X ca fl) te (fun ρ => cl (isOwn ρ) sE) ke noW)) (hs : ∀ x, foldedSetIterable iter X.env x = pure x) :
    PE X (.ListComp elt [⟨tg, iter, ifs, 0⟩] scope pos) (tV (cmX X ca fl) (fun ρ => req (cc' ρ = true ∧ cl (isOwn (wipeE ρ ts)) sE = true) (bnd (it ρ) fun xs => bnd (nox (compW (fun d => bindT ts un d (wipeE ρ ts)) tc te xs)) fun ys => ret (.lst ys))) cF kF Wx) ∧
    (∀ {i : Nat} {y : Str} {py spos : Pos}, X.N[i]? = some y → X.env.scope.names.lookup y = some .local → swapsWith (.ListComp elt [⟨tg, iter, ifs, 0⟩] scope pos) (some (.Name y py)) spos.line X.env = pure true →
      PS X (.Assign [.Name y py] (.ListComp elt [⟨tg, iter, ifs, 0⟩] scope pos) spos) (tAsg (tLc (tI (cmX X ca fl) it c cc' Wx) g (tT (cmX X ca fl) tc noW) (tV (cmX X ca fl) te (fun ρ => cl (isOwn ρ) sE) ke noW) ts) (gName i))) ∧
    ∀ (S : Sit) (F : AP) (ρ : Env) (σ : L2.St) (H : Hp) (P : List D → Prop) (Ed : D → Prop) (Q : VK), Real (cmX X ca fl) S F ρ σ H → (req (cc' ρ = true ∧ cl (isOwn (wipeE ρ ts)) sE = true) (bnd (it ρ) fun xs => nox (compW (fun d => bindT ts un d (wipeE ρ ts)) tc te xs))) P Ed → Xk (cmX X ca fl) S Ed F H (fun cls d H' => Wx cls d σ H') →
      (∀ (F' : AP) (H' : Hp) (q : Addr) (vs : List V) (ds : List D), Ev S.hd H H' F F' → ¬ F' q → S.hd ≠ some q → H q = none → H' q = some (.lst vs) → vs.length ≤ sizeLine → DenL (cmX X ca fl) F' S.hd H' vs ds → P ds → Q (.ref q) H') →
      tLc (tI (cmX X ca fl) it c cc' Wx) g (tT (cmX X ca fl) tc noW) (tV (cmX X ca fl) te (fun ρ => cl (isOwn ρ) sE) ke noW) ts σ H Q := by
  have core : ∀ (S : Sit) (F : AP) (ρ : Env) (σ : L2.St) (H : Hp) (P : List D → Prop) (Ed : D → Prop) (Q : VK), Real (cmX X ca fl) S F ρ σ H → (req (cc' ρ = true ∧ cl (isOwn (wipeE ρ ts)) sE = true) (bnd (it ρ) fun xs => nox (compW (fun d => bindT ts un d (wipeE ρ ts)) tc te xs))) P Ed → Xk (cmX X ca fl) S Ed F H (fun cls d H' => Wx cls d σ H') →
      (∀ (F' : AP) (H' : Hp) (q : Addr) (vs : List V) (ds : List D), Ev S.hd H H' F F' → ¬ F' q → S.hd ≠ some q → H q = none → H' q = some (.lst vs) → vs.length ≤ sizeLine → DenL (cmX X ca fl) F' S.hd H' vs ds → P ds → Q (.ref q) H') →
      tLc (tI (cmX X ca fl) it c cc' Wx) g (tT (cmX X ca fl) tc noW) (tV (cmX X ca fl) te (fun ρ => cl (isOwn ρ) sE) ke noW) ts σ H Q := by
    intro S F ρ σ H P Ed Q r hq xk hk
    obtain ⟨⟨q1, q2⟩, hq⟩ := hq
    refine ⟨S, F, ρ, _, Ed, r, hq, fun F1 H1 ds J e1 _ wk q => ?_, xk⟩
    have wk := wk q1
    intro Dl hDl
    have r1 := r.ev e1
    have nh : S.hd ≠ some Dl := fun z => by
      obtain ⟨_, _, _, _, _, q, _⟩ := r1.wf.ho Dl z
      rw [hDl] at q; cases q
    have nf1 : ¬ F1 Dl := fun z => r1.wf.tr Dl z hDl
    refine ⟨fun i m H' => i + m = ds.length ∧ ∃ (F' : AP) (accv : List V) (acc : List D), Ev S.hd H1 H' F1 F' ∧ ¬ F' Dl ∧ H' Dl = some (.lst accv) ∧ DenL (cmX X ca fl) F' S.hd H' accv acc ∧ accv.length ≤ i ∧
      compW (fun d => bindT ts un d (wipeE ρ ts)) tc te (ds.drop i) (fun ys => P (acc ++ ys)) (fun _ => False), ⟨ds.length, ?_⟩, fun i m H' hW => ?_⟩
    · exact ⟨Nat.zero_add _, F1, [], [], Ev.new0 r1.wf hDl, nf1, upd_same, .nil, Nat.le_refl _, q⟩
    · obtain ⟨him, F', accv, acc, e', nf, hD, hacc, hlen, hw⟩ := hW
      have st : Sta (Fb F1 ρ σ) H1 H' := r1.stab e'
      by_cases hi' : i < ds.length
      · refine .inr ⟨wk.go i H' st hi', fun H2 => i + 1 + (m - 1) = ds.length ∧ ∃ (F' : AP) (accv : List V) (acc : List D), Ev S.hd H1 H2 F1 F' ∧ ¬ F' Dl ∧ H2 Dl = some (.lst accv) ∧ DenL (cmX X ca fl) F' S.hd H2 accv acc ∧ accv.length ≤ i + 1 ∧
          compW (fun d => bindT ts un d (wipeE ρ ts)) tc te (ds.drop (i + 1)) (fun ys => P (acc ++ ys)) (fun _ => False), fun H2 h2 => ⟨m - 1, by omega, h2⟩, fun x H2 y => ?_⟩
        obtain ⟨hH2, d, hd1, hd2⟩ := wk.yld i H' x H2 st hi' y
        have e2 : Ev S.hd H' H2 F' F' := by
          rcases hH2 with rfl | ⟨p, vs, hp, rfl⟩
          · exact .refl e'.wf
          · exact .new0 e'.wf hp
        have r2 := (r1.ev e').ev e2
        have hdrop : ds.drop i = d :: ds.drop (i + 1) := by
          rw [List.drop_eq_getElem_cons hi']
          congr 1
          rw [List.getElem?_eq_getElem hi'] at hd1
          exact Option.some.inj hd1
        rw [hdrop] at hw
        unfold compW at hw
        cases eb : bindT ts un d (wipeE ρ ts) with
        | none => rw [eb] at hw; exact False.elim hw
        | some ρ' =>
          rw [eb] at hw
          have hw : (bnd (tc ρ') fun t => if t = true then bnd (te ρ') fun y => bnd (compW (fun d => bindT ts un d (wipeE ρ ts)) tc te (ds.drop (i + 1))) fun ys => ret (y :: ys) else compW (fun d => bindT ts un d (wipeE ρ ts)) tc te (ds.drop (i + 1))) (fun ys => P (acc ++ ys)) (fun _ => False) := hw
          refine hgp S F' (wipeE ρ ts) ρ' (L2.wipe σ ts) H2 x d _ (r2.wipe ts) (hd2.mono e'.up (.refl _ _)) eb fun σ' r' ws => ⟨?_, ?_⟩
          · rw [ws]
            exact wipe_eq (wipe_length _ _) fun j hj => by rw [wipe_idx, if_neg fun z => hj z.1]
          refine ⟨S, F', ρ', _, fun _ => False, r', hw, fun F3 H3 t e3 q3 => ?_, Xk.no⟩
          have hD2 : H2 Dl = some (.lst accv) := e2.sb _ _ hD nh
          have hD3 : H3 Dl = some (.lst accv) := e3.sb _ _ hD2 nh
          have nf3 : ¬ F3 Dl := e3.nf (by rw [hD2]; exact (fun z => nomatch z)) nf
          have e13 : Ev S.hd H1 H3 F1 F3 := (e'.trans r1.wf e2).trans r1.wf e3
          cases t with
          | true =>
            show tV (cmX X ca fl) te (fun ρ => cl (isOwn ρ) sE) ke noW σ' H3 _
            refine ⟨S, F3, ρ', _, fun _ => False, r'.ev e3, q3, fun F4 H4 y dy e4 k4 q4 => ?_, Xk.no⟩
            have hD4 : H4 Dl = some (.lst accv) := e4.sb _ _ hD3 nh
            have nf4 : ¬ F4 Dl := e4.nf (by rw [hD3]; exact (fun z => nomatch z)) nf3
            have hwl := wk.len
            refine ⟨accv, hD4, by omega, by omega, F4, accv ++ [y], acc ++ [dy], (e13.trans r1.wf e4).mut hDl nf4 nh, nf4, upd_same, ?_, by rw [List.length_append]; show accv.length + 1 ≤ i + 1; omega, ?_⟩
            · have s1 : Sta F' H' H4 := ((e2.trans e'.wf e3).trans e'.wf e4).sta e'.wf
              have g1 : DenL (cmX X ca fl) F4 S.hd (upd H4 Dl (.lst (accv ++ [y]))) accv acc := hacc.mono (fun a z => e4.up a (e3.up a z)) (s1.mut nf hD4)
              have g2 : Den (cmX X ca fl) F4 S.hd (upd H4 Dl (.lst (accv ++ [y]))) y dy := (k4.c (by show cl (isOwn ρ') sE = true; rw [isOwn_in eb]; exact q2)).mono (fun _ z => z) ((Sta.refl F4 H4).mut nf4 hD4)
              exact g1.append (.cons g2 .nil)
            · have q5 : compW (fun d => bindT ts un d (wipeE ρ ts)) tc te (ds.drop (i + 1)) (fun ys => P (acc ++ dy :: ys)) (fun _ => False) := q4
              have eA : (fun ys => P (acc ++ [dy] ++ ys)) = fun ys => P (acc ++ dy :: ys) := by
                funext ys
                rw [List.append_assoc]; rfl
              rw [eA]
              exact q5
          | false =>
            show i + 1 + (m - 1) = ds.length ∧ _
            refine ⟨by omega, F3, accv, acc, e13, nf3, hD3, hacc.mono e3.up ((e2.trans e'.wf e3).sta e'.wf), by omega, q3⟩
      · have hei : i = ds.length := by omega
        subst hei
        refine .inl ⟨wk.stop H' st, ?_⟩
        rw [List.drop_length] at hw
        have hw' : P (acc ++ []) := hw
        rw [List.append_nil] at hw'
        exact hk F' H' Dl accv acc (e1.trans r.wf e') nf nh (e1.sb.free hDl nh) hD (Nat.le_trans hlen wk.len) hacc hw'
  refine ⟨⟨fun pins s σ H Q I h => ?_⟩, fun hy hyl hsw => ?_, core⟩
  · have := (pe_lc (pos := pos) hc hN hi ok hg ht he hs)
    rw [hts] at this
    refine this.run pins s σ H Q I ?_
    obtain ⟨S, F, ρ, Qd, Ed, r, hq, lk, xk⟩ := h
    refine core S F ρ σ H (fun ys => Qd (.lst ys)) Ed Q r hq xk fun F' H' q vs ds e nf nh n0 hp l hd hQ => ?_
    refine lk (fun a => F' a ∨ a = q) H' (.ref q) (.lst ds) ⟨e.sb, fun a z => .inl (e.up a z), fun a z => ?_, ⟨fun a z => ?_, fun a z => ?_, fun h eh => ?_⟩, e.hc⟩ (.all (.lst (.inr rfl) hp l (hd.mono (fun a z => .inl z) (.refl _ _)))) hQ
    · rcases z with z | z
      · exact e.dn a z
      · exact .inr (by rw [z]; exact n0)
    · rcases z with z | z
      · exact e.wf.tr a z
      · rw [z, hp]; exact (fun z => nomatch z)
    · rcases z with z | z
      · exact e.wf.nh a z
      · rw [z]; exact nh
    · obtain ⟨c, cells, q, rr, m, h1, h2, h3, h4⟩ := e.wf.ho h eh
      exact ⟨c, cells, q, rr, m, h1, .inl h2, h3, h4⟩
  · have := (ps_setLc (pos := pos) hc hN hy hyl hsw hi ok hg ht he hs)
    rw [hts] at this
    exact this
/-! ### enumerate, zip -/
theorem enuD_len : ∀ (k : Nat) (xs : List D), (enuD k xs).length = xs.length
  | _, [] => rfl
  | k, _ :: xs => by
    show (enuD (k + 1) xs).length + 1 = xs.length + 1
    rw [enuD_len]
theorem enuD_get : ∀ (k : Nat) (xs : List D) (i : Nat) (d : D), xs[i]? = some d → (enuD k xs)[i]? = some (.tup [.int ((k + i : Nat) : Int), d])
  | _, [], _, _, h => by simp at h
  | k, x :: xs, 0, d, h => by
    simp at h; subst h
    rfl
  | k, x :: xs, i + 1, d, h => by
    have := enuD_get (k + 1) xs i d (by simpa using h)
    show (enuD (k + 1) xs)[i]? = _
    rw [this]
    congr 5
    omega
theorem zipD_len : ∀ (xs ys : List D), (zipD xs ys).length = min xs.length ys.length
  | [], ys => by simp [zipD]
  | _ :: _, [] => by simp [zipD]
  | x :: xs, y :: ys => by
    show (zipD xs ys).length + 1 = min (xs.length + 1) (ys.length + 1)
    rw [zipD_len]; omega
theorem zipD_get : ∀ (xs ys : List D) (i : Nat) (d e : D), xs[i]? = some d → ys[i]? = some e → (zipD xs ys)[i]? = some (.tup [d, e])
  | [], _, _, _, _, h, _ => by simp at h
  | _ :: _, [], _, _, _, _, h => by simp at h
  | x :: xs, y :: ys, 0, d, e, h, h' => by
    simp at h h'; subst h h'
    rfl
  | x :: xs, y :: ys, i + 1, d, e, h, h' => zipD_get xs ys i d e (by simpa using h) (by simpa using h')
theorem sta_new {F : AP} {H H1 : Hp} {p : Addr} {o : HO} (tr : ∀ a, F a → H a ≠ none) (s : Sta F H H1) (hp : H1 p = none) : Sta F H1 (upd H1 p o) := by
  refine ⟨fun a f => ?_, fun a xs h => ?_, fun a ob u h => ?_⟩
  · have : a ≠ p := fun z => by
      have := s.1 a f
      rw [z, hp] at this
      exact tr p (z ▸ f) this.symm
    rw [upd_ne this]
  · rw [upd_ne (ne_of_none h hp)]; exact h
  · rw [upd_ne (ne_of_none h hp)]; exact h
theorem wk_enum {cm : Cm} {hd : Option Addr} {Fs Fi : AP} {H : Hp} {a : Addr} {vs : List V} {ds : List D} (tr : ∀ x, Fs x → H x ≠ none) (hf : Fs a) (r : H a = some (.lst vs)) (l : vs.length ≤ sizeLine) (h : DenL cm Fi hd H vs ds) (hi : ∀ x, Fi x → Fs x) : Wk cm hd Fs Fi H (Ite cm.K a) (enuD 0 ds) := by
  have e := h.length
  have sq : ∀ H1, Sta Fs H H1 → SqL cm.K H1 a vs := fun H1 s => .inl (.inl ((s.1 _ hf).trans r))
  refine ⟨by rw [enuD_len]; omega, fun i H1 s hl => ?_, fun H1 s => ?_, fun i H1 x H2 s hl y => ?_⟩
  · rw [enuD_len] at hl
    have hv : i < vs.length := by omega
    exact ⟨vs, vs[i], sq H1 s, List.getElem?_eq_getElem hv⟩
  · rw [enuD_len]
    exact ⟨vs, sq H1 s, by omega⟩
  · obtain ⟨T, x', rfl, hT, rfl, y⟩ := y
    obtain ⟨d, h1, h2⟩ := h.get (y vs (sq H1 s))
    refine ⟨.inr ⟨T, _, hT, rfl⟩, _, enuD_get 0 ds i d h1, .tup (.inl (.inl upd_same)) (by show 2 ≤ sizeLine; decide) (.cons ?_ (.cons ?_ .nil))⟩
    · rw [Nat.zero_add]; exact .int _
    · exact (h2.mono (fun _ z => z) (s.sub hi)).mono (fun _ z => z) ((sta_new tr s hT).sub hi)
theorem wk_zip {cm : Cm} {hd : Option Addr} {Fs Fi : AP} {H : Hp} {a b : Addr} {vs ws : List V} {ds es : List D} (tr : ∀ x, Fs x → H x ≠ none) (hf : Fs a) (hf' : Fs b) (r : H a = some (.lst vs)) (r' : H b = some (.lst ws)) (l : vs.length ≤ sizeLine) (h : DenL cm Fi hd H vs ds) (h' : DenL cm Fi hd H ws es) (hi : ∀ x, Fi x → Fs x) : Wk cm hd Fs Fi H (Itz cm.K a b) (zipD ds es) := by
  have e := h.length
  have e' := h'.length
  have sq : ∀ H1, Sta Fs H H1 → SqL cm.K H1 a vs := fun H1 s => .inl (.inl ((s.1 _ hf).trans r))
  have sq' : ∀ H1, Sta Fs H H1 → SqL cm.K H1 b ws := fun H1 s => .inl (.inl ((s.1 _ hf').trans r'))
  refine ⟨by rw [zipD_len]; omega, fun i H1 s hl => ?_, fun H1 s => ?_, fun i H1 x H2 s hl y => ?_⟩
  · rw [zipD_len] at hl
    have hv : i < vs.length := by omega
    have hw : i < ws.length := by omega
    exact ⟨vs, ws, vs[i], ws[i], sq H1 s, sq' H1 s, List.getElem?_eq_getElem hv, List.getElem?_eq_getElem hw⟩
  · rw [zipD_len]
    exact ⟨vs, ws, sq H1 s, sq' H1 s, by omega⟩
  · obtain ⟨T, x1, x2, rfl, hT, rfl, y1, y2⟩ := y
    obtain ⟨d, h1, h2⟩ := h.get (y1 vs (sq H1 s))
    obtain ⟨d', h1', h2'⟩ := h'.get (y2 ws (sq' H1 s))
    refine ⟨.inr ⟨T, _, hT, rfl⟩, _, zipD_get ds es i d d' h1 h1', .tup (.inl (.inl upd_same)) (by show 2 ≤ sizeLine; decide) (.cons ?_ (.cons ?_ .nil))⟩
    · exact (h2.mono (fun _ z => z) (s.sub hi)).mono (fun _ z => z) ((sta_new tr s hT).sub hi)
    · exact (h2'.mono (fun _ z => z) (s.sub hi)).mono (fun _ z => z) ((sta_new tr s hT).sub hi)
variable {a b : Expr} {p pos tp : Pos} {va vb : Env → W D} {cA kA cB kB : Env → Bool} {es : List Expr} {kk : Nat}
theorem i_enu (hg : Gl X "enumerate") (hm : X.mg "enumerate" = none) (hs : notStar a = true) (ha : PE X a (tV (cmX X ca fl) va cA kA Wx)) : PI X (.Tuple es kk tp) (.Call (.Name "enumerate" p) [a] [] pos) (tI (cmX X ca fl) (fun ρ => bnd (va ρ) enuW) cA kA Wx) := by
  refine ⟨fun pins s σ H R I h => (pi_enum hg hm (pa_cons ha pa_nil (star_cons hs)) (star_cons hs)).run pins s σ H R I ?_⟩
  obtain ⟨S, F, ρ, Qd, Ed, r, hq, lk, xk⟩ := h
  refine one r hq xk fun F2 H2 v x e2 r2 x2 b1 q => ?_
  cases x with
  | lst ds =>
    obtain ⟨p, vs, rfl, hf, hp, l, dd⟩ := b1.b.lstI
    refine ⟨p, vs, rfl, .inl (.inl hp), lk F2 H2 _ _ e2 (fun hc => ?_) (fun hk => ?_) q⟩
    · obtain ⟨_, _, ea, hf', hp', l', dd'⟩ := (b1.c hc).lstI
      cases ea
      exact wk_enum r2.wf.tr hf' hp' l' dd' fun _ z => z
    · obtain ⟨_, _, ea, hp', l', dd'⟩ := b1.k hk
      cases ea
      exact wk_enum (fun x z => (r2.fb_tr x z).1) hf hp' l' dd' fb_in
  | _ => exact False.elim q
theorem i_zip (hg : Gl X "zip") (hm : X.mg "zip" = none) (hs : notStar a = true) (hs' : notStar b = true) (ha : PE X a (tV (cmX X ca fl) va cA kA Wx)) (hb : PE X b (tV (cmX X ca fl) vb cB kB Wx)) :
    PI X (.Tuple es kk tp) (.Call (.Name "zip" p) [a, b] [] pos) (tI (cmX X ca fl) (fun ρ => bnd (va ρ) fun x => bnd (vb ρ) fun y => zipW x y) (fun ρ => cA ρ && cB ρ) (fun ρ => kA ρ && kB ρ) Wx) := by
  refine ⟨fun pins s σ H R I h => (pi_zip hg hm (pa_cons ha (pa_cons hb pa_nil (star_cons hs')) (star_cons hs)) (star_cons hs) (star_any (es := [b]) (by simp [hs']))).run pins s σ H R I ?_⟩
  obtain ⟨S, F, ρ, Qd, Ed, r, hq, lk, xk⟩ := h
  refine two r hq xk fun F2 H2 v w x y e2 r2 x2 b1 b2 q => ?_
  cases x <;> cases y <;> first | exact False.elim q | skip
  obtain ⟨p, vs, rfl, hf, hp, l, dd⟩ := b1.b.lstI
  obtain ⟨p', ws, rfl, hf', hp', l', dd'⟩ := b2.b.lstI
  refine ⟨p, p', vs, ws, rfl, .inl (.inl hp), .inl (.inl hp'), lk F2 H2 _ _ e2 (fun hc => ?_) (fun hk => ?_) q⟩
  · have hc := Bool.and_eq_true_iff.mp hc
    obtain ⟨_, _, ea, g1, g2, g3, g4⟩ := (b1.c hc.1).lstI
    cases ea
    obtain ⟨_, _, ea, k1, k2, k3, k4⟩ := (b2.c hc.2).lstI
    cases ea
    exact wk_zip r2.wf.tr g1 k1 g2 k2 g3 g4 k4 fun _ z => z
  · have hk := Bool.and_eq_true_iff.mp hk
    obtain ⟨_, _, ea, g2, g3, g4⟩ := b1.k hk.1
    cases ea
    obtain ⟨_, _, ea, k2, k3, k4⟩ := b2.k hk.2
    cases ea
    exact wk_zip (fun x z => (r2.fb_tr x z).1) hf hf' g2 k2 g3 g4 k4 fb_in
end
end DV
/-! DV: own classes: isinstance, ==; str. -/
namespace DV
open PySem PySem.Spec PyProof.Rows L2
/-- what isinstance asks of an own class -/
structure IcF (K : PySem.W.Frag) (C : Addr) : Prop where
  ha : PySem.W.findIn K (.ref C) "__class__" = some (some (.builtin "object.__class__"))
  hn : PySem.W.specialIn K (.builtin "object.__class__") "__get__" = some (some (.builtin "getset_descriptor.__get__"))
  htk : PySem.W.takesIn K (.builtin "object.__class__") = some true
  hm : PySem.W.mroIn K C (.type "object") = some true
def six : List String := ["NoneType", "bool", "int", "str", "tuple", "list"]
/-- the classes of the module among each other and against the built-in types -/
structure IsOk (K : PySem.W.Frag) (ca : Ca) (isub : Nat → Nat → Option Bool) (icl : Nat → Bool) : Prop where
  own : ∀ k c b, isub k c = some b → IcF K (ca k) ∧ PySem.W.kitOne K (.ref (ca k)) (.ref (ca c)) = some b
  typ : ∀ c, icl c = true → ∀ n ∈ six, PySem.W.kitOne K (.type n) (.ref (ca c)) = some false
theorem nf_of {K : PySem.W.Frag} {C : Addr} {t : Value} (h : PySem.W.kitOne K t (.ref C) = some false) : PySem.W.notFirst K C t = true := by
  unfold PySem.W.kitOne at h
  unfold PySem.W.notFirst
  by_cases z : (t == .ref C) = true
  · rw [z]; rfl
  · rw [if_neg z] at h
    unfold PySem.W.kitCls at h
    dsimp only at h
    split at h
    · rw [h]
      simp
    · cases h
section
variable {X : Cx} {ca : Ca} {fl : Nat → Str} {Wx : WX} {a b e : Expr} {pos p : Pos} {va vb ve : Env → W D} {cA kA cB kB cE kE cF kF : Env → Bool}
/-- the type, and what it says of the class -/
theorem ty_of {cm : Cm} {F : AP} {hd : Option Addr} {H : Hp} {isub : Nat → Nat → Option Bool} {icl : Nat → Bool} {c : Nat} {v : V} {d : D} {Q : Bool → Prop} {Ed : D → Prop} (I : IsOk cm.K cm.ca isub icl) (h : Den cm F hd H v d) (q : iscW isub icl c d Q Ed) :
    ∃ (t : Value) (r : Bool), TyX cm.K H v t ∧ PySem.W.kitOne cm.K t (.ref (cm.ca c)) = some r ∧ Q r := by
  have base : (∀ k ns vs, d ≠ .ins k ns vs) → ∃ (t : Value) (r : Bool), TyX cm.K H v t ∧ PySem.W.kitOne cm.K t (.ref (cm.ca c)) = some r ∧ Q r := fun hn => by
    have q' : (match tyName d with
      | some _ => if icl c = true then ret false else fail
      | none => fail) Q Ed := by
      cases d <;> first | exact q | exact absurd rfl (hn _ _ _)
    cases et : tyName d with
    | none => rw [et] at q'; exact q'.elim
    | some t =>
      rw [et] at q'
      dsimp only at q'
      by_cases z : icl c = true
      · rw [if_pos z] at q'
        obtain ⟨n, _, ht, hm⟩ := tyx_of h et
        exact ⟨_, false, ht, I.typ c z n (by simpa [six] using hm), q'⟩
      · rw [if_neg z] at q'; exact q'.elim
  cases d with
  | ins k ns vs =>
    have q' : (match isub k c with
      | some b => ret b
      | none => fail) Q Ed := q
    cases e : isub k c with
    | none => rw [e] at q'; exact q'.elim
    | some r =>
      rw [e] at q'
      obtain ⟨i1, i2⟩ := I.own k c r e
      cases h with
      | ins f r' n k' r'' => exact ⟨_, r, .base (.ins r' k'.cl i1.ha i1.hn i1.htk i1.hm), i2, q'⟩
  | _ => exact base (fun _ _ _ z => nomatch z)
theorem n_isc {isub : Nat → Nat → Option Bool} {icl : Nat → Bool} {c : Nat} {x : Str} {cp ip : Pos} (I : IsOk X.K ca isub icl) (hgi : Gl X "isinstance") (hmi : X.mg "isinstance" = none) (hg : Gl X x) (hm : X.mg x = some (.ref (ca c))) (hdb : (x == ("__debug__" : Str)) = false) (hs : notStar e = true) (he : PE X e (tV (cmX X ca fl) ve cE kE Wx)) :
    PE X (.Call (.Name "isinstance" ip) [e, .Name x cp] [] pos) (tV (cmX X ca fl) (fun ρ => bnd (ve ρ) fun d => bnd (iscW isub icl c d) fun t => ret (.bl t)) cF kF Wx) := by
  refine ⟨fun pins s σ H Q Iv hh => (pe_callB call_isi hgi hmi (by decide +kernel) (pa_cons he (pa_cons (pe_glob (v := .ref (ca c)) hg hm rfl hdb) pa_nil (star_cons rfl)) (star_cons hs)) (by decide +kernel) (by decide +kernel) (star_cons hs) (star_any (es := [.Name x cp]) rfl)).run pins s σ H Q Iv ?_⟩
  obtain ⟨S, F, ρ, Qd, Ed, r, hq, lk, xk⟩ := hh
  refine one r hq xk fun F2 H2 v d e2 r2 x2 b1 q => ?_
  obtain ⟨t, rb, h1, h2, h3⟩ := ty_of (cm := cmX X ca fl) I b1.b q
  exact ⟨v, .ref (ca c), t, .ref (ca c), rb, rfl, .own _, h1, h2, (lk.ev r.wf e2).bare r2.wf h3 (.bl _)⟩
/-- a == b where a's class has an __eq__ -/
def tEqi (X : Cx) (ca : Ca) (fl : Nat → Str) (Wx : WX) (mt : Nat → Nat → Option (Nat × (List D → W D))) (mi : Nat) (ta tb : TE) : TE := fun σ H Q => ta σ H fun x H1 => tb σ H1 fun y H2 => ∃ (q dx : Addr) (c : Nat) (fs : List (Str × V)) (n : Nat) (φ : List D → W D) (t : Value),
  x = .ref q ∧ H2 q = some (.ins (ca c) dx fs) ∧ mt c mi = some (n, φ) ∧ TyX X.K H2 y t ∧ PySem.W.notFirst X.K (ca c) t = true ∧ SpOf (cmX X ca fl) n φ [x, y] H2 (fun v H' => ∃ r : Bool, v = .bl r ∧ Q (.bl r) H') (fun cls d H' => Wx cls d σ H')
theorem pc_eqi {k mi : Nat} {mt : Nat → Nat → Option (Nat × (List D → W D))} {ta tb : TE} (hM : ∀ c n φ, mt c mi = some (n, φ) → MtE X ca fl k "__eq__" c n φ) (hr : Room k X.A) (hl : Lets X Wx) (ha : PE X a ta) (hb : PE X b tb) : PC X .Eq a b (tEqi X ca fl Wx mt mi ta tb) := by
  refine ⟨fun pins s σ H Q I h => thn (ha.run pins s σ H _ I h) fun v s1 ⟨x, H1, I1, r1, q1⟩ => thn (hb.run pins s1 σ H1 _ I1 q1) fun u s2 ⟨y, H2, I2, r2, q2⟩ => ?_⟩
  obtain ⟨q, dx, c, fs, n, φ, t, rfl, hq, hm, ty, nf, sp⟩ := q2
  obtain rfl : v = Value.ref q := r1
  obtain ⟨fa, fd, ps, j, hj, hps, M, _, G, hbd⟩ := hM c n φ hm
  obtain ⟨mA, J, _⟩ := ins_get I2.hok hq
  obtain ⟨od, J, _⟩ := J.look
  obtain ⟨m, hF⟩ := I2.fr
  obtain ⟨P, hk, hP, _⟩ := kit_of I2 r2 ty
  show wpAny _ _ (richCompare .Eq (.ref q) u) _ _ _
  refine PySem.W.cmp_K (op := .Eq) (tb := t) hr.units0 hF I2.ok.mod.kin J (hk.ty _ _ I2.kIn hP) nf M.at_ M.fn ?_
  refine thn (run_fnS (us := [.ref q, u]) (vs := [.ref q, y]) (E := fun σ => fun cls d H' => Wx cls d σ H') G (hr.mono hj) hbd (hl _ (fun _ _ _ _ q => q) σ) I2 (.cons rfl (.cons r2 .nil)) sp) fun w s3 ⟨z, H3, I3, r3, e3⟩ => ?_
  obtain ⟨rb, rfl, qq⟩ := e3
  obtain rfl : w = Value.bool rb := r3
  exact ⟨.bl rb, H3, I3, rfl, qq⟩
theorem right_ty {cm : Cm} {F : AP} {hd : Option Addr} {H : Hp} {isub : Nat → Nat → Option Bool} {icl : Nat → Bool} {c : Nat} {v : V} {d : D} (I : IsOk cm.K cm.ca isub icl) (h : Den cm F hd H v d) (q : rightOk isub icl c d) : ∃ t : Value, TyX cm.K H v t ∧ PySem.W.notFirst cm.K (cm.ca c) t = true := by
  have base : (∀ k ns vs, d ≠ .ins k ns vs) → ∃ t : Value, TyX cm.K H v t ∧ PySem.W.notFirst cm.K (cm.ca c) t = true := fun hn => by
    have q' : tyName d ≠ none ∧ icl c = true := by
      cases d <;> first | exact q | exact absurd rfl (hn _ _ _)
    cases et : tyName d with
    | none => exact absurd et q'.1
    | some t =>
      obtain ⟨n, _, ht, hm⟩ := tyx_of h et
      exact ⟨_, ht, nf_of (I.typ c q'.2 n (by simpa [six] using hm))⟩
  cases d with
  | ins k ns vs =>
    have q' : isub k c = some false ∨ (k = c ∧ isub c c = some true) := q
    cases h with
    | ins f r' n k' r'' =>
      rcases q' with q' | ⟨rfl, q'⟩
      · obtain ⟨i1, i2⟩ := I.own k c false q'
        exact ⟨_, .base (.ins r' k'.cl i1.ha i1.hn i1.htk i1.hm), nf_of i2⟩
      · obtain ⟨i1, i2⟩ := I.own k k true q'
        refine ⟨_, .base (.ins r' k'.cl i1.ha i1.hn i1.htk i1.hm), ?_⟩
        unfold PySem.W.notFirst
        simp
  | _ => exact base (fun _ _ _ z => nomatch z)
theorem eqi_read {isub : Nat → Nat → Option Bool} {icl : Nat → Bool} {mi : Nat} {mt : Nat → Nat → Option (Nat × (List D → W D))} {sA sB : E} (I : IsOk X.K ca isub icl) {σ : L2.St} {H : Hp} {Qv : VK} {S : Sit} {F : AP} {ρ : Env} {Qb : Bool → Prop} {Ed : D → Prop} (r : Real (cmX X ca fl) S F ρ σ H)
    (hq : bnd (va ρ) (fun x => bnd (vb ρ) fun y => eqiW isub icl mt mi (cl (isOwn ρ) sA && cl (isOwn ρ) sB) x y) Qb Ed) (lk : ∀ (F' : AP) (H' : Hp) (t : Bool), Ev S.hd H H' F F' → Qb t → Qv (.bl t) H') (xk : Xk (cmX X ca fl) S Ed F H (fun cls d H' => Wx cls d σ H')) :
    tEqi X ca fl Wx mt mi (tV (cmX X ca fl) va (fun ρ => cl (isOwn ρ) sA) kA Wx) (tV (cmX X ca fl) vb (fun ρ => cl (isOwn ρ) sB) kB Wx) σ H Qv := by
  refine two r hq xk fun F2 H2 v w x y e2 r2 x2 b1 b2 q => ?_
  cases x with
  | ins c ns vs =>
    obtain ⟨q1, q2⟩ := q
    cases hm : mt c mi with
    | none => rw [hm] at q2; exact q2.elim
    | some nφ =>
      obtain ⟨n, φ⟩ := nφ
      rw [hm] at q2
      have bb := b1.b
      cases bb with
      | @ins a dx _ _ fs _ hf hp' hk hi hd =>
        obtain ⟨t, t1, t2⟩ := right_ty (cm := cmX X ca fl) I b2.b q1
        refine ⟨a, dx, c, fs, n, φ, t, rfl, hp', hm, t1, t2, ?_⟩
        refine call_use (c := False) (k := False) r2 q2 (.cons b1.b (.cons b2.b .nil)) (fun z => ?_) (fun F' H' u d e k4 q4 => ?_) x2
        · have z' := Bool.and_eq_true_iff.mp z
          exact .cons (b1.c z'.1) (.cons (b2.c z'.2) .nil)
        · obtain ⟨rb, rfl, q5⟩ := q4
          exact ⟨rb, k4.b.blI, lk F' H' rb (e2.trans r.wf e) q5⟩
  | _ => exact q.elim
theorem n_eqi {k : Nat} {isub : Nat → Nat → Option Bool} {icl : Nat → Bool} {mi : Nat} {mt : Nat → Nat → Option (Nat × (List D → W D))} {sA sB : E} (I : IsOk X.K ca isub icl) (hM : ∀ c n φ, mt c mi = some (n, φ) → MtE X ca fl k "__eq__" c n φ) (hr : Room k X.A) (hl : Lets X Wx) (ha : PE X a (tV (cmX X ca fl) va (fun ρ => cl (isOwn ρ) sA) kA Wx)) (hb : PE X b (tV (cmX X ca fl) vb (fun ρ => cl (isOwn ρ) sB) kB Wx)) :
    PE X (.Compare a [.Eq] [b] pos) (tV (cmX X ca fl) (fun ρ => bnd (va ρ) fun x => bnd (vb ρ) fun y => bnd (eqiW isub icl mt mi (cl (isOwn ρ) sA && cl (isOwn ρ) sB) x y) fun t => ret (.bl t)) cF kF Wx) := by
  refine ⟨fun pins s σ H Q Iv hh => (pe_cmp (pc_eqi hM hr hl ha hb) (nomark _)).run pins s σ H Q Iv ?_⟩
  obtain ⟨S, F, ρ, Qd, Ed, r, hq, lk, xk⟩ := hh
  exact eqi_read (Qb := fun t => Qd (.bl t)) I r hq (fun F' H' t e q => (lk.ev r.wf e).bare e.wf q (.bl t)) xk
theorem n_eqiT {k : Nat} {isub : Nat → Nat → Option Bool} {icl : Nat → Bool} {mi : Nat} {mt : Nat → Nat → Option (Nat × (List D → W D))} {sA sB : E} (I : IsOk X.K ca isub icl) (hM : ∀ c n φ, mt c mi = some (n, φ) → MtE X ca fl k "__eq__" c n φ) (hr : Room k X.A) (hl : Lets X Wx) (ha : PE X a (tV (cmX X ca fl) va (fun ρ => cl (isOwn ρ) sA) kA Wx)) (hb : PE X b (tV (cmX X ca fl) vb (fun ρ => cl (isOwn ρ) sB) kB Wx)) :
    PT X (.Compare a [.Eq] [b] pos) (tT (cmX X ca fl) (fun ρ => bnd (va ρ) fun x => bnd (vb ρ) fun y => eqiW isub icl mt mi (cl (isOwn ρ) sA && cl (isOwn ρ) sB) x y) Wx) := by
  refine ⟨fun pins s σ H Q Iv hh => (pt_cmp (pc_eqi hM hr hl ha hb) (nomark _)).run pins s σ H Q Iv ?_⟩
  obtain ⟨S, F, ρ, Qd, Ed, r, hq, lk, xk⟩ := hh
  exact eqi_read (Qb := Qd) I r hq (fun F' H' t e q => ⟨t, rfl, lk F' H' t e q⟩) xk
end
end DV
/-! DV: a term of ours against a term of the text. -/
namespace DV
open PySem PySem.Spec PyProof.Rows L2
/-- the names: defs, classes, methods, fields, constants -/
structure Nms where
  q : Bool
  fn : List Str
  cls : List Str
  mt : List Str
  fld : List Str
  gl : List Str
def Nms.fl (n : Nms) (i : Nat) : Str := n.fld.getD i "?"
/-! ### shapes -/
def xName : Expr → Option Str
  | .Name x _ => some x
  | _ => none
theorem xName_eq {e : Expr} {x : Str} (h : xName e = some x) : ∃ p, e = .Name x p := by cases e <;> simp [xName] at h; subst h; exact ⟨_, rfl⟩
def xConst : Expr → Option Const
  | .Constant c _ _ => some c
  | _ => none
theorem xConst_eq {e : Expr} {c : Const} (h : xConst e = some c) : ∃ j p, e = .Constant c j p := by cases e <;> simp [xConst] at h; subst h; exact ⟨_, _, rfl⟩
def xBin : Expr → Option (Expr × Operator × Expr)
  | .BinOp l o r _ => some (l, o, r)
  | _ => none
theorem xBin_eq {e l r : Expr} {o : Operator} (h : xBin e = some (l, o, r)) : ∃ p, e = .BinOp l o r p := by cases e <;> simp [xBin] at h; obtain ⟨rfl, rfl, rfl⟩ := h; exact ⟨_, rfl⟩
def xUn : Expr → Option (UnaryOp × Expr)
  | .UnaryOp o l _ => some (o, l)
  | _ => none
theorem xUn_eq {e l : Expr} {o : UnaryOp} (h : xUn e = some (o, l)) : ∃ p, e = .UnaryOp o l p := by cases e <;> simp [xUn] at h; obtain ⟨rfl, rfl⟩ := h; exact ⟨_, rfl⟩
def xCmp : Expr → Option (Expr × CmpOp × Expr)
  | .Compare l [o] [r] _ => some (l, o, r)
  | _ => none
theorem xCmp_eq {e l r : Expr} {o : CmpOp} (h : xCmp e = some (l, o, r)) : ∃ p, e = .Compare l [o] [r] p := by
  unfold xCmp at h
  split at h
  · cases h; exact ⟨_, rfl⟩
  · cases h
def xChn : Expr → Option (Expr × CmpOp × Expr × CmpOp × Expr)
  | .Compare l [o, o'] [m, r] _ => some (l, o, m, o', r)
  | _ => none
theorem xChn_eq {e l m r : Expr} {o o' : CmpOp} (h : xChn e = some (l, o, m, o', r)) : ∃ p, e = .Compare l [o, o'] [m, r] p := by
  unfold xChn at h
  split at h
  · cases h; exact ⟨_, rfl⟩
  · cases h
def xAnd : Expr → Option (Expr × Expr × List Expr × Pos)
  | .BoolOp .And (a :: b :: r) p => some (a, b, r, p)
  | _ => none
theorem xAnd_eq {e a b : Expr} {r : List Expr} {p : Pos} (h : xAnd e = some (a, b, r, p)) : e = .BoolOp .And (a :: b :: r) p := by
  unfold xAnd at h
  split at h
  · cases h; rfl
  · cases h
def xOr : Expr → Option (Expr × Expr × List Expr × Pos)
  | .BoolOp .Or (a :: b :: r) p => some (a, b, r, p)
  | _ => none
theorem xOr_eq {e a b : Expr} {r : List Expr} {p : Pos} (h : xOr e = some (a, b, r, p)) : e = .BoolOp .Or (a :: b :: r) p := by
  unfold xOr at h
  split at h
  · cases h; rfl
  · cases h
def xIf : Expr → Option (Expr × Expr × Expr)
  | .IfExp c a b _ => some (c, a, b)
  | _ => none
theorem xIf_eq {e c a b : Expr} (h : xIf e = some (c, a, b)) : ∃ p, e = .IfExp c a b p := by cases e <;> simp [xIf] at h; obtain ⟨rfl, rfl, rfl⟩ := h; exact ⟨_, rfl⟩
/-- f(..) -/
def xCall : Expr → Option (Str × List Expr)
  | .Call (.Name x _) args [] _ => some (x, args)
  | _ => none
theorem xCall_eq {e : Expr} {x : Str} {args : List Expr} (h : xCall e = some (x, args)) : ∃ p q, e = .Call (.Name x p) args [] q := by
  unfold xCall at h
  split at h
  · cases h; exact ⟨_, _, rfl⟩
  · cases h
/-- o.m(..) -/
def xMeth : Expr → Option (Expr × Str × List Expr × Bool)
  | .Call (.Attribute o x ap) args [] p => some (o, x, args, ap.endLine == p.line)
  | _ => none
theorem xMeth_eq {e o : Expr} {x : Str} {args : List Expr} {b : Bool} (h : xMeth e = some (o, x, args, b)) : ∃ ap q, e = .Call (.Attribute o x ap) args [] q ∧ (ap.endLine == q.line) = b := by
  unfold xMeth at h
  split at h
  · cases h; exact ⟨_, _, rfl, rfl⟩
  · cases h
def xAttr : Expr → Option (Expr × Str)
  | .Attribute o x _ => some (o, x)
  | _ => none
theorem xAttr_eq {e o : Expr} {x : Str} (h : xAttr e = some (o, x)) : ∃ p, e = .Attribute o x p := by cases e <;> simp [xAttr] at h; obtain ⟨rfl, rfl⟩ := h; exact ⟨_, rfl⟩
def xSub : Expr → Option (Expr × Expr)
  | .Subscript o x _ => some (o, x)
  | _ => none
theorem xSub_eq {e o x : Expr} (h : xSub e = some (o, x)) : ∃ p, e = .Subscript o x p := by cases e <;> simp [xSub] at h; obtain ⟨rfl, rfl⟩ := h; exact ⟨_, rfl⟩
def xSl : Expr → Option (Expr × Option Expr × Option Expr)
  | .Subscript o (.Slice l h none _) _ => some (o, l, h)
  | _ => none
theorem xSl_eq {e o : Expr} {l hi : Option Expr} (h : xSl e = some (o, l, hi)) : ∃ p q, e = .Subscript o (.Slice l hi none p) q := by
  unfold xSl at h
  split at h
  · cases h; exact ⟨_, _, rfl⟩
  · cases h
def xTup : Expr → Option (List Expr)
  | .Tuple es _ _ => some es
  | _ => none
theorem xTup_eq {e : Expr} {es : List Expr} (h : xTup e = some es) : ∃ k p, e = .Tuple es k p := by cases e <;> simp [xTup] at h; subst h; exact ⟨_, _, rfl⟩
def xLst : Expr → Option (List Expr)
  | .List es _ => some es
  | _ => none
theorem xLst_eq {e : Expr} {es : List Expr} (h : xLst e = some es) : ∃ p, e = .List es p := by cases e <;> simp [xLst] at h; subst h; exact ⟨_, rfl⟩
def xComp : Expr → Option (Expr × Expr × Expr × List Expr × Scope)
  | .ListComp e [⟨t, i, c, 0⟩] s _ => some (e, t, i, c, s)
  | _ => none
theorem xComp_eq {ex e t i : Expr} {c : List Expr} {s : Scope} (h : xComp ex = some (e, t, i, c, s)) : ∃ p, ex = .ListComp e [⟨t, i, c, 0⟩] s p := by
  unfold xComp at h
  split at h
  · cases h; exact ⟨_, rfl⟩
  · cases h
/-! ### names -/
def visB (sc : Scope) (x : Str) : Bool := match sc.names.lookup x with
  | some .local => true
  | some .cell => true
  | some .free => true
  | _ => false
theorem vis_of {sc : Scope} {x : Str} (h : visB sc x = true) : Vis sc x := by
  unfold visB at h
  unfold Vis
  split at h <;> simp_all
def locB (sc : Scope) (x : Str) : Bool := match sc.names.lookup x with
  | some .local => true
  | some .cell => true
  | _ => false
theorem loc_of {sc : Scope} {x : Str} (h : locB sc x = true) : sc.names.lookup x = some .local ∨ sc.names.lookup x = some .cell := by
  unfold locB at h
  split at h <;> simp_all
def gloB (sc : Scope) (x : Str) : Bool := match sc.names.lookup x with
  | some .globalImplicit => true
  | _ => false
theorem glo_of {sc : Scope} {x : Str} (h : gloB sc x = true) : sc.names.lookup x = some .globalImplicit := by
  unfold gloB at h
  split at h <;> simp_all
def nodb (x : Str) : Bool := !(x == ("__debug__" : Str)) && !(x == ("__classdict__" : Str))
def bopIs : BOp → Operator → Bool
  | .add, .Add => true | .sub, .Sub => true | .mul, .Mult => true | .fdiv, .FloorDiv => true | .mod, .Mod => true | .band, .BitAnd => true | .bor, .BitOr => true | .shr, .RShift => true | .shl, .LShift => true | .pow, .Pow => true
  | _, _ => false
theorem bopIs_eq {o : BOp} {op : Operator} (h : bopIs o op = true) : op = bopOf o := by cases o <;> cases op <;> first | rfl | cases h
def copIs : COp → CmpOp → Bool
  | .eq, .Eq => true | .ne, .NotEq => true | .lt, .Lt => true | .le, .LtE => true | .gt, .Gt => true | .ge, .GtE => true | .isN, .Is => true | .notN, .IsNot => true | .inn, .In => true | .nin, .NotIn => true
  | _, _ => false
theorem copIs_eq {o : COp} {op : CmpOp} (h : copIs o op = true) : op = copOf o := by cases o <;> cases op <;> first | rfl | cases h
def isYes : E → Bool
  | .yes => true
  | _ => false
def isRng : E → Bool
  | .rng1 _ => true
  | .rng2 _ _ => true
  | _ => false
/-- pairs are handed out: the target must be a tuple -/
def isPr : E → Bool
  | .enu _ => true
  | .zip _ _ => true
  | _ => false
def tyOk (x : Str) : Bool := tyNames.any fun c => decide (x = (c : Str))
def ckTys : List Str → Scope → List Expr → Bool
  | [], _, [] => true
  | t :: ts, sc, e :: es => (match xName e with
    | some x => decide (x = t) && gloB sc x && tyOk x
    | none => false) && ckTys ts sc es
  | _, _, _ => false
/-- target names -/
def ckNs (N : List Str) (sc : Scope) : List Nat → List Expr → Bool
  | [], [] => true
  | i :: is, e :: es => (match xName e with
    | some x => decide (N[i]? = some x) && locB sc x
    | none => false) && ckNs N sc is es
  | _, _ => false
def ckTg (N : List Str) (sc : Scope) (ts : List Nat) : Bool → Expr → Bool
  | false, e => ckNs N sc ts [e]
  | true, e => match xTup e with
    | some es => ckNs N sc ts es
    | none => false
def ownOf (N : List Str) (ts : List Nat) : List (Str × Nat) := ts.map fun i => (N.getD i "?", i)
mutual
def ckE (nm : Nms) (N : List Str) : E → Scope → Expr → Bool
  | .yes, _, _ => false
  | .var i, sc, ex => match xName ex with
    | some x => decide (N[i]? = some x) && visB sc x && nodb x
    | none => false
  | .int i, _, ex => match xConst ex with
    | some (.int j) => decide (i = j)
    | _ => false
  | .bl b, _, ex => match xConst ex with
    | some (.bool c) => decide (b = c)
    | _ => false
  | .non, _, ex => match xConst ex with
    | some .none => true
    | _ => false
  | .str x, _, ex => match xConst ex with
    | some (.str y) => decide (x = y) && PyData.strOk x
    | _ => false
  | .glob k, sc, ex => match xName ex with
    | some x => decide (nm.gl[k]? = some x) && gloB sc x && nodb x
    | none => false
  | .bin o a b, sc, ex => match xBin ex with
    | some (l, op, r) => bopIs o op && (ckE nm N a sc l && ckE nm N b sc r)
    | none => false
  | .neg a, sc, ex => match xUn ex with
    | some (.USub, l) => ckE nm N a sc l
    | _ => false
  | .not a, sc, ex => match xUn ex with
    | some (.Not, l) => ckE nm N a sc l
    | _ => false
  | .cmp o a b, sc, ex => match xCmp ex with
    | some (l, op, r) => copIs o op && (notSet r && (ckE nm N a sc l && ckE nm N b sc r))
    | none => false
  | .chn o p a b c, sc, ex => match xChn ex with
    | some (l, op, m, op', r) => (copIs o op && copIs p op') && (notSet r && (ckE nm N a sc l && (ckE nm N b sc m && ckE nm N c sc r)))
    | none => false
  | .and a b, sc, ex => match xAnd ex with
    | some (x, y, r, p) => ckE nm N a sc x && (match r with
      | [] => ckE nm N b sc y
      | z :: r => ckE nm N b sc (.BoolOp .And (y :: z :: r) p))
    | none => false
  | .or a b, sc, ex => match xOr ex with
    | some (x, y, r, p) => ckE nm N a sc x && (match r with
      | [] => ckE nm N b sc y
      | z :: r => ckE nm N b sc (.BoolOp .Or (y :: z :: r) p))
    | none => false
  | .ite c a b, sc, ex => match xIf ex with
    | some (t, x, y) => ckE nm N c sc t && (ckE nm N a sc x && ckE nm N b sc y)
    | none => false
  | .call f es, sc, ex => nm.q && match xCall ex with
    | some (x, args) => decide (nm.fn[f]? = some x) && (gloB sc x && (nodb x && ckEs nm N es sc args))
    | none => false
  | .make c es, sc, ex => nm.q && match xCall ex with
    | some (x, args) => decide (nm.cls[c]? = some x) && (gloB sc x && (nodb x && (!args.isEmpty && ckEs nm N es sc args)))
    | none => false
  | .meth o m es, sc, ex => nm.q && match xMeth ex with
    | some (ob, x, args, b) => decide (nm.mt[m]? = some x) && (noBase ob && (b && (decide (args.length < 30) && (ckE nm N o sc ob && ckEs nm N es sc args))))
    | none => false
  | .bf f es, sc, ex => (nm.q || f.cool) && match xCall ex with
    | some (x, args) => decide (f.nm = x) && (f.ok && (gloB sc x && (!args.isEmpty && ckEs nm N es sc args)))
    | none => false
  | .lrng tu a, sc, ex => nm.q && match xCall ex with
    | some (x, [r]) => decide (x = if tu = true then ("tuple" : Str) else "list") && (gloB sc x && (notStar r && (isRng a && ckE nm N a sc r)))
    | _ => false
  | .isi e tys many, sc, ex => match xCall ex with
    | some (x, [y, t]) => decide (x = ("isinstance" : Str)) && (gloB sc x && (notStar y && (decide (tys.length ≤ 100) && (ckE nm N e sc y && (if many = true then (match xTup t with
        | some es => ckTys tys sc es
        | none => false) else ckTys tys sc [t] && decide (tys.length = 1))))))
    | _ => false
  | .fld e f, sc, ex => match xAttr ex with
    | some (ob, x) => decide (nm.fld[f]? = some x) && (noBase ob && ckE nm N e sc ob)
    | none => false
  | .xf i f, sc, ex => !nm.q && match xAttr ex with
    | some (ob, x) => decide (nm.fld[f]? = some x) && (noBase ob && (match xName ob with
      | some y => decide (N[i]? = some y) && visB sc y && nodb y
      | none => false))
    | none => false
  | .isc e c, sc, ex => match xCall ex with
    | some (x, [y, t]) => decide (x = ("isinstance" : Str)) && (gloB sc x && (notStar y && (ckE nm N e sc y && (match xName t with
      | some z => decide (nm.cls[c]? = some z) && (gloB sc z && nodb z)
      | none => false))))
    | _ => false
  | .eqi m a b, sc, ex => nm.q && match xCmp ex with
    | some (l, op, r) => copIs .eq op && (decide (nm.mt[m]? = some ("__eq__" : Str)) && (ckE nm N a sc l && ckE nm N b sc r))
    | none => false
  | .ix a b, sc, ex => match xSub ex with
    | some (l, r) => notSlice r && (ckE nm N a sc l && ckE nm N b sc r)
    | none => false
  | .sl a lo hi, sc, ex => match xSl ex with
    | some (l, x, y) => ckE nm N a sc l && ((match x with
      | none => isYes lo
      | some x => ckE nm N lo sc x) && (match y with
      | none => isYes hi
      | some y => ckE nm N hi sc y))
    | none => false
  | .tup es, sc, ex => match xTup ex with
    | some xs => ckEs nm N es sc xs
    | none => false
  | .lst es, sc, ex => match xLst ex with
    | some xs => ckEs nm N es sc xs
    | none => false
  | .rng1 a, sc, ex => match xCall ex with
    | some (x, [l]) => decide (x = ("range" : Str)) && (gloB sc x && (notStar l && ckE nm N a sc l))
    | _ => false
  | .rng2 a b, sc, ex => match xCall ex with
    | some (x, [l, r]) => decide (x = ("range" : Str)) && (gloB sc x && (notStar l && (notStar r && (ckE nm N a sc l && ckE nm N b sc r))))
    | _ => false
  | .enu a, sc, ex => match xCall ex with
    | some (x, [l]) => decide (x = ("enumerate" : Str)) && (gloB sc x && (notStar l && ckE nm N a sc l))
    | _ => false
  | .zip a b, sc, ex => match xCall ex with
    | some (x, [l, r]) => decide (x = ("zip" : Str)) && (gloB sc x && (notStar l && (notStar r && (ckE nm N a sc l && ckE nm N b sc r))))
    | _ => false
  | .comp ts un src cond elt, sc, ex => nm.q && match xComp ex with
    | some (e, t, it, cs, s) => ckTg N s ts un t && (ckE nm N src sc it && ((!isPr src || un) && (notSet it && (blkC N sc s (ownOf N ts) && ((match cs with
      | [] => isYes cond
      | [c] => ckE nm N cond (relS s sc) c
      | _ => false) && ckE nm N elt (relS s sc) e)))))
    | none => false
def ckEs (nm : Nms) (N : List Str) : Es → Scope → List Expr → Bool
  | .nil, _, exs => exs.isEmpty
  | .cons e r, sc, exs => match exs with
    | [] => false
    | x :: xs => notStar x && (ckE nm N e sc x && ckEs nm N r sc xs)
end
/-! ### the context -/
def blts : List Str := ["len", "int", "bool", "list", "tuple", "abs", "max", "min", "sum", "sorted", "any", "all", "range", "repr", "str", "isinstance", "enumerate", "zip", "reversed"]
structure CtxD (nm : Nms) (ca : Ca) (G : Tab) (k : Nat) (N : List Str) (sc : Scope) (X : Cx) (Wx : WX) : Prop where
  hN : X.N = N
  hsc : X.env.scope = sc
  nd : N.Nodup
  un : X.A.units + 65 < cLine
  calm : nm.q = true → X.calm = true
  room : nm.q = true → Room k X.A
  lets : nm.q = true → Lets X Wx
  xx : nm.q = false → ∃ (X0 : Cx) (a : Addr) (oe : Obj) (cls : Value) (d : Option Addr) (pn : List (Addr × Obj)), X = X0.suite a ((a, oe) :: pn) ∧ Zc cls d oe ∧ (∃ vs, oe.data = .fields vs) ∧ ca.xc = some (a, cls, d)
  xfc : ∀ c ns, G.exc c = some ns → XfC X.K (ca c) ∧ ∀ f ∈ ns, PySem.W.findIn X.K (.ref (ca c)) (nm.fl f) = some none
  fn : nm.q = true → ∀ f n φ, G.fn f = some (n, φ) → ∃ x, nm.fn[f]? = some x ∧ FnE X ca nm.fl k x n φ
  mkr : nm.q = true → ∀ c n φ, G.mkr c = some (n, φ) → ∃ x, nm.cls[c]? = some x ∧ MkE X ca nm.fl k x c n φ
  mt : nm.q = true → ∀ c m n φ, G.mt c m = some (n, φ) → ∃ x, nm.mt[m]? = some x ∧ MtE X ca nm.fl k x c n φ
  cst : ∀ i d, G.cst i = some d → ∃ x v u, nm.gl[i]? = some x ∧ X.mg x = some u ∧ RelV v u ∧ ∀ (F : AP) (hd : Option Addr) (H : Hp), Den (cmX X ca nm.fl) F hd H v d
  bl : ∀ x ∈ blts, X.mg x = none
  isk : IsOk X.K ca G.isub G.icl
  icn : ∀ c, G.icl c = true → ∃ x, nm.cls[c]? = some x ∧ X.mg x = some (.ref (ca c))
section
variable {nm : Nms} {ca : Ca} {G : Tab} {k : Nat} {N : List Str} {sc : Scope} {X : Cx} {Wx : WX}
theorem CtxD.gl (C : CtxD nm ca G k N sc X Wx) {x : Str} (h : gloB sc x = true) : Gl X x := by
  show X.env.scope.names.lookup x = _
  rw [C.hsc]; exact glo_of h
theorem CtxD.vis (C : CtxD nm ca G k N sc X Wx) {x : Str} (h : visB sc x = true) : Vis X.env.scope x := by rw [C.hsc]; exact vis_of h
theorem nodb1 {x : Str} (h : nodb x = true) : (x == ("__debug__" : Str)) = false := by
  unfold nodb at h
  have := (Bool.and_eq_true_iff.mp h).1
  simpa using this
theorem nodb2 {x : Str} (h : nodb x = true) : (x == ("__classdict__" : Str)) = false := by
  unfold nodb at h
  have := (Bool.and_eq_true_iff.mp h).2
  simpa using this
/-- within a comprehension -/
theorem CtxD.blk (hq : nm.q = true) (C : CtxD nm ca G k N sc X Wx) (s : Shared) (H : Hp) (scope : Scope) (cl : List (Str × Addr)) (a : Addr) (fp : List Addr) : CtxD nm ca G k N (relS scope sc) (X.blk s H scope (compEnvC scope cl a X.env) fp) noW where
  hN := C.hN
  hsc := by
    have := C.hsc
    subst this
    rfl
  nd := C.nd
  un := C.un
  calm := C.calm
  room := C.room
  lets := fun _ => lets_no
  xx := fun z => by rw [hq] at z; cases z
  xfc := C.xfc
  fn := C.fn
  mkr := C.mkr
  mt := C.mt
  cst := C.cst
  bl := C.bl
  isk := C.isk
  icn := C.icn
/-- what is shown of a term -/
structure SE (X : Cx) (ca : Ca) (fl : Nat → Str) (G : Tab) (Wx : WX) (s : E) (ex : Expr) : Prop where
  pe : PE X ex (tV (cmX X ca fl) (se G s).v (fun ρ => cl (isOwn ρ) s) (fun ρ => cc (isOwn ρ) s) Wx)
  pt : PT X ex (tT (cmX X ca fl) (se G s).t Wx)
  pi : ∀ tg, (isPr s = true → ∃ es k p, tg = .Tuple es k p) → PI X tg ex (tI (cmX X ca fl) (se G s).i (fun ρ => cl (isOwn ρ) s) (fun ρ => cc (isOwn ρ) s) Wx)
  po : PO X (some ex) (tO (cmX X ca fl) (se G s).o Wx)
  pr : isRng s = true → PRi X (cmX X ca fl) Wx ex (se G s).i
/-- a plain value -/
theorem SE.val {s : E} {ex : Expr} {fl : Nat → Str} {v : Env → W D} (hs : se G s = seV v) (hr : isRng s = false) (he : PE X ex (tV (cmX X ca fl) v (fun ρ => cl (isOwn ρ) s) (fun ρ => cc (isOwn ρ) s) Wx)) (hp : PlT X ex) : SE X ca fl G Wx s ex where
  pe := by rw [hs]; exact he
  pt := by rw [hs]; exact pt_of he hp
  pi := fun tg _ => by rw [hs]; exact pi_of he
  po := by rw [hs]; exact n_po he
  pr := fun h => by rw [hr] at h; cases h
/-- a value with a test of its own -/
theorem SE.tst {s : E} {ex : Expr} {fl : Nat → Str} {v : Env → W D} {t : Env → W Bool} (hs : se G s = seT v t) (hr : isRng s = false) (he : PE X ex (tV (cmX X ca fl) v (fun ρ => cl (isOwn ρ) s) (fun ρ => cc (isOwn ρ) s) Wx)) (hp : PT X ex (tT (cmX X ca fl) t Wx)) : SE X ca fl G Wx s ex where
  pe := by rw [hs]; exact he
  pt := by rw [hs]; exact hp
  pi := fun tg _ => by rw [hs]; exact pi_of he
  po := by rw [hs]; exact n_po he
  pr := fun h => by rw [hr] at h; cases h
/-- what is only walked -/
theorem SE.itr {s : E} {ex : Expr} {fl : Nat → Str} {i : Env → W (List D)} (hs : se G s = seI i) (h1 : ∀ tg, (isPr s = true → ∃ es k p, tg = .Tuple es k p) → PI X tg ex (tI (cmX X ca fl) i (fun ρ => cl (isOwn ρ) s) (fun ρ => cc (isOwn ρ) s) Wx)) (h2 : isRng s = true → PRi X (cmX X ca fl) Wx ex i) : SE X ca fl G Wx s ex where
  pe := by
    rw [hs]
    exact ⟨fun _ _ _ _ _ _ h => by obtain ⟨_, _, _, _, _, _, q, _⟩ := h; exact False.elim q⟩
  pt := by
    rw [hs]
    exact ⟨fun _ _ _ _ _ _ h => by obtain ⟨_, _, _, _, _, _, q, _⟩ := h; exact False.elim q⟩
  pi := fun tg ht => by rw [hs]; exact h1 tg ht
  po := by
    rw [hs]
    exact ⟨fun _ _ _ _ _ _ h => by obtain ⟨_, _, _, _, _, _, q, _⟩ := h; exact False.elim q⟩
  pr := fun h => by rw [hs]; exact h2 h
end
end DV
/-! DV: whatever passes the look means what it says: terms. -/
namespace DV
open PySem PySem.Spec PyProof.Rows L2
section
variable {nm : Nms} {ca : Ca} {G : Tab} {k : Nat} {N : List Str} {sc : Scope} {X : Cx} {Wx : WX}
theorem notSet_mark {op : CmpOp} {e : Expr} (h : notSet e = true) : behindInMarks op e = false := by
  cases e <;> first | rfl | cases h
theorem fld_of {f : Nat} {x : Str} (h : nm.fld[f]? = some x) : nm.fl f = x := by
  unfold Nms.fl
  rw [List.getD_eq_getElem?_getD, h]
  rfl
theorem look2_ix : ∀ {ns : List Nat} {vs : List D} {f : Nat} {d : D}, look2 ns vs f = some d → ∃ j : Nat, ns[j]? = some f ∧ vs[j]? = some d
  | n :: ns, v :: vs, f, d, h => by
    unfold look2 at h
    by_cases z : f = n
    · rw [if_pos z] at h
      cases h
      exact ⟨0, by rw [z]; rfl, rfl⟩
    · rw [if_neg z] at h
      obtain ⟨j, h1, h2⟩ := look2_ix h
      exact ⟨j + 1, h1, h2⟩
  | [], _, _, _, h => by simp [look2] at h
  | _ :: _, [], _, _, h => by simp [look2] at h
/-- a field of the caught exception -/
theorem n_xf {i f : Nat} {y : Str} {p p2 : Pos} {cF kF : Env → Bool} (C : CtxD nm ca G k N sc X Wx) (hq : nm.q = false) (hN : N[i]? = some y) (hv : visB sc y = true) (hn : nodb y = true) (hb : noBase (.Name y p2) = true) :
    PE X (.Attribute (.Name y p2) (nm.fl f) p) (tV (cmX X ca nm.fl) (fun ρ => xfW G ρ i f) cF kF Wx) := by
  refine ⟨fun pins s σ H Q I h => ?_⟩
  obtain ⟨S, F, ρ, Qd, Ed, r, hq', lk, xk⟩ := h
  obtain ⟨X0, a, oe, cls, d, pn, rfl, hz, hvs, hxc⟩ := C.xx hq
  have key : ∃ c ns vs, ρ[i]? = some (some (.exc (.ins c ns vs))) ∧ G.exc c = some ns ∧ ∃ dv, look2 ns vs f = some dv ∧ Qd dv := by
    unfold xfW at hq'
    cases e : ρ[i]? with
    | none => rw [e] at hq'; exact hq'.elim
    | some o =>
      cases o with
      | none => rw [e] at hq'; exact hq'.elim
      | some sl =>
        cases sl with
        | exc x =>
          cases x with
          | ins c ns vs =>
            rw [e] at hq'
            obtain ⟨g1, g2⟩ := hq'
            cases hl : look2 ns vs f with
            | none => rw [hl] at g2; exact g2.elim
            | some dv => rw [hl] at g2; exact ⟨c, ns, vs, rfl, g1, dv, hl, g2⟩
          | _ => rw [e] at hq'; exact hq'.elim
        | _ => rw [e] at hq'; exact hq'.elim
  obtain ⟨c, ns, vs, e, g1, dv, hl, g2⟩ := key
  obtain ⟨v, hv1, a', cls', dd, e1, e2, e3⟩ := r.sl i _ e
  have e1 : ca.xc = some (a', cls', dd) := e1
  rw [hxc] at e1
  cases e1
  obtain ⟨c', ns', vs', ds', x1, x2, x3, x4, x5⟩ := e3
  cases x1
  obtain ⟨j, j1, j2⟩ := look2_ix hl
  obtain ⟨w, w1, w2⟩ := x3.get' j2
  obtain ⟨t1, t2⟩ := C.xfc c ns g1
  refine (pe_xf (C := ca c) t1 (t2 f (List.mem_of_getElem? j1)) hz hvs (pe_var (by rw [C.hN]; exact hN) (C.vis hv) (nodb1 hn) (nodb2 hn)) (base_of hb)).run pins s σ H Q I ?_
  refine ⟨.ref a, by rw [hv1, e2], rfl, x2, ?_⟩
  rcases x5 with ⟨z, _⟩ | ⟨d', fs, y1, y2, y3⟩
  · rw [z] at j1; simp at j1
  · exact ⟨d', fs, w, y1, y2, y3 j f w j1 w1, lk.bare r.wf g2 w2⟩
/-- a list of terms -/
structure SEs (X : Cx) (ca : Ca) (fl : Nat → Str) (G : Tab) (Wx : WX) (s : Es) (exs : List Expr) : Prop where
  ex : ∃ t : TA, PA X exs t ∧ AR (cmX X ca fl) Wx s (ses G s) t ∧ (exs = [] → t = tNil) ∧ exs.all notStar = true
theorem ckNs_tg {sc : Scope} (hnd : X.N.Nodup) (hl : ∀ x, locB sc x = true → Loc X.env.scope x ∧ (X.fn x = true ∨ X.env.scope.names.lookup x = some .local)) : ∀ (ts : List Nat) (es : List Expr), ckNs X.N sc ts es = true →
    PGs X es (gNames ts) ∧ es.length = ts.length ∧ (assignEach es X.env).length = ts.length ∧ (assignEach es X.env).findIdx? (·.1) = none
  | [], [], _ => ⟨pgs_nil, rfl, rfl, rfl⟩
  | [], _ :: _, h => by cases h
  | _ :: _, [], h => by cases h
  | t :: ts, e :: es, h => by
    unfold ckNs at h
    have h' := Bool.and_eq_true_iff.mp h
    obtain ⟨g1, g2, g3, g4⟩ := ckNs_tg hnd hl ts es h'.2
    cases hx : xName e with
    | none => rw [hx] at h'; cases h'.1
    | some x =>
      rw [hx] at h'
      have q := Bool.and_eq_true_iff.mp h'.1
      obtain ⟨p, rfl⟩ := xName_eq hx
      obtain ⟨l1, l2⟩ := hl x q.2
      refine ⟨pgs_cons (pg_name hnd (of_decide_eq_true q.1) l1 l2) g1, by simp [g2], ?_, ?_⟩
      · show (assignEach es X.env).length + 1 = ts.length + 1
        rw [g3]
      · have e1 : assignEach (.Name x p :: es) X.env = (false, assign (.Name x p) X.env) :: assignEach es X.env := rfl
        rw [e1, List.findIdx?_cons]
        simp [g4]
theorem ckTg_g {sc : Scope} {cm : Cm} (hK : cm.K = X.K) (hnd : X.N.Nodup) (hl : ∀ x, locB sc x = true → Loc X.env.scope x ∧ (X.fn x = true ∨ X.env.scope.names.lookup x = some .local)) (hc : X.calm = true) {ts : List Nat} {un : Bool} {e : Expr} (h : ckTg X.N sc ts un e = true) :
    PG X e (if un = true then gTup cm.K ts.length (gNames ts) else gName (ts.headD 0)) := by
  cases un with
  | true =>
    have h : (match xTup e with
      | some es => ckNs X.N sc ts es
      | none => false) = true := h
    cases hx : xTup e with
    | none => rw [hx] at h; cases h
    | some es =>
      rw [hx] at h
      obtain ⟨kk, p, rfl⟩ := xTup_eq hx
      obtain ⟨g1, g2, g3, g4⟩ := ckNs_tg hnd hl ts es h
      show PG X _ (gTup cm.K ts.length (gNames ts))
      rw [hK]
      exact pg_tup hc g1 g3 g4
  | false =>
    have h : ckNs X.N sc ts [e] = true := h
    match ts, h with
    | [t], h =>
      unfold ckNs at h
      have h' := Bool.and_eq_true_iff.mp h
      cases hx : xName e with
      | none => rw [hx] at h'; cases h'.1
      | some x =>
        rw [hx] at h'
        have q := Bool.and_eq_true_iff.mp h'.1
        obtain ⟨p, rfl⟩ := xName_eq hx
        obtain ⟨l1, l2⟩ := hl x q.2
        exact pg_name hnd (of_decide_eq_true q.1) l1 l2
    | [], h => cases h
    | t :: t2 :: r, h =>
      unfold ckNs at h
      have h' := Bool.and_eq_true_iff.mp h
      unfold ckNs at h'
      cases h'.2
theorem ckTg_p {sc : Scope} {cm : Cm} {ts : List Nat} {un : Bool} {e : Expr} (h : ckTg N sc ts un e = true) : TgP cm ts un (if un = true then gTup cm.K ts.length (gNames ts) else gName (ts.headD 0)) := by
  cases un with
  | true => exact tg_tup
  | false =>
    have h : ckNs N sc ts [e] = true := h
    match ts, h with
    | [t], h => exact tg_one
    | [], h => cases h
    | t :: t2 :: r, h =>
      unfold ckNs at h
      have h' := Bool.and_eq_true_iff.mp h
      unfold ckNs at h'
      cases h'.2
theorem ckTg_tup {sc : Scope} {ts : List Nat} {e : Expr} (h : ckTg N sc ts true e = true) : ∃ es k p, e = .Tuple es k p := by
  have h : (match xTup e with
    | some es => ckNs N sc ts es
    | none => false) = true := h
  cases hx : xTup e with
  | none => rw [hx] at h; cases h
  | some es =>
    obtain ⟨kk, p, rfl⟩ := xTup_eq hx
    exact ⟨_, _, _, rfl⟩
theorem blk_loc {scope : Scope} {x : Str} {s : Shared} {H : Hp} {cl : List (Str × Addr)} {a : Addr} {fp : List Addr} (h : locB scope x = true) :
    Loc (X.blk s H scope (compEnvC scope cl a X.env) fp).env.scope x ∧ ((X.blk s H scope (compEnvC scope cl a X.env) fp).fn x = true ∨ (X.blk s H scope (compEnvC scope cl a X.env) fp).env.scope.names.lookup x = some .local) := by
  rcases loc_of h with h | h
  · have := lookup_relS_keep (sc := X.env.scope) (k := .local) (by decide) h
    exact ⟨.inl this, .inr this⟩
  · have := lookup_relS_keep (sc := X.env.scope) (k := .cell) (by decide) h
    refine ⟨.inr this, .inl ?_⟩
    show (scope.names.lookup x == some .cell) = true
    rw [h]; rfl
theorem def_loc (C : CtxD nm ca G k N sc X Wx) (hf : ∀ x, X.fn x = true) {x : Str} (h : locB sc x = true) : Loc X.env.scope x ∧ (X.fn x = true ∨ X.env.scope.names.lookup x = some .local) := by
  rw [C.hsc]
  exact ⟨loc_of h, .inl (hf x)⟩
theorem ckTys_of : ∀ {ts : List Str} {es : List Expr}, ckTys ts sc es = true → CtxD nm ca G k N sc X Wx → ∃ cs : List String, ts = cs.map Str.ofString ∧ (∀ c ∈ cs, c ∈ tyNames) ∧ es.length = cs.length ∧
    ∀ (i : Nat) (c : String) (e : Expr), cs[i]? = some c → es[i]? = some e → ∃ x q, e = .Name x q ∧ x = (c : Str) ∧ Gl X x ∧ X.mg x = none
  | [], [], _, _ => ⟨[], rfl, by simp, rfl, by simp⟩
  | [], _ :: _, h, _ => by cases h
  | _ :: _, [], h, _ => by cases h
  | t :: ts, e :: es, h, C => by
    unfold ckTys at h
    have h' := Bool.and_eq_true_iff.mp h
    obtain ⟨cs, g1, g2, g3, g4⟩ := ckTys_of h'.2 C
    cases hx : xName e with
    | none => rw [hx] at h'; cases h'.1
    | some x =>
      rw [hx] at h'
      have q1 := Bool.and_eq_true_iff.mp h'.1
      have q2 := Bool.and_eq_true_iff.mp q1.1
      obtain ⟨p, rfl⟩ := xName_eq hx
      have et : x = t := of_decide_eq_true q2.1
      obtain ⟨c, hc, he⟩ := List.any_eq_true.mp q1.2
      have he : x = (c : Str) := of_decide_eq_true he
      have hb : ∀ c ∈ tyNames, (c : Str) ∈ blts := by decide +kernel
      refine ⟨c :: cs, by rw [List.map_cons, ← g1, ← he, et], ?_, by simp [g3], ?_⟩
      · intro c' hc'
        rcases List.mem_cons.mp hc' with rfl | hc'
        · exact hc
        · exact g2 c' hc'
      · intro i c' e' h1 h2
        cases i with
        | zero =>
          simp at h1 h2
          subst h1 h2
          exact ⟨x, p, rfl, he, C.gl q2.2, by rw [he]; exact C.bl _ (hb c hc)⟩
        | succ i => exact g4 i c' e' (by simpa using h1) (by simpa using h2)
theorem bf_in (f : BF) (h : f.ok = true) : f.nm ∈ blts := by cases f <;> first | decide +kernel | cases h
mutual
theorem sndE (hcm : True) : ∀ (s : E) (sc : Scope) (ex : Expr), ckE nm N s sc ex = true → ∀ (X : Cx) (Wx : WX), CtxD nm ca G k N sc X Wx → SE X ca nm.fl G Wx s ex
  | .yes, sc, ex, h, X, Wx, C => by unfold ckE at h; cases h
  | .var i, sc, ex, h, X, Wx, C => by
    unfold ckE at h
    split at h
    · rename_i x hx
      obtain ⟨p, rfl⟩ := xName_eq hx
      simp only [Bool.and_eq_true, decide_eq_true_eq] at h
      exact .val rfl rfl (n_var (by rw [C.hN]; exact h.1.1) (C.vis h.1.2) (nodb1 h.2) (nodb2 h.2)) fun _ => rfl
    · cases h
  | .int i, sc, ex, h, X, Wx, C => by
    unfold ckE at h
    split at h
    · rename_i j hx
      obtain ⟨_, p, rfl⟩ := xConst_eq hx
      cases of_decide_eq_true h
      exact .val rfl rfl n_int fun _ => rfl
    · cases h
  | .bl b, sc, ex, h, X, Wx, C => by
    unfold ckE at h
    split at h
    · rename_i j hx
      obtain ⟨_, p, rfl⟩ := xConst_eq hx
      cases of_decide_eq_true h
      exact .val rfl rfl n_bl fun _ => rfl
    · cases h
  | .non, sc, ex, h, X, Wx, C => by
    unfold ckE at h
    split at h
    · rename_i hx
      obtain ⟨_, p, rfl⟩ := xConst_eq hx
      exact .val rfl rfl n_non fun _ => rfl
    · cases h
  | .str x, sc, ex, h, X, Wx, C => by
    unfold ckE at h
    split at h
    · rename_i y hx
      obtain ⟨_, p, rfl⟩ := xConst_eq hx
      simp only [Bool.and_eq_true, decide_eq_true_eq] at h
      cases h.1
      exact .val rfl rfl (n_str h.2) fun _ => rfl
    · cases h
  | .glob i, sc, ex, h, X, Wx, C => by
    unfold ckE at h
    split at h
    · rename_i x hx
      obtain ⟨p, rfl⟩ := xName_eq hx
      simp only [Bool.and_eq_true, decide_eq_true_eq] at h
      refine .val (v := fun _ => cstW (G.cst i)) rfl rfl ?_ fun _ => rfl
      cases hd : G.cst i with
      | none => exact ⟨fun _ _ _ _ _ _ h => by obtain ⟨_, _, _, _, _, _, q, _⟩ := h; exact False.elim q⟩
      | some d =>
        obtain ⟨x', v, u, e1, e2, e3, e4⟩ := C.cst i d hd
        rw [h.1.1] at e1
        cases e1
        exact n_glob (C.gl h.1.2) e2 e3 (nodb1 h.2) fun d' hd' => by cases hd'; exact e4
    · cases h
  | .bin o a b, sc, ex, h, X, Wx, C => by
    unfold ckE at h
    split at h
    · rename_i l op r hx
      obtain ⟨p, rfl⟩ := xBin_eq hx
      simp only [Bool.and_eq_true] at h
      cases bopIs_eq h.1
      exact .val rfl rfl (n_bin (binR_all o) (sndE hcm a sc l h.2.1 X Wx C).pe (sndE hcm b sc r h.2.2 X Wx C).pe) fun _ => rfl
    · cases h
  | .neg a, sc, ex, h, X, Wx, C => by
    unfold ckE at h
    split at h
    · rename_i l hx
      obtain ⟨p, rfl⟩ := xUn_eq hx
      exact .val rfl rfl (n_neg (sndE hcm a sc l h X Wx C).pe) fun _ => rfl
    · cases h
  | .not a, sc, ex, h, X, Wx, C => by
    unfold ckE at h
    split at h
    · rename_i l hx
      obtain ⟨p, rfl⟩ := xUn_eq hx
      exact .tst rfl rfl (n_not (sndE hcm a sc l h X Wx C).pe) (n_notT (sndE hcm a sc l h X Wx C).pt)
    · cases h
  | .cmp o a b, sc, ex, h, X, Wx, C => by
    unfold ckE at h
    split at h
    · rename_i l op r hx
      obtain ⟨p, rfl⟩ := xCmp_eq hx
      simp only [Bool.and_eq_true] at h
      cases copIs_eq h.1
      have hu : X.A.units + 65 < cLine := C.un
      exact .tst rfl rfl (n_cmp (cmpR_all hu o) (notSet_mark h.2.1) (sndE hcm a sc l h.2.2.1 X Wx C).pe (sndE hcm b sc r h.2.2.2 X Wx C).pe) (n_cmpT (cmpR_all hu o) (notSet_mark h.2.1) (sndE hcm a sc l h.2.2.1 X Wx C).pe (sndE hcm b sc r h.2.2.2 X Wx C).pe)
    · cases h
  | .chn o q a b c, sc, ex, h, X, Wx, C => by
    unfold ckE at h
    split at h
    · rename_i l op m op' r hx
      obtain ⟨p, rfl⟩ := xChn_eq hx
      simp only [Bool.and_eq_true] at h
      cases copIs_eq h.1.1
      cases copIs_eq h.1.2
      have hu : X.A.units + 65 < cLine := C.un
      have hm : lastMarks [copOf o, copOf q] [m, r] = false := notSet_mark h.2.1
      exact .tst rfl rfl (n_chn (cmpR_all hu o) (cmpR_all hu q) hm (sndE hcm a sc l h.2.2.1 X Wx C).pe (sndE hcm b sc m h.2.2.2.1 X Wx C).pe (sndE hcm c sc r h.2.2.2.2 X Wx C).pe)
        (n_chnT (cmpR_all hu o) (cmpR_all hu q) hm (sndE hcm a sc l h.2.2.1 X Wx C).pe (sndE hcm b sc m h.2.2.2.1 X Wx C).pe (sndE hcm c sc r h.2.2.2.2 X Wx C).pe)
    · cases h
  | .and a b, sc, ex, h, X, Wx, C => by
    unfold ckE at h
    split at h
    · rename_i x y r p hx
      cases xAnd_eq hx
      have h' := Bool.and_eq_true_iff.mp h
      have ha := sndE hcm a sc x h'.1 X Wx C
      have hb : PE X (.BoolOp .And (y :: r) p) (tV (cmX X ca nm.fl) (se G b).v (fun ρ => cl (isOwn ρ) b) (fun ρ => cc (isOwn ρ) b) Wx) ∧ PW X (.BoolOp .And (y :: r) p) (tT (cmX X ca nm.fl) (se G b).t Wx) := by
        cases r with
        | nil =>
          have q := sndE hcm b sc y h'.2 X Wx C
          exact ⟨pe_one q.pe, pw_and1 q.pt⟩
        | cons z r =>
          have q := sndE hcm b sc _ h'.2 X Wx C
          exact ⟨q.pe, ⟨fun whole => q.pt.run⟩⟩
      refine .tst (v := fun ρ => bnd ((se G a).v ρ) fun x => bnd (truW x) fun t => if t = true then (se G b).v ρ else ret x) (t := fun ρ => bnd ((se G a).t ρ) fun t => if t = true then (se G b).t ρ else ret false) rfl rfl ?_ (PW.pt (n_andT ha.pt hb.2))
      exact n_and ha.pe hb.1 (fun ρ z => (Bool.and_eq_true_iff.mp (show (cl (isOwn ρ) a && cl (isOwn ρ) b) = true from z)).1) (fun ρ z => (Bool.and_eq_true_iff.mp (show (cl (isOwn ρ) a && cl (isOwn ρ) b) = true from z)).2) (fun ρ z => z)
    · cases h
  | .or a b, sc, ex, h, X, Wx, C => by
    unfold ckE at h
    split at h
    · rename_i x y r p hx
      cases xOr_eq hx
      have h' := Bool.and_eq_true_iff.mp h
      have ha := sndE hcm a sc x h'.1 X Wx C
      have hb : PE X (.BoolOp .Or (y :: r) p) (tV (cmX X ca nm.fl) (se G b).v (fun ρ => cl (isOwn ρ) b) (fun ρ => cc (isOwn ρ) b) Wx) ∧ PW X (.BoolOp .Or (y :: r) p) (tT (cmX X ca nm.fl) (se G b).t Wx) := by
        cases r with
        | nil =>
          have q := sndE hcm b sc y h'.2 X Wx C
          exact ⟨pe_one q.pe, pw_or1 q.pt⟩
        | cons z r =>
          have q := sndE hcm b sc _ h'.2 X Wx C
          exact ⟨q.pe, ⟨fun whole => q.pt.run⟩⟩
      refine .tst (v := fun ρ => bnd ((se G a).v ρ) fun x => bnd (truW x) fun t => if t = true then ret x else (se G b).v ρ) (t := fun ρ => bnd ((se G a).t ρ) fun t => if t = true then ret true else (se G b).t ρ) rfl rfl ?_ (PW.pt (n_orT ha.pt hb.2))
      exact n_or ha.pe hb.1 (fun ρ z => (Bool.and_eq_true_iff.mp (show (cl (isOwn ρ) a && cl (isOwn ρ) b) = true from z)).1) (fun ρ z => (Bool.and_eq_true_iff.mp (show (cl (isOwn ρ) a && cl (isOwn ρ) b) = true from z)).2) (fun ρ z => z)
    · cases h
  | .ite c a b, sc, ex, h, X, Wx, C => by
    unfold ckE at h
    split at h
    · rename_i t x y hx
      obtain ⟨p, rfl⟩ := xIf_eq hx
      simp only [Bool.and_eq_true] at h
      have hc := sndE hcm c sc t h.1 X Wx C
      have ha := sndE hcm a sc x h.2.1 X Wx C
      have hb := sndE hcm b sc y h.2.2 X Wx C
      refine .tst (v := fun ρ => bnd ((se G c).t ρ) fun t => if t = true then (se G a).v ρ else (se G b).v ρ) (t := fun ρ => bnd ((se G c).t ρ) fun t => if t = true then (se G a).t ρ else (se G b).t ρ) rfl rfl ?_ (n_iteT hc.pt ha.pt hb.pt)
      exact n_ite hc.pt ha.pe hb.pe (fun ρ z => (Bool.and_eq_true_iff.mp (show (cl (isOwn ρ) a && cl (isOwn ρ) b) = true from z)).1) (fun ρ z => (Bool.and_eq_true_iff.mp (show (cl (isOwn ρ) a && cl (isOwn ρ) b) = true from z)).2) (fun ρ z => z)
    · cases h
  | .call f es, sc, ex, h, X, Wx, C => by
    unfold ckE at h
    have hq := (Bool.and_eq_true_iff.mp h).1
    replace h := (Bool.and_eq_true_iff.mp h).2
    split at h
    · rename_i x args hx
      obtain ⟨p, q, rfl⟩ := xCall_eq hx
      simp only [Bool.and_eq_true, decide_eq_true_eq] at h
      obtain ⟨h1, h2, h3, h4⟩ := h
      refine .val (v := fun ρ => fnW (G.fn f) (ses G es ρ) (cls (isOwn ρ) es)) rfl rfl ?_ fun _ => rfl
      cases hf : G.fn f with
      | none => exact ⟨fun _ _ _ _ _ _ h => by obtain ⟨_, _, _, _, _, _, q, _⟩ := h; exact False.elim q⟩
      | some nφ =>
        obtain ⟨n, φ⟩ := nφ
        obtain ⟨x', e1, F⟩ := C.fn hq f n φ hf
        rw [h1] at e1
        cases e1
        obtain ⟨t, ht, ha, h0, hst⟩ := (sndEs hcm es sc args h4 X Wx C).ex
        cases args with
        | nil =>
          cases es with
          | nil => exact n_call0 F (C.room hq) (C.lets hq) (C.gl h2) (nodb1 h3)
          | cons _ _ => unfold ckEs at h4; cases h4
        | cons e args => exact n_call F (C.room hq) (C.lets hq) (C.gl h2) (nodb1 h3) hst ht ha
    · cases h
  | .make c es, sc, ex, h, X, Wx, C => by
    unfold ckE at h
    have hq := (Bool.and_eq_true_iff.mp h).1
    replace h := (Bool.and_eq_true_iff.mp h).2
    split at h
    · rename_i x args hx
      obtain ⟨p, q, rfl⟩ := xCall_eq hx
      simp only [Bool.and_eq_true, decide_eq_true_eq] at h
      obtain ⟨h1, h2, h3, h5, h4⟩ := h
      refine .val (v := fun ρ => fnW (G.mkr c) (ses G es ρ) (cls (isOwn ρ) es)) rfl rfl ?_ fun _ => rfl
      cases hf : G.mkr c with
      | none => exact ⟨fun _ _ _ _ _ _ h => by obtain ⟨_, _, _, _, _, _, q, _⟩ := h; exact False.elim q⟩
      | some nφ =>
        obtain ⟨n, φ⟩ := nφ
        obtain ⟨x', e1, F⟩ := C.mkr hq c n φ hf
        rw [h1] at e1
        cases e1
        obtain ⟨t, ht, ha, h0, hst⟩ := (sndEs hcm es sc args h4 X Wx C).ex
        cases args with
        | nil => cases h5
        | cons e args => exact n_make F (C.room hq) (C.lets hq) (C.gl h2) (nodb1 h3) hst ht ha
    · cases h
  | .meth o m es, sc, ex, h, X, Wx, C => by
    unfold ckE at h
    have hq := (Bool.and_eq_true_iff.mp h).1
    replace h := (Bool.and_eq_true_iff.mp h).2
    split at h
    · rename_i ob x args b hx
      obtain ⟨ap, q, rfl, hb⟩ := xMeth_eq hx
      simp only [Bool.and_eq_true, decide_eq_true_eq] at h
      obtain ⟨h1, h2, h3, h4, h5, h6⟩ := h
      obtain ⟨t, ht, ha, h0, hst⟩ := (sndEs hcm es sc args h6 X Wx C).ex
      refine .val (v := fun ρ => bnd ((se G o).v ρ) fun x => methW (mtE G.mt m x) (ses G es ρ) (cl (isOwn ρ) o && cls (isOwn ρ) es) x) rfl rfl ?_ fun _ => rfl
      refine n_meth (k := k) (fun c n φ e => ?_) (C.room hq) (C.lets hq) h2 (by rw [hb]; exact h3) hst h4 (sndE hcm o sc ob h5 X Wx C).pe ht h0 ha
      obtain ⟨x', e1, F⟩ := C.mt hq c m n φ e
      rw [h1] at e1
      cases e1
      exact F
    · cases h
  | .bf f es, sc, ex, h, X, Wx, C => by
    unfold ckE at h
    have hq := (Bool.and_eq_true_iff.mp h).1
    replace h := (Bool.and_eq_true_iff.mp h).2
    split at h
    · rename_i x args hx
      obtain ⟨p, q, rfl⟩ := xCall_eq hx
      simp only [Bool.and_eq_true, decide_eq_true_eq] at h
      obtain ⟨h1, h2, h3, h5, h4⟩ := h
      subst h1
      obtain ⟨t, ht, ha, h0, hst⟩ := (sndEs hcm es sc args h4 X Wx C).ex
      cases args with
      | nil => cases h5
      | cons e args => exact .val rfl rfl (n_bf h2 (fun z => C.calm (by rw [z, Bool.or_false] at hq; exact hq)) (C.gl h3) (C.bl _ (bf_in f h2)) hst ht ha) fun _ => rfl
    · cases h
  | .lrng tu a, sc, ex, h, X, Wx, C => by
    unfold ckE at h
    have hq := (Bool.and_eq_true_iff.mp h).1
    replace h := (Bool.and_eq_true_iff.mp h).2
    split at h
    · rename_i x r hx
      obtain ⟨p, q, rfl⟩ := xCall_eq hx
      simp only [Bool.and_eq_true, decide_eq_true_eq] at h
      obtain ⟨h1, h2, h3, h5, h4⟩ := h
      have hr := (sndE hcm a sc r h4 X Wx C).pr h5
      cases tu with
      | true =>
        have h1 : x = ("tuple" : Str) := h1
        subst h1
        exact .val rfl rfl (n_lrngT (C.calm hq) (C.gl h2) (C.bl _ (by decide +kernel)) h3 hr) fun _ => rfl
      | false =>
        have h1 : x = ("list" : Str) := h1
        subst h1
        exact .val rfl rfl (n_lrngL (C.calm hq) (C.gl h2) (C.bl _ (by decide +kernel)) h3 hr) fun _ => rfl
    · cases h
  | .isi e tys many, sc, ex, h, X, Wx, C => by
    unfold ckE at h
    split at h
    · rename_i x y t hx
      obtain ⟨p, q, rfl⟩ := xCall_eq hx
      simp only [Bool.and_eq_true, decide_eq_true_eq] at h
      obtain ⟨h1, h2, h3, h4, h5, h6⟩ := h
      subst h1
      have he := sndE hcm e sc y h5 X Wx C
      have hbi : X.mg ("isinstance" : Str) = none := C.bl _ (by decide +kernel)
      refine .val (v := fun ρ => bnd ((se G e).v ρ) fun x => isiW x tys) rfl rfl ?_ fun _ => rfl
      cases many with
      | true =>
        have h6 : (match xTup t with
          | some es => ckTys tys sc es
          | none => false) = true := h6
        cases ht : xTup t with
        | none => rw [ht] at h6; cases h6
        | some es =>
          rw [ht] at h6
          obtain ⟨kk, tp, rfl⟩ := xTup_eq ht
          obtain ⟨cs, g1, g2, g3, g4⟩ := ckTys_of h6 C
          refine n_isiT g1 g2 g3 (C.gl h2) hbi ?_ g4 h3 he.pe
          rw [g1, List.length_map] at h4
          exact h4
      | false =>
        have h6 : (ckTys tys sc [t] && decide (tys.length = 1)) = true := h6
        simp only [Bool.and_eq_true, decide_eq_true_eq] at h6
        obtain ⟨cs, g1, g2, g3, g4⟩ := ckTys_of h6.1 C
        match cs, g1, g2, g3, g4 with
        | [c], g1, g2, g3, g4 =>
          obtain ⟨z, q', e1, e2, e3, e4⟩ := g4 0 c t rfl rfl
          subst e1
          have g1 : tys = [(c : Str)] := g1
          rw [g1, ← e2]
          exact n_isi1 (sE := e) e2 (g2 c (by simp)) (C.gl h2) hbi e3 e4 h3 he.pe
        | [], g1, g2, g3, g4 => simp at g3
        | _ :: _ :: _, g1, g2, g3, g4 => simp at g3
    · cases h
  | .fld e f, sc, ex, h, X, Wx, C => by
    unfold ckE at h
    split at h
    · rename_i ob x hx
      obtain ⟨p, rfl⟩ := xAttr_eq hx
      simp only [Bool.and_eq_true, decide_eq_true_eq] at h
      cases fld_of h.1
      exact .val rfl rfl (n_fld h.2.1 (sndE hcm e sc ob h.2.2 X Wx C).pe) fun _ => rfl
    · cases h
  | .xf i f, sc, ex, h, X, Wx, C => by
    unfold ckE at h
    have hq := (Bool.and_eq_true_iff.mp h).1
    replace h := (Bool.and_eq_true_iff.mp h).2
    split at h
    · rename_i ob x hx
      obtain ⟨p, rfl⟩ := xAttr_eq hx
      have h1 := of_decide_eq_true (Bool.and_eq_true_iff.mp h).1
      replace h := (Bool.and_eq_true_iff.mp h).2
      have h2 := (Bool.and_eq_true_iff.mp h).1
      replace h := (Bool.and_eq_true_iff.mp h).2
      cases hy : xName ob with
      | none => rw [hy] at h; cases h
      | some y =>
        rw [hy] at h
        obtain ⟨p2, rfl⟩ := xName_eq hy
        simp only [Bool.and_eq_true, decide_eq_true_eq] at h
        cases fld_of h1
        exact .val (v := fun ρ => xfW G ρ i f) rfl rfl (n_xf C (by simpa using hq) h.1.1 h.1.2 h.2 h2) fun _ => rfl
    · cases h
  | .isc e c, sc, ex, h, X, Wx, C => by
    unfold ckE at h
    split at h
    · rename_i x y t hx
      obtain ⟨p, q, rfl⟩ := xCall_eq hx
      have h1 := of_decide_eq_true (Bool.and_eq_true_iff.mp h).1
      replace h := (Bool.and_eq_true_iff.mp h).2
      have h2 := (Bool.and_eq_true_iff.mp h).1
      replace h := (Bool.and_eq_true_iff.mp h).2
      have h3 := (Bool.and_eq_true_iff.mp h).1
      replace h := (Bool.and_eq_true_iff.mp h).2
      have h4 := (Bool.and_eq_true_iff.mp h).1
      replace h := (Bool.and_eq_true_iff.mp h).2
      subst h1
      have he := sndE hcm e sc y h4 X Wx C
      refine .val (v := fun ρ => req (G.icl c = true) (bnd ((se G e).v ρ) fun x => bnd (iscW G.isub G.icl c x) fun t => ret (.bl t))) rfl rfl ?_ fun _ => rfl
      cases hz : xName t with
      | none => rw [hz] at h; cases h
      | some z =>
        rw [hz] at h
        obtain ⟨p3, rfl⟩ := xName_eq hz
        simp only [Bool.and_eq_true, decide_eq_true_eq] at h
        by_cases ic : G.icl c = true
        · obtain ⟨x', e1, e2⟩ := C.icn c ic
          rw [h.1] at e1
          cases e1
          have g := n_isc (cF := fun ρ => cl (isOwn ρ) (.isc e c)) (kF := fun ρ => cc (isOwn ρ) (.isc e c)) (cp := p3) (ip := p) (pos := q) C.isk (C.gl h2) (C.bl _ (by decide +kernel)) (C.gl h.2.1) e2 (nodb1 h.2.2) h3 he.pe
          refine ⟨fun pins s σ H Q I hh => g.run pins s σ H Q I ?_⟩
          obtain ⟨S, F, ρ, Qd, Ed, r, hw, lk, xk⟩ := hh
          exact ⟨S, F, ρ, Qd, Ed, r, hw.2, lk, xk⟩
        · exact ⟨fun _ _ _ _ _ _ h => by obtain ⟨_, _, _, _, _, _, q, _⟩ := h; exact absurd q.1 ic⟩
    · cases h
  | .eqi m a b, sc, ex, h, X, Wx, C => by
    unfold ckE at h
    have hq := (Bool.and_eq_true_iff.mp h).1
    replace h := (Bool.and_eq_true_iff.mp h).2
    split at h
    · rename_i l op r hx
      obtain ⟨p, rfl⟩ := xCmp_eq hx
      simp only [Bool.and_eq_true, decide_eq_true_eq] at h
      obtain ⟨h1, h2, h3, h4⟩ := h
      cases copIs_eq h1
      have hM : ∀ c n φ, G.mt c m = some (n, φ) → MtE X ca nm.fl k "__eq__" c n φ := fun c n φ e => by
        obtain ⟨x', e1, F⟩ := C.mt hq c m n φ e
        rw [h2] at e1
        cases e1
        exact F
      exact .tst rfl rfl (n_eqi C.isk hM (C.room hq) (C.lets hq) (sndE hcm a sc l h3 X Wx C).pe (sndE hcm b sc r h4 X Wx C).pe) (n_eqiT C.isk hM (C.room hq) (C.lets hq) (sndE hcm a sc l h3 X Wx C).pe (sndE hcm b sc r h4 X Wx C).pe)
    · cases h
  | .ix a b, sc, ex, h, X, Wx, C => by
    unfold ckE at h
    split at h
    · rename_i l r hx
      obtain ⟨p, rfl⟩ := xSub_eq hx
      simp only [Bool.and_eq_true] at h
      exact .val rfl rfl (n_ix h.1 (sndE hcm a sc l h.2.1 X Wx C).pe (sndE hcm b sc r h.2.2 X Wx C).pe) fun _ => rfl
    · cases h
  | .sl a lo hi, sc, ex, h, X, Wx, C => by
    unfold ckE at h
    split at h
    · rename_i l x y hx
      obtain ⟨p, q, rfl⟩ := xSl_eq hx
      simp only [Bool.and_eq_true] at h
      obtain ⟨h1, h2, h3⟩ := h
      have hl : PO X x (tO (cmX X ca nm.fl) (se G lo).o Wx) := by
        cases x with
        | none =>
          cases lo with
          | yes => exact n_po0
          | _ => cases h2
        | some x => exact (sndE hcm lo sc x h2 X Wx C).po
      have hh : PO X y (tO (cmX X ca nm.fl) (se G hi).o Wx) := by
        cases y with
        | none =>
          cases hi with
          | yes => exact n_po0
          | _ => cases h3
        | some y => exact (sndE hcm hi sc y h3 X Wx C).po
      exact .val rfl rfl (n_sl (sndE hcm a sc l h1 X Wx C).pe hl hh) fun _ => rfl
    · cases h
  | .tup es, sc, ex, h, X, Wx, C => by
    unfold ckE at h
    split at h
    · rename_i xs hx
      obtain ⟨kk, p, rfl⟩ := xTup_eq hx
      obtain ⟨t, ht, ha, h0, hst⟩ := (sndEs hcm es sc xs h X Wx C).ex
      exact .val rfl rfl (n_tup ht ha) fun _ => rfl
    · cases h
  | .lst es, sc, ex, h, X, Wx, C => by
    unfold ckE at h
    split at h
    · rename_i xs hx
      obtain ⟨p, rfl⟩ := xLst_eq hx
      obtain ⟨t, ht, ha, h0, hst⟩ := (sndEs hcm es sc xs h X Wx C).ex
      exact .val rfl rfl (n_lst ht ha) fun _ => rfl
    · cases h
  | .rng1 a, sc, ex, h, X, Wx, C => by
    unfold ckE at h
    split at h
    · rename_i x l hx
      obtain ⟨p, q, rfl⟩ := xCall_eq hx
      simp only [Bool.and_eq_true, decide_eq_true_eq] at h
      obtain ⟨h1, h2, h3, h4⟩ := h
      subst h1
      have ha := sndE hcm a sc l h4 X Wx C
      have hm : X.mg ("range" : Str) = none := C.bl _ (by decide +kernel)
      exact .itr rfl (fun tg _ => i_rng1 (C.gl h2) hm h3 ha.pe) fun _ => pri_1 (C.gl h2) hm h3 ha.pe
    · cases h
  | .rng2 a b, sc, ex, h, X, Wx, C => by
    unfold ckE at h
    split at h
    · rename_i x l r hx
      obtain ⟨p, q, rfl⟩ := xCall_eq hx
      simp only [Bool.and_eq_true, decide_eq_true_eq] at h
      obtain ⟨h1, h2, h3, h4, h5, h6⟩ := h
      subst h1
      have ha := sndE hcm a sc l h5 X Wx C
      have hb := sndE hcm b sc r h6 X Wx C
      have hm : X.mg ("range" : Str) = none := C.bl _ (by decide +kernel)
      exact .itr rfl (fun tg _ => i_rng2 (C.gl h2) hm h3 h4 ha.pe hb.pe) fun _ => pri_2 (C.gl h2) hm h3 h4 ha.pe hb.pe
    · cases h
  | .enu a, sc, ex, h, X, Wx, C => by
    unfold ckE at h
    split at h
    · rename_i x l hx
      obtain ⟨p, q, rfl⟩ := xCall_eq hx
      simp only [Bool.and_eq_true, decide_eq_true_eq] at h
      obtain ⟨h1, h2, h3, h4⟩ := h
      subst h1
      have ha := sndE hcm a sc l h4 X Wx C
      have hm : X.mg ("enumerate" : Str) = none := C.bl _ (by decide +kernel)
      exact .itr rfl (fun tg ht => by
        obtain ⟨es, kk, tp, rfl⟩ := ht rfl
        exact i_enu (C.gl h2) hm h3 ha.pe) fun z => by cases z
    · cases h
  | .zip a b, sc, ex, h, X, Wx, C => by
    unfold ckE at h
    split at h
    · rename_i x l r hx
      obtain ⟨p, q, rfl⟩ := xCall_eq hx
      simp only [Bool.and_eq_true, decide_eq_true_eq] at h
      obtain ⟨h1, h2, h3, h4, h5, h6⟩ := h
      subst h1
      have ha := sndE hcm a sc l h5 X Wx C
      have hb := sndE hcm b sc r h6 X Wx C
      have hm : X.mg ("zip" : Str) = none := C.bl _ (by decide +kernel)
      exact .itr rfl (fun tg ht => by
        obtain ⟨es, kk, tp, rfl⟩ := ht rfl
        exact i_zip (C.gl h2) hm h3 h4 ha.pe hb.pe) fun z => by cases z
    · cases h
  | .comp ts un src cond elt, sc, ex, h, X, Wx, C => by
    unfold ckE at h
    have hq := (Bool.and_eq_true_iff.mp h).1
    replace h := (Bool.and_eq_true_iff.mp h).2
    split at h
    · rename_i e t it cs s hx
      obtain ⟨p, rfl⟩ := xComp_eq hx
      simp only [Bool.and_eq_true] at h
      obtain ⟨h1, h2, h3, h4, h5, h6, h7⟩ := h
      have hN := C.hN
      have hsc := C.hsc
      have hnd : X.N.Nodup := by rw [hN]; exact C.nd
      have hsrc := sndE hcm src sc it h2 X Wx C
      refine .val rfl rfl (n_comp (own := ownOf N ts) (ke := fun ρ => cc (isOwn ρ) elt) (C.calm hq) hnd (hsrc.pi t fun z => ?_) (by rw [hN, hsc]; exact blkOk_by h5) ?_ (ckTg_p h1) (fun s' H a cl fp => ckTg_g (X := X.blk s' H s (compEnvC s cl a X.env) fp) rfl hnd (fun x hx => blk_loc hx) (C.calm hq) (by show ckTg X.N s ts un t = true; rw [hN]; exact h1)) (fun s' H a cl fp => ?_) (fun s' H a cl fp => ?_) ?_).1 fun _ => rfl
      · rw [z] at h3
        have : un = true := by simpa using h3
        subst this
        exact ckTg_tup h1
      · unfold ownOf
        rw [List.map_map]
        exact List.map_id' _
      · have C' := C.blk hq s' H s cl a fp
        match cs, h6 with
        | [], h6 =>
          cases cond <;> first | cases h6 | skip
          exact ⟨fun pins s'' σ H Q I h => pts_nil.run pins s'' σ H Q I (by
            obtain ⟨S, F, ρ, Qd, Ed, r, q, lk, _⟩ := h
            exact lk _ _ _ (.refl r.wf) q)⟩
        | [c], h6 =>
          have hc := sndE hcm cond (relS s sc) c h6 _ _ C'
          have he : (se G cond).c = (se G cond).t := by
            cases cond <;> first | rfl | (unfold ckE at h6; cases h6)
          rw [he]
          exact pts_one hc.pt
        | _ :: _ :: _, h6 => cases h6
      · exact (sndE hcm elt (relS s sc) e h7 _ _ (C.blk hq s' H s cl a fp)).pe
      · intro x
        cases it <;> first | rfl | cases h4
    · cases h
theorem sndEs (hcm : True) : ∀ (s : Es) (sc : Scope) (exs : List Expr), ckEs nm N s sc exs = true → ∀ (X : Cx) (Wx : WX), CtxD nm ca G k N sc X Wx → SEs X ca nm.fl G Wx s exs
  | .nil, sc, exs, h, X, Wx, C => by
    unfold ckEs at h
    cases exs with
    | nil => exact ⟨tNil, pa_nil, ar_nil, fun _ => rfl, rfl⟩
    | cons _ _ => cases h
  | .cons e r, sc, exs, h, X, Wx, C => by
    unfold ckEs at h
    cases exs with
    | nil => cases h
    | cons x xs =>
      have h' : (notStar x && (ckE nm N e sc x && ckEs nm N r sc xs)) = true := h
      simp only [Bool.and_eq_true] at h'
      obtain ⟨t, ht, ha, h0, hst⟩ := (sndEs hcm r sc xs h'.2.2 X Wx C).ex
      refine ⟨_, pa_cons (sndE hcm e sc x h'.2.1 X Wx C).pe ht (star_cons h'.1), ar_cons ha, (fun z => nomatch z), ?_⟩
      show (notStar x && xs.all notStar) = true
      rw [h'.1, hst]; rfl
end
end
end DV
/-! DV: how the state changes. -/
namespace DV
open PySem PySem.Spec PyProof.Rows L2
section
variable {cm : Cm} {S : Sit} {F F' : AP} {ρ ρ' : Env} {σ : L2.St} {H H' H1 : Hp} {hd : Option Addr} {p : Addr} {o u : HO}
def NTF (o : HO) : Prop := (∀ xs, o ≠ .tup xs) ∧ (∀ a b, o ≠ .frz a b) ∧ ∀ fs, o ≠ .xd fs
theorem ntf_lst {xs : List V} : NTF (.lst xs) := ⟨(fun _ z => nomatch z), (fun _ _ z => nomatch z), (fun _ z => nomatch z)⟩
theorem ntf_ins {C dx : Addr} {fs : List (Str × V)} : NTF (.ins C dx fs) := ⟨(fun _ z => nomatch z), (fun _ _ z => nomatch z), (fun _ z => nomatch z)⟩
theorem Sta.mut' (s : Sta F H H') (nf : ¬ F p) (hp : H' p = some u) (n : NTF u) : Sta F H (upd H' p o) := by
  refine ⟨fun a f => ?_, fun a ys h => ?_, fun a ob w h => ?_⟩
  · have : a ≠ p := fun z => nf (z ▸ f)
    rw [upd_ne this]; exact s.1 a f
  · have h' := s.2.1 a ys h
    have : a ≠ p := fun z => by rw [z, hp] at h'; exact n.1 _ (Option.some.inj h')
    rw [upd_ne this]; exact h'
  · have h' := s.2.2 a ob w h
    have : a ≠ p := fun z => by rw [z, hp] at h'; exact n.2.1 _ _ (Option.some.inj h')
    rw [upd_ne this]; exact h'
theorem set_get {α : Type} {l : List α} {i j : Nat} {x y : α} (e : (l.set i x)[j]? = some y) : (j = i ∧ y = x ∧ i < l.length) ∨ (j ≠ i ∧ l[j]? = some y) := by
  by_cases z : j = i
  · subst z
    by_cases hl : j < l.length
    · rw [List.getElem?_set_self hl] at e
      exact .inl ⟨rfl, (Option.some.inj e).symm, hl⟩
    · rw [List.getElem?_eq_none (by rw [List.length_set]; omega)] at e
      cases e
  · rw [List.getElem?_set_ne (Ne.symm z)] at e
    exact .inr ⟨z, e⟩
/-- what is owned lies in the heap, at a known place -/
theorem Real.owAt (r : Real cm S F ρ σ H) {j : Nat} {t : Slot} {q : Addr} (e : ρ[j]? = some (some t)) (o : t.ow = true) (h : σ[j]? = some (some (.ref q))) : ∃ u, H q = some u ∧ NTF u := by
  obtain ⟨v, e', hs⟩ := r.sl j t e
  rw [h] at e'
  cases e'
  cases t with
  | val d => cases o
  | exc d => cases o
  | own ds =>
    obtain ⟨p, vs, ev, _, hn, _, hp, _⟩ := hs
    cases ev
    exact ⟨_, hp, ntf_lst⟩
  | ownI c all ns ds =>
    obtain ⟨p, dx, fs, ev, _, hn, _, hp, _⟩ := hs
    cases ev
    exact ⟨_, hp, ntf_ins⟩
  | mat rs =>
    obtain ⟨p, qs, ev, _, hn, _, hp, _⟩ := hs
    cases ev
    exact ⟨_, hp, ntf_lst⟩
/-- an owned object is written -/
theorem Real.mutG {i : Nat} {s s' : Slot} (r : Real cm S F ρ σ H) (hi : ρ[i]? = some (some s)) (ho : s.ow = true) (ho' : s'.ow = true) (hm : s'.mt = s.mt) (nf : ¬ F p) (nh : S.hd ≠ some p) (n0 : S.H0 p = none) (hp : H p = some u) (hu : NTF u)
    (hx : s.mt = true ∨ σ[i]? = some (some (.ref p))) (hsl : ∀ v, σ[i]? = some v → SlotR cm S F (upd H p o) v s') : Real cm S F (ρ.set i (some s')) σ (upd H p o) := by
  have E := r.ev0.mut (o := o) n0 nf nh
  have st : Sta F H (upd H p o) := (Sta.refl F H).mut' nf hp hu
  refine ⟨E.wf, by rw [List.length_set]; exact r.len, fun j t e => ?_, fun j k s1 t1 q e1 e2 o1 o2 q1 q2 => ?_, fun j k s1 t1 e1 e2 o1 o2 => ?_, E.sb, E.up, E.dn, E.hc, fun q hq => ?_⟩
  · rcases set_get e with ⟨rfl, z, hl⟩ | ⟨z, e'⟩
    · cases z
      obtain ⟨v, hv, _⟩ := r.sl j s hi
      exact ⟨v, hv, hsl v hv⟩
    · obtain ⟨v, hv, hs⟩ := r.sl j t e'
      refine ⟨v, hv, ?_⟩
      have off : t.ow = true → ∀ p', v = some (.ref p') → p' ≠ p := fun o p' ev z' => by
        rcases hx with hx | hx
        · exact z (r.mt i j s t hi e' hx o).symm
        · exact z (r.ap i j s t p hi e' ho o hx (by rw [hv, ev, z'])).symm
      cases t with
      | val d =>
        obtain ⟨w, rfl, q⟩ := hs
        exact ⟨w, rfl, q.mono (fun _ z => z) st⟩
      | own ds =>
        obtain ⟨p', vs, ev, h1, h2, h3, h4, h5, h6⟩ := hs
        exact ⟨p', vs, ev, h1, h2, h3, by rw [upd_ne (off rfl p' ev)]; exact h4, h5, h6.mono (fun _ z => z) st⟩
      | ownI c all ns ds =>
        obtain ⟨p', dx, fs, ev, h1, h2, h3, h4, h5, h6, h7, h8⟩ := hs
        exact ⟨p', dx, fs, ev, h1, h2, h3, by rw [upd_ne (off rfl p' ev)]; exact h4, h5, h6, h7, h8.mono (fun _ z => z) st⟩
      | mat rs => exact absurd (r.mt j i _ s e' hi rfl ho) z
      | exc x =>
        obtain ⟨a, cls, dd, h1, h2, c, ns, vs, ds, x1, x2, x3, x4, x5⟩ := hs
        refine ⟨a, cls, dd, h1, h2, c, ns, vs, ds, x1, x2, x3.mono (fun _ z => z) st, x4, ?_⟩
        rcases x5 with x5 | ⟨d, fs, y1, y2, y3⟩
        · exact .inl x5
        · refine .inr ⟨d, fs, y1, ?_, y3⟩
          have : d ≠ p := fun z' => by rw [z', hp] at y2; exact hu.2.2 _ (Option.some.inj y2)
          rw [upd_ne this]; exact y2
  · have f : ∀ {j : Nat} {s1 : Slot}, (ρ.set i (some s'))[j]? = some (some s1) → s1.ow = true → ∃ s2, ρ[j]? = some (some s2) ∧ s2.ow = true := fun {j s1} e o => by
      rcases set_get e with ⟨rfl, z, hl⟩ | ⟨z, e'⟩
      · exact ⟨s, hi, ho⟩
      · exact ⟨s1, e', o⟩
    obtain ⟨a, a1, a2⟩ := f e1 o1
    obtain ⟨b, b1, b2⟩ := f e2 o2
    exact r.ap j k a b q a1 b1 a2 b2 q1 q2
  · have f : ∀ {j : Nat} {s1 : Slot}, (ρ.set i (some s'))[j]? = some (some s1) → ∃ s2, ρ[j]? = some (some s2) ∧ (s1.ow = true → s2.ow = true) ∧ (s1.mt = true → s2.mt = true) := fun {j s1} e => by
      rcases set_get e with ⟨rfl, z, hl⟩ | ⟨z, e'⟩
      · cases z
        exact ⟨s, hi, fun _ => ho, fun z => by rw [← hm]; exact z⟩
      · exact ⟨s1, e', fun z => z, fun z => z⟩
    obtain ⟨a, a1, a2, a3⟩ := f e1
    obtain ⟨b, b1, b2, b3⟩ := f e2
    exact r.mt j k a b a1 b1 (a3 o1) (b2 o2)
  · obtain ⟨h1, h2⟩ := r.an q hq
    exact ⟨h1.mut' (fun z => nf (h2 p z)) hp hu, h2⟩
/-- a slot is filled -/
theorem Real.putS {i : Nat} {s' : Slot} {v : V} (r : Real cm S F ρ σ H) (hsl : SlotR cm S F H (some v) s') (hap : s'.ow = true → ∀ (j : Nat) (t : Slot) (q : Addr), j ≠ i → ρ[j]? = some (some t) → t.ow = true → v = .ref q → σ[j]? ≠ some (some (.ref q)))
    (h1 : s'.mt = true → ∀ (j : Nat) (t : Slot), j ≠ i → ρ[j]? = some (some t) → t.ow = false) (h2 : s'.ow = true → ∀ (j : Nat) (t : Slot), j ≠ i → ρ[j]? = some (some t) → t.mt = false) : Real cm S F (ρ.set i (some s')) (σ.set i (some v)) H := by
  refine ⟨r.wf, by rw [List.length_set, List.length_set]; exact r.len, fun j t e => ?_, fun j k s1 t1 q e1 e2 o1 o2 q1 q2 => ?_, fun j k s1 t1 e1 e2 o1 o2 => ?_, r.sb, r.up, r.dn, r.hc, r.an⟩
  · rcases set_get e with ⟨rfl, z, hl⟩ | ⟨z, e'⟩
    · cases z
      exact ⟨some v, by rw [List.getElem?_set_self (by rw [← r.len]; exact hl)], hsl⟩
    · rw [List.getElem?_set_ne (Ne.symm z)]
      exact r.sl j t e'
  · rcases set_get e1 with ⟨rfl, z, hl⟩ | ⟨z, e'⟩
    · rcases set_get e2 with ⟨rfl, z2, hl2⟩ | ⟨z2, e2'⟩
      · rfl
      · cases z
        rw [List.getElem?_set_self (by rw [← r.len]; exact hl)] at q1
        rw [List.getElem?_set_ne (Ne.symm z2)] at q2
        exact absurd q2 (hap o1 k t1 q z2 e2' o2 (Option.some.inj (Option.some.inj q1)))
    · rcases set_get e2 with ⟨rfl, z2, hl2⟩ | ⟨z2, e2'⟩
      · cases z2
        rw [List.getElem?_set_self (by rw [← r.len]; exact hl2)] at q2
        rw [List.getElem?_set_ne (Ne.symm z)] at q1
        exact absurd q1 (hap o2 j s1 q z e' o1 (Option.some.inj (Option.some.inj q2)))
      · rw [List.getElem?_set_ne (Ne.symm z)] at q1
        rw [List.getElem?_set_ne (Ne.symm z2)] at q2
        exact r.ap j k s1 t1 q e' e2' o1 o2 q1 q2
  · rcases set_get e1 with ⟨rfl, z, hl⟩ | ⟨z, e'⟩
    · rcases set_get e2 with ⟨rfl, z2, hl2⟩ | ⟨z2, e2'⟩
      · rfl
      · cases z
        have := h1 o1 k t1 z2 e2'
        rw [o2] at this; cases this
    · rcases set_get e2 with ⟨rfl, z2, hl2⟩ | ⟨z2, e2'⟩
      · cases z2
        have := h2 o2 j s1 z e'
        rw [o1] at this; cases this
      · exact r.mt j k s1 t1 e' e2' o1 o2
theorem noMat_of (h : noMat ρ = true) {j : Nat} {t : Slot} (e : ρ[j]? = some (some t)) : t.mt = false := by
  have := List.all_eq_true.mp h _ (List.mem_of_getElem? e)
  simpa using this
theorem noOw_of (h : noOw ρ = true) {j : Nat} {t : Slot} (e : ρ[j]? = some (some t)) : t.ow = false := by
  have := List.all_eq_true.mp h _ (List.mem_of_getElem? e)
  simpa using this
/-- a fresh list is owned -/
theorem Real.ownF {i : Nat} {q : Addr} {vs : List V} {ds : List D} (r : Real cm S F ρ σ H) (e : Ev S.hd H H' F F') (hm : noMat ρ = true) (nf : ¬ F' q) (nh : S.hd ≠ some q) (n0 : H q = none) (hp : H' q = some (.lst vs)) (l : vs.length ≤ sizeLine)
    (hd : DenL cm F' S.hd H' vs ds) : Real cm S F' (setO ρ i ds) (σ.set i (some (.ref q))) H' := by
  refine (r.ev e).putS ⟨q, vs, rfl, nf, nh, r.sb.free n0 nh, hp, l, hd⟩ (fun _ j t q' _ e1 o1 ev h => ?_) (fun z => by cases z) fun _ j t _ e1 => noMat_of hm e1
  cases ev
  obtain ⟨u, hu, _⟩ := r.owAt e1 o1 h
  rw [n0] at hu; cases hu
/-- .. or frozen -/
theorem Real.ownV {i : Nat} {q : Addr} {vs : List V} {ds : List D} (r : Real cm S F ρ σ H) (e : Ev S.hd H H' F F') (nf : ¬ F' q) (nh : S.hd ≠ some q) (n0 : H q = none) (hp : H' q = some (.lst vs)) (l : vs.length ≤ sizeLine)
    (hd : DenL cm F' S.hd H' vs ds) : Real cm S (fun a => F' a ∨ a = q) (DV.setV ρ i (.lst ds)) (σ.set i (some (.ref q))) H' := by
  have e2 : Ev S.hd H H' F (fun a => F' a ∨ a = q) := by
    refine ⟨e.sb, fun a z => .inl (e.up a z), fun a z => ?_, ⟨fun a z => ?_, fun a z => ?_, fun h eh => ?_⟩, e.hc⟩
    · rcases z with z | z
      · exact e.dn a z
      · exact .inr (by rw [z]; exact n0)
    · rcases z with z | z
      · exact e.wf.tr a z
      · rw [z, hp]; exact (fun z => nomatch z)
    · rcases z with z | z
      · exact e.wf.nh a z
      · rw [z]; exact nh
    · obtain ⟨c, cells, q, rr, m, h1, h2, h3, h4⟩ := e.wf.ho h eh
      exact ⟨c, cells, q, rr, m, h1, .inl h2, h3, h4⟩
  exact (r.ev e2).setV (.lst (.inr rfl) hp l (hd.mono (fun _ z => .inl z) (.refl _ _)))
/-- what is owned freezes -/
theorem Real.frzG {i : Nat} {s : Slot} {d : D} {P : AP} (r : Real cm S F ρ σ H) (hi : ρ[i]? = some (some s)) (ho : s.ow = true) (hP : ∀ a, P a → H a ≠ none ∧ S.hd ≠ some a ∧ S.H0 a = none) (hx : s.mt = true ∨ ∀ a, P a → σ[i]? = some (some (.ref a)))
    (hd : ∀ w, σ[i]? = some w → ∃ v, w = some v ∧ Den cm (fun a => F a ∨ P a) S.hd H v d) : Real cm S (fun a => F a ∨ P a) (ρ.set i (some (.val d))) σ H := by
  have up : ∀ a, F a → F a ∨ P a := fun a z => .inl z
  refine ⟨⟨fun a z => z.elim (r.wf.tr a) fun q => (hP a q).1, fun a z => z.elim (r.wf.nh a) fun q => (hP a q).2.1, fun h eh => ?_⟩, by rw [List.length_set]; exact r.len, fun j t e => ?_, fun j k s1 t1 q e1 e2 o1 o2 q1 q2 => ?_, fun j k s1 t1 e1 e2 o1 o2 => ?_,
    r.sb, fun a z => .inl (r.up a z), fun a z => z.elim (r.dn a) fun q => .inr (hP a q).2.2, r.hc, fun q hq => ?_⟩
  · obtain ⟨c, cells, q, rr, m, h1, h2, h3, h4⟩ := r.wf.ho h eh
    exact ⟨c, cells, q, rr, m, h1, .inl h2, h3, h4⟩
  · rcases set_get e with ⟨rfl, z, hl⟩ | ⟨z, e'⟩
    · cases z
      obtain ⟨v, hv, _⟩ := r.sl j s hi
      exact ⟨v, hv, hd v hv⟩
    · obtain ⟨v, hv, hs⟩ := r.sl j t e'
      refine ⟨v, hv, ?_⟩
      have off : t.ow = true → ∀ p', v = some (.ref p') → ¬ P p' := fun o p' ev z' => by
        rcases hx with hx | hx
        · exact z (r.mt i j s t hi e' hx o).symm
        · exact z (r.ap i j s t p' hi e' ho o (hx p' z') (by rw [hv, ev])).symm
      cases t with
      | val d =>
        obtain ⟨w, rfl, q⟩ := hs
        exact ⟨w, rfl, q.mono up (.refl _ _)⟩
      | own ds =>
        obtain ⟨p', vs, ev, h1, h2, h3, h4, h5, h6⟩ := hs
        exact ⟨p', vs, ev, fun z => z.elim h1 (off rfl p' ev), h2, h3, h4, h5, h6.mono up (.refl _ _)⟩
      | ownI c all ns ds =>
        obtain ⟨p', dx, fs, ev, h1, h2, h3, h4, h5, h6, h7, h8⟩ := hs
        exact ⟨p', dx, fs, ev, fun z => z.elim h1 (off rfl p' ev), h2, h3, h4, h5, h6, h7, h8.mono up (.refl _ _)⟩
      | mat rs => exact absurd (r.mt j i _ s e' hi rfl ho) z
      | exc x =>
        obtain ⟨a, cls, dd, h1, h2, c, ns, vs, ds, x1, x2, x3, x4, x5⟩ := hs
        exact ⟨a, cls, dd, h1, h2, c, ns, vs, ds, x1, x2, x3.mono up (.refl _ _), x4, x5⟩
  · rcases set_get e1 with ⟨rfl, z, hl⟩ | ⟨z, e'⟩
    · cases z; cases o1
    · rcases set_get e2 with ⟨rfl, z2, hl2⟩ | ⟨z2, e2'⟩
      · cases z2; cases o2
      · exact r.ap j k s1 t1 q e' e2' o1 o2 q1 q2
  · rcases set_get e1 with ⟨rfl, z, hl⟩ | ⟨z, e'⟩
    · cases z; cases o1
    · rcases set_get e2 with ⟨rfl, z2, hl2⟩ | ⟨z2, e2'⟩
      · cases z2; cases o2
      · exact r.mt j k s1 t1 e' e2' o1 o2
  · obtain ⟨h1, h2⟩ := r.an q hq
    exact ⟨h1, fun a z => .inl (h2 a z)⟩
/-- at a return all that is owned is handed out -/
theorem Real.retE (r : Real cm S F ρ σ H) : Ev S.hd S.H0 H S.F0 (Fb F ρ σ) := by
  refine ⟨r.sb, fun a z => .inl (r.up a z), fun a z => ?_, ⟨fun a z => (r.fb_tr a z).1, fun a z => (r.fb_tr a z).2, fun h eh => ?_⟩, r.hc⟩
  · rcases z with z | ⟨i, s, e, o, h⟩
    · exact r.dn a z
    · obtain ⟨v, hv, hs⟩ := r.sl i s e
      rw [h] at hv
      cases hv
      cases s with
      | val d => cases o
      | exc d => cases o
      | own ds =>
        obtain ⟨p, vs, ev, _, _, h0, _⟩ := hs
        cases ev; exact .inr h0
      | ownI c all ns ds =>
        obtain ⟨p, dx, fs, ev, _, _, h0, _⟩ := hs
        cases ev; exact .inr h0.1
      | mat rs =>
        obtain ⟨p, qs, ev, _, _, h0, _⟩ := hs
        cases ev; exact .inr h0
  · obtain ⟨c, cells, q, rr, m, h1, h2, h3, h4⟩ := r.wf.ho h eh
    exact ⟨c, cells, q, rr, m, h1, .inl h2, h3, h4⟩
/-- anchors -/
def Sit.anch (S : Sit) (F : AP) (H : Hp) : Sit := ⟨S.hd, S.H0, S.F0, (F, H) :: S.an, S.me⟩
theorem slotR_an {F1 : AP} {H1 : Hp} {v : Option V} {s : Slot} : SlotR cm (S.anch F1 H1) F H v s ↔ SlotR cm S F H v s := by
  cases s <;> exact Iff.rfl
theorem Real.anch (r : Real cm S F ρ σ H) : Real cm (S.anch F H) F ρ σ H :=
  ⟨r.wf, r.len, fun i s e => by
    obtain ⟨v, h1, h2⟩ := r.sl i s e
    exact ⟨v, h1, slotR_an.mpr h2⟩, r.ap, r.mt, r.sb, r.up, r.dn, r.hc, fun q hq => by
    rcases List.mem_cons.mp hq with rfl | hq
    · exact ⟨.refl _ _, fun _ z => z⟩
    · exact r.an q hq⟩
theorem Real.unanch {F1 : AP} {H1 : Hp} (r : Real cm (S.anch F1 H1) F ρ σ H) : Real cm S F ρ σ H ∧ Sta F1 H1 H ∧ ∀ a, F1 a → F a :=
  ⟨⟨r.wf, r.len, fun i s e => by
    obtain ⟨v, h1, h2⟩ := r.sl i s e
    exact ⟨v, h1, slotR_an.mp h2⟩, r.ap, r.mt, r.sb, r.up, r.dn, r.hc, fun q hq => r.an q (List.mem_cons_of_mem _ hq)⟩, r.an (F1, H1) List.mem_cons_self⟩
end
end DV
/-! DV: the statements' rules. -/
namespace DV
open PySem PySem.Spec PyProof.Rows L2
/-- what is wanted behind a statement -/
structure LkS (cm : Cm) (S : Sit) (Qd : Fl → Prop) (K : Ends) : Prop where
  nx : ∀ (F' : AP) (ρ' : Env) (σ' : L2.St) (H' : Hp), Real cm S F' ρ' σ' H' → Qd (.nx ρ') → K.nx σ' H'
  rt : ∀ (F' : AP) (H' : Hp) (u : V) (d : D), Ev S.hd S.H0 H' S.F0 F' → Den cm F' S.hd H' u d → Qd (.rt d) → K.rt u H'
  bk : ∀ (F' : AP) (ρ' : Env) (σ' : L2.St) (H' : Hp), Real cm S F' ρ' σ' H' → Qd (.bk ρ') → K.bk σ' H'
  ct : ∀ (F' : AP) (ρ' : Env) (σ' : L2.St) (H' : Hp), Real cm S F' ρ' σ' H' → Qd (.ct ρ') → K.ct σ' H'
def XkS (cm : Cm) (S : Sit) (Xd : D → Env → Prop) (Wx : WX) : Prop :=
  ∀ (F' : AP) (ρ' : Env) (σ' : L2.St) (H' : Hp) (cls : Value) (dd : Option Addr) (x : D), Real cm S F' ρ' σ' H' → DenX cm F' S.hd H' cls dd x → Xd x ρ' → Wx cls dd σ' H'
def tS (cm : Cm) (w : Env → WS) (Wx : WX) : TS := fun K σ H => ∃ (S : Sit) (F : AP) (ρ : Env) (Qd : Fl → Prop) (Xd : D → Env → Prop), Real cm S F ρ σ H ∧ w ρ Qd Xd ∧ LkS cm S Qd K ∧ XkS cm S Xd Wx
section
variable {cm : Cm} {S : Sit} {F F' : AP} {ρ ρ' : Env} {σ : L2.St} {H H' : Hp} {Qd : Fl → Prop} {Xd : D → Env → Prop} {K : Ends} {Wx : WX}
theorem XkS.xk (x : XkS cm S Xd Wx) (r : Real cm S F ρ σ H) : Xk cm S (fun d => Xd d ρ) F H (fun cls d H' => Wx cls d σ H') := fun F' H' cls dd d e hx q => x F' ρ σ H' cls dd d (r.ev e) hx q
theorem okV.den {v : V} {d : D} {e : E} {k : Prop} (h : okV ρ e d) (b : Kn cm S.hd F (Fb F ρ σ) H (cl (isOwn ρ) e = true) k v d) : Den cm F S.hd H v d := h.elim b.c fun z => b.b.bare z
end
section
variable {X : Cx} {ca : Ca} {fl : Nat → Str} {Wx : WX} {st : Stmt} {rest sts : List Stmt} {pos : Pos} {a b : Env → WS}
theorem s_nil : PSs X [] (tS (cmX X ca fl) nxt Wx) := ⟨fun pins s σ H K I h => pss_nil.run pins s σ H K I (by
  obtain ⟨S, F, ρ, Qd, Xd, r, hw, lk, xk⟩ := h
  exact lk.nx F ρ σ H r hw)⟩
theorem s_pass : PS X (.Pass pos) (tS (cmX X ca fl) nxt Wx) := ⟨fun pins s σ H K I h => ps_pass.run pins s σ H K I (by
  obtain ⟨S, F, ρ, Qd, Xd, r, hw, lk, xk⟩ := h
  exact lk.nx F ρ σ H r hw)⟩
theorem s_doc {x : Str} {j : Nat} {p : Pos} : PS X (.Expr (.Constant (.str x) j p) pos) (tS (cmX X ca fl) nxt Wx) := ⟨fun pins s σ H K I h => ps_doc.run pins s σ H K I (by
  obtain ⟨S, F, ρ, Qd, Xd, r, hw, lk, xk⟩ := h
  exact lk.nx F ρ σ H r hw)⟩
theorem s_brk : PS X (.Break pos) (tS (cmX X ca fl) (fun ρ Q _ => Q (.bk ρ)) Wx) := ⟨fun pins s σ H K I h => ps_break.run pins s σ H K I (by
  obtain ⟨S, F, ρ, Qd, Xd, r, hw, lk, xk⟩ := h
  exact lk.bk F ρ σ H r hw)⟩
theorem s_cnt : PS X (.Continue pos) (tS (cmX X ca fl) (fun ρ Q _ => Q (.ct ρ)) Wx) := ⟨fun pins s σ H K I h => ps_continue.run pins s σ H K I (by
  obtain ⟨S, F, ρ, Qd, Xd, r, hw, lk, xk⟩ := h
  exact lk.ct F ρ σ H r hw)⟩
theorem s_cons (h1 : PS X st (tS (cmX X ca fl) a Wx)) (h2 : PSs X rest (tS (cmX X ca fl) b Wx)) : PSs X (st :: rest) (tS (cmX X ca fl) (fun ρ => seqS (a ρ) b) Wx) := ⟨fun pins s σ H K I h => (pss_cons h1 h2).run pins s σ H K I (by
  obtain ⟨S, F, ρ, Qd, Xd, r, hw, lk, xk⟩ := h
  exact ⟨S, F, ρ, _, Xd, r, hw, ⟨fun F' ρ' σ' H' r' q => ⟨S, F', ρ', Qd, Xd, r', q, lk, xk⟩, fun F' H' u d e q z => lk.rt F' H' u d e q z, fun F' ρ' σ' H' r' q => lk.bk F' ρ' σ' H' r' q, fun F' ρ' σ' H' r' q => lk.ct F' ρ' σ' H' r' q⟩, xk⟩)⟩
theorem rows_den {cm : Cm} {F : AP} {hd : Option Addr} {H : Hp} : ∀ {qs : List Addr} {rs : List (List D)}, qs.length = rs.length → (∀ (k : Nat) (q : Addr) (row : List D), qs[k]? = some q → rs[k]? = some row → F q ∧ ∃ vs, H q = some (.lst vs) ∧ vs.length ≤ sizeLine ∧ DenL cm F hd H vs row) → DenL cm F hd H (qs.map V.ref) (rs.map D.lst)
  | [], [], _, _ => .nil
  | [], _ :: _, h, _ => by cases h
  | _ :: _, [], h, _ => by cases h
  | q :: qs, row :: rs, h, k => by
    obtain ⟨h1, vs, h2, h3, h4⟩ := k 0 q row rfl rfl
    exact .cons (.lst h1 h2 h3 h4) (rows_den (by simpa using h) fun j q row h1 h2 => k (j + 1) q row (by simpa using h1) (by simpa using h2))
theorem frz_real {cm : Cm} {S : Sit} {F : AP} {ρ : Env} {σ : L2.St} {H : Hp} {i : Nat} {k : Env → WS} {Qd : Fl → Prop} {Xd : D → Env → Prop} (r : Real cm S F ρ σ H) (h : frzS ρ i k Qd Xd) : ∃ (F' : AP) (ρ' : Env), Real cm S F' ρ' σ H ∧ k ρ' Qd Xd := by
  unfold frzS at h
  cases e : ρ[i]? with
  | none => rw [e] at h; exact h.elim
  | some o =>
    cases o with
    | none => rw [e] at h; exact h.elim
    | some sl =>
      rw [e] at h
      obtain ⟨v, hv, hs⟩ := r.sl i sl e
      cases sl with
      | own ds =>
        obtain ⟨p, vs, rfl, h1, h2, h3, h4, h5, h6⟩ := hs
        refine ⟨_, _, r.frzG (d := .lst ds) (P := fun a => a = p) e rfl (fun a z => ?_) (.inr fun a z => by rw [z]; exact hv) (fun w hw => ?_), h⟩
        · subst z
          exact ⟨by rw [h4]; exact (fun z => nomatch z), h2, h3⟩
        · rw [hv] at hw
          cases hw
          exact ⟨_, rfl, .lst (.inr rfl) h4 h5 (h6.mono (fun _ z => .inl z) (.refl _ _))⟩
      | mat rs =>
        obtain ⟨p, qs, rfl, h1, h2, h3, h4, h5, h6, h7, h8, h9⟩ := hs
        refine ⟨_, _, r.frzG (d := .lst (rs.map D.lst)) (P := fun a => a = p ∨ a ∈ qs) e rfl (fun a z => ?_) (.inl rfl) (fun w hw => ?_), h⟩
        · rcases z with z | z
          · subst z
            exact ⟨by rw [h4]; exact (fun z => nomatch z), h2, h3⟩
          · obtain ⟨k, hk⟩ := List.getElem?_of_mem z
            have hl : k < qs.length := by
              by_cases z2 : k < qs.length
              · exact z2
              · rw [List.getElem?_eq_none (by omega)] at hk; cases hk
            obtain ⟨g1, g2, g3, vs, g4, _⟩ := h9 k a rs[k] hk (List.getElem?_eq_getElem (by omega))
            exact ⟨by rw [g4]; exact (fun z => nomatch z), g2, g3⟩
        · rw [hv] at hw
          cases hw
          refine ⟨_, rfl, .lst (.inr (.inl rfl)) h4 (by rw [List.length_map]; exact h6) (rows_den h5 fun k q row hq hr => ?_)⟩
          obtain ⟨g1, g2, g3, vs, g4, g5, g6⟩ := h9 k q row hq hr
          exact ⟨.inr (.inr (List.mem_of_getElem? hq)), vs, g4, g5, g6.mono (fun _ z => .inl z) (.refl _ _)⟩
      | _ => exact h.elim
theorem s_frz {i : Nat} (h2 : PSs X sts (tS (cmX X ca fl) b Wx)) : PSs X sts (tS (cmX X ca fl) (fun ρ => frzS ρ i b) Wx) := ⟨fun pins s σ H K I h => h2.run pins s σ H K I (by
  obtain ⟨S, F, ρ, Qd, Xd, r, hw, lk, xk⟩ := h
  obtain ⟨F', ρ', r', q⟩ := frz_real r hw
  exact ⟨S, F', ρ', Qd, Xd, r', q, lk, xk⟩)⟩
/-! ### simple statements -/
variable {e c : Expr} {v : Env → W D} {kk : Env → Bool} {sE : E} {i : Nat} {x : Str} {p : Pos}
theorem s_asg (hN : X.N.Nodup) (hi : X.N[i]? = some x) (hx : Loc X.env.scope x) (hf : X.fn x = true) (he : PE X e (tV (cmX X ca fl) v (fun ρ => cl (isOwn ρ) sE) kk Wx)) (hs : swapsWith e (some (.Name x p)) pos.line X.env = pure false) :
    PS X (.Assign [.Name x p] e pos) (tS (cmX X ca fl) (fun ρ => eS ρ (v ρ) fun d => reqS (okV ρ sE d) (nxt (setV ρ i d))) Wx) := ⟨fun pins s σ H K I h => (ps_set hN hi hx he hs (.inl hf)).run pins s σ H K I (by
  obtain ⟨S, F, ρ, Qd, Xd, r, hw, lk, xk⟩ := h
  exact one r hw (xk.xk r) fun F2 H2 u d e2 r2 x2 b2 q => lk.nx F2 _ _ H2 (r2.setV (q.1.den b2)) q.2)⟩
theorem s_ex (he : PE X e (tV (cmX X ca fl) v (fun ρ => cl (isOwn ρ) sE) kk Wx)) (hs : swapsWith e none pos.line X.env = pure false) : PS X (.Expr e pos) (tS (cmX X ca fl) (fun ρ => eS ρ (v ρ) fun _ => nxt ρ) Wx) := ⟨fun pins s σ H K I h => (ps_expr he hs).run pins s σ H K I (by
  obtain ⟨S, F, ρ, Qd, Xd, r, hw, lk, xk⟩ := h
  exact one r hw (xk.xk r) fun F2 H2 u d e2 r2 x2 b2 q => lk.nx F2 _ _ H2 r2 q)⟩
theorem s_ret (he : PE X e (tV (cmX X ca fl) v (fun ρ => cl (isOwn ρ) sE) kk Wx)) : PS X (.Return (some e) pos) (tS (cmX X ca fl) (fun ρ => eS ρ (v ρ) fun d Q _ => Q (.rt d)) Wx) := ⟨fun pins s σ H K I h => (ps_ret he).run pins s σ H K I (by
  obtain ⟨S, F, ρ, Qd, Xd, r, hw, lk, xk⟩ := h
  exact one r hw (xk.xk r) fun F2 H2 u d e2 r2 x2 b2 q => lk.rt _ H2 u d r2.retE b2.b q)⟩
theorem s_retN : PS X (.Return none pos) (tS (cmX X ca fl) (fun _ Q _ => Q (.rt .non)) Wx) := ⟨fun pins s σ H K I h => ps_retN.run pins s σ H K I (by
  obtain ⟨S, F, ρ, Qd, Xd, r, hw, lk, xk⟩ := h
  exact lk.rt _ H .non .non r.retE .non hw)⟩
theorem s_ite {ss rr : List Stmt} {t : Env → W Bool} (hc : PT X c (tT (cmX X ca fl) t Wx)) (ha : PSs X ss (tS (cmX X ca fl) a Wx)) (hb : PSs X rr (tS (cmX X ca fl) b Wx)) :
    PS X (.If c ss rr pos) (tS (cmX X ca fl) (fun ρ => eS ρ (t ρ) fun t => if t = true then a ρ else b ρ) Wx) := ⟨fun pins s σ H K I h => (ps_if hc ha hb).run pins s σ H K I (by
  obtain ⟨S, F, ρ, Qd, Xd, r, hw, lk, xk⟩ := h
  refine ⟨S, F, ρ, _, _, r, hw, fun F2 H2 t e2 q => ?_, xk.xk r⟩
  cases t with
  | true => exact ⟨S, F2, ρ, Qd, Xd, r.ev e2, q, lk, xk⟩
  | false => exact ⟨S, F2, ρ, Qd, Xd, r.ev e2, q, lk, xk⟩)⟩
theorem s_whl {body : List Stmt} {t : Env → W Bool} (hp : PassesOwn (model X.prog X.w) X.A X.env X.xe) (hc : PT X c (tT (cmX X ca fl) t Wx)) (hb : PSs X body (tS (cmX X ca fl) b Wx)) :
    PS X (.While c body [] pos) (tS (cmX X ca fl) (fun ρ => whlS t b ρ) Wx) := ⟨fun pins s σ H K I h => (ps_while hp hc hb).run pins s σ H K I (by
  obtain ⟨S, F, ρ, Qd, Xd, r, ⟨m, hw⟩, lk, xk⟩ := h
  refine ⟨fun m σ H => ∃ (F : AP) (ρ : Env), Real (cmX X ca fl) S F ρ σ H ∧ whlN t b m ρ Qd Xd, ⟨m, F, ρ, r, hw⟩, fun m σ H hW => ?_⟩
  obtain ⟨F, ρ, r, hw⟩ := hW
  cases m with
  | zero => exact hw.elim
  | succ m =>
    refine ⟨S, F, ρ, _, _, r, hw, fun F2 H2 t e2 q => ?_, xk.xk r⟩
    cases t with
    | true =>
      refine ⟨fun σ' H' => ∃ (F : AP) (ρ : Env), Real (cmX X ca fl) S F ρ σ' H' ∧ whlN _ b m ρ Qd Xd, fun σ' H' h => ⟨m, Nat.lt_succ_self m, h⟩, ?_⟩
      exact ⟨S, F2, ρ, _, Xd, r.ev e2, q, ⟨fun F' ρ' σ' H' r' q => ⟨F', ρ', r', q⟩, fun F' H' u d e q z => lk.rt F' H' u d e q z, fun F' ρ' σ' H' r' q => lk.nx F' ρ' σ' H' r' q, fun F' ρ' σ' H' r' q => ⟨F', ρ', r', q⟩⟩, xk⟩
    | false => exact lk.nx F2 ρ σ H2 (r.ev e2) q)⟩
theorem s_for {tg iter : Expr} {body : List Stmt} {it : Env → W (List D)} {c2 : Env → Bool} {ts : List Nat} {un : Bool} {g : TG} (hp : PassesOwn (model X.prog X.w) X.A X.env X.xe) (hc : X.calm = true) (hi : PI X tg iter (tI (cmX X ca fl) it (fun ρ => cl (isOwn ρ) sE) c2 Wx)) (hg : PG X tg g) (hgp : TgP (cmX X ca fl) ts un g)
    (hb : PSs X body (tS (cmX X ca fl) b Wx)) (hs : ∀ x, foldedSetIterable iter X.env x = pure x) :
    PS X (.For tg iter body [] pos) (tS (cmX X ca fl) (fun ρ => reqS (cl (isOwn ρ) sE = true) (eS ρ (it ρ) fun xs => forS (bindT ts un) b xs ρ)) Wx) := ⟨fun pins s σ H K I h => (ps_for hp hc hi hg hb hs).run pins s σ H K I (by
  obtain ⟨S, F, ρ, Qd, Xd, r, ⟨hcl, hw⟩, lk, xk⟩ := h
  refine ⟨S, F, ρ, _, _, r, hw, fun F1 H1 ds J e1 wk _ q => ?_, xk.xk r⟩
  have wk := wk hcl
  have r1 := (r.ev e1).anch
  refine ⟨fun i m σ H => i + m = ds.length ∧ ∃ (F : AP) (ρ : Env), Real (cmX X ca fl) (S.anch F1 H1) F ρ σ H ∧ forS (bindT ts un) b (ds.drop i) ρ Qd Xd, ⟨ds.length, Nat.zero_add _, F1, ρ, r1, q⟩, fun i m σ H hW => ?_⟩
  obtain ⟨him, F2, ρ2, r2, hw2⟩ := hW
  obtain ⟨r2', st, up⟩ := r2.unanch
  by_cases hi' : i < ds.length
  · refine .inr ⟨wk.go i H st hi', fun σ H => i + 1 + (m - 1) = ds.length ∧ ∃ (F : AP) (ρ : Env), Real (cmX X ca fl) (S.anch F1 H1) F ρ σ H ∧ forS (bindT ts un) b (ds.drop (i + 1)) ρ Qd Xd, fun σ' H' h => ⟨m - 1, by omega, h⟩, fun xv H2 y => ?_⟩
    obtain ⟨hH2, d, hd1, hd2⟩ := wk.yld i H xv H2 st hi' y
    have e2 : Ev S.hd H H2 F2 F2 := by
      rcases hH2 with rfl | ⟨p, vs, hp, rfl⟩
      · exact .refl r2.wf
      · exact .new0 r2.wf hp
    have r3 : Real (cmX X ca fl) (S.anch F1 H1) F2 ρ2 σ H2 := r2.ev e2
    have hdrop : ds.drop i = d :: ds.drop (i + 1) := by
      rw [List.drop_eq_getElem_cons hi']
      congr 1
      rw [List.getElem?_eq_getElem hi'] at hd1
      exact Option.some.inj hd1
    rw [hdrop] at hw2
    unfold forS at hw2
    cases eb : bindT ts un d ρ2 with
    | none => rw [eb] at hw2; exact False.elim hw2
    | some ρ' =>
      rw [eb] at hw2
      refine hgp (S.anch F1 H1) F2 ρ2 ρ' σ H2 xv d _ r3 (hd2.mono up (.refl _ _)) eb fun σ' r' _ => ?_
      refine ⟨S.anch F1 H1, F2, ρ', _, Xd, r', hw2, ⟨fun F' ρ' σ' H' r' q => ⟨by omega, F', ρ', r', q⟩, fun F' H' u d e q z => lk.rt F' H' u d e q z, fun F' ρ' σ' H' r' q => lk.nx F' ρ' σ' H' r'.unanch.1 q, fun F' ρ' σ' H' r' q => ⟨by omega, F', ρ', r', q⟩⟩, fun F' ρ' σ' H' cls dd x r' hx q => xk F' ρ' σ' H' cls dd x r'.unanch.1 hx q⟩
  · have hei : i = ds.length := by omega
    subst hei
    rw [List.drop_length] at hw2
    exact .inl ⟨wk.stop H st, lk.nx F2 ρ2 σ H r2' hw2⟩)⟩
theorem s_unp {ts : List Nat} {es : List Expr} {k : Nat} (hs : swapsWithSole [.Tuple es k p] e pos.line X.env = pure false) (hw : swappedStores [.Tuple es k p] e X.env = pure none) (hg : PG X (.Tuple es k p) (gTup X.K ts.length (gNames ts))) (he : PE X e (tV (cmX X ca fl) v (fun ρ => cl (isOwn ρ) sE) kk Wx)) :
    PS X (.Assign [.Tuple es k p] e pos) (tS (cmX X ca fl) (fun ρ => eS ρ (v ρ) fun d => reqS (okV ρ sE d) (match bindT ts true d ρ with
      | some ρ' => nxt ρ'
      | none => failS)) Wx) := ⟨fun pins s σ H K I h => (ps_asg he hg hs hw rfl).run pins s σ H K I (by
  obtain ⟨S, F, ρ, Qd, Xd, r, hq, lk, xk⟩ := h
  refine one r hq (xk.xk r) fun F2 H2 u d e2 r2 x2 b2 q => ?_
  dsimp only at q
  cases eb : bindT ts true d ρ with
  | none => rw [eb] at q; exact q.2.elim
  | some ρ' =>
    rw [eb] at q
    exact (tg_tup (cm := cmX X ca fl) (ts := ts)) S F2 ρ ρ' σ H2 u d _ r2 (q.1.den b2) eb fun σ' r' _ => lk.nx F2 ρ' σ' H2 r' q.2)⟩
/-! ### x op= e -/
def AugR (X : Cx) (o : BOp) (op : Operator) : Prop := ∃ ti : TIp, PIp X op ti ∧ ∀ (ca : Ca) (fl : Nat → Str) (F B : AP) (hd : Option Addr) (H : Hp) (x y : D) (u w : V) (P Ed : D → Prop) (Q : VK),
  Den (cmX X ca fl) F hd H u x → Den (cmX X ca fl) B hd H w y → augW o x y P Ed → (∀ z d, Den (cmX X ca fl) F hd H z d → noRef d = true → P d → Q z H) → ti u w H Q
theorem aug_add : AugR X .add .Add := by
  refine ⟨fun x y H Q => (∃ i j, x = .int i ∧ y = .int j ∧ Q (.int (i + j)) H) ∨ (∃ i j, x = .str i ∧ y = .str j ∧ i.length + j.length ≤ sizeLine ∧ Q (.str (i ++ j)) H), ?_, ?_⟩
  · intro pins s σ H x y v u Q I r1 r2 h
    rcases h with h | h
    · exact iop_add pins s σ H x y v u Q I r1 r2 h
    · exact iop_add_str pins s σ H x y v u Q I r1 r2 h
  · intro ca fl F B hd H x y u w P Ed Q hx hy hw hq
    cases x <;> cases y <;> first | exact False.elim hw | skip
    · cases hx.intI; cases hy.intI
      exact .inl ⟨_, _, rfl, rfl, hq _ _ (.int _) rfl hw⟩
    · obtain ⟨rfl, s1⟩ := hx.strI
      obtain ⟨rfl, s2⟩ := hy.strI
      exact .inr ⟨_, _, rfl, rfl, hw.1, hq _ _ (.str _ (strOk_append s1 s2)) rfl hw.2⟩
theorem aug_sub : AugR X .sub .Sub := by
  refine ⟨_, iop_sub, ?_⟩
  intro ca fl F B hd H x y u w P Ed Q hx hy hw hq
  cases x <;> cases y <;> first | exact False.elim hw | skip
  cases hx.intI; cases hy.intI
  exact ⟨_, _, rfl, rfl, hq _ _ (.int _) rfl hw⟩
theorem aug_mul : AugR X .mul .Mult := by
  refine ⟨_, iop_mul, ?_⟩
  intro ca fl F B hd H x y u w P Ed Q hx hy hw hq
  cases x <;> cases y <;> first | exact False.elim hw | skip
  cases hx.intI; cases hy.intI
  exact ⟨_, _, rfl, rfl, hw.1, hq _ _ (.int _) rfl hw.2⟩
theorem getS_of {cm : Cm} {S : Sit} {F : AP} {ρ : Env} {σ : L2.St} {H : Hp} {d : D} (r : Real cm S F ρ σ H) (h : getS ρ i = some d) : ∃ u, σ[i]? = some (some u) ∧ Den cm (Fb F ρ σ) S.hd H u d := by
  unfold getS at h
  cases e : ρ[i]? with
  | none => rw [e] at h; cases h
  | some o =>
    cases o with
    | none => rw [e] at h; cases h
    | some sl =>
      rw [e] at h
      obtain ⟨v, hv, hs⟩ := r.sl i sl e
      cases sl with
      | val d =>
        cases h
        obtain ⟨w, rfl, q⟩ := hs
        exact ⟨w, hv, q.inb⟩
      | own ds =>
        cases h
        obtain ⟨p, vs, rfl, nf, nh, n0, hp, l, hd⟩ := hs
        exact ⟨_, hv, .lst (.inr ⟨i, _, e, rfl, hv⟩) hp l hd.inb⟩
      | ownI c all ns ds =>
        cases h
        obtain ⟨p, dx, fs, rfl, nf, nh, n0, hp, hk, ho, hn, hd⟩ := hs
        exact ⟨_, hv, .ins (.inr ⟨i, _, e, rfl, hv⟩) hp hk ⟨ho.cl, fun n h => ho.na n (hn n h), fun n h m h' => ho.inj n (hn n h) m (hn m h')⟩ hd.inb⟩
      | _ => cases h
theorem s_aug {o : BOp} {op : Operator} (ho : AugR X o op) (hN : X.N.Nodup) (hi : X.N[i]? = some x) (hx : Loc X.env.scope x) (hf : X.fn x = true) (he : PE X e (tV (cmX X ca fl) v (fun ρ => cl (isOwn ρ) sE) kk Wx)) :
    PS X (.AugAssign (.Name x p) op e pos) (tS (cmX X ca fl) (fun ρ => match getS ρ i with
      | some x => eS ρ (v ρ) fun y => eS ρ (augW o x y) fun z => nxt (setV ρ i z)
      | none => failS) Wx) := by
  obtain ⟨ti, h1, h2⟩ := ho
  refine ⟨fun pins s σ H K I h => (ps_aug hN hi hx he h1 (.inl hf)).run pins s σ H K I ?_⟩
  obtain ⟨S, F, ρ, Qd, Xd, r, hw, lk, xk⟩ := h
  cases hg : getS ρ i with
  | none => rw [hg] at hw; exact hw.elim
  | some d =>
    rw [hg] at hw
    obtain ⟨u, hu, hd⟩ := getS_of r hg
    refine ⟨u, hu, one r hw (xk.xk r) fun F2 H2 w y e2 r2 x2 b2 q => ?_⟩
    have hd2 := hd.mono (Fb.up e2.up) (r.stab e2)
    refine h2 ca fl (Fb F2 ρ σ) (Fb F2 ρ σ) S.hd H2 d y u w _ _ _ hd2 b2.b q fun z d' hz hn hq => ?_
    exact lk.nx F2 _ _ H2 (r2.setV (hz.bare hn)) hq
end
end DV
/-! DV: what is owned: made, grown, stored into. -/
namespace DV
open PySem PySem.Spec PyProof.Rows L2
/-- a fresh list -/
def tN (cm : Cm) (v : Env → W D) (Wx : WX) : TE := fun σ H Q => ∃ (S : Sit) (F : AP) (ρ : Env) (Qd Ed : D → Prop), Real cm S F ρ σ H ∧ v ρ Qd Ed ∧
  (∀ (F' : AP) (H' : Hp) (q : Addr) (vs : List V) (ds : List D), Ev S.hd H H' F F' → ¬ F' q → S.hd ≠ some q → H q = none → H' q = some (.lst vs) → vs.length ≤ sizeLine → DenL cm F' S.hd H' vs ds → Qd (.lst ds) → Q (.ref q) H') ∧
  Xk cm S Ed F H (fun cls d H' => Wx cls d σ H')
theorem WF.fr {F : AP} {hd : Option Addr} {H : Hp} {p : Addr} (w : WF F hd H) (hp : H p = none) : ¬ F p ∧ hd ≠ some p := ⟨fun z => w.tr p z hp, fun z => by
  obtain ⟨_, _, _, _, _, q, _⟩ := w.ho p z
  rw [hp] at q; cases q⟩
theorem Ev.free {hd : Option Addr} {F F' : AP} {H H' : Hp} {p : Addr} (e : Ev hd H H' F F') (h : H' p = none) : H p = none := by
  cases q : H p with
  | none => rfl
  | some o =>
    rw [e.sb p o q (e.wf.fr h).2] at h; cases h
section
variable {X : Cx} {ca : Ca} {fl : Nat → Str} {Wx : WX} {st : Stmt} {rest sts : List Stmt} {pos : Pos} {a b : Env → WS}
variable {e e2 c : Expr} {v w2 : Env → W D} {kk kk2 : Env → Bool} {sE s2 : E} {i j : Nat} {x y : Str} {p p1 p2 p3 pt : Pos}
theorem f_lst {es : List Expr} {sE : Es} {w : Env → W (List D)} {t : TA} (h : PA X es t) (ha : AR (cmX X ca fl) Wx sE w t) :
    PE X (.List es pos) (tN (cmX X ca fl) (fun ρ => req (cls (isOwn ρ) sE = true) (bnd (w ρ) fun ds => req (ds.length ≤ sizeLine) (ret (.lst ds)))) Wx) := by
  refine ⟨fun pins s σ H Q I hh => (pe_lst h).run pins s σ H Q I ?_⟩
  obtain ⟨S, F, ρ, Qd, Ed, r, ⟨hcl, hq⟩, lk, xk⟩ := hh
  refine ha.run S F ρ σ H Ed _ _ r hq xk fun F2 H2 vs ds e2 r2 x2 b2 q => ?_
  obtain ⟨q1, q2⟩ := q
  have el := b2.ball.length
  refine ⟨by omega, fun p hp => ?_⟩
  have e3 : Ev S.hd H2 (upd H2 p (.lst vs)) F2 F2 := Ev.new0 r2.wf hp
  exact lk F2 _ p vs ds (e2.trans r.wf e3) (r2.wf.fr hp).1 (r2.wf.fr hp).2 (e2.free hp) upd_same (by omega) ((b2.cle hcl).mono (fun _ z => z) (e3.sta r2.wf)) q2
theorem f_list {es : List Expr} {sE : Es} {w : Env → W (List D)} {t : TA} (hg : Gl X "list") (hm : X.mg "list" = none) (hs : (e :: es).all notStar = true) (h : PA X (e :: es) t) (ha : AR (cmX X ca fl) Wx sE w t) :
    PE X (.Call (.Name "list" p) (e :: es) [] pos) (tN (cmX X ca fl) (fun ρ => req (ccs (isOwn ρ) sE = true) (bnd (w ρ) fun ds => bfW .list ds)) Wx) := by
  have hs' : notStar e = true ∧ es.all notStar = true := by simpa using hs
  refine ⟨fun pins s σ H Q I hh => (pe_callTy call_list_of hg hm (by decide +kernel) h (by decide +kernel) (by decide +kernel) (star_cons hs'.1) (star_any hs'.2)).run pins s σ H Q I ?_⟩
  obtain ⟨S, F, ρ, Qd, Ed, r, ⟨hcl, hq⟩, lk, xk⟩ := hh
  refine ha.run S F ρ σ H Ed _ _ r hq xk fun F2 H2 vs ds e2 r2 x2 b2 q => ?_
  have hl := b2.len
  have hk := b2.cce (c := True) fun _ => hcl
  have go : ∀ (q : Addr) (ws : List V) (xs : List D), ws.length ≤ sizeLine → DenL (cmX X ca fl) F2 S.hd H2 ws xs → Qd (.lst xs) → ∀ l, H2 l = none → Q (.ref l) (upd H2 l (.lst ws)) := fun q ws xs l1 dd q2 p hp => by
    have e3 : Ev S.hd H2 (upd H2 p (.lst ws)) F2 F2 := Ev.new0 r2.wf hp
    exact lk F2 _ p ws xs (e2.trans r.wf e3) (r2.wf.fr hp).1 (r2.wf.fr hp).2 (e2.free hp) upd_same l1 (dd.mono (fun _ z => z) (e3.sta r2.wf)) q2
  have sub : ∀ a, Fc True F2 (Fb F2 ρ σ) a → F2 a := fun a z => z.elim (fun z => z) fun z => absurd trivial z.1
  match ds, q with
  | [d], q =>
    obtain ⟨u, rfl⟩ := len1 hl
    have h := hk 0 u d rfl rfl
    cases d with
    | lst xs =>
      obtain ⟨p, vs, rfl, hp, l, dd⟩ := h
      exact ⟨p, vs, rfl, .inl (.inl (.inl hp)), go p vs xs l (dd.mono sub (.refl _ _)) q⟩
    | tup xs =>
      obtain ⟨p, vs, rfl, hp, l, dd⟩ := Den.tupI h
      exact ⟨p, vs, rfl, .inr hp, go p vs xs l (dd.mono sub (.refl _ _)) q⟩
    | _ => exact False.elim q
theorem f_lrng {w : Env → W (List D)} (hc : X.calm = true) (hg : Gl X "list") (hm : X.mg "list" = none) (hs : notStar e = true) (he : PRi X (cmX X ca fl) Wx e w) : PE X (.Call (.Name "list" p) [e] [] pos) (tN (cmX X ca fl) (fun ρ => bnd (w ρ) fun xs => ret (if false = true then .tup xs else .lst xs)) Wx) := by
  obtain ⟨t, h1, h2⟩ := he
  refine ⟨fun pins s σ H Q I hh => (pe_listRg hc hg hm h1 (star_cons hs)).run pins s σ H Q I ?_⟩
  obtain ⟨S, F, ρ, Qd, Ed, r, hq, lk, xk⟩ := hh
  refine h2 S F ρ σ H Ed _ _ r hq xk fun F2 H2 a b e2 r2 ok q => ⟨ok, fun p hp => ?_⟩
  have e3 : Ev S.hd H2 (upd H2 p (.lst (rgV a b))) F2 F2 := Ev.new0 r2.wf hp
  refine lk F2 _ p _ _ (e2.trans r.wf e3) (r2.wf.fr hp).1 (r2.wf.fr hp).2 (e2.free hp) upd_same ?_ (rgV_den a b) q
  rw [rgV_length, sl24]
  exact ok.2.2.2.2
/-- name = a fresh list -/
theorem s_own {g : Env → Prop} (hN : X.N.Nodup) (hi : X.N[i]? = some x) (hx : Loc X.env.scope x) (hf : X.fn x = true) (he : PE X e (tN (cmX X ca fl) v Wx)) (hs : swapsWith e (some (.Name x p)) pos.line X.env = pure false) :
    PS X (.Assign [.Name x p] e pos) (tS (cmX X ca fl) (fun ρ => reqS (noMat ρ = true) (eS ρ (v ρ) fun d => match d with
      | .lst ds => nxt (setO ρ i ds)
      | _ => failS)) Wx) := ⟨fun pins s σ H K I h => (ps_set hN hi hx he hs (.inl hf)).run pins s σ H K I (by
  obtain ⟨S, F, ρ, Qd, Xd, r, ⟨hm, hw⟩, lk, xk⟩ := h
  exact ⟨S, F, ρ, _, _, r, hw, fun F' H' q vs ds e nf nh n0 hp l hd hQ => lk.nx F' _ _ H' (r.ownF e hm nf nh n0 hp l hd) hQ, xk.xk r⟩)⟩
theorem own_at {cm : Cm} {S : Sit} {F : AP} {ρ : Env} {σ : L2.St} {H : Hp} {k : List D → WS} {Qd : Fl → Prop} {Xd : D → Env → Prop} (r : Real cm S F ρ σ H) (h : ownS ρ i k Qd Xd) :
    ∃ ds p vs, ρ[i]? = some (some (.own ds)) ∧ σ[i]? = some (some (.ref p)) ∧ ¬ F p ∧ S.hd ≠ some p ∧ S.H0 p = none ∧ H p = some (.lst vs) ∧ vs.length ≤ sizeLine ∧ DenL cm F S.hd H vs ds ∧ k ds Qd Xd := by
  unfold ownS at h
  cases e : ρ[i]? with
  | none => rw [e] at h; exact h.elim
  | some o =>
    cases o with
    | none => rw [e] at h; exact h.elim
    | some sl =>
      rw [e] at h
      obtain ⟨v, hv, hs⟩ := r.sl i sl e
      cases sl with
      | own ds =>
        obtain ⟨p, vs, rfl, h1, h2, h3, h4, h5, h6⟩ := hs
        exact ⟨ds, p, vs, rfl, hv, h1, h2, h3, h4, h5, h6, h⟩
      | _ => exact h.elim
theorem mat_at {cm : Cm} {S : Sit} {F : AP} {ρ : Env} {σ : L2.St} {H : Hp} {k : List (List D) → WS} {Qd : Fl → Prop} {Xd : D → Env → Prop} (r : Real cm S F ρ σ H) (h : matS ρ i k Qd Xd) :
    ∃ rs u, ρ[i]? = some (some (.mat rs)) ∧ σ[i]? = some (some u) ∧ k rs Qd Xd := by
  unfold matS at h
  cases e : ρ[i]? with
  | none => rw [e] at h; exact h.elim
  | some o =>
    cases o with
    | none => rw [e] at h; exact h.elim
    | some sl =>
      rw [e] at h
      obtain ⟨v, hv, hs⟩ := r.sl i sl e
      cases sl with
      | mat ds =>
        obtain ⟨p, qs, rfl, _⟩ := hs
        exact ⟨ds, _, rfl, hv, h⟩
      | _ => exact h.elim
/-- the owned list changes -/
theorem Real.lstG {cm : Cm} {S : Sit} {F : AP} {ρ : Env} {σ : L2.St} {H : Hp} {ds ds' : List D} {q : Addr} {vs' : List V} (r : Real cm S F ρ σ H) (hi : ρ[i]? = some (some (.own ds))) (hv : σ[i]? = some (some (.ref q))) (l : vs'.length ≤ sizeLine) (hd : DenL cm F S.hd H vs' ds') :
    Real cm S F (setO ρ i ds') σ (upd H q (.lst vs')) := by
  obtain ⟨w, hw, p, vs, ev, h1, h2, h3, h4, h5, h6⟩ := r.sl i _ hi
  rw [hv] at hw
  cases hw
  cases ev
  refine r.mutG (s' := .own ds') hi rfl rfl rfl h1 h2 h3 h4 ntf_lst (.inr hv) fun v hv' => ?_
  rw [hv] at hv'
  cases hv'
  exact ⟨_, vs', rfl, h1, h2, h3, upd_same, l, hd.mono (fun _ z => z) ((Sta.refl F H).mut' h1 h4 ntf_lst)⟩
theorem pe_ap1 {m : Str} {id : String} {r : V → List V → Hp → VK → Prop} {te : TE} (slot : PySem.Slot "list" m id) (hty : typeOf (.builtin id) = pure (.type "method_descriptor")) (hm : MtR X id r) (hi : X.N[i]? = some x) (hx : Vis X.env.scope x) (hn : nodb x = true) (hb : noBase (.Name x p1) = true) (hl : (p2.endLine == p3.line) = true) (hst : notStar e = true) (he : PE X e te) :
    PE X (.Call (.Attribute (.Name x p1) m p2) [e] [] p3) (tBM X.K "list" r (tVar i) (tCons te tNil)) :=
  pe_bm PySem.F.plainAttrs_list slot hty hm (pe_var hi hx (nodb1 hn) (nodb2 hn)) (pa_cons he pa_nil (star_cons hst)) (base_of hb) (by rw [star_all (by simp [hst])]; rfl) hl (star_cons hst) rfl
theorem s_app (hi : X.N[i]? = some x) (hx : Vis X.env.scope x) (hn : nodb x = true) (hb : noBase (.Name x p1) = true) (hl : (p2.endLine == p3.line) = true) (hst : notStar e = true) (he : PE X e (tV (cmX X ca fl) v (fun ρ => cl (isOwn ρ) sE) kk Wx)) :
    PS X (.Expr (.Call (.Attribute (.Name x p1) "append" p2) [e] [] p3) pos) (tS (cmX X ca fl) (fun ρ => ownS ρ i fun ds => eS ρ (v ρ) fun d => reqS (okV ρ sE d ∧ ds.length < sizeLine) (nxt (setO ρ i (ds ++ [d])))) Wx) := ⟨fun pins s σ H K I h =>
  (ps_expr (pe_ap1 PySem.F.slot_list_append PySem.F.type_list_append mt_append hi hx hn hb hl hst he)).run pins s σ H K I (by
  obtain ⟨S, F, ρ, Qd, Xd, r, hw, lk, xk⟩ := h
  obtain ⟨ds, q, vs, e0, hv, h1, h2, h3, h4, h5, h6, hw⟩ := own_at r hw
  refine ⟨.ref q, hv, .inl ⟨rfl, vs, SqL.of h4⟩, one r hw (xk.xk r) fun F2 H2 u d e2 r2 x2 b2 q => ?_⟩
  have h4' := e2.sb _ _ h4 h2
  have hl := h6.length
  refine ⟨_, vs, u, rfl, rfl, h4', by have := q.1.2; omega, ?_⟩
  refine lk.nx F2 _ _ _ (r2.lstG e0 hv (by rw [List.length_append]; have := q.1.2; show vs.length + 1 ≤ _; omega) ?_) q.2
  exact (h6.mono e2.up (e2.sta r.wf)).append (.cons (q.1.1.den b2) .nil))⟩
theorem s_ext (hi : X.N[i]? = some x) (hx : Vis X.env.scope x) (hn : nodb x = true) (hb : noBase (.Name x p1) = true) (hl : (p2.endLine == p3.line) = true) (hst : notStar e = true) (he : PE X e (tV (cmX X ca fl) v (fun ρ => cl (isOwn ρ) sE) (fun ρ => cc (isOwn ρ) sE) Wx)) :
    PS X (.Expr (.Call (.Attribute (.Name x p1) "extend" p2) [e] [] p3) pos) (tS (cmX X ca fl) (fun ρ => ownS ρ i fun ds => eS ρ (v ρ) fun d => match d with
      | .lst xs => reqS ((cc (isOwn ρ) sE = true ∨ noRefs xs = true) ∧ ds.length + xs.length ≤ sizeLine) (nxt (setO ρ i (ds ++ xs)))
      | _ => failS) Wx) := ⟨fun pins s σ H K I h =>
  (ps_expr (pe_ap1 PySem.F.slot_list_extend PySem.F.type_list_extend mt_extend hi hx hn hb hl hst he)).run pins s σ H K I (by
  obtain ⟨S, F, ρ, Qd, Xd, r, hw, lk, xk⟩ := h
  obtain ⟨ds, q, vs, e0, hv, h1, h2, h3, h4, h5, h6, hw⟩ := own_at r hw
  refine ⟨.ref q, hv, .inl ⟨rfl, vs, SqL.of h4⟩, one r hw (xk.xk r) fun F2 H2 u d e2 r2 x2 b2 q => ?_⟩
  have h4' := e2.sb _ _ h4 h2
  have hl := h6.length
  cases d with
  | lst xs =>
    obtain ⟨⟨g1, g2⟩, g3⟩ := q
    obtain ⟨b, zs, rfl, fb, hz, lz, dz⟩ := b2.b.lstI
    have dz' : DenL (cmX X ca fl) F2 S.hd H2 zs xs := by
      rcases g1 with g1 | g1
      · obtain ⟨b', zs', ez, hz', _, dz'⟩ := b2.k g1
        cases ez
        rw [hz] at hz'
        cases hz'
        exact dz'
      · exact dz.bare g1
    have hl2 := dz.length
    refine ⟨_, b, vs, zs, rfl, rfl, h4', hz, by omega, ?_⟩
    refine lk.nx F2 _ _ _ (r2.lstG e0 hv (by rw [List.length_append]; omega) ?_) g3
    exact (h6.mono e2.up (e2.sta r.wf)).append dz'
  | _ => exact q.elim)⟩
theorem s_six (hi : X.N[i]? = some x) (hx : Vis X.env.scope x) (hn : nodb x = true) (hb : notSlice e2 = true) (he : PE X e (tV (cmX X ca fl) v (fun ρ => cl (isOwn ρ) sE) kk Wx)) (hj : PE X e2 (tV (cmX X ca fl) w2 (fun ρ => cl (isOwn ρ) s2) kk2 Wx)) (hs : swapsWithSole [.Subscript (.Name x p1) e2 p2] e pos.line X.env = pure false) (hw : swappedStores [.Subscript (.Name x p1) e2 p2] e X.env = pure none) :
    PS X (.Assign [.Subscript (.Name x p1) e2 p2] e pos) (tS (cmX X ca fl) (fun ρ => eS ρ (v ρ) fun d => ownS ρ i fun ds => eS ρ (w2 ρ) fun k => reqS (okV ρ sE d) (match k with
      | .int z => match ixN ds.length z with
        | some n => nxt (setO ρ i (ds.set n d))
        | none => failS
      | _ => failS)) Wx) := ⟨fun pins s σ H K I h =>
  (ps_asg he (pg_sub (pe_var hi hx (nodb1 hn) (nodb2 hn)) hj set_list (by intro v; cases e2 <;> first | rfl | cases hb)) hs hw rfl).run pins s σ H K I (by
  obtain ⟨S, F, ρ, Qd, Xd, r, hw, lk, xk⟩ := h
  refine one r hw (xk.xk r) fun F2 H2 u d e2 r2 x2 b2 q => ?_
  obtain ⟨ds, q, vs, e0, hv, h1, h2, h3, h4, h5, h6, hw⟩ := own_at r2 q
  refine ⟨.ref q, hv, one r2 hw x2 fun F3 H3 ku k e3 r3 x3 b3 q => ?_⟩
  obtain ⟨g1, g2⟩ := q
  have h4' := e3.sb _ _ h4 h2
  cases k with
  | int z =>
    cases b3.b.intI
    have hl := h6.length
    dsimp only at g2
    cases hn : ixN ds.length z with
    | none => rw [hn] at g2; exact g2.elim
    | some n =>
      rw [hn] at g2
      refine ⟨_, vs, z, n, rfl, rfl, h4', by rw [hl]; exact hn, ?_⟩
      refine lk.nx F3 _ _ _ (r3.lstG e0 hv (by rw [List.length_set]; omega) ?_) g2
      exact (h6.mono e3.up (e3.sta r2.wf)).set ((g1.den b2).mono e3.up (e3.sta r2.wf)) n
  | _ => exact g2.elim)⟩
theorem nd_ix {l : List Addr} (hN : l.Nodup) {i j : Nat} {x : Addr} (a : l[i]? = some x) (b : l[j]? = some x) : i = j := by
  obtain ⟨h1, e1⟩ := List.getElem?_eq_some_iff.mp a
  obtain ⟨h2, e2⟩ := List.getElem?_eq_some_iff.mp b
  exact (List.getElem_inj hN).mp (e1.trans e2.symm)
theorem s_six2 {e3 : Expr} {w3 : Env → W D} {kk3 : Env → Bool} {s3 : E} (hi : X.N[i]? = some x) (hx : Vis X.env.scope x) (hn : nodb x = true) (hb : notSlice e2 = true) (hb3 : notSlice e3 = true) (he : PE X e (tV (cmX X ca fl) v (fun ρ => cl (isOwn ρ) sE) kk Wx)) (hj : PE X e2 (tV (cmX X ca fl) w2 (fun ρ => cl (isOwn ρ) s2) kk2 Wx)) (hk : PE X e3 (tV (cmX X ca fl) w3 (fun ρ => cl (isOwn ρ) s3) kk3 Wx))
    (hs : swapsWithSole [.Subscript (.Subscript (.Name x p1) e2 p2) e3 p3] e pos.line X.env = pure false) (hw : swappedStores [.Subscript (.Subscript (.Name x p1) e2 p2) e3 p3] e X.env = pure none) :
    PS X (.Assign [.Subscript (.Subscript (.Name x p1) e2 p2) e3 p3] e pos) (tS (cmX X ca fl) (fun ρ => eS ρ (v ρ) fun d => matS ρ i fun rs => eS ρ (w2 ρ) fun a => match a with
      | .int x => match rs[x.toNat]? with
        | some row => reqS (0 ≤ x) (eS ρ (w3 ρ) fun b => reqS (okV ρ sE d) (match b with
          | .int y => reqS (0 ≤ y ∧ y.toNat < row.length) (nxt (setM ρ i (rs.set x.toNat (row.set y.toNat d))))
          | _ => failS))
        | none => failS
      | _ => failS) Wx) := ⟨fun pins s σ H K I h =>
  (ps_asg he (pg_sub (pe_ix ix_list (pe_var hi hx (nodb1 hn) (nodb2 hn)) hj (plainIx_of hb)) hk set_list (by intro v; cases e3 <;> first | rfl | cases hb3)) hs hw rfl).run pins s σ H K I (by
  obtain ⟨S, F, ρ, Qd, Xd, r, hw, lk, xk⟩ := h
  refine one r hw (xk.xk r) fun F2 H2 u d e2 r2 x2 b2 q => ?_
  obtain ⟨rs, u', e0, hv, hw⟩ := mat_at r2 q
  refine ⟨u', hv, one r2 hw x2 fun F3 H3 ku k e3 r3 x3 b3 q => ?_⟩
  cases k with
  | int z =>
    cases b3.b.intI
    dsimp only at q
    cases hr : rs[z.toNat]? with
    | none => rw [hr] at q; exact q.elim
    | some row =>
      rw [hr] at q
      obtain ⟨z0, q⟩ := q
      obtain ⟨w, hw', p, qs, ev, h1, h2, h3, h4, h5, h6, h7, h8, h9⟩ := r3.sl i _ e0
      rw [hv] at hw'
      cases hw'
      cases ev
      have hzl : z.toNat < rs.length := by
        by_cases zz : z.toNat < rs.length
        · exact zz
        · rw [List.getElem?_eq_none (by omega)] at hr; cases hr
      have hq : qs[z.toNat]? = some qs[z.toNat] := List.getElem?_eq_getElem (by omega)
      obtain ⟨g1, g2, g3, vs, g4, g5, g6⟩ := h9 z.toNat _ row hq hr
      have hz : z < (qs.map V.ref).length := by rw [List.length_map]; omega
      refine ⟨p, qs.map V.ref, z, .ref qs[z.toNat], rfl, rfl, SqL.of h4, ?_, one r3 q x3 fun F4 H4 yu yk e4 r4 x4 b4 q => ?_⟩
      · unfold atI ixN
        rw [if_pos z0, if_pos hz]
        show (qs.map V.ref)[z.toNat]? = _
        rw [List.getElem?_map, hq]; rfl
      obtain ⟨k1, k2⟩ := q
      cases yk with
      | int y =>
        cases b4.b.intI
        obtain ⟨⟨y0, y1⟩, k2⟩ := k2
        have hl := g6.length
        have g4' := e4.sb _ _ g4 g2
        refine ⟨qs[z.toNat], vs, y, y.toNat, rfl, rfl, g4', ?_, ?_⟩
        · unfold ixN
          rw [if_pos y0, if_pos (by omega)]
        refine lk.nx F4 _ _ _ (r4.mutG (s' := .mat (rs.set z.toNat (row.set y.toNat d))) e0 rfl rfl rfl (e4.nf (by rw [g4]; exact (fun z => nomatch z)) g1) g2 g3 g4' ntf_lst (.inl rfl) fun v' hv' => ?_) k2
        obtain ⟨w, hw', p', qs', ev, t1, t2, t3, t4, t5, t6, t7, t8, t9⟩ := r4.sl i _ e0
        rw [hv'] at hw'
        cases hw'
        have ep : p' = p := by
          have := hv'.symm.trans hv
          rw [ev] at this
          have h := Option.some.inj (Option.some.inj this)
          cases h; rfl
        subst ep
        have h4' := e4.sb _ _ h4 h2
        rw [t4] at h4'
        have eq : qs' = qs := by
          have h := HO.lst.inj (Option.some.inj h4')
          have inj : ∀ {l1 l2 : List Addr}, l1.map V.ref = l2.map V.ref → l1 = l2 := by
            intro l1
            induction l1 with
            | nil => intro l2 h; cases l2 with
              | nil => rfl
              | cons _ _ => cases h
            | cons a l ih => intro l2 h; cases l2 with
              | nil => cases h
              | cons b l' =>
                rw [List.map_cons, List.map_cons] at h
                injection h with h1 h2
                cases h1
                rw [ih h2]
          exact inj h
        subst eq
        have np : p' ≠ qs'[z.toNat] := fun zz => t8 (by rw [zz]; exact List.getElem_mem _)
        have st : Sta F4 H4 (upd H4 qs'[z.toNat] (.lst (vs.set y.toNat u))) := (Sta.refl F4 H4).mut' (e4.nf (by rw [g4]; exact (fun z => nomatch z)) g1) g4' ntf_lst
        refine ⟨p', qs', ev, t1, t2, t3, by rw [upd_ne np]; exact t4, by rw [List.length_set]; exact t5, t6, t7, t8, fun k q row' hk1 hk2 => ?_⟩
        rcases set_get hk2 with ⟨rfl, rfl, _⟩ | ⟨hk, hk2'⟩
        · rw [hq] at hk1
          cases hk1
          refine ⟨e4.nf (by rw [g4]; exact (fun z => nomatch z)) g1, g2, g3, _, upd_same, by rw [List.length_set]; exact g5, ?_⟩
          refine DenL.set ?_ _ ?_
          · exact ((okV.den k1 b2).mono (fun a z => e4.up a (e3.up a z)) ((e3.trans r2.wf e4).sta r2.wf)).mono (fun _ z => z) st
          · exact ((g6.mono e4.up (e4.sta r3.wf))).mono (fun _ z => z) st
        · obtain ⟨m1, m2, m3, vs2, m4, m5, m6⟩ := t9 k q row' hk1 hk2'
          have nq : q ≠ qs'[z.toNat] := fun zz => hk (nd_ix t7 hk1 (by rw [hq, zz]))
          exact ⟨m1, m2, m3, vs2, by rw [upd_ne nq]; exact m4, m5, m6.mono (fun _ z => z) st⟩
      | _ => exact k2.elim
  | _ => exact q.elim)⟩
end
end DV
/-! DV: matrices, pop, fields, raise. -/
namespace DV
open PySem PySem.Spec PyProof.Rows L2
theorem rowsOf_lst : ∀ rs : List (List D), rowsOf (rs.map D.lst) = some rs
  | [] => rfl
  | r :: rs => by
    show (rowsOf (rs.map D.lst)).map (r :: ·) = _
    rw [rowsOf_lst rs]; rfl
theorem DenL.eraseIdx {cm : Cm} {F : AP} {hd : Option Addr} {H : Hp} : ∀ {vs : List V} {ds : List D} (n : Nat), DenL cm F hd H vs ds → DenL cm F hd H (vs.eraseIdx n) (ds.eraseIdx n)
  | _, _, _, .nil => .nil
  | _, _, 0, .cons _ t => t
  | _, _, n + 1, .cons r t => .cons r (DenL.eraseIdx n t)
section
variable {X : Cx} {ca : Ca} {fl : Nat → Str} {Wx : WX} {st : Stmt} {rest sts : List Stmt} {pos : Pos} {a b : Env → WS}
variable {e e2 c : Expr} {v w2 : Env → W D} {kk kk2 : Env → Bool} {sE s2 : E} {i j : Nat} {x y : Str} {p p1 p2 p3 p4 p5 p6 pt : Pos}
/-- a field of what is being made -/
theorem putF_new {f : Str} {v : V} : ∀ {fs : List (Str × V)}, f ∉ fs.map (·.1) → putF f v fs = fs ++ [(f, v)]
  | [], _ => rfl
  | (g, x) :: r, h => by
    have h1 : g ≠ f := fun z => h (by rw [z]; simp)
    have h2 : f ∉ r.map (·.1) := fun z => h (by rw [List.map_cons]; exact List.mem_cons_of_mem _ z)
    show (if g = f then (g, v) :: r else (g, x) :: putF f v r) = _
    rw [if_neg h1, putF_new h2]; rfl
theorem s_sfl {f : Nat} (hi : X.N[i]? = some x) (hx : Vis X.env.scope x) (hn : nodb x = true) (he : PE X e (tV (cmX X ca fl) v (fun ρ => cl (isOwn ρ) sE) kk Wx)) (hs : swapsWith e (some (.Attribute (.Name x p1) (fl f) p2)) pos.line X.env = pure false) :
    PS X (.Assign [.Attribute (.Name x p1) (fl f) p2] e pos) (tS (cmX X ca fl) (fun ρ => eS ρ (v ρ) fun d => match ρ[i]? with
      | some (some (.ownI c all ns vs)) => reqS (okV ρ sE d ∧ f ∈ all ∧ f ∉ ns ∧ ns.length < 900) (nxt (ρ.set i (some (.ownI c all (ns ++ [f]) (vs ++ [d])))))
      | _ => failS) Wx) := ⟨fun pins s σ H K I h =>
  (ps_fld (pe_var hi hx (nodb1 hn) (nodb2 hn)) he hs).run pins s σ H K I (by
  obtain ⟨S, F, ρ, Qd, Xd, r, hw, lk, xk⟩ := h
  refine one r hw (xk.xk r) fun F2 H2 u d e2 r2 x2 b2 q => ?_
  dsimp only at q
  cases e0 : ρ[i]? with
  | none => rw [e0] at q; exact q.elim
  | some o =>
    cases o with
    | none => rw [e0] at q; exact q.elim
    | some sl =>
      rw [e0] at q
      obtain ⟨v', hv, hs⟩ := r2.sl i sl e0
      cases sl with
      | ownI c all ns ds =>
        obtain ⟨pp, dx, fs, rfl, h1, h2, h3, h4, h5, h6, h7, h8⟩ := hs
        obtain ⟨⟨g1, g2, g3, g4⟩, g5⟩ := q
        have hk : fl f ∉ fs.map (·.1) := by
          rw [h5]
          intro z
          obtain ⟨n, hn1, hn2⟩ := List.mem_map.mp z
          have := h6.inj n (h7 n hn1) f g2 hn2
          exact g3 (this ▸ hn1)
        have hlen : fs.length = ns.length := by
          have := congrArg List.length h5
          simpa using this
        refine ⟨.ref pp, hv, pp, _, dx, fs, rfl, h4, h6.cl, h6.na f g2, by omega, ?_⟩
        rw [putF_new hk]
        have st : Sta F2 H2 (upd H2 pp (.ins (ca c) dx (fs ++ [(fl f, u)]))) := (Sta.refl F2 H2).mut' h1 h4 ntf_ins
        refine lk.nx F2 _ _ _ (r2.mutG (s' := .ownI c all (ns ++ [f]) (ds ++ [d])) e0 rfl rfl rfl h1 h2 h3.1 h4 ntf_ins (.inr hv) fun w hw => ?_) g5
        rw [hv] at hw
        cases hw
        refine ⟨pp, dx, fs ++ [(fl f, u)], rfl, h1, h2, h3, upd_same, ?_, h6, fun n hn => ?_, ?_⟩
        · rw [List.map_append, List.map_append, h5]; rfl
        · rcases List.mem_append.mp hn with z | z
          · exact h7 n z
          · rw [List.mem_singleton.mp z]; exact g2
        · rw [List.map_append]
          exact (h8.mono (fun _ z => z) st).append (.cons ((okV.den g1 b2).mono (fun _ z => z) st) .nil)
      | _ => exact q.elim)⟩
/-- told.append(left.pop(e)) -/
theorem s_apop (hi : X.N[i]? = some x) (hx : Vis X.env.scope x) (hn : nodb x = true) (hb : noBase (.Name x p1) = true) (hl : (p2.endLine == p3.line) = true) (hj : X.N[j]? = some y) (hy : Vis X.env.scope y) (hny : nodb y = true) (hby : noBase (.Name y p4) = true) (hly : (p5.endLine == p6.line) = true) (hst : notStar e = true) (he : PE X e (tV (cmX X ca fl) v (fun ρ => cl (isOwn ρ) sE) kk Wx)) :
    PS X (.Expr (.Call (.Attribute (.Name x p1) "append" p2) [.Call (.Attribute (.Name y p4) "pop" p5) [e] [] p6] [] p3) pos) (tS (cmX X ca fl) (fun ρ => ownS ρ i fun ds => ownS ρ j fun es => eS ρ (v ρ) fun k => reqS (i ≠ j ∧ ds.length < sizeLine) (match k with
      | .int z => match es[z.toNat]? with
        | some d => reqS (0 ≤ z ∧ z < 2 ^ 63) (nxt (setO (setO ρ j (es.eraseIdx z.toNat)) i (ds ++ [d])))
        | none => failS
      | _ => failS)) Wx) := ⟨fun pins s σ H K I h =>
  (ps_expr (pe_ap1 PySem.F.slot_list_append PySem.F.type_list_append mt_append hi hx hn hb hl rfl (pe_ap1 PySem.F.slot_list_pop PySem.F.type_list_pop mt_popAt hj hy hny hby hly hst he))).run pins s σ H K I (by
  obtain ⟨S, F, ρ, Qd, Xd, r, hw, lk, xk⟩ := h
  obtain ⟨ds, q, vs, e0, hv, h1, h2, h3, h4, h5, h6, hw⟩ := own_at r hw
  obtain ⟨es, q', vs', e0', hv', h1', h2', h3', h4', h5', h6', hw⟩ := own_at r hw
  refine ⟨.ref q, hv, .inl ⟨rfl, vs, SqL.of h4⟩, .ref q', hv', .inl ⟨rfl, vs', SqL.of h4'⟩, one r hw (xk.xk r) fun F2 H2 u d e2 r2 x2 b2 qq => ?_⟩
  obtain ⟨⟨g1, g2⟩, g3⟩ := qq
  have k4 := e2.sb _ _ h4 h2
  have k4' := e2.sb _ _ h4' h2'
  cases d with
  | int z =>
    cases b2.b.intI
    dsimp only at g3
    cases hd : es[z.toNat]? with
    | none => rw [hd] at g3; exact g3.elim
    | some d =>
      rw [hd] at g3
      obtain ⟨⟨z0, z1⟩, g3⟩ := g3
      obtain ⟨w, hw1, hw2⟩ := h6'.get' hd
      have hzl : z.toNat < vs'.length := by
        by_cases zz : z.toNat < vs'.length
        · exact zz
        · rw [List.getElem?_eq_none (by omega)] at hw1; cases hw1
      have hl := h6.length
      have hl' := h6'.length
      refine ⟨q', vs', z, z.toNat, w, rfl, rfl, k4', by omega, z1, seqIndex_of z0 (by omega), hw1, ?_⟩
      have np : q ≠ q' := fun zz => g1 (r2.ap i j _ _ q e0 e0' rfl rfl hv (by rw [hv', zz]))
      have r3 := r2.lstG (vs' := vs'.eraseIdx z.toNat) (ds' := es.eraseIdx z.toNat) e0' hv' (by have := len_erase vs' z.toNat; omega) ((h6'.mono e2.up (e2.sta r.wf)).eraseIdx _)
      have st : Sta F2 H2 (upd H2 q' (.lst (vs'.eraseIdx z.toNat))) := (Sta.refl F2 H2).mut' (e2.nf (by rw [h4']; exact (fun z => nomatch z)) h1') k4' ntf_lst
      refine ⟨q, vs, w, rfl, rfl, by rw [upd_ne np]; exact k4, by omega, ?_⟩
      refine lk.nx F2 _ _ _ (r3.lstG (ds := ds) (by unfold setO; rw [List.getElem?_set_ne (Ne.symm g1)]; exact e0) hv (by rw [List.length_append]; show vs.length + 1 ≤ _; omega) ?_) g3
      exact ((h6.mono e2.up (e2.sta r.wf)).mono (fun _ z => z) st).append (.cons ((hw2.mono e2.up (e2.sta r.wf)).mono (fun _ z => z) st) .nil)
  | _ => exact g3.elim)⟩
/-- making an exception -/
def XoK (cm : Cm) (H1 H2 : Hp) (c : Nat) (ns : List Nat) (vs : List V) (cls : Value) (dd : Option Addr) : Prop := cls = .ref (cm.ca c) ∧ (∀ a o, H1 a = some o → H2 a = some o) ∧
  ((ns = [] ∧ dd = none) ∨ ∃ (d : Addr) (fs : List (Str × V)), dd = some d ∧ H2 d = some (.xd fs) ∧ ∀ (j n : Nat) (v : V), ns[j]? = some n → vs[j]? = some v → fs.lookup (cm.fl n) = some v)
def ExE (X : Cx) (ca : Ca) (fl : Nat → Str) (x : Str) (c : Nat) (ns : List Nat) : Prop := ∀ (args : List Expr) (t : TA) (p pos : Pos), Gl X x → nodb x = true → PA X args t → args.all notStar = true → (args = [] → t = tNil) → args.length = ns.length →
  PMk X (.Call (.Name x p) args [] pos) (fun σ H R => t σ H fun vs H1 => vs.length = ns.length ∧ (∀ (w : V), w ∈ vs → True) ∧ ∀ (cls : Value) (dd : Option Addr) (H2 : Hp), XoK (cmX X ca fl) H1 H2 c ns vs cls dd → R cls dd H2)
theorem KnL.lenE {cm : Cm} {hd : Option Addr} {F B : AP} {H : Hp} {c k : E → Prop} : ∀ {es : Es} {us : List V} {ds : List D}, KnL cm hd F B H es c k us ds → ds.length = esLen es ∧ us.length = esLen es
  | _, _, _, .nil => ⟨rfl, rfl⟩
  | _, _, _, .cons _ t => ⟨congrArg (· + 1) (KnL.lenE t).1, congrArg (· + 1) (KnL.lenE t).2⟩
theorem s_rse {cN : Nat} {ns : List Nat} {args : List Expr} {t : TA} {es : Es} {w : Env → W (List D)} (hc : X.calm = true) (tk : Takes X Wx) (hE : ExE X ca fl x cN ns) (hg : Gl X x) (hn : nodb x = true) (ha : PA X args t) (hs : args.all notStar = true) (h0 : args = [] → t = tNil) (hl : args.length = esLen es) (har : AR (cmX X ca fl) Wx es w t) :
    PS X (.Raise (some (.Call (.Name x p) args [] p1)) none pos) (tS (cmX X ca fl) (fun ρ => reqS (cls (isOwn ρ) es = true ∧ ns.length = esLen es) (eS ρ (w ρ) fun ds _ X => X (.ins cN ns ds) ρ)) Wx) := ⟨fun pins s σ H K I h => by
  obtain ⟨S, F, ρ, Qd, Xd, r, ⟨⟨hcl, hlen⟩, hw⟩, lk, xk⟩ := h
  refine (ps_raise hc tk (hE args t p p1 hg hn ha hs h0 (by omega))).run pins s σ H K I ?_
  refine har.run S F ρ σ H _ _ _ r hw (xk.xk r) fun F2 H2 vs ds e2 r2 x2 b2 q => ⟨?_, fun _ _ => trivial, fun cls dd H3 ho => ?_⟩
  · rw [hlen]; exact b2.lenE.2
  obtain ⟨k1, k2, k3⟩ := ho
  have e3 : Ev S.hd H2 H3 F2 F2 := .same r2.wf k2
  refine x2 F2 H3 cls dd _ e3 ⟨cN, ns, vs, ds, rfl, k1, (b2.cle hcl).mono (fun _ z => z) (e3.sta r2.wf), by rw [hlen]; exact b2.lenE.1.symm, k3⟩ q⟩
/-- a fresh list by a comprehension -/
theorem f_comp {elt tg iter : Expr} {ifs : List Expr} {scope : Scope} {own : List (Str × Nat)} {ts : List Nat} {un : Bool} {g : TG} {it : Env → W (List D)} {c cc' : Env → Bool} {tc : Env → W Bool} {te : Env → W D} {ke : Env → Bool}
    (hc : X.calm = true) (hN : X.N.Nodup) (hi : PI X tg iter (tI (cmX X ca fl) it c cc' Wx)) (ok : BlkOk X.N X.env.scope scope own) (hts : own.map (·.2) = ts) (hgp : TgP (cmX X ca fl) ts un g)
    (hg : ∀ (s : Shared) (H : Hp) (C : Addr) (cl : List (Str × Addr)) (fp : List Addr), PG (X.blk s H scope (compEnvC scope cl C X.env) fp) tg g)
    (ht : ∀ (s : Shared) (H : Hp) (C : Addr) (cl : List (Str × Addr)) (fp : List Addr), PTs (X.blk s H scope (compEnvC scope cl C X.env) fp) ifs (tT (cmX X ca fl) tc noW))
    (he : ∀ (s : Shared) (H : Hp) (C : Addr) (cl' : List (Str × Addr)) (fp : List Addr), PE (X.blk s H scope (compEnvC scope cl' C X.env) fp) elt (tV (cmX X ca fl) te (fun ρ => cl (isOwn ρ) sE) ke noW)) (hs : ∀ x, foldedSetIterable iter X.env x = pure x) :
    PE X (.ListComp elt [⟨tg, iter, ifs, 0⟩] scope pos) (tN (cmX X ca fl) (fun ρ => req (cc' ρ = true ∧ cl (isOwn (wipeE ρ ts)) sE = true) (bnd (it ρ) fun xs => bnd (nox (compW (fun d => bindT ts un d (wipeE ρ ts)) tc te xs)) fun ys => ret (.lst ys))) Wx) := by
  have core := (n_comp (pos := pos) (cF := fun _ => true) (kF := fun _ => true) hc hN hi ok hts hgp hg ht he hs).2.2
  refine ⟨fun pins s σ H Q I h => ?_⟩
  have := (pe_lc (pos := pos) hc hN hi ok hg ht he hs)
  rw [hts] at this
  refine this.run pins s σ H Q I ?_
  obtain ⟨S, F, ρ, Qd, Ed, r, hq, lk, xk⟩ := h
  exact core S F ρ σ H (fun ys => Qd (.lst ys)) Ed Q r hq xk fun F' H' q vs ds e nf nh n0 hp l hd hQ => lk F' H' q vs ds e nf nh n0 hp l hd hQ
/-- rows that are being made -/
structure RowsAt (cm : Cm) (F : AP) (hd : Option Addr) (H0 H : Hp) (D0 : Addr) (qs : List Addr) (rs : List (List D)) : Prop where
  len : qs.length = rs.length
  nd : qs.Nodup
  nD : D0 ∉ qs
  at_ : ∀ (k : Nat) (q : Addr) (row : List D), qs[k]? = some q → rs[k]? = some row → ¬ F q ∧ hd ≠ some q ∧ H0 q = none ∧ ∃ vs, H q = some (.lst vs) ∧ vs.length ≤ sizeLine ∧ DenL cm F hd H vs row
/-- name = [[.. for ..] for ..] -/
theorem s_mat {elt tg iter : Expr} {scope : Scope} {own : List (Str × Nat)} {spos : Pos} {ts : List Nat} {un : Bool} {g : TG} {it : Env → W (List D)} {c cc' : Env → Bool} {te : Env → W D} (hc : X.calm = true) (hN : X.N.Nodup)
    (hi : PI X tg iter (tI (cmX X ca fl) it c cc' Wx)) (ok : BlkOk X.N X.env.scope scope own) (hts : own.map (·.2) = ts) (hgp : TgP (cmX X ca fl) ts un g)
    (hg : ∀ (s : Shared) (H : Hp) (C : Addr) (cl : List (Str × Addr)) (fp : List Addr), PG (X.blk s H scope (compEnvC scope cl C X.env) fp) tg g)
    (he : ∀ (s : Shared) (H : Hp) (C : Addr) (cl' : List (Str × Addr)) (fp : List Addr), PE (X.blk s H scope (compEnvC scope cl' C X.env) fp) elt (tN (cmX X ca fl) te noW)) (hs : ∀ x, foldedSetIterable iter X.env x = pure x)
    (hy : X.N[i]? = some y) (hyl : X.env.scope.names.lookup y = some .local) (hsw : swapsWith (.ListComp elt [⟨tg, iter, [], 0⟩] scope pos) (some (.Name y p)) spos.line X.env = pure true) :
    PS X (.Assign [.Name y p] (.ListComp elt [⟨tg, iter, [], 0⟩] scope pos) spos) (tS (cmX X ca fl) (fun ρ => reqS (noOw ρ = true) (eS ρ (req (cc' ρ = true) (bnd (it ρ) fun xs => bnd (nox (compW (fun d => bindT ts un d (wipeE ρ ts)) (fun _ => ret true) te xs)) fun ys => ret (D.lst ys))) (matK ρ i))) Wx) := by
  have := (ps_setLc (pos := pos) (spos := spos) (py := p) (tt := fun _ H Q => Q true H) hc hN hy hyl hsw hi ok hg (fun _ _ _ _ _ => pts_nil) he hs)
  rw [hts] at this
  refine ⟨fun pins s σ H K I h => this.run pins s σ H K I ?_⟩
  obtain ⟨S, F, ρ, Qd, Xd, r, ⟨hno, q1, hw⟩, lk, xk⟩ := h
  refine ⟨S, F, ρ, _, _, r, hw, fun F1 H1 ds J e1 _ wk q => ?_, xk.xk r⟩
  have wk := wk q1
  intro Dl hDl
  have r1 := r.ev e1
  obtain ⟨nf1, nh⟩ := r1.wf.fr hDl
  refine ⟨fun ix m H' => ix + m = ds.length ∧ ∃ (F' : AP) (qs : List Addr) (rs : List (List D)), Ev S.hd H1 H' F1 F' ∧ ¬ F' Dl ∧ H' Dl = some (.lst (qs.map V.ref)) ∧ RowsAt (cmX X ca fl) F' S.hd H1 H' Dl qs rs ∧ qs.length ≤ ix ∧
    compW (fun d => bindT ts un d (wipeE ρ ts)) (fun _ => ret true) te (ds.drop ix) (fun ys => matK ρ i (.lst (rs.map D.lst ++ ys)) Qd Xd) (fun _ => False), ⟨ds.length, ?_⟩, fun i' m H' hW => ?_⟩
  · refine ⟨Nat.zero_add _, F1, [], [], Ev.new0 r1.wf hDl, nf1, upd_same, ⟨rfl, List.nodup_nil, by simp, fun k q row h _ => by simp at h⟩, Nat.le_refl _, ?_⟩
    exact q
  · obtain ⟨him, F', qs, rs, e', nf, hD, hrs, hlen, hw⟩ := hW
    have st : Sta (Fb F1 ρ σ) H1 H' := r1.stab e'
    by_cases hi' : i' < ds.length
    · refine .inr ⟨wk.go i' H' st hi', fun H2 => i' + 1 + (m - 1) = ds.length ∧ ∃ (F' : AP) (qs : List Addr) (rs : List (List D)), Ev S.hd H1 H2 F1 F' ∧ ¬ F' Dl ∧ H2 Dl = some (.lst (qs.map V.ref)) ∧ RowsAt (cmX X ca fl) F' S.hd H1 H2 Dl qs rs ∧ qs.length ≤ i' + 1 ∧
          compW (fun d => bindT ts un d (wipeE ρ ts)) (fun _ => ret true) te (ds.drop (i' + 1)) (fun ys => matK ρ i (.lst (rs.map D.lst ++ ys)) Qd Xd) (fun _ => False), fun H2 h2 => ⟨m - 1, by omega, h2⟩, fun x H2 y => ?_⟩
      obtain ⟨hH2, d, hd1, hd2⟩ := wk.yld i' H' x H2 st hi' y
      have e2 : Ev S.hd H' H2 F' F' := by
        rcases hH2 with rfl | ⟨p, vs, hp, rfl⟩
        · exact .refl e'.wf
        · exact .new0 e'.wf hp
      have r2 := (r1.ev e').ev e2
      have hdrop : ds.drop i' = d :: ds.drop (i' + 1) := by
        rw [List.drop_eq_getElem_cons hi']
        congr 1
        rw [List.getElem?_eq_getElem hi'] at hd1
        exact Option.some.inj hd1
      rw [hdrop] at hw
      unfold compW at hw
      cases eb : bindT ts un d (wipeE ρ ts) with
      | none => rw [eb] at hw; exact False.elim hw
      | some ρ' =>
        rw [eb] at hw
        refine hgp S F' (wipeE ρ ts) ρ' (L2.wipe σ ts) H2 x d _ (r2.wipe ts) (hd2.mono e'.up (.refl _ _)) eb fun σ' r' ws => ⟨?_, ?_⟩
        · rw [ws]
          exact wipe_eq (wipe_length _ _) fun j hj => by rw [wipe_idx, if_neg fun z => hj z.1]
        have hD2 : H2 Dl = some (.lst (qs.map V.ref)) := e2.sb _ _ hD nh
        dsimp only
        rw [if_pos rfl]
        refine ⟨S, F', ρ', _, fun _ => False, r', hw, fun F4 H4 q vs row e4 nf4 nh4 n04 hp4 l4 hd4 q4 => ?_, Xk.no⟩
        have hD4 : H4 Dl = some (.lst (qs.map V.ref)) := e4.sb _ _ hD2 nh
        have nfD4 : ¬ F4 Dl := e4.nf (by rw [hD2]; exact (fun z => nomatch z)) nf
        have hwl := wk.len
        have qD : q ≠ Dl := fun z => by rw [z, hD2] at n04; cases n04
        have hq1 : H1 q = none := (e'.trans r1.wf e2).free n04
        have qq : q ∉ qs := fun z => by
          obtain ⟨k, hk⟩ := List.getElem?_of_mem z
          have hl : k < qs.length := by
            by_cases z2 : k < qs.length
            · exact z2
            · rw [List.getElem?_eq_none (by omega)] at hk; cases hk
          have hl2 : k < rs.length := by rw [← hrs.len]; exact hl
          obtain ⟨_, g2, _, vs, g4, _⟩ := hrs.at_ k q rs[k] hk (List.getElem?_eq_getElem hl2)
          have := e2.sb _ _ g4 g2
          rw [n04] at this; cases this
        have s1 : Sta F' H' H4 := (e2.trans e'.wf e4).sta e'.wf
        have hmap : qs.map V.ref ++ [V.ref q] = (qs ++ [q]).map V.ref := by rw [List.map_append]; rfl
        refine ⟨qs.map V.ref, hD4, by rw [List.length_map]; omega, by omega, F4, qs ++ [q], rs ++ [row], ((e'.trans r1.wf e2).trans r1.wf e4).mut hDl nfD4 nh, nfD4, ?_, ⟨?_, ?_, ?_, fun k q' row' hk1 hk2 => ?_⟩, by rw [List.length_append]; show qs.length + 1 ≤ i' + 1; omega, ?_⟩
        · rw [upd_same, hmap]
        · rw [List.length_append, List.length_append, hrs.len]; rfl
        · exact List.nodup_append.mpr ⟨hrs.nd, by simp, fun a ha b hb z => by
            rw [List.mem_singleton] at hb
            exact qq (by rw [← hb, ← z]; exact ha)⟩
        · intro z
          rcases List.mem_append.mp z with z | z
          · exact hrs.nD z
          · exact qD (List.mem_singleton.mp z).symm
        · have sm : Sta F4 H4 (upd H4 Dl (.lst (qs.map V.ref ++ [V.ref q]))) := (Sta.refl F4 H4).mut nfD4 hD4
          by_cases hk : k < qs.length
          · rw [List.getElem?_append_left hk] at hk1
            rw [List.getElem?_append_left (by rw [← hrs.len]; exact hk)] at hk2
            obtain ⟨g1, g2, g3, vs', g4, g5, g6⟩ := hrs.at_ k q' row' hk1 hk2
            have nD : q' ≠ Dl := fun z => hrs.nD (by rw [← z]; exact List.mem_of_getElem? hk1)
            refine ⟨(e2.trans e'.wf e4).nf (by rw [g4]; exact (fun z => nomatch z)) g1, g2, g3, vs', by rw [upd_ne nD]; exact e4.sb _ _ (e2.sb _ _ g4 g2) g2, g5, ?_⟩
            exact (g6.mono (fun a z => e4.up a (e2.up a z)) s1).mono (fun _ z => z) sm
          · have hke : k = qs.length := by
              by_cases z : k = qs.length
              · exact z
              · rw [List.getElem?_eq_none (by rw [List.length_append]; show qs.length + 1 ≤ k; omega)] at hk1
                cases hk1
            subst hke
            rw [List.getElem?_append_right (Nat.le_refl _), Nat.sub_self] at hk1
            have hk2 : (rs ++ [row])[rs.length]? = some row' := by rw [← hrs.len]; exact hk2
            rw [List.getElem?_append_right (Nat.le_refl _), Nat.sub_self] at hk2
            cases hk1; cases hk2
            exact ⟨nf4, nh4, hq1, vs, by rw [upd_ne qD]; exact hp4, l4, hd4.mono (fun _ z => z) sm⟩
        · have eA : (fun ys => matK ρ i (.lst ((rs ++ [row]).map D.lst ++ ys)) Qd Xd) = fun ys => matK ρ i (.lst (rs.map D.lst ++ D.lst row :: ys)) Qd Xd := by
            funext ys
            rw [List.map_append, List.append_assoc]; rfl
          rw [eA]
          exact q4
    · have hei : i' = ds.length := by omega
      subst hei
      refine .inl ⟨wk.stop H' st, ?_⟩
      rw [List.drop_length] at hw
      have hw' : matK ρ i (.lst (rs.map D.lst ++ [])) Qd Xd := hw
      unfold matK at hw'
      rw [List.append_nil] at hw'
      dsimp only at hw'
      rw [rowsOf_lst] at hw'
      have r3 := r1.ev e'
      refine lk.nx F' _ _ H' (r3.putS (s' := .mat rs) ⟨Dl, qs, rfl, nf, nh, r1.sb.free hDl nh, hD, hrs.len, Nat.le_trans hlen wk.len, hrs.nd, hrs.nD, fun k q row h1 h2 => ?_⟩ (fun _ j t q' _ e1 o1 _ _ => ?_) (fun _ j t _ e1 => noOw_of hno e1) fun _ j t _ e1 => ?_) hw'
      · obtain ⟨g1, g2, g3, g4⟩ := hrs.at_ k q row h1 h2
        exact ⟨g1, g2, r1.sb.free g3 g2, g4⟩
      · have := noOw_of hno e1
        rw [o1] at this; cases this
      · have := noOw_of hno e1
        cases t <;> first | rfl | cases this
end
end DV
/-! DV: try with several clauses, named or not. -/
namespace DV
open PySem PySem.Spec PyProof.Rows L2
abbrev HdL := List (Value × Option Nat × (Addr → Value → Option Addr → TS))
def offK (D : Ends) (i : Nat) : Ends := { nx := fun σ' H' => D.nx (σ'.set i none) H', rt := D.rt, bk := fun σ' H' => D.bk (σ'.set i none) H', ct := fun σ' H' => D.ct (σ'.set i none) H' }
/-- what the clauses wish of an exception of the body -/
def wMA (K : PySem.W.Frag) (Wout : WX) (D : Ends) : HdL → WX
  | [] => Wout
  | (c, none, ts) :: r => fun cls d σ H => ∃ b, PySem.W.exmOne K cls c = some b ∧ (b = true → ∀ a, H a = none → ts a cls d D σ H) ∧ (b = false → wMA K Wout D r cls d σ H)
  | (c, some i, ts) :: r => fun cls d σ H => ∃ b, PySem.W.exmOne K cls c = some b ∧ (b = true → ∀ a, H a = none → ts a cls d (offK D i) (σ.set i (some (.ref a))) H) ∧ (b = false → wMA K Wout D r cls d σ H)
inductive HdsA (X : Cx) : List ExceptHandler → HdL → Prop
  | nil : HdsA X [] []
  | bare {x : Str} {c : Value} {ts : Addr → Value → Option Addr → TS} {b₀ : Stmt} {suite : List Stmt} {np pos' : Pos} {hds : List ExceptHandler} {l : HdL} (hc : Names X x c)
      (hsu : ∀ (a : Addr) (oe : Obj) (cls : Value) (d : Option Addr) (pn : List (Addr × Obj)), Zc cls d oe → (∃ vs, oe.data = .fields vs) → PSs (X.suite a ((a, oe) :: pn)) (b₀ :: suite) (ts a cls d)) (r : HdsA X hds l) :
      HdsA X (.ExceptHandler (some (.Name x np)) none (b₀ :: suite) pos' :: hds) ((c, none, ts) :: l)
  | named {x n : Str} {i : Nat} {c : Value} {ts : Addr → Value → Option Addr → TS} {b₀ : Stmt} {suite : List Stmt} {np pos' : Pos} {hds : List ExceptHandler} {l : HdL} (hc : Names X x c) (hi : X.N[i]? = some n) (hln : X.env.kindOf n = some .local)
      (hsu : ∀ (a : Addr) (oe : Obj) (cls : Value) (d : Option Addr) (pn : List (Addr × Obj)), Zc cls d oe → (∃ vs, oe.data = .fields vs) → PSs (X.suite a ((a, oe) :: pn)) (b₀ :: suite) (ts a cls d)) (r : HdsA X hds l) :
      HdsA X (.ExceptHandler (some (.Name x np)) (some n) (b₀ :: suite) pos' :: hds) ((c, some i, ts) :: l)
section
variable {X : Cx} {body : List Stmt} {h₀ : ExceptHandler} {hds : List ExceptHandler} {l : HdL} {pos : Pos} {tb : WX → TS} {Wout : WX}
theorem ps_tryA (hs : X.stack = X.env :: X.outer) (hf : X.env.frame = some X.env.locals) (hN : X.N.Nodup) (tk : Takes X Wout)
    (hb : ∀ (W : WX) (pn : List (Addr × Obj)) (xe : Value → Shared → Prop), Takes (X.tr pn xe) W → PassesOwn (model X.prog X.w) X.A X.env xe → PSs (X.tr pn xe) body (tb W))
    (hh : HdsA X (h₀ :: hds) l) : PS X (.Try body (h₀ :: hds) [] [] pos) (fun D σ H => tb (wMA X.K Wout D l) D σ H) := by
  refine ⟨fun pins s σ H D I h => ?_⟩
  have ok := I.ok
  have hfr : X.A.frames = some (X.env :: X.outer) := by rw [ok.frames, hs]
  refine wpAny_Try_except ?_
  refine wpAny_mono ((hb (wMA X.K Wout D l) (X.pn ++ pins) (fun e s₁ => wpAny (model X.prog X.w) X.A (noteFrame e X.env) (fun _ s₂ => wpAny (model X.prog X.w) X.A (setFlight e none) (fun _ s₃ =>
    wpAny (model X.prog X.w) X.A (handleBy e X.env (h₀ :: hds)) (SP X pins D) X.xe s₃) X.xe s₂) X.xe s₁) (fun u s' xx => ?_) PassesOwn.looking).run [] s σ H D (I.toTry _) h) (fun f s1 hsp => ?_) (fun e s1 he => he)
  · obtain ⟨a, B, sI, pins', σ', H', cls, d, rfl, J', nb, up, sky, na, os, ag, w⟩ := xx
    have J : Inv X pins σ' H' sI := J'.ofTry ok
    have sky' : Sky B (X.env :: X.outer) a (Zc cls d) X.env.locals s'.heap := by rw [← hs]; exact sky
    show wpAny (model X.prog X.w) X.A (noteFrame (.ref a) X.env) _ _ _
    refine Sky.land Zc.steady hfr hf sky' fun h3 fl3 up3 => ?_
    have J3 : Inv X pins σ' H' { s' with heap := h3 } := J.landed nb fl3.1 (up.trans up3) os ag
    obtain ⟨oe3, vs3, he3, hz3, hd3⟩ := fl3.there
    have nfr : a ∉ frs (X.env :: X.outer) := fun hm => by
      obtain ⟨_, o', e', hnf⟩ := fl3.2.2.1.mem hm
      rw [he3] at e'; cases e'
      exact hnf _ hd3
    have nL : a ≠ X.env.locals := fun z => nfr (List.mem_filterMap.mpr ⟨X.env, List.mem_cons_self, by rw [hf, z]⟩)
    have nF : a ∉ X.fs := fun hm => by
      obtain ⟨e, he, q⟩ := List.mem_filterMap.mp hm
      exact nfr (List.mem_filterMap.mpr ⟨e, List.mem_cons_of_mem _ he, q⟩)
    have S3 := J3.suite he3 hd3 na nL nF
    have test : ∀ {x : Str} {np : Pos} {c : Value} {Q : Value → Shared → Prop} {E : Value → Shared → Prop}, Names X x c → Q c { s' with heap := h3 } → wpAny (model X.prog X.w) (X.A.mark (some (.ref a))) (eval (.Name x np) X.env) Q E { s' with heap := h3 } := fun {x np c Q E} hc q => by
      obtain ⟨hg, hdbg, hm | ⟨hm, hv, hnn⟩⟩ := hc
      · exact ld_glob (X := X.suite a ((a, oe3) :: (X.pn ++ pins))) S3 hg hm q hdbg
      · exact ld_blt (X := X.suite a ((a, oe3) :: (X.pn ++ pins))) S3 hg hm hv q hnn hdbg
    have LT : PySem.W.Looks (model X.prog X.w) h3 (typeOf (.ref a)) cls := fun A Q E s k q => wpAny_typeOf_ref (k _ _ he3) (by rw [hz3.1]; exact q)
    have go : ∀ {hds' : List ExceptHandler} {l' : HdL}, HdsA X hds' l' → wMA X.K Wout D l' cls d σ' H' → wpAny (model X.prog X.w) X.A (handleBy (.ref a) X.env hds') (SP X pins D) X.xe { s' with heap := h3 } := by
      intro hds' l' hk
      induction hk with
      | nil =>
        intro w
        refine wpAny_handleBy_nil ?_
        obtain ⟨k1, k2, k3, oe, vs, T, oT, ts', he, hz, hd, h1, hr⟩ := id fl3
        unfold PySem.passOn
        refine wpAny_bind (wpAny_field he hd h1 ?_)
        rw [if_neg (show ¬ ((Value.ref T == Value.none) = true) from by simp)]
        have fin : wpAny (model X.prog X.w) X.A (setFlight (.ref a) X.env.frame) (fun _ s4 => wpAny (model X.prog X.w) X.A (throw (.ref a) : Sem Flow) (SP X pins D) X.xe s4) X.xe { s' with heap := h3 } := by
          rw [hf]
          refine HandSPX.setFlight_upZ fl3 fun h4 hh4 up4 => wpAny_throw (tk _ _ ?_)
          exact ⟨a, B, sI, pins, σ', H', cls, d, rfl, J, nb, (up.trans up3).trans up4, .inr (.inr (by rw [hs]; exact hh4)), na, os, ag, w⟩
        first
          | exact wpAny_bind (wpAny_pure (wpAny_bind fin))
          | exact wpAny_bind fin
      | @bare x c ts b₀ suite np pos' hds2 l2 hc hsu r ih =>
        intro w
        obtain ⟨b, hb1, hyes, hno⟩ := w
        refine wpAny_handleBy_cons (codeAny_handlers_test ?_) (by intro q; cases q)
        have LM := PySem.W.exm_one (M := model X.prog X.w) (J3.kIn) LT hb1
        refine test hc (LM.here ?_)
        cases b with
        | true =>
          refine codeAny_handlers_suite ?_
          refine HandSPX.lands_againZ fl3 fun h4 fl4 up4 => ?_
          have J4 : Inv X pins σ' H' { s' with heap := h4 } := J.landed nb fl4.1 ((up.trans up3).trans up4) os ag
          obtain ⟨oe4, vs4, he4, hz4, hd4⟩ := fl4.there
          have S4 := J4.suite he4 hd4 na nL nF
          refine wpAny_mono ((hsu a oe4 cls d (X.pn ++ pins) hz4 ⟨_, hd4⟩).run [] _ _ H' _ S4 (hyes rfl a na)) (fun f s6 hsp => ?_) (fun _ _ z => False.elim z)
          cases f with
          | next => obtain ⟨σ6, H6, S6, q6⟩ := hsp; exact ⟨_, _, S6.unsuite ok, q6⟩
          | brk => obtain ⟨σ6, H6, S6, q6⟩ := hsp; exact ⟨_, _, S6.unsuite ok, q6⟩
          | cont => obtain ⟨σ6, H6, S6, q6⟩ := hsp; exact ⟨_, _, S6.unsuite ok, q6⟩
          | ret u => obtain ⟨v6, σ6, H6, S6, r6, q6⟩ := hsp; exact ⟨_, _, _, S6.unsuite ok, r6, q6⟩
        | false => exact ih (hno rfl)
      | @named x n i c ts b₀ suite np pos' hds2 l2 hc hi hln hsu r ih =>
        intro w
        obtain ⟨b, hb1, hyes, hno⟩ := w
        have hloc : Loc X.env.scope n := .inl hln
        refine wpAny_handleBy_cons (codeAny_handlers_test ?_) (by intro q; cases q)
        have LM := PySem.W.exm_one (M := model X.prog X.w) (J3.kIn) LT hb1
        refine test hc (LM.here ?_)
        cases b with
        | true =>
          refine codeAny_handlers_suite_as ?_
          refine HandSPX.lands_againZ fl3 fun h4 fl4 up4 => ?_
          have J4 : Inv X pins σ' H' { s' with heap := h4 } := J.landed nb fl4.1 ((up.trans up3).trans up4) os ag
          obtain ⟨oe4, vs4, he4, hz4, hd4⟩ := fl4.there
          have S4 := J4.suite he4 hd4 na nL nF
          refine store_ok (X := X.suite a ((a, oe4) :: (X.pn ++ pins))) (v := .ref a) S4 hN hi hloc rfl (fun s5 S5 => ?_) (.inr hln)
          refine wpAny_mono ((hsu a oe4 cls d (X.pn ++ pins) hz4 ⟨_, hd4⟩).run [] s5 _ H' _ S5 (hyes rfl a na)) (fun f s6 hsp => ?_) (fun _ _ z => False.elim z)
          have end_ : ∀ {σ6 : L2.St} {H6 : Hp} {Q : Shared → Prop}, Inv (X.suite a ((a, oe4) :: (X.pn ++ pins))) [] σ6 H6 s6 → (∀ s7, Inv X pins (σ6.set i none) H6 s7 → Q s7) →
              wpAny (model X.prog X.w) X.A (do bindName X.env n .none; unbindBehindTheSuite X.env n pos') (fun _ s7 => Q s7) X.xe s6 := fun {σ6 H6 Q} S6 hq => gone_ok (S6.unsuite ok) hN hi hln hq
          cases f with
          | next => obtain ⟨σ6, H6, S6, q6⟩ := hsp; exact end_ S6 fun s7 J7 => ⟨_, _, J7, q6⟩
          | brk => obtain ⟨σ6, H6, S6, q6⟩ := hsp; exact end_ S6 fun s7 J7 => ⟨_, _, J7, q6⟩
          | cont => obtain ⟨σ6, H6, S6, q6⟩ := hsp; exact end_ S6 fun s7 J7 => ⟨_, _, J7, q6⟩
          | ret u => obtain ⟨v6, σ6, H6, S6, r6, q6⟩ := hsp; exact end_ S6 fun s7 J7 => ⟨_, _, _, J7, r6, q6⟩
        | false => exact ih (hno rfl)
    exact go hh w
  · cases f with
    | next => obtain ⟨σ', H', J', q⟩ := hsp; exact wpAny_execs_nil ⟨σ', H', J'.ofTry ok, q⟩
    | brk => obtain ⟨σ', H', J', q⟩ := hsp; exact ⟨σ', H', J'.ofTry ok, q⟩
    | cont => obtain ⟨σ', H', J', q⟩ := hsp; exact ⟨σ', H', J'.ofTry ok, q⟩
    | ret u => obtain ⟨v, σ', H', J', r, q⟩ := hsp; exact ⟨v, σ', H', J'.ofTry ok, r, q⟩
end
/-! ### the caught exception comes and goes -/
section
variable {K : PySem.W.Frag} {f : Nat → Addr} {xa xb : Option (Addr × Value × Option Addr)} {fl : Nat → Str} {F : AP} {hd : Option Addr} {H : Hp}
mutual
theorem Den.xc : ∀ {v : V} {d : D}, Den ⟨K, ⟨f, xa⟩, fl⟩ F hd H v d → Den ⟨K, ⟨f, xb⟩, fl⟩ F hd H v d
  | _, _, .non => .non
  | _, _, .bl b => .bl b
  | _, _, .int i => .int i
  | _, _, .str x h => .str x h
  | _, _, .tup h l r => .tup h l (DenL.xc r)
  | _, _, .lst f h l r => .lst f h l (DenL.xc r)
  | _, _, .ins f h n k r => .ins f h n ⟨k.cl, k.na, k.inj⟩ (DenL.xc r)
  | _, _, .hand h => .hand h
theorem DenL.xc : ∀ {vs : List V} {ds : List D}, DenL ⟨K, ⟨f, xa⟩, fl⟩ F hd H vs ds → DenL ⟨K, ⟨f, xb⟩, fl⟩ F hd H vs ds
  | _, _, .nil => .nil
  | _, _, .cons h r => .cons (Den.xc h) (DenL.xc r)
end
theorem DenX.xc {cls : Value} {dd : Option Addr} {x : D} (h : DenX ⟨K, ⟨f, xa⟩, fl⟩ F hd H cls dd x) : DenX ⟨K, ⟨f, xb⟩, fl⟩ F hd H cls dd x := by
  obtain ⟨c, ns, vs, ds, e1, e2, e3, e4, e5⟩ := h
  exact ⟨c, ns, vs, ds, e1, e2, e3.xc, e4, e5⟩
def Slot.isX : Slot → Bool
  | .exc _ => true
  | _ => false
theorem SlotR.xc {S : Sit} {v : Option V} {s : Slot} (n : s.isX = false) (h : SlotR ⟨K, ⟨f, xa⟩, fl⟩ S F H v s) : SlotR ⟨K, ⟨f, xb⟩, fl⟩ S F H v s := by
  cases s with
  | val d => obtain ⟨w, h1, h2⟩ := h; exact ⟨w, h1, h2.xc⟩
  | own ds => obtain ⟨p, vs, h1, h2, h3, h4, h5, h6, h7⟩ := h; exact ⟨p, vs, h1, h2, h3, h4, h5, h6, h7.xc⟩
  | ownI c all ns ds => obtain ⟨p, dx, fs, h1, h2, h3, h4, h5, h6, h7, h8, h9⟩ := h; exact ⟨p, dx, fs, h1, h2, h3, h4, h5, h6, ⟨h7.cl, h7.na, h7.inj⟩, h8, h9.xc⟩
  | mat rs =>
    obtain ⟨p, qs, h1, h2, h3, h4, h5, h6, h7, h8, h9, h10⟩ := h
    refine ⟨p, qs, h1, h2, h3, h4, h5, h6, h7, h8, h9, fun k q row a b => ?_⟩
    obtain ⟨g1, g2, g3, vs, g4, g5, g6⟩ := h10 k q row a b
    exact ⟨g1, g2, g3, vs, g4, g5, g6.xc⟩
  | exc x => cases n
theorem Real.toX {S : Sit} {ρ : Env} {σ : L2.St} (r : Real ⟨K, ⟨f, none⟩, fl⟩ S F ρ σ H) : Real ⟨K, ⟨f, xb⟩, fl⟩ S F ρ σ H :=
  ⟨r.wf, r.len, fun i s e => by
    obtain ⟨v, h1, h2⟩ := r.sl i s e
    refine ⟨v, h1, h2.xc ?_⟩
    cases s with
    | exc x => obtain ⟨a, cls, dd, z, _⟩ := h2; cases z
    | _ => rfl, r.ap, r.mt, r.sb, r.up, r.dn, r.hc, r.an⟩
theorem dropX_get {ρ : Env} {i : Nat} {s : Slot} (e : (dropX ρ)[i]? = some (some s)) : ρ[i]? = some (some s) ∧ s.isX = false := by
  unfold dropX at e
  rw [List.getElem?_map] at e
  cases q : ρ[i]? with
  | none => rw [q] at e; cases e
  | some o =>
    rw [q] at e
    cases o with
    | none => cases e
    | some t =>
      cases t <;> first | (cases e; exact ⟨rfl, rfl⟩) | cases e
theorem Real.ofX {S : Sit} {ρ : Env} {σ : L2.St} (r : Real ⟨K, ⟨f, xa⟩, fl⟩ S F ρ σ H) : Real ⟨K, ⟨f, none⟩, fl⟩ S F (dropX ρ) σ H :=
  ⟨r.wf, by unfold dropX; rw [List.length_map]; exact r.len, fun i s e => by
    obtain ⟨e1, e2⟩ := dropX_get e
    obtain ⟨v, h1, h2⟩ := r.sl i s e1
    exact ⟨v, h1, h2.xc e2⟩, fun i j s t p e1 e2 => r.ap i j s t p (dropX_get e1).1 (dropX_get e2).1, fun i j s t e1 e2 => r.mt i j s t (dropX_get e1).1 (dropX_get e2).1, r.sb, r.up, r.dn, r.hc, r.an⟩
end
end DV
/-! DV: a statement of ours against a statement of the text. -/
namespace DV
open PySem PySem.Spec PyProof.Rows L2
def noSw : Expr → Bool
  | .ListComp .. => false
  | .SetComp .. => false
  | .DictComp .. => false
  | _ => true
theorem noSw_ok {e : Expr} {t : Option Expr} {l : Nat} {env : PySem.Env} (h : noSw e = true) : swapsWith e t l env = pure false := by cases e <;> first | rfl | cases h
def notTup : Expr → Bool
  | .Tuple .. => false
  | _ => true
theorem notTup_ok {e : Expr} {es : List Expr} {k : Nat} {p : Pos} {env : PySem.Env} (h : notTup e = true) : swappedStores [.Tuple es k p] e env = pure none := by cases e <;> first | rfl | cases h
theorem sub_ok {e a b : Expr} {p : Pos} {env : PySem.Env} : swappedStores [.Subscript a b p] e env = pure none := by cases e <;> rfl
def xAsgN : Stmt → Option (Str × Pos × Expr × Pos)
  | .Assign [.Name x p] e pos => some (x, p, e, pos)
  | _ => none
theorem xAsgN_eq {s : Stmt} {x : Str} {p pos : Pos} {e : Expr} (h : xAsgN s = some (x, p, e, pos)) : s = .Assign [.Name x p] e pos := by
  unfold xAsgN at h
  split at h
  · cases h; rfl
  · cases h
def xAsgT : Stmt → Option (List Expr × Nat × Pos × Expr × Pos)
  | .Assign [.Tuple es k p] e pos => some (es, k, p, e, pos)
  | _ => none
theorem xAsgT_eq {s : Stmt} {es : List Expr} {k : Nat} {p pos : Pos} {e : Expr} (h : xAsgT s = some (es, k, p, e, pos)) : s = .Assign [.Tuple es k p] e pos := by
  unfold xAsgT at h
  split at h
  · cases h; rfl
  · cases h
def xAug : Stmt → Option (Str × Operator × Expr)
  | .AugAssign (.Name x _) op e _ => some (x, op, e)
  | _ => none
theorem xAug_eq {s : Stmt} {x : Str} {op : Operator} {e : Expr} (h : xAug s = some (x, op, e)) : ∃ p pos, s = .AugAssign (.Name x p) op e pos := by
  unfold xAug at h
  split at h
  · cases h; exact ⟨_, _, rfl⟩
  · cases h
def xExprS : Stmt → Option Expr
  | .Expr e _ => some e
  | _ => none
theorem xExprS_eq {s : Stmt} {e : Expr} (h : xExprS s = some e) : ∃ pos, s = .Expr e pos := by
  unfold xExprS at h
  split at h
  · cases h; exact ⟨_, rfl⟩
  · cases h
/-- x.m(e) -/
def xBm : Expr → Option (Str × Str × Expr × Bool)
  | .Call (.Attribute (.Name x _) m ap) [e] [] cp => some (x, m, e, ap.endLine == cp.line)
  | _ => none
theorem xBm_eq {ex e : Expr} {x m : Str} {b : Bool} (h : xBm ex = some (x, m, e, b)) : ∃ p ap cp, ex = .Call (.Attribute (.Name x p) m ap) [e] [] cp ∧ (ap.endLine == cp.line) = b := by
  unfold xBm at h
  split at h
  · cases h; exact ⟨_, _, _, rfl, rfl⟩
  · cases h
def xAsgS : Stmt → Option (Str × Expr × Expr)
  | .Assign [.Subscript (.Name x _) i _] e _ => some (x, i, e)
  | _ => none
theorem xAsgS_eq {s : Stmt} {x : Str} {i e : Expr} (h : xAsgS s = some (x, i, e)) : ∃ p1 p2 pos, s = .Assign [.Subscript (.Name x p1) i p2] e pos := by
  unfold xAsgS at h
  split at h
  · cases h; exact ⟨_, _, _, rfl⟩
  · cases h
def xAsgS2 : Stmt → Option (Str × Expr × Expr × Expr)
  | .Assign [.Subscript (.Subscript (.Name x _) i _) j _] e _ => some (x, i, j, e)
  | _ => none
theorem xAsgS2_eq {s : Stmt} {x : Str} {i j e : Expr} (h : xAsgS2 s = some (x, i, j, e)) : ∃ p1 p2 p3 pos, s = .Assign [.Subscript (.Subscript (.Name x p1) i p2) j p3] e pos := by
  unfold xAsgS2 at h
  split at h
  · cases h; exact ⟨_, _, _, _, rfl⟩
  · cases h
def xAsgA : Stmt → Option (Str × Str × Expr)
  | .Assign [.Attribute (.Name x _) f _] e _ => some (x, f, e)
  | _ => none
theorem xAsgA_eq {s : Stmt} {x f : Str} {e : Expr} (h : xAsgA s = some (x, f, e)) : ∃ p1 p2 pos, s = .Assign [.Attribute (.Name x p1) f p2] e pos := by
  unfold xAsgA at h
  split at h
  · cases h; exact ⟨_, _, _, rfl⟩
  · cases h
def xIfS : Stmt → Option (Expr × List Stmt × List Stmt)
  | .If c a b _ => some (c, a, b)
  | _ => none
theorem xIfS_eq {s : Stmt} {c : Expr} {a b : List Stmt} (h : xIfS s = some (c, a, b)) : ∃ pos, s = .If c a b pos := by
  unfold xIfS at h
  split at h
  · cases h; exact ⟨_, rfl⟩
  · cases h
def xForS : Stmt → Option (Expr × Expr × List Stmt)
  | .For t i b [] _ => some (t, i, b)
  | _ => none
theorem xForS_eq {s : Stmt} {t i : Expr} {b : List Stmt} (h : xForS s = some (t, i, b)) : ∃ pos, s = .For t i b [] pos := by
  unfold xForS at h
  split at h
  · cases h; exact ⟨_, rfl⟩
  · cases h
def xWhl : Stmt → Option (Expr × List Stmt)
  | .While c b [] _ => some (c, b)
  | _ => none
theorem xWhl_eq {s : Stmt} {c : Expr} {b : List Stmt} (h : xWhl s = some (c, b)) : ∃ pos, s = .While c b [] pos := by
  unfold xWhl at h
  split at h
  · cases h; exact ⟨_, rfl⟩
  · cases h
def xRet : Stmt → Option (Option Expr)
  | .Return e _ => some e
  | _ => none
theorem xRet_eq {s : Stmt} {e : Option Expr} (h : xRet s = some e) : ∃ pos, s = .Return e pos := by
  unfold xRet at h
  split at h
  · cases h; exact ⟨_, rfl⟩
  · cases h
def xRse : Stmt → Option (Str × List Expr)
  | .Raise (some (.Call (.Name x _) args [] _)) none _ => some (x, args)
  | _ => none
theorem xRse_eq {s : Stmt} {x : Str} {args : List Expr} (h : xRse s = some (x, args)) : ∃ p q pos, s = .Raise (some (.Call (.Name x p) args [] q)) none pos := by
  unfold xRse at h
  split at h
  · cases h; exact ⟨_, _, _, rfl⟩
  · cases h
def xTry : Stmt → Option (List Stmt × ExceptHandler × List ExceptHandler)
  | .Try b (h :: hs) [] [] _ => some (b, h, hs)
  | _ => none
theorem xTry_eq {s : Stmt} {b : List Stmt} {h : ExceptHandler} {hs : List ExceptHandler} (e : xTry s = some (b, h, hs)) : ∃ pos, s = .Try b (h :: hs) [] [] pos := by
  unfold xTry at e
  split at e
  · cases e; exact ⟨_, rfl⟩
  · cases e
def xHnd : ExceptHandler → Option (Str × Option Str × Stmt × List Stmt)
  | .ExceptHandler (some (.Name x _)) n (b :: bs) _ => some (x, n, b, bs)
  | _ => none
theorem xHnd_eq {h : ExceptHandler} {x : Str} {n : Option Str} {b : Stmt} {bs : List Stmt} (e : xHnd h = some (x, n, b, bs)) : ∃ p pos, h = .ExceptHandler (some (.Name x p)) n (b :: bs) pos := by
  unfold xHnd at e
  split at e
  · cases e; exact ⟨_, _, rfl⟩
  · cases e
def augIs : BOp → Operator → Bool
  | .add, .Add => true | .sub, .Sub => true | .mul, .Mult => true
  | _, _ => false
theorem augIs_ok {X : Cx} {o : BOp} {op : Operator} (h : augIs o op = true) : AugR X o op := by
  cases o <;> cases op <;> first | exact aug_add | exact aug_sub | exact aug_mul | cases h
def isComp : E → Bool
  | .comp _ _ _ _ _ => true
  | _ => false
/-- name = [..]: the stores are exchanged -/
def swB (sc : Scope) (x : Str) (p : Pos) (ex : Expr) : Bool := match xComp ex with
  | some (_, _, _, _, s) => decide (sc.kind = .function) && (decide (sc.names.lookup x = some .local) && ((p.line == ex.pos.line) && !(s.names.any fun (n, k) => n == x && (k == .local || k == .cell))))
  | none => false
theorem swB_ok {X : Cx} {sc : Scope} {x : Str} {p : Pos} {ex : Expr} {l : Nat} (hsc : X.env.scope = sc) (h : swB sc x p ex = true) : X.env.scope.names.lookup x = some .local ∧ swapsWith ex (some (.Name x p)) l X.env = pure true := by
  unfold swB at h
  split at h
  · rename_i e t i c s hx
    obtain ⟨pp, rfl⟩ := xComp_eq hx
    simp only [Bool.and_eq_true, decide_eq_true_eq, Bool.not_eq_true'] at h
    rw [hsc]
    exact ⟨h.2.1, sw_true (by rw [hsc]; exact h.1) (by rw [hsc]; exact h.2.1) h.2.2.1 h.2.2.2⟩
  · cases h
/-- a cell takes it as it comes -/
def celB (sc : Scope) (x : Str) : Bool := decide (sc.names.lookup x = some .cell)
theorem celB_ok {X : Cx} {sc : Scope} {x : Str} {p pp : Pos} {e : Expr} {gs : List Comprehension} {s : Scope} {l : Nat} (hsc : X.env.scope = sc) (h : celB sc x = true) : swapsWith (.ListComp e gs s pp) (some (.Name x p)) l X.env = pure false := by
  have h := of_decide_eq_true h
  have ky : X.env.kindOf x = some .cell := by show X.env.scope.names.lookup x = _; rw [hsc]; exact h
  unfold swapsWith
  simp only [ky]
  have : ((some NameKind.cell : Option NameKind) == some NameKind.local) = false := by decide
  rw [this, Bool.and_false]
  rfl
def xSlot (N : List Str) (sc : Scope) (i : Nat) (x : Str) : Bool := decide (N[i]? = some x) && visB sc x && nodb x
mutual
def ck1 (nm : Nms) (hc : List Str) (N : List Str) : S1 → Scope → Stmt → Bool
  | .asg i e, sc, st => match xAsgN st with
    | some (x, p, ex, _) => decide (N[i]? = some x) && (locB sc x && (ckE nm N e sc ex && (if isComp e = true then swB sc x p ex || celB sc x else noSw ex)))
    | none => false
  | .own i e, sc, st => match xAsgN st with
    | some (x, p, ex, _) => decide (N[i]? = some x) && (locB sc x && (ckE nm N e sc ex && (frE e && (if isComp e = true then swB sc x p ex || celB sc x else noSw ex))))
    | none => false
  | .unp ts e, sc, st => nm.q && match xAsgT st with
    | some (es, _, _, ex, _) => ckNs N sc ts es && (ckE nm N e sc ex && (noSw ex && notTup ex))
    | none => false
  | .aug i o e, sc, st => match xAug st with
    | some (x, op, ex) => decide (N[i]? = some x) && (locB sc x && (augIs o op && ckE nm N e sc ex))
    | none => false
  | .app i e, sc, st => match xExprS st with
    | some ex => (match xBm ex with
      | some (x, m, a, b) => decide (m = ("append" : Str)) && (xSlot N sc i x && (noBase (.Name x ⟨0, 0, 0, 0⟩) && (b && (notStar a && ckE nm N e sc a))))
      | none => false)
    | none => false
  | .ext i e, sc, st => match xExprS st with
    | some ex => (match xBm ex with
      | some (x, m, a, b) => decide (m = ("extend" : Str)) && (xSlot N sc i x && (noBase (.Name x ⟨0, 0, 0, 0⟩) && (b && (notStar a && ckE nm N e sc a))))
      | none => false)
    | none => false
  | .apop i j e, sc, st => match xExprS st with
    | some ex => (match xBm ex with
      | some (x, m, a, b) => decide (m = ("append" : Str)) && (xSlot N sc i x && (noBase (.Name x ⟨0, 0, 0, 0⟩) && (b && (match xBm a with
        | some (y, m2, a2, b2) => decide (m2 = ("pop" : Str)) && (xSlot N sc j y && (noBase (.Name y ⟨0, 0, 0, 0⟩) && (b2 && (notStar a2 && ckE nm N e sc a2))))
        | none => false))))
      | none => false)
    | none => false
  | .six i j e, sc, st => match xAsgS st with
    | some (x, ix, ex) => xSlot N sc i x && (notSlice ix && (noSw ex && (ckE nm N e sc ex && ckE nm N j sc ix)))
    | none => false
  | .six2 i j k e, sc, st => match xAsgS2 st with
    | some (x, ix, jx, ex) => xSlot N sc i x && (notSlice ix && (notSlice jx && (noSw ex && (ckE nm N e sc ex && (ckE nm N j sc ix && ckE nm N k sc jx)))))
    | none => false
  | .mat i t1 t2 n1 n2 elt, sc, st => match xAsgN st with
    | some (x, p, ex, _) => decide (N[i]? = some x) && (locB sc x && (ckE nm N (.comp [t1] false n1 .yes (.comp [t2] false n2 .yes elt)) sc ex && swB sc x p ex))
    | none => false
  | .ex e, sc, st => match xExprS st with
    | some ex => ckE nm N e sc ex && noSw ex
    | none => false
  | .ite c a b, sc, st => match xIfS st with
    | some (cx, as, bs) => ckE nm N c sc cx && (ckS nm hc N a sc as && ckS nm hc N b sc bs)
    | none => false
  | .for_ ts un src b, sc, st => nm.q && match xForS st with
    | some (t, it, bs) => ckTg N sc ts un t && (ckE nm N src sc it && ((!isPr src || un) && (notSet it && ckS nm hc N b sc bs)))
    | none => false
  | .whl c b, sc, st => match xWhl st with
    | some (cx, bs) => ckE nm N c sc cx && ckS nm hc N b sc bs
    | none => false
  | .ret e, sc, st => match xRet st with
    | some (some ex) => ckE nm N e sc ex
    | _ => false
  | .retN, sc, st => match xRet st with
    | some none => true
    | _ => false
  | .brk, sc, st => match st with
    | .Break _ => true
    | _ => false
  | .cnt, sc, st => match st with
    | .Continue _ => true
    | _ => false
  | .pass, sc, st => match st with
    | .Pass _ => true
    | .Expr (.Constant (.str _) _ _) _ => true
    | _ => false
  | .sfl i f e, sc, st => match xAsgA st with
    | some (x, g, ex) => xSlot N sc i x && (decide (nm.fld[f]? = some g) && (ckE nm N e sc ex && noSw ex))
    | none => false
  | .rse c es, sc, st => nm.q && match xRse st with
    | some (x, args) => decide (nm.cls[c]? = some x) && (gloB sc x && (nodb x && ckEs nm N es sc args))
    | none => false
  | .tri b hs, sc, st => nm.q && match xTry st with
    | some (bs, h, hds) => ckS nm hc N b sc bs && ckH { nm with q := false } hc N hs sc (h :: hds)
    | none => false
def ckS (nm : Nms) (hc : List Str) (N : List Str) : S → Scope → List Stmt → Bool
  | .nil, _, sts => sts.isEmpty
  | .cons a b, sc, sts => match sts with
    | st :: rest => ck1 nm hc N a sc st && ckS nm hc N b sc rest
    | [] => false
  | .frz _ b, sc, sts => ckS nm hc N b sc sts
def ckH (nm : Nms) (hc : List Str) (N : List Str) : Hs → Scope → List ExceptHandler → Bool
  | .nil, _, hds => hds.isEmpty
  | .cons c i s r, sc, hds => match hds with
    | h :: rest => (match xHnd h with
      | some (x, n, b, bs) => decide (hc[c]? = some x) && (gloB sc x && (nodb x && ((match i, n with
        | none, none => true
        | some j, some y => decide (N[j]? = some y) && decide (sc.names.lookup y = some .local)
        | _, _ => false) && ckS nm hc N s sc (b :: bs))))
      | none => false) && ckH nm hc N r sc rest
    | [] => false
end
/-! ### the context -/
structure CtxS (nm : Nms) (hc : List Str) (hv : Nat → Value) (ca : Ca) (G : Tab) (k : Nat) (N : List Str) (sc : Scope) (X : Cx) (Wx : WX) : Prop where
  d : CtxD nm ca G k N sc X Wx
  tk : nm.q = true → Takes X Wx
  po : PassesOwn (model X.prog X.w) X.A X.env X.xe
  hf : ∀ x, X.fn x = true
  kd : sc.kind = .function
  st : nm.q = true → X.stack = X.env :: X.outer ∧ X.env.frame = some X.env.locals ∧ ca.xc = none
  exc : nm.q = true → ∀ c ns, G.exc c = some ns → ∃ x, nm.cls[c]? = some x ∧ ∀ (pn : List (Addr × Obj)) (xe : Value → Shared → Prop), ExE (X.tr pn xe) ca nm.fl x c ns
  hvn : ∀ c x, hc[c]? = some x → X.mg x = some (hv c) ∨ (X.mg x = none ∧ bootBuiltins x = some (hv c) ∧ x ≠ "__name__")
  sub : ∀ k c b, G.sub k c = some b → PySem.W.exmOne X.K (.ref (ca k)) (hv c) = some b
section
variable {nm : Nms} {hc : List Str} {hv : Nat → Value} {ca : Ca} {G : Tab} {k : Nat} {N : List Str} {sc : Scope} {X : Cx} {Wx : WX}
theorem CtxS.loc (C : CtxS nm hc hv ca G k N sc X Wx) {x : Str} (h : locB sc x = true) : Loc X.env.scope x := by rw [C.d.hsc]; exact loc_of h
theorem CtxS.slot (C : CtxS nm hc hv ca G k N sc X Wx) {i : Nat} {x : Str} (h : xSlot N sc i x = true) : X.N[i]? = some x ∧ Vis X.env.scope x ∧ nodb x = true := by
  unfold xSlot at h
  simp only [Bool.and_eq_true, decide_eq_true_eq] at h
  exact ⟨by rw [C.d.hN]; exact h.1.1, C.d.vis h.1.2, h.2⟩
/-- within a try -/
theorem CtxS.tr (C : CtxS nm hc hv ca G k N sc X Wx) (hq : nm.q = true) {W : WX} {pn : List (Addr × Obj)} {xe : Value → Shared → Prop} (tk : Takes (X.tr pn xe) W) (po : PassesOwn (model X.prog X.w) X.A X.env xe) : CtxS nm hc hv ca G k N sc (X.tr pn xe) W where
  d := {
    hN := C.d.hN
    hsc := C.d.hsc
    nd := C.d.nd
    un := C.d.un
    calm := C.d.calm
    room := C.d.room
    lets := fun _ => lets_of tk
    xx := fun z => by rw [hq] at z; cases z
    xfc := C.d.xfc
    fn := C.d.fn
    mkr := C.d.mkr
    mt := C.d.mt
    cst := C.d.cst
    bl := C.d.bl
    isk := C.d.isk
    icn := C.d.icn }
  tk := fun _ => tk
  po := po
  hf := C.hf
  kd := C.kd
  st := C.st
  exc := C.exc
  hvn := C.hvn
  sub := C.sub
/-- within a clause's suite -/
theorem CtxS.su (C : CtxS nm hc hv ca G k N sc X Wx) (hq : nm.q = true) {a : Addr} {oe : Obj} {cls : Value} {d : Option Addr} {pn : List (Addr × Obj)} (hz : Zc cls d oe) (hvs : ∃ vs, oe.data = .fields vs) :
    CtxS { nm with q := false } hc hv ⟨ca.f, some (a, cls, d)⟩ G k N sc (X.suite a ((a, oe) :: pn)) noW where
  d := {
    hN := C.d.hN
    hsc := C.d.hsc
    nd := C.d.nd
    un := C.d.un
    calm := fun z => by cases z
    room := fun z => by cases z
    lets := fun z => by cases z
    xx := fun _ => ⟨X, a, oe, cls, d, pn, rfl, hz, hvs, rfl⟩
    xfc := C.d.xfc
    fn := fun z => by cases z
    mkr := fun z => by cases z
    mt := fun z => by cases z
    cst := fun i d h => by
      obtain ⟨x, v, u, h1, h2, h3, h4⟩ := C.d.cst i d h
      exact ⟨x, v, u, h1, h2, h3, fun F hd H => (h4 F hd H).xc⟩
    bl := C.d.bl
    isk := ⟨C.d.isk.own, C.d.isk.typ⟩
    icn := C.d.icn }
  tk := fun z => by cases z
  po := PassesOwn.never
  hf := C.hf
  kd := C.kd
  st := fun z => by cases z
  exc := fun z => by cases z
  hvn := C.hvn
  sub := C.sub
end
end DV
/-! DV: whatever passes the look means what it says: statements. -/
namespace DV
open PySem PySem.Spec PyProof.Rows L2
section
variable {nm : Nms} {hc : List Str} {hv : Nat → Value} {ca : Ca} {G : Tab} {k : Nat} {N : List Str}
/-- what a comprehension's look gives -/
theorem comp_of {sc : Scope} {X : Cx} {Wx : WX} (C : CtxD nm ca G k N sc X Wx) {ts : List Nat} {un : Bool} {src cond elt : E} {ex : Expr} (h : ckE nm N (.comp ts un src cond elt) sc ex = true) :
    ∃ (e t it : Expr) (cs : List Expr) (s : Scope) (p : Pos) (g : TG), ex = .ListComp e [⟨t, it, cs, 0⟩] s p ∧ nm.q = true ∧ X.N.Nodup ∧ PI X t it (tI (cmX X ca nm.fl) (se G src).i (fun ρ => cl (isOwn ρ) src) (fun ρ => cc (isOwn ρ) src) Wx) ∧ BlkOk X.N X.env.scope s (ownOf N ts) ∧ (ownOf N ts).map (·.2) = ts ∧ TgP (cmX X ca nm.fl) ts un g ∧
      (∀ (s' : Shared) (H : Hp) (a : Addr) (cl : List (Str × Addr)) (fp : List Addr), PG (X.blk s' H s (compEnvC s cl a X.env) fp) t g) ∧
      (∀ (s' : Shared) (H : Hp) (a : Addr) (cl : List (Str × Addr)) (fp : List Addr), PTs (X.blk s' H s (compEnvC s cl a X.env) fp) cs (tT (cmX X ca nm.fl) (se G cond).c noW)) ∧
      (∀ (s' : Shared) (H : Hp) (a : Addr) (cl' : List (Str × Addr)) (fp : List Addr), PE (X.blk s' H s (compEnvC s cl' a X.env) fp) e (tV (cmX X ca nm.fl) (se G elt).v (fun ρ => cl (isOwn ρ) elt) (fun ρ => cc (isOwn ρ) elt) noW)) ∧
      (∀ x, foldedSetIterable it X.env x = pure x) ∧ (isYes cond = true → cs = []) ∧ ckE nm N elt (relS s sc) e = true := by
  unfold ckE at h
  have hq := (Bool.and_eq_true_iff.mp h).1
  replace h := (Bool.and_eq_true_iff.mp h).2
  split at h
  · rename_i e t it cs s hx
    obtain ⟨p, rfl⟩ := xComp_eq hx
    simp only [Bool.and_eq_true] at h
    obtain ⟨h1, h2, h3, h4, h5, h6, h7⟩ := h
    have hN := C.hN
    have hsc := C.hsc
    have hnd : X.N.Nodup := by rw [hN]; exact C.nd
    have hsrc := sndE (G := G) (k := k) trivial src sc it h2 X Wx C
    refine ⟨e, t, it, cs, s, p, _, rfl, hq, hnd, hsrc.pi t fun z => ?_, by rw [hN, hsc]; exact blkOk_by h5, ?_, ckTg_p h1, fun s' H a cl fp => ckTg_g (X := X.blk s' H s (compEnvC s cl a X.env) fp) rfl hnd (fun x hx => blk_loc hx) (C.calm hq) (by show ckTg X.N s ts un t = true; rw [hN]; exact h1), fun s' H a cl fp => ?_, fun s' H a cl fp => ?_, ?_, fun z => ?_, h7⟩
    · rw [z] at h3
      have : un = true := by simpa using h3
      subst this
      exact ckTg_tup h1
    · unfold ownOf
      rw [List.map_map]
      exact List.map_id' _
    · have C' := C.blk hq s' H s cl a fp
      match cs, h6 with
      | [], h6 =>
        cases cond <;> first | cases h6 | skip
        exact ⟨fun pins s'' σ H Q I h => pts_nil.run pins s'' σ H Q I (by
          obtain ⟨S, F, ρ, Qd, Ed, r, q, lk, _⟩ := h
          exact lk _ _ _ (.refl r.wf) q)⟩
      | [c], h6 =>
        have hc := sndE (G := G) (k := k) trivial cond (relS s sc) c h6 _ _ C'
        have he : (se G cond).c = (se G cond).t := by
          cases cond <;> first | rfl | (unfold ckE at h6; cases h6)
        rw [he]
        exact pts_one hc.pt
      | _ :: _ :: _, h6 => cases h6
    · exact (sndE (G := G) (k := k) trivial elt (relS s sc) e h7 _ _ (C.blk hq s' H s cl a fp)).pe
    · intro x
      cases it <;> first | rfl | cases h4
    · match cs, h6 with
      | [], _ => rfl
      | [c], h6 =>
        cases cond <;> first | cases z | skip
        unfold ckE at h6; cases h6
      | _ :: _ :: _, h6 => cases h6
  · cases h
theorem ckEs_len {sc : Scope} : ∀ {es : Es} {exs : List Expr}, ckEs nm N es sc exs = true → exs.length = esLen es
  | .nil, [], _ => rfl
  | .nil, _ :: _, h => by unfold ckEs at h; cases h
  | .cons e r, [], h => by unfold ckEs at h; cases h
  | .cons e r, x :: xs, h => by
    unfold ckEs at h
    have h' := Bool.and_eq_true_iff.mp h
    have h2 := Bool.and_eq_true_iff.mp h'.2
    show xs.length + 1 = esLen r + 1
    rw [ckEs_len h2.2]
theorem isComp_of {e : E} (h : isComp e = true) : ∃ ts un src cond elt, e = .comp ts un src cond elt := by
  cases e <;> first | exact ⟨_, _, _, _, _, rfl⟩ | cases h
/-- name = [.. for ..] -/
theorem s_setC {sc : Scope} {X : Cx} {Wx : WX} (C : CtxD nm ca G k N sc X Wx) {ts : List Nat} {un : Bool} {src cond elt : E} {ex : Expr} {i : Nat} {x : Str} {p pos : Pos} (h : ckE nm N (.comp ts un src cond elt) sc ex = true) (hi : X.N[i]? = some x) (hs : swB sc x p ex = true) :
    ∃ te : TE, PS X (.Assign [.Name x p] ex pos) (tAsg te (gName i)) ∧ ∀ (S : Sit) (F : AP) (ρ : Env) (σ : L2.St) (H : Hp) (P Ed : D → Prop) (Q : VK), Real (cmX X ca nm.fl) S F ρ σ H → wE G (.comp ts un src cond elt) ρ P Ed → Xk (cmX X ca nm.fl) S Ed F H (fun cls d H' => Wx cls d σ H') →
      (∀ (F' : AP) (H' : Hp) (q : Addr) (vs : List V) (ds : List D), Ev S.hd H H' F F' → ¬ F' q → S.hd ≠ some q → H q = none → H' q = some (.lst vs) → vs.length ≤ sizeLine → DenL (cmX X ca nm.fl) F' S.hd H' vs ds → P (.lst ds) → Q (.ref q) H') → te σ H Q := by
  obtain ⟨e, t, it, cs, s, pp, g, rfl, hq, hnd, h1, h2, h3, h4, h5, h6, h7, h8, _⟩ := comp_of C h
  obtain ⟨a1, a2⟩ := swB_ok (l := pos.line) C.hsc hs
  have n := n_comp (pos := pp) (cF := fun _ => true) (kF := fun _ => true) (sE := elt) (C.calm hq) hnd h1 h2 h3 h4 h5 h6 h7 h8
  refine ⟨_, n.2.1 hi a1 a2, fun S F ρ σ H P Ed Q r hw xk hk => ?_⟩
  exact n.2.2 S F ρ σ H (fun ys => P (.lst ys)) Ed Q r hw xk hk
/-- fresh lists -/
theorem frE_of {sc : Scope} {X : Cx} {Wx : WX} (C : CtxD nm ca G k N sc X Wx) (e : E) {ex : Expr} (h : ckE nm N e sc ex = true) (hf : frE e = true) (hn : isComp e = false) : PE X ex (tN (cmX X ca nm.fl) (fun ρ => req (cl (isOwn ρ) e = true) (wE G e ρ)) Wx) := by
  cases e with
  | lst es =>
    unfold ckE at h
    split at h
    · rename_i xs hx
      obtain ⟨p, rfl⟩ := xLst_eq hx
      obtain ⟨t, ht, ha, h0, hst⟩ := (sndEs (G := G) (k := k) trivial es sc xs h X Wx C).ex
      exact f_lst ht ha
    · cases h
  | bf f es =>
    cases f <;> first | cases hf | skip
    unfold ckE at h
    have hq := (Bool.and_eq_true_iff.mp h).1
    replace h := (Bool.and_eq_true_iff.mp h).2
    split at h
    · rename_i x args hx
      obtain ⟨p, q, rfl⟩ := xCall_eq hx
      simp only [Bool.and_eq_true, decide_eq_true_eq] at h
      obtain ⟨h1, h2, h3, h5, h4⟩ := h
      subst h1
      obtain ⟨t, ht, ha, h0, hst⟩ := (sndEs (G := G) (k := k) trivial es sc args h4 X Wx C).ex
      cases args with
      | nil => cases h5
      | cons e args => exact f_list (C.gl h3) (C.bl _ (bf_in .list rfl)) hst ht ha
    · cases h
  | lrng tu a =>
    cases tu with
    | true => cases hf
    | false =>
      unfold ckE at h
      have hq := (Bool.and_eq_true_iff.mp h).1
      replace h := (Bool.and_eq_true_iff.mp h).2
      split at h
      · rename_i x r hx
        obtain ⟨p, q, rfl⟩ := xCall_eq hx
        simp only [Bool.and_eq_true, decide_eq_true_eq] at h
        obtain ⟨h1, h2, h3, h5, h4⟩ := h
        have h1 : x = ("list" : Str) := h1
        subst h1
        have hr := (sndE (G := G) (k := k) trivial a sc r h4 X Wx C).pr h5
        have := f_lrng (C.calm hq) (C.gl h2) (C.bl _ (by decide +kernel)) h3 hr (p := p) (pos := q)
        exact ⟨fun pins s σ H Q I hh => this.run pins s σ H Q I (by
          obtain ⟨S, F, ρ, Qd, Ed, r, ⟨_, hw⟩, lk, xk⟩ := hh
          exact ⟨S, F, ρ, Qd, Ed, r, hw, lk, xk⟩)⟩
      · cases h
  | comp => cases hn
  | _ => cases hf
/-- clauses -/
inductive HdD (nm : Nms) (hc : List Str) (ca : Ca) (G : Tab) (hv : Nat → Value) (X : Cx) : Hs → List ExceptHandler → HdL → Prop
  | nil : HdD nm hc ca G hv X .nil [] []
  | bare {c : Nat} {s : S} {r : Hs} {h : ExceptHandler} {hds : List ExceptHandler} {l : HdL} : HdD nm hc ca G hv X r hds l → HdD nm hc ca G hv X (.cons c none s r) (h :: hds) ((hv c, none, fun a cls d => tS (cmX X ⟨ca.f, some (a, cls, d)⟩ nm.fl) (wB G s) noW) :: l)
  | named {c i : Nat} {s : S} {r : Hs} {h : ExceptHandler} {hds : List ExceptHandler} {l : HdL} : HdD nm hc ca G hv X r hds l → HdD nm hc ca G hv X (.cons c (some i) s r) (h :: hds) ((hv c, some i, fun a cls d => tS (cmX X ⟨ca.f, some (a, cls, d)⟩ nm.fl) (wB G s) noW) :: l)
theorem hd_wish {sc : Scope} {X : Cx} {Wx : WX} (C : CtxS nm hc hv ca G k N sc X Wx) (hq : nm.q = true) {hs : Hs} {hds : List ExceptHandler} {l : HdL} (h : HdD nm hc ca G hv X hs hds l) {S : Sit} {Qd : Fl → Prop} {Xd : D → Env → Prop} {K : Ends} (lk : LkS (cmX X ca nm.fl) S Qd K) (xk : XkS (cmX X ca nm.fl) S Xd Wx) :
    ∀ (F' : AP) (ρ' : Env) (σ' : L2.St) (H' : Hp) (cls : Value) (dd : Option Addr) (x : D), Real (cmX X ca nm.fl) S F' ρ' σ' H' → DenX (cmX X ca nm.fl) F' S.hd H' cls dd x → wH G hs x ρ' Qd Xd → wMA X.K Wx K l cls dd σ' H' := by
  obtain ⟨_, _, hxc⟩ := C.st hq
  obtain ⟨f, xc⟩ := ca
  have hxc : xc = none := hxc
  subst hxc
  induction h with
  | nil => intro F' ρ' σ' H' cls dd x r hx q; exact xk F' ρ' σ' H' cls dd x r hx q
  | @bare c s r h hds l hh ih =>
    intro F' ρ' σ' H' cls dd x rr hx q
    obtain ⟨kx, ns, vs, ds, rfl, e2, e3, e4, e5⟩ := id hx
    unfold wH at q
    dsimp only at q
    cases hb : G.sub kx c with
    | none => rw [hb] at q; exact q.elim
    | some b =>
      rw [hb] at q
      refine ⟨b, by rw [e2]; exact C.sub kx c b hb, fun z a na => ?_, fun z => ?_⟩
      · subst z
        refine ⟨S, F', ρ', _, _, rr.toX, q, ⟨fun F2 ρ2 σ2 H2 r2 q2 => lk.nx F2 _ σ2 H2 r2.ofX q2, fun F2 H2 u d e2 h2 q2 => lk.rt F2 H2 u d e2 h2.xc q2, fun F2 ρ2 σ2 H2 r2 q2 => lk.bk F2 _ σ2 H2 r2.ofX q2, fun F2 ρ2 σ2 H2 r2 q2 => lk.ct F2 _ σ2 H2 r2.ofX q2⟩, fun _ _ _ _ _ _ _ _ _ z => z.elim⟩
      · subst z
        exact ih F' ρ' σ' H' cls dd _ rr hx q
  | @named c i s r h hds l hh ih =>
    intro F' ρ' σ' H' cls dd x rr hx q
    obtain ⟨kx, ns, vs, ds, rfl, e2, e3, e4, e5⟩ := id hx
    unfold wH at q
    dsimp only at q
    cases hb : G.sub kx c with
    | none => rw [hb] at q; exact q.elim
    | some b =>
      rw [hb] at q
      refine ⟨b, by rw [e2]; exact C.sub kx c b hb, fun z a na => ?_, fun z => ?_⟩
      · subst z
        have r1 : Real (cmX X ⟨f, some (a, cls, dd)⟩ nm.fl) S F' (ρ'.set i (some (.exc (.ins kx ns ds)))) (σ'.set i (some (.ref a))) H' :=
          rr.toX.putS ⟨a, cls, dd, rfl, rfl, hx.xc⟩ (fun z => by cases z) (fun z => by cases z) fun z => by cases z
        refine ⟨S, F', _, _, _, r1, q, ⟨fun F2 ρ2 σ2 H2 r2 q2 => lk.nx F2 _ _ H2 r2.ofX.unset q2, fun F2 H2 u d e2 h2 q2 => lk.rt F2 H2 u d e2 h2.xc q2, fun F2 ρ2 σ2 H2 r2 q2 => lk.bk F2 _ _ H2 r2.ofX.unset q2, fun F2 ρ2 σ2 H2 r2 q2 => lk.ct F2 _ _ H2 r2.ofX.unset q2⟩, fun _ _ _ _ _ _ _ _ _ z => z.elim⟩
      · subst z
        exact ih F' ρ' σ' H' cls dd _ rr hx q
variable (hc hv G k N)
mutual
theorem snd1 : ∀ (a : S1) (nm : Nms) (ca : Ca) (sc : Scope) (st : Stmt), ck1 nm hc N a sc st = true → ∀ (X : Cx) (Wx : WX), CtxS nm hc hv ca G k N sc X Wx → PS X st (tS (cmX X ca nm.fl) (w1 G a) Wx)
  | .asg i e, nm, ca, sc, st, h, X, Wx, C => by
    unfold ck1 at h
    split at h
    · rename_i x p ex pos hx
      cases xAsgN_eq hx
      simp only [Bool.and_eq_true, decide_eq_true_eq] at h
      obtain ⟨h1, h2, h3, h4⟩ := h
      have hi : X.N[i]? = some x := by rw [C.d.hN]; exact h1
      have hnd : X.N.Nodup := by rw [C.d.hN]; exact C.d.nd
      by_cases z : isComp e = true
      · rw [if_pos z] at h4
        obtain ⟨ts, un, src, cond, elt, rfl⟩ := isComp_of z
        rcases Bool.or_eq_true_iff.mp h4 with hsw | hcel
        rotate_left
        · have hp := (sndE (G := G) (k := k) trivial _ sc ex h3 X Wx C.d).pe
          obtain ⟨e, t, it, cs, s, pp, g, rfl, _⟩ := comp_of C.d h3
          exact s_asg hnd hi (C.loc h2) (C.hf x) hp (celB_ok C.d.hsc hcel)
        obtain ⟨te, g1, g2⟩ := s_setC (pos := pos) C.d h3 hi hsw
        refine ⟨fun pins s σ H K I hh => g1.run pins s σ H K I ?_⟩
        obtain ⟨S, F, ρ, Qd, Xd, r, hw, lk, xk⟩ := hh
        exact g2 S F ρ σ H _ _ _ r hw (xk.xk r) fun F' H' q vs ds e nf nh n0 hp l hd hQ => lk.nx _ _ _ H' (r.ownV e nf nh n0 hp l hd) hQ.2
      · rw [if_neg z] at h4
        exact s_asg hnd hi (C.loc h2) (C.hf x) (sndE trivial e sc ex h3 X Wx C.d).pe (noSw_ok h4)
    · cases h
  | .own i e, nm, ca, sc, st, h, X, Wx, C => by
    unfold ck1 at h
    split at h
    · rename_i x p ex pos hx
      cases xAsgN_eq hx
      simp only [Bool.and_eq_true, decide_eq_true_eq] at h
      obtain ⟨h1, h2, h3, h5, h4⟩ := h
      have hi : X.N[i]? = some x := by rw [C.d.hN]; exact h1
      have hnd : X.N.Nodup := by rw [C.d.hN]; exact C.d.nd
      by_cases z : isComp e = true
      · rw [if_pos z] at h4
        obtain ⟨ts, un, src, cond, elt, rfl⟩ := isComp_of z
        rcases Bool.or_eq_true_iff.mp h4 with hsw | hcel
        rotate_left
        · obtain ⟨e, t, it, cs, s, pp, g, rfl, hq, hnd, h1, h2', h3', h4', h5', h6', h7', h8', _⟩ := comp_of C.d h3
          have hp := f_comp (pos := pp) (sE := elt) (C.d.calm hq) hnd h1 h2' h3' h4' h5' h6' h7' h8'
          have g := s_own (i := i) (g := fun _ => True) (pos := pos) (p := p) hnd hi (C.loc h2) (C.hf x) hp (celB_ok C.d.hsc hcel)
          refine ⟨fun pins s σ H K I hh => g.run pins s σ H K I ?_⟩
          obtain ⟨S, F, ρ, Qd, Xd, r, ⟨⟨_, g2, hm⟩, hw⟩, lk, xk⟩ := hh
          exact ⟨S, F, ρ, Qd, Xd, r, ⟨hm, hw⟩, lk, xk⟩
        obtain ⟨te, g1, g2⟩ := s_setC (pos := pos) C.d h3 hi hsw
        refine ⟨fun pins s σ H K I hh => g1.run pins s σ H K I ?_⟩
        obtain ⟨S, F, ρ, Qd, Xd, r, ⟨⟨_, _, hm⟩, hw⟩, lk, xk⟩ := hh
        exact g2 S F ρ σ H _ _ _ r hw (xk.xk r) fun F' H' q vs ds e nf nh n0 hp l hd hQ => lk.nx _ _ _ H' (r.ownF e hm nf nh n0 hp l hd) hQ
      · rw [if_neg z] at h4
        have g := s_own (i := i) (g := fun _ => True) (pos := pos) (p := p) hnd hi (C.loc h2) (C.hf x) (frE_of C.d e h3 h5 (by simpa using z)) (noSw_ok h4)
        refine ⟨fun pins s σ H K I hh => g.run pins s σ H K I ?_⟩
        obtain ⟨S, F, ρ, Qd, Xd, r, ⟨⟨_, g2, hm⟩, hw⟩, lk, xk⟩ := hh
        exact ⟨S, F, ρ, Qd, Xd, r, ⟨hm, g2, hw⟩, lk, xk⟩
    · cases h
  | .unp ts e, nm, ca, sc, st, h, X, Wx, C => by
    unfold ck1 at h
    have hq := (Bool.and_eq_true_iff.mp h).1
    replace h := (Bool.and_eq_true_iff.mp h).2
    split at h
    · rename_i es kk p ex pos hx
      cases xAsgT_eq hx
      simp only [Bool.and_eq_true] at h
      obtain ⟨h1, h2, h3, h4⟩ := h
      have hnd : X.N.Nodup := by rw [C.d.hN]; exact C.d.nd
      have ht := ckTg_g (X := X) (cm := cmX X ca nm.fl) (sc := sc) (ts := ts) (un := true) (e := .Tuple es kk p) rfl hnd (fun x hx => ⟨C.loc hx, .inl (C.hf x)⟩) (C.d.calm hq) (by
        show ckNs X.N sc ts es = true
        rw [C.d.hN]; exact h1)
      exact s_unp (noSw_ok (t := some (.Tuple es kk p)) (l := pos.line) (env := X.env) h3) (notTup_ok h4) ht (sndE trivial e sc ex h2 X Wx C.d).pe
    · cases h
  | .aug i o e, nm, ca, sc, st, h, X, Wx, C => by
    unfold ck1 at h
    split at h
    · rename_i x op ex hx
      obtain ⟨p, pos, rfl⟩ := xAug_eq hx
      simp only [Bool.and_eq_true, decide_eq_true_eq] at h
      obtain ⟨h1, h2, h3, h4⟩ := h
      exact s_aug (augIs_ok h3) (by rw [C.d.hN]; exact C.d.nd) (by rw [C.d.hN]; exact h1) (C.loc h2) (C.hf x) (sndE trivial e sc ex h4 X Wx C.d).pe
    · cases h
  | .app i e, nm, ca, sc, st, h, X, Wx, C => by
    unfold ck1 at h
    split at h
    · rename_i ex hx
      obtain ⟨pos, rfl⟩ := xExprS_eq hx
      split at h
      · rename_i x m a b hb
        obtain ⟨p, ap, cp, rfl, hl⟩ := xBm_eq hb
        simp only [Bool.and_eq_true, decide_eq_true_eq] at h
        obtain ⟨rfl, h2, h3, h4, h5, h6⟩ := h
        obtain ⟨g1, g2, g3⟩ := C.slot h2
        exact s_app g1 g2 g3 h3 (by rw [hl]; exact h4) h5 (sndE trivial e sc a h6 X Wx C.d).pe
      · cases h
    · cases h
  | .ext i e, nm, ca, sc, st, h, X, Wx, C => by
    unfold ck1 at h
    split at h
    · rename_i ex hx
      obtain ⟨pos, rfl⟩ := xExprS_eq hx
      split at h
      · rename_i x m a b hb
        obtain ⟨p, ap, cp, rfl, hl⟩ := xBm_eq hb
        simp only [Bool.and_eq_true, decide_eq_true_eq] at h
        obtain ⟨rfl, h2, h3, h4, h5, h6⟩ := h
        obtain ⟨g1, g2, g3⟩ := C.slot h2
        exact s_ext g1 g2 g3 h3 (by rw [hl]; exact h4) h5 (sndE trivial e sc a h6 X Wx C.d).pe
      · cases h
    · cases h
  | .apop i j e, nm, ca, sc, st, h, X, Wx, C => by
    unfold ck1 at h
    split at h
    · rename_i ex hx
      obtain ⟨pos, rfl⟩ := xExprS_eq hx
      split at h
      · rename_i x m a b hb
        obtain ⟨p, ap, cp, rfl, hl⟩ := xBm_eq hb
        simp only [Bool.and_eq_true, decide_eq_true_eq] at h
        obtain ⟨rfl, h2, h3, h4, h5⟩ := h
        obtain ⟨g1, g2, g3⟩ := C.slot h2
        split at h5
        · rename_i y m2 a2 b2 hb2
          obtain ⟨p4, ap4, cp4, rfl, hl4⟩ := xBm_eq hb2
          simp only [Bool.and_eq_true, decide_eq_true_eq] at h5
          obtain ⟨rfl, k2, k3, k4, k5, k6⟩ := h5
          obtain ⟨t1, t2, t3⟩ := C.slot k2
          exact s_apop g1 g2 g3 h3 (by rw [hl]; exact h4) t1 t2 t3 k3 (by rw [hl4]; exact k4) k5 (sndE trivial e sc a2 k6 X Wx C.d).pe
        · cases h5
      · cases h
    · cases h
  | .six i j e, nm, ca, sc, st, h, X, Wx, C => by
    unfold ck1 at h
    split at h
    · rename_i x ix ex hx
      obtain ⟨p1, p2, pos, rfl⟩ := xAsgS_eq hx
      simp only [Bool.and_eq_true] at h
      obtain ⟨h1, h2, h3, h4, h5⟩ := h
      obtain ⟨g1, g2, g3⟩ := C.slot h1
      exact s_six g1 g2 g3 h2 (sndE trivial e sc ex h4 X Wx C.d).pe (sndE trivial j sc ix h5 X Wx C.d).pe (noSw_ok (t := some (.Subscript (.Name x p1) ix p2)) (l := pos.line) (env := X.env) h3) sub_ok
    · cases h
  | .six2 i j kk e, nm, ca, sc, st, h, X, Wx, C => by
    unfold ck1 at h
    split at h
    · rename_i x ix jx ex hx
      obtain ⟨p1, p2, p3, pos, rfl⟩ := xAsgS2_eq hx
      simp only [Bool.and_eq_true] at h
      obtain ⟨h1, h2, h2', h3, h4, h5, h6⟩ := h
      obtain ⟨g1, g2, g3⟩ := C.slot h1
      exact s_six2 g1 g2 g3 h2 h2' (sndE trivial e sc ex h4 X Wx C.d).pe (sndE trivial j sc ix h5 X Wx C.d).pe (sndE trivial kk sc jx h6 X Wx C.d).pe (noSw_ok (t := some (.Subscript (.Subscript (.Name x p1) ix p2) jx p3)) (l := pos.line) (env := X.env) h3) sub_ok
    · cases h
  | .mat i t1 t2 n1 n2 elt, nm, ca, sc, st, h, X, Wx, C => by
    unfold ck1 at h
    split at h
    · rename_i x p ex pos hx
      cases xAsgN_eq hx
      simp only [Bool.and_eq_true, decide_eq_true_eq] at h
      obtain ⟨h1, h2, h3, h4⟩ := h
      have hi : X.N[i]? = some x := by rw [C.d.hN]; exact h1
      obtain ⟨e, t, it, cs, s, pp, g, rfl, hq, hnd, a1, a2, a3, a4, a5, a6, a7, a8, a9, a10⟩ := comp_of C.d h3
      cases a9 rfl
      obtain ⟨b1, b2⟩ := swB_ok (l := pos.line) C.d.hsc h4
      have inner : ∀ (s' : Shared) (H : Hp) (a : Addr) (cl' : List (Str × Addr)) (fp : List Addr), PE (X.blk s' H s (compEnvC s cl' a X.env) fp) e (tN (cmX X ca nm.fl) (se G (.comp [t2] false n2 .yes elt)).v noW) := fun s' H a cl' fp => by
        have C' := C.d.blk hq s' H s cl' a fp
        obtain ⟨e2, t2', it2, cs2, s2, pp2, g2, rfl, hq2, hnd2, c1, c2, c3, c4, c5, c6, c7, c8, c9, c10⟩ := comp_of C' a10
        exact f_comp (sE := elt) (C.d.calm hq) hnd2 c1 c2 c3 c4 c5 c6 c7 c8
      have g := s_mat (i := i) (p := p) (spos := pos) (C.d.calm hq) hnd a1 a2 a3 a4 a5 inner a8 hi b1 b2
      refine ⟨fun pins s σ H K I hh => g.run pins s σ H K I ?_⟩
      obtain ⟨S, F, ρ, Qd, Xd, r, ⟨hno, ⟨⟨q1, _⟩, hw⟩⟩, lk, xk⟩ := hh
      exact ⟨S, F, ρ, Qd, Xd, r, ⟨hno, q1, hw⟩, lk, xk⟩
    · cases h
  | .ex e, nm, ca, sc, st, h, X, Wx, C => by
    unfold ck1 at h
    split at h
    · rename_i ex hx
      obtain ⟨pos, rfl⟩ := xExprS_eq hx
      simp only [Bool.and_eq_true] at h
      exact s_ex (sndE trivial e sc ex h.1 X Wx C.d).pe (noSw_ok h.2)
    · cases h
  | .ite c a b, nm, ca, sc, st, h, X, Wx, C => by
    unfold ck1 at h
    split at h
    · rename_i cx as bs hx
      obtain ⟨pos, rfl⟩ := xIfS_eq hx
      simp only [Bool.and_eq_true] at h
      exact s_ite (sndE trivial c sc cx h.1 X Wx C.d).pt (sndS a nm ca sc as h.2.1 X Wx C) (sndS b nm ca sc bs h.2.2 X Wx C)
    · cases h
  | .for_ ts un src b, nm, ca, sc, st, h, X, Wx, C => by
    unfold ck1 at h
    have hq := (Bool.and_eq_true_iff.mp h).1
    replace h := (Bool.and_eq_true_iff.mp h).2
    split at h
    · rename_i t it bs hx
      obtain ⟨pos, rfl⟩ := xForS_eq hx
      simp only [Bool.and_eq_true] at h
      obtain ⟨h1, h2, h3, h4, h5⟩ := h
      have hnd : X.N.Nodup := by rw [C.d.hN]; exact C.d.nd
      refine s_for C.po (C.d.calm hq) ((sndE trivial src sc it h2 X Wx C.d).pi t fun z => ?_) (ckTg_g (X := X) (cm := cmX X ca nm.fl) (sc := sc) rfl hnd (fun x hx => ⟨C.loc hx, .inl (C.hf x)⟩) (C.d.calm hq) (by rw [C.d.hN]; exact h1)) (ckTg_p h1) (sndS b nm ca sc bs h5 X Wx C) fun x => ?_
      · rw [z] at h3
        have : un = true := by simpa using h3
        subst this
        exact ckTg_tup h1
      · cases it <;> first | rfl | cases h4
    · cases h
  | .whl c b, nm, ca, sc, st, h, X, Wx, C => by
    unfold ck1 at h
    split at h
    · rename_i cx bs hx
      obtain ⟨pos, rfl⟩ := xWhl_eq hx
      simp only [Bool.and_eq_true] at h
      exact s_whl C.po (sndE trivial c sc cx h.1 X Wx C.d).pt (sndS b nm ca sc bs h.2 X Wx C)
    · cases h
  | .ret e, nm, ca, sc, st, h, X, Wx, C => by
    unfold ck1 at h
    split at h
    · rename_i ex hx
      obtain ⟨pos, rfl⟩ := xRet_eq hx
      exact s_ret (sndE trivial e sc ex h X Wx C.d).pe
    · cases h
  | .retN, nm, ca, sc, st, h, X, Wx, C => by
    unfold ck1 at h
    split at h
    · rename_i hx
      obtain ⟨pos, rfl⟩ := xRet_eq hx
      exact s_retN
    · cases h
  | .brk, nm, ca, sc, st, h, X, Wx, C => by
    unfold ck1 at h
    split at h
    · exact s_brk
    · cases h
  | .cnt, nm, ca, sc, st, h, X, Wx, C => by
    unfold ck1 at h
    split at h
    · exact s_cnt
    · cases h
  | .pass, nm, ca, sc, st, h, X, Wx, C => by
    unfold ck1 at h
    split at h
    · exact s_pass
    · exact s_doc
    · cases h
  | .sfl i f e, nm, ca, sc, st, h, X, Wx, C => by
    unfold ck1 at h
    split at h
    · rename_i x g ex hx
      obtain ⟨p1, p2, pos, rfl⟩ := xAsgA_eq hx
      simp only [Bool.and_eq_true, decide_eq_true_eq] at h
      obtain ⟨h1, h2, h3, h4⟩ := h
      obtain ⟨g1, g2, g3⟩ := C.slot h1
      cases fld_of h2
      exact s_sfl g1 g2 g3 (sndE trivial e sc ex h3 X Wx C.d).pe (noSw_ok h4)
    · cases h
  | .rse c es, nm, ca, sc, st, h, X, Wx, C => by
    unfold ck1 at h
    have hq := (Bool.and_eq_true_iff.mp h).1
    replace h := (Bool.and_eq_true_iff.mp h).2
    split at h
    · rename_i x args hx
      obtain ⟨p, q, pos, rfl⟩ := xRse_eq hx
      simp only [Bool.and_eq_true, decide_eq_true_eq] at h
      obtain ⟨h1, h2, h3, h4⟩ := h
      obtain ⟨t, ht, ha, h0, hst⟩ := (sndEs trivial es sc args h4 X Wx C.d).ex
      cases hE : G.exc c with
      | none =>
        refine ⟨fun pins s σ H K I hh => ?_⟩
        obtain ⟨S, F, ρ, Qd, Xd, r, hw, _⟩ := hh
        unfold w1 at hw
        rw [hE] at hw
        exact hw.elim
      | some ns =>
        obtain ⟨x', e1, e2⟩ := C.exc hq c ns hE
        rw [h1] at e1
        cases e1
        have g := s_rse (ns := ns) (cN := c) (pos := pos) (p := p) (p1 := q) (C.d.calm hq) (C.tk hq) (e2 X.pn X.xe) (C.d.gl h2) h3 ht hst h0 (ckEs_len h4) ha
        refine ⟨fun pins s σ H K I hh => g.run pins s σ H K I ?_⟩
        obtain ⟨S, F, ρ, Qd, Xd, r, hw, lk, xk⟩ := hh
        unfold w1 at hw
        rw [hE] at hw
        exact ⟨S, F, ρ, Qd, Xd, r, hw, lk, xk⟩
    · cases h
  | .tri b hs, nm, ca, sc, st, h, X, Wx, C => by
    unfold ck1 at h
    have hq := (Bool.and_eq_true_iff.mp h).1
    replace h := (Bool.and_eq_true_iff.mp h).2
    split at h
    · rename_i bs hd hds hx
      obtain ⟨pos, rfl⟩ := xTry_eq hx
      simp only [Bool.and_eq_true] at h
      obtain ⟨l, g1, g2⟩ := sndH hs nm ca sc (hd :: hds) h.2 X Wx C hq
      obtain ⟨s1, s2, _⟩ := C.st hq
      have g := ps_tryA (pos := pos) (tb := fun W => tS (cmX X ca nm.fl) (wB G b) W) s1 s2 (by rw [C.d.hN]; exact C.d.nd) (C.tk hq) (fun W pn xe tk po => sndS b nm ca sc bs h.1 _ W (C.tr hq tk po)) g1
      refine ⟨fun pins s σ H K I hh => g.run pins s σ H K I ?_⟩
      obtain ⟨S, F, ρ, Qd, Xd, r, hw, lk, xk⟩ := hh
      exact ⟨S, F, ρ, Qd, _, r, hw, lk, fun F' ρ' σ' H' cls dd x r hx q => hd_wish C hq g2 lk xk F' ρ' σ' H' cls dd x r hx q⟩
    · cases h
theorem sndS : ∀ (b : S) (nm : Nms) (ca : Ca) (sc : Scope) (sts : List Stmt), ckS nm hc N b sc sts = true → ∀ (X : Cx) (Wx : WX), CtxS nm hc hv ca G k N sc X Wx → PSs X sts (tS (cmX X ca nm.fl) (wB G b) Wx)
  | .nil, nm, ca, sc, sts, h, X, Wx, C => by
    unfold ckS at h
    cases sts with
    | nil => exact s_nil
    | cons _ _ => cases h
  | .cons a b, nm, ca, sc, sts, h, X, Wx, C => by
    unfold ckS at h
    cases sts with
    | nil => cases h
    | cons st rest =>
      have h' := Bool.and_eq_true_iff.mp h
      exact s_cons (snd1 a nm ca sc st h'.1 X Wx C) (sndS b nm ca sc rest h'.2 X Wx C)
  | .frz i b, nm, ca, sc, sts, h, X, Wx, C => by
    unfold ckS at h
    exact s_frz (sndS b nm ca sc sts h X Wx C)
theorem sndH : ∀ (hs : Hs) (nm : Nms) (ca : Ca) (sc : Scope) (hds : List ExceptHandler), ckH { nm with q := false } hc N hs sc hds = true → ∀ (X : Cx) (Wx : WX), CtxS nm hc hv ca G k N sc X Wx → nm.q = true → ∃ l, HdsA X hds l ∧ HdD nm hc ca G hv X hs hds l
  | .nil, nm, ca, sc, hds, h, X, Wx, C, hq => by
    unfold ckH at h
    cases hds with
    | nil => exact ⟨[], .nil, .nil⟩
    | cons _ _ => cases h
  | .cons c i s r, nm, ca, sc, hds, h, X, Wx, C, hq => by
    unfold ckH at h
    cases hds with
    | nil => cases h
    | cons hd rest =>
      have h' := Bool.and_eq_true_iff.mp h
      obtain ⟨l, g1, g2⟩ := sndH r nm ca sc rest h'.2 X Wx C hq
      have h1 := h'.1
      split at h1
      · rename_i x n b bs hx
        obtain ⟨p, pos, rfl⟩ := xHnd_eq hx
        simp only [Bool.and_eq_true, decide_eq_true_eq] at h1
        obtain ⟨a1, a2, a3, a4, a5⟩ := h1
        have hN : Names X x (hv c) := ⟨C.d.gl a2, nodb1 a3, C.hvn c x a1⟩
        have hsu : ∀ (a : Addr) (oe : Obj) (cls : Value) (d : Option Addr) (pn : List (Addr × Obj)), Zc cls d oe → (∃ vs, oe.data = .fields vs) → PSs (X.suite a ((a, oe) :: pn)) (b :: bs) (tS (cmX X ⟨ca.f, some (a, cls, d)⟩ nm.fl) (wB G s) noW) := fun a oe cls d pn hz hvs =>
          sndS s { nm with q := false } ⟨ca.f, some (a, cls, d)⟩ sc (b :: bs) a5 _ noW (C.su hq hz hvs)
        cases i with
        | none =>
          cases n with
          | none => exact ⟨_, .bare hN hsu g1, .bare g2⟩
          | some _ => cases a4
        | some j =>
          cases n with
          | none => cases a4
          | some y =>
            simp only [Bool.and_eq_true, decide_eq_true_eq] at a4
            exact ⟨_, .named hN (by rw [C.d.hN]; exact a4.1) (by show X.env.scope.names.lookup y = _; rw [C.d.hsc]; exact a4.2) hsu g1, .named g2⟩
      · cases h1
end
end
end DV
/-! DV: defs. -/
namespace DV
open PySem PySem.Spec PyProof.Rows L2
section
variable (P : Program) (w : World) (K : PySem.W.Frag) (mg : Str → Option Value) (base : Heap)
def FnE0 (ca : Ca) (fl : Nat → Str) (k : Nat) (x : Str) (n : Nat) (φ : List D → W D) : Prop := ∃ (fa : Addr) (fd : FuncData) (ps : List Str) (j : Nat), j ≤ k ∧ ps.length = n ∧
  FnOk P w K mg base (L2.CX P w) j fa fd ps (SpOf ⟨K, ca, fl⟩ n φ) ∧ mg x = some (.ref fa) ∧ PySem.W.keepIn K (.ref fa) = true ∧ Binds K fd ps []
def MkE0 (ca : Ca) (fl : Nat → Str) (k : Nat) (x : Str) (c n : Nat) (φ : List D → W D) : Prop := ∀ X : Cx, X.prog = P → X.w = w → X.K = K → X.mg = mg → X.base = base → MkE X ca fl k x c n φ
def MtE0 (ca : Ca) (fl : Nat → Str) (k : Nat) (m : Str) (c n : Nat) (φ : List D → W D) : Prop := ∀ X : Cx, X.prog = P → X.w = w → X.K = K → X.mg = mg → X.base = base → MtE X ca fl k m c n φ
/-- what the defs of the module are shown to keep, up to a level -/
structure Mo (nm : Nms) (hc : List Str) (hv : Nat → Value) (ca : Ca) (G : Tab) (k : Nat) : Prop where
  q : nm.q = true
  xc : ca.xc = none
  xfc : ∀ c ns, G.exc c = some ns → XfC K (ca c) ∧ ∀ f ∈ ns, PySem.W.findIn K (.ref (ca c)) (nm.fl f) = some none
  fn : ∀ f n φ, G.fn f = some (n, φ) → ∃ x, nm.fn[f]? = some x ∧ FnE0 P w K mg base ca nm.fl k x n φ
  mkr : ∀ c n φ, G.mkr c = some (n, φ) → ∃ x, nm.cls[c]? = some x ∧ MkE0 P w K mg base ca nm.fl k x c n φ
  mt : ∀ c m n φ, G.mt c m = some (n, φ) → ∃ x, nm.mt[m]? = some x ∧ MtE0 P w K mg base ca nm.fl k x c n φ
  cst : ∀ i d, G.cst i = some d → ∃ x v u, nm.gl[i]? = some x ∧ mg x = some u ∧ RelV v u ∧ ∀ (F : AP) (hd : Option Addr) (H : Hp), Den ⟨K, ca, nm.fl⟩ F hd H v d
  bl : ∀ x ∈ blts, mg x = none
  isk : IsOk K ca G.isub G.icl
  icn : ∀ c, G.icl c = true → ∃ x, nm.cls[c]? = some x ∧ mg x = some (.ref (ca c))
  exc : ∀ c ns, G.exc c = some ns → ∃ x, nm.cls[c]? = some x ∧ ∀ X : Cx, X.prog = P → X.w = w → X.K = K → X.mg = mg → X.base = base → Room k X.A → ExE X ca nm.fl x c ns
  hvn : ∀ c x, hc[c]? = some x → mg x = some (hv c) ∨ (mg x = none ∧ bootBuiltins x = some (hv c) ∧ x ≠ "__name__")
  sub : ∀ k c b, G.sub k c = some b → PySem.W.exmOne K (.ref (ca k)) (hv c) = some b
end
section
variable {P : Program} {w : World} {K : PySem.W.Frag} {mg : Str → Option Value} {base : Heap} {nm : Nms} {hc : List Str} {hv : Nat → Value} {ca : Ca} {G : Tab} {k : Nat}
theorem Mo.ctx (M : Mo P w K mg base nm hc hv ca G k) {N : List Str} {qual : Str} {sc : Scope} {f : Addr} {cd : Value} {A : Around} {outer : List PySem.Env} {s : Shared} {H : Hp} {E : XK} (hN : N.Nodup) (hk : sc.kind = .function)
    (hr : Room k (A.deeper (envOfC qual sc s.heap.objs.size f cd))) : CtxS nm hc hv ca G k N sc (cxOf (L2.CX P w) P w K mg base N qual sc f cd A outer s H E) (fun cls d _ H => E cls d H) where
  d := {
    hN := rfl
    hsc := rfl
    nd := hN
    un := by have := hr.un; show (A.deeper (envOfC qual sc s.heap.objs.size f cd)).units + 65 < cLine; omega
    calm := fun _ => rfl
    room := fun _ => hr
    lets := fun _ => lets_of (takes_of rfl rfl rfl rfl)
    xx := fun z => by rw [M.q] at z; cases z
    xfc := M.xfc
    fn := fun _ => M.fn
    mkr := fun _ c n φ h => by
      obtain ⟨x, h1, h2⟩ := M.mkr c n φ h
      exact ⟨x, h1, h2 _ rfl rfl rfl rfl rfl⟩
    mt := fun _ c m n φ h => by
      obtain ⟨x, h1, h2⟩ := M.mt c m n φ h
      exact ⟨x, h1, h2 _ rfl rfl rfl rfl rfl⟩
    cst := M.cst
    bl := M.bl
    isk := M.isk
    icn := M.icn }
  tk := fun _ => takes_of rfl rfl rfl rfl
  po := passes_of rfl
  hf := fun _ => rfl
  kd := hk
  st := fun _ => ⟨rfl, rfl, M.xc⟩
  exc := fun _ c ns h => by
    obtain ⟨x, h1, h2⟩ := M.exc c ns h
    exact ⟨x, h1, fun pn xe => h2 _ rfl rfl rfl rfl rfl hr⟩
  hvn := M.hvn
  sub := M.sub
theorem startE_get {n : Nat} {ds : List D} {i : Nat} {s : Slot} (h : (startE n ds)[i]? = some (some s)) : ∃ d, ds[i]? = some d ∧ s = .val d := by
  unfold startE at h
  by_cases z : i < ds.length
  · rw [List.getElem?_append_left (by rw [List.length_map]; exact z), List.getElem?_map, List.getElem?_eq_getElem z] at h
    cases h
    exact ⟨_, List.getElem?_eq_getElem z, rfl⟩
  · rw [List.getElem?_append_right (by rw [List.length_map]; omega), List.getElem?_replicate] at h
    split at h <;> cases h
theorem start_get {N : List Str} {vs : List V} {i : Nat} {v : V} (h : vs[i]? = some v) : (L2.start N vs)[i]? = some (some v) := by
  have hl : i < vs.length := by
    by_cases z : i < vs.length
    · exact z
    · rw [List.getElem?_eq_none (by omega)] at h; cases h
  unfold L2.start
  rw [List.getElem?_append_left (by rw [List.length_map]; exact hl), List.getElem?_map, h]; rfl
theorem real_start {cm : Cm} {F : AP} {hd : Option Addr} {H : Hp} {N : List Str} {vs : List V} {ds : List D} (wf : WF F hd H) (hN : vs.length ≤ N.length) (h : DenL cm F hd H vs ds) : Real cm ⟨hd, H, F, [], none⟩ F (startE N.length ds) (L2.start N vs) H := by
  have hl := h.length
  refine ⟨wf, ?_, fun i s e => ?_, fun i j s t p e1 e2 o1 _ _ _ => ?_, fun i j s t e1 e2 o1 _ => ?_, .refl _ _, fun _ z => z, fun _ z => .inl z, fun h c r _ q => ⟨r, q⟩, fun q hq => by cases hq⟩
  · unfold startE L2.start
    rw [List.length_append, List.length_append, List.length_map, List.length_map, List.length_replicate, List.length_replicate, hl]
  · obtain ⟨d, h1, rfl⟩ := startE_get e
    obtain ⟨v, h2, h3⟩ := h.get' h1
    exact ⟨some v, start_get h2, v, rfl, h3⟩
  · obtain ⟨d, _, rfl⟩ := startE_get e1; cases o1
  · obtain ⟨d, _, rfl⟩ := startE_get e1; cases o1
theorem scope_len {N ps : List Str} {sc : Scope} (S : FnScope N ps sc) : ps.length ≤ N.length := by
  have := S.pre
  rw [← this, List.length_take]
  omega
/-- a def keeps what its own term means -/
theorem fn_snd {x qual : Str} {st : Stmt} {f : Addr} {fd : FuncData} {N ps : List Str} {b : S} (F : Fun K x qual st f fd) (S : FnScope N ps (defScope st)) (M : Mo P w K mg base nm hc hv ca G k) (h : ckS nm hc N b (defScope st) (defBody st) = true) :
    FnOk P w K mg base (L2.CX P w) (k + 1) f fd ps (SpOf ⟨K, ca, nm.fl⟩ ps.length (bodyW G N.length b)) := by
  refine F.okX S (fun vs H Q E q => ?_) fun cdv A outer s H vs Q E hr q => ?_
  · obtain ⟨F, hd, ds, _, _, h1, _, h2, _⟩ := q
    rw [h2.length, h1]
  · obtain ⟨F, hd, ds, Qd, Ed, h1, h2, h3, h4, h5, h6⟩ := q
    refine ⟨_, sndS hc hv G k N b nm ca (defScope st) (defBody st) h _ _ (M.ctx S.nd S.kind hr), ?_⟩
    have hl := h3.length
    refine ⟨⟨hd, H, F, [], none⟩, F, startE N.length ds, _, _, real_start h2 (by have := scope_len S; omega) h3, h4, ⟨fun F' ρ' σ' H' r q => ?_, fun F' H' u d e hd q => h5 F' H' u d e hd q, fun _ _ _ _ _ q => q, fun _ _ _ _ _ q => q⟩, fun F' ρ' σ' H' cls dd x r hx q => h6 F' H' cls dd x r.ev0 hx q⟩
    exact h5 F' H' .non .non r.ev0 .non q
/-- an __init__ -/
def startI (n c : Nat) (all : List Nat) (ds : List D) : DV.Env := (some (.ownI c all [] []) :: ds.map fun d => some (Slot.val d)) ++ List.replicate (n - (ds.length + 1)) none
def initW (G : Tab) (n c : Nat) (all : List Nat) (b : S) (ds : List D) : W D := fun Q X => wB G b (startI n c all ds) (fun (f : Fl) => match f with
  | .nx (ρ : DV.Env) => match ρ[0]? with
    | some (some (DV.Slot.ownI c' _ ns vs)) => c' = c ∧ Q (.ins c ns vs)
    | _ => False
  | _ => False) (fun x _ => X x)
theorem startI_get {n c : Nat} {all : List Nat} {ds : List D} {i : Nat} {s : Slot} (h : (startI n c all ds)[i]? = some (some s)) : (i = 0 ∧ s = .ownI c all [] []) ∨ ∃ j d, i = j + 1 ∧ ds[j]? = some d ∧ s = .val d := by
  unfold startI at h
  by_cases z : i < ds.length + 1
  · rw [List.getElem?_append_left (by rw [List.length_cons, List.length_map]; exact z)] at h
    cases i with
    | zero => cases h; exact .inl ⟨rfl, rfl⟩
    | succ j =>
      rw [List.getElem?_cons_succ, List.getElem?_map, List.getElem?_eq_getElem (by omega)] at h
      cases h
      exact .inr ⟨j, _, rfl, List.getElem?_eq_getElem (by omega), rfl⟩
  · rw [List.getElem?_append_right (by rw [List.length_cons, List.length_map]; omega), List.getElem?_replicate] at h
    split at h <;> cases h
theorem in_snd {x qual : Str} {st : Stmt} {f : Addr} {fd : FuncData} {N ps : List Str} {b : S} {c : Nat} {all : List Nat} (F : Fun K x qual st f fd) (S : FnScope N ps (defScope st)) (M : Mo P w K mg base nm hc hv ca G k) (h : ckS nm hc N b (defScope st) (defBody st) = true) (hI : InsOk ⟨K, ca, nm.fl⟩ c all) (hp : ps.length ≠ 0) :
    FnOk P w K mg base (L2.CX P w) (k + 1) f fd ps (SpIn ⟨K, ca, nm.fl⟩ c (ps.length - 1) (initW G N.length c all b)) := by
  refine F.okX S (fun vs H Q E q => ?_) fun cdv A outer s H vs Q E hr q => ?_
  · obtain ⟨x, dx, us, F, hd, ds, _, _, rfl, h1, _, _, h2, _⟩ := q
    rw [List.length_cons, h2.length, h1]; omega
  · obtain ⟨x, dx, us, F, hd, ds, Qd, Ed, rfl, h1, hx, h2, h3, h4, h5, h6⟩ := q
    refine ⟨_, sndS hc hv G k N b nm ca (defScope st) (defBody st) h _ _ (M.ctx S.nd S.kind hr), ?_⟩
    have hl := h3.length
    have hH : upd (without H x) x (.ins (ca c) dx []) = H := by
      funext a
      by_cases z : a = x
      · rw [z, upd_same, hx]
      · rw [upd_ne z]; exact if_neg z
    have n0 : (without H x) x = none := if_pos rfl
    obtain ⟨nf, nh⟩ := h2.fr n0
    have E0 : Ev hd (without H x) H F F := by
      have := (Ev.refl h2).mut (o := .ins (ca c) dx []) n0 nf nh
      rw [hH] at this; exact this
    have hps := scope_len S
    have r : Real ⟨K, ca, nm.fl⟩ ⟨hd, without H x, F, [], some x⟩ F (startI N.length c all ds) (L2.start N (.ref x :: us)) H := by
      refine ⟨E0.wf, ?_, fun i s e => ?_, fun i j s t p e1 e2 o1 o2 _ _ => ?_, fun i j s t e1 e2 o1 _ => ?_, E0.sb, fun _ z => z, fun _ z => .inl z, E0.hc, fun q hq => by cases hq⟩
      · unfold startI L2.start
        rw [List.length_append, List.length_append, List.length_map, List.length_replicate, List.length_replicate, List.length_cons, List.length_cons, List.length_map, hl]
      · rcases startI_get e with ⟨rfl, rfl⟩ | ⟨j, d, rfl, hj, rfl⟩
        · exact ⟨some (.ref x), rfl, x, dx, [], rfl, nf, nh, ⟨n0, rfl⟩, hx, rfl, hI, (fun n hn => by cases hn), .nil⟩
        · obtain ⟨v, g1, g2⟩ := h3.get' hj
          refine ⟨some v, start_get (by rw [List.getElem?_cons_succ]; exact g1), v, rfl, g2.mono (fun _ z => z) (E0.sta h2)⟩
      · rcases startI_get e1 with ⟨rfl, rfl⟩ | ⟨j1, d, rfl, hj, rfl⟩
        · rcases startI_get e2 with ⟨rfl, rfl⟩ | ⟨j2, d, rfl, hj, rfl⟩
          · rfl
          · cases o2
        · cases o1
      · rcases startI_get e1 with ⟨rfl, rfl⟩ | ⟨j1, d, rfl, hj, rfl⟩
        · cases o1
        · cases o1
    refine ⟨⟨hd, without H x, F, [], some x⟩, F, startI N.length c all ds, _, _, r, h4, ⟨fun F' ρ' σ' H' rr q => ?_, fun F' H' u d e hd q => q.elim, fun _ _ _ _ _ q => q, fun _ _ _ _ _ q => q⟩, fun F' ρ' σ' H' cls dd y r hx q => h6 F' H' cls dd y r.ev0 hx q⟩
    dsimp only at q
    cases e : ρ'[0]? with
    | none => rw [e] at q; exact q.elim
    | some o =>
      cases o with
      | none => rw [e] at q; exact q.elim
      | some sl =>
        rw [e] at q
        obtain ⟨v, hv, hs⟩ := rr.sl 0 sl e
        cases sl with
        | ownI c' all' ns ws =>
          obtain ⟨p, dx', fs, rfl, g1, g2, ⟨g3, g3'⟩, g4, g5, g6, g7, g8⟩ := hs
          obtain ⟨rfl, q⟩ := q
          cases g3'
          exact h5 F' H' dx' ns fs ws rr.ev0 g1 g4 g5 ⟨g6.cl, fun n hn => g6.na n (g7 n hn), fun n hn m hm => g6.inj n (g7 n hn) m (g7 m hm)⟩ g8 q
        | _ => exact q.elim
end
end DV
/-! DV: the module's own exceptions. -/
namespace DV
open PySem PySem.Spec PyProof.Rows L2
section
variable {X : Cx} {pins : List (Addr × Obj)} {σ : L2.St} {H1 H2 : Hp} {Q : XK} {hp hp2 h2 : Heap} {g1 g2 : Array GenState} {d1 d2 : Drawn} {t1 t2 : Nat} {os1 os2 : OsState} {a C d : Addr} {fs : List (Str × V)}
/-- made without a dict -/
theorem mk_none (T : Raises X (.ref C)) (I1 : Inv X pins σ H1 ⟨hp, g1, d1, t1, os1⟩) (ha : hp.objs.size ≤ a) (k : ∀ b o, hp.get? b = some o → hp2.get? b = some o) (un : Un (frs X.stack) [] (upd H1 a (exo a C none)) H2 hp2 h2) (hok : HOk X.prog X.w H2 h2) (ho : os2 = os1) (hb : AllBare g2)
    (ea : H2 a = some (exo a C none)) (q : Q (.ref C) none (del H2 a)) : MkP X pins σ Q (.ref a) ⟨h2, g2, d2, t2, os2⟩ := by
  obtain ⟨t0, hoe⟩ := exo_at hok ea
  have hn : H1 a = none := I1.hok.fresh ha
  obtain ⟨G, gk0, ge0⟩ := restrict h2 fun b => decide (b ≠ a)
  have gk : ∀ b, b ≠ a → G.get? b = h2.get? b := fun b hb => gk0 b (decide_eq_true hb)
  have ge : G.get? a = none := ge0 a (by simp)
  have nha : ∀ {b : Addr} {o : Obj}, hp.get? b = some o → b ≠ a := fun {b o} z => Nat.ne_of_lt (Nat.lt_of_lt_of_le (Heap.lt_size z) ha)
  have up : ∀ {b : Addr}, b ≠ a → H1 b = none → upd H1 a (exo a C none) b = none := fun {b} hb n => by rw [upd_ne hb, n]
  have U : Un (frs X.stack) [] H1 (del H2 a) hp G := {
    keep := fun b o z n hf hx => (gk b (nha z)).trans (un.keep b o (k b o z) (up (nha z) n) hf hx)
    slot := fun b o z n hf hx => by
      obtain ⟨sl, e⟩ := un.slot b o (k b o z) (up (nha z) n) hf hx
      exact ⟨sl, (gk b (nha z)).trans e⟩
    free := fun b o z n hx => (del_ne (nha z)).trans (un.free b o (k b o z) (up (nha z) n) hx)
    there := fun b o z hx => by
      obtain ⟨o', e⟩ := un.there b o (k b o z) hx
      exact ⟨o', (gk b (nha z)).trans e⟩
    tups := fun b xs z => (del_ne (ne_of_none z hn)).trans (un.tups b xs ((upd_ne (ne_of_none z hn)).trans z))
    frzs := fun b o v z => (del_ne (ne_of_none z hn)).trans (un.frzs b o v ((upd_ne (ne_of_none z hn)).trans z))
    tbls := fun b ps z => by
      obtain ⟨more, e⟩ := un.tbls b ps ((upd_ne (ne_of_none z hn)).trans z)
      exact ⟨more, (del_ne (ne_of_none z hn)).trans e⟩ }
  have hok3 : HOk X.prog X.w (del H2 a) G := fun b o z => by
    have hba : b ≠ a := fun e => by rw [e, del_same] at z; cases z
    rw [del_ne hba] at z
    have noa : ∀ {c : Addr}, H2 c = some (.own b) → c ≠ a := fun {c} hc => at_ne ea hc exo_own
    refine (hok b o z).stay (fun c v hc y => (gk c ?_).trans y) (fun c hc => (del_ne (noa hc)).trans hc) (fun c xs hc => (del_ne (at_ne ea hc exo_tup)).trans hc)
    rcases hc with hc | hc
    · rw [hc]; exact hba
    · exact noa hc
  have J : Inv X pins σ (del H2 a) ⟨G, g2, d2, t2, os2⟩ := I1.call' (ch := []) ho U hok3 hb (fun b z => absurd z (by simp))
  refine ⟨a, _, _, ⟨G, g2, d2, t2, os2⟩, _, .ref C, none, rfl, J, fun b o z => ?_, ge, hoe, ⟨rfl, rfl⟩, rfl, rfl, del_same, rfl, hb, T, q⟩
  by_cases hba : b = a
  · rw [hba, ge] at z; cases z
  · exact (gk b hba).symm.trans z
end
/-- C(..), by what its __init__ keeps -/
theorem exc_run {X : Cx} {CX : CXT} {C fI : Addr} {k : Nat} {fd : FuncData} {ps : List Str} {sp : Sp} {pins : List (Addr × Obj)} {σ : L2.St} {H1 : Hp} {s : Shared} {us : List Value} {vs : List V} {Q : XK} (T : OexC X.K C) (iC : PySem.W.findIn X.K (.ref C) "__init__" = some (some (.ref fI))) (tI : PySem.W.typeIn X.K (.ref fI) = some (.type "function"))
    (F1 : FnOk X.prog X.w X.K X.mg X.base CX k fI fd ps sp) (hr : Room (k + 1) X.A) (hb : Binds X.K fd ps []) (hx : Passes CX X (fun _ _ _ => False)) (I1 : Inv X pins σ H1 s) (r1 : Vals vs us) (hz : vs.length ≤ 1000)
    (q1 : ∀ a, H1 a = none → sp (.ref a :: vs) (upd H1 a (exo a C none)) (fun v H2 => v = .non ∧ ((∃ (d : Addr) (fs : List (Str × V)), H2 a = some (exo a C (some d)) ∧ H2 d = some (exd d fs) ∧ H1 d = none ∧ Q (.ref C) (some d) (upd (del H2 a) d (.xd fs))) ∨ (H2 a = some (exo a C none) ∧ Q (.ref C) none (del H2 a)))) (fun _ _ _ => False)) :
    wpAny (model X.prog X.w) X.A (call (.ref C) us) (MkP X pins σ Q) X.xe s := by
  obtain ⟨nm, q, N, bs, bm, sn, sub, ab, col, dd, k0, k1, k2, k3, k5, hC, hbm⟩ := T.cls
  obtain ⟨hp, g, dr, tk, os⟩ := s
  have sz1 : hp.objs.size ≤ hp.objs.size + 1 := Nat.le_succ _
  have fr1 : H1 (hp.objs.size + 1) = none := I1.hok.fresh sz1
  have hq := q1 (hp.objs.size + 1) fr1
  have kk : ∀ b o, hp.get? b = some o → ((hp.push (PySem.W.kdv_tup us)).push (PySem.HandSPX.excO C hp.objs.size)).get? b = some o := fun b o e => Heap.get?_push_of_some _ (Heap.get?_push_of_some _ e)
  have got : ((hp.push (PySem.W.kdv_tup us)).push (PySem.HandSPX.excO C hp.objs.size)).get? (hp.objs.size + 1) = some (PySem.HandSPX.excO C hp.objs.size) := by heap_get
  have I2 : Inv X pins σ (upd H1 (hp.objs.size + 1) (exo (hp.objs.size + 1) C none)) ⟨(hp.push (PySem.W.kdv_tup us)).push (PySem.HandSPX.excO C hp.objs.size), g, dr, tk, os⟩ :=
    I1.laid (t' := tk) (a := hp.objs.size + 1) (o := exo (hp.objs.size + 1) C none) (h' := (hp.push (PySem.W.kdv_tup us)).push (PySem.HandSPX.excO C hp.objs.size)) kk sz1 (exo_ok got)
  have r2 : Vals (V.ref (hp.objs.size + 1) :: vs) (Value.ref (hp.objs.size + 1) :: us) := .cons rfl r1
  have len2 : (Value.ref (hp.objs.size + 1) :: us ++ []).length = ps.length := by
    have e := r2.length
    rw [F1.len _ _ _ _ hq] at e
    rw [List.append_nil]; exact e.symm
  have hus : us.length ≤ sizeLine := by
    rw [← Paired.length r1, sizeLine_eq]
    omega
  have b := hb _ (Value.ref (hp.objs.size + 1) :: us) I2.kIn len2
  rw [List.append_nil] at b
  refine wpAny_call (PySem.HandSPX.call_own F.excBase_ValueError (fun Y => PySem.HandSPX.refsVE_contains Y bm hbm) (I1.kIn _ _ hC) (PySem.W.looks_findIn I1.kIn iC) (fun self => PySem.W.bind_fn I1.kIn self tI) hus
    (codeAny_mono (F1.run _ X.stack _ _ ⟨Value.ref (hp.objs.size + 1) :: us, []⟩ (Value.ref (hp.objs.size + 1) :: us) _ _ (fun _ _ _ => False) (hr.make C us []) (I2.env0.make C us []) b r2 hq) fun r s' hq' => ?_))
  cases r with
  | error er => exact hx pins σ _ _ er s' I2 hq'
  | ok fl =>
    cases fl with
    | ret u =>
      obtain ⟨v, H2, os2, bare2, un2, hok2, rv, ev, hc⟩ := hq'
      subst ev
      obtain ⟨h2, g2, d2, t2, os'⟩ := s'
      rcases hc with ⟨d, fs, ea, ed, hd1, q2⟩ | ⟨ea, q2⟩
      · exact ⟨rv, mk_end (raises_own T.exC T.tyC) I1 sz1 kk un2 hok2 os2 bare2 ea ed hd1 q2⟩
      · exact ⟨rv, mk_none (raises_own T.exC T.tyC) I1 sz1 kk un2 hok2 os2 bare2 ea q2⟩
    | _ => exact False.elim hq'
/-- Base.__init__(self, ..) of an own base class -/
theorem pe_base {X : Cx} {e : Expr} {es : List Expr} {ta : TA} {p1 p2 pos : Pos} {B : Str} {CB : Addr} {mc : Value} (hg : Gl X B) (hm : X.mg B = some (.ref CB)) (hdb : (B == ("__debug__" : Str)) = false) (g1 : PySem.W.specialIn X.K (.ref CB) "__getattribute__" = some (some (.builtin "type.__getattribute__"))) (g2 : PySem.W.typeIn X.K (.ref CB) = some mc) (g3 : PySem.W.readsIn X.K CB mc = true)
    (g4 : PySem.W.findCls X.K (.ref CB) mc "__init__" = some (.val (.builtin "ValueError.__init__"))) (ha : PA X (e :: es) ta) (hs : (e :: es).all notStar = true) (hl : (p2.endLine == pos.line) = true) (hn : (e :: es).length < 30) :
    PE X (.Call (.Attribute (.Name B p1) "__init__" p2) (e :: es) [] pos) (tVeI X.K ta) := by
  have hs' : notStar e = true ∧ es.all notStar = true := by simpa using hs
  refine ⟨fun pins s σ H Q I h => ?_⟩
  refine PySem.W.methodCall_KW (pl := do return (← importBound (.Name B p1) X.env).getD true) (ld_glob I hg hm ?_ hdb) (ht_of rfl hl hs hn)
  obtain ⟨m, fr⟩ := I.fr
  refine PySem.W.method_of_cls fr I.ok.mod.kin g1 (PySem.W.cls_val fr I.ok.mod.kin g2 g3 g4 (by decide +kernel) ?_)
  show wpAny _ _ (callWith pos (Value.builtin "ValueError.__init__") [] (backTo pos (starEach (e :: es) X.env)) []) _ _ _
  refine PyProof.Rows.callWith_method1 (thn (ha.run pos pins _ σ H _ (I.tok _) h) fun us s1 ⟨vs, H1, I1, rr, a, C, ws, ev, hl, T, ea, q⟩ => ?_) (star_cons hs'.1) (star_any hs'.2)
  subst ev
  cases rr with
  | @cons _ u0 _ ur ra rw' =>
    have eu : u0 = Value.ref a := ra
    subst eu
    exact oinit_ok T I1 ea (by rw [← Paired.length rw', sizeLine_eq]; omega) fun s' J => ⟨.non, H1, J, rfl, q⟩
/-! ### an __init__ that stores its arguments -/
def tStX (K : PySem.W.Frag) : Nat → List Str → TS
  | _, [] => tNext
  | i, f :: fs => tSeq (tOst K f (tVar 0) (tVar i)) (tStX K (i + 1) fs)
def ckSt (N : List Str) (sc : Scope) : Nat → List Str → List Stmt → Bool
  | _, [], [] => true
  | i, f :: fs, st :: rest => (match xAsgA st with
    | some (x, g, ex) => decide (g = f) && (xSlot N sc 0 x && (match xName ex with
      | some y => xSlot N sc i y
      | none => false))
    | none => false) && ckSt N sc (i + 1) fs rest
  | _, _, _ => false
/-- the base's own call ahead, or none -/
def xBase : Stmt → Option (Str × Expr × Expr × Bool)
  | .Expr (.Call (.Attribute (.Name B _) m p2) [a, b] [] pos) _ => if m = "__init__" then some (B, a, b, p2.endLine == pos.line) else none
  | _ => none
theorem xBase_eq {s : Stmt} {B : Str} {a b : Expr} {l : Bool} (h : xBase s = some (B, a, b, l)) : ∃ p1 p2 pos q, s = .Expr (.Call (.Attribute (.Name B p1) "__init__" p2) [a, b] [] pos) q ∧ (p2.endLine == pos.line) = l := by
  unfold xBase at h
  split at h
  · split at h
    · rename_i z
      cases h
      subst z
      exact ⟨_, _, _, _, rfl, rfl⟩
    · cases h
  · cases h
def ckIn (N : List Str) (sc : Scope) (B : Str) (base : Bool) (fs : List Str) (sts : List Stmt) : Bool :=
  if base = true then match sts with
    | st :: rest => (match xBase st with
      | some (B', a, b, l) => decide (B' = B) && (gloB sc B && (nodb B && (l && ((match xName a, xConst b with
        | some x, some (.str y) => xSlot N sc 0 x && PyData.strOk y
        | _, _ => false) && ckSt N sc 1 fs rest))))
      | none => false)
    | [] => false
  else ckSt N sc 1 fs sts
section
variable {X : Cx}
theorem ckSt_ps {N : List Str} {sc : Scope} (hN : X.N = N) (hsc : X.env.scope = sc) : ∀ (fs : List Str) (i : Nat) (sts : List Stmt), ckSt N sc i fs sts = true → PSs X sts (tStX X.K i fs)
  | [], _, [], _ => pss_nil
  | [], _, _ :: _, h => by cases h
  | _ :: _, _, [], h => by cases h
  | f :: fs, i, st :: rest, h => by
    unfold ckSt at h
    have h' := Bool.and_eq_true_iff.mp h
    refine pss_cons ?_ (ckSt_ps hN hsc fs (i + 1) rest h'.2)
    have h1 := h'.1
    split at h1
    · rename_i x g ex hx
      obtain ⟨p1, p2, pos, rfl⟩ := xAsgA_eq hx
      cases hy : xName ex with
      | none => rw [hy] at h1; simp at h1
      | some y =>
        rw [hy] at h1
        obtain ⟨p3, rfl⟩ := xName_eq hy
        unfold xSlot at h1
        simp only [Bool.and_eq_true, decide_eq_true_eq] at h1
        obtain ⟨rfl, ⟨⟨a1, a2⟩, a3⟩, ⟨b1, b2⟩, b3⟩ := h1
        subst hN
        subst hsc
        exact ps_ost (pe_var a1 (vis_of a2) (nodb1 a3) (nodb2 a3)) (pe_var b1 (vis_of b2) (nodb1 b3) (nodb2 b3)) rfl
    · cases h1
end
/-- what an exception's __init__ keeps -/
def spX (K : PySem.W.Frag) (fs : List Str) : Sp := fun vs H Q _ => ∃ (a C : Addr) (ws : List V), vs = .ref a :: ws ∧ ws.length = fs.length ∧ OexC K C ∧ (∀ f ∈ fs, PySem.W.findIn K (.ref C) f = some none) ∧ H a = some (exo a C none) ∧
  (fs = [] → Q .non H) ∧ (fs ≠ [] → ∀ (d : Addr) (l : List (Str × V)), H d = none → d ≠ a → (∀ (j : Nat) (f : Str) (v : V), fs[j]? = some f → ws[j]? = some v → l.lookup f = some v) → Q .non (upd (upd H d (exd d l)) a (exo a C (some d))))
theorem upd_comm {H : Hp} {a b : Addr} {x y : HO} (h : a ≠ b) : upd (upd H a x) b y = upd (upd H b y) a x := by
  funext c
  by_cases z : c = b
  · subst z
    rw [upd_same, upd_ne (Ne.symm h), upd_same]
  · rw [upd_ne z]
    by_cases z2 : c = a
    · subst z2
      rw [upd_same, upd_same]
    · rw [upd_ne z2, upd_ne z2, upd_ne z]
theorem upd_upd {H : Hp} {a : Addr} {x y : HO} : upd (upd H a x) a y = upd H a y := by
  funext c
  by_cases z : c = a
  · subst z; rw [upd_same, upd_same]
  · rw [upd_ne z, upd_ne z, upd_ne z]
theorem stores_more {K : PySem.W.Frag} {a C d : Addr} {H : Hp} {D0 : Ends} (T : OexC K C) (hda : d ≠ a) : ∀ (fs : List Str) (i : Nat) (σ : L2.St) (ws : List V) (l : List (Str × V)), (∀ f ∈ fs, PySem.W.findIn K (.ref C) f = some none) → fs.Nodup → ws.length = fs.length → l.length + fs.length ≤ 900 → σ[0]? = some (some (.ref a)) → (∀ (j : Nat) (v : V), ws[j]? = some v → σ[i + j]? = some (some v)) →
    (∀ l' : List (Str × V), (∀ (j : Nat) (f : Str) (v : V), fs[j]? = some f → ws[j]? = some v → l'.lookup f = some v) → (∀ f, f ∉ fs → l'.lookup f = l.lookup f) → D0.nx σ (upd (upd H d (exd d l')) a (exo a C (some d)))) →
    tStX K i fs D0 σ (upd (upd H d (exd d l)) a (exo a C (some d)))
  | [], _, σ, ws, l, _, _, _, _, _, _, k => k l (fun j f v h _ => by simp at h) fun _ _ => rfl
  | f :: fs, i, σ, w :: ws, l, hno, hnd, hl, h9, h0, hs, k => by
    have hnd' := List.nodup_cons.mp hnd
    refine ⟨w, hs 0 w rfl, .ref a, h0, a, C, rfl, T, hno f List.mem_cons_self, .inr ⟨d, l, upd_same, by rw [upd_ne hda, upd_same], by simp only [List.length_cons] at h9; omega, ?_⟩⟩
    have e : upd (upd (upd H d (exd d l)) a (exo a C (some d))) d (exd d ((f, w) :: l)) = upd (upd H d (exd d ((f, w) :: l))) a (exo a C (some d)) := by
      rw [upd_comm (Ne.symm hda), upd_upd]
    rw [e]
    refine stores_more T hda fs (i + 1) σ ws ((f, w) :: l) (fun g hg => hno g (List.mem_cons_of_mem _ hg)) hnd'.2 (by simpa using hl) (by simp only [List.length_cons] at h9 ⊢; omega) h0 (fun j v hj => by
      have := hs (j + 1) v (by simpa using hj)
      rw [show i + 1 + j = i + (j + 1) by omega]; exact this) fun l' h1 h2 => k l' (fun j g v a1 a2 => ?_) fun g hg => ?_
    · cases j with
      | zero =>
        simp at a1 a2
        subst a1 a2
        rw [h2 f hnd'.1, lookup_put, if_pos rfl]
      | succ j => exact h1 j g v (by simpa using a1) (by simpa using a2)
    · rw [h2 g fun z => hg (List.mem_cons_of_mem _ z), lookup_put, if_neg fun z => hg (by rw [z]; exact List.mem_cons_self)]
theorem stores_all {K : PySem.W.Frag} {a C : Addr} {H : Hp} {D0 : Ends} (T : OexC K C) {fs : List Str} {σ : L2.St} {ws : List V} (hno : ∀ f ∈ fs, PySem.W.findIn K (.ref C) f = some none) (hnd : fs.Nodup) (hl : ws.length = fs.length) (h9 : fs.length ≤ 900) (h0 : σ[0]? = some (some (.ref a))) (hs : ∀ (j : Nat) (v : V), ws[j]? = some v → σ[1 + j]? = some (some v)) (ha : H a = some (exo a C none))
    (k0 : fs = [] → D0.nx σ H) (k : fs ≠ [] → ∀ (d : Addr) (l : List (Str × V)), H d = none → d ≠ a → (∀ (j : Nat) (f : Str) (v : V), fs[j]? = some f → ws[j]? = some v → l.lookup f = some v) → D0.nx σ (upd (upd H d (exd d l)) a (exo a C (some d)))) : tStX K 1 fs D0 σ H := by
  cases fs with
  | nil => exact k0 rfl
  | cons f fs =>
    cases ws with
    | nil => cases hl
    | cons w ws =>
      have hnd' := List.nodup_cons.mp hnd
      refine ⟨w, hs 0 w rfl, .ref a, h0, a, C, rfl, T, hno f List.mem_cons_self, .inl ⟨ha, fun d hd hda => ?_⟩⟩
      refine stores_more T hda fs 2 σ ws [(f, w)] (fun g hg => hno g (List.mem_cons_of_mem _ hg)) hnd'.2 (by simpa using hl) (by simp only [List.length_cons, List.length_nil] at h9 ⊢; omega) h0 (fun j v hj => by
        have := hs (j + 1) v (by simpa using hj)
        rw [show 2 + j = 1 + (j + 1) by omega]; exact this) fun l' h1 h2 => k (by simp) d l' hd hda fun j g v a1 a2 => ?_
      cases j with
      | zero =>
        simp at a1 a2
        subst a1 a2
        rw [h2 f hnd'.1, lookup_put, if_pos rfl]
      | succ j => exact h1 j g v (by simpa using a1) (by simpa using a2)
/-- what is to be known of the base class at the end of the chain of own ones -/
structure BaseOk (K : PySem.W.Frag) (mg : Str → Option Value) (B : Str) : Prop where
  ex : ∃ (CB : Addr) (mc : Value), mg B = some (.ref CB) ∧ PySem.W.specialIn K (.ref CB) "__getattribute__" = some (some (.builtin "type.__getattribute__")) ∧ PySem.W.typeIn K (.ref CB) = some mc ∧ PySem.W.readsIn K CB mc = true ∧
    PySem.W.findCls K (.ref CB) mc "__init__" = some (.val (.builtin "ValueError.__init__"))
theorem ex_fn {P : Program} {w : World} {K : PySem.W.Frag} {mg : Str → Option Value} {hp0 : Heap} {qual : Str} {st : Stmt} {f : Addr} {fd : FuncData} {N ps fs : List Str} {B : Str} {bs : Bool} (F : Fun K "__init__" qual st f fd) (S : FnScope N ps (defScope st)) (hps : ps.length = fs.length + 1)
    (hck : ckIn N (defScope st) B bs fs (defBody st) = true) (hB : bs = true → BaseOk K mg B) (hnd : fs.Nodup) (h9 : fs.length ≤ 900) : FnOk P w K mg hp0 (L2.CX P w) 1 f fd ps (spX K fs) := by
  refine F.okX S (fun vs H Q E q => ?_) fun cdv A outer s H vs Q E hr q => ?_
  · obtain ⟨a, C, ws, rfl, h1, _⟩ := q
    rw [List.length_cons, h1, hps]
  · obtain ⟨a, C, ws, rfl, h1, T, hno, ha, q0, q1⟩ := q
    have hl := scope_len S
    have s0 : (L2.start N (.ref a :: ws))[0]? = some (some (.ref a)) := start_get (vs := .ref a :: ws) rfl
    have sj : ∀ (j : Nat) (v : V), ws[j]? = some v → (L2.start N (.ref a :: ws))[1 + j]? = some (some v) := fun j v hj => start_get (by rw [Nat.add_comm, List.getElem?_cons_succ]; exact hj)
    unfold ckIn at hck
    cases bs with
    | false =>
      rw [if_neg Bool.false_ne_true] at hck
      exact ⟨_, ckSt_ps rfl rfl fs 1 _ hck, stores_all T hno hnd h1 h9 s0 sj ha q0 q1⟩
    | true =>
      rw [if_pos rfl] at hck
      obtain ⟨CB, mc, b1, b2, b3, b4, b5⟩ := (hB rfl).ex
      generalize defBody st = sts at hck
      cases sts with
      | nil => cases hck
      | cons st1 rest =>
        dsimp only at hck
        cases hx : xBase st1 with
        | none => rw [hx] at hck; cases hck
        | some r =>
          obtain ⟨B', e1, e2, l⟩ := r
          rw [hx] at hck
          obtain ⟨p1, p2, pos, qq, rfl, hline⟩ := xBase_eq hx
          dsimp only at hck
          have k1 := Bool.and_eq_true_iff.mp hck
          have k2 := Bool.and_eq_true_iff.mp k1.2
          have k3 := Bool.and_eq_true_iff.mp k2.2
          have k4 := Bool.and_eq_true_iff.mp k3.2
          have k5 := Bool.and_eq_true_iff.mp k4.2
          have eB := of_decide_eq_true k1.1
          subst eB
          cases hn1 : xName e1 with
          | none => rw [hn1] at k5; cases k5.1
          | some x1 =>
            cases hc1 : xConst e2 with
            | none => rw [hn1, hc1] at k5; cases k5.1
            | some c1 =>
              rw [hn1, hc1] at k5
              obtain ⟨p3, rfl⟩ := xName_eq hn1
              obtain ⟨j1, p4, rfl⟩ := xConst_eq hc1
              cases c1 with
              | str y =>
                have k6 := Bool.and_eq_true_iff.mp k5.1
                have k7 := k6.1
                unfold xSlot at k7
                simp only [Bool.and_eq_true, decide_eq_true_eq] at k7
                refine ⟨_, pss_cons (ps_expr (pe_base (glo_of k2.1) b1 (nodb1 k3.1) b2 b3 b4 b5 (pa_cons (pe_var k7.1.1 (vis_of k7.1.2) (nodb1 k7.2) (nodb2 k7.2)) (pa_cons pe_str pa_nil)) rfl (by rw [hline]; exact k4.1) (show 2 < 30 by decide))) (ckSt_ps rfl rfl fs 1 _ k5.2), ?_⟩
                exact ⟨.ref a, s0, a, C, [.str y], rfl, (show 1 ≤ 1000 by decide), T, ha, stores_all T hno hnd h1 h9 s0 sj ha q0 q1⟩
              | _ => cases k5.1
theorem exE_of {X : Cx} {ca : Ca} {fl : Nat → Str} {x : Str} {c : Nat} {ns : List Nat} {fI : Addr} {fd : FuncData} {ps : List Str} (T : OexC X.K (ca c)) (iC : PySem.W.findIn X.K (.ref (ca c)) "__init__" = some (some (.ref fI))) (tI : PySem.W.typeIn X.K (.ref fI) = some (.type "function"))
    (G : FnOk X.prog X.w X.K X.mg X.base (L2.CX X.prog X.w) 1 fI fd ps (spX X.K (ns.map fl))) (hb : Binds X.K fd ps []) (hm : X.mg x = some (.ref (ca c))) (hk : PySem.W.keepIn X.K (.ref (ca c)) = true) (hr : Room 2 X.A) (hno : ∀ f ∈ ns.map fl, PySem.W.findIn X.K (.ref (ca c)) f = some none) (h9 : ns.length ≤ 900) : ExE X ca fl x c ns := by
  intro args t p pos hg hn ha hs h0 hl
  intro pins s σ H Q I h
  have go : ∀ {H1 : Hp} {s1 : Shared} {us : List Value} {vs : List V}, Inv X pins σ H1 s1 → Vals vs us → vs.length = ns.length → (∀ (cls : Value) (dd : Option Addr) (H2 : Hp), XoK (cmX X ca fl) H1 H2 c ns vs cls dd → Q cls dd H2) →
      wpAny (model X.prog X.w) X.A (call (.ref (ca c)) us) (MkP X pins σ Q) X.xe s1 := fun {H1 s1 us vs} I1 r1 el q => by
    refine exc_run T iC tI G hr hb passL I1 r1 (by omega) fun a na => ?_
    refine ⟨a, ca c, vs, rfl, by rw [List.length_map]; exact el, T, hno, upd_same, fun e => ⟨rfl, .inr ⟨upd_same, q _ _ _ ⟨rfl, fun b o hb => ?_, .inl ⟨List.map_eq_nil_iff.mp e, rfl⟩⟩⟩⟩, fun e d l hd hda hl => ⟨rfl, .inl ⟨d, l, upd_same, by rw [upd_ne hda, upd_same], ?_, q _ _ _ ⟨rfl, fun b o hb => ?_, .inr ⟨d, l, rfl, upd_same, fun j n v h1 h2 => ?_⟩⟩⟩⟩⟩
    · rw [del_ne (ne_of_none hb na), upd_ne (ne_of_none hb na)]; exact hb
    · rw [upd_ne hda] at hd; exact hd
    · rw [upd_ne hda] at hd
      have n1 := ne_of_none hb na
      have n2 := ne_of_none hb hd
      rw [upd_ne n2, del_ne n1, upd_ne n1, upd_ne n2, upd_ne n1]; exact hb
    · exact hl j (fl n) v (by rw [List.getElem?_map, h1]; rfl) h2
  refine wpAny_Call_Name_kw (ld_glob I hg hm ?_ (nodb1 hn))
  cases args with
  | nil =>
    cases h0 rfl
    obtain ⟨e1, _, e2⟩ := h
    exact PySem.W.callWith_K0 I.kIn hk (go I .nil e1 e2)
  | cons e es =>
    have hs' : notStar e = true ∧ es.all notStar = true := by simpa using hs
    exact PySem.W.callWith_K (h₀ := X.base) I.ok.mod.kin hk (thn (ha.run pos pins s σ H _ I h) fun us s1 ⟨vs, H1, I1, r1, e1, _, e2⟩ => ⟨I1.kIn, go I1 r1 e1 e2⟩) (star_cons hs'.1) (star_any hs'.2)
end DV
/-! DV: the hand and the law's def. -/
namespace DV
open PySem PySem.Spec PyProof.Rows L2
/-- take: any number below -/
def takeW : List D → W D
  | [.hand, .int n] => fun Q _ => 0 < n ∧ n.natAbs.log2 < 9000 ∧ ∀ r : Int, 0 ≤ r → r < n → Q (.int r)
  | _ => fail
def mixOk (φ : List D → W D) : Prop := ∀ (a b : Int) (Q Ed : D → Prop), (∀ z : Int, Q (.int z)) → φ [.int a, .int b] Q Ed
theorem ev_hand {F : AP} {hd : Option Addr} {H : Hp} {h c : Addr} {cells : List Int} {p r m p' r' m' : Int} (w : WF F hd H) (e : hd = some h) (hh : H h = some (.lst [.ref c, .int p, .int r, .int m])) (fc : F c) (hc : H c = some (.lst (cells.map V.int))) (l : cells.length ≤ 63) (hz : ∀ z ∈ cells, 0 ≤ z)
    (b : 0 ≤ p' ∧ p' ≤ 63 ∧ 0 ≤ r' ∧ 0 ≤ m' ∧ m' < 2 ^ 31) : Ev hd H (upd H h (.lst [.ref c, .int p', .int r', .int m'])) F F := by
  have nc : ∀ a, F a → a ≠ h := fun a fa z => w.nh a fa (by rw [z]; exact e)
  refine ⟨fun a o ha n => ?_, fun _ z => z, fun _ z => .inl z, ⟨fun a fa => ?_, w.nh, fun h' eh => ?_⟩, fun h' c' rr eh q => ?_⟩
  · have : a ≠ h := fun z => n (by rw [z]; exact e)
    rw [upd_ne this]; exact ha
  · rw [upd_ne (nc a fa)]; exact w.tr a fa
  · rw [e] at eh
    cases eh
    exact ⟨c, cells, p', r', m', upd_same, fc, by rw [upd_ne (nc c fc)]; exact hc, l, hz, b.1, b.2.1, b.2.2.1, b.2.2.2.1, b.2.2.2.2⟩
  · rw [e] at eh
    cases eh
    rw [hh] at q
    cases q
    exact ⟨_, upd_same⟩
/-- the hand is made of the script -/
def spHand (K : PySem.W.Frag) : Sp := fun vs H Q _ => ∃ (a : Addr) (ns : List Int), vs = [.ref a] ∧ SqL K H a (ns.map V.int) ∧ ns.length ≤ 63 ∧
  ∀ (H' : Hp) (h c : Addr) (cells : List Int) (t : Int), (∀ b o, H b = some o → H' b = some o) → c ≠ h → H' h = some (.lst [.ref c, .int 0, .int 0, .int t]) → H' c = some (.lst (cells.map V.int)) → cells.length ≤ 63 → (∀ z ∈ cells, 0 ≤ z) → 0 ≤ t → t < 2 ^ 31 → Q (.ref h) H'
/-- the law's own promise -/
def spLaw (K : PySem.W.Frag) : Sp := fun vs H Q _ => ∃ (a : Addr) (ns : List Int), vs = [.ref a] ∧ SqL K H a (ns.map V.int) ∧ ns.length ≤ 63 ∧ ∀ H', Q (.bl true) H'
def rho0 (n : Nat) : DV.Env := (List.replicate n (none : Option DV.Slot)).set 1 (some (.val .hand))
theorem rho0_get {n i : Nat} {s : DV.Slot} (h : (rho0 n)[i]? = some (some s)) : i = 1 ∧ s = .val .hand ∧ 1 < n := by
  unfold rho0 at h
  rcases set_get h with ⟨rfl, z, hl⟩ | ⟨_, e⟩
  · cases z
    exact ⟨rfl, rfl, by simpa using hl⟩
  · rw [List.getElem?_replicate] at e
    split at e <;> cases e
theorem real_law {cm : Cm} {H : Hp} {h c a : Addr} {cells : List Int} {t : Int} {N : List Str} (hN : 1 ≤ N.length) (hc : c ≠ h) (hh : H h = some (.lst [.ref c, .int 0, .int 0, .int t])) (hcc : H c = some (.lst (cells.map V.int))) (l : cells.length ≤ 63) (hz : ∀ z ∈ cells, 0 ≤ z) (t0 : 0 ≤ t) (t1 : t < 2 ^ 31) :
    Real cm ⟨some h, H, fun x => x = c, [], none⟩ (fun x => x = c) (rho0 N.length) ((L2.start N [.ref a]).set 1 (some (.ref h))) H := by
  refine ⟨⟨fun x z => by rw [z, hcc]; exact (fun z => nomatch z), fun x z e => hc (by rw [z] at e; exact (Option.some.inj e).symm), fun x e => ?_⟩, ?_, fun i s e => ?_, fun i j s t p e1 e2 o1 _ _ _ => ?_, fun i j s t e1 e2 o1 _ => ?_, .refl _ _, fun _ z => z, fun _ z => .inl z, fun h c r _ q => ⟨r, q⟩, fun q hq => by cases hq⟩
  · cases e
    exact ⟨c, cells, 0, 0, t, hh, rfl, hcc, l, hz, Int.le_refl _, by decide, Int.le_refl _, t0, t1⟩
  · unfold rho0 L2.start
    rw [List.length_set, List.length_set, List.length_append, List.length_map, List.length_replicate, List.length_replicate]
    show N.length = 1 + (N.length - 1)
    omega
  · obtain ⟨rfl, rfl, hl⟩ := rho0_get e
    refine ⟨some (.ref h), ?_, .ref h, rfl, .hand rfl⟩
    rw [List.getElem?_set_self]
    unfold L2.start
    rw [List.length_append, List.length_map, List.length_replicate]
    show 1 < 1 + (N.length - 1)
    omega
  · obtain ⟨_, rfl, _⟩ := rho0_get e1; cases o1
  · obtain ⟨_, rfl, _⟩ := rho0_get e1; cases o1
/-- law's first statement -/
def ckFirst (N : List Str) (sc : Scope) (st : Stmt) : Bool := match xAsgN st with
  | some (x, _, ex, _) => decide (N[1]? = some x) && (locB sc x && (match xCall ex with
    | some (g, [e]) => decide (g = ("_law_hand" : Str)) && (gloB sc g && (match xName e with
      | some y => xSlot N sc 0 y
      | none => false))
    | _ => false))
  | none => false
/-- what is asked of the law's own term -/
def LawOk (G : Tab) (n : Nat) (b : S) : Prop := wB G b (rho0 n) (fun f => match f with
  | .rt d => d = .bl true
  | _ => False) (fun _ _ => False)
section
variable {P : Program} {w : World} {K : PySem.W.Frag} {mg : Str → Option Value} {base : Heap} {nm : Nms} {hc : List Str} {hv : Nat → Value} {ca : Ca} {G : Tab} {k : Nat}
theorem law_fn {st st1 : Stmt} {rest : List Stmt} {f fH : Addr} {fd fdH : FuncData} {N ps psH : List Str} {b : S} {j : Nat} (F : Fun K "law" "law" st f fd) (S : FnScope N ps (defScope st)) (hps : ps.length = 1) (hN : N.length ≠ 0) (M : Mo P w K mg base nm hc hv ca G k) (hb : defBody st = st1 :: rest) (h1 : ckFirst N (defScope st) st1 = true) (h2 : ckS nm hc N b (defScope st) rest = true)
    (GH : FnOk P w K mg base (L2.CX P w) j fH fdH psH (spHand K)) (hj : j ≤ k) (gH : mg "_law_hand" = some (.ref fH)) (kH : PySem.W.keepIn K (.ref fH) = true) (bH : Binds K fdH psH []) (ok : LawOk G N.length b) : FnOk P w K mg base (L2.CX P w) (k + 1) f fd ps (spLaw K) := by
  refine F.okX S (fun vs H Q E q => ?_) fun cdv A outer s H vs Q E hr q => ?_
  · obtain ⟨a, ns, rfl, _⟩ := q
    exact hps.symm
  · obtain ⟨a, ns, rfl, hS, hl, hQ⟩ := q
    unfold ckFirst at h1
    split at h1
    · rename_i x p ex pos hx
      cases xAsgN_eq hx
      simp only [Bool.and_eq_true, decide_eq_true_eq] at h1
      obtain ⟨a1, a2, a3⟩ := h1
      split at a3
      · rename_i g e hcl
        obtain ⟨p1, p2, rfl⟩ := xCall_eq hcl
        simp only [Bool.and_eq_true, decide_eq_true_eq] at a3
        obtain ⟨rfl, a4, a5⟩ := a3
        cases hy : xName e with
        | none => rw [hy] at a5; cases a5
        | some y =>
          rw [hy] at a5
          obtain ⟨p3, rfl⟩ := xName_eq hy
          unfold xSlot at a5
          simp only [Bool.and_eq_true, decide_eq_true_eq] at a5
          rw [hb]
          refine ⟨_, pss_cons (ps_set (i := 1) S.nd a1 (loc_of a2) (pe_callS GH (hr.mono hj) (glo_of a4) gH kH bH (fun σ => passAt (takes_of rfl rfl rfl rfl) σ) (pa_cons (pe_var a5.1.1 (vis_of a5.1.2) (nodb1 a5.2) (nodb2 a5.2)) pa_nil)) rfl (.inl rfl)) (sndS hc hv G k N b nm ca (defScope st) rest h2 _ _ (M.ctx S.nd S.kind hr)), ?_⟩
          refine ⟨.ref a, start_get (vs := [.ref a]) rfl, a, ns, rfl, hS, hl, fun H' h c cells t _ nch hh hcc hlen hz t0 t1 => ?_⟩
          refine ⟨⟨some h, H', fun x => x = c, [], none⟩, fun x => x = c, rho0 N.length, _, _, real_law (by omega) nch hh hcc hlen hz t0 t1, ok, ⟨fun _ _ _ _ _ q => q.elim, fun F' H2 u d e hd q => ?_, fun _ _ _ _ _ q => q, fun _ _ _ _ _ q => q⟩, fun _ _ _ _ _ _ _ _ _ q => q.elim⟩
          have q : d = .bl true := q
          subst q
          cases hd
          exact hQ H2
      · cases a3
    · cases h1
end
end DV
/-! DV: what the ends are put together of. -/
namespace DV
open PySem PySem.Spec PyProof.Rows L2
abbrev Ent := Nat × Nat × (List D → W D)
def findE : List Ent → Nat → Option (Nat × (List D → W D))
  | [], _ => none
  | (g, n, φ) :: r, f => if f = g then some (n, φ) else findE r f
def findM : List (Nat × Ent) → Nat → Nat → Option (Nat × (List D → W D))
  | [], _, _ => none
  | (c, m, n, φ) :: r, c', m' => if c' = c ∧ m' = m then some (n, φ) else findM r c' m'
def findB : List (Nat × Nat × Bool) → Nat → Nat → Option Bool
  | [], _, _ => none
  | (k, c, b) :: r, k', c' => if k' = k ∧ c' = c then some b else findB r k' c'
/-- a module's own facts -/
structure Mdl where
  cst : List (Nat × D)
  exc : List (Nat × List Nat)
  sub : List (Nat × Nat × Bool)
  isub : List (Nat × Nat × Bool)
  icl : List Nat
def mkTab (m : Mdl) (fns mks : List Ent) (mts : List (Nat × Ent)) : Tab where
  fn := findE fns
  mkr := findE mks
  mt := findM mts
  cst := fun i => m.cst.lookup i
  exc := fun i => m.exc.lookup i
  sub := findB m.sub
  isub := findB m.isub
  icl := fun c => m.icl.contains c
def All {α : Type} (p : α → Prop) : List α → Prop
  | [] => True
  | x :: r => p x ∧ All p r
theorem All.mem {α : Type} {p : α → Prop} : ∀ {l : List α} {x : α}, All p l → x ∈ l → p x
  | y :: r, x, h, hx => by
    rcases List.mem_cons.mp hx with rfl | hx
    · exact h.1
    · exact All.mem h.2 hx
theorem findE_mem : ∀ {l : List Ent} {f n : Nat} {φ : List D → W D}, findE l f = some (n, φ) → (f, n, φ) ∈ l
  | (g, n', φ') :: r, f, n, φ, h => by
    unfold findE at h
    by_cases z : f = g
    · rw [if_pos z] at h
      cases h
      rw [z]; exact List.mem_cons_self
    · rw [if_neg z] at h
      exact List.mem_cons_of_mem _ (findE_mem h)
theorem findM_mem : ∀ {l : List (Nat × Ent)} {c m n : Nat} {φ : List D → W D}, findM l c m = some (n, φ) → (c, m, n, φ) ∈ l
  | (g, m', n', φ') :: r, c, m, n, φ, h => by
    unfold findM at h
    by_cases z : c = g ∧ m = m'
    · rw [if_pos z] at h
      cases h
      rw [z.1, z.2]; exact List.mem_cons_self
    · rw [if_neg z] at h
      exact List.mem_cons_of_mem _ (findM_mem h)
theorem findB_mem : ∀ {l : List (Nat × Nat × Bool)} {k c : Nat} {b : Bool}, findB l k c = some b → (k, c, b) ∈ l
  | (g, m', b') :: r, k, c, b, h => by
    unfold findB at h
    by_cases z : k = g ∧ c = m'
    · rw [if_pos z] at h
      cases h
      rw [z.1, z.2]; exact List.mem_cons_self
    · rw [if_neg z] at h
      exact List.mem_cons_of_mem _ (findB_mem h)
theorem lookup_mem {β : Type} : ∀ {l : List (Nat × β)} {i : Nat} {b : β}, l.lookup i = some b → (i, b) ∈ l
  | (j, c) :: r, i, b, h => by
    rw [List.lookup_cons] at h
    by_cases z : i = j
    · subst z
      simp at h
      subst h
      exact List.mem_cons_self
    · have e : (i == j) = false := by simpa using z
      rw [e] at h
      exact List.mem_cons_of_mem _ (lookup_mem h)
section
variable {P : Program} {w : World} {K : PySem.W.Frag} {mg : Str → Option Value} {base : Heap} {nm : Nms} {hc : List Str} {hv : Nat → Value} {ca : Ca} {k : Nat}
theorem FnE0.up {fl : Nat → Str} {k k' : Nat} {x : Str} {n : Nat} {φ : List D → W D} (h : FnE0 P w K mg base ca fl k x n φ) (hk : k ≤ k') : FnE0 P w K mg base ca fl k' x n φ := by
  obtain ⟨fa, fd, ps, j, h1, h2⟩ := h
  exact ⟨fa, fd, ps, j, Nat.le_trans h1 hk, h2⟩
/-- what does not hang on the callees -/
structure MdOk (P : Program) (w : World) (K : PySem.W.Frag) (mg : Str → Option Value) (base : Heap) (nm : Nms) (hc : List Str) (hv : Nat → Value) (ca : Ca) (m : Mdl) : Prop where
  q : nm.q = true
  xc : ca.xc = none
  xfc : All (fun e => XfC K (ca e.1) ∧ All (fun f => PySem.W.findIn K (.ref (ca e.1)) (nm.fl f) = some none) e.2) m.exc
  cst : All (fun e => ∃ x v u, nm.gl[e.1]? = some x ∧ mg x = some u ∧ RelV v u ∧ ∀ (F : AP) (hd : Option Addr) (H : Hp), Den ⟨K, ca, nm.fl⟩ F hd H v e.2) m.cst
  bl : All (fun x => mg x = none) blts
  exc : All (fun e => ∃ x, nm.cls[e.1]? = some x ∧ ∀ X : Cx, X.prog = P → X.w = w → X.K = K → X.mg = mg → X.base = base → Room 2 X.A → ExE X ca nm.fl x e.1 e.2) m.exc
  hvn : ∀ c x, hc[c]? = some x → mg x = some (hv c) ∨ (mg x = none ∧ bootBuiltins x = some (hv c) ∧ x ≠ "__name__")
  sub : All (fun e => PySem.W.exmOne K (.ref (ca e.1)) (hv e.2.1) = some e.2.2) m.sub
  isub : All (fun e => IcF K (ca e.1) ∧ PySem.W.kitOne K (.ref (ca e.1)) (.ref (ca e.2.1)) = some e.2.2) m.isub
  icl : All (fun c => All (fun n => PySem.W.kitOne K (.type n) (.ref (ca c)) = some false) six ∧ ∃ x, nm.cls[c]? = some x ∧ mg x = some (.ref (ca c))) m.icl
theorem mo_of {m : Mdl} {fns mks : List Ent} {mts : List (Nat × Ent)} (M : MdOk P w K mg base nm hc hv ca m) (h2 : m.exc = [] ∨ 2 ≤ k) (hf : All (fun e => ∃ x, nm.fn[e.1]? = some x ∧ FnE0 P w K mg base ca nm.fl k x e.2.1 e.2.2) fns) (hm : All (fun e => ∃ x, nm.cls[e.1]? = some x ∧ MkE0 P w K mg base ca nm.fl k x e.1 e.2.1 e.2.2) mks)
    (ht : All (fun e => ∃ x, nm.mt[e.2.1]? = some x ∧ MtE0 P w K mg base ca nm.fl k x e.1 e.2.2.1 e.2.2.2) mts) : Mo P w K mg base nm hc hv ca (mkTab m fns mks mts) k where
  q := M.q
  xc := M.xc
  xfc := fun c ns h => by
    have q := M.xfc.mem (lookup_mem h)
    exact ⟨q.1, fun f hf => q.2.mem hf⟩
  fn := fun f n φ h => hf.mem (findE_mem h)
  mkr := fun c n φ h => hm.mem (findE_mem h)
  mt := fun c m n φ h => ht.mem (findM_mem h)
  cst := fun i d h => M.cst.mem (lookup_mem h)
  bl := fun x hx => M.bl.mem hx
  exc := fun c ns h => by
    have hmem := lookup_mem h
    obtain ⟨x, h1, h3⟩ := M.exc.mem hmem
    refine ⟨x, h1, fun X e1 e2 e3 e4 e5 hr => h3 X e1 e2 e3 e4 e5 (hr.mono ?_)⟩
    rcases h2 with h2 | h2
    · rw [h2] at hmem; cases hmem
    · exact h2
  hvn := M.hvn
  sub := fun k c b h => M.sub.mem (findB_mem h)
  isk := ⟨fun k c b h => M.isub.mem (findB_mem h), fun c h n hn => (M.icl.mem (by simpa using (show m.icl.contains c = true from h))).1.mem hn⟩
  icn := fun c h => (M.icl.mem (by simpa using (show m.icl.contains c = true from h))).2
theorem fnE_of {x : Str} {st : Stmt} {f : Addr} {fd : FuncData} {N ps : List Str} {b : S} {G : Tab} (F : Fun K x x st f fd) (S : FnScope N ps (defScope st)) (M : Mo P w K mg base nm hc hv ca G k) (h : ckS nm hc N b (defScope st) (defBody st) = true) (hm : mg x = some (.ref f)) (hb : Binds K fd ps []) :
    FnE0 P w K mg base ca nm.fl (k + 1) x ps.length (bodyW G N.length b) := ⟨f, fd, ps, k + 1, Nat.le_refl _, rfl, fn_snd F S M h, hm, F.kp, hb⟩
theorem mtE_of {x qual : Str} {st : Stmt} {f : Addr} {fd : FuncData} {N ps : List Str} {b : S} {G : Tab} {c : Nat} {k' : Nat} (F : Fun K x qual st f fd) (S : FnScope N ps (defScope st)) (M : Mo P w K mg base nm hc hv ca G k) (h : ckS nm hc N b (defScope st) (defBody st) = true) (hb : Binds K fd ps []) (hm : Meth K (ca c) x f) (hn : ∀ i, nm.fl i ≠ x) (hk : k + 1 ≤ k') :
    MtE0 P w K mg base ca nm.fl k' x c ps.length (bodyW G N.length b) := fun X e1 e2 e3 e4 e5 => by
  subst e1; subst e2; subst e3; subst e4; subst e5
  exact ⟨f, fd, ps, k + 1, hk, rfl, hm, hn, fn_snd F S M h, hb⟩
theorem mkE_of {x qual : Str} {st : Stmt} {f : Addr} {fd : FuncData} {N ps : List Str} {b : S} {G : Tab} {c n : Nat} {all : List Nat} {k' : Nat} (F : Fun K "__init__" qual st f fd) (S : FnScope N ps (defScope st)) (M : Mo P w K mg base nm hc hv ca G k) (h : ckS nm hc N b (defScope st) (defBody st) = true) (hb : Binds K fd ps []) (hI : InsOk ⟨K, ca, nm.fl⟩ c all) (hn : ps.length = n + 1) (hm : mg x = some (.ref (ca c))) (mk : Mk K (ca c) f) (hk : k + 2 ≤ k') :
    MkE0 P w K mg base ca nm.fl k' x c n (initW G N.length c all b) := fun X e1 e2 e3 e4 e5 => by
  subst e1; subst e2; subst e3; subst e4; subst e5
  have q := in_snd F S M h hI (by omega)
  have e : ps.length - 1 = n := by omega
  rw [e] at q
  exact ⟨f, fd, ps, k + 1, by omega, hn, mk, q, hm, hb⟩
theorem exE0_of {x qual : Str} {st : Stmt} {f : Addr} {fd : FuncData} {N ps : List Str} {B : Str} {bs : Bool} {c : Nat} {ns : List Nat} (F : Fun K "__init__" qual st f fd) (S : FnScope N ps (defScope st)) (hps : ps.length = ns.length + 1) (hck : ckIn N (defScope st) B bs (ns.map nm.fl) (defBody st) = true) (hB : bs = true → BaseOk K mg B) (hnd : (ns.map nm.fl).Nodup) (h9 : ns.length ≤ 900)
    (T : OexC K (ca c)) (iC : PySem.W.findIn K (.ref (ca c)) "__init__" = some (some (.ref f))) (tI : PySem.W.typeIn K (.ref f) = some (.type "function")) (hb : Binds K fd ps []) (hm : mg x = some (.ref (ca c))) (hno : All (fun f => PySem.W.findIn K (.ref (ca c)) (nm.fl f) = some none) ns) :
    ∀ X : Cx, X.prog = P → X.w = w → X.K = K → X.mg = mg → X.base = base → Room 2 X.A → ExE X ca nm.fl x c ns := fun X e1 e2 e3 e4 e5 hr => by
  subst e1; subst e2; subst e3; subst e4; subst e5
  refine exE_of T iC tI (ex_fn F S (by rw [List.length_map]; exact hps) hck hB hnd (by rw [List.length_map]; exact h9)) hb hm T.kC hr (fun f hf => ?_) h9
  obtain ⟨n, hn, rfl⟩ := List.mem_map.mp hf
  exact hno.mem hn
end
theorem fl_ne {nm : Nms} {m : Str} (h : (nm.fld.all fun f => !decide (f = m)) = true) (h2 : m ≠ "?") (i : Nat) : nm.fl i ≠ m := by
  unfold Nms.fl
  rw [List.getD_eq_getElem?_getD]
  cases e : nm.fld[i]? with
  | none => exact fun z => h2 z.symm
  | some f =>
    have := List.all_eq_true.mp h f (List.mem_of_getElem? e)
    simpa using this
/-- what an except clause says of a class -/
theorem exm_of {K : PySem.W.Frag} {k S : Addr} {b : Bool} (h1 : PySem.W.subIn K (.ref S) (.type "BaseException") = some true) (h2 : PySem.W.isClsIn K S = true) (h3 : PySem.W.typeIn K (.ref S) = some (.type "type")) (h4 : PySem.W.subIn K (.ref k) (.ref S) = some b) : PySem.W.exmOne K (.ref k) (.ref S) = some b := by
  have h2' : (PySem.W.clsIn K S).isSome = true := h2
  unfold PySem.W.exmOne
  simp [h1, PySem.W.kitCls, h2', h3, h4]
/-- the row's goal behind the head -/
theorem walk {l : PySem.W.OpenLaw} {q : Program} {loose : List Str} {XP : (Str → Option Value) → Heap → Prop} {YP : World → Heap → Prop} {d : DefRec} {K : Params → PySem.W.Frag} {k : Nat} {x : Str} (hn : l.most = some 63) (hdf : d.params.defaults = []) (hr : Room k callerA)
    (hY : ∀ (w : World) (h : Heap), YP w h → (K w.params).In h)
    (F : ∀ (w : World) (mg : Str → Option Value) (fa : Addr) (h : Heap), (K w.params).In h → h.Ns mainGlobals mg → mg d.name = some (.ref fa) →
      ∃ fd : FuncData, (∀ (s : Shared) (u : Value), BindsTo s fd ⟨[u], []⟩ [(x, u)]) ∧ ∀ base : Heap, (K w.params).In base → base.Ns mainGlobals mg → FnOk l.prog w (K w.params) mg base (L2.CX l.prog w) k fa fd [x] (spLaw (K w.params))) :
    PySem.W.WalkO q loose XP YP l.row.toRowW d [] (fun f vs => PySem.call f vs) :=
  L2.walk_of (n := 63) (k := k) (x := x) (CX := fun w => L2.CX l.prog w) (sp := fun w => spLaw (K w.params)) hn (by decide) hdf hr hY F (fun _ _ a ns hl _ hS => ⟨a, ns, rfl, hS, hl, fun _ => rfl⟩) fun _ _ _ _ _ z => by
    obtain ⟨_, _, _, _, _, _, _, _, _, _, _, _, z⟩ := z
    exact z.elim
def caF (l : List Addr) : Ca := ⟨fun i => l.getD i 0, none⟩
def hvF (l : List Value) : Nat → Value := fun i => l.getD i .none
def headS (l : List Stmt) : Stmt := l.headD (.Pass ⟨0, 0, 0, 0⟩)
theorem hvn_of {mg : Str → Option Value} : ∀ {hc : List Str} {l : List Value}, DV.All (fun (p : Str × Value) => mg p.1 = some p.2 ∨ (mg p.1 = none ∧ bootBuiltins p.1 = some p.2 ∧ p.1 ≠ ("__name__" : Str))) (hc.zip l) → hc.length = l.length → ∀ (c : Nat) (x : Str), hc[c]? = some x → mg x = some (hvF l c) ∨ (mg x = none ∧ bootBuiltins x = some (hvF l c) ∧ x ≠ "__name__")
  | [], _, _, _, c, x, h => by simp at h
  | _ :: _, [], _, hl, _, _, _ => by cases hl
  | y :: hc, v :: l, h, hl, 0, x, e => by
    simp at e
    subst e
    exact h.1
  | y :: hc, v :: l, h, hl, c + 1, x, e => hvn_of (hc := hc) (l := l) h.2 (by simpa using hl) c x (by simpa using e)
theorem insOk_of {K : PySem.W.Frag} {ca : Ca} {fl : Nat → Str} {c : Nat} {all : List Nat} (hc : Cls K (ca c)) (h : All (fun n => NoAttr K (ca c) (fl n)) all) (hi : ∀ n ∈ all, ∀ m ∈ all, fl n = fl m → n = m) : InsOk ⟨K, ca, fl⟩ c all := ⟨hc, fun n hn => h.mem hn, hi⟩
end DV
/-! DV: a small calculus for the plain laws. -/
namespace DV
open PySem L2
/-! ### steps -/
theorem seq1 {G : Tab} {a : S1} {b : S} {ρ : Env} {Q : Fl → Prop} {X : D → Env → Prop} (h : w1 G a ρ (fun f => match f with
  | .nx ρ' => wB G b ρ' Q X
  | f => Q f) X) : wB G (.cons a b) ρ Q X := h
/-- the last statement of a block -/
theorem seqT {G : Tab} {a : S1} {ρ : Env} {Q : Fl → Prop} {X : D → Env → Prop} (h : w1 G a ρ Q X) : wB G (.cons a .nil) ρ Q X := by
  show w1 G a ρ (fun f => match f with
    | .nx ρ' => wB G .nil ρ' Q X
    | f => Q f) X
  have e : (fun f : Fl => match f with
    | .nx ρ' => wB G .nil ρ' Q X
    | f => Q f) = Q := funext fun f => by cases f <;> rfl
  rw [e]; exact h
theorem seqE {G : Tab} {ρ : Env} {Q : Fl → Prop} {X : D → Env → Prop} (h : Q (.nx ρ)) : wB G .nil ρ Q X := h
theorem seqF {G : Tab} {i : Nat} {b : S} {ρ : Env} {Q : Fl → Prop} {X : D → Env → Prop} (h : frzS ρ i (wB G b) Q X) : wB G (.frz i b) ρ Q X := h
@[simp ↓] theorem fl_nx {α : Sort _} (ρ : Env) (k : Env → α) (q : Fl → α) : (match Fl.nx ρ with
  | .nx ρ' => k ρ'
  | f => q f) = k ρ := rfl
@[simp ↓] theorem iteW {α : Type} {c : Prop} [Decidable c] {f g : W α} {Q : α → Prop} {E : D → Prop} : (if c then f else g) Q E = if c then f Q E else g Q E := by
  by_cases h : c <;> simp [h]
@[simp ↓] theorem iteS {c : Prop} [Decidable c] {f g : WS} {Q : Fl → Prop} {E : D → Env → Prop} : (if c then f else g) Q E = if c then f Q E else g Q E := by
  by_cases h : c <;> simp [h]
@[simp ↓] theorem iteWS {c : Prop} [Decidable c] {f g : Env → WS} {ρ : Env} : (if c then f else g) ρ = if c then f ρ else g ρ := by
  by_cases h : c <;> simp [h]
theorem iteAnd {t u : Bool} {Q : D → Prop} : (if t = true then Q (.bl u) else Q (.bl t)) = Q (.bl (t && u)) := by cases t <;> simp
theorem iteAnd2 {t u : Bool} {Q : D → Prop} : (if t = true then Q (.bl u) else Q (.bl false)) = Q (.bl (t && u)) := by cases t <;> simp
theorem iteNot {t : Bool} {p q : Prop} : (if (!t) = true then p else q) = if t = true then q else p := by cases t <;> simp
@[simp] theorem ok_int {i : Int} : eqOk (.int i) := ⟨rfl, by show (0 : Nat) ≤ 64; decide⟩
@[simp] theorem ok_str {x : PySem.Str} : eqOk (.str x) := ⟨rfl, by show (0 : Nat) ≤ 64; decide⟩
@[simp] theorem ok_non : eqOk .non := ⟨rfl, by show (0 : Nat) ≤ 64; decide⟩
@[simp] theorem ok_bl {b : Bool} : eqOk (.bl b) := ⟨rfl, by show (0 : Nat) ≤ 64; decide⟩
/-! ### the order of evaluation: outermost first -/
section
variable {α β γ : Type}
@[simp ↓] theorem ret_app {a : α} {Q : α → Prop} {E : D → Prop} : ret a Q E = Q a := id rfl
@[simp ↓] theorem req_app {p : Prop} {w : W α} {Q : α → Prop} {E : D → Prop} : req p w Q E = (p ∧ w Q E) := id rfl
@[simp ↓] theorem fail_app {Q : α → Prop} {E : D → Prop} : (fail : W α) Q E = False := id rfl
@[simp ↓] theorem bnd_app {w : W α} {k : α → W β} {Q : β → Prop} {E : D → Prop} : bnd w k Q E = w (fun a => k a Q E) E := id rfl
@[simp ↓] theorem nox_app {w : W α} {Q : α → Prop} {E : D → Prop} : nox w Q E = w Q fun _ => False := id rfl
@[simp ↓] theorem eS_app {ρ : Env} {w : W α} {k : α → WS} {Q : Fl → Prop} {X : D → Env → Prop} : eS ρ w k Q X = w (fun a => k a Q X) (fun x => X x ρ) := id rfl
@[simp ↓] theorem reqS_app {p : Prop} {w : WS} {Q : Fl → Prop} {X : D → Env → Prop} : reqS p w Q X = (p ∧ w Q X) := id rfl
@[simp ↓] theorem nxt_app {ρ : Env} {Q : Fl → Prop} {X : D → Env → Prop} : nxt ρ Q X = Q (.nx ρ) := id rfl
@[simp ↓] theorem failS_app {Q : Fl → Prop} {X : D → Env → Prop} : failS Q X = False := id rfl
end
/-- called with what is owned -/
def noR (w : W D) : W D := fun Q X => w (fun d => noRef d = true ∧ Q d) (fun x => noRefs (xArgs x) = true ∧ X x)
@[simp ↓] theorem noR_app {w : W D} {Q E : D → Prop} : noR w Q E = w (fun d => noRef d = true ∧ Q d) (fun x => noRefs (xArgs x) = true ∧ E x) := id rfl
@[simp ↓] theorem callW_t {n : Nat} {φ : List D → W D} {ds : List D} {Q E : D → Prop} : callW (some (n, φ)) true ds Q E = (ds.length = n ∧ φ ds Q E) := id rfl
@[simp ↓] theorem callW_f {n : Nat} {φ : List D → W D} {ds : List D} {Q E : D → Prop} : callW (some (n, φ)) false ds Q E = (ds.length = n ∧ noR (φ ds) Q E) := id rfl
@[simp ↓] theorem fnW_some {n : Nat} {φ : List D → W D} {w : W (List D)} {c : Bool} {Q E : D → Prop} : fnW (some (n, φ)) w c Q E = w (fun ds => callW (some (n, φ)) c ds Q E) E := id rfl
@[simp ↓] theorem methW_some {n : Nat} {φ : List D → W D} {w : W (List D)} {c : Bool} {x : D} {Q E : D → Prop} : methW (some (n, φ)) w c x Q E = w (fun ds => callW (some (n, φ)) c (x :: ds) Q E) E := id rfl
section
variable {isub : Nat → Nat → Option Bool} {icl : Nat → Bool} {c : Nat}
@[simp ↓] theorem isc_ins {k : Nat} {ns : List Nat} {vs : List D} : iscW isub icl c (.ins k ns vs) = (match isub k c with | some b => ret b | none => fail) := id rfl
@[simp ↓] theorem isc_int {i : Int} : iscW isub icl c (.int i) = (if icl c = true then ret false else fail) := id rfl
@[simp ↓] theorem isc_bl {i : Bool} : iscW isub icl c (.bl i) = (if icl c = true then ret false else fail) := id rfl
@[simp ↓] theorem isc_str {i : PySem.Str} : iscW isub icl c (.str i) = (if icl c = true then ret false else fail) := id rfl
@[simp ↓] theorem isc_non : iscW isub icl c .non = (if icl c = true then ret false else fail) := id rfl
@[simp ↓] theorem isc_tup {xs : List D} : iscW isub icl c (.tup xs) = (if icl c = true then ret false else fail) := id rfl
@[simp ↓] theorem isc_lst {xs : List D} : iscW isub icl c (.lst xs) = (if icl c = true then ret false else fail) := id rfl
end
/-! ### the sense of terms, at an environment -/
section
variable {G : Tab} {ρ : Env} {X : D → Prop}
@[simp ↓] theorem se_var_t {i : Nat} {Q : Bool → Prop} : (se G (.var i)).t ρ Q X = (se G (.var i)).v ρ (fun x => truW x Q X) X := id rfl
@[simp ↓] theorem se_var_c {i : Nat} {Q : Bool → Prop} : (se G (.var i)).c ρ Q X = (se G (.var i)).v ρ (fun x => truW x Q X) X := id rfl
@[simp ↓] theorem se_var_o {i : Nat} {Q : (Option Int) → Prop} : (se G (.var i)).o ρ Q X = (se G (.var i)).v ρ (fun x => oW x Q X) X := id rfl
@[simp ↓] theorem se_var_i {i : Nat} {Q : (List D) → Prop} : (se G (.var i)).i ρ Q X = (se G (.var i)).v ρ (fun x => iW x Q X) X := id rfl
@[simp ↓] theorem se_int_t {i : Int} {Q : Bool → Prop} : (se G (.int i)).t ρ Q X = (se G (.int i)).v ρ (fun x => truW x Q X) X := id rfl
@[simp ↓] theorem se_int_c {i : Int} {Q : Bool → Prop} : (se G (.int i)).c ρ Q X = (se G (.int i)).v ρ (fun x => truW x Q X) X := id rfl
@[simp ↓] theorem se_int_o {i : Int} {Q : (Option Int) → Prop} : (se G (.int i)).o ρ Q X = (se G (.int i)).v ρ (fun x => oW x Q X) X := id rfl
@[simp ↓] theorem se_int_i {i : Int} {Q : (List D) → Prop} : (se G (.int i)).i ρ Q X = (se G (.int i)).v ρ (fun x => iW x Q X) X := id rfl
@[simp ↓] theorem se_bl_t {i : Bool} {Q : Bool → Prop} : (se G (.bl i)).t ρ Q X = (se G (.bl i)).v ρ (fun x => truW x Q X) X := id rfl
@[simp ↓] theorem se_bl_c {i : Bool} {Q : Bool → Prop} : (se G (.bl i)).c ρ Q X = (se G (.bl i)).v ρ (fun x => truW x Q X) X := id rfl
@[simp ↓] theorem se_bl_o {i : Bool} {Q : (Option Int) → Prop} : (se G (.bl i)).o ρ Q X = (se G (.bl i)).v ρ (fun x => oW x Q X) X := id rfl
@[simp ↓] theorem se_bl_i {i : Bool} {Q : (List D) → Prop} : (se G (.bl i)).i ρ Q X = (se G (.bl i)).v ρ (fun x => iW x Q X) X := id rfl
@[simp ↓] theorem se_non_t  {Q : Bool → Prop} : (se G .non).t ρ Q X = (se G .non).v ρ (fun x => truW x Q X) X := id rfl
@[simp ↓] theorem se_non_c  {Q : Bool → Prop} : (se G .non).c ρ Q X = (se G .non).v ρ (fun x => truW x Q X) X := id rfl
@[simp ↓] theorem se_non_o  {Q : (Option Int) → Prop} : (se G .non).o ρ Q X = (se G .non).v ρ (fun x => oW x Q X) X := id rfl
@[simp ↓] theorem se_non_i  {Q : (List D) → Prop} : (se G .non).i ρ Q X = (se G .non).v ρ (fun x => iW x Q X) X := id rfl
@[simp ↓] theorem se_str_t {i : PySem.Str} {Q : Bool → Prop} : (se G (.str i)).t ρ Q X = (se G (.str i)).v ρ (fun x => truW x Q X) X := id rfl
@[simp ↓] theorem se_str_c {i : PySem.Str} {Q : Bool → Prop} : (se G (.str i)).c ρ Q X = (se G (.str i)).v ρ (fun x => truW x Q X) X := id rfl
@[simp ↓] theorem se_str_o {i : PySem.Str} {Q : (Option Int) → Prop} : (se G (.str i)).o ρ Q X = (se G (.str i)).v ρ (fun x => oW x Q X) X := id rfl
@[simp ↓] theorem se_str_i {i : PySem.Str} {Q : (List D) → Prop} : (se G (.str i)).i ρ Q X = (se G (.str i)).v ρ (fun x => iW x Q X) X := id rfl
@[simp ↓] theorem se_glob_t {i : Nat} {Q : Bool → Prop} : (se G (.glob i)).t ρ Q X = (se G (.glob i)).v ρ (fun x => truW x Q X) X := id rfl
@[simp ↓] theorem se_glob_c {i : Nat} {Q : Bool → Prop} : (se G (.glob i)).c ρ Q X = (se G (.glob i)).v ρ (fun x => truW x Q X) X := id rfl
@[simp ↓] theorem se_glob_o {i : Nat} {Q : (Option Int) → Prop} : (se G (.glob i)).o ρ Q X = (se G (.glob i)).v ρ (fun x => oW x Q X) X := id rfl
@[simp ↓] theorem se_glob_i {i : Nat} {Q : (List D) → Prop} : (se G (.glob i)).i ρ Q X = (se G (.glob i)).v ρ (fun x => iW x Q X) X := id rfl
@[simp ↓] theorem se_bin_t {o : BOp} {a b : E} {Q : Bool → Prop} : (se G (.bin o a b)).t ρ Q X = (se G (.bin o a b)).v ρ (fun x => truW x Q X) X := id rfl
@[simp ↓] theorem se_bin_c {o : BOp} {a b : E} {Q : Bool → Prop} : (se G (.bin o a b)).c ρ Q X = (se G (.bin o a b)).v ρ (fun x => truW x Q X) X := id rfl
@[simp ↓] theorem se_bin_o {o : BOp} {a b : E} {Q : (Option Int) → Prop} : (se G (.bin o a b)).o ρ Q X = (se G (.bin o a b)).v ρ (fun x => oW x Q X) X := id rfl
@[simp ↓] theorem se_bin_i {o : BOp} {a b : E} {Q : (List D) → Prop} : (se G (.bin o a b)).i ρ Q X = (se G (.bin o a b)).v ρ (fun x => iW x Q X) X := id rfl
@[simp ↓] theorem se_neg_t {a : E} {Q : Bool → Prop} : (se G (.neg a)).t ρ Q X = (se G (.neg a)).v ρ (fun x => truW x Q X) X := id rfl
@[simp ↓] theorem se_neg_c {a : E} {Q : Bool → Prop} : (se G (.neg a)).c ρ Q X = (se G (.neg a)).v ρ (fun x => truW x Q X) X := id rfl
@[simp ↓] theorem se_neg_o {a : E} {Q : (Option Int) → Prop} : (se G (.neg a)).o ρ Q X = (se G (.neg a)).v ρ (fun x => oW x Q X) X := id rfl
@[simp ↓] theorem se_neg_i {a : E} {Q : (List D) → Prop} : (se G (.neg a)).i ρ Q X = (se G (.neg a)).v ρ (fun x => iW x Q X) X := id rfl
@[simp ↓] theorem se_call_t {f : Nat} {es : Es} {Q : Bool → Prop} : (se G (.call f es)).t ρ Q X = (se G (.call f es)).v ρ (fun x => truW x Q X) X := id rfl
@[simp ↓] theorem se_call_c {f : Nat} {es : Es} {Q : Bool → Prop} : (se G (.call f es)).c ρ Q X = (se G (.call f es)).v ρ (fun x => truW x Q X) X := id rfl
@[simp ↓] theorem se_call_o {f : Nat} {es : Es} {Q : (Option Int) → Prop} : (se G (.call f es)).o ρ Q X = (se G (.call f es)).v ρ (fun x => oW x Q X) X := id rfl
@[simp ↓] theorem se_call_i {f : Nat} {es : Es} {Q : (List D) → Prop} : (se G (.call f es)).i ρ Q X = (se G (.call f es)).v ρ (fun x => iW x Q X) X := id rfl
@[simp ↓] theorem se_make_t {f : Nat} {es : Es} {Q : Bool → Prop} : (se G (.make f es)).t ρ Q X = (se G (.make f es)).v ρ (fun x => truW x Q X) X := id rfl
@[simp ↓] theorem se_make_c {f : Nat} {es : Es} {Q : Bool → Prop} : (se G (.make f es)).c ρ Q X = (se G (.make f es)).v ρ (fun x => truW x Q X) X := id rfl
@[simp ↓] theorem se_make_o {f : Nat} {es : Es} {Q : (Option Int) → Prop} : (se G (.make f es)).o ρ Q X = (se G (.make f es)).v ρ (fun x => oW x Q X) X := id rfl
@[simp ↓] theorem se_make_i {f : Nat} {es : Es} {Q : (List D) → Prop} : (se G (.make f es)).i ρ Q X = (se G (.make f es)).v ρ (fun x => iW x Q X) X := id rfl
@[simp ↓] theorem se_meth_t {o : E} {m : Nat} {es : Es} {Q : Bool → Prop} : (se G (.meth o m es)).t ρ Q X = (se G (.meth o m es)).v ρ (fun x => truW x Q X) X := id rfl
@[simp ↓] theorem se_meth_c {o : E} {m : Nat} {es : Es} {Q : Bool → Prop} : (se G (.meth o m es)).c ρ Q X = (se G (.meth o m es)).v ρ (fun x => truW x Q X) X := id rfl
@[simp ↓] theorem se_meth_o {o : E} {m : Nat} {es : Es} {Q : (Option Int) → Prop} : (se G (.meth o m es)).o ρ Q X = (se G (.meth o m es)).v ρ (fun x => oW x Q X) X := id rfl
@[simp ↓] theorem se_meth_i {o : E} {m : Nat} {es : Es} {Q : (List D) → Prop} : (se G (.meth o m es)).i ρ Q X = (se G (.meth o m es)).v ρ (fun x => iW x Q X) X := id rfl
@[simp ↓] theorem se_bf_t {f : BF} {es : Es} {Q : Bool → Prop} : (se G (.bf f es)).t ρ Q X = (se G (.bf f es)).v ρ (fun x => truW x Q X) X := id rfl
@[simp ↓] theorem se_bf_c {f : BF} {es : Es} {Q : Bool → Prop} : (se G (.bf f es)).c ρ Q X = (se G (.bf f es)).v ρ (fun x => truW x Q X) X := id rfl
@[simp ↓] theorem se_bf_o {f : BF} {es : Es} {Q : (Option Int) → Prop} : (se G (.bf f es)).o ρ Q X = (se G (.bf f es)).v ρ (fun x => oW x Q X) X := id rfl
@[simp ↓] theorem se_bf_i {f : BF} {es : Es} {Q : (List D) → Prop} : (se G (.bf f es)).i ρ Q X = (se G (.bf f es)).v ρ (fun x => iW x Q X) X := id rfl
@[simp ↓] theorem se_lrng_t {u : Bool} {a : E} {Q : Bool → Prop} : (se G (.lrng u a)).t ρ Q X = (se G (.lrng u a)).v ρ (fun x => truW x Q X) X := id rfl
@[simp ↓] theorem se_lrng_c {u : Bool} {a : E} {Q : Bool → Prop} : (se G (.lrng u a)).c ρ Q X = (se G (.lrng u a)).v ρ (fun x => truW x Q X) X := id rfl
@[simp ↓] theorem se_lrng_o {u : Bool} {a : E} {Q : (Option Int) → Prop} : (se G (.lrng u a)).o ρ Q X = (se G (.lrng u a)).v ρ (fun x => oW x Q X) X := id rfl
@[simp ↓] theorem se_lrng_i {u : Bool} {a : E} {Q : (List D) → Prop} : (se G (.lrng u a)).i ρ Q X = (se G (.lrng u a)).v ρ (fun x => iW x Q X) X := id rfl
@[simp ↓] theorem se_isi_t {a : E} {s : List PySem.Str} {u : Bool} {Q : Bool → Prop} : (se G (.isi a s u)).t ρ Q X = (se G (.isi a s u)).v ρ (fun x => truW x Q X) X := id rfl
@[simp ↓] theorem se_isi_c {a : E} {s : List PySem.Str} {u : Bool} {Q : Bool → Prop} : (se G (.isi a s u)).c ρ Q X = (se G (.isi a s u)).v ρ (fun x => truW x Q X) X := id rfl
@[simp ↓] theorem se_isi_o {a : E} {s : List PySem.Str} {u : Bool} {Q : (Option Int) → Prop} : (se G (.isi a s u)).o ρ Q X = (se G (.isi a s u)).v ρ (fun x => oW x Q X) X := id rfl
@[simp ↓] theorem se_isi_i {a : E} {s : List PySem.Str} {u : Bool} {Q : (List D) → Prop} : (se G (.isi a s u)).i ρ Q X = (se G (.isi a s u)).v ρ (fun x => iW x Q X) X := id rfl
@[simp ↓] theorem se_fld_t {a : E} {i : Nat} {Q : Bool → Prop} : (se G (.fld a i)).t ρ Q X = (se G (.fld a i)).v ρ (fun x => truW x Q X) X := id rfl
@[simp ↓] theorem se_fld_c {a : E} {i : Nat} {Q : Bool → Prop} : (se G (.fld a i)).c ρ Q X = (se G (.fld a i)).v ρ (fun x => truW x Q X) X := id rfl
@[simp ↓] theorem se_fld_o {a : E} {i : Nat} {Q : (Option Int) → Prop} : (se G (.fld a i)).o ρ Q X = (se G (.fld a i)).v ρ (fun x => oW x Q X) X := id rfl
@[simp ↓] theorem se_fld_i {a : E} {i : Nat} {Q : (List D) → Prop} : (se G (.fld a i)).i ρ Q X = (se G (.fld a i)).v ρ (fun x => iW x Q X) X := id rfl
@[simp ↓] theorem se_xf_t {i j : Nat} {Q : Bool → Prop} : (se G (.xf i j)).t ρ Q X = (se G (.xf i j)).v ρ (fun x => truW x Q X) X := id rfl
@[simp ↓] theorem se_xf_c {i j : Nat} {Q : Bool → Prop} : (se G (.xf i j)).c ρ Q X = (se G (.xf i j)).v ρ (fun x => truW x Q X) X := id rfl
@[simp ↓] theorem se_xf_o {i j : Nat} {Q : (Option Int) → Prop} : (se G (.xf i j)).o ρ Q X = (se G (.xf i j)).v ρ (fun x => oW x Q X) X := id rfl
@[simp ↓] theorem se_xf_i {i j : Nat} {Q : (List D) → Prop} : (se G (.xf i j)).i ρ Q X = (se G (.xf i j)).v ρ (fun x => iW x Q X) X := id rfl
@[simp ↓] theorem se_isc_t {a : E} {i : Nat} {Q : Bool → Prop} : (se G (.isc a i)).t ρ Q X = (se G (.isc a i)).v ρ (fun x => truW x Q X) X := id rfl
@[simp ↓] theorem se_isc_c {a : E} {i : Nat} {Q : Bool → Prop} : (se G (.isc a i)).c ρ Q X = (se G (.isc a i)).v ρ (fun x => truW x Q X) X := id rfl
@[simp ↓] theorem se_isc_o {a : E} {i : Nat} {Q : (Option Int) → Prop} : (se G (.isc a i)).o ρ Q X = (se G (.isc a i)).v ρ (fun x => oW x Q X) X := id rfl
@[simp ↓] theorem se_isc_i {a : E} {i : Nat} {Q : (List D) → Prop} : (se G (.isc a i)).i ρ Q X = (se G (.isc a i)).v ρ (fun x => iW x Q X) X := id rfl
@[simp ↓] theorem se_ix_t {a b : E} {Q : Bool → Prop} : (se G (.ix a b)).t ρ Q X = (se G (.ix a b)).v ρ (fun x => truW x Q X) X := id rfl
@[simp ↓] theorem se_ix_c {a b : E} {Q : Bool → Prop} : (se G (.ix a b)).c ρ Q X = (se G (.ix a b)).v ρ (fun x => truW x Q X) X := id rfl
@[simp ↓] theorem se_ix_o {a b : E} {Q : (Option Int) → Prop} : (se G (.ix a b)).o ρ Q X = (se G (.ix a b)).v ρ (fun x => oW x Q X) X := id rfl
@[simp ↓] theorem se_ix_i {a b : E} {Q : (List D) → Prop} : (se G (.ix a b)).i ρ Q X = (se G (.ix a b)).v ρ (fun x => iW x Q X) X := id rfl
@[simp ↓] theorem se_sl_t {a b c : E} {Q : Bool → Prop} : (se G (.sl a b c)).t ρ Q X = (se G (.sl a b c)).v ρ (fun x => truW x Q X) X := id rfl
@[simp ↓] theorem se_sl_c {a b c : E} {Q : Bool → Prop} : (se G (.sl a b c)).c ρ Q X = (se G (.sl a b c)).v ρ (fun x => truW x Q X) X := id rfl
@[simp ↓] theorem se_sl_o {a b c : E} {Q : (Option Int) → Prop} : (se G (.sl a b c)).o ρ Q X = (se G (.sl a b c)).v ρ (fun x => oW x Q X) X := id rfl
@[simp ↓] theorem se_sl_i {a b c : E} {Q : (List D) → Prop} : (se G (.sl a b c)).i ρ Q X = (se G (.sl a b c)).v ρ (fun x => iW x Q X) X := id rfl
@[simp ↓] theorem se_tup_t {es : Es} {Q : Bool → Prop} : (se G (.tup es)).t ρ Q X = (se G (.tup es)).v ρ (fun x => truW x Q X) X := id rfl
@[simp ↓] theorem se_tup_c {es : Es} {Q : Bool → Prop} : (se G (.tup es)).c ρ Q X = (se G (.tup es)).v ρ (fun x => truW x Q X) X := id rfl
@[simp ↓] theorem se_tup_o {es : Es} {Q : (Option Int) → Prop} : (se G (.tup es)).o ρ Q X = (se G (.tup es)).v ρ (fun x => oW x Q X) X := id rfl
@[simp ↓] theorem se_tup_i {es : Es} {Q : (List D) → Prop} : (se G (.tup es)).i ρ Q X = (se G (.tup es)).v ρ (fun x => iW x Q X) X := id rfl
@[simp ↓] theorem se_lst_t {es : Es} {Q : Bool → Prop} : (se G (.lst es)).t ρ Q X = (se G (.lst es)).v ρ (fun x => truW x Q X) X := id rfl
@[simp ↓] theorem se_lst_c {es : Es} {Q : Bool → Prop} : (se G (.lst es)).c ρ Q X = (se G (.lst es)).v ρ (fun x => truW x Q X) X := id rfl
@[simp ↓] theorem se_lst_o {es : Es} {Q : (Option Int) → Prop} : (se G (.lst es)).o ρ Q X = (se G (.lst es)).v ρ (fun x => oW x Q X) X := id rfl
@[simp ↓] theorem se_lst_i {es : Es} {Q : (List D) → Prop} : (se G (.lst es)).i ρ Q X = (se G (.lst es)).v ρ (fun x => iW x Q X) X := id rfl
@[simp ↓] theorem se_comp_t {s : List Nat} {u : Bool} {a b c : E} {Q : Bool → Prop} : (se G (.comp s u a b c)).t ρ Q X = (se G (.comp s u a b c)).v ρ (fun x => truW x Q X) X := id rfl
@[simp ↓] theorem se_comp_c {s : List Nat} {u : Bool} {a b c : E} {Q : Bool → Prop} : (se G (.comp s u a b c)).c ρ Q X = (se G (.comp s u a b c)).v ρ (fun x => truW x Q X) X := id rfl
@[simp ↓] theorem se_comp_o {s : List Nat} {u : Bool} {a b c : E} {Q : (Option Int) → Prop} : (se G (.comp s u a b c)).o ρ Q X = (se G (.comp s u a b c)).v ρ (fun x => oW x Q X) X := id rfl
@[simp ↓] theorem se_comp_i {s : List Nat} {u : Bool} {a b c : E} {Q : (List D) → Prop} : (se G (.comp s u a b c)).i ρ Q X = (se G (.comp s u a b c)).v ρ (fun x => iW x Q X) X := id rfl
@[simp ↓] theorem se_cmp_c {o : COp} {a b : E} {Q : Bool → Prop} : (se G (.cmp o a b)).c ρ Q X = (se G (.cmp o a b)).t ρ Q X := id rfl
@[simp ↓] theorem se_cmp_o {o : COp} {a b : E} {Q : (Option Int) → Prop} : (se G (.cmp o a b)).o ρ Q X = (se G (.cmp o a b)).v ρ (fun x => oW x Q X) X := id rfl
@[simp ↓] theorem se_cmp_i {o : COp} {a b : E} {Q : (List D) → Prop} : (se G (.cmp o a b)).i ρ Q X = (se G (.cmp o a b)).v ρ (fun x => iW x Q X) X := id rfl
@[simp ↓] theorem se_chn_c {o p : COp} {a b c : E} {Q : Bool → Prop} : (se G (.chn o p a b c)).c ρ Q X = (se G (.chn o p a b c)).t ρ Q X := id rfl
@[simp ↓] theorem se_chn_o {o p : COp} {a b c : E} {Q : (Option Int) → Prop} : (se G (.chn o p a b c)).o ρ Q X = (se G (.chn o p a b c)).v ρ (fun x => oW x Q X) X := id rfl
@[simp ↓] theorem se_chn_i {o p : COp} {a b c : E} {Q : (List D) → Prop} : (se G (.chn o p a b c)).i ρ Q X = (se G (.chn o p a b c)).v ρ (fun x => iW x Q X) X := id rfl
@[simp ↓] theorem se_and_c {a b : E} {Q : Bool → Prop} : (se G (.and a b)).c ρ Q X = (se G (.and a b)).t ρ Q X := id rfl
@[simp ↓] theorem se_and_o {a b : E} {Q : (Option Int) → Prop} : (se G (.and a b)).o ρ Q X = (se G (.and a b)).v ρ (fun x => oW x Q X) X := id rfl
@[simp ↓] theorem se_and_i {a b : E} {Q : (List D) → Prop} : (se G (.and a b)).i ρ Q X = (se G (.and a b)).v ρ (fun x => iW x Q X) X := id rfl
@[simp ↓] theorem se_or_c {a b : E} {Q : Bool → Prop} : (se G (.or a b)).c ρ Q X = (se G (.or a b)).t ρ Q X := id rfl
@[simp ↓] theorem se_or_o {a b : E} {Q : (Option Int) → Prop} : (se G (.or a b)).o ρ Q X = (se G (.or a b)).v ρ (fun x => oW x Q X) X := id rfl
@[simp ↓] theorem se_or_i {a b : E} {Q : (List D) → Prop} : (se G (.or a b)).i ρ Q X = (se G (.or a b)).v ρ (fun x => iW x Q X) X := id rfl
@[simp ↓] theorem se_not_c {a : E} {Q : Bool → Prop} : (se G (.not a)).c ρ Q X = (se G (.not a)).t ρ Q X := id rfl
@[simp ↓] theorem se_not_o {a : E} {Q : (Option Int) → Prop} : (se G (.not a)).o ρ Q X = (se G (.not a)).v ρ (fun x => oW x Q X) X := id rfl
@[simp ↓] theorem se_not_i {a : E} {Q : (List D) → Prop} : (se G (.not a)).i ρ Q X = (se G (.not a)).v ρ (fun x => iW x Q X) X := id rfl
@[simp ↓] theorem se_ite_c {c a b : E} {Q : Bool → Prop} : (se G (.ite c a b)).c ρ Q X = (se G (.ite c a b)).t ρ Q X := id rfl
@[simp ↓] theorem se_ite_o {c a b : E} {Q : (Option Int) → Prop} : (se G (.ite c a b)).o ρ Q X = (se G (.ite c a b)).v ρ (fun x => oW x Q X) X := id rfl
@[simp ↓] theorem se_ite_i {c a b : E} {Q : (List D) → Prop} : (se G (.ite c a b)).i ρ Q X = (se G (.ite c a b)).v ρ (fun x => iW x Q X) X := id rfl
@[simp ↓] theorem se_eqi_c {i : Nat} {a b : E} {Q : Bool → Prop} : (se G (.eqi i a b)).c ρ Q X = (se G (.eqi i a b)).t ρ Q X := id rfl
@[simp ↓] theorem se_eqi_o {i : Nat} {a b : E} {Q : (Option Int) → Prop} : (se G (.eqi i a b)).o ρ Q X = (se G (.eqi i a b)).v ρ (fun x => oW x Q X) X := id rfl
@[simp ↓] theorem se_eqi_i {i : Nat} {a b : E} {Q : (List D) → Prop} : (se G (.eqi i a b)).i ρ Q X = (se G (.eqi i a b)).v ρ (fun x => iW x Q X) X := id rfl
@[simp ↓] theorem se_yes_c  {Q : Bool → Prop} : (se G .yes).c ρ Q X = Q true := id rfl
@[simp ↓] theorem se_yes_o  {Q : (Option Int) → Prop} : (se G .yes).o ρ Q X = Q none := id rfl
@[simp ↓] theorem se_var {i : Nat} {Q : D → Prop} : (se G (.var i)).v ρ Q X = varW i ρ Q X := id rfl
@[simp ↓] theorem se_int {i : Int} {Q : D → Prop} : (se G (.int i)).v ρ Q X = Q (.int i) := id rfl
@[simp ↓] theorem se_bl {i : Bool} {Q : D → Prop} : (se G (.bl i)).v ρ Q X = Q (.bl i) := id rfl
@[simp ↓] theorem se_non  {Q : D → Prop} : (se G .non).v ρ Q X = Q .non := id rfl
@[simp ↓] theorem se_str {i : PySem.Str} {Q : D → Prop} : (se G (.str i)).v ρ Q X = Q (.str i) := id rfl
@[simp ↓] theorem se_glob {i : Nat} {Q : D → Prop} : (se G (.glob i)).v ρ Q X = cstW (G.cst i) Q X := id rfl
@[simp ↓] theorem se_bin {o : BOp} {a b : E} {Q : D → Prop} : (se G (.bin o a b)).v ρ Q X = (se G a).v ρ (fun x => (se G b).v ρ (fun y => binW o x y Q X) X) X := id rfl
@[simp ↓] theorem se_neg {a : E} {Q : D → Prop} : (se G (.neg a)).v ρ Q X = (se G a).v ρ (fun x => negW x Q X) X := id rfl
@[simp ↓] theorem se_cmp {o : COp} {a b : E} {Q : D → Prop} : (se G (.cmp o a b)).v ρ Q X = (se G a).v ρ (fun x => (se G b).v ρ (fun y => cmpW o x y (fun t => Q (.bl t)) X) X) X := id rfl
@[simp ↓] theorem se_cmpt {o : COp} {a b : E} {Q : Bool → Prop} : (se G (.cmp o a b)).t ρ Q X = (se G a).v ρ (fun x => (se G b).v ρ (fun y => cmpW o x y Q X) X) X := id rfl
@[simp ↓] theorem se_chn {o p : COp} {a b c : E} {Q : D → Prop} : (se G (.chn o p a b c)).v ρ Q X = (se G a).v ρ (fun x => (se G b).v ρ (fun y => cmpW o x y (fun t => if t = true then (se G c).v ρ (fun z => cmpW p y z (fun t => Q (.bl t)) X) X else Q (.bl false)) X) X) X := by
  show (se G a).v ρ (fun x => (se G b).v ρ (fun y => cmpW o x y (fun t => (if t = true then bnd ((se G c).v ρ) fun z => bnd (cmpW p y z) fun t => ret (.bl t) else ret (.bl false)) Q X) X) X) X = _
  simp only [iteW]; rfl
@[simp ↓] theorem se_chnt {o p : COp} {a b c : E} {Q : Bool → Prop} : (se G (.chn o p a b c)).t ρ Q X = (se G a).v ρ (fun x => (se G b).v ρ (fun y => cmpW o x y (fun t => if t = true then (se G c).v ρ (fun z => cmpW p y z Q X) X else Q false) X) X) X := by
  show (se G a).v ρ (fun x => (se G b).v ρ (fun y => cmpW o x y (fun t => (if t = true then bnd ((se G c).v ρ) fun z => cmpW p y z else ret false) Q X) X) X) X = _
  simp only [iteW]; rfl
@[simp ↓] theorem se_and {a b : E} {Q : D → Prop} : (se G (.and a b)).v ρ Q X = (se G a).v ρ (fun x => truW x (fun t => if t = true then (se G b).v ρ Q X else Q x) X) X := by
  show (se G a).v ρ (fun x => truW x (fun t => (if t = true then (se G b).v ρ else ret x) Q X) X) X = _
  simp only [iteW]; rfl
@[simp ↓] theorem se_andt {a b : E} {Q : Bool → Prop} : (se G (.and a b)).t ρ Q X = (se G a).t ρ (fun t => if t = true then (se G b).t ρ Q X else Q false) X := by
  show (se G a).t ρ (fun t => (if t = true then (se G b).t ρ else ret false) Q X) X = _
  simp only [iteW]; rfl
@[simp ↓] theorem se_or {a b : E} {Q : D → Prop} : (se G (.or a b)).v ρ Q X = (se G a).v ρ (fun x => truW x (fun t => if t = true then Q x else (se G b).v ρ Q X) X) X := by
  show (se G a).v ρ (fun x => truW x (fun t => (if t = true then ret x else (se G b).v ρ) Q X) X) X = _
  simp only [iteW]; rfl
@[simp ↓] theorem se_ort {a b : E} {Q : Bool → Prop} : (se G (.or a b)).t ρ Q X = (se G a).t ρ (fun t => if t = true then Q true else (se G b).t ρ Q X) X := by
  show (se G a).t ρ (fun t => (if t = true then ret true else (se G b).t ρ) Q X) X = _
  simp only [iteW]; rfl
@[simp ↓] theorem se_ite {c a b : E} {Q : D → Prop} : (se G (.ite c a b)).v ρ Q X = (se G c).t ρ (fun t => if t = true then (se G a).v ρ Q X else (se G b).v ρ Q X) X := by
  show (se G c).t ρ (fun t => (if t = true then (se G a).v ρ else (se G b).v ρ) Q X) X = _
  simp only [iteW]
@[simp ↓] theorem se_itet {c a b : E} {Q : Bool → Prop} : (se G (.ite c a b)).t ρ Q X = (se G c).t ρ (fun t => if t = true then (se G a).t ρ Q X else (se G b).t ρ Q X) X := by
  show (se G c).t ρ (fun t => (if t = true then (se G a).t ρ else (se G b).t ρ) Q X) X = _
  simp only [iteW]
@[simp ↓] theorem se_not {a : E} {Q : D → Prop} : (se G (.not a)).v ρ Q X = (se G a).v ρ (fun x => truW x (fun t => Q (.bl (!t))) X) X := id rfl
@[simp ↓] theorem se_nott {a : E} {Q : Bool → Prop} : (se G (.not a)).t ρ Q X = (se G a).t ρ (fun t => Q (!t)) X := id rfl
@[simp ↓] theorem se_call {f : Nat} {es : Es} {Q : D → Prop} : (se G (.call f es)).v ρ Q X = fnW (G.fn f) (ses G es ρ) (cls (isOwn ρ) es) Q X := id rfl
@[simp ↓] theorem se_make {f : Nat} {es : Es} {Q : D → Prop} : (se G (.make f es)).v ρ Q X = fnW (G.mkr f) (ses G es ρ) (cls (isOwn ρ) es) Q X := id rfl
@[simp ↓] theorem se_meth {o : E} {m : Nat} {es : Es} {Q : D → Prop} : (se G (.meth o m es)).v ρ Q X = (se G o).v ρ (fun x => methW (mtE G.mt m x) (ses G es ρ) (cl (isOwn ρ) o && cls (isOwn ρ) es) x Q X) X := id rfl
@[simp ↓] theorem se_bf {f : BF} {es : Es} {Q : D → Prop} : (se G (.bf f es)).v ρ Q X = ses G es ρ (fun ds => bfW f ds Q X) X := id rfl
@[simp ↓] theorem se_lrng {tu : Bool} {a : E} {Q : D → Prop} : (se G (.lrng tu a)).v ρ Q X = (se G a).i ρ (fun xs => Q (if tu = true then .tup xs else .lst xs)) X := id rfl
@[simp ↓] theorem se_isi {e : E} {tys : List PySem.Str} {m : Bool} {Q : D → Prop} : (se G (.isi e tys m)).v ρ Q X = (se G e).v ρ (fun x => isiW x tys Q X) X := id rfl
@[simp ↓] theorem se_fld {e : E} {f : Nat} {Q : D → Prop} : (se G (.fld e f)).v ρ Q X = (se G e).v ρ (fun x => fldW x f Q X) X := id rfl
@[simp ↓] theorem se_xf {i f : Nat} {Q : D → Prop} : (se G (.xf i f)).v ρ Q X = xfW G ρ i f Q X := id rfl
@[simp ↓] theorem se_isc {e : E} {c : Nat} {Q : D → Prop} : (se G (.isc e c)).v ρ Q X = (G.icl c = true ∧ (se G e).v ρ (fun x => iscW G.isub G.icl c x (fun t => Q (.bl t)) X) X) := id rfl
@[simp ↓] theorem se_eqi {m : Nat} {a b : E} {Q : D → Prop} : (se G (.eqi m a b)).v ρ Q X = (se G a).v ρ (fun x => (se G b).v ρ (fun y => eqiW G.isub G.icl G.mt m (cl (isOwn ρ) a && cl (isOwn ρ) b) x y (fun t => Q (.bl t)) X) X) X := id rfl
@[simp ↓] theorem se_eqit {m : Nat} {a b : E} {Q : Bool → Prop} : (se G (.eqi m a b)).t ρ Q X = (se G a).v ρ (fun x => (se G b).v ρ (fun y => eqiW G.isub G.icl G.mt m (cl (isOwn ρ) a && cl (isOwn ρ) b) x y Q X) X) X := id rfl
@[simp ↓] theorem se_ix {a b : E} {Q : D → Prop} : (se G (.ix a b)).v ρ Q X = (se G a).v ρ (fun x => (se G b).v ρ (fun y => ixW x y Q X) X) X := id rfl
@[simp ↓] theorem se_sl {a lo hi : E} {Q : D → Prop} : (se G (.sl a lo hi)).v ρ Q X = (se G a).v ρ (fun x => (se G lo).o ρ (fun l => (se G hi).o ρ (fun h => slW x l h Q X) X) X) X := id rfl
@[simp ↓] theorem se_tup {es : Es} {Q : D → Prop} : (se G (.tup es)).v ρ Q X = ses G es ρ (fun ds => ds.length ≤ PySem.sizeLine ∧ Q (.tup ds)) X := id rfl
@[simp ↓] theorem se_lst {es : Es} {Q : D → Prop} : (se G (.lst es)).v ρ Q X = ses G es ρ (fun ds => ds.length ≤ PySem.sizeLine ∧ Q (.lst ds)) X := id rfl
@[simp ↓] theorem se_rng1 {a : E} {Q : (List D) → Prop} : (se G (.rng1 a)).i ρ Q X = (se G a).v ρ (fun x => rng1W x Q X) X := id rfl
@[simp ↓] theorem se_rng2 {a b : E} {Q : (List D) → Prop} : (se G (.rng2 a b)).i ρ Q X = (se G a).v ρ (fun x => (se G b).v ρ (fun y => rng2W x y Q X) X) X := id rfl
@[simp ↓] theorem se_enu {a : E} {Q : (List D) → Prop} : (se G (.enu a)).i ρ Q X = (se G a).v ρ (fun x => enuW x Q X) X := id rfl
@[simp ↓] theorem se_zip {a b : E} {Q : (List D) → Prop} : (se G (.zip a b)).i ρ Q X = (se G a).v ρ (fun x => (se G b).v ρ (fun y => zipW x y Q X) X) X := id rfl
@[simp ↓] theorem se_comp {ts : List Nat} {un : Bool} {src cond elt : E} {Q : D → Prop} : (se G (.comp ts un src cond elt)).v ρ Q X = ((cc (isOwn ρ) src = true ∧ cl (isOwn (wipeE ρ ts)) elt = true) ∧ (se G src).i ρ (fun xs => compW (fun d => bindT ts un d (wipeE ρ ts)) (se G cond).c (se G elt).v xs (fun ys => Q (.lst ys)) fun _ => False) X) := id rfl
@[simp ↓] theorem ses_nil {Q : List D → Prop} : ses G .nil ρ Q X = Q [] := id rfl
@[simp ↓] theorem ses_cons {e : E} {r : Es} {Q : List D → Prop} : ses G (.cons e r) ρ Q X = (se G e).v ρ (fun d => ses G r ρ (fun ds => Q (d :: ds)) X) X := id rfl
@[simp ↓] theorem varW_val {d : D} {Q : D → Prop} : varW 0 (some (.val d) :: ρ) Q X = Q d := id rfl
@[simp ↓] theorem varW_own {d : List D} {Q : D → Prop} : varW 0 (some (.own d) :: ρ) Q X = Q (.lst d) := id rfl
@[simp ↓] theorem varW_ownI {c : Nat} {a n : List Nat} {d : List D} {Q : D → Prop} : varW 0 (some (.ownI c a n d) :: ρ) Q X = Q (.ins c n d) := id rfl
@[simp ↓] theorem varW_succ {s : Option Slot} {i : Nat} {Q : D → Prop} : varW (i + 1) (s :: ρ) Q X = varW i ρ Q X := by
  simp only [varW, getS, List.getElem?_cons_succ]
end
/-! ### statements -/
section
variable {G : Tab} {ρ : Env} {Q : Fl → Prop} {X : D → Env → Prop}
@[simp ↓] theorem w1_asg {i : Nat} {e : E} : DV.w1 G (.asg i e) ρ Q X = (se G e).v ρ (fun d => okV ρ e d ∧ Q (.nx (setV ρ i d))) (fun x => X x ρ) := id rfl
@[simp ↓] theorem w1_own {i : Nat} {e : E} : DV.w1 G (.own i e) ρ Q X = ((frE e = true ∧ cl (isOwn ρ) e = true ∧ noMat ρ = true) ∧ (se G e).v ρ (fun d => (match d with | .lst ds => nxt (setO ρ i ds) | _ => failS) Q X) (fun x => X x ρ)) := id rfl
@[simp ↓] theorem w1_unp {ts : List Nat} {e : E} : DV.w1 G (.unp ts e) ρ Q X = (se G e).v ρ (fun d => okV ρ e d ∧ (match bindT ts true d ρ with | some ρ2 => nxt ρ2 | none => failS) Q X) (fun x => X x ρ) := id rfl
@[simp ↓] theorem w1_app {i : Nat} {e : E} : DV.w1 G (.app i e) ρ Q X = ownS ρ i (fun ds => eS ρ (wE G e ρ) fun d => reqS (okV ρ e d ∧ ds.length < PySem.sizeLine) (nxt (setO ρ i (ds ++ [d])))) Q X := id rfl
@[simp ↓] theorem w1_ex {e : E} : DV.w1 G (.ex e) ρ Q X = (se G e).v ρ (fun _ => Q (.nx ρ)) (fun x => X x ρ) := id rfl
@[simp ↓] theorem w1_for_ {ts : List Nat} {un : Bool} {src : E} {b : S} : DV.w1 G (.for_ ts un src b) ρ Q X = (cl (isOwn ρ) src = true ∧ (se G src).i ρ (fun xs => forS (bindT ts un) (wB G b) xs ρ Q X) (fun x => X x ρ)) := id rfl
@[simp ↓] theorem w1_whl {c : E} {b : S} : DV.w1 G (.whl c b) ρ Q X = whlS (fun ρ => (se G c).t ρ) (wB G b) ρ Q X := id rfl
@[simp ↓] theorem w1_ret {e : E} : DV.w1 G (.ret e) ρ Q X = (se G e).v ρ (fun d => Q (.rt d)) (fun x => X x ρ) := id rfl
@[simp ↓] theorem w1_retN  : DV.w1 G .retN ρ Q X = Q (.rt .non) := id rfl
@[simp ↓] theorem w1_brk  : DV.w1 G .brk ρ Q X = Q (.bk ρ) := id rfl
@[simp ↓] theorem w1_cnt  : DV.w1 G .cnt ρ Q X = Q (.ct ρ) := id rfl
@[simp ↓] theorem w1_pass  : DV.w1 G .pass ρ Q X = Q (.nx ρ) := id rfl
@[simp ↓] theorem w1_ite {c : E} {a b : S} : DV.w1 G (.ite c a b) ρ Q X = (se G c).t ρ (fun t => if t = true then wB G a ρ Q X else wB G b ρ Q X) (fun x => X x ρ) := by
  show (se G c).t ρ (fun t => (if t = true then wB G a ρ else wB G b ρ) Q X) (fun x => X x ρ) = _
  simp only [iteS]
end
/-! ### the operations, case by case -/
@[simp ↓] theorem ixW_lst {xs : List D} {i : Int} : ixW (.lst xs) (.int i) = (match L2.atI xs i with | some d => ret d | none => fail) := id rfl
@[simp ↓] theorem ixW_tup {xs : List D} {i : Int} : ixW (.tup xs) (.int i) = (match L2.atI xs i with | some d => ret d | none => fail) := id rfl
@[simp ↓] theorem ixW_str {z : PySem.Str} {i : Int} : ixW (.str z) (.int i) = (match L2.atI z.cps.toList i with | some c => req (z.length ≤ PySem.sizeLine) (ret (.str ⟨#[c]⟩)) | none => fail) := id rfl
@[simp ↓] theorem truW_non  : truW .non = ret false := id rfl
@[simp ↓] theorem truW_bl {b : Bool} : truW (.bl b) = ret b := id rfl
@[simp ↓] theorem truW_int {b : Int} : truW (.int b) = ret (b != 0) := id rfl
@[simp ↓] theorem truW_str {x : PySem.Str} : truW (.str x) = req (x.length ≤ PySem.sizeLine) (ret ((x.length : Int) != 0)) := id rfl
@[simp ↓] theorem truW_tup {xs : List D} : truW (.tup xs) = ret (!xs.isEmpty) := id rfl
@[simp ↓] theorem truW_lst {xs : List D} : truW (.lst xs) = ret (!xs.isEmpty) := id rfl
@[simp ↓] theorem binW_add {i j : Int} : binW .add (.int i) (.int j) = ret (.int (i + j)) := id rfl
@[simp ↓] theorem binW_sub {i j : Int} : binW .sub (.int i) (.int j) = ret (.int (i - j)) := id rfl
@[simp ↓] theorem binW_mul {i j : Int} : binW .mul (.int i) (.int j) = req (L2.CMul i j) (ret (.int (i * j))) := id rfl
@[simp ↓] theorem binW_fdiv {i j : Int} : binW .fdiv (.int i) (.int j) = req (L2.CDivW i j) (ret (.int (i / j))) := id rfl
@[simp ↓] theorem binW_mod {i j : Int} : binW .mod (.int i) (.int j) = req (0 < j) (ret (.int (i % j))) := id rfl
@[simp ↓] theorem binW_band {i j : Int} : binW .band (.int i) (.int j) = ret (.int (PySem.Builtin.bitAnd i j)) := id rfl
@[simp ↓] theorem binW_bor {i j : Int} : binW .bor (.int i) (.int j) = ret (.int (PySem.Builtin.bitOr i j)) := id rfl
@[simp ↓] theorem binW_shr {i j : Int} : binW .shr (.int i) (.int j) = req (0 ≤ j) (ret (.int (i / 2 ^ j.toNat))) := id rfl
@[simp ↓] theorem binW_shl {i j : Int} : binW .shl (.int i) (.int j) = req (L2.CPow i j) (ret (.int (i * 2 ^ j.toNat))) := id rfl
@[simp ↓] theorem binW_pow {i j : Int} : binW .pow (.int i) (.int j) = req (L2.CPow i j) (ret (.int (i ^ j.toNat))) := id rfl
@[simp ↓] theorem binW_adds {a b : PySem.Str} : binW .add (.str a) (.str b) = req (a.length + b.length ≤ PySem.sizeLine) (ret (.str (a ++ b))) := id rfl
@[simp ↓] theorem binW_addt {a b : List D} : binW .add (.tup a) (.tup b) = req (a.length + b.length ≤ PySem.sizeLine) (ret (.tup (a ++ b))) := id rfl
@[simp ↓] theorem binW_addl {a b : List D} : binW .add (.lst a) (.lst b) = req (a.length + b.length ≤ PySem.sizeLine) (ret (.lst (a ++ b))) := id rfl
@[simp ↓] theorem augW_add {i j : Int} : augW .add (.int i) (.int j) = ret (.int (i + j)) := id rfl
@[simp ↓] theorem augW_adds {a b : PySem.Str} : augW .add (.str a) (.str b) = req (a.length + b.length ≤ PySem.sizeLine) (ret (.str (a ++ b))) := id rfl
@[simp ↓] theorem augW_sub {i j : Int} : augW .sub (.int i) (.int j) = ret (.int (i - j)) := id rfl
@[simp ↓] theorem augW_mul {i j : Int} : augW .mul (.int i) (.int j) = req (L2.CMul i j) (ret (.int (i * j))) := id rfl
@[simp ↓] theorem cmpW_eq {a b : D} : cmpW .eq a b = req (eqOk a ∧ eqOk b) (ret (deq a b)) := id rfl
@[simp ↓] theorem cmpW_ne {a b : D} : cmpW .ne a b = req (eqOk a ∧ eqOk b) (ret (!deq a b)) := id rfl
@[simp ↓] theorem cmpW_lt {i j : Int} : cmpW .lt (.int i) (.int j) = ret (decide (i < j)) := id rfl
@[simp ↓] theorem cmpW_le {i j : Int} : cmpW .le (.int i) (.int j) = ret (decide (i ≤ j)) := id rfl
@[simp ↓] theorem cmpW_gt {i j : Int} : cmpW .gt (.int i) (.int j) = ret (decide (j < i)) := id rfl
@[simp ↓] theorem cmpW_ge {i j : Int} : cmpW .ge (.int i) (.int j) = ret (decide (j ≤ i)) := id rfl
@[simp ↓] theorem cmpW_is {a : D} : cmpW .isN a .non = ret (isNon a) := id rfl
@[simp ↓] theorem cmpW_isnt {a : D} : cmpW .notN a .non = ret (!isNon a) := id rfl
@[simp ↓] theorem cmpW_in {a b : D} : cmpW .inn a b = inW a b := id rfl
@[simp ↓] theorem cmpW_nin {a b : D} : cmpW .nin a b = bnd (inW a b) fun t => ret (!t) := id rfl
@[simp ↓] theorem inW_lst {x : D} {ys : List D} : inW x (.lst ys) = req (eqOk x ∧ eqOk (.lst ys)) (ret (anyEq x ys)) := id rfl
@[simp ↓] theorem inW_tup {x : D} {ys : List D} : inW x (.tup ys) = req (isFlat x = true ∧ ys.all isFlat = true) (ret (anyEq x ys)) := id rfl
@[simp ↓] theorem inW_str {z y : PySem.Str} : inW (.str y) (.str z) = ret (!(PySem.Builtin.Str.occurrences z y 0 z.length 1).isEmpty) := id rfl
@[simp ↓] theorem slW_lst {xs : List D} {a b : Option Int} : slW (.lst xs) a b = ret (.lst (cutL xs a b)) := id rfl
@[simp ↓] theorem slW_tup {xs : List D} {a b : Option Int} : slW (.tup xs) a b = ret (.tup (cutL xs a b)) := id rfl
@[simp ↓] theorem fldW_ins {c : Nat} {ns : List Nat} {vs : List D} {f : Nat} : fldW (.ins c ns vs) f = (match look2 ns vs f with | some d => ret d | none => fail) := id rfl
@[simp ↓] theorem negW_int {i : Int} : negW (.int i) = ret (.int (-i)) := id rfl
@[simp ↓] theorem oW_int {i : Int} : oW (.int i) = ret (some i) := id rfl
@[simp ↓] theorem iW_lst {xs : List D} : iW (.lst xs) = ret xs := id rfl
@[simp ↓] theorem iW_tup {xs : List D} : iW (.tup xs) = ret xs := id rfl
@[simp ↓] theorem enuW_lst {xs : List D} : enuW (.lst xs) = ret (enuD 0 xs) := id rfl
@[simp ↓] theorem zipW_lst {xs ys : List D} : zipW (.lst xs) (.lst ys) = ret (zipD xs ys) := id rfl
@[simp ↓] theorem bfW_repr {d : D} : bfW .repr [d] = repD d := id rfl
@[simp ↓] theorem bfW_str {i : Int} : bfW .str [.int i] = req (i.natAbs.log2 < 1920) (ret (.str (toString i))) := id rfl
@[simp ↓] theorem bfW_strs {x : PySem.Str} : bfW .str [.str x] = ret (.str x) := id rfl
@[simp ↓] theorem bfW_len_l {xs : List D} : bfW .len [.lst xs] = ret (.int xs.length) := id rfl
@[simp ↓] theorem bfW_len_t {xs : List D} : bfW .len [.tup xs] = ret (.int xs.length) := id rfl
@[simp ↓] theorem bfW_len_s {x : PySem.Str} : bfW .len [.str x] = req (x.length ≤ PySem.sizeLine) (ret (.int x.length)) := id rfl
@[simp ↓] theorem bfW_int {i : Int} : bfW .int [.int i] = ret (.int i) := id rfl
@[simp ↓] theorem bfW_intb {b : Bool} : bfW .int [.bl b] = ret (.int (if b then 1 else 0)) := id rfl
@[simp ↓] theorem bfW_bool {i : Int} : bfW .bool [.int i] = ret (.bl (i != 0)) := id rfl
@[simp ↓] theorem bfW_boolb {b : Bool} : bfW .bool [.bl b] = ret (.bl b) := id rfl
@[simp ↓] theorem bfW_list_lst {xs : List D} : bfW .list [.lst xs] = ret (.lst xs) := id rfl
@[simp ↓] theorem bfW_list_tup {xs : List D} : bfW .list [.tup xs] = ret (.lst xs) := id rfl
@[simp ↓] theorem bfW_tuple_lst {xs : List D} : bfW .tuple [.lst xs] = ret (.tup xs) := id rfl
@[simp ↓] theorem bfW_tuple_tup {xs : List D} : bfW .tuple [.tup xs] = ret (.tup xs) := id rfl
@[simp ↓] theorem bfW_abs {i : Int} : bfW .abs [.int i] = ret (.int (if i < 0 then -i else i)) := id rfl
@[simp ↓] theorem bfW_max {i j : Int} : bfW .max [.int i, .int j] = ret (.int (if j > i then j else i)) := id rfl
@[simp ↓] theorem bfW_min {i j : Int} : bfW .min [.int i, .int j] = ret (.int (if j < i then j else i)) := id rfl
@[simp ↓] theorem bfW_sum {xs : List D} : bfW .sum [.lst xs] = (match intsOf xs with | some ns => ret (.int ns.sum) | none => fail) := id rfl
@[simp ↓] theorem bfW_any_lst {xs : List D} : bfW .any [.lst xs] = (match blsOf xs with | some bs => ret (.bl (bs.any id)) | none => fail) := id rfl
@[simp ↓] theorem bfW_any_tup {xs : List D} : bfW .any [.tup xs] = (match blsOf xs with | some bs => ret (.bl (bs.any id)) | none => fail) := id rfl
@[simp ↓] theorem bfW_all_lst {xs : List D} : bfW .all [.lst xs] = (match blsOf xs with | some bs => ret (.bl (bs.all id)) | none => fail) := id rfl
@[simp ↓] theorem bfW_all_tup {xs : List D} : bfW .all [.tup xs] = (match blsOf xs with | some bs => ret (.bl (bs.all id)) | none => fail) := id rfl
@[simp ↓] theorem mtE_ins {mt : Nat → Nat → Option (Nat × (List D → W D))} {m k : Nat} {ns : List Nat} {vs : List D} : mtE mt m (.ins k ns vs) = mt k m := id rfl
@[simp ↓] theorem isi_int {i : Int} {l : List PySem.Str} : isiW (.int i) l = ret (.bl (l.any fun c => kit1 "int" c)) := id rfl
@[simp ↓] theorem isi_bl {b : Bool} {l : List PySem.Str} : isiW (.bl b) l = ret (.bl (l.any fun c => kit1 "bool" c)) := id rfl
@[simp ↓] theorem isi_str {x : PySem.Str} {l : List PySem.Str} : isiW (.str x) l = ret (.bl (l.any fun c => kit1 "str" c)) := id rfl
@[simp ↓] theorem isi_non {l : List PySem.Str} : isiW .non l = ret (.bl (l.any fun c => kit1 "NoneType" c)) := id rfl
@[simp ↓] theorem isi_tup {xs : List D} {l : List PySem.Str} : isiW (.tup xs) l = ret (.bl (l.any fun c => kit1 "tuple" c)) := id rfl
@[simp ↓] theorem isi_lst {xs : List D} {l : List PySem.Str} : isiW (.lst xs) l = ret (.bl (l.any fun c => kit1 "list" c)) := id rfl
@[simp] theorem kit_int_int : kit1 "int" "int" = true := by decide +kernel
@[simp] theorem kit_int_bool : kit1 "int" "bool" = false := by decide +kernel
@[simp] theorem kit_int_str : kit1 "int" "str" = false := by decide +kernel
@[simp] theorem kit_int_tuple : kit1 "int" "tuple" = false := by decide +kernel
@[simp] theorem kit_int_list : kit1 "int" "list" = false := by decide +kernel
@[simp] theorem kit_bool_int : kit1 "bool" "int" = true := by decide +kernel
@[simp] theorem kit_bool_bool : kit1 "bool" "bool" = true := by decide +kernel
@[simp] theorem kit_bool_str : kit1 "bool" "str" = false := by decide +kernel
@[simp] theorem kit_bool_tuple : kit1 "bool" "tuple" = false := by decide +kernel
@[simp] theorem kit_bool_list : kit1 "bool" "list" = false := by decide +kernel
@[simp] theorem kit_str_int : kit1 "str" "int" = false := by decide +kernel
@[simp] theorem kit_str_bool : kit1 "str" "bool" = false := by decide +kernel
@[simp] theorem kit_str_str : kit1 "str" "str" = true := by decide +kernel
@[simp] theorem kit_str_tuple : kit1 "str" "tuple" = false := by decide +kernel
@[simp] theorem kit_str_list : kit1 "str" "list" = false := by decide +kernel
@[simp] theorem kit_tuple_int : kit1 "tuple" "int" = false := by decide +kernel
@[simp] theorem kit_tuple_bool : kit1 "tuple" "bool" = false := by decide +kernel
@[simp] theorem kit_tuple_str : kit1 "tuple" "str" = false := by decide +kernel
@[simp] theorem kit_tuple_tuple : kit1 "tuple" "tuple" = true := by decide +kernel
@[simp] theorem kit_tuple_list : kit1 "tuple" "list" = false := by decide +kernel
@[simp] theorem kit_list_int : kit1 "list" "int" = false := by decide +kernel
@[simp] theorem kit_list_bool : kit1 "list" "bool" = false := by decide +kernel
@[simp] theorem kit_list_str : kit1 "list" "str" = false := by decide +kernel
@[simp] theorem kit_list_tuple : kit1 "list" "tuple" = false := by decide +kernel
@[simp] theorem kit_list_list : kit1 "list" "list" = true := by decide +kernel
@[simp] theorem kit_NoneType_int : kit1 "NoneType" "int" = false := by decide +kernel
@[simp] theorem kit_NoneType_bool : kit1 "NoneType" "bool" = false := by decide +kernel
@[simp] theorem kit_NoneType_str : kit1 "NoneType" "str" = false := by decide +kernel
@[simp] theorem kit_NoneType_tuple : kit1 "NoneType" "tuple" = false := by decide +kernel
@[simp] theorem kit_NoneType_list : kit1 "NoneType" "list" = false := by decide +kernel
@[simp] theorem beq_nat {a b : Nat} : ((a : Int) == (b : Int)) = decide (a = b) := by
  rw [Bool.eq_iff_iff]; simp; omega
@[simp] theorem beq_nat0 {a : Nat} : ((a : Int) == 0) = decide (a = 0) := beq_nat (b := 0)
@[simp] theorem beq_natl {a b : Nat} : ((a : Int) == (no_index (@OfNat.ofNat Int b instOfNat))) = decide (a = (no_index (@OfNat.ofNat Nat b (instOfNatNat b)))) := beq_nat (b := b)
@[simp] theorem noMat_nil : noMat [] = true := rfl
@[simp] theorem noMat_none {r : Env} : noMat (none :: r) = noMat r := by simp [noMat]
@[simp] theorem noMat_val {d : D} {r : Env} : noMat (some (.val d) :: r) = noMat r := by simp [noMat, Slot.mt]
@[simp] theorem noMat_own {d : List D} {r : Env} : noMat (some (.own d) :: r) = noMat r := by simp [noMat, Slot.mt]
@[simp] theorem noMat_ownI {c : Nat} {a n : List Nat} {d : List D} {r : Env} : noMat (some (.ownI c a n d) :: r) = noMat r := by simp [noMat, Slot.mt]
@[simp] theorem noMat_exc {d : D} {r : Env} : noMat (some (.exc d) :: r) = noMat r := by simp [noMat, Slot.mt]
@[simp] theorem noMat_opt {o : Option D} {r : Env} : noMat (o.map .val :: r) = noMat r := by cases o <;> simp
@[simp] theorem noOw_nil : noOw [] = true := rfl
@[simp] theorem noOw_none {r : Env} : noOw (none :: r) = noOw r := by simp [noOw]
@[simp] theorem noOw_val {d : D} {r : Env} : noOw (some (.val d) :: r) = noOw r := by simp [noOw, Slot.ow]
@[simp] theorem noOw_exc {d : D} {r : Env} : noOw (some (.exc d) :: r) = noOw r := by simp [noOw, Slot.ow]
@[simp] theorem noOw_ownI {c : Nat} {a n : List Nat} {d : List D} {r : Env} : noOw (some (.ownI c a n d) :: r) = false := by simp [noOw, Slot.ow]
@[simp] theorem noOw_own {d : List D} {r : Env} : noOw (some (.own d) :: r) = false := by simp [noOw, Slot.ow]
@[simp] theorem noOw_opt {o : Option D} {r : Env} : noOw (o.map .val :: r) = noOw r := by cases o <;> simp
@[simp] theorem filter_tt {α : Type} {l : List α} : l.filter (fun _ => true) = l := by simp
/-! ### indices, ranges -/
@[simp] theorem atI_nat {α : Type} {xs : List α} {k : Nat} : L2.atI xs (k : Int) = xs[k]? := by
  unfold L2.atI L2.ixN
  rw [if_pos (by omega)]
  by_cases h : k < xs.length
  · rw [if_pos (by omega)]; rfl
  · rw [if_neg (by omega), List.getElem?_eq_none (by omega)]; rfl
@[simp] theorem atI_lit {α : Type} {xs : List α} {k : Nat} : L2.atI xs (no_index (@OfNat.ofNat Int k instOfNat)) = xs[(@OfNat.ofNat Nat k (instOfNatNat k))]? := atI_nat (k := k)
@[simp] theorem atI_zero {α : Type} {xs : List α} : L2.atI xs 0 = xs[0]? := atI_nat (k := 0)
@[simp] theorem atI_one {α : Type} {xs : List α} : L2.atI xs 1 = xs[1]? := atI_nat (k := 1)
@[simp] theorem atI_last {α : Type} {xs : List α} : L2.atI xs (-1) = xs.getLast? := by
  unfold L2.atI L2.ixN
  rw [if_neg (by omega), List.getLast?_eq_getElem?]
  by_cases h : xs.length = 0
  · rw [if_neg (by omega), List.getElem?_eq_none (by omega)]; rfl
  · rw [if_pos (by omega)]
    show xs[(-1 + (xs.length : Int)).toNat]? = _
    congr 1
    omega
@[simp] theorem iteBT {t u : Bool} {Q : Bool → Prop} : (if t = true then Q u else Q false) = Q (t && u) := by cases t <;> simp
@[simp] theorem iteBF {t u : Bool} {Q : Bool → Prop} : (if t = true then Q true else Q u) = Q (t || u) := by cases t <;> simp
theorem rng1_nat {n : Nat} (h : n ≤ 16777216) : rng1W (.int n) = ret ((List.range n).map fun k => .int (k : Nat)) := by
  have e : (n : Int).toNat = n := rfl
  funext Q E
  apply propext
  simp only [rng1W, req, ret, rangeD, e]
  constructor
  · intro hh
    have := hh.2
    simpa using this
  · intro hh
    refine ⟨⟨by omega, by omega, ?_⟩, by simpa using hh⟩
    simpa [PySem.sizeLine] using h
theorem rng1_req {n : Nat} : rng1W (.int n) = req (n ≤ 16777216) (ret ((List.range n).map fun k => .int (k : Nat))) := by
  by_cases h : n ≤ 16777216
  · rw [rng1_nat h]
    funext Q E
    simp [req, h]
  · funext Q E
    have e : (n : Int).toNat = n := rfl
    have e2 : PySem.sizeLine = 16777216 := by decide
    simp only [rng1W, req, e, e2]
    exact propext ⟨fun hh => absurd hh.1.2.2 h, fun hh => absurd hh.1 h⟩
@[simp ↓] theorem rng1_lit {k : Nat} : rng1W (.int (no_index (@OfNat.ofNat Int k instOfNat))) = req ((no_index (@OfNat.ofNat Nat k (instOfNatNat k))) ≤ 16777216) (ret ((List.range (no_index (@OfNat.ofNat Nat k (instOfNatNat k)))).map fun k => .int (k : Nat))) := rng1_req (n := k)
theorem rng2_nat {a b : Nat} (h : b ≤ 16777216) (h2 : a ≤ 16777216) : rng2W (.int a) (.int b) = ret ((List.range' a (b - a)).map fun k => .int (k : Nat)) := by
  have e : ((b : Int) - a).toNat = b - a := by omega
  funext Q E
  apply propext
  simp only [rng2W, req, ret, rangeD, e]
  have e2 : (List.range (b - a)).map (fun k : Nat => D.int ((a : Int) + (k : Int))) = (List.range' a (b - a)).map fun k : Nat => D.int (k : Int) := by
    rw [List.range'_eq_map_range, List.map_map]
    refine List.map_congr_left fun k _ => ?_
    simp
  rw [e2]
  constructor
  · exact fun hh => hh.2
  · intro hh
    refine ⟨⟨by omega, ?_⟩, hh⟩
    simp [PySem.sizeLine]; omega
theorem rng2_nat1 {a b : Nat} (h : b ≤ 16777216) (h2 : a < 16777216) : rng2W (.int ((a : Int) + 1)) (.int b) = ret ((List.range' (a + 1) (b - (a + 1))).map fun k => .int (k : Nat)) := rng2_nat (a := a + 1) h (by omega)
@[simp] theorem cutL_take {α : Type} {l : List α} {k : Nat} : cutL l none (some (k : Int)) = l.take k := by
  unfold cutL
  rw [HT.sIx_none, HT.sIx_nat, List.drop_zero, Nat.sub_zero]
  by_cases h : k ≤ l.length
  · rw [Nat.min_eq_left h]
  · rw [Nat.min_eq_right (by omega), List.take_length, List.take_of_length_le (by omega)]
@[simp] theorem cutL_drop {α : Type} {l : List α} {k : Nat} : cutL l (some (k : Int)) none = l.drop k := by
  unfold cutL
  rw [HT.sIx_none, HT.sIx_nat]
  by_cases h : k ≤ l.length
  · rw [Nat.min_eq_left h, List.take_of_length_le (by simp)]
  · rw [Nat.min_eq_right (by omega), List.drop_length, List.drop_eq_nil_of_le (by omega)]; simp
theorem ixN_nat {n r : Nat} (h : r < n) : L2.ixN n (r : Int) = some r := by
  unfold L2.ixN
  rw [if_pos (by omega), if_pos (by omega)]; rfl
/-! ### comprehensions -/
inductive F2 {α β : Type} (R : α → β → Prop) : List α → List β → Prop where
  | nil : F2 R [] []
  | cons {a : α} {b : β} {l : List α} {m : List β} (h : R a b) (t : F2 R l m) : F2 R (a :: l) (b :: m)
theorem F2.len {α β : Type} {R : α → β → Prop} : ∀ {l : List α} {m : List β}, F2 R l m → m.length = l.length
  | _, _, .nil => rfl
  | _, _, .cons _ t => by rw [List.length_cons, List.length_cons, t.len]
section
variable {bind : D → Option Env} {c : Env → W Bool} {e : Env → W D} {E : D → Prop}
/-- each element gives what is told of it -/
theorem comp_any {α : Type} {g : α → D} {p : α → Bool} {P : α → D → Prop} : ∀ {l : List α} {Q : List D → Prop},
    (∀ a ∈ l, ∃ ρ, bind (g a) = some ρ ∧ (∀ Q : Bool → Prop, Q (p a) → c ρ Q E) ∧ (p a = true → ∀ Q : D → Prop, (∀ d, P a d → Q d) → e ρ Q E)) →
    (∀ ys, F2 P (l.filter p) ys → Q ys) → compW bind c e (l.map g) Q E
  | [], Q, _, q => q [] .nil
  | a :: l, Q, h, q => by
    obtain ⟨ρ, h1, h2, h3⟩ := h a List.mem_cons_self
    have ih : ∀ {Q : List D → Prop}, (∀ ys, F2 P (l.filter p) ys → Q ys) → compW bind c e (l.map g) Q E := comp_any (fun b hb => h b (List.mem_cons_of_mem _ hb))
    rw [List.map_cons]
    unfold compW
    simp only [h1]
    refine h2 _ ?_
    cases z : p a with
    | true =>
      rw [if_pos rfl]
      refine h3 z _ fun d hd => ih fun ys hy => q _ ?_
      rw [List.filter_cons, if_pos z]
      exact .cons hd hy
    | false =>
      rw [if_neg (by simp)]
      refine ih fun ys hy => q _ ?_
      rw [List.filter_cons, if_neg (by simp [z])]
      exact hy
theorem forall2_eq {α β : Type} {f : α → β} : ∀ {l : List α} {ys : List β}, F2 (fun a y => y = f a) l ys → ys = l.map f
  | [], _, h => by cases h; rfl
  | a :: l, _, h => by
    cases h with
    | cons h1 h2 => rw [List.map_cons, h1, forall2_eq h2]
theorem comp_det {α : Type} {g : α → D} {p : α → Bool} {f : α → D} {l : List α} {Q : List D → Prop}
    (h : ∀ a ∈ l, ∃ ρ, bind (g a) = some ρ ∧ (∀ Q : Bool → Prop, Q (p a) → c ρ Q E) ∧ (p a = true → ∀ Q : D → Prop, Q (f a) → e ρ Q E))
    (q : Q ((l.filter p).map f)) : compW bind c e (l.map g) Q E :=
  comp_any (P := fun a y => y = f a) (p := p) (fun a ha => by
    obtain ⟨ρ, h1, h2, h3⟩ := h a ha
    exact ⟨ρ, h1, h2, fun z Q hq => h3 z Q (hq _ rfl)⟩) (fun ys hy => by rw [forall2_eq hy]; exact q)
end
theorem anyEq_nat {x : Nat} {t : List Nat} : anyEq (.int x) (t.map fun k : Nat => .int k) = decide (x ∈ t) := by
  rw [Bool.eq_iff_iff]
  simp only [anyEq, List.any_map, List.any_eq_true, Function.comp, deq, beq_nat, decide_eq_true_iff]
  exact ⟨fun ⟨y, h, e⟩ => e ▸ h, fun h => ⟨x, h, rfl⟩⟩
theorem all_flat_nat {t : List Nat} : (t.map fun k : Nat => D.int k).all isFlat = true := by simp [isFlat]
@[simp] theorem in_nat {x : Nat} {t : List Nat} : inW (.int x) (.tup (t.map fun k : Nat => .int k)) = ret (decide (x ∈ t)) := by
  funext Q E
  apply propext
  simp only [inW_tup, req, ret, anyEq_nat, all_flat_nat]
  exact ⟨fun h => h.2, fun h => ⟨⟨rfl, trivial⟩, h⟩⟩
/-! ### loops -/
section
variable {bind : D → Env → Option Env} {body : Env → WS}
/-- a loop by what holds behind each part of the list -/
theorem for_inv {α : Type} {g : α → D} (I : List α → Env → Prop) (B : Env → Prop) (R : D → Prop) {Q : Fl → Prop} {X : D → Env → Prop} : ∀ {l pre : List α} {ρ : Env}, I pre ρ →
    (∀ (p2 : List α) (a : α) (post : List α) (ρ : Env), pre ++ l = p2 ++ a :: post → pre.length ≤ p2.length → I p2 ρ → ∃ ρ1, bind (g a) ρ = some ρ1 ∧ ∀ K : Fl → Prop, (∀ ρ2, I (p2 ++ [a]) ρ2 → K (.nx ρ2)) → (∀ ρ2, I (p2 ++ [a]) ρ2 → K (.ct ρ2)) → (∀ ρ2, B ρ2 → K (.bk ρ2)) → (∀ d, R d → K (.rt d)) → body ρ1 K X) →
    (∀ ρ2, I (pre ++ l) ρ2 → Q (.nx ρ2)) → (∀ ρ2, B ρ2 → Q (.nx ρ2)) → (∀ d, R d → Q (.rt d)) → forS bind body (l.map g) ρ Q X
  | [], pre, ρ, h0, _, q1, _, _ => by
    rw [List.append_nil] at q1
    exact q1 ρ h0
  | a :: l, pre, ρ, h0, st, q1, q2, q3 => by
    obtain ⟨ρ1, h1, h2⟩ := st pre a l ρ rfl (Nat.le_refl _) h0
    have e : pre ++ a :: l = (pre ++ [a]) ++ l := by simp
    have nxt : ∀ ρ2, I (pre ++ [a]) ρ2 → forS bind body (l.map g) ρ2 Q X := fun ρ2 hi => for_inv I B R hi (fun p2 b post ρ3 he hl => st p2 b post ρ3 (e.trans he) (by simp at hl; omega)) (fun ρ2 h => q1 ρ2 (by rw [e]; exact h)) q2 q3
    rw [List.map_cons]
    unfold forS
    simp only [h1]
    exact h2 _ nxt nxt q2 q3
end
end DV
namespace Lw
open PySem PySem.Spec PyProof.Rows L2 DV
def top (i : Nat) : Stmt := PySem.Challenge.pw_cutworths_k99_results_are_equal_by_class.main.body.getD i (.Pass ⟨0, 0, 0, 0⟩)
def nmX : Nms := ⟨true, ["_law_made", "_law_many", "_law_take", "_law_fields", "_law_thing", "_law_mixed"],
  ["Pentagon", "Diamond", "Found", "Doubt", "Passing", "Within", "Looked", "Job", "Answer", "Plan", "Play", "Wrong", "Trial"], ["__eq__"],
  ["high", "aside", "greater", "lesser", "low", "third", "second", "first", "passed", "asked", "worth", "high_worth", "low_worth", "context", "way", "whole", "served", "road", "hand", "number", "yes", "prime", "certificate", "holder", "numbers", "told", "refused", "tolds"], []⟩
def hcX : List Str := []
-- not here: law_hand 
def N_init_Pentagon : List Str := ["self", "low", "lesser", "greater", "aside", "high"]
@[reducible] def b_init_Pentagon : DV.S := (.cons (.sfl 0 4 (.var 1)) (.cons (.sfl 0 3 (.var 2)) (.cons (.sfl 0 2 (.var 3)) (.cons (.sfl 0 1 (.var 4)) (.cons (.sfl 0 0 (.var 5)) .nil)))))
theorem ck_init_Pentagon : ckS nmX hcX N_init_Pentagon b_init_Pentagon (defScope (inClass (top 3) 0)) (defBody (inClass (top 3) 0)) = true := by decide +kernel
theorem sc_init_Pentagon : FnScope N_init_Pentagon ["self", "low", "lesser", "greater", "aside", "high"] (defScope (inClass (top 3) 0)) := ⟨rfl, rfl, rfl, by decide +kernel, by decide +kernel, by decide +kernel, by decide +kernel⟩
def N_init_Diamond : List Str := ["self", "low", "first", "second", "third", "high"]
@[reducible] def b_init_Diamond : DV.S := (.cons (.sfl 0 4 (.var 1)) (.cons (.sfl 0 7 (.var 2)) (.cons (.sfl 0 6 (.var 3)) (.cons (.sfl 0 5 (.var 4)) (.cons (.sfl 0 0 (.var 5)) .nil)))))
theorem ck_init_Diamond : ckS nmX hcX N_init_Diamond b_init_Diamond (defScope (inClass (top 4) 0)) (defBody (inClass (top 4) 0)) = true := by decide +kernel
theorem sc_init_Diamond : FnScope N_init_Diamond ["self", "low", "first", "second", "third", "high"] (defScope (inClass (top 4) 0)) := ⟨rfl, rfl, rfl, by decide +kernel, by decide +kernel, by decide +kernel, by decide +kernel⟩
def N_init_Found : List Str := ["self", "worth", "asked", "passed"]
@[reducible] def b_init_Found : DV.S := (.cons (.sfl 0 10 (.var 1)) (.cons (.sfl 0 9 (.var 2)) (.cons (.sfl 0 8 (.var 3)) .nil)))
theorem ck_init_Found : ckS nmX hcX N_init_Found b_init_Found (defScope (inClass (top 1) 0)) (defBody (inClass (top 1) 0)) = true := by decide +kernel
theorem sc_init_Found : FnScope N_init_Found ["self", "worth", "asked", "passed"] (defScope (inClass (top 1) 0)) := ⟨rfl, rfl, rfl, by decide +kernel, by decide +kernel, by decide +kernel, by decide +kernel⟩
def N_init_Doubt : List Str := ["self", "low", "high", "low_worth", "high_worth"]
@[reducible] def b_init_Doubt : DV.S := (.cons (.sfl 0 4 (.var 1)) (.cons (.sfl 0 0 (.var 2)) (.cons (.sfl 0 12 (.var 3)) (.cons (.sfl 0 11 (.var 4)) .nil))))
theorem ck_init_Doubt : ckS nmX hcX N_init_Doubt b_init_Doubt (defScope (inClass (top 18) 0)) (defBody (inClass (top 18) 0)) = true := by decide +kernel
theorem sc_init_Doubt : FnScope N_init_Doubt ["self", "low", "high", "low_worth", "high_worth"] (defScope (inClass (top 18) 0)) := ⟨rfl, rfl, rfl, by decide +kernel, by decide +kernel, by decide +kernel, by decide +kernel⟩
def N_init_Passing : List Str := ["self", "way", "context"]
@[reducible] def b_init_Passing : DV.S := (.cons (.sfl 0 14 (.var 1)) (.cons (.sfl 0 13 (.var 2)) .nil))
theorem ck_init_Passing : ckS nmX hcX N_init_Passing b_init_Passing (defScope (inClass (top 19) 0)) (defBody (inClass (top 19) 0)) = true := by decide +kernel
theorem sc_init_Passing : FnScope N_init_Passing ["self", "way", "context"] (defScope (inClass (top 19) 0)) := ⟨rfl, rfl, rfl, by decide +kernel, by decide +kernel, by decide +kernel, by decide +kernel⟩
def N_init_Within : List Str := ["self", "asked", "whole"]
@[reducible] def b_init_Within : DV.S := (.cons (.sfl 0 9 (.var 1)) (.cons (.sfl 0 15 (.var 2)) .nil))
theorem ck_init_Within : ckS nmX hcX N_init_Within b_init_Within (defScope (inClass (top 8) 0)) (defBody (inClass (top 8) 0)) = true := by decide +kernel
theorem sc_init_Within : FnScope N_init_Within ["self", "asked", "whole"] (defScope (inClass (top 8) 0)) := ⟨rfl, rfl, rfl, by decide +kernel, by decide +kernel, by decide +kernel, by decide +kernel⟩
def N_init_Looked : List Str := ["self", "worth", "asked", "served"]
@[reducible] def b_init_Looked : DV.S := (.cons (.sfl 0 10 (.var 1)) (.cons (.sfl 0 9 (.var 2)) (.cons (.sfl 0 16 (.var 3)) .nil)))
theorem ck_init_Looked : ckS nmX hcX N_init_Looked b_init_Looked (defScope (inClass (top 10) 0)) (defBody (inClass (top 10) 0)) = true := by decide +kernel
theorem sc_init_Looked : FnScope N_init_Looked ["self", "worth", "asked", "served"] (defScope (inClass (top 10) 0)) := ⟨rfl, rfl, rfl, by decide +kernel, by decide +kernel, by decide +kernel, by decide +kernel⟩
def N_init_Job : List Str := ["self", "number", "hand", "road", "context"]
@[reducible] def b_init_Job : DV.S := (.cons (.sfl 0 19 (.var 1)) (.cons (.sfl 0 18 (.var 2)) (.cons (.sfl 0 17 (.var 3)) (.cons (.sfl 0 13 (.var 4)) .nil))))
theorem ck_init_Job : ckS nmX hcX N_init_Job b_init_Job (defScope (inClass (top 14) 0)) (defBody (inClass (top 14) 0)) = true := by decide +kernel
theorem sc_init_Job : FnScope N_init_Job ["self", "number", "hand", "road", "context"] (defScope (inClass (top 14) 0)) := ⟨rfl, rfl, rfl, by decide +kernel, by decide +kernel, by decide +kernel, by decide +kernel⟩
def N_init_Answer : List Str := ["self", "prime", "yes", "asked"]
@[reducible] def b_init_Answer : DV.S := (.cons (.sfl 0 21 (.var 1)) (.cons (.sfl 0 20 (.var 2)) (.cons (.sfl 0 9 (.var 3)) .nil)))
theorem ck_init_Answer : ckS nmX hcX N_init_Answer b_init_Answer (defScope (inClass (top 12) 0)) (defBody (inClass (top 12) 0)) = true := by decide +kernel
theorem sc_init_Answer : FnScope N_init_Answer ["self", "prime", "yes", "asked"] (defScope (inClass (top 12) 0)) := ⟨rfl, rfl, rfl, by decide +kernel, by decide +kernel, by decide +kernel, by decide +kernel⟩
def N_init_Plan : List Str := ["self", "holder", "certificate"]
@[reducible] def b_init_Plan : DV.S := (.cons (.sfl 0 23 (.var 1)) (.cons (.sfl 0 22 (.var 2)) .nil))
theorem ck_init_Plan : ckS nmX hcX N_init_Plan b_init_Plan (defScope (inClass (top 21) 0)) (defBody (inClass (top 21) 0)) = true := by decide +kernel
theorem sc_init_Plan : FnScope N_init_Plan ["self", "holder", "certificate"] (defScope (inClass (top 21) 0)) := ⟨rfl, rfl, rfl, by decide +kernel, by decide +kernel, by decide +kernel, by decide +kernel⟩
def N_init_Play : List Str := ["self", "road", "numbers", "worth"]
@[reducible] def b_init_Play : DV.S := (.cons (.sfl 0 17 (.var 1)) (.cons (.sfl 0 24 (.var 2)) (.cons (.sfl 0 10 (.var 3)) .nil)))
theorem ck_init_Play : ckS nmX hcX N_init_Play b_init_Play (defScope (inClass (top 23) 0)) (defBody (inClass (top 23) 0)) = true := by decide +kernel
theorem sc_init_Play : FnScope N_init_Play ["self", "road", "numbers", "worth"] (defScope (inClass (top 23) 0)) := ⟨rfl, rfl, rfl, by decide +kernel, by decide +kernel, by decide +kernel, by decide +kernel⟩
def N_init_Wrong : List Str := ["self", "told", "worth", "passed"]
@[reducible] def b_init_Wrong : DV.S := (.cons (.sfl 0 25 (.var 1)) (.cons (.sfl 0 10 (.var 2)) (.cons (.sfl 0 8 (.var 3)) .nil)))
theorem ck_init_Wrong : ckS nmX hcX N_init_Wrong b_init_Wrong (defScope (inClass (top 6) 0)) (defBody (inClass (top 6) 0)) = true := by decide +kernel
theorem sc_init_Wrong : FnScope N_init_Wrong ["self", "told", "worth", "passed"] (defScope (inClass (top 6) 0)) := ⟨rfl, rfl, rfl, by decide +kernel, by decide +kernel, by decide +kernel, by decide +kernel⟩
def N_init_Trial : List Str := ["self", "tolds", "refused"]
@[reducible] def b_init_Trial : DV.S := (.cons (.sfl 0 27 (.var 1)) (.cons (.sfl 0 26 (.var 2)) .nil))
theorem ck_init_Trial : ckS nmX hcX N_init_Trial b_init_Trial (defScope (inClass (top 16) 0)) (defBody (inClass (top 16) 0)) = true := by decide +kernel
theorem sc_init_Trial : FnScope N_init_Trial ["self", "tolds", "refused"] (defScope (inClass (top 16) 0)) := ⟨rfl, rfl, rfl, by decide +kernel, by decide +kernel, by decide +kernel, by decide +kernel⟩
def N_law_made : List Str := ["_law_k", "_law_row", "_law_told"]
@[reducible] def c_law_made_0 : DV.S := (.cons (.asg 2 (.make 0 (.cons (.ix (.var 1) (.int 0)) (.cons (.ix (.var 1) (.int 1)) (.cons (.ix (.var 1) (.int 2)) (.cons (.ix (.var 1) (.int 3)) (.cons (.ix (.var 1) (.int 4)) .nil))))))) .nil)
@[reducible] def c_law_made_1 : DV.S := (.cons (.asg 2 (.make 1 (.cons (.ix (.var 1) (.int 0)) (.cons (.ix (.var 1) (.int 1)) (.cons (.ix (.var 1) (.int 2)) (.cons (.ix (.var 1) (.int 3)) (.cons (.ix (.var 1) (.int 4)) .nil))))))) .nil)
@[reducible] def c_law_made_2 : DV.S := (.cons (.asg 2 (.make 2 (.cons (.ix (.var 1) (.int 0)) (.cons (.ix (.var 1) (.int 1)) (.cons (.ix (.var 1) (.int 2)) .nil))))) .nil)
@[reducible] def c_law_made_3 : DV.S := (.cons (.asg 2 (.make 3 (.cons (.ix (.var 1) (.int 0)) (.cons (.ix (.var 1) (.int 1)) (.cons (.ix (.var 1) (.int 2)) (.cons (.ix (.var 1) (.int 3)) .nil)))))) .nil)
@[reducible] def c_law_made_4 : DV.S := (.cons (.asg 2 (.make 4 (.cons (.ix (.var 1) (.int 0)) (.cons (.ix (.var 1) (.int 1)) .nil)))) .nil)
@[reducible] def c_law_made_5 : DV.S := (.cons (.asg 2 (.make 5 (.cons (.ix (.var 1) (.int 0)) (.cons (.ix (.var 1) (.int 1)) .nil)))) .nil)
@[reducible] def c_law_made_6 : DV.S := (.cons (.asg 2 (.make 6 (.cons (.ix (.var 1) (.int 0)) (.cons (.ix (.var 1) (.int 1)) (.cons (.ix (.var 1) (.int 2)) .nil))))) .nil)
@[reducible] def c_law_made_7 : DV.S := (.cons (.asg 2 (.make 7 (.cons (.ix (.var 1) (.int 0)) (.cons (.ix (.var 1) (.int 1)) (.cons (.ix (.var 1) (.int 2)) (.cons (.ix (.var 1) (.int 3)) .nil)))))) .nil)
@[reducible] def c_law_made_8 : DV.S := (.cons (.asg 2 (.make 8 (.cons (.ix (.var 1) (.int 0)) (.cons (.ix (.var 1) (.int 1)) (.cons (.ix (.var 1) (.int 2)) .nil))))) .nil)
@[reducible] def c_law_made_9 : DV.S := (.cons (.asg 2 (.make 9 (.cons (.ix (.var 1) (.int 0)) (.cons (.ix (.var 1) (.int 1)) .nil)))) .nil)
@[reducible] def c_law_made_10 : DV.S := (.cons (.asg 2 (.make 10 (.cons (.ix (.var 1) (.int 0)) (.cons (.ix (.var 1) (.int 1)) (.cons (.ix (.var 1) (.int 2)) .nil))))) .nil)
@[reducible] def c_law_made_11 : DV.S := (.cons (.asg 2 (.make 11 (.cons (.ix (.var 1) (.int 0)) (.cons (.ix (.var 1) (.int 1)) (.cons (.ix (.var 1) (.int 2)) .nil))))) .nil)
@[reducible] def c_law_made_12 : DV.S := (.cons (.asg 2 (.make 12 (.cons (.ix (.var 1) (.int 0)) (.cons (.ix (.var 1) (.int 1)) .nil)))) .nil)
@[reducible] def c_law_made_13 : DV.S := (.cons (.asg 2 .non) .nil)
@[reducible] def c_law_made_14 : DV.S := (.cons (.ite (.cmp .eq (.var 0) (.int 12)) c_law_made_12 c_law_made_13) .nil)
@[reducible] def c_law_made_15 : DV.S := (.cons (.ite (.cmp .eq (.var 0) (.int 11)) c_law_made_11 c_law_made_14) .nil)
@[reducible] def c_law_made_16 : DV.S := (.cons (.ite (.cmp .eq (.var 0) (.int 10)) c_law_made_10 c_law_made_15) .nil)
@[reducible] def c_law_made_17 : DV.S := (.cons (.ite (.cmp .eq (.var 0) (.int 9)) c_law_made_9 c_law_made_16) .nil)
@[reducible] def c_law_made_18 : DV.S := (.cons (.ite (.cmp .eq (.var 0) (.int 8)) c_law_made_8 c_law_made_17) .nil)
@[reducible] def c_law_made_19 : DV.S := (.cons (.ite (.cmp .eq (.var 0) (.int 7)) c_law_made_7 c_law_made_18) .nil)
@[reducible] def c_law_made_20 : DV.S := (.cons (.ite (.cmp .eq (.var 0) (.int 6)) c_law_made_6 c_law_made_19) .nil)
@[reducible] def c_law_made_21 : DV.S := (.cons (.ite (.cmp .eq (.var 0) (.int 5)) c_law_made_5 c_law_made_20) .nil)
@[reducible] def c_law_made_22 : DV.S := (.cons (.ite (.cmp .eq (.var 0) (.int 4)) c_law_made_4 c_law_made_21) .nil)
@[reducible] def c_law_made_23 : DV.S := (.cons (.ite (.cmp .eq (.var 0) (.int 3)) c_law_made_3 c_law_made_22) .nil)
@[reducible] def c_law_made_24 : DV.S := (.cons (.ite (.cmp .eq (.var 0) (.int 2)) c_law_made_2 c_law_made_23) .nil)
@[reducible] def c_law_made_25 : DV.S := (.cons (.ite (.cmp .eq (.var 0) (.int 1)) c_law_made_1 c_law_made_24) .nil)
@[reducible] def b_law_made : DV.S := (.cons (.ite (.cmp .eq (.var 0) (.int 0)) c_law_made_0 c_law_made_25) (.cons (.ret (.var 2)) .nil))
theorem ck_law_made : ckS nmX hcX N_law_made b_law_made (defScope (top 29)) (defBody (top 29)) = true := by decide +kernel
theorem sc_law_made : FnScope N_law_made ["_law_k", "_law_row"] (defScope (top 29)) := ⟨rfl, rfl, rfl, by decide +kernel, by decide +kernel, by decide +kernel, by decide +kernel⟩
def N_law_many : List Str := ["_law_k"]
@[reducible] def b_law_many : DV.S := (.cons (.ret (.ix (.lst (.cons (.int 5) (.cons (.int 5) (.cons (.int 3) (.cons (.int 4) (.cons (.int 2) (.cons (.int 2) (.cons (.int 3) (.cons (.int 4) (.cons (.int 3) (.cons (.int 2) (.cons (.int 3) (.cons (.int 3) (.cons (.int 2) .nil)))))))))))))) (.var 0))) .nil)
theorem ck_law_many : ckS nmX hcX N_law_many b_law_many (defScope (top 31)) (defBody (top 31)) = true := by decide +kernel
theorem sc_law_many : FnScope N_law_many ["_law_k"] (defScope (top 31)) := ⟨rfl, rfl, rfl, by decide +kernel, by decide +kernel, by decide +kernel, by decide +kernel⟩
def N_law_mixed : List Str := ["_law_number", "_law_turn", "_law_once", "_law_twice"]
@[reducible] def b_law_mixed : DV.S := (.cons (.asg 2 (.bin .mod (.bf .int (.cons (.bin .add (.bin .add (.bin .mul (.var 0) (.int 40014)) (.bin .mul (.var 1) (.int 7907))) (.int 60013)) .nil)) (.int 2147483399))) (.cons (.asg 3 (.bin .mod (.bf .int (.cons (.bin .add (.bin .add (.bin .mul (.var 2) (.var 2)) (.bin .mul (.var 1) (.int 90031))) (.bin .fdiv (.var 2) (.int 139))) .nil)) (.int 2147483629))) (.cons (.ret (.bin .fdiv (.bf .int (.cons (.bin .mod (.bf .int (.cons (.bin .add (.bin .mul (.var 3) (.int 68111)) (.bin .fdiv (.var 2) (.int 13))) .nil)) (.int 2147483587)) .nil)) (.int 64))) .nil)))
theorem ck_law_mixed : ckS nmX hcX N_law_mixed b_law_mixed (defScope (top 26)) (defBody (top 26)) = true := by decide +kernel
theorem sc_law_mixed : FnScope N_law_mixed ["_law_number", "_law_turn"] (defScope (top 26)) := ⟨rfl, rfl, rfl, by decide +kernel, by decide +kernel, by decide +kernel, by decide +kernel⟩
-- not here: law_take 
def N_law_fields : List Str := ["_law_k", "_law_told"]
@[reducible] def c_law_fields_0 : DV.S := (.cons (.ret (.lst (.cons (.fld (.var 1) 27) (.cons (.fld (.var 1) 26) .nil)))) .nil)
@[reducible] def c_law_fields_1 : DV.S := (.cons (.ret (.lst (.cons (.fld (.var 1) 25) (.cons (.fld (.var 1) 10) (.cons (.fld (.var 1) 8) .nil))))) .nil)
@[reducible] def c_law_fields_2 : DV.S := (.cons (.ret (.lst (.cons (.fld (.var 1) 17) (.cons (.fld (.var 1) 24) (.cons (.fld (.var 1) 10) .nil))))) .nil)
@[reducible] def c_law_fields_3 : DV.S := (.cons (.ret (.lst (.cons (.fld (.var 1) 23) (.cons (.fld (.var 1) 22) .nil)))) .nil)
@[reducible] def c_law_fields_4 : DV.S := (.cons (.ret (.lst (.cons (.fld (.var 1) 21) (.cons (.fld (.var 1) 20) (.cons (.fld (.var 1) 9) .nil))))) .nil)
@[reducible] def c_law_fields_5 : DV.S := (.cons (.ret (.lst (.cons (.fld (.var 1) 19) (.cons (.fld (.var 1) 18) (.cons (.fld (.var 1) 17) (.cons (.fld (.var 1) 13) .nil)))))) .nil)
@[reducible] def c_law_fields_6 : DV.S := (.cons (.ret (.lst (.cons (.fld (.var 1) 10) (.cons (.fld (.var 1) 9) (.cons (.fld (.var 1) 16) .nil))))) .nil)
@[reducible] def c_law_fields_7 : DV.S := (.cons (.ret (.lst (.cons (.fld (.var 1) 9) (.cons (.fld (.var 1) 15) .nil)))) .nil)
@[reducible] def c_law_fields_8 : DV.S := (.cons (.ret (.lst (.cons (.fld (.var 1) 14) (.cons (.fld (.var 1) 13) .nil)))) .nil)
@[reducible] def c_law_fields_9 : DV.S := (.cons (.ret (.lst (.cons (.fld (.var 1) 4) (.cons (.fld (.var 1) 0) (.cons (.fld (.var 1) 12) (.cons (.fld (.var 1) 11) .nil)))))) .nil)
@[reducible] def c_law_fields_10 : DV.S := (.cons (.ret (.lst (.cons (.fld (.var 1) 10) (.cons (.fld (.var 1) 9) (.cons (.fld (.var 1) 8) .nil))))) .nil)
@[reducible] def c_law_fields_11 : DV.S := (.cons (.ret (.lst (.cons (.fld (.var 1) 4) (.cons (.fld (.var 1) 7) (.cons (.fld (.var 1) 6) (.cons (.fld (.var 1) 5) (.cons (.fld (.var 1) 0) .nil))))))) .nil)
@[reducible] def c_law_fields_12 : DV.S := (.cons (.ret (.lst (.cons (.fld (.var 1) 4) (.cons (.fld (.var 1) 3) (.cons (.fld (.var 1) 2) (.cons (.fld (.var 1) 1) (.cons (.fld (.var 1) 0) .nil))))))) .nil)
@[reducible] def b_law_fields : DV.S := (.cons (.ite (.cmp .eq (.var 0) (.int 0)) c_law_fields_12 .nil) (.cons (.ite (.cmp .eq (.var 0) (.int 1)) c_law_fields_11 .nil) (.cons (.ite (.cmp .eq (.var 0) (.int 2)) c_law_fields_10 .nil) (.cons (.ite (.cmp .eq (.var 0) (.int 3)) c_law_fields_9 .nil) (.cons (.ite (.cmp .eq (.var 0) (.int 4)) c_law_fields_8 .nil) (.cons (.ite (.cmp .eq (.var 0) (.int 5)) c_law_fields_7 .nil) (.cons (.ite (.cmp .eq (.var 0) (.int 6)) c_law_fields_6 .nil) (.cons (.ite (.cmp .eq (.var 0) (.int 7)) c_law_fields_5 .nil) (.cons (.ite (.cmp .eq (.var 0) (.int 8)) c_law_fields_4 .nil) (.cons (.ite (.cmp .eq (.var 0) (.int 9)) c_law_fields_3 .nil) (.cons (.ite (.cmp .eq (.var 0) (.int 10)) c_law_fields_2 .nil) (.cons (.ite (.cmp .eq (.var 0) (.int 11)) c_law_fields_1 .nil) (.cons (.ite (.cmp .eq (.var 0) (.int 12)) c_law_fields_0 .nil) (.cons (.ret (.lst .nil)) .nil))))))))))))))
theorem ck_law_fields : ckS nmX hcX N_law_fields b_law_fields (defScope (top 30)) (defBody (top 30)) = true := by decide +kernel
theorem sc_law_fields : FnScope N_law_fields ["_law_k", "_law_told"] (defScope (top 30)) := ⟨rfl, rfl, rfl, by decide +kernel, by decide +kernel, by decide +kernel, by decide +kernel⟩
def N_law_thing : List Str := ["_law_hand_here", "_law_way"]
@[reducible] def c_law_thing_0 : DV.S := (.cons (.ret (.tup (.cons (.call 2 (.cons (.var 0) (.cons (.int 9) .nil))) (.cons (.tup (.cons (.call 2 (.cons (.var 0) (.cons (.int 9) .nil))) (.cons (.str "x") .nil))) .nil)))) .nil)
@[reducible] def c_law_thing_1 : DV.S := (.cons (.ret (.bin .add (.str "word") (.bf .str (.cons (.call 2 (.cons (.var 0) (.cons (.int 1000) .nil))) .nil)))) .nil)
@[reducible] def c_law_thing_2 : DV.S := (.cons (.ret (.call 2 (.cons (.var 0) (.cons (.bin .pow (.int 10) (.int 31)) .nil)))) .nil)
@[reducible] def b_law_thing : DV.S := (.cons (.asg 1 (.call 2 (.cons (.var 0) (.cons (.int 4) .nil)))) (.cons (.ite (.cmp .eq (.var 1) (.int 0)) c_law_thing_2 .nil) (.cons (.ite (.cmp .eq (.var 1) (.int 1)) c_law_thing_1 .nil) (.cons (.ite (.cmp .eq (.var 1) (.int 2)) c_law_thing_0 .nil) (.cons (.ret .non) .nil)))))
theorem ck_law_thing : ckS nmX hcX N_law_thing b_law_thing (defScope (top 28)) (defBody (top 28)) = true := by decide +kernel
theorem sc_law_thing : FnScope N_law_thing ["_law_hand_here"] (defScope (top 28)) := ⟨rfl, rfl, rfl, by decide +kernel, by decide +kernel, by decide +kernel, by decide +kernel⟩
def N_m_Found___eq__ : List Str := ["self", "other"]
@[reducible] def b_m_Found___eq__ : DV.S := (.cons (.ret (.and (.isc (.var 1) 2) (.and (.cmp .eq (.fld (.var 0) 10) (.fld (.var 1) 10)) (.and (.cmp .eq (.fld (.var 0) 9) (.fld (.var 1) 9)) (.cmp .eq (.fld (.var 0) 8) (.fld (.var 1) 8)))))) .nil)
theorem ck_m_Found___eq__ : ckS nmX hcX N_m_Found___eq__ b_m_Found___eq__ (defScope (inClass (top 1) 1)) (defBody (inClass (top 1) 1)) = true := by decide +kernel
theorem sc_m_Found___eq__ : FnScope N_m_Found___eq__ ["self", "other"] (defScope (inClass (top 1) 1)) := ⟨rfl, rfl, rfl, by decide +kernel, by decide +kernel, by decide +kernel, by decide +kernel⟩
def N_m_Pentagon___eq__ : List Str := ["self", "other"]
@[reducible] def b_m_Pentagon___eq__ : DV.S := (.cons (.ret (.and (.isc (.var 1) 0) (.and (.cmp .eq (.fld (.var 0) 4) (.fld (.var 1) 4)) (.and (.cmp .eq (.fld (.var 0) 3) (.fld (.var 1) 3)) (.and (.cmp .eq (.fld (.var 0) 2) (.fld (.var 1) 2)) (.and (.cmp .eq (.fld (.var 0) 1) (.fld (.var 1) 1)) (.cmp .eq (.fld (.var 0) 0) (.fld (.var 1) 0)))))))) .nil)
theorem ck_m_Pentagon___eq__ : ckS nmX hcX N_m_Pentagon___eq__ b_m_Pentagon___eq__ (defScope (inClass (top 3) 1)) (defBody (inClass (top 3) 1)) = true := by decide +kernel
theorem sc_m_Pentagon___eq__ : FnScope N_m_Pentagon___eq__ ["self", "other"] (defScope (inClass (top 3) 1)) := ⟨rfl, rfl, rfl, by decide +kernel, by decide +kernel, by decide +kernel, by decide +kernel⟩
def N_m_Diamond___eq__ : List Str := ["self", "other"]
@[reducible] def b_m_Diamond___eq__ : DV.S := (.cons (.ret (.and (.isc (.var 1) 1) (.and (.cmp .eq (.fld (.var 0) 4) (.fld (.var 1) 4)) (.and (.cmp .eq (.fld (.var 0) 7) (.fld (.var 1) 7)) (.and (.cmp .eq (.fld (.var 0) 6) (.fld (.var 1) 6)) (.and (.cmp .eq (.fld (.var 0) 5) (.fld (.var 1) 5)) (.cmp .eq (.fld (.var 0) 0) (.fld (.var 1) 0)))))))) .nil)
theorem ck_m_Diamond___eq__ : ckS nmX hcX N_m_Diamond___eq__ b_m_Diamond___eq__ (defScope (inClass (top 4) 1)) (defBody (inClass (top 4) 1)) = true := by decide +kernel
theorem sc_m_Diamond___eq__ : FnScope N_m_Diamond___eq__ ["self", "other"] (defScope (inClass (top 4) 1)) := ⟨rfl, rfl, rfl, by decide +kernel, by decide +kernel, by decide +kernel, by decide +kernel⟩
def N_m_Wrong___eq__ : List Str := ["self", "other"]
@[reducible] def c_m_Wrong___eq___0 : DV.S := (.cons (.ret (.bl false)) .nil)
@[reducible] def b_m_Wrong___eq__ : DV.S := (.cons (.ite (.not (.isc (.var 1) 11)) c_m_Wrong___eq___0 .nil) (.cons (.ret (.and (.cmp .eq (.fld (.var 0) 25) (.fld (.var 1) 25)) (.and (.cmp .eq (.fld (.var 0) 10) (.fld (.var 1) 10)) (.cmp .eq (.fld (.var 0) 8) (.fld (.var 1) 8))))) .nil))
theorem ck_m_Wrong___eq__ : ckS nmX hcX N_m_Wrong___eq__ b_m_Wrong___eq__ (defScope (inClass (top 6) 1)) (defBody (inClass (top 6) 1)) = true := by decide +kernel
theorem sc_m_Wrong___eq__ : FnScope N_m_Wrong___eq__ ["self", "other"] (defScope (inClass (top 6) 1)) := ⟨rfl, rfl, rfl, by decide +kernel, by decide +kernel, by decide +kernel, by decide +kernel⟩
def N_m_Within___eq__ : List Str := ["self", "other"]
@[reducible] def b_m_Within___eq__ : DV.S := (.cons (.ret (.and (.isc (.var 1) 5) (.and (.cmp .eq (.fld (.var 0) 9) (.fld (.var 1) 9)) (.cmp .eq (.fld (.var 0) 15) (.fld (.var 1) 15))))) .nil)
theorem ck_m_Within___eq__ : ckS nmX hcX N_m_Within___eq__ b_m_Within___eq__ (defScope (inClass (top 8) 1)) (defBody (inClass (top 8) 1)) = true := by decide +kernel
theorem sc_m_Within___eq__ : FnScope N_m_Within___eq__ ["self", "other"] (defScope (inClass (top 8) 1)) := ⟨rfl, rfl, rfl, by decide +kernel, by decide +kernel, by decide +kernel, by decide +kernel⟩
def N_m_Looked___eq__ : List Str := ["self", "other"]
@[reducible] def c_m_Looked___eq___0 : DV.S := (.cons (.ret (.bl false)) .nil)
@[reducible] def b_m_Looked___eq__ : DV.S := (.cons (.ite (.not (.isc (.var 1) 6)) c_m_Looked___eq___0 .nil) (.cons (.ret (.and (.cmp .eq (.fld (.var 0) 10) (.fld (.var 1) 10)) (.and (.cmp .eq (.fld (.var 0) 9) (.fld (.var 1) 9)) (.cmp .eq (.fld (.var 0) 16) (.fld (.var 1) 16))))) .nil))
theorem ck_m_Looked___eq__ : ckS nmX hcX N_m_Looked___eq__ b_m_Looked___eq__ (defScope (inClass (top 10) 1)) (defBody (inClass (top 10) 1)) = true := by decide +kernel
theorem sc_m_Looked___eq__ : FnScope N_m_Looked___eq__ ["self", "other"] (defScope (inClass (top 10) 1)) := ⟨rfl, rfl, rfl, by decide +kernel, by decide +kernel, by decide +kernel, by decide +kernel⟩
def N_m_Answer___eq__ : List Str := ["self", "other"]
@[reducible] def c_m_Answer___eq___0 : DV.S := (.cons (.ret (.bl false)) .nil)
@[reducible] def b_m_Answer___eq__ : DV.S := (.cons (.ite (.not (.isc (.var 1) 8)) c_m_Answer___eq___0 .nil) (.cons (.ret (.and (.cmp .eq (.fld (.var 0) 21) (.fld (.var 1) 21)) (.and (.cmp .eq (.fld (.var 0) 20) (.fld (.var 1) 20)) (.cmp .eq (.fld (.var 0) 9) (.fld (.var 1) 9))))) .nil))
theorem ck_m_Answer___eq__ : ckS nmX hcX N_m_Answer___eq__ b_m_Answer___eq__ (defScope (inClass (top 12) 1)) (defBody (inClass (top 12) 1)) = true := by decide +kernel
theorem sc_m_Answer___eq__ : FnScope N_m_Answer___eq__ ["self", "other"] (defScope (inClass (top 12) 1)) := ⟨rfl, rfl, rfl, by decide +kernel, by decide +kernel, by decide +kernel, by decide +kernel⟩
def N_m_Job___eq__ : List Str := ["self", "other"]
@[reducible] def c_m_Job___eq___0 : DV.S := (.cons (.ret (.bl false)) .nil)
@[reducible] def c_m_Job___eq___1 : DV.S := (.cons (.ret (.bl false)) .nil)
@[reducible] def b_m_Job___eq__ : DV.S := (.cons (.ite (.not (.isc (.var 1) 7)) c_m_Job___eq___1 .nil) (.cons (.ite (.or (.cmp .ne (.fld (.var 0) 19) (.fld (.var 1) 19)) (.cmp .ne (.fld (.var 0) 18) (.fld (.var 1) 18))) c_m_Job___eq___0 .nil) (.cons (.ret (.and (.cmp .eq (.fld (.var 0) 17) (.fld (.var 1) 17)) (.cmp .eq (.fld (.var 0) 13) (.fld (.var 1) 13)))) .nil)))
theorem ck_m_Job___eq__ : ckS nmX hcX N_m_Job___eq__ b_m_Job___eq__ (defScope (inClass (top 14) 1)) (defBody (inClass (top 14) 1)) = true := by decide +kernel
theorem sc_m_Job___eq__ : FnScope N_m_Job___eq__ ["self", "other"] (defScope (inClass (top 14) 1)) := ⟨rfl, rfl, rfl, by decide +kernel, by decide +kernel, by decide +kernel, by decide +kernel⟩
def N_m_Trial___eq__ : List Str := ["self", "other"]
@[reducible] def b_m_Trial___eq__ : DV.S := (.cons (.ret (.and (.isc (.var 1) 12) (.and (.cmp .eq (.fld (.var 0) 27) (.fld (.var 1) 27)) (.cmp .eq (.fld (.var 0) 26) (.fld (.var 1) 26))))) .nil)
theorem ck_m_Trial___eq__ : ckS nmX hcX N_m_Trial___eq__ b_m_Trial___eq__ (defScope (inClass (top 16) 1)) (defBody (inClass (top 16) 1)) = true := by decide +kernel
theorem sc_m_Trial___eq__ : FnScope N_m_Trial___eq__ ["self", "other"] (defScope (inClass (top 16) 1)) := ⟨rfl, rfl, rfl, by decide +kernel, by decide +kernel, by decide +kernel, by decide +kernel⟩
def N_m_Doubt___eq__ : List Str := ["self", "other"]
@[reducible] def b_m_Doubt___eq__ : DV.S := (.cons (.ret (.and (.isc (.var 1) 3) (.and (.cmp .eq (.fld (.var 0) 4) (.fld (.var 1) 4)) (.and (.cmp .eq (.fld (.var 0) 0) (.fld (.var 1) 0)) (.and (.cmp .eq (.fld (.var 0) 12) (.fld (.var 1) 12)) (.cmp .eq (.fld (.var 0) 11) (.fld (.var 1) 11))))))) .nil)
theorem ck_m_Doubt___eq__ : ckS nmX hcX N_m_Doubt___eq__ b_m_Doubt___eq__ (defScope (inClass (top 18) 1)) (defBody (inClass (top 18) 1)) = true := by decide +kernel
theorem sc_m_Doubt___eq__ : FnScope N_m_Doubt___eq__ ["self", "other"] (defScope (inClass (top 18) 1)) := ⟨rfl, rfl, rfl, by decide +kernel, by decide +kernel, by decide +kernel, by decide +kernel⟩
def N_m_Passing___eq__ : List Str := ["self", "other"]
@[reducible] def b_m_Passing___eq__ : DV.S := (.cons (.ret (.and (.isc (.var 1) 4) (.and (.cmp .eq (.fld (.var 0) 14) (.fld (.var 1) 14)) (.cmp .eq (.fld (.var 0) 13) (.fld (.var 1) 13))))) .nil)
theorem ck_m_Passing___eq__ : ckS nmX hcX N_m_Passing___eq__ b_m_Passing___eq__ (defScope (inClass (top 19) 1)) (defBody (inClass (top 19) 1)) = true := by decide +kernel
theorem sc_m_Passing___eq__ : FnScope N_m_Passing___eq__ ["self", "other"] (defScope (inClass (top 19) 1)) := ⟨rfl, rfl, rfl, by decide +kernel, by decide +kernel, by decide +kernel, by decide +kernel⟩
def N_m_Plan___eq__ : List Str := ["self", "other"]
@[reducible] def b_m_Plan___eq__ : DV.S := (.cons (.ret (.and (.isc (.var 1) 9) (.and (.cmp .eq (.fld (.var 0) 23) (.fld (.var 1) 23)) (.cmp .eq (.fld (.var 0) 22) (.fld (.var 1) 22))))) .nil)
theorem ck_m_Plan___eq__ : ckS nmX hcX N_m_Plan___eq__ b_m_Plan___eq__ (defScope (inClass (top 21) 1)) (defBody (inClass (top 21) 1)) = true := by decide +kernel
theorem sc_m_Plan___eq__ : FnScope N_m_Plan___eq__ ["self", "other"] (defScope (inClass (top 21) 1)) := ⟨rfl, rfl, rfl, by decide +kernel, by decide +kernel, by decide +kernel, by decide +kernel⟩
def N_m_Play___eq__ : List Str := ["self", "other"]
@[reducible] def c_m_Play___eq___0 : DV.S := (.cons (.ret (.bl false)) .nil)
@[reducible] def b_m_Play___eq__ : DV.S := (.cons (.ite (.not (.isc (.var 1) 10)) c_m_Play___eq___0 .nil) (.cons (.ret (.and (.cmp .eq (.fld (.var 0) 17) (.fld (.var 1) 17)) (.and (.cmp .eq (.fld (.var 0) 24) (.fld (.var 1) 24)) (.cmp .eq (.fld (.var 0) 10) (.fld (.var 1) 10))))) .nil))
theorem ck_m_Play___eq__ : ckS nmX hcX N_m_Play___eq__ b_m_Play___eq__ (defScope (inClass (top 23) 1)) (defBody (inClass (top 23) 1)) = true := by decide +kernel
theorem sc_m_Play___eq__ : FnScope N_m_Play___eq__ ["self", "other"] (defScope (inClass (top 23) 1)) := ⟨rfl, rfl, rfl, by decide +kernel, by decide +kernel, by decide +kernel, by decide +kernel⟩
def N_law : List Str := ["_law_script", "_law_hand_here", "_law_k", "_law_row", "_law_told", "_law_twin", "_law_other", "_law_at", "_law_far", "_law_j"]
@[reducible] def c_law_0 : DV.S := (.cons (.ret (.bl false)) .nil)
@[reducible] def c_law_1 : DV.S := (.cons (.ite (.and (.cmp .ne (.var 8) (.var 2)) (.eqi 0 (.var 4) (.call 0 (.cons (.var 8) (.cons (.var 3) .nil))))) c_law_0 .nil) .nil)
@[reducible] def c_law_2 : DV.S := (.cons (.ret (.bl false)) .nil)
@[reducible] def c_law_3 : DV.S := (.cons (.ret (.bl false)) .nil)
@[reducible] def c_law_4 : DV.S := (.cons (.asg 3 (.comp [9] false (.rng1 (.int 5)) .yes (.call 4 (.cons (.var 1) .nil)))) (.cons (.asg 4 (.call 0 (.cons (.var 2) (.cons (.var 3) .nil)))) (.cons (.asg 5 (.call 0 (.cons (.var 2) (.cons (.bf .list (.cons (.var 3) .nil)) .nil)))) (.cons (.ite (.or (.cmp .ne (.call 3 (.cons (.var 2) (.cons (.var 4) .nil))) (.sl (.var 3) .yes (.call 1 (.cons (.var 2) .nil)))) (.not (.eqi 0 (.var 4) (.var 5)))) c_law_3 .nil) (.cons (.own 6 (.bf .list (.cons (.var 3) .nil))) (.cons (.asg 7 (.call 2 (.cons (.var 1) (.cons (.call 1 (.cons (.var 2) .nil)) .nil)))) (.cons (.six 6 (.var 7) (.tup (.cons (.ix (.var 3) (.var 7)) (.cons (.str "more") .nil)))) (.frz 6 (.cons (.ite (.or (.eqi 0 (.var 4) (.call 0 (.cons (.var 2) (.cons (.var 6) .nil)))) (.or (.eqi 0 (.var 4) (.bf .tuple (.cons (.sl (.var 3) .yes (.call 1 (.cons (.var 2) .nil))) .nil))) (.or (.eqi 0 (.var 4) (.str "None")) (.eqi 0 (.var 4) (.ix (.var 3) (.int 0)))))) c_law_2 .nil) (.cons (.for_ [8] false (.rng1 (.int 13)) c_law_1) .nil))))))))))
@[reducible] def b_law : DV.S := (.cons (.for_ [2] false (.rng1 (.int 13)) c_law_4) (.cons (.ret (.bl true)) .nil))
theorem ck_law : ckS nmX hcX N_law b_law (defScope (top 32)) ((defBody (top 32)).drop 1) = true := by decide +kernel
theorem sc_law : FnScope N_law ["_law_script"] (defScope (top 32)) := ⟨rfl, rfl, rfl, by decide +kernel, by decide +kernel, by decide +kernel, by decide +kernel⟩
end Lw
namespace Lw
open PySem PySem.Spec PyProof.Rows L2 DV
def nT : List Str := ["_law_hand_here", "_law_many_here", "_law_cell", "_law_rest"]
theorem sc_take : FnScope nT ["_law_hand_here", "_law_many_here"] (defScope (top 27)) := ⟨rfl, rfl, rfl, by decide +kernel, by decide +kernel, by decide +kernel, by decide +kernel⟩
theorem ok_take {P : Program} {w : World} {K : PySem.W.Frag} {mg : Str → Option Value} {base : Heap} {ca : Ca} {fl : Nat → Str} {f : Addr} {fd : FuncData} {mixW : List D → W D} (F : Fun K "_law_take" "_law_take" (top 27) f fd) (M : FnE0 P w K mg base ca fl 1 "_law_mixed" 2 mixW) (hM : mixOk mixW) (zl : mg "len" = none) (zi : mg "int" = none) :
    FnOk P w K mg base (L2.CX P w) 2 f fd ["_law_hand_here", "_law_many_here"] (SpOf ⟨K, ca, fl⟩ 2 takeW) := by
  obtain ⟨fM, fdM, psM, jM, hj, hps, GM, gM, kM, bM⟩ := M
  refine F.okX sc_take (fun vs H Q E q => ?_) fun cdv A outer s H vs Q E hr q => ?_
  · obtain ⟨F, hd, ds, _, _, h1, _, h2, _⟩ := q
    rw [h2.length, h1]; rfl
  · obtain ⟨F, hd, ds, Qd, Ed, h1, wf, h3, h4, h5, h6⟩ := q
    have hr1 : Room 1 _ := hr
    cases h3 with
    | nil => simp at h1
    | cons d0 t0 =>
      cases t0 with
      | nil => simp at h1
      | cons d1 t1 =>
        cases t1 with
        | cons _ _ => simp at h1
        | nil =>
          rename_i v0 x0 v1 x1
          cases x0 <;> first | exact h4.elim | skip
          cases x1 <;> first | exact h4.elim | skip
          rename_i n
          cases d1.intI
          obtain ⟨n0, n1, h4⟩ := h4
          cases d0 with
          | hand e =>
            rename_i h
            have out : ∀ (z : Int) (F' : AP) (H' : Hp), Ev hd H H' F F' → Q (.int (z % n)) H' := fun z F' H' e' => h5 F' H' _ (.int (z % n)) e' (.int _) (h4 _ (Int.emod_nonneg _ (by omega)) (Int.emod_lt_of_pos _ n0))
            have call : ∀ {H1 : Hp} {F1 : AP} (a b : Int) (Q' : VK) (E' : XK), Ev hd H H1 F F1 → (∀ (z : Int) (F' : AP) (H' : Hp), Ev hd H H' F F' → Q' (.int z) H') → SpOf ⟨K, ca, fl⟩ 2 mixW [.int a, .int b] H1 Q' E' := fun {H1 F1} a b Q' E' ev k => by
              refine ⟨F1, hd, [.int a, .int b], fun d => ∃ z, d = .int z, fun _ => False, rfl, ev.wf, .cons (.int _) (.cons (.int _) .nil), hM a b _ _ fun z => ⟨z, rfl⟩, fun F' H' u d e2 hd2 hq => ?_, fun _ _ _ _ _ _ _ z => z.elim⟩
              obtain ⟨z, rfl⟩ := hq
              cases hd2.intI
              exact k z F' H' (ev.trans wf e2)
            obtain ⟨tR, hR, kR⟩ : ∃ t, PSs (cxOf (L2.CX P w) P w K mg base nT "_law_take" (defScope (top 27)) f cdv A outer s H E) ((defBody (top 27)).drop 1) t ∧ ∀ (H1 : Hp) (x : Option V) (c : Addr) (cells : List Int) (p r m : Int), Ev hd H H1 F F → H1 h = some (.lst [.ref c, .int p, .int r, .int m]) → F c → H1 c = some (.lst (cells.map V.int)) → cells.length ≤ 63 → (∀ z ∈ cells, 0 ≤ z) → 0 ≤ p → p ≤ 63 → 0 ≤ r → 0 ≤ m → m < 2 ^ 31 →
                t { nx := fun _ H' => Q .non H', rt := Q } [some (.ref h), some (.int n), x, none] H1 := by
              refine ⟨_, pss_cons (ps_if (pt_cmpR op_gt (pe_ix ix_list (pv 0) pe_int (fun _ _ => rfl)) pe_int (nomark _)) (pss_cons (ps_set (i := 3) sc_take.nd rfl (Or.inl rfl) (pe_ix ix_list (pv 0) pe_int (fun _ _ => rfl))) (pss_cons (ps_asg (pe_op op_fdivW (pe_callTy call_int1 (by rfl) zi PyProof.Rows.boot_int (pa_cons (pv 3) pa_nil)) (pv 1)) (pg_sub (pv 0) pe_int set_list)) (pss_one (ps_ret (pe_op op_mod (pe_callTy call_int1 (by rfl) zi PyProof.Rows.boot_int (pa_cons (pv 3) pa_nil)) (pv 1)))))) pss_nil) (pss_cons (ps_asg (pe_op op_mod (pe_callTy call_int1 (by rfl) zi PyProof.Rows.boot_int (pa_cons (pe_op op_add (pe_ix ix_list (pv 0) pe_int (fun _ _ => rfl)) pe_int) pa_nil)) pe_int) (pg_sub (pv 0) pe_int set_list)) (pss_one (ps_ret (pe_op op_mod (pe_callTy call_int1 (by rfl) zi PyProof.Rows.boot_int (pa_cons (pe_callS GM (hr1.mono hj) (by rfl) gM kM bM (fun σ => passAt (takes_of rfl rfl rfl rfl) σ) (pa_cons (pe_ix ix_list (pv 0) pe_int (fun _ _ => rfl)) (pa_cons (pe_ix ix_list (pv 0) pe_int (fun _ _ => rfl)) pa_nil))) pa_nil)) (pv 1))))), ?_⟩
              intro H1 x c cells p r m ev hh fc hc l hz p0 p1 r0 m0 m1
              refine ⟨.ref h, rfl, _, _, _, _, rfl, rfl, SqL.of hh, rfl, _, _, rfl, rfl, _, rfl, ?_⟩
              refine ite2 (fun hr => ?_) (fun hr => ?_)
              · have hrp : 0 < r := of_decide_eq_true hr
                refine ⟨.ref h, rfl, _, _, _, _, rfl, rfl, SqL.of hh, rfl, .int r, rfl, .inl ⟨r, rfl, .int n, rfl, r, n, rfl, rfl, ⟨n0, n1⟩, .ref h, rfl, _, _, _, _, rfl, rfl, hh, rfl, ?_⟩⟩
                have ev2 : Ev hd H (upd H1 h (.lst [.ref c, .int p, .int (r / n), .int m])) F F := ev.trans wf (ev_hand ev.wf e hh fc hc l hz ⟨p0, p1, Int.ediv_nonneg r0 (by omega), m0, m1⟩)
                exact ⟨.int r, rfl, .inl ⟨r, rfl, .int n, rfl, r, n, rfl, rfl, n0, out r F _ ev2⟩⟩
              · refine ⟨.ref h, rfl, _, _, _, _, rfl, rfl, SqL.of hh, rfl, m, 1, rfl, rfl, .inl ⟨m + 1, rfl, m + 1, _, rfl, rfl, (by show (0 : Int) < _; decide), .ref h, rfl, _, _, _, _, rfl, rfl, hh, rfl, ?_⟩⟩
                have b1 := Int.emod_nonneg (m + 1) (show (2147483549 : Int) ≠ 0 by decide)
                have b2 := Int.emod_lt_of_pos (m + 1) (show (0 : Int) < 2147483549 by decide)
                have ev2 : Ev hd H (upd H1 h (.lst [.ref c, .int p, .int r, .int ((m + 1) % 2147483549)])) F F := ev.trans wf (ev_hand ev.wf e hh fc hc l hz ⟨p0, p1, r0, b1, by omega⟩)
                have hh2 : (upd H1 h (.lst [.ref c, .int p, .int r, .int ((m + 1) % 2147483549)])) h = some (.lst [.ref c, .int p, .int r, .int ((m + 1) % 2147483549)]) := upd_same
                exact ⟨.ref h, rfl, _, _, _, _, rfl, rfl, SqL.of hh2, rfl, .ref h, rfl, _, _, _, _, rfl, rfl, SqL.of hh2, rfl, call _ _ _ _ ev2 fun z F' H' e' => .inl ⟨z, rfl, .int n, rfl, z, n, rfl, rfl, n0, out z F' H' e'⟩⟩
            obtain ⟨c, cells, p, r, m, hh, fc, hc, l, hz, p0, p1, r0, m0, m1⟩ := wf.ho h e
            have nch : c ≠ h := fun z => wf.nh c fc (by rw [z]; exact e)
            refine ⟨_, pss_cons (ps_if (PW.pt (pw_and (pt_cmpR op_eq (pe_ix ix_list (pv 0) pe_int (fun _ _ => rfl)) pe_int (nomark _)) (pw_and1 (pt_cmpR op_lt (pe_ix ix_list (pv 0) pe_int (fun _ _ => rfl)) (pe_callB call_len_seq (by rfl) zl PySem.boot_len (pa_cons (pe_ix ix_list (pv 0) pe_int (fun _ _ => rfl)) pa_nil)) (nomark _))))) (pss_cons (ps_set (i := 2) sc_take.nd rfl (Or.inl rfl) (pe_ix ix_list (pe_ix ix_list (pv 0) pe_int (fun _ _ => rfl)) (pe_ix ix_list (pv 0) pe_int (fun _ _ => rfl)) (fun _ _ => rfl))) (pss_cons (ps_asg (pe_op op_add (pe_ix ix_list (pv 0) pe_int (fun _ _ => rfl)) pe_int) (pg_sub (pv 0) pe_int set_list)) (pss_cons (ps_if (pt_cmpR op_lt (pv 2) (pe_op op_pow pe_int pe_int) (nomark _)) (pss_one (ps_ret (pe_op op_mod (pe_callTy call_int1 (by rfl) zi PyProof.Rows.boot_int (pa_cons (pe_callS GM (hr1.mono hj) (by rfl) gM kM bM (fun σ => passAt (takes_of rfl rfl rfl rfl) σ) (pa_cons (pe_op op_mod (pe_callTy call_int1 (by rfl) zi PyProof.Rows.boot_int (pa_cons (pv 2) pa_nil)) pe_int) (pa_cons (pe_ix ix_list (pv 0) pe_int (fun _ _ => rfl)) pa_nil))) pa_nil)) (pv 1)))) pss_nil) (pss_one (ps_asg (pv 2) (pg_sub (pv 0) pe_int set_list)))))) pss_nil) hR, ?_⟩
            refine ⟨.ref h, rfl, _, _, _, _, rfl, rfl, SqL.of hh, rfl, rfl, _, rfl, ?_⟩
            refine ite2 (fun hr0 => ?_) (fun hr0 => iteF ?_)
            · refine ⟨.ref h, rfl, _, _, _, _, rfl, rfl, SqL.of hh, rfl, .ref h, rfl, _, _, _, _, rfl, rfl, SqL.of hh, rfl, _, _, rfl, .inl (SqL.of hc), _, _, rfl, rfl, _, rfl, ?_⟩
              refine ite2 (fun hp => ?_) (fun hp => ?_)
              · have hr0' : r = 0 := V.int.inj (of_decide_eq_true hr0)
                subst hr0'
                have hpl : p < ((cells.map V.int).length : Int) := of_decide_eq_true hp
                rw [List.length_map] at hpl
                have hz1 : cells[p.toNat]? = some cells[p.toNat] := List.getElem?_eq_getElem (by omega)
                have hat : atI (cells.map V.int) p = some (V.int cells[p.toNat]) := by
                  unfold atI ixN
                  rw [if_pos p0, List.length_map, if_pos hpl]
                  show (cells.map V.int)[p.toNat]? = _
                  rw [List.getElem?_map, hz1]; rfl
                have z0 : 0 ≤ cells[p.toNat] := hz _ (List.getElem_mem _)
                generalize cells[p.toNat] = z at hat z0
                refine ⟨.ref h, rfl, _, _, _, _, rfl, rfl, SqL.of hh, rfl, .ref h, rfl, _, _, _, _, rfl, rfl, SqL.of hh, rfl, _, _, _, _, rfl, rfl, SqL.of hc, hat, ?_⟩
                refine ⟨.ref h, rfl, _, _, _, _, rfl, rfl, SqL.of hh, rfl, p, 1, rfl, rfl, .ref h, rfl, _, _, _, _, rfl, rfl, hh, rfl, ?_⟩
                have ev1 : Ev hd H (upd H h (.lst [.ref c, .int (p + 1), .int 0, .int m])) F F := ev_hand wf e hh fc hc l hz ⟨by omega, by omega, Int.le_refl _, m0, m1⟩
                have hh1 : (upd H h (.lst [.ref c, .int (p + 1), .int 0, .int m])) h = some (.lst [.ref c, .int (p + 1), .int 0, .int m]) := upd_same
                have hc1 : (upd H h (.lst [.ref c, .int (p + 1), .int 0, .int m])) c = some (.lst (cells.map V.int)) := by rw [upd_ne nch]; exact hc
                refine ⟨.int z, rfl, 10, 18, rfl, rfl, ⟨by decide, by decide, by decide⟩, z, _, rfl, rfl, _, rfl, ?_⟩
                refine ite2 (fun _ => ?_) (fun _ => ?_)
                · exact ⟨.int z, rfl, .inl ⟨z, rfl, z, _, rfl, rfl, (by show (0 : Int) < _; decide), .ref h, rfl, _, _, _, _, rfl, rfl, SqL.of hh1, rfl, call _ _ _ _ ev1 fun z F' H' e' => .inl ⟨z, rfl, .int n, rfl, z, n, rfl, rfl, n0, out z F' H' e'⟩⟩⟩
                · refine ⟨.int z, rfl, .ref h, rfl, _, _, _, _, rfl, rfl, hh1, rfl, ?_⟩
                  have ev2 : Ev hd H (upd (upd H h (.lst [.ref c, .int (p + 1), .int 0, .int m])) h (.lst [.ref c, .int (p + 1), .int z, .int m])) F F := ev1.trans wf (ev_hand ev1.wf e hh1 fc hc1 l hz ⟨by omega, by omega, z0, m0, m1⟩)
                  exact kR _ _ c cells (p + 1) z m ev2 upd_same fc (by rw [upd_ne nch]; exact hc1) l hz (by omega) (by omega) z0 m0 m1
              · exact kR H _ c cells p r m (.refl wf) hh fc hc l hz p0 p1 r0 m0 m1
            · exact kR H _ c cells p r m (.refl wf) hh fc hc l hz p0 p1 r0 m0 m1
def nH : List Str := ["_law_script", "_law_total", "_law_cells", "_law_cell"]
theorem sc_hand : FnScope nH ["_law_script"] (defScope (top 25)) := ⟨rfl, rfl, rfl, by decide +kernel, by decide +kernel, by decide +kernel, by decide +kernel⟩
theorem ok_hand {P : Program} {w : World} {K : PySem.W.Frag} {mg : Str → Option Value} {base : Heap} {f : Addr} {fd : FuncData} (F : Fun K "_law_hand" "_law_hand" (top 25) f fd) (zl : mg "len" = none) (zi : mg "int" = none) (za : mg "abs" = none) :
    FnOk P w K mg base (L2.CX P w) 1 f fd ["_law_script"] (spHand K) := by
  refine F.okX sc_hand (fun vs H Q E q => ?_) fun cdv A outer s H vs Q E hr q => ?_
  · obtain ⟨a, ns, rfl, _⟩ := q
    rfl
  · obtain ⟨a, ns, rfl, hS, hl, k⟩ := q
    refine ⟨_, pss_cons (ps_set (i := 1) sc_hand.nd rfl (Or.inl rfl) (pe_op op_add (pe_callB call_len_seq (by rfl) zl PySem.boot_len (pa_cons (pv 0) pa_nil)) pe_int))
      (pss_cons (ps_set (i := 2) sc_hand.nd rfl (Or.inl rfl) (pe_lst pa_nil))
      (pss_cons (ps_for (passes_of rfl) rfl (pi_list (pv 0)) (pg_name (i := 3) sc_hand.nd rfl (Or.inl rfl))
        (pss_cons (ps_set (i := 1) sc_hand.nd rfl (Or.inl rfl) (pe_op op_mod (pe_callTy call_int1 (by rfl) zi PyProof.Rows.boot_int (pa_cons (pe_op op_add (pe_op op_mul (pv 1) pe_int) (pe_callTy call_int1 (by rfl) zi PyProof.Rows.boot_int (pa_cons (pv 3) pa_nil))) pa_nil)) pe_int))
        (pss_one (ps_expr (pe_bm PySem.F.plainAttrs_list PySem.F.slot_list_append PySem.F.type_list_append mt_append (pv 2) (pa_cons (pe_callB call_abs (by rfl) za PyProof.Rows.boot_abs (pa_cons (pe_callTy call_int1 (by rfl) zi PyProof.Rows.boot_int (pa_cons (pv 3) pa_nil)) pa_nil)) pa_nil))))))
      (pss_one (ps_ret (pe_lst (pa_cons (pv 2) (pa_cons pe_int (pa_cons pe_int (pa_cons (pv 1) pa_nil))))))))), ?_⟩
    refine ⟨.ref a, rfl, a, _, rfl, .inl hS, _, _, rfl, rfl, ?_⟩
    refine ⟨by decide, fun c hc0 => ?_⟩
    have keep0 : ∀ {H' : Hp}, Same H H' → ∀ o, Same H (upd H' c o) := fun s1 o b u hb => by
      rw [upd_ne (ne_of_none hb hc0)]; exact s1 b u hb
    have s1 : Same H (upd H c (.lst [])) := keep0 (Same.refl H) _
    refine ⟨.ref a, rfl, a, rfl, ⟨_, s1.seq hS⟩, for_list (K := K) (a := a) (xs := ns.map V.int) (fun i σ H2 => ∃ (t : Int) (cells : List Int) (v : Option V), σ = [some (.ref a), some (.int t), some (.ref c), v] ∧ 0 ≤ t ∧ t < 2 ^ 31 ∧ Same H H2 ∧ H2 c = some (.lst (cells.map V.int)) ∧ cells.length = i ∧ ∀ z ∈ cells, 0 ≤ z)
      ⟨_, [], none, rfl, by omega, by rw [List.length_map]; omega, s1, upd_same, rfl, by simp⟩ (fun i σ H2 _ ⟨_, _, _, _, _, _, s2, _⟩ => s2.seq hS) ?_ ?_⟩
    · rintro i y σ H2 hi ⟨t, cells, v, rfl, t0, t1, s2, hc, hlen, hz⟩
      have hil : i < (ns.map V.int).length := (List.getElem?_eq_some_iff.mp hi).1
      rw [List.length_map] at hil
      obtain ⟨z, rfl⟩ : ∃ z, y = V.int z := by
        rw [List.getElem?_map] at hi
        cases e : ns[i]? with
        | none => rw [e] at hi; cases hi
        | some z => rw [e] at hi; exact ⟨z, (Option.some.inj hi).symm⟩
      refine ⟨.int t, rfl, t, _, rfl, rfl, .inr ⟨by decide, by decide⟩, .int z, rfl, .inl ⟨z, rfl, _, _, rfl, rfl, .inl ⟨_, rfl, _, _, rfl, rfl, (by show (0 : Int) < _; decide), ?_⟩⟩⟩
      refine ⟨.ref c, rfl, .inl ⟨rfl, _, SqL.of hc⟩, .int z, rfl, .inl ⟨z, rfl, z, rfl, c, _, _, rfl, rfl, hc, by rw [List.length_map, hlen, sizeLine_eq]; omega, ?_⟩⟩
      refine ⟨_, cells ++ [if z < 0 then -z else z], some (.int z), rfl, Int.emod_nonneg _ (by decide), Int.lt_trans (Int.emod_lt_of_pos _ (by decide)) (by decide), keep0 s2 _, ?_, by rw [List.length_append, hlen]; rfl, fun x hx => ?_⟩
      · rw [upd_same, List.map_append]; rfl
      · rcases List.mem_append.mp hx with hx | hx
        · exact hz x hx
        · rw [List.mem_singleton.mp hx]
          by_cases zz : z < 0
          · rw [if_pos zz]; omega
          · rw [if_neg zz]; omega
    · rintro σ H2 ⟨t, cells, v, rfl, t0, t1, s2, hc, hlen, hz⟩
      refine ⟨.ref c, rfl, .int t, rfl, (show 4 ≤ sizeLine by decide), fun h hh => ?_⟩
      refine k _ h c cells t (fun b o hb => ?_) (ne_of_none hc hh) upd_same (by rw [upd_ne (ne_of_none hc hh)]; exact hc) (by rw [hlen, List.length_map]; exact hl) hz t0 t1
      rw [upd_ne (ne_of_none (s2 b o hb) hh)]; exact s2 b o hb
end Lw
namespace Lw
open PySem PySem.Spec PyProof.Rows L2 DV
def mX : Mdl := ⟨[], [], [], [(2, 2, true), (2, 0, false), (2, 1, false), (2, 11, false), (2, 5, false), (2, 6, false), (2, 8, false), (2, 7, false), (2, 12, false), (2, 3, false), (2, 4, false), (2, 9, false), (2, 10, false), (0, 2, false), (0, 0, true), (0, 1, false), (0, 11, false), (0, 5, false), (0, 6, false), (0, 8, false), (0, 7, false), (0, 12, false), (0, 3, false), (0, 4, false), (0, 9, false), (0, 10, false), (1, 2, false), (1, 0, false), (1, 1, true), (1, 11, false), (1, 5, false), (1, 6, false), (1, 8, false), (1, 7, false), (1, 12, false), (1, 3, false), (1, 4, false), (1, 9, false), (1, 10, false), (11, 2, false), (11, 0, false), (11, 1, false), (11, 11, true), (11, 5, false), (11, 6, false), (11, 8, false), (11, 7, false), (11, 12, false), (11, 3, false), (11, 4, false), (11, 9, false), (11, 10, false), (5, 2, false), (5, 0, false), (5, 1, false), (5, 11, false), (5, 5, true), (5, 6, false), (5, 8, false), (5, 7, false), (5, 12, false), (5, 3, false), (5, 4, false), (5, 9, false), (5, 10, false), (6, 2, false), (6, 0, false), (6, 1, false), (6, 11, false), (6, 5, false), (6, 6, true), (6, 8, false), (6, 7, false), (6, 12, false), (6, 3, false), (6, 4, false), (6, 9, false), (6, 10, false), (8, 2, false), (8, 0, false), (8, 1, false), (8, 11, false), (8, 5, false), (8, 6, false), (8, 8, true), (8, 7, false), (8, 12, false), (8, 3, false), (8, 4, false), (8, 9, false), (8, 10, false), (7, 2, false), (7, 0, false), (7, 1, false), (7, 11, false), (7, 5, false), (7, 6, false), (7, 8, false), (7, 7, true), (7, 12, false), (7, 3, false), (7, 4, false), (7, 9, false), (7, 10, false), (12, 2, false), (12, 0, false), (12, 1, false), (12, 11, false), (12, 5, false), (12, 6, false), (12, 8, false), (12, 7, false), (12, 12, true), (12, 3, false), (12, 4, false), (12, 9, false), (12, 10, false), (3, 2, false), (3, 0, false), (3, 1, false), (3, 11, false), (3, 5, false), (3, 6, false), (3, 8, false), (3, 7, false), (3, 12, false), (3, 3, true), (3, 4, false), (3, 9, false), (3, 10, false), (4, 2, false), (4, 0, false), (4, 1, false), (4, 11, false), (4, 5, false), (4, 6, false), (4, 8, false), (4, 7, false), (4, 12, false), (4, 3, false), (4, 4, true), (4, 9, false), (4, 10, false), (9, 2, false), (9, 0, false), (9, 1, false), (9, 11, false), (9, 5, false), (9, 6, false), (9, 8, false), (9, 7, false), (9, 12, false), (9, 3, false), (9, 4, false), (9, 9, true), (9, 10, false), (10, 2, false), (10, 0, false), (10, 1, false), (10, 11, false), (10, 5, false), (10, 6, false), (10, 8, false), (10, 7, false), (10, 12, false), (10, 3, false), (10, 4, false), (10, 9, false), (10, 10, true)], [2, 0, 1, 11, 5, 6, 8, 7, 12, 3, 4, 9, 10]⟩
def m0 : Mdl := ⟨[], [], [], [], []⟩
def G_init_Pentagon : Tab := mkTab m0 [] [] []
def W_init_Pentagon : List D → W D := initW G_init_Pentagon N_init_Pentagon.length 0 [4, 3, 2, 1, 0] b_init_Pentagon
def G_init_Diamond : Tab := mkTab m0 [] [] []
def W_init_Diamond : List D → W D := initW G_init_Diamond N_init_Diamond.length 1 [4, 7, 6, 5, 0] b_init_Diamond
def G_init_Found : Tab := mkTab m0 [] [] []
def W_init_Found : List D → W D := initW G_init_Found N_init_Found.length 2 [10, 9, 8] b_init_Found
def G_init_Doubt : Tab := mkTab m0 [] [] []
def W_init_Doubt : List D → W D := initW G_init_Doubt N_init_Doubt.length 3 [4, 0, 12, 11] b_init_Doubt
def G_init_Passing : Tab := mkTab m0 [] [] []
def W_init_Passing : List D → W D := initW G_init_Passing N_init_Passing.length 4 [14, 13] b_init_Passing
def G_init_Within : Tab := mkTab m0 [] [] []
def W_init_Within : List D → W D := initW G_init_Within N_init_Within.length 5 [9, 15] b_init_Within
def G_init_Looked : Tab := mkTab m0 [] [] []
def W_init_Looked : List D → W D := initW G_init_Looked N_init_Looked.length 6 [10, 9, 16] b_init_Looked
def G_init_Job : Tab := mkTab m0 [] [] []
def W_init_Job : List D → W D := initW G_init_Job N_init_Job.length 7 [19, 18, 17, 13] b_init_Job
def G_init_Answer : Tab := mkTab m0 [] [] []
def W_init_Answer : List D → W D := initW G_init_Answer N_init_Answer.length 8 [21, 20, 9] b_init_Answer
def G_init_Plan : Tab := mkTab m0 [] [] []
def W_init_Plan : List D → W D := initW G_init_Plan N_init_Plan.length 9 [23, 22] b_init_Plan
def G_init_Play : Tab := mkTab m0 [] [] []
def W_init_Play : List D → W D := initW G_init_Play N_init_Play.length 10 [17, 24, 10] b_init_Play
def G_init_Wrong : Tab := mkTab m0 [] [] []
def W_init_Wrong : List D → W D := initW G_init_Wrong N_init_Wrong.length 11 [25, 10, 8] b_init_Wrong
def G_init_Trial : Tab := mkTab m0 [] [] []
def W_init_Trial : List D → W D := initW G_init_Trial N_init_Trial.length 12 [27, 26] b_init_Trial
def G_law_made : Tab := mkTab m0 [] [(0, 5, W_init_Pentagon), (1, 5, W_init_Diamond), (2, 3, W_init_Found), (3, 4, W_init_Doubt), (4, 2, W_init_Passing), (5, 2, W_init_Within), (6, 3, W_init_Looked), (7, 4, W_init_Job), (8, 3, W_init_Answer), (9, 2, W_init_Plan), (10, 3, W_init_Play), (11, 3, W_init_Wrong), (12, 2, W_init_Trial)] []
@[simp] theorem tk_law_made_0 : G_law_made.mkr 0 = some (5, W_init_Pentagon) := rfl
@[simp] theorem tk_law_made_1 : G_law_made.mkr 1 = some (5, W_init_Diamond) := rfl
@[simp] theorem tk_law_made_2 : G_law_made.mkr 2 = some (3, W_init_Found) := rfl
@[simp] theorem tk_law_made_3 : G_law_made.mkr 3 = some (4, W_init_Doubt) := rfl
@[simp] theorem tk_law_made_4 : G_law_made.mkr 4 = some (2, W_init_Passing) := rfl
@[simp] theorem tk_law_made_5 : G_law_made.mkr 5 = some (2, W_init_Within) := rfl
@[simp] theorem tk_law_made_6 : G_law_made.mkr 6 = some (3, W_init_Looked) := rfl
@[simp] theorem tk_law_made_7 : G_law_made.mkr 7 = some (4, W_init_Job) := rfl
@[simp] theorem tk_law_made_8 : G_law_made.mkr 8 = some (3, W_init_Answer) := rfl
@[simp] theorem tk_law_made_9 : G_law_made.mkr 9 = some (2, W_init_Plan) := rfl
@[simp] theorem tk_law_made_10 : G_law_made.mkr 10 = some (3, W_init_Play) := rfl
@[simp] theorem tk_law_made_11 : G_law_made.mkr 11 = some (3, W_init_Wrong) := rfl
@[simp] theorem tk_law_made_12 : G_law_made.mkr 12 = some (2, W_init_Trial) := rfl
def W_law_made : List D → W D := bodyW G_law_made N_law_made.length b_law_made
def G_law_many : Tab := mkTab m0 [] [] []
def W_law_many : List D → W D := bodyW G_law_many N_law_many.length b_law_many
def G_law_mixed : Tab := mkTab m0 [] [] []
def W_law_mixed : List D → W D := bodyW G_law_mixed N_law_mixed.length b_law_mixed
def G_law_fields : Tab := mkTab m0 [] [] []
def W_law_fields : List D → W D := bodyW G_law_fields N_law_fields.length b_law_fields
def G_law_thing : Tab := mkTab m0 [(2, 2, takeW)] [] []
@[simp] theorem tf_law_thing_2 : G_law_thing.fn 2 = some (2, takeW) := rfl
def W_law_thing : List D → W D := bodyW G_law_thing N_law_thing.length b_law_thing
def G_m_Found___eq__ : Tab := mkTab mX [] [] []
def W_m_Found___eq__ : List D → W D := bodyW G_m_Found___eq__ N_m_Found___eq__.length b_m_Found___eq__
def G_m_Pentagon___eq__ : Tab := mkTab mX [] [] []
def W_m_Pentagon___eq__ : List D → W D := bodyW G_m_Pentagon___eq__ N_m_Pentagon___eq__.length b_m_Pentagon___eq__
def G_m_Diamond___eq__ : Tab := mkTab mX [] [] []
def W_m_Diamond___eq__ : List D → W D := bodyW G_m_Diamond___eq__ N_m_Diamond___eq__.length b_m_Diamond___eq__
def G_m_Wrong___eq__ : Tab := mkTab mX [] [] []
def W_m_Wrong___eq__ : List D → W D := bodyW G_m_Wrong___eq__ N_m_Wrong___eq__.length b_m_Wrong___eq__
def G_m_Within___eq__ : Tab := mkTab mX [] [] []
def W_m_Within___eq__ : List D → W D := bodyW G_m_Within___eq__ N_m_Within___eq__.length b_m_Within___eq__
def G_m_Looked___eq__ : Tab := mkTab mX [] [] []
def W_m_Looked___eq__ : List D → W D := bodyW G_m_Looked___eq__ N_m_Looked___eq__.length b_m_Looked___eq__
def G_m_Answer___eq__ : Tab := mkTab mX [] [] []
def W_m_Answer___eq__ : List D → W D := bodyW G_m_Answer___eq__ N_m_Answer___eq__.length b_m_Answer___eq__
def G_m_Job___eq__ : Tab := mkTab mX [] [] []
def W_m_Job___eq__ : List D → W D := bodyW G_m_Job___eq__ N_m_Job___eq__.length b_m_Job___eq__
def G_m_Trial___eq__ : Tab := mkTab mX [] [] []
def W_m_Trial___eq__ : List D → W D := bodyW G_m_Trial___eq__ N_m_Trial___eq__.length b_m_Trial___eq__
def G_m_Doubt___eq__ : Tab := mkTab mX [] [] []
def W_m_Doubt___eq__ : List D → W D := bodyW G_m_Doubt___eq__ N_m_Doubt___eq__.length b_m_Doubt___eq__
def G_m_Passing___eq__ : Tab := mkTab mX [] [] []
def W_m_Passing___eq__ : List D → W D := bodyW G_m_Passing___eq__ N_m_Passing___eq__.length b_m_Passing___eq__
def G_m_Plan___eq__ : Tab := mkTab mX [] [] []
def W_m_Plan___eq__ : List D → W D := bodyW G_m_Plan___eq__ N_m_Plan___eq__.length b_m_Plan___eq__
def G_m_Play___eq__ : Tab := mkTab mX [] [] []
def W_m_Play___eq__ : List D → W D := bodyW G_m_Play___eq__ N_m_Play___eq__.length b_m_Play___eq__
def G_law : Tab := mkTab mX [(0, 2, W_law_made), (1, 1, W_law_many), (2, 2, takeW), (3, 2, W_law_fields), (4, 1, W_law_thing)] [] [(2, 0, 2, W_m_Found___eq__), (0, 0, 2, W_m_Pentagon___eq__), (1, 0, 2, W_m_Diamond___eq__), (11, 0, 2, W_m_Wrong___eq__), (5, 0, 2, W_m_Within___eq__), (6, 0, 2, W_m_Looked___eq__), (8, 0, 2, W_m_Answer___eq__), (7, 0, 2, W_m_Job___eq__), (12, 0, 2, W_m_Trial___eq__), (3, 0, 2, W_m_Doubt___eq__), (4, 0, 2, W_m_Passing___eq__), (9, 0, 2, W_m_Plan___eq__), (10, 0, 2, W_m_Play___eq__)]
@[simp] theorem tf_law_0 : G_law.fn 0 = some (2, W_law_made) := rfl
@[simp] theorem tf_law_1 : G_law.fn 1 = some (1, W_law_many) := rfl
@[simp] theorem tf_law_2 : G_law.fn 2 = some (2, takeW) := rfl
@[simp] theorem tf_law_3 : G_law.fn 3 = some (2, W_law_fields) := rfl
@[simp] theorem tf_law_4 : G_law.fn 4 = some (1, W_law_thing) := rfl
@[simp] theorem tm_law_2_0 : G_law.mt 2 0 = some (2, W_m_Found___eq__) := rfl
@[simp] theorem tm_law_0_0 : G_law.mt 0 0 = some (2, W_m_Pentagon___eq__) := rfl
@[simp] theorem tm_law_1_0 : G_law.mt 1 0 = some (2, W_m_Diamond___eq__) := rfl
@[simp] theorem tm_law_11_0 : G_law.mt 11 0 = some (2, W_m_Wrong___eq__) := rfl
@[simp] theorem tm_law_5_0 : G_law.mt 5 0 = some (2, W_m_Within___eq__) := rfl
@[simp] theorem tm_law_6_0 : G_law.mt 6 0 = some (2, W_m_Looked___eq__) := rfl
@[simp] theorem tm_law_8_0 : G_law.mt 8 0 = some (2, W_m_Answer___eq__) := rfl
@[simp] theorem tm_law_7_0 : G_law.mt 7 0 = some (2, W_m_Job___eq__) := rfl
@[simp] theorem tm_law_12_0 : G_law.mt 12 0 = some (2, W_m_Trial___eq__) := rfl
@[simp] theorem tm_law_3_0 : G_law.mt 3 0 = some (2, W_m_Doubt___eq__) := rfl
@[simp] theorem tm_law_4_0 : G_law.mt 4 0 = some (2, W_m_Passing___eq__) := rfl
@[simp] theorem tm_law_9_0 : G_law.mt 9 0 = some (2, W_m_Plan___eq__) := rfl
@[simp] theorem tm_law_10_0 : G_law.mt 10 0 = some (2, W_m_Play___eq__) := rfl
end Lw
namespace Lw
open DV
theorem mix_ok : mixOk W_law_mixed := by
  intro a b Q Ed h
  simp [W_law_mixed, bodyW, b_law_mixed, wB, w1, eS, seqS, nxt, reqS, wE, se, ses, seV, seT, bnd, ret, req, varW, getS, startE, setV, N_law_mixed, binW, bfW, okV, cl, cls, cc, ccs, fnW, noRef, negW, cstW]
  have c : ∀ (i : Int) (j : Int), -(2 ^ 64) < j ∧ j < 2 ^ 64 → L2.CMul i j := fun _ _ h => .inr h
  have m : ∀ x : Int, 0 ≤ x % 2147483399 ∧ x % 2147483399 < 2147483399 := fun x => ⟨Int.emod_nonneg _ (by decide), Int.emod_lt_of_pos _ (by decide)⟩
  refine ⟨c _ _ (by decide), c _ _ (by decide), c _ _ ?_, c _ _ (by decide), ⟨by decide, by decide⟩, c _ _ (by decide), ⟨by decide, by decide⟩, ⟨by decide, by decide⟩, h _⟩
  have := m (a * 40014 + b * 7907 + 60013)
  omega
end Lw
namespace Lw
open DV
def fsK : List (List Nat) := [[4, 3, 2, 1, 0], [4, 7, 6, 5, 0], [10, 9, 8], [4, 0, 12, 11], [14, 13], [9, 15], [10, 9, 16], [19, 18, 17, 13], [21, 20, 9], [23, 22], [17, 24, 10], [25, 10, 8], [27, 26]]
def mkI (k : Nat) (row : List D) : D := .ins k (fsK.getD k []) (row.take (fsK.getD k []).length)
def mK (k : Nat) : List D → W D := match k with
  | 0 => W_m_Pentagon___eq__
  | 1 => W_m_Diamond___eq__
  | 2 => W_m_Found___eq__
  | 3 => W_m_Doubt___eq__
  | 4 => W_m_Passing___eq__
  | 5 => W_m_Within___eq__
  | 6 => W_m_Looked___eq__
  | 7 => W_m_Job___eq__
  | 8 => W_m_Answer___eq__
  | 9 => W_m_Plan___eq__
  | 10 => W_m_Play___eq__
  | 11 => W_m_Wrong___eq__
  | 12 => W_m_Trial___eq__
  | _ => fun _ => fail
theorem lt13 {k : Nat} (h : k < 13) : k = 0 ∨ k = 1 ∨ k = 2 ∨ k = 3 ∨ k = 4 ∨ k = 5 ∨ k = 6 ∨ k = 7 ∨ k = 8 ∨ k = 9 ∨ k = 10 ∨ k = 11 ∨ k = 12 := by omega
theorem init_0 {d0 d1 d2 d3 d4 : D} {Q E : D → Prop} (h : Q (.ins 0 [4, 3, 2, 1, 0] [d0, d1, d2, d3, d4])) : W_init_Pentagon [d0, d1, d2, d3, d4] Q E := by
  unfold W_init_Pentagon initW b_init_Pentagon
  simp [startI, N_init_Pentagon]
  repeat (first | ((first | with_reducible refine seqT ?_ | with_reducible refine seq1 ?_ | with_reducible refine seqE ?_ | with_reducible refine seqF ?_); try simp [PySem.sizeLine, DV.w1, DV.wE, DV.wT, DV.wI, DV.varW, DV.getS, DV.isOwn, DV.Slot.ow, DV.setV, DV.setO, DV.look2, DV.okV, DV.cl, DV.cls, DV.cc, DV.ccs, DV.tyName, DV.noRef, DV.noRefs, DV.cstW, DV.seqOf, DV.mkTab, DV.findE, DV.findM, DV.frzS, DV.ownS, DV.frE, DV.wipeE, DV.bindT, DV.setAll, DV.dropX, DV.dropF, DV.fstO, DV.esLen, DV.isNon, DV.isFlat, DV.deq, DV.deqs, -List.filter_filter, -List.map_map, -List.getD_eq_getElem?_getD, -List.length_filter_eq_length_iff, -List.length_filter_lt_length_iff_exists]) | simp [PySem.sizeLine, DV.w1, DV.wE, DV.wT, DV.wI, DV.varW, DV.getS, DV.isOwn, DV.Slot.ow, DV.setV, DV.setO, DV.look2, DV.okV, DV.cl, DV.cls, DV.cc, DV.ccs, DV.tyName, DV.noRef, DV.noRefs, DV.cstW, DV.seqOf, DV.mkTab, DV.findE, DV.findM, DV.frzS, DV.ownS, DV.frE, DV.wipeE, DV.bindT, DV.setAll, DV.dropX, DV.dropF, DV.fstO, DV.esLen, DV.isNon, DV.isFlat, DV.deq, DV.deqs, -List.filter_filter, -List.map_map, -List.getD_eq_getElem?_getD, -List.length_filter_eq_length_iff, -List.length_filter_lt_length_iff_exists])
  exact h
theorem init_1 {d0 d1 d2 d3 d4 : D} {Q E : D → Prop} (h : Q (.ins 1 [4, 7, 6, 5, 0] [d0, d1, d2, d3, d4])) : W_init_Diamond [d0, d1, d2, d3, d4] Q E := by
  unfold W_init_Diamond initW b_init_Diamond
  simp [startI, N_init_Diamond]
  repeat (first | ((first | with_reducible refine seqT ?_ | with_reducible refine seq1 ?_ | with_reducible refine seqE ?_ | with_reducible refine seqF ?_); try simp [PySem.sizeLine, DV.w1, DV.wE, DV.wT, DV.wI, DV.varW, DV.getS, DV.isOwn, DV.Slot.ow, DV.setV, DV.setO, DV.look2, DV.okV, DV.cl, DV.cls, DV.cc, DV.ccs, DV.tyName, DV.noRef, DV.noRefs, DV.cstW, DV.seqOf, DV.mkTab, DV.findE, DV.findM, DV.frzS, DV.ownS, DV.frE, DV.wipeE, DV.bindT, DV.setAll, DV.dropX, DV.dropF, DV.fstO, DV.esLen, DV.isNon, DV.isFlat, DV.deq, DV.deqs, -List.filter_filter, -List.map_map, -List.getD_eq_getElem?_getD, -List.length_filter_eq_length_iff, -List.length_filter_lt_length_iff_exists]) | simp [PySem.sizeLine, DV.w1, DV.wE, DV.wT, DV.wI, DV.varW, DV.getS, DV.isOwn, DV.Slot.ow, DV.setV, DV.setO, DV.look2, DV.okV, DV.cl, DV.cls, DV.cc, DV.ccs, DV.tyName, DV.noRef, DV.noRefs, DV.cstW, DV.seqOf, DV.mkTab, DV.findE, DV.findM, DV.frzS, DV.ownS, DV.frE, DV.wipeE, DV.bindT, DV.setAll, DV.dropX, DV.dropF, DV.fstO, DV.esLen, DV.isNon, DV.isFlat, DV.deq, DV.deqs, -List.filter_filter, -List.map_map, -List.getD_eq_getElem?_getD, -List.length_filter_eq_length_iff, -List.length_filter_lt_length_iff_exists])
  exact h
theorem init_2 {d0 d1 d2 : D} {Q E : D → Prop} (h : Q (.ins 2 [10, 9, 8] [d0, d1, d2])) : W_init_Found [d0, d1, d2] Q E := by
  unfold W_init_Found initW b_init_Found
  simp [startI, N_init_Found]
  repeat (first | ((first | with_reducible refine seqT ?_ | with_reducible refine seq1 ?_ | with_reducible refine seqE ?_ | with_reducible refine seqF ?_); try simp [PySem.sizeLine, DV.w1, DV.wE, DV.wT, DV.wI, DV.varW, DV.getS, DV.isOwn, DV.Slot.ow, DV.setV, DV.setO, DV.look2, DV.okV, DV.cl, DV.cls, DV.cc, DV.ccs, DV.tyName, DV.noRef, DV.noRefs, DV.cstW, DV.seqOf, DV.mkTab, DV.findE, DV.findM, DV.frzS, DV.ownS, DV.frE, DV.wipeE, DV.bindT, DV.setAll, DV.dropX, DV.dropF, DV.fstO, DV.esLen, DV.isNon, DV.isFlat, DV.deq, DV.deqs, -List.filter_filter, -List.map_map, -List.getD_eq_getElem?_getD, -List.length_filter_eq_length_iff, -List.length_filter_lt_length_iff_exists]) | simp [PySem.sizeLine, DV.w1, DV.wE, DV.wT, DV.wI, DV.varW, DV.getS, DV.isOwn, DV.Slot.ow, DV.setV, DV.setO, DV.look2, DV.okV, DV.cl, DV.cls, DV.cc, DV.ccs, DV.tyName, DV.noRef, DV.noRefs, DV.cstW, DV.seqOf, DV.mkTab, DV.findE, DV.findM, DV.frzS, DV.ownS, DV.frE, DV.wipeE, DV.bindT, DV.setAll, DV.dropX, DV.dropF, DV.fstO, DV.esLen, DV.isNon, DV.isFlat, DV.deq, DV.deqs, -List.filter_filter, -List.map_map, -List.getD_eq_getElem?_getD, -List.length_filter_eq_length_iff, -List.length_filter_lt_length_iff_exists])
  exact h
theorem init_3 {d0 d1 d2 d3 : D} {Q E : D → Prop} (h : Q (.ins 3 [4, 0, 12, 11] [d0, d1, d2, d3])) : W_init_Doubt [d0, d1, d2, d3] Q E := by
  unfold W_init_Doubt initW b_init_Doubt
  simp [startI, N_init_Doubt]
  repeat (first | ((first | with_reducible refine seqT ?_ | with_reducible refine seq1 ?_ | with_reducible refine seqE ?_ | with_reducible refine seqF ?_); try simp [PySem.sizeLine, DV.w1, DV.wE, DV.wT, DV.wI, DV.varW, DV.getS, DV.isOwn, DV.Slot.ow, DV.setV, DV.setO, DV.look2, DV.okV, DV.cl, DV.cls, DV.cc, DV.ccs, DV.tyName, DV.noRef, DV.noRefs, DV.cstW, DV.seqOf, DV.mkTab, DV.findE, DV.findM, DV.frzS, DV.ownS, DV.frE, DV.wipeE, DV.bindT, DV.setAll, DV.dropX, DV.dropF, DV.fstO, DV.esLen, DV.isNon, DV.isFlat, DV.deq, DV.deqs, -List.filter_filter, -List.map_map, -List.getD_eq_getElem?_getD, -List.length_filter_eq_length_iff, -List.length_filter_lt_length_iff_exists]) | simp [PySem.sizeLine, DV.w1, DV.wE, DV.wT, DV.wI, DV.varW, DV.getS, DV.isOwn, DV.Slot.ow, DV.setV, DV.setO, DV.look2, DV.okV, DV.cl, DV.cls, DV.cc, DV.ccs, DV.tyName, DV.noRef, DV.noRefs, DV.cstW, DV.seqOf, DV.mkTab, DV.findE, DV.findM, DV.frzS, DV.ownS, DV.frE, DV.wipeE, DV.bindT, DV.setAll, DV.dropX, DV.dropF, DV.fstO, DV.esLen, DV.isNon, DV.isFlat, DV.deq, DV.deqs, -List.filter_filter, -List.map_map, -List.getD_eq_getElem?_getD, -List.length_filter_eq_length_iff, -List.length_filter_lt_length_iff_exists])
  exact h
theorem init_4 {d0 d1 : D} {Q E : D → Prop} (h : Q (.ins 4 [14, 13] [d0, d1])) : W_init_Passing [d0, d1] Q E := by
  unfold W_init_Passing initW b_init_Passing
  simp [startI, N_init_Passing]
  repeat (first | ((first | with_reducible refine seqT ?_ | with_reducible refine seq1 ?_ | with_reducible refine seqE ?_ | with_reducible refine seqF ?_); try simp [PySem.sizeLine, DV.w1, DV.wE, DV.wT, DV.wI, DV.varW, DV.getS, DV.isOwn, DV.Slot.ow, DV.setV, DV.setO, DV.look2, DV.okV, DV.cl, DV.cls, DV.cc, DV.ccs, DV.tyName, DV.noRef, DV.noRefs, DV.cstW, DV.seqOf, DV.mkTab, DV.findE, DV.findM, DV.frzS, DV.ownS, DV.frE, DV.wipeE, DV.bindT, DV.setAll, DV.dropX, DV.dropF, DV.fstO, DV.esLen, DV.isNon, DV.isFlat, DV.deq, DV.deqs, -List.filter_filter, -List.map_map, -List.getD_eq_getElem?_getD, -List.length_filter_eq_length_iff, -List.length_filter_lt_length_iff_exists]) | simp [PySem.sizeLine, DV.w1, DV.wE, DV.wT, DV.wI, DV.varW, DV.getS, DV.isOwn, DV.Slot.ow, DV.setV, DV.setO, DV.look2, DV.okV, DV.cl, DV.cls, DV.cc, DV.ccs, DV.tyName, DV.noRef, DV.noRefs, DV.cstW, DV.seqOf, DV.mkTab, DV.findE, DV.findM, DV.frzS, DV.ownS, DV.frE, DV.wipeE, DV.bindT, DV.setAll, DV.dropX, DV.dropF, DV.fstO, DV.esLen, DV.isNon, DV.isFlat, DV.deq, DV.deqs, -List.filter_filter, -List.map_map, -List.getD_eq_getElem?_getD, -List.length_filter_eq_length_iff, -List.length_filter_lt_length_iff_exists])
  exact h
theorem init_5 {d0 d1 : D} {Q E : D → Prop} (h : Q (.ins 5 [9, 15] [d0, d1])) : W_init_Within [d0, d1] Q E := by
  unfold W_init_Within initW b_init_Within
  simp [startI, N_init_Within]
  repeat (first | ((first | with_reducible refine seqT ?_ | with_reducible refine seq1 ?_ | with_reducible refine seqE ?_ | with_reducible refine seqF ?_); try simp [PySem.sizeLine, DV.w1, DV.wE, DV.wT, DV.wI, DV.varW, DV.getS, DV.isOwn, DV.Slot.ow, DV.setV, DV.setO, DV.look2, DV.okV, DV.cl, DV.cls, DV.cc, DV.ccs, DV.tyName, DV.noRef, DV.noRefs, DV.cstW, DV.seqOf, DV.mkTab, DV.findE, DV.findM, DV.frzS, DV.ownS, DV.frE, DV.wipeE, DV.bindT, DV.setAll, DV.dropX, DV.dropF, DV.fstO, DV.esLen, DV.isNon, DV.isFlat, DV.deq, DV.deqs, -List.filter_filter, -List.map_map, -List.getD_eq_getElem?_getD, -List.length_filter_eq_length_iff, -List.length_filter_lt_length_iff_exists]) | simp [PySem.sizeLine, DV.w1, DV.wE, DV.wT, DV.wI, DV.varW, DV.getS, DV.isOwn, DV.Slot.ow, DV.setV, DV.setO, DV.look2, DV.okV, DV.cl, DV.cls, DV.cc, DV.ccs, DV.tyName, DV.noRef, DV.noRefs, DV.cstW, DV.seqOf, DV.mkTab, DV.findE, DV.findM, DV.frzS, DV.ownS, DV.frE, DV.wipeE, DV.bindT, DV.setAll, DV.dropX, DV.dropF, DV.fstO, DV.esLen, DV.isNon, DV.isFlat, DV.deq, DV.deqs, -List.filter_filter, -List.map_map, -List.getD_eq_getElem?_getD, -List.length_filter_eq_length_iff, -List.length_filter_lt_length_iff_exists])
  exact h
theorem init_6 {d0 d1 d2 : D} {Q E : D → Prop} (h : Q (.ins 6 [10, 9, 16] [d0, d1, d2])) : W_init_Looked [d0, d1, d2] Q E := by
  unfold W_init_Looked initW b_init_Looked
  simp [startI, N_init_Looked]
  repeat (first | ((first | with_reducible refine seqT ?_ | with_reducible refine seq1 ?_ | with_reducible refine seqE ?_ | with_reducible refine seqF ?_); try simp [PySem.sizeLine, DV.w1, DV.wE, DV.wT, DV.wI, DV.varW, DV.getS, DV.isOwn, DV.Slot.ow, DV.setV, DV.setO, DV.look2, DV.okV, DV.cl, DV.cls, DV.cc, DV.ccs, DV.tyName, DV.noRef, DV.noRefs, DV.cstW, DV.seqOf, DV.mkTab, DV.findE, DV.findM, DV.frzS, DV.ownS, DV.frE, DV.wipeE, DV.bindT, DV.setAll, DV.dropX, DV.dropF, DV.fstO, DV.esLen, DV.isNon, DV.isFlat, DV.deq, DV.deqs, -List.filter_filter, -List.map_map, -List.getD_eq_getElem?_getD, -List.length_filter_eq_length_iff, -List.length_filter_lt_length_iff_exists]) | simp [PySem.sizeLine, DV.w1, DV.wE, DV.wT, DV.wI, DV.varW, DV.getS, DV.isOwn, DV.Slot.ow, DV.setV, DV.setO, DV.look2, DV.okV, DV.cl, DV.cls, DV.cc, DV.ccs, DV.tyName, DV.noRef, DV.noRefs, DV.cstW, DV.seqOf, DV.mkTab, DV.findE, DV.findM, DV.frzS, DV.ownS, DV.frE, DV.wipeE, DV.bindT, DV.setAll, DV.dropX, DV.dropF, DV.fstO, DV.esLen, DV.isNon, DV.isFlat, DV.deq, DV.deqs, -List.filter_filter, -List.map_map, -List.getD_eq_getElem?_getD, -List.length_filter_eq_length_iff, -List.length_filter_lt_length_iff_exists])
  exact h
theorem init_7 {d0 d1 d2 d3 : D} {Q E : D → Prop} (h : Q (.ins 7 [19, 18, 17, 13] [d0, d1, d2, d3])) : W_init_Job [d0, d1, d2, d3] Q E := by
  unfold W_init_Job initW b_init_Job
  simp [startI, N_init_Job]
  repeat (first | ((first | with_reducible refine seqT ?_ | with_reducible refine seq1 ?_ | with_reducible refine seqE ?_ | with_reducible refine seqF ?_); try simp [PySem.sizeLine, DV.w1, DV.wE, DV.wT, DV.wI, DV.varW, DV.getS, DV.isOwn, DV.Slot.ow, DV.setV, DV.setO, DV.look2, DV.okV, DV.cl, DV.cls, DV.cc, DV.ccs, DV.tyName, DV.noRef, DV.noRefs, DV.cstW, DV.seqOf, DV.mkTab, DV.findE, DV.findM, DV.frzS, DV.ownS, DV.frE, DV.wipeE, DV.bindT, DV.setAll, DV.dropX, DV.dropF, DV.fstO, DV.esLen, DV.isNon, DV.isFlat, DV.deq, DV.deqs, -List.filter_filter, -List.map_map, -List.getD_eq_getElem?_getD, -List.length_filter_eq_length_iff, -List.length_filter_lt_length_iff_exists]) | simp [PySem.sizeLine, DV.w1, DV.wE, DV.wT, DV.wI, DV.varW, DV.getS, DV.isOwn, DV.Slot.ow, DV.setV, DV.setO, DV.look2, DV.okV, DV.cl, DV.cls, DV.cc, DV.ccs, DV.tyName, DV.noRef, DV.noRefs, DV.cstW, DV.seqOf, DV.mkTab, DV.findE, DV.findM, DV.frzS, DV.ownS, DV.frE, DV.wipeE, DV.bindT, DV.setAll, DV.dropX, DV.dropF, DV.fstO, DV.esLen, DV.isNon, DV.isFlat, DV.deq, DV.deqs, -List.filter_filter, -List.map_map, -List.getD_eq_getElem?_getD, -List.length_filter_eq_length_iff, -List.length_filter_lt_length_iff_exists])
  exact h
theorem init_8 {d0 d1 d2 : D} {Q E : D → Prop} (h : Q (.ins 8 [21, 20, 9] [d0, d1, d2])) : W_init_Answer [d0, d1, d2] Q E := by
  unfold W_init_Answer initW b_init_Answer
  simp [startI, N_init_Answer]
  repeat (first | ((first | with_reducible refine seqT ?_ | with_reducible refine seq1 ?_ | with_reducible refine seqE ?_ | with_reducible refine seqF ?_); try simp [PySem.sizeLine, DV.w1, DV.wE, DV.wT, DV.wI, DV.varW, DV.getS, DV.isOwn, DV.Slot.ow, DV.setV, DV.setO, DV.look2, DV.okV, DV.cl, DV.cls, DV.cc, DV.ccs, DV.tyName, DV.noRef, DV.noRefs, DV.cstW, DV.seqOf, DV.mkTab, DV.findE, DV.findM, DV.frzS, DV.ownS, DV.frE, DV.wipeE, DV.bindT, DV.setAll, DV.dropX, DV.dropF, DV.fstO, DV.esLen, DV.isNon, DV.isFlat, DV.deq, DV.deqs, -List.filter_filter, -List.map_map, -List.getD_eq_getElem?_getD, -List.length_filter_eq_length_iff, -List.length_filter_lt_length_iff_exists]) | simp [PySem.sizeLine, DV.w1, DV.wE, DV.wT, DV.wI, DV.varW, DV.getS, DV.isOwn, DV.Slot.ow, DV.setV, DV.setO, DV.look2, DV.okV, DV.cl, DV.cls, DV.cc, DV.ccs, DV.tyName, DV.noRef, DV.noRefs, DV.cstW, DV.seqOf, DV.mkTab, DV.findE, DV.findM, DV.frzS, DV.ownS, DV.frE, DV.wipeE, DV.bindT, DV.setAll, DV.dropX, DV.dropF, DV.fstO, DV.esLen, DV.isNon, DV.isFlat, DV.deq, DV.deqs, -List.filter_filter, -List.map_map, -List.getD_eq_getElem?_getD, -List.length_filter_eq_length_iff, -List.length_filter_lt_length_iff_exists])
  exact h
theorem init_9 {d0 d1 : D} {Q E : D → Prop} (h : Q (.ins 9 [23, 22] [d0, d1])) : W_init_Plan [d0, d1] Q E := by
  unfold W_init_Plan initW b_init_Plan
  simp [startI, N_init_Plan]
  repeat (first | ((first | with_reducible refine seqT ?_ | with_reducible refine seq1 ?_ | with_reducible refine seqE ?_ | with_reducible refine seqF ?_); try simp [PySem.sizeLine, DV.w1, DV.wE, DV.wT, DV.wI, DV.varW, DV.getS, DV.isOwn, DV.Slot.ow, DV.setV, DV.setO, DV.look2, DV.okV, DV.cl, DV.cls, DV.cc, DV.ccs, DV.tyName, DV.noRef, DV.noRefs, DV.cstW, DV.seqOf, DV.mkTab, DV.findE, DV.findM, DV.frzS, DV.ownS, DV.frE, DV.wipeE, DV.bindT, DV.setAll, DV.dropX, DV.dropF, DV.fstO, DV.esLen, DV.isNon, DV.isFlat, DV.deq, DV.deqs, -List.filter_filter, -List.map_map, -List.getD_eq_getElem?_getD, -List.length_filter_eq_length_iff, -List.length_filter_lt_length_iff_exists]) | simp [PySem.sizeLine, DV.w1, DV.wE, DV.wT, DV.wI, DV.varW, DV.getS, DV.isOwn, DV.Slot.ow, DV.setV, DV.setO, DV.look2, DV.okV, DV.cl, DV.cls, DV.cc, DV.ccs, DV.tyName, DV.noRef, DV.noRefs, DV.cstW, DV.seqOf, DV.mkTab, DV.findE, DV.findM, DV.frzS, DV.ownS, DV.frE, DV.wipeE, DV.bindT, DV.setAll, DV.dropX, DV.dropF, DV.fstO, DV.esLen, DV.isNon, DV.isFlat, DV.deq, DV.deqs, -List.filter_filter, -List.map_map, -List.getD_eq_getElem?_getD, -List.length_filter_eq_length_iff, -List.length_filter_lt_length_iff_exists])
  exact h
theorem init_10 {d0 d1 d2 : D} {Q E : D → Prop} (h : Q (.ins 10 [17, 24, 10] [d0, d1, d2])) : W_init_Play [d0, d1, d2] Q E := by
  unfold W_init_Play initW b_init_Play
  simp [startI, N_init_Play]
  repeat (first | ((first | with_reducible refine seqT ?_ | with_reducible refine seq1 ?_ | with_reducible refine seqE ?_ | with_reducible refine seqF ?_); try simp [PySem.sizeLine, DV.w1, DV.wE, DV.wT, DV.wI, DV.varW, DV.getS, DV.isOwn, DV.Slot.ow, DV.setV, DV.setO, DV.look2, DV.okV, DV.cl, DV.cls, DV.cc, DV.ccs, DV.tyName, DV.noRef, DV.noRefs, DV.cstW, DV.seqOf, DV.mkTab, DV.findE, DV.findM, DV.frzS, DV.ownS, DV.frE, DV.wipeE, DV.bindT, DV.setAll, DV.dropX, DV.dropF, DV.fstO, DV.esLen, DV.isNon, DV.isFlat, DV.deq, DV.deqs, -List.filter_filter, -List.map_map, -List.getD_eq_getElem?_getD, -List.length_filter_eq_length_iff, -List.length_filter_lt_length_iff_exists]) | simp [PySem.sizeLine, DV.w1, DV.wE, DV.wT, DV.wI, DV.varW, DV.getS, DV.isOwn, DV.Slot.ow, DV.setV, DV.setO, DV.look2, DV.okV, DV.cl, DV.cls, DV.cc, DV.ccs, DV.tyName, DV.noRef, DV.noRefs, DV.cstW, DV.seqOf, DV.mkTab, DV.findE, DV.findM, DV.frzS, DV.ownS, DV.frE, DV.wipeE, DV.bindT, DV.setAll, DV.dropX, DV.dropF, DV.fstO, DV.esLen, DV.isNon, DV.isFlat, DV.deq, DV.deqs, -List.filter_filter, -List.map_map, -List.getD_eq_getElem?_getD, -List.length_filter_eq_length_iff, -List.length_filter_lt_length_iff_exists])
  exact h
theorem init_11 {d0 d1 d2 : D} {Q E : D → Prop} (h : Q (.ins 11 [25, 10, 8] [d0, d1, d2])) : W_init_Wrong [d0, d1, d2] Q E := by
  unfold W_init_Wrong initW b_init_Wrong
  simp [startI, N_init_Wrong]
  repeat (first | ((first | with_reducible refine seqT ?_ | with_reducible refine seq1 ?_ | with_reducible refine seqE ?_ | with_reducible refine seqF ?_); try simp [PySem.sizeLine, DV.w1, DV.wE, DV.wT, DV.wI, DV.varW, DV.getS, DV.isOwn, DV.Slot.ow, DV.setV, DV.setO, DV.look2, DV.okV, DV.cl, DV.cls, DV.cc, DV.ccs, DV.tyName, DV.noRef, DV.noRefs, DV.cstW, DV.seqOf, DV.mkTab, DV.findE, DV.findM, DV.frzS, DV.ownS, DV.frE, DV.wipeE, DV.bindT, DV.setAll, DV.dropX, DV.dropF, DV.fstO, DV.esLen, DV.isNon, DV.isFlat, DV.deq, DV.deqs, -List.filter_filter, -List.map_map, -List.getD_eq_getElem?_getD, -List.length_filter_eq_length_iff, -List.length_filter_lt_length_iff_exists]) | simp [PySem.sizeLine, DV.w1, DV.wE, DV.wT, DV.wI, DV.varW, DV.getS, DV.isOwn, DV.Slot.ow, DV.setV, DV.setO, DV.look2, DV.okV, DV.cl, DV.cls, DV.cc, DV.ccs, DV.tyName, DV.noRef, DV.noRefs, DV.cstW, DV.seqOf, DV.mkTab, DV.findE, DV.findM, DV.frzS, DV.ownS, DV.frE, DV.wipeE, DV.bindT, DV.setAll, DV.dropX, DV.dropF, DV.fstO, DV.esLen, DV.isNon, DV.isFlat, DV.deq, DV.deqs, -List.filter_filter, -List.map_map, -List.getD_eq_getElem?_getD, -List.length_filter_eq_length_iff, -List.length_filter_lt_length_iff_exists])
  exact h
theorem init_12 {d0 d1 : D} {Q E : D → Prop} (h : Q (.ins 12 [27, 26] [d0, d1])) : W_init_Trial [d0, d1] Q E := by
  unfold W_init_Trial initW b_init_Trial
  simp [startI, N_init_Trial]
  repeat (first | ((first | with_reducible refine seqT ?_ | with_reducible refine seq1 ?_ | with_reducible refine seqE ?_ | with_reducible refine seqF ?_); try simp [PySem.sizeLine, DV.w1, DV.wE, DV.wT, DV.wI, DV.varW, DV.getS, DV.isOwn, DV.Slot.ow, DV.setV, DV.setO, DV.look2, DV.okV, DV.cl, DV.cls, DV.cc, DV.ccs, DV.tyName, DV.noRef, DV.noRefs, DV.cstW, DV.seqOf, DV.mkTab, DV.findE, DV.findM, DV.frzS, DV.ownS, DV.frE, DV.wipeE, DV.bindT, DV.setAll, DV.dropX, DV.dropF, DV.fstO, DV.esLen, DV.isNon, DV.isFlat, DV.deq, DV.deqs, -List.filter_filter, -List.map_map, -List.getD_eq_getElem?_getD, -List.length_filter_eq_length_iff, -List.length_filter_lt_length_iff_exists]) | simp [PySem.sizeLine, DV.w1, DV.wE, DV.wT, DV.wI, DV.varW, DV.getS, DV.isOwn, DV.Slot.ow, DV.setV, DV.setO, DV.look2, DV.okV, DV.cl, DV.cls, DV.cc, DV.ccs, DV.tyName, DV.noRef, DV.noRefs, DV.cstW, DV.seqOf, DV.mkTab, DV.findE, DV.findM, DV.frzS, DV.ownS, DV.frE, DV.wipeE, DV.bindT, DV.setAll, DV.dropX, DV.dropF, DV.fstO, DV.esLen, DV.isNon, DV.isFlat, DV.deq, DV.deqs, -List.filter_filter, -List.map_map, -List.getD_eq_getElem?_getD, -List.length_filter_eq_length_iff, -List.length_filter_lt_length_iff_exists])
  exact h
theorem made_0 {d0 d1 d2 d3 d4 : D} {Q E : D → Prop} (h : Q (mkI 0 [d0, d1, d2, d3, d4])) : W_law_made [.int 0, .lst [d0, d1, d2, d3, d4]] Q E := by
  unfold W_law_made bodyW b_law_made
  simp [startE, N_law_made]
  repeat (first | with_reducible refine init_0 ?_ | (first | ((first | with_reducible refine seqT ?_ | with_reducible refine seq1 ?_ | with_reducible refine seqE ?_ | with_reducible refine seqF ?_); try simp [PySem.sizeLine, DV.w1, DV.wE, DV.wT, DV.wI, DV.varW, DV.getS, DV.isOwn, DV.Slot.ow, DV.setV, DV.setO, DV.look2, DV.okV, DV.cl, DV.cls, DV.cc, DV.ccs, DV.tyName, DV.noRef, DV.noRefs, DV.cstW, DV.seqOf, DV.mkTab, DV.findE, DV.findM, DV.frzS, DV.ownS, DV.frE, DV.wipeE, DV.bindT, DV.setAll, DV.dropX, DV.dropF, DV.fstO, DV.esLen, DV.isNon, DV.isFlat, DV.deq, DV.deqs, -List.filter_filter, -List.map_map, -List.getD_eq_getElem?_getD, -List.length_filter_eq_length_iff, -List.length_filter_lt_length_iff_exists]) | simp [PySem.sizeLine, DV.w1, DV.wE, DV.wT, DV.wI, DV.varW, DV.getS, DV.isOwn, DV.Slot.ow, DV.setV, DV.setO, DV.look2, DV.okV, DV.cl, DV.cls, DV.cc, DV.ccs, DV.tyName, DV.noRef, DV.noRefs, DV.cstW, DV.seqOf, DV.mkTab, DV.findE, DV.findM, DV.frzS, DV.ownS, DV.frE, DV.wipeE, DV.bindT, DV.setAll, DV.dropX, DV.dropF, DV.fstO, DV.esLen, DV.isNon, DV.isFlat, DV.deq, DV.deqs, -List.filter_filter, -List.map_map, -List.getD_eq_getElem?_getD, -List.length_filter_eq_length_iff, -List.length_filter_lt_length_iff_exists]))
  exact h
theorem made_1 {d0 d1 d2 d3 d4 : D} {Q E : D → Prop} (h : Q (mkI 1 [d0, d1, d2, d3, d4])) : W_law_made [.int 1, .lst [d0, d1, d2, d3, d4]] Q E := by
  unfold W_law_made bodyW b_law_made
  simp [startE, N_law_made]
  repeat (first | with_reducible refine init_1 ?_ | (first | ((first | with_reducible refine seqT ?_ | with_reducible refine seq1 ?_ | with_reducible refine seqE ?_ | with_reducible refine seqF ?_); try simp [PySem.sizeLine, DV.w1, DV.wE, DV.wT, DV.wI, DV.varW, DV.getS, DV.isOwn, DV.Slot.ow, DV.setV, DV.setO, DV.look2, DV.okV, DV.cl, DV.cls, DV.cc, DV.ccs, DV.tyName, DV.noRef, DV.noRefs, DV.cstW, DV.seqOf, DV.mkTab, DV.findE, DV.findM, DV.frzS, DV.ownS, DV.frE, DV.wipeE, DV.bindT, DV.setAll, DV.dropX, DV.dropF, DV.fstO, DV.esLen, DV.isNon, DV.isFlat, DV.deq, DV.deqs, -List.filter_filter, -List.map_map, -List.getD_eq_getElem?_getD, -List.length_filter_eq_length_iff, -List.length_filter_lt_length_iff_exists]) | simp [PySem.sizeLine, DV.w1, DV.wE, DV.wT, DV.wI, DV.varW, DV.getS, DV.isOwn, DV.Slot.ow, DV.setV, DV.setO, DV.look2, DV.okV, DV.cl, DV.cls, DV.cc, DV.ccs, DV.tyName, DV.noRef, DV.noRefs, DV.cstW, DV.seqOf, DV.mkTab, DV.findE, DV.findM, DV.frzS, DV.ownS, DV.frE, DV.wipeE, DV.bindT, DV.setAll, DV.dropX, DV.dropF, DV.fstO, DV.esLen, DV.isNon, DV.isFlat, DV.deq, DV.deqs, -List.filter_filter, -List.map_map, -List.getD_eq_getElem?_getD, -List.length_filter_eq_length_iff, -List.length_filter_lt_length_iff_exists]))
  exact h
theorem made_2 {d0 d1 d2 d3 d4 : D} {Q E : D → Prop} (h : Q (mkI 2 [d0, d1, d2, d3, d4])) : W_law_made [.int 2, .lst [d0, d1, d2, d3, d4]] Q E := by
  unfold W_law_made bodyW b_law_made
  simp [startE, N_law_made]
  repeat (first | with_reducible refine init_2 ?_ | (first | ((first | with_reducible refine seqT ?_ | with_reducible refine seq1 ?_ | with_reducible refine seqE ?_ | with_reducible refine seqF ?_); try simp [PySem.sizeLine, DV.w1, DV.wE, DV.wT, DV.wI, DV.varW, DV.getS, DV.isOwn, DV.Slot.ow, DV.setV, DV.setO, DV.look2, DV.okV, DV.cl, DV.cls, DV.cc, DV.ccs, DV.tyName, DV.noRef, DV.noRefs, DV.cstW, DV.seqOf, DV.mkTab, DV.findE, DV.findM, DV.frzS, DV.ownS, DV.frE, DV.wipeE, DV.bindT, DV.setAll, DV.dropX, DV.dropF, DV.fstO, DV.esLen, DV.isNon, DV.isFlat, DV.deq, DV.deqs, -List.filter_filter, -List.map_map, -List.getD_eq_getElem?_getD, -List.length_filter_eq_length_iff, -List.length_filter_lt_length_iff_exists]) | simp [PySem.sizeLine, DV.w1, DV.wE, DV.wT, DV.wI, DV.varW, DV.getS, DV.isOwn, DV.Slot.ow, DV.setV, DV.setO, DV.look2, DV.okV, DV.cl, DV.cls, DV.cc, DV.ccs, DV.tyName, DV.noRef, DV.noRefs, DV.cstW, DV.seqOf, DV.mkTab, DV.findE, DV.findM, DV.frzS, DV.ownS, DV.frE, DV.wipeE, DV.bindT, DV.setAll, DV.dropX, DV.dropF, DV.fstO, DV.esLen, DV.isNon, DV.isFlat, DV.deq, DV.deqs, -List.filter_filter, -List.map_map, -List.getD_eq_getElem?_getD, -List.length_filter_eq_length_iff, -List.length_filter_lt_length_iff_exists]))
  exact h
theorem made_3 {d0 d1 d2 d3 d4 : D} {Q E : D → Prop} (h : Q (mkI 3 [d0, d1, d2, d3, d4])) : W_law_made [.int 3, .lst [d0, d1, d2, d3, d4]] Q E := by
  unfold W_law_made bodyW b_law_made
  simp [startE, N_law_made]
  repeat (first | with_reducible refine init_3 ?_ | (first | ((first | with_reducible refine seqT ?_ | with_reducible refine seq1 ?_ | with_reducible refine seqE ?_ | with_reducible refine seqF ?_); try simp [PySem.sizeLine, DV.w1, DV.wE, DV.wT, DV.wI, DV.varW, DV.getS, DV.isOwn, DV.Slot.ow, DV.setV, DV.setO, DV.look2, DV.okV, DV.cl, DV.cls, DV.cc, DV.ccs, DV.tyName, DV.noRef, DV.noRefs, DV.cstW, DV.seqOf, DV.mkTab, DV.findE, DV.findM, DV.frzS, DV.ownS, DV.frE, DV.wipeE, DV.bindT, DV.setAll, DV.dropX, DV.dropF, DV.fstO, DV.esLen, DV.isNon, DV.isFlat, DV.deq, DV.deqs, -List.filter_filter, -List.map_map, -List.getD_eq_getElem?_getD, -List.length_filter_eq_length_iff, -List.length_filter_lt_length_iff_exists]) | simp [PySem.sizeLine, DV.w1, DV.wE, DV.wT, DV.wI, DV.varW, DV.getS, DV.isOwn, DV.Slot.ow, DV.setV, DV.setO, DV.look2, DV.okV, DV.cl, DV.cls, DV.cc, DV.ccs, DV.tyName, DV.noRef, DV.noRefs, DV.cstW, DV.seqOf, DV.mkTab, DV.findE, DV.findM, DV.frzS, DV.ownS, DV.frE, DV.wipeE, DV.bindT, DV.setAll, DV.dropX, DV.dropF, DV.fstO, DV.esLen, DV.isNon, DV.isFlat, DV.deq, DV.deqs, -List.filter_filter, -List.map_map, -List.getD_eq_getElem?_getD, -List.length_filter_eq_length_iff, -List.length_filter_lt_length_iff_exists]))
  exact h
theorem made_4 {d0 d1 d2 d3 d4 : D} {Q E : D → Prop} (h : Q (mkI 4 [d0, d1, d2, d3, d4])) : W_law_made [.int 4, .lst [d0, d1, d2, d3, d4]] Q E := by
  unfold W_law_made bodyW b_law_made
  simp [startE, N_law_made]
  repeat (first | with_reducible refine init_4 ?_ | (first | ((first | with_reducible refine seqT ?_ | with_reducible refine seq1 ?_ | with_reducible refine seqE ?_ | with_reducible refine seqF ?_); try simp [PySem.sizeLine, DV.w1, DV.wE, DV.wT, DV.wI, DV.varW, DV.getS, DV.isOwn, DV.Slot.ow, DV.setV, DV.setO, DV.look2, DV.okV, DV.cl, DV.cls, DV.cc, DV.ccs, DV.tyName, DV.noRef, DV.noRefs, DV.cstW, DV.seqOf, DV.mkTab, DV.findE, DV.findM, DV.frzS, DV.ownS, DV.frE, DV.wipeE, DV.bindT, DV.setAll, DV.dropX, DV.dropF, DV.fstO, DV.esLen, DV.isNon, DV.isFlat, DV.deq, DV.deqs, -List.filter_filter, -List.map_map, -List.getD_eq_getElem?_getD, -List.length_filter_eq_length_iff, -List.length_filter_lt_length_iff_exists]) | simp [PySem.sizeLine, DV.w1, DV.wE, DV.wT, DV.wI, DV.varW, DV.getS, DV.isOwn, DV.Slot.ow, DV.setV, DV.setO, DV.look2, DV.okV, DV.cl, DV.cls, DV.cc, DV.ccs, DV.tyName, DV.noRef, DV.noRefs, DV.cstW, DV.seqOf, DV.mkTab, DV.findE, DV.findM, DV.frzS, DV.ownS, DV.frE, DV.wipeE, DV.bindT, DV.setAll, DV.dropX, DV.dropF, DV.fstO, DV.esLen, DV.isNon, DV.isFlat, DV.deq, DV.deqs, -List.filter_filter, -List.map_map, -List.getD_eq_getElem?_getD, -List.length_filter_eq_length_iff, -List.length_filter_lt_length_iff_exists]))
  exact h
theorem made_5 {d0 d1 d2 d3 d4 : D} {Q E : D → Prop} (h : Q (mkI 5 [d0, d1, d2, d3, d4])) : W_law_made [.int 5, .lst [d0, d1, d2, d3, d4]] Q E := by
  unfold W_law_made bodyW b_law_made
  simp [startE, N_law_made]
  repeat (first | with_reducible refine init_5 ?_ | (first | ((first | with_reducible refine seqT ?_ | with_reducible refine seq1 ?_ | with_reducible refine seqE ?_ | with_reducible refine seqF ?_); try simp [PySem.sizeLine, DV.w1, DV.wE, DV.wT, DV.wI, DV.varW, DV.getS, DV.isOwn, DV.Slot.ow, DV.setV, DV.setO, DV.look2, DV.okV, DV.cl, DV.cls, DV.cc, DV.ccs, DV.tyName, DV.noRef, DV.noRefs, DV.cstW, DV.seqOf, DV.mkTab, DV.findE, DV.findM, DV.frzS, DV.ownS, DV.frE, DV.wipeE, DV.bindT, DV.setAll, DV.dropX, DV.dropF, DV.fstO, DV.esLen, DV.isNon, DV.isFlat, DV.deq, DV.deqs, -List.filter_filter, -List.map_map, -List.getD_eq_getElem?_getD, -List.length_filter_eq_length_iff, -List.length_filter_lt_length_iff_exists]) | simp [PySem.sizeLine, DV.w1, DV.wE, DV.wT, DV.wI, DV.varW, DV.getS, DV.isOwn, DV.Slot.ow, DV.setV, DV.setO, DV.look2, DV.okV, DV.cl, DV.cls, DV.cc, DV.ccs, DV.tyName, DV.noRef, DV.noRefs, DV.cstW, DV.seqOf, DV.mkTab, DV.findE, DV.findM, DV.frzS, DV.ownS, DV.frE, DV.wipeE, DV.bindT, DV.setAll, DV.dropX, DV.dropF, DV.fstO, DV.esLen, DV.isNon, DV.isFlat, DV.deq, DV.deqs, -List.filter_filter, -List.map_map, -List.getD_eq_getElem?_getD, -List.length_filter_eq_length_iff, -List.length_filter_lt_length_iff_exists]))
  exact h
theorem made_6 {d0 d1 d2 d3 d4 : D} {Q E : D → Prop} (h : Q (mkI 6 [d0, d1, d2, d3, d4])) : W_law_made [.int 6, .lst [d0, d1, d2, d3, d4]] Q E := by
  unfold W_law_made bodyW b_law_made
  simp [startE, N_law_made]
  repeat (first | with_reducible refine init_6 ?_ | (first | ((first | with_reducible refine seqT ?_ | with_reducible refine seq1 ?_ | with_reducible refine seqE ?_ | with_reducible refine seqF ?_); try simp [PySem.sizeLine, DV.w1, DV.wE, DV.wT, DV.wI, DV.varW, DV.getS, DV.isOwn, DV.Slot.ow, DV.setV, DV.setO, DV.look2, DV.okV, DV.cl, DV.cls, DV.cc, DV.ccs, DV.tyName, DV.noRef, DV.noRefs, DV.cstW, DV.seqOf, DV.mkTab, DV.findE, DV.findM, DV.frzS, DV.ownS, DV.frE, DV.wipeE, DV.bindT, DV.setAll, DV.dropX, DV.dropF, DV.fstO, DV.esLen, DV.isNon, DV.isFlat, DV.deq, DV.deqs, -List.filter_filter, -List.map_map, -List.getD_eq_getElem?_getD, -List.length_filter_eq_length_iff, -List.length_filter_lt_length_iff_exists]) | simp [PySem.sizeLine, DV.w1, DV.wE, DV.wT, DV.wI, DV.varW, DV.getS, DV.isOwn, DV.Slot.ow, DV.setV, DV.setO, DV.look2, DV.okV, DV.cl, DV.cls, DV.cc, DV.ccs, DV.tyName, DV.noRef, DV.noRefs, DV.cstW, DV.seqOf, DV.mkTab, DV.findE, DV.findM, DV.frzS, DV.ownS, DV.frE, DV.wipeE, DV.bindT, DV.setAll, DV.dropX, DV.dropF, DV.fstO, DV.esLen, DV.isNon, DV.isFlat, DV.deq, DV.deqs, -List.filter_filter, -List.map_map, -List.getD_eq_getElem?_getD, -List.length_filter_eq_length_iff, -List.length_filter_lt_length_iff_exists]))
  exact h
theorem made_7 {d0 d1 d2 d3 d4 : D} {Q E : D → Prop} (h : Q (mkI 7 [d0, d1, d2, d3, d4])) : W_law_made [.int 7, .lst [d0, d1, d2, d3, d4]] Q E := by
  unfold W_law_made bodyW b_law_made
  simp [startE, N_law_made]
  repeat (first | with_reducible refine init_7 ?_ | (first | ((first | with_reducible refine seqT ?_ | with_reducible refine seq1 ?_ | with_reducible refine seqE ?_ | with_reducible refine seqF ?_); try simp [PySem.sizeLine, DV.w1, DV.wE, DV.wT, DV.wI, DV.varW, DV.getS, DV.isOwn, DV.Slot.ow, DV.setV, DV.setO, DV.look2, DV.okV, DV.cl, DV.cls, DV.cc, DV.ccs, DV.tyName, DV.noRef, DV.noRefs, DV.cstW, DV.seqOf, DV.mkTab, DV.findE, DV.findM, DV.frzS, DV.ownS, DV.frE, DV.wipeE, DV.bindT, DV.setAll, DV.dropX, DV.dropF, DV.fstO, DV.esLen, DV.isNon, DV.isFlat, DV.deq, DV.deqs, -List.filter_filter, -List.map_map, -List.getD_eq_getElem?_getD, -List.length_filter_eq_length_iff, -List.length_filter_lt_length_iff_exists]) | simp [PySem.sizeLine, DV.w1, DV.wE, DV.wT, DV.wI, DV.varW, DV.getS, DV.isOwn, DV.Slot.ow, DV.setV, DV.setO, DV.look2, DV.okV, DV.cl, DV.cls, DV.cc, DV.ccs, DV.tyName, DV.noRef, DV.noRefs, DV.cstW, DV.seqOf, DV.mkTab, DV.findE, DV.findM, DV.frzS, DV.ownS, DV.frE, DV.wipeE, DV.bindT, DV.setAll, DV.dropX, DV.dropF, DV.fstO, DV.esLen, DV.isNon, DV.isFlat, DV.deq, DV.deqs, -List.filter_filter, -List.map_map, -List.getD_eq_getElem?_getD, -List.length_filter_eq_length_iff, -List.length_filter_lt_length_iff_exists]))
  exact h
theorem made_8 {d0 d1 d2 d3 d4 : D} {Q E : D → Prop} (h : Q (mkI 8 [d0, d1, d2, d3, d4])) : W_law_made [.int 8, .lst [d0, d1, d2, d3, d4]] Q E := by
  unfold W_law_made bodyW b_law_made
  simp [startE, N_law_made]
  repeat (first | with_reducible refine init_8 ?_ | (first | ((first | with_reducible refine seqT ?_ | with_reducible refine seq1 ?_ | with_reducible refine seqE ?_ | with_reducible refine seqF ?_); try simp [PySem.sizeLine, DV.w1, DV.wE, DV.wT, DV.wI, DV.varW, DV.getS, DV.isOwn, DV.Slot.ow, DV.setV, DV.setO, DV.look2, DV.okV, DV.cl, DV.cls, DV.cc, DV.ccs, DV.tyName, DV.noRef, DV.noRefs, DV.cstW, DV.seqOf, DV.mkTab, DV.findE, DV.findM, DV.frzS, DV.ownS, DV.frE, DV.wipeE, DV.bindT, DV.setAll, DV.dropX, DV.dropF, DV.fstO, DV.esLen, DV.isNon, DV.isFlat, DV.deq, DV.deqs, -List.filter_filter, -List.map_map, -List.getD_eq_getElem?_getD, -List.length_filter_eq_length_iff, -List.length_filter_lt_length_iff_exists]) | simp [PySem.sizeLine, DV.w1, DV.wE, DV.wT, DV.wI, DV.varW, DV.getS, DV.isOwn, DV.Slot.ow, DV.setV, DV.setO, DV.look2, DV.okV, DV.cl, DV.cls, DV.cc, DV.ccs, DV.tyName, DV.noRef, DV.noRefs, DV.cstW, DV.seqOf, DV.mkTab, DV.findE, DV.findM, DV.frzS, DV.ownS, DV.frE, DV.wipeE, DV.bindT, DV.setAll, DV.dropX, DV.dropF, DV.fstO, DV.esLen, DV.isNon, DV.isFlat, DV.deq, DV.deqs, -List.filter_filter, -List.map_map, -List.getD_eq_getElem?_getD, -List.length_filter_eq_length_iff, -List.length_filter_lt_length_iff_exists]))
  exact h
theorem made_9 {d0 d1 d2 d3 d4 : D} {Q E : D → Prop} (h : Q (mkI 9 [d0, d1, d2, d3, d4])) : W_law_made [.int 9, .lst [d0, d1, d2, d3, d4]] Q E := by
  unfold W_law_made bodyW b_law_made
  simp [startE, N_law_made]
  repeat (first | with_reducible refine init_9 ?_ | (first | ((first | with_reducible refine seqT ?_ | with_reducible refine seq1 ?_ | with_reducible refine seqE ?_ | with_reducible refine seqF ?_); try simp [PySem.sizeLine, DV.w1, DV.wE, DV.wT, DV.wI, DV.varW, DV.getS, DV.isOwn, DV.Slot.ow, DV.setV, DV.setO, DV.look2, DV.okV, DV.cl, DV.cls, DV.cc, DV.ccs, DV.tyName, DV.noRef, DV.noRefs, DV.cstW, DV.seqOf, DV.mkTab, DV.findE, DV.findM, DV.frzS, DV.ownS, DV.frE, DV.wipeE, DV.bindT, DV.setAll, DV.dropX, DV.dropF, DV.fstO, DV.esLen, DV.isNon, DV.isFlat, DV.deq, DV.deqs, -List.filter_filter, -List.map_map, -List.getD_eq_getElem?_getD, -List.length_filter_eq_length_iff, -List.length_filter_lt_length_iff_exists]) | simp [PySem.sizeLine, DV.w1, DV.wE, DV.wT, DV.wI, DV.varW, DV.getS, DV.isOwn, DV.Slot.ow, DV.setV, DV.setO, DV.look2, DV.okV, DV.cl, DV.cls, DV.cc, DV.ccs, DV.tyName, DV.noRef, DV.noRefs, DV.cstW, DV.seqOf, DV.mkTab, DV.findE, DV.findM, DV.frzS, DV.ownS, DV.frE, DV.wipeE, DV.bindT, DV.setAll, DV.dropX, DV.dropF, DV.fstO, DV.esLen, DV.isNon, DV.isFlat, DV.deq, DV.deqs, -List.filter_filter, -List.map_map, -List.getD_eq_getElem?_getD, -List.length_filter_eq_length_iff, -List.length_filter_lt_length_iff_exists]))
  exact h
theorem made_10 {d0 d1 d2 d3 d4 : D} {Q E : D → Prop} (h : Q (mkI 10 [d0, d1, d2, d3, d4])) : W_law_made [.int 10, .lst [d0, d1, d2, d3, d4]] Q E := by
  unfold W_law_made bodyW b_law_made
  simp [startE, N_law_made]
  repeat (first | with_reducible refine init_10 ?_ | (first | ((first | with_reducible refine seqT ?_ | with_reducible refine seq1 ?_ | with_reducible refine seqE ?_ | with_reducible refine seqF ?_); try simp [PySem.sizeLine, DV.w1, DV.wE, DV.wT, DV.wI, DV.varW, DV.getS, DV.isOwn, DV.Slot.ow, DV.setV, DV.setO, DV.look2, DV.okV, DV.cl, DV.cls, DV.cc, DV.ccs, DV.tyName, DV.noRef, DV.noRefs, DV.cstW, DV.seqOf, DV.mkTab, DV.findE, DV.findM, DV.frzS, DV.ownS, DV.frE, DV.wipeE, DV.bindT, DV.setAll, DV.dropX, DV.dropF, DV.fstO, DV.esLen, DV.isNon, DV.isFlat, DV.deq, DV.deqs, -List.filter_filter, -List.map_map, -List.getD_eq_getElem?_getD, -List.length_filter_eq_length_iff, -List.length_filter_lt_length_iff_exists]) | simp [PySem.sizeLine, DV.w1, DV.wE, DV.wT, DV.wI, DV.varW, DV.getS, DV.isOwn, DV.Slot.ow, DV.setV, DV.setO, DV.look2, DV.okV, DV.cl, DV.cls, DV.cc, DV.ccs, DV.tyName, DV.noRef, DV.noRefs, DV.cstW, DV.seqOf, DV.mkTab, DV.findE, DV.findM, DV.frzS, DV.ownS, DV.frE, DV.wipeE, DV.bindT, DV.setAll, DV.dropX, DV.dropF, DV.fstO, DV.esLen, DV.isNon, DV.isFlat, DV.deq, DV.deqs, -List.filter_filter, -List.map_map, -List.getD_eq_getElem?_getD, -List.length_filter_eq_length_iff, -List.length_filter_lt_length_iff_exists]))
  exact h
theorem made_11 {d0 d1 d2 d3 d4 : D} {Q E : D → Prop} (h : Q (mkI 11 [d0, d1, d2, d3, d4])) : W_law_made [.int 11, .lst [d0, d1, d2, d3, d4]] Q E := by
  unfold W_law_made bodyW b_law_made
  simp [startE, N_law_made]
  repeat (first | with_reducible refine init_11 ?_ | (first | ((first | with_reducible refine seqT ?_ | with_reducible refine seq1 ?_ | with_reducible refine seqE ?_ | with_reducible refine seqF ?_); try simp [PySem.sizeLine, DV.w1, DV.wE, DV.wT, DV.wI, DV.varW, DV.getS, DV.isOwn, DV.Slot.ow, DV.setV, DV.setO, DV.look2, DV.okV, DV.cl, DV.cls, DV.cc, DV.ccs, DV.tyName, DV.noRef, DV.noRefs, DV.cstW, DV.seqOf, DV.mkTab, DV.findE, DV.findM, DV.frzS, DV.ownS, DV.frE, DV.wipeE, DV.bindT, DV.setAll, DV.dropX, DV.dropF, DV.fstO, DV.esLen, DV.isNon, DV.isFlat, DV.deq, DV.deqs, -List.filter_filter, -List.map_map, -List.getD_eq_getElem?_getD, -List.length_filter_eq_length_iff, -List.length_filter_lt_length_iff_exists]) | simp [PySem.sizeLine, DV.w1, DV.wE, DV.wT, DV.wI, DV.varW, DV.getS, DV.isOwn, DV.Slot.ow, DV.setV, DV.setO, DV.look2, DV.okV, DV.cl, DV.cls, DV.cc, DV.ccs, DV.tyName, DV.noRef, DV.noRefs, DV.cstW, DV.seqOf, DV.mkTab, DV.findE, DV.findM, DV.frzS, DV.ownS, DV.frE, DV.wipeE, DV.bindT, DV.setAll, DV.dropX, DV.dropF, DV.fstO, DV.esLen, DV.isNon, DV.isFlat, DV.deq, DV.deqs, -List.filter_filter, -List.map_map, -List.getD_eq_getElem?_getD, -List.length_filter_eq_length_iff, -List.length_filter_lt_length_iff_exists]))
  exact h
theorem made_12 {d0 d1 d2 d3 d4 : D} {Q E : D → Prop} (h : Q (mkI 12 [d0, d1, d2, d3, d4])) : W_law_made [.int 12, .lst [d0, d1, d2, d3, d4]] Q E := by
  unfold W_law_made bodyW b_law_made
  simp [startE, N_law_made]
  repeat (first | with_reducible refine init_12 ?_ | (first | ((first | with_reducible refine seqT ?_ | with_reducible refine seq1 ?_ | with_reducible refine seqE ?_ | with_reducible refine seqF ?_); try simp [PySem.sizeLine, DV.w1, DV.wE, DV.wT, DV.wI, DV.varW, DV.getS, DV.isOwn, DV.Slot.ow, DV.setV, DV.setO, DV.look2, DV.okV, DV.cl, DV.cls, DV.cc, DV.ccs, DV.tyName, DV.noRef, DV.noRefs, DV.cstW, DV.seqOf, DV.mkTab, DV.findE, DV.findM, DV.frzS, DV.ownS, DV.frE, DV.wipeE, DV.bindT, DV.setAll, DV.dropX, DV.dropF, DV.fstO, DV.esLen, DV.isNon, DV.isFlat, DV.deq, DV.deqs, -List.filter_filter, -List.map_map, -List.getD_eq_getElem?_getD, -List.length_filter_eq_length_iff, -List.length_filter_lt_length_iff_exists]) | simp [PySem.sizeLine, DV.w1, DV.wE, DV.wT, DV.wI, DV.varW, DV.getS, DV.isOwn, DV.Slot.ow, DV.setV, DV.setO, DV.look2, DV.okV, DV.cl, DV.cls, DV.cc, DV.ccs, DV.tyName, DV.noRef, DV.noRefs, DV.cstW, DV.seqOf, DV.mkTab, DV.findE, DV.findM, DV.frzS, DV.ownS, DV.frE, DV.wipeE, DV.bindT, DV.setAll, DV.dropX, DV.dropF, DV.fstO, DV.esLen, DV.isNon, DV.isFlat, DV.deq, DV.deqs, -List.filter_filter, -List.map_map, -List.getD_eq_getElem?_getD, -List.length_filter_eq_length_iff, -List.length_filter_lt_length_iff_exists]))
  exact h
end Lw
namespace Lw
open DV
theorem icl_ok : ∀ k, k < 13 → k ∈ mX.icl := by decide
theorem isub_ne : ∀ c, c < 13 → ∀ k, k < 13 → c ≠ k → findB mX.isub c k = some false := by decide
theorem isub_eq : ∀ k, k < 13 → findB mX.isub k k = some true := by decide
theorem gi_0 : G_m_Pentagon___eq__.isub = findB mX.isub := rfl
theorem gc_0 : G_m_Pentagon___eq__.icl = fun c => mX.icl.contains c := rfl
theorem eqs_0 {a0 a1 a2 a3 a4 b0 b1 b2 b3 b4 : D} {Q E : D → Prop} (ha0 : eqOk a0) (ha1 : eqOk a1) (ha2 : eqOk a2) (ha3 : eqOk a3) (ha4 : eqOk a4) (hb0 : eqOk b0) (hb1 : eqOk b1) (hb2 : eqOk b2) (hb3 : eqOk b3) (hb4 : eqOk b4) (h : Q (.bl (deq a0 b0 && deq a1 b1 && deq a2 b2 && deq a3 b3 && deq a4 b4))) : W_m_Pentagon___eq__ [.ins 0 [4, 3, 2, 1, 0] [a0, a1, a2, a3, a4], .ins 0 [4, 3, 2, 1, 0] [b0, b1, b2, b3, b4]] Q E := by
  unfold W_m_Pentagon___eq__ bodyW b_m_Pentagon___eq__
  simp [startE, N_m_Pentagon___eq__]
  (repeat (first | ((first | with_reducible refine seqT ?_ | with_reducible refine seq1 ?_ | with_reducible refine seqE ?_ | with_reducible refine seqF ?_); try simp [PySem.sizeLine, DV.w1, DV.wE, DV.wT, DV.wI, DV.varW, DV.getS, DV.isOwn, DV.Slot.ow, DV.setV, DV.setO, DV.look2, DV.okV, DV.cl, DV.cls, DV.cc, DV.ccs, DV.tyName, DV.noRef, DV.noRefs, DV.cstW, DV.seqOf, DV.mkTab, DV.findE, DV.findM, DV.frzS, DV.ownS, DV.frE, DV.wipeE, DV.bindT, DV.setAll, DV.dropX, DV.dropF, DV.fstO, DV.esLen, DV.isNon, DV.isFlat, DV.deq, DV.deqs, -List.filter_filter, -List.map_map, -List.getD_eq_getElem?_getD, -List.length_filter_eq_length_iff, -List.length_filter_lt_length_iff_exists, gi_0, gc_0, icl_ok 0 (by decide), isub_eq 0 (by decide), iteAnd, iteAnd2, ha0, ha1, ha2, ha3, ha4, hb0, hb1, hb2, hb3, hb4]) | simp [PySem.sizeLine, DV.w1, DV.wE, DV.wT, DV.wI, DV.varW, DV.getS, DV.isOwn, DV.Slot.ow, DV.setV, DV.setO, DV.look2, DV.okV, DV.cl, DV.cls, DV.cc, DV.ccs, DV.tyName, DV.noRef, DV.noRefs, DV.cstW, DV.seqOf, DV.mkTab, DV.findE, DV.findM, DV.frzS, DV.ownS, DV.frE, DV.wipeE, DV.bindT, DV.setAll, DV.dropX, DV.dropF, DV.fstO, DV.esLen, DV.isNon, DV.isFlat, DV.deq, DV.deqs, -List.filter_filter, -List.map_map, -List.getD_eq_getElem?_getD, -List.length_filter_eq_length_iff, -List.length_filter_lt_length_iff_exists, gi_0, gc_0, icl_ok 0 (by decide), isub_eq 0 (by decide), iteAnd, iteAnd2, ha0, ha1, ha2, ha3, ha4, hb0, hb1, hb2, hb3, hb4]))
  all_goals first | exact h | (simp [iteAnd, iteAnd2, Bool.and_assoc] at h ⊢; exact h) | (simp_all; done) | (cases e0 : deq a0 b0 <;> cases e1 : deq a1 b1 <;> cases e2 : deq a2 b2 <;> cases e3 : deq a3 b3 <;> cases e4 : deq a4 b4 <;> simp_all)
theorem eqo_0 {c : Nat} {xs ys : List D} {ns vs : List Nat} {us : List D} {Q E : D → Prop} (hc : c < 13) (hk : c ≠ 0) (h : Q (.bl false)) : W_m_Pentagon___eq__ [.ins 0 vs xs, .ins c ns us] Q E := by
  unfold W_m_Pentagon___eq__ bodyW b_m_Pentagon___eq__
  simp [startE, N_m_Pentagon___eq__]
  repeat (first | ((first | with_reducible refine seqT ?_ | with_reducible refine seq1 ?_ | with_reducible refine seqE ?_ | with_reducible refine seqF ?_); try simp [PySem.sizeLine, DV.w1, DV.wE, DV.wT, DV.wI, DV.varW, DV.getS, DV.isOwn, DV.Slot.ow, DV.setV, DV.setO, DV.look2, DV.okV, DV.cl, DV.cls, DV.cc, DV.ccs, DV.tyName, DV.noRef, DV.noRefs, DV.cstW, DV.seqOf, DV.mkTab, DV.findE, DV.findM, DV.frzS, DV.ownS, DV.frE, DV.wipeE, DV.bindT, DV.setAll, DV.dropX, DV.dropF, DV.fstO, DV.esLen, DV.isNon, DV.isFlat, DV.deq, DV.deqs, -List.filter_filter, -List.map_map, -List.getD_eq_getElem?_getD, -List.length_filter_eq_length_iff, -List.length_filter_lt_length_iff_exists, gi_0, gc_0, icl_ok 0 (by decide), isub_ne c hc 0 (by decide) hk]) | simp [PySem.sizeLine, DV.w1, DV.wE, DV.wT, DV.wI, DV.varW, DV.getS, DV.isOwn, DV.Slot.ow, DV.setV, DV.setO, DV.look2, DV.okV, DV.cl, DV.cls, DV.cc, DV.ccs, DV.tyName, DV.noRef, DV.noRefs, DV.cstW, DV.seqOf, DV.mkTab, DV.findE, DV.findM, DV.frzS, DV.ownS, DV.frE, DV.wipeE, DV.bindT, DV.setAll, DV.dropX, DV.dropF, DV.fstO, DV.esLen, DV.isNon, DV.isFlat, DV.deq, DV.deqs, -List.filter_filter, -List.map_map, -List.getD_eq_getElem?_getD, -List.length_filter_eq_length_iff, -List.length_filter_lt_length_iff_exists, gi_0, gc_0, icl_ok 0 (by decide), isub_ne c hc 0 (by decide) hk])
  exact h
theorem eqn_0 {y : D} {xs : List D} {vs : List Nat} {Q E : D → Prop} (hy : tyName y ≠ none) (h : Q (.bl false)) : W_m_Pentagon___eq__ [.ins 0 vs xs, y] Q E := by
  unfold W_m_Pentagon___eq__ bodyW b_m_Pentagon___eq__
  simp [startE, N_m_Pentagon___eq__]
  cases y <;> first | exact absurd rfl hy | skip
  all_goals (repeat (first | ((first | with_reducible refine seqT ?_ | with_reducible refine seq1 ?_ | with_reducible refine seqE ?_ | with_reducible refine seqF ?_); try simp [PySem.sizeLine, DV.w1, DV.wE, DV.wT, DV.wI, DV.varW, DV.getS, DV.isOwn, DV.Slot.ow, DV.setV, DV.setO, DV.look2, DV.okV, DV.cl, DV.cls, DV.cc, DV.ccs, DV.tyName, DV.noRef, DV.noRefs, DV.cstW, DV.seqOf, DV.mkTab, DV.findE, DV.findM, DV.frzS, DV.ownS, DV.frE, DV.wipeE, DV.bindT, DV.setAll, DV.dropX, DV.dropF, DV.fstO, DV.esLen, DV.isNon, DV.isFlat, DV.deq, DV.deqs, -List.filter_filter, -List.map_map, -List.getD_eq_getElem?_getD, -List.length_filter_eq_length_iff, -List.length_filter_lt_length_iff_exists, gi_0, gc_0, icl_ok 0 (by decide)]) | simp [PySem.sizeLine, DV.w1, DV.wE, DV.wT, DV.wI, DV.varW, DV.getS, DV.isOwn, DV.Slot.ow, DV.setV, DV.setO, DV.look2, DV.okV, DV.cl, DV.cls, DV.cc, DV.ccs, DV.tyName, DV.noRef, DV.noRefs, DV.cstW, DV.seqOf, DV.mkTab, DV.findE, DV.findM, DV.frzS, DV.ownS, DV.frE, DV.wipeE, DV.bindT, DV.setAll, DV.dropX, DV.dropF, DV.fstO, DV.esLen, DV.isNon, DV.isFlat, DV.deq, DV.deqs, -List.filter_filter, -List.map_map, -List.getD_eq_getElem?_getD, -List.length_filter_eq_length_iff, -List.length_filter_lt_length_iff_exists, gi_0, gc_0, icl_ok 0 (by decide)]))
  all_goals exact h
theorem gi_1 : G_m_Diamond___eq__.isub = findB mX.isub := rfl
theorem gc_1 : G_m_Diamond___eq__.icl = fun c => mX.icl.contains c := rfl
theorem eqs_1 {a0 a1 a2 a3 a4 b0 b1 b2 b3 b4 : D} {Q E : D → Prop} (ha0 : eqOk a0) (ha1 : eqOk a1) (ha2 : eqOk a2) (ha3 : eqOk a3) (ha4 : eqOk a4) (hb0 : eqOk b0) (hb1 : eqOk b1) (hb2 : eqOk b2) (hb3 : eqOk b3) (hb4 : eqOk b4) (h : Q (.bl (deq a0 b0 && deq a1 b1 && deq a2 b2 && deq a3 b3 && deq a4 b4))) : W_m_Diamond___eq__ [.ins 1 [4, 7, 6, 5, 0] [a0, a1, a2, a3, a4], .ins 1 [4, 7, 6, 5, 0] [b0, b1, b2, b3, b4]] Q E := by
  unfold W_m_Diamond___eq__ bodyW b_m_Diamond___eq__
  simp [startE, N_m_Diamond___eq__]
  (repeat (first | ((first | with_reducible refine seqT ?_ | with_reducible refine seq1 ?_ | with_reducible refine seqE ?_ | with_reducible refine seqF ?_); try simp [PySem.sizeLine, DV.w1, DV.wE, DV.wT, DV.wI, DV.varW, DV.getS, DV.isOwn, DV.Slot.ow, DV.setV, DV.setO, DV.look2, DV.okV, DV.cl, DV.cls, DV.cc, DV.ccs, DV.tyName, DV.noRef, DV.noRefs, DV.cstW, DV.seqOf, DV.mkTab, DV.findE, DV.findM, DV.frzS, DV.ownS, DV.frE, DV.wipeE, DV.bindT, DV.setAll, DV.dropX, DV.dropF, DV.fstO, DV.esLen, DV.isNon, DV.isFlat, DV.deq, DV.deqs, -List.filter_filter, -List.map_map, -List.getD_eq_getElem?_getD, -List.length_filter_eq_length_iff, -List.length_filter_lt_length_iff_exists, gi_1, gc_1, icl_ok 1 (by decide), isub_eq 1 (by decide), iteAnd, iteAnd2, ha0, ha1, ha2, ha3, ha4, hb0, hb1, hb2, hb3, hb4]) | simp [PySem.sizeLine, DV.w1, DV.wE, DV.wT, DV.wI, DV.varW, DV.getS, DV.isOwn, DV.Slot.ow, DV.setV, DV.setO, DV.look2, DV.okV, DV.cl, DV.cls, DV.cc, DV.ccs, DV.tyName, DV.noRef, DV.noRefs, DV.cstW, DV.seqOf, DV.mkTab, DV.findE, DV.findM, DV.frzS, DV.ownS, DV.frE, DV.wipeE, DV.bindT, DV.setAll, DV.dropX, DV.dropF, DV.fstO, DV.esLen, DV.isNon, DV.isFlat, DV.deq, DV.deqs, -List.filter_filter, -List.map_map, -List.getD_eq_getElem?_getD, -List.length_filter_eq_length_iff, -List.length_filter_lt_length_iff_exists, gi_1, gc_1, icl_ok 1 (by decide), isub_eq 1 (by decide), iteAnd, iteAnd2, ha0, ha1, ha2, ha3, ha4, hb0, hb1, hb2, hb3, hb4]))
  all_goals first | exact h | (simp [iteAnd, iteAnd2, Bool.and_assoc] at h ⊢; exact h) | (simp_all; done) | (cases e0 : deq a0 b0 <;> cases e1 : deq a1 b1 <;> cases e2 : deq a2 b2 <;> cases e3 : deq a3 b3 <;> cases e4 : deq a4 b4 <;> simp_all)
theorem eqo_1 {c : Nat} {xs ys : List D} {ns vs : List Nat} {us : List D} {Q E : D → Prop} (hc : c < 13) (hk : c ≠ 1) (h : Q (.bl false)) : W_m_Diamond___eq__ [.ins 1 vs xs, .ins c ns us] Q E := by
  unfold W_m_Diamond___eq__ bodyW b_m_Diamond___eq__
  simp [startE, N_m_Diamond___eq__]
  repeat (first | ((first | with_reducible refine seqT ?_ | with_reducible refine seq1 ?_ | with_reducible refine seqE ?_ | with_reducible refine seqF ?_); try simp [PySem.sizeLine, DV.w1, DV.wE, DV.wT, DV.wI, DV.varW, DV.getS, DV.isOwn, DV.Slot.ow, DV.setV, DV.setO, DV.look2, DV.okV, DV.cl, DV.cls, DV.cc, DV.ccs, DV.tyName, DV.noRef, DV.noRefs, DV.cstW, DV.seqOf, DV.mkTab, DV.findE, DV.findM, DV.frzS, DV.ownS, DV.frE, DV.wipeE, DV.bindT, DV.setAll, DV.dropX, DV.dropF, DV.fstO, DV.esLen, DV.isNon, DV.isFlat, DV.deq, DV.deqs, -List.filter_filter, -List.map_map, -List.getD_eq_getElem?_getD, -List.length_filter_eq_length_iff, -List.length_filter_lt_length_iff_exists, gi_1, gc_1, icl_ok 1 (by decide), isub_ne c hc 1 (by decide) hk]) | simp [PySem.sizeLine, DV.w1, DV.wE, DV.wT, DV.wI, DV.varW, DV.getS, DV.isOwn, DV.Slot.ow, DV.setV, DV.setO, DV.look2, DV.okV, DV.cl, DV.cls, DV.cc, DV.ccs, DV.tyName, DV.noRef, DV.noRefs, DV.cstW, DV.seqOf, DV.mkTab, DV.findE, DV.findM, DV.frzS, DV.ownS, DV.frE, DV.wipeE, DV.bindT, DV.setAll, DV.dropX, DV.dropF, DV.fstO, DV.esLen, DV.isNon, DV.isFlat, DV.deq, DV.deqs, -List.filter_filter, -List.map_map, -List.getD_eq_getElem?_getD, -List.length_filter_eq_length_iff, -List.length_filter_lt_length_iff_exists, gi_1, gc_1, icl_ok 1 (by decide), isub_ne c hc 1 (by decide) hk])
  exact h
theorem eqn_1 {y : D} {xs : List D} {vs : List Nat} {Q E : D → Prop} (hy : tyName y ≠ none) (h : Q (.bl false)) : W_m_Diamond___eq__ [.ins 1 vs xs, y] Q E := by
  unfold W_m_Diamond___eq__ bodyW b_m_Diamond___eq__
  simp [startE, N_m_Diamond___eq__]
  cases y <;> first | exact absurd rfl hy | skip
  all_goals (repeat (first | ((first | with_reducible refine seqT ?_ | with_reducible refine seq1 ?_ | with_reducible refine seqE ?_ | with_reducible refine seqF ?_); try simp [PySem.sizeLine, DV.w1, DV.wE, DV.wT, DV.wI, DV.varW, DV.getS, DV.isOwn, DV.Slot.ow, DV.setV, DV.setO, DV.look2, DV.okV, DV.cl, DV.cls, DV.cc, DV.ccs, DV.tyName, DV.noRef, DV.noRefs, DV.cstW, DV.seqOf, DV.mkTab, DV.findE, DV.findM, DV.frzS, DV.ownS, DV.frE, DV.wipeE, DV.bindT, DV.setAll, DV.dropX, DV.dropF, DV.fstO, DV.esLen, DV.isNon, DV.isFlat, DV.deq, DV.deqs, -List.filter_filter, -List.map_map, -List.getD_eq_getElem?_getD, -List.length_filter_eq_length_iff, -List.length_filter_lt_length_iff_exists, gi_1, gc_1, icl_ok 1 (by decide)]) | simp [PySem.sizeLine, DV.w1, DV.wE, DV.wT, DV.wI, DV.varW, DV.getS, DV.isOwn, DV.Slot.ow, DV.setV, DV.setO, DV.look2, DV.okV, DV.cl, DV.cls, DV.cc, DV.ccs, DV.tyName, DV.noRef, DV.noRefs, DV.cstW, DV.seqOf, DV.mkTab, DV.findE, DV.findM, DV.frzS, DV.ownS, DV.frE, DV.wipeE, DV.bindT, DV.setAll, DV.dropX, DV.dropF, DV.fstO, DV.esLen, DV.isNon, DV.isFlat, DV.deq, DV.deqs, -List.filter_filter, -List.map_map, -List.getD_eq_getElem?_getD, -List.length_filter_eq_length_iff, -List.length_filter_lt_length_iff_exists, gi_1, gc_1, icl_ok 1 (by decide)]))
  all_goals exact h
theorem gi_2 : G_m_Found___eq__.isub = findB mX.isub := rfl
theorem gc_2 : G_m_Found___eq__.icl = fun c => mX.icl.contains c := rfl
theorem eqs_2 {a0 a1 a2 b0 b1 b2 : D} {Q E : D → Prop} (ha0 : eqOk a0) (ha1 : eqOk a1) (ha2 : eqOk a2) (hb0 : eqOk b0) (hb1 : eqOk b1) (hb2 : eqOk b2) (h : Q (.bl (deq a0 b0 && deq a1 b1 && deq a2 b2))) : W_m_Found___eq__ [.ins 2 [10, 9, 8] [a0, a1, a2], .ins 2 [10, 9, 8] [b0, b1, b2]] Q E := by
  unfold W_m_Found___eq__ bodyW b_m_Found___eq__
  simp [startE, N_m_Found___eq__]
  (repeat (first | ((first | with_reducible refine seqT ?_ | with_reducible refine seq1 ?_ | with_reducible refine seqE ?_ | with_reducible refine seqF ?_); try simp [PySem.sizeLine, DV.w1, DV.wE, DV.wT, DV.wI, DV.varW, DV.getS, DV.isOwn, DV.Slot.ow, DV.setV, DV.setO, DV.look2, DV.okV, DV.cl, DV.cls, DV.cc, DV.ccs, DV.tyName, DV.noRef, DV.noRefs, DV.cstW, DV.seqOf, DV.mkTab, DV.findE, DV.findM, DV.frzS, DV.ownS, DV.frE, DV.wipeE, DV.bindT, DV.setAll, DV.dropX, DV.dropF, DV.fstO, DV.esLen, DV.isNon, DV.isFlat, DV.deq, DV.deqs, -List.filter_filter, -List.map_map, -List.getD_eq_getElem?_getD, -List.length_filter_eq_length_iff, -List.length_filter_lt_length_iff_exists, gi_2, gc_2, icl_ok 2 (by decide), isub_eq 2 (by decide), iteAnd, iteAnd2, ha0, ha1, ha2, hb0, hb1, hb2]) | simp [PySem.sizeLine, DV.w1, DV.wE, DV.wT, DV.wI, DV.varW, DV.getS, DV.isOwn, DV.Slot.ow, DV.setV, DV.setO, DV.look2, DV.okV, DV.cl, DV.cls, DV.cc, DV.ccs, DV.tyName, DV.noRef, DV.noRefs, DV.cstW, DV.seqOf, DV.mkTab, DV.findE, DV.findM, DV.frzS, DV.ownS, DV.frE, DV.wipeE, DV.bindT, DV.setAll, DV.dropX, DV.dropF, DV.fstO, DV.esLen, DV.isNon, DV.isFlat, DV.deq, DV.deqs, -List.filter_filter, -List.map_map, -List.getD_eq_getElem?_getD, -List.length_filter_eq_length_iff, -List.length_filter_lt_length_iff_exists, gi_2, gc_2, icl_ok 2 (by decide), isub_eq 2 (by decide), iteAnd, iteAnd2, ha0, ha1, ha2, hb0, hb1, hb2]))
  all_goals first | exact h | (simp [iteAnd, iteAnd2, Bool.and_assoc] at h ⊢; exact h) | (simp_all; done) | (cases e0 : deq a0 b0 <;> cases e1 : deq a1 b1 <;> cases e2 : deq a2 b2 <;> simp_all)
theorem eqo_2 {c : Nat} {xs ys : List D} {ns vs : List Nat} {us : List D} {Q E : D → Prop} (hc : c < 13) (hk : c ≠ 2) (h : Q (.bl false)) : W_m_Found___eq__ [.ins 2 vs xs, .ins c ns us] Q E := by
  unfold W_m_Found___eq__ bodyW b_m_Found___eq__
  simp [startE, N_m_Found___eq__]
  repeat (first | ((first | with_reducible refine seqT ?_ | with_reducible refine seq1 ?_ | with_reducible refine seqE ?_ | with_reducible refine seqF ?_); try simp [PySem.sizeLine, DV.w1, DV.wE, DV.wT, DV.wI, DV.varW, DV.getS, DV.isOwn, DV.Slot.ow, DV.setV, DV.setO, DV.look2, DV.okV, DV.cl, DV.cls, DV.cc, DV.ccs, DV.tyName, DV.noRef, DV.noRefs, DV.cstW, DV.seqOf, DV.mkTab, DV.findE, DV.findM, DV.frzS, DV.ownS, DV.frE, DV.wipeE, DV.bindT, DV.setAll, DV.dropX, DV.dropF, DV.fstO, DV.esLen, DV.isNon, DV.isFlat, DV.deq, DV.deqs, -List.filter_filter, -List.map_map, -List.getD_eq_getElem?_getD, -List.length_filter_eq_length_iff, -List.length_filter_lt_length_iff_exists, gi_2, gc_2, icl_ok 2 (by decide), isub_ne c hc 2 (by decide) hk]) | simp [PySem.sizeLine, DV.w1, DV.wE, DV.wT, DV.wI, DV.varW, DV.getS, DV.isOwn, DV.Slot.ow, DV.setV, DV.setO, DV.look2, DV.okV, DV.cl, DV.cls, DV.cc, DV.ccs, DV.tyName, DV.noRef, DV.noRefs, DV.cstW, DV.seqOf, DV.mkTab, DV.findE, DV.findM, DV.frzS, DV.ownS, DV.frE, DV.wipeE, DV.bindT, DV.setAll, DV.dropX, DV.dropF, DV.fstO, DV.esLen, DV.isNon, DV.isFlat, DV.deq, DV.deqs, -List.filter_filter, -List.map_map, -List.getD_eq_getElem?_getD, -List.length_filter_eq_length_iff, -List.length_filter_lt_length_iff_exists, gi_2, gc_2, icl_ok 2 (by decide), isub_ne c hc 2 (by decide) hk])
  exact h
theorem eqn_2 {y : D} {xs : List D} {vs : List Nat} {Q E : D → Prop} (hy : tyName y ≠ none) (h : Q (.bl false)) : W_m_Found___eq__ [.ins 2 vs xs, y] Q E := by
  unfold W_m_Found___eq__ bodyW b_m_Found___eq__
  simp [startE, N_m_Found___eq__]
  cases y <;> first | exact absurd rfl hy | skip
  all_goals (repeat (first | ((first | with_reducible refine seqT ?_ | with_reducible refine seq1 ?_ | with_reducible refine seqE ?_ | with_reducible refine seqF ?_); try simp [PySem.sizeLine, DV.w1, DV.wE, DV.wT, DV.wI, DV.varW, DV.getS, DV.isOwn, DV.Slot.ow, DV.setV, DV.setO, DV.look2, DV.okV, DV.cl, DV.cls, DV.cc, DV.ccs, DV.tyName, DV.noRef, DV.noRefs, DV.cstW, DV.seqOf, DV.mkTab, DV.findE, DV.findM, DV.frzS, DV.ownS, DV.frE, DV.wipeE, DV.bindT, DV.setAll, DV.dropX, DV.dropF, DV.fstO, DV.esLen, DV.isNon, DV.isFlat, DV.deq, DV.deqs, -List.filter_filter, -List.map_map, -List.getD_eq_getElem?_getD, -List.length_filter_eq_length_iff, -List.length_filter_lt_length_iff_exists, gi_2, gc_2, icl_ok 2 (by decide)]) | simp [PySem.sizeLine, DV.w1, DV.wE, DV.wT, DV.wI, DV.varW, DV.getS, DV.isOwn, DV.Slot.ow, DV.setV, DV.setO, DV.look2, DV.okV, DV.cl, DV.cls, DV.cc, DV.ccs, DV.tyName, DV.noRef, DV.noRefs, DV.cstW, DV.seqOf, DV.mkTab, DV.findE, DV.findM, DV.frzS, DV.ownS, DV.frE, DV.wipeE, DV.bindT, DV.setAll, DV.dropX, DV.dropF, DV.fstO, DV.esLen, DV.isNon, DV.isFlat, DV.deq, DV.deqs, -List.filter_filter, -List.map_map, -List.getD_eq_getElem?_getD, -List.length_filter_eq_length_iff, -List.length_filter_lt_length_iff_exists, gi_2, gc_2, icl_ok 2 (by decide)]))
  all_goals exact h
theorem gi_3 : G_m_Doubt___eq__.isub = findB mX.isub := rfl
theorem gc_3 : G_m_Doubt___eq__.icl = fun c => mX.icl.contains c := rfl
theorem eqs_3 {a0 a1 a2 a3 b0 b1 b2 b3 : D} {Q E : D → Prop} (ha0 : eqOk a0) (ha1 : eqOk a1) (ha2 : eqOk a2) (ha3 : eqOk a3) (hb0 : eqOk b0) (hb1 : eqOk b1) (hb2 : eqOk b2) (hb3 : eqOk b3) (h : Q (.bl (deq a0 b0 && deq a1 b1 && deq a2 b2 && deq a3 b3))) : W_m_Doubt___eq__ [.ins 3 [4, 0, 12, 11] [a0, a1, a2, a3], .ins 3 [4, 0, 12, 11] [b0, b1, b2, b3]] Q E := by
  unfold W_m_Doubt___eq__ bodyW b_m_Doubt___eq__
  simp [startE, N_m_Doubt___eq__]
  (repeat (first | ((first | with_reducible refine seqT ?_ | with_reducible refine seq1 ?_ | with_reducible refine seqE ?_ | with_reducible refine seqF ?_); try simp [PySem.sizeLine, DV.w1, DV.wE, DV.wT, DV.wI, DV.varW, DV.getS, DV.isOwn, DV.Slot.ow, DV.setV, DV.setO, DV.look2, DV.okV, DV.cl, DV.cls, DV.cc, DV.ccs, DV.tyName, DV.noRef, DV.noRefs, DV.cstW, DV.seqOf, DV.mkTab, DV.findE, DV.findM, DV.frzS, DV.ownS, DV.frE, DV.wipeE, DV.bindT, DV.setAll, DV.dropX, DV.dropF, DV.fstO, DV.esLen, DV.isNon, DV.isFlat, DV.deq, DV.deqs, -List.filter_filter, -List.map_map, -List.getD_eq_getElem?_getD, -List.length_filter_eq_length_iff, -List.length_filter_lt_length_iff_exists, gi_3, gc_3, icl_ok 3 (by decide), isub_eq 3 (by decide), iteAnd, iteAnd2, ha0, ha1, ha2, ha3, hb0, hb1, hb2, hb3]) | simp [PySem.sizeLine, DV.w1, DV.wE, DV.wT, DV.wI, DV.varW, DV.getS, DV.isOwn, DV.Slot.ow, DV.setV, DV.setO, DV.look2, DV.okV, DV.cl, DV.cls, DV.cc, DV.ccs, DV.tyName, DV.noRef, DV.noRefs, DV.cstW, DV.seqOf, DV.mkTab, DV.findE, DV.findM, DV.frzS, DV.ownS, DV.frE, DV.wipeE, DV.bindT, DV.setAll, DV.dropX, DV.dropF, DV.fstO, DV.esLen, DV.isNon, DV.isFlat, DV.deq, DV.deqs, -List.filter_filter, -List.map_map, -List.getD_eq_getElem?_getD, -List.length_filter_eq_length_iff, -List.length_filter_lt_length_iff_exists, gi_3, gc_3, icl_ok 3 (by decide), isub_eq 3 (by decide), iteAnd, iteAnd2, ha0, ha1, ha2, ha3, hb0, hb1, hb2, hb3]))
  all_goals first | exact h | (simp [iteAnd, iteAnd2, Bool.and_assoc] at h ⊢; exact h) | (simp_all; done) | (cases e0 : deq a0 b0 <;> cases e1 : deq a1 b1 <;> cases e2 : deq a2 b2 <;> cases e3 : deq a3 b3 <;> simp_all)
theorem eqo_3 {c : Nat} {xs ys : List D} {ns vs : List Nat} {us : List D} {Q E : D → Prop} (hc : c < 13) (hk : c ≠ 3) (h : Q (.bl false)) : W_m_Doubt___eq__ [.ins 3 vs xs, .ins c ns us] Q E := by
  unfold W_m_Doubt___eq__ bodyW b_m_Doubt___eq__
  simp [startE, N_m_Doubt___eq__]
  repeat (first | ((first | with_reducible refine seqT ?_ | with_reducible refine seq1 ?_ | with_reducible refine seqE ?_ | with_reducible refine seqF ?_); try simp [PySem.sizeLine, DV.w1, DV.wE, DV.wT, DV.wI, DV.varW, DV.getS, DV.isOwn, DV.Slot.ow, DV.setV, DV.setO, DV.look2, DV.okV, DV.cl, DV.cls, DV.cc, DV.ccs, DV.tyName, DV.noRef, DV.noRefs, DV.cstW, DV.seqOf, DV.mkTab, DV.findE, DV.findM, DV.frzS, DV.ownS, DV.frE, DV.wipeE, DV.bindT, DV.setAll, DV.dropX, DV.dropF, DV.fstO, DV.esLen, DV.isNon, DV.isFlat, DV.deq, DV.deqs, -List.filter_filter, -List.map_map, -List.getD_eq_getElem?_getD, -List.length_filter_eq_length_iff, -List.length_filter_lt_length_iff_exists, gi_3, gc_3, icl_ok 3 (by decide), isub_ne c hc 3 (by decide) hk]) | simp [PySem.sizeLine, DV.w1, DV.wE, DV.wT, DV.wI, DV.varW, DV.getS, DV.isOwn, DV.Slot.ow, DV.setV, DV.setO, DV.look2, DV.okV, DV.cl, DV.cls, DV.cc, DV.ccs, DV.tyName, DV.noRef, DV.noRefs, DV.cstW, DV.seqOf, DV.mkTab, DV.findE, DV.findM, DV.frzS, DV.ownS, DV.frE, DV.wipeE, DV.bindT, DV.setAll, DV.dropX, DV.dropF, DV.fstO, DV.esLen, DV.isNon, DV.isFlat, DV.deq, DV.deqs, -List.filter_filter, -List.map_map, -List.getD_eq_getElem?_getD, -List.length_filter_eq_length_iff, -List.length_filter_lt_length_iff_exists, gi_3, gc_3, icl_ok 3 (by decide), isub_ne c hc 3 (by decide) hk])
  exact h
theorem eqn_3 {y : D} {xs : List D} {vs : List Nat} {Q E : D → Prop} (hy : tyName y ≠ none) (h : Q (.bl false)) : W_m_Doubt___eq__ [.ins 3 vs xs, y] Q E := by
  unfold W_m_Doubt___eq__ bodyW b_m_Doubt___eq__
  simp [startE, N_m_Doubt___eq__]
  cases y <;> first | exact absurd rfl hy | skip
  all_goals (repeat (first | ((first | with_reducible refine seqT ?_ | with_reducible refine seq1 ?_ | with_reducible refine seqE ?_ | with_reducible refine seqF ?_); try simp [PySem.sizeLine, DV.w1, DV.wE, DV.wT, DV.wI, DV.varW, DV.getS, DV.isOwn, DV.Slot.ow, DV.setV, DV.setO, DV.look2, DV.okV, DV.cl, DV.cls, DV.cc, DV.ccs, DV.tyName, DV.noRef, DV.noRefs, DV.cstW, DV.seqOf, DV.mkTab, DV.findE, DV.findM, DV.frzS, DV.ownS, DV.frE, DV.wipeE, DV.bindT, DV.setAll, DV.dropX, DV.dropF, DV.fstO, DV.esLen, DV.isNon, DV.isFlat, DV.deq, DV.deqs, -List.filter_filter, -List.map_map, -List.getD_eq_getElem?_getD, -List.length_filter_eq_length_iff, -List.length_filter_lt_length_iff_exists, gi_3, gc_3, icl_ok 3 (by decide)]) | simp [PySem.sizeLine, DV.w1, DV.wE, DV.wT, DV.wI, DV.varW, DV.getS, DV.isOwn, DV.Slot.ow, DV.setV, DV.setO, DV.look2, DV.okV, DV.cl, DV.cls, DV.cc, DV.ccs, DV.tyName, DV.noRef, DV.noRefs, DV.cstW, DV.seqOf, DV.mkTab, DV.findE, DV.findM, DV.frzS, DV.ownS, DV.frE, DV.wipeE, DV.bindT, DV.setAll, DV.dropX, DV.dropF, DV.fstO, DV.esLen, DV.isNon, DV.isFlat, DV.deq, DV.deqs, -List.filter_filter, -List.map_map, -List.getD_eq_getElem?_getD, -List.length_filter_eq_length_iff, -List.length_filter_lt_length_iff_exists, gi_3, gc_3, icl_ok 3 (by decide)]))
  all_goals exact h
theorem gi_4 : G_m_Passing___eq__.isub = findB mX.isub := rfl
theorem gc_4 : G_m_Passing___eq__.icl = fun c => mX.icl.contains c := rfl
theorem eqs_4 {a0 a1 b0 b1 : D} {Q E : D → Prop} (ha0 : eqOk a0) (ha1 : eqOk a1) (hb0 : eqOk b0) (hb1 : eqOk b1) (h : Q (.bl (deq a0 b0 && deq a1 b1))) : W_m_Passing___eq__ [.ins 4 [14, 13] [a0, a1], .ins 4 [14, 13] [b0, b1]] Q E := by
  unfold W_m_Passing___eq__ bodyW b_m_Passing___eq__
  simp [startE, N_m_Passing___eq__]
  (repeat (first | ((first | with_reducible refine seqT ?_ | with_reducible refine seq1 ?_ | with_reducible refine seqE ?_ | with_reducible refine seqF ?_); try simp [PySem.sizeLine, DV.w1, DV.wE, DV.wT, DV.wI, DV.varW, DV.getS, DV.isOwn, DV.Slot.ow, DV.setV, DV.setO, DV.look2, DV.okV, DV.cl, DV.cls, DV.cc, DV.ccs, DV.tyName, DV.noRef, DV.noRefs, DV.cstW, DV.seqOf, DV.mkTab, DV.findE, DV.findM, DV.frzS, DV.ownS, DV.frE, DV.wipeE, DV.bindT, DV.setAll, DV.dropX, DV.dropF, DV.fstO, DV.esLen, DV.isNon, DV.isFlat, DV.deq, DV.deqs, -List.filter_filter, -List.map_map, -List.getD_eq_getElem?_getD, -List.length_filter_eq_length_iff, -List.length_filter_lt_length_iff_exists, gi_4, gc_4, icl_ok 4 (by decide), isub_eq 4 (by decide), iteAnd, iteAnd2, ha0, ha1, hb0, hb1]) | simp [PySem.sizeLine, DV.w1, DV.wE, DV.wT, DV.wI, DV.varW, DV.getS, DV.isOwn, DV.Slot.ow, DV.setV, DV.setO, DV.look2, DV.okV, DV.cl, DV.cls, DV.cc, DV.ccs, DV.tyName, DV.noRef, DV.noRefs, DV.cstW, DV.seqOf, DV.mkTab, DV.findE, DV.findM, DV.frzS, DV.ownS, DV.frE, DV.wipeE, DV.bindT, DV.setAll, DV.dropX, DV.dropF, DV.fstO, DV.esLen, DV.isNon, DV.isFlat, DV.deq, DV.deqs, -List.filter_filter, -List.map_map, -List.getD_eq_getElem?_getD, -List.length_filter_eq_length_iff, -List.length_filter_lt_length_iff_exists, gi_4, gc_4, icl_ok 4 (by decide), isub_eq 4 (by decide), iteAnd, iteAnd2, ha0, ha1, hb0, hb1]))
  all_goals first | exact h | (simp [iteAnd, iteAnd2, Bool.and_assoc] at h ⊢; exact h) | (simp_all; done) | (cases e0 : deq a0 b0 <;> cases e1 : deq a1 b1 <;> simp_all)
theorem eqo_4 {c : Nat} {xs ys : List D} {ns vs : List Nat} {us : List D} {Q E : D → Prop} (hc : c < 13) (hk : c ≠ 4) (h : Q (.bl false)) : W_m_Passing___eq__ [.ins 4 vs xs, .ins c ns us] Q E := by
  unfold W_m_Passing___eq__ bodyW b_m_Passing___eq__
  simp [startE, N_m_Passing___eq__]
  repeat (first | ((first | with_reducible refine seqT ?_ | with_reducible refine seq1 ?_ | with_reducible refine seqE ?_ | with_reducible refine seqF ?_); try simp [PySem.sizeLine, DV.w1, DV.wE, DV.wT, DV.wI, DV.varW, DV.getS, DV.isOwn, DV.Slot.ow, DV.setV, DV.setO, DV.look2, DV.okV, DV.cl, DV.cls, DV.cc, DV.ccs, DV.tyName, DV.noRef, DV.noRefs, DV.cstW, DV.seqOf, DV.mkTab, DV.findE, DV.findM, DV.frzS, DV.ownS, DV.frE, DV.wipeE, DV.bindT, DV.setAll, DV.dropX, DV.dropF, DV.fstO, DV.esLen, DV.isNon, DV.isFlat, DV.deq, DV.deqs, -List.filter_filter, -List.map_map, -List.getD_eq_getElem?_getD, -List.length_filter_eq_length_iff, -List.length_filter_lt_length_iff_exists, gi_4, gc_4, icl_ok 4 (by decide), isub_ne c hc 4 (by decide) hk]) | simp [PySem.sizeLine, DV.w1, DV.wE, DV.wT, DV.wI, DV.varW, DV.getS, DV.isOwn, DV.Slot.ow, DV.setV, DV.setO, DV.look2, DV.okV, DV.cl, DV.cls, DV.cc, DV.ccs, DV.tyName, DV.noRef, DV.noRefs, DV.cstW, DV.seqOf, DV.mkTab, DV.findE, DV.findM, DV.frzS, DV.ownS, DV.frE, DV.wipeE, DV.bindT, DV.setAll, DV.dropX, DV.dropF, DV.fstO, DV.esLen, DV.isNon, DV.isFlat, DV.deq, DV.deqs, -List.filter_filter, -List.map_map, -List.getD_eq_getElem?_getD, -List.length_filter_eq_length_iff, -List.length_filter_lt_length_iff_exists, gi_4, gc_4, icl_ok 4 (by decide), isub_ne c hc 4 (by decide) hk])
  exact h
theorem eqn_4 {y : D} {xs : List D} {vs : List Nat} {Q E : D → Prop} (hy : tyName y ≠ none) (h : Q (.bl false)) : W_m_Passing___eq__ [.ins 4 vs xs, y] Q E := by
  unfold W_m_Passing___eq__ bodyW b_m_Passing___eq__
  simp [startE, N_m_Passing___eq__]
  cases y <;> first | exact absurd rfl hy | skip
  all_goals (repeat (first | ((first | with_reducible refine seqT ?_ | with_reducible refine seq1 ?_ | with_reducible refine seqE ?_ | with_reducible refine seqF ?_); try simp [PySem.sizeLine, DV.w1, DV.wE, DV.wT, DV.wI, DV.varW, DV.getS, DV.isOwn, DV.Slot.ow, DV.setV, DV.setO, DV.look2, DV.okV, DV.cl, DV.cls, DV.cc, DV.ccs, DV.tyName, DV.noRef, DV.noRefs, DV.cstW, DV.seqOf, DV.mkTab, DV.findE, DV.findM, DV.frzS, DV.ownS, DV.frE, DV.wipeE, DV.bindT, DV.setAll, DV.dropX, DV.dropF, DV.fstO, DV.esLen, DV.isNon, DV.isFlat, DV.deq, DV.deqs, -List.filter_filter, -List.map_map, -List.getD_eq_getElem?_getD, -List.length_filter_eq_length_iff, -List.length_filter_lt_length_iff_exists, gi_4, gc_4, icl_ok 4 (by decide)]) | simp [PySem.sizeLine, DV.w1, DV.wE, DV.wT, DV.wI, DV.varW, DV.getS, DV.isOwn, DV.Slot.ow, DV.setV, DV.setO, DV.look2, DV.okV, DV.cl, DV.cls, DV.cc, DV.ccs, DV.tyName, DV.noRef, DV.noRefs, DV.cstW, DV.seqOf, DV.mkTab, DV.findE, DV.findM, DV.frzS, DV.ownS, DV.frE, DV.wipeE, DV.bindT, DV.setAll, DV.dropX, DV.dropF, DV.fstO, DV.esLen, DV.isNon, DV.isFlat, DV.deq, DV.deqs, -List.filter_filter, -List.map_map, -List.getD_eq_getElem?_getD, -List.length_filter_eq_length_iff, -List.length_filter_lt_length_iff_exists, gi_4, gc_4, icl_ok 4 (by decide)]))
  all_goals exact h
theorem gi_5 : G_m_Within___eq__.isub = findB mX.isub := rfl
theorem gc_5 : G_m_Within___eq__.icl = fun c => mX.icl.contains c := rfl
theorem eqs_5 {a0 a1 b0 b1 : D} {Q E : D → Prop} (ha0 : eqOk a0) (ha1 : eqOk a1) (hb0 : eqOk b0) (hb1 : eqOk b1) (h : Q (.bl (deq a0 b0 && deq a1 b1))) : W_m_Within___eq__ [.ins 5 [9, 15] [a0, a1], .ins 5 [9, 15] [b0, b1]] Q E := by
  unfold W_m_Within___eq__ bodyW b_m_Within___eq__
  simp [startE, N_m_Within___eq__]
  (repeat (first | ((first | with_reducible refine seqT ?_ | with_reducible refine seq1 ?_ | with_reducible refine seqE ?_ | with_reducible refine seqF ?_); try simp [PySem.sizeLine, DV.w1, DV.wE, DV.wT, DV.wI, DV.varW, DV.getS, DV.isOwn, DV.Slot.ow, DV.setV, DV.setO, DV.look2, DV.okV, DV.cl, DV.cls, DV.cc, DV.ccs, DV.tyName, DV.noRef, DV.noRefs, DV.cstW, DV.seqOf, DV.mkTab, DV.findE, DV.findM, DV.frzS, DV.ownS, DV.frE, DV.wipeE, DV.bindT, DV.setAll, DV.dropX, DV.dropF, DV.fstO, DV.esLen, DV.isNon, DV.isFlat, DV.deq, DV.deqs, -List.filter_filter, -List.map_map, -List.getD_eq_getElem?_getD, -List.length_filter_eq_length_iff, -List.length_filter_lt_length_iff_exists, gi_5, gc_5, icl_ok 5 (by decide), isub_eq 5 (by decide), iteAnd, iteAnd2, ha0, ha1, hb0, hb1]) | simp [PySem.sizeLine, DV.w1, DV.wE, DV.wT, DV.wI, DV.varW, DV.getS, DV.isOwn, DV.Slot.ow, DV.setV, DV.setO, DV.look2, DV.okV, DV.cl, DV.cls, DV.cc, DV.ccs, DV.tyName, DV.noRef, DV.noRefs, DV.cstW, DV.seqOf, DV.mkTab, DV.findE, DV.findM, DV.frzS, DV.ownS, DV.frE, DV.wipeE, DV.bindT, DV.setAll, DV.dropX, DV.dropF, DV.fstO, DV.esLen, DV.isNon, DV.isFlat, DV.deq, DV.deqs, -List.filter_filter, -List.map_map, -List.getD_eq_getElem?_getD, -List.length_filter_eq_length_iff, -List.length_filter_lt_length_iff_exists, gi_5, gc_5, icl_ok 5 (by decide), isub_eq 5 (by decide), iteAnd, iteAnd2, ha0, ha1, hb0, hb1]))
  all_goals first | exact h | (simp [iteAnd, iteAnd2, Bool.and_assoc] at h ⊢; exact h) | (simp_all; done) | (cases e0 : deq a0 b0 <;> cases e1 : deq a1 b1 <;> simp_all)
theorem eqo_5 {c : Nat} {xs ys : List D} {ns vs : List Nat} {us : List D} {Q E : D → Prop} (hc : c < 13) (hk : c ≠ 5) (h : Q (.bl false)) : W_m_Within___eq__ [.ins 5 vs xs, .ins c ns us] Q E := by
  unfold W_m_Within___eq__ bodyW b_m_Within___eq__
  simp [startE, N_m_Within___eq__]
  repeat (first | ((first | with_reducible refine seqT ?_ | with_reducible refine seq1 ?_ | with_reducible refine seqE ?_ | with_reducible refine seqF ?_); try simp [PySem.sizeLine, DV.w1, DV.wE, DV.wT, DV.wI, DV.varW, DV.getS, DV.isOwn, DV.Slot.ow, DV.setV, DV.setO, DV.look2, DV.okV, DV.cl, DV.cls, DV.cc, DV.ccs, DV.tyName, DV.noRef, DV.noRefs, DV.cstW, DV.seqOf, DV.mkTab, DV.findE, DV.findM, DV.frzS, DV.ownS, DV.frE, DV.wipeE, DV.bindT, DV.setAll, DV.dropX, DV.dropF, DV.fstO, DV.esLen, DV.isNon, DV.isFlat, DV.deq, DV.deqs, -List.filter_filter, -List.map_map, -List.getD_eq_getElem?_getD, -List.length_filter_eq_length_iff, -List.length_filter_lt_length_iff_exists, gi_5, gc_5, icl_ok 5 (by decide), isub_ne c hc 5 (by decide) hk]) | simp [PySem.sizeLine, DV.w1, DV.wE, DV.wT, DV.wI, DV.varW, DV.getS, DV.isOwn, DV.Slot.ow, DV.setV, DV.setO, DV.look2, DV.okV, DV.cl, DV.cls, DV.cc, DV.ccs, DV.tyName, DV.noRef, DV.noRefs, DV.cstW, DV.seqOf, DV.mkTab, DV.findE, DV.findM, DV.frzS, DV.ownS, DV.frE, DV.wipeE, DV.bindT, DV.setAll, DV.dropX, DV.dropF, DV.fstO, DV.esLen, DV.isNon, DV.isFlat, DV.deq, DV.deqs, -List.filter_filter, -List.map_map, -List.getD_eq_getElem?_getD, -List.length_filter_eq_length_iff, -List.length_filter_lt_length_iff_exists, gi_5, gc_5, icl_ok 5 (by decide), isub_ne c hc 5 (by decide) hk])
  exact h
theorem eqn_5 {y : D} {xs : List D} {vs : List Nat} {Q E : D → Prop} (hy : tyName y ≠ none) (h : Q (.bl false)) : W_m_Within___eq__ [.ins 5 vs xs, y] Q E := by
  unfold W_m_Within___eq__ bodyW b_m_Within___eq__
  simp [startE, N_m_Within___eq__]
  cases y <;> first | exact absurd rfl hy | skip
  all_goals (repeat (first | ((first | with_reducible refine seqT ?_ | with_reducible refine seq1 ?_ | with_reducible refine seqE ?_ | with_reducible refine seqF ?_); try simp [PySem.sizeLine, DV.w1, DV.wE, DV.wT, DV.wI, DV.varW, DV.getS, DV.isOwn, DV.Slot.ow, DV.setV, DV.setO, DV.look2, DV.okV, DV.cl, DV.cls, DV.cc, DV.ccs, DV.tyName, DV.noRef, DV.noRefs, DV.cstW, DV.seqOf, DV.mkTab, DV.findE, DV.findM, DV.frzS, DV.ownS, DV.frE, DV.wipeE, DV.bindT, DV.setAll, DV.dropX, DV.dropF, DV.fstO, DV.esLen, DV.isNon, DV.isFlat, DV.deq, DV.deqs, -List.filter_filter, -List.map_map, -List.getD_eq_getElem?_getD, -List.length_filter_eq_length_iff, -List.length_filter_lt_length_iff_exists, gi_5, gc_5, icl_ok 5 (by decide)]) | simp [PySem.sizeLine, DV.w1, DV.wE, DV.wT, DV.wI, DV.varW, DV.getS, DV.isOwn, DV.Slot.ow, DV.setV, DV.setO, DV.look2, DV.okV, DV.cl, DV.cls, DV.cc, DV.ccs, DV.tyName, DV.noRef, DV.noRefs, DV.cstW, DV.seqOf, DV.mkTab, DV.findE, DV.findM, DV.frzS, DV.ownS, DV.frE, DV.wipeE, DV.bindT, DV.setAll, DV.dropX, DV.dropF, DV.fstO, DV.esLen, DV.isNon, DV.isFlat, DV.deq, DV.deqs, -List.filter_filter, -List.map_map, -List.getD_eq_getElem?_getD, -List.length_filter_eq_length_iff, -List.length_filter_lt_length_iff_exists, gi_5, gc_5, icl_ok 5 (by decide)]))
  all_goals exact h
theorem gi_6 : G_m_Looked___eq__.isub = findB mX.isub := rfl
theorem gc_6 : G_m_Looked___eq__.icl = fun c => mX.icl.contains c := rfl
theorem eqs_6 {a0 a1 a2 b0 b1 b2 : D} {Q E : D → Prop} (ha0 : eqOk a0) (ha1 : eqOk a1) (ha2 : eqOk a2) (hb0 : eqOk b0) (hb1 : eqOk b1) (hb2 : eqOk b2) (h : Q (.bl (deq a0 b0 && deq a1 b1 && deq a2 b2))) : W_m_Looked___eq__ [.ins 6 [10, 9, 16] [a0, a1, a2], .ins 6 [10, 9, 16] [b0, b1, b2]] Q E := by
  unfold W_m_Looked___eq__ bodyW b_m_Looked___eq__
  simp [startE, N_m_Looked___eq__]
  (repeat (first | ((first | with_reducible refine seqT ?_ | with_reducible refine seq1 ?_ | with_reducible refine seqE ?_ | with_reducible refine seqF ?_); try simp [PySem.sizeLine, DV.w1, DV.wE, DV.wT, DV.wI, DV.varW, DV.getS, DV.isOwn, DV.Slot.ow, DV.setV, DV.setO, DV.look2, DV.okV, DV.cl, DV.cls, DV.cc, DV.ccs, DV.tyName, DV.noRef, DV.noRefs, DV.cstW, DV.seqOf, DV.mkTab, DV.findE, DV.findM, DV.frzS, DV.ownS, DV.frE, DV.wipeE, DV.bindT, DV.setAll, DV.dropX, DV.dropF, DV.fstO, DV.esLen, DV.isNon, DV.isFlat, DV.deq, DV.deqs, -List.filter_filter, -List.map_map, -List.getD_eq_getElem?_getD, -List.length_filter_eq_length_iff, -List.length_filter_lt_length_iff_exists, gi_6, gc_6, icl_ok 6 (by decide), isub_eq 6 (by decide), iteAnd, iteAnd2, ha0, ha1, ha2, hb0, hb1, hb2]) | simp [PySem.sizeLine, DV.w1, DV.wE, DV.wT, DV.wI, DV.varW, DV.getS, DV.isOwn, DV.Slot.ow, DV.setV, DV.setO, DV.look2, DV.okV, DV.cl, DV.cls, DV.cc, DV.ccs, DV.tyName, DV.noRef, DV.noRefs, DV.cstW, DV.seqOf, DV.mkTab, DV.findE, DV.findM, DV.frzS, DV.ownS, DV.frE, DV.wipeE, DV.bindT, DV.setAll, DV.dropX, DV.dropF, DV.fstO, DV.esLen, DV.isNon, DV.isFlat, DV.deq, DV.deqs, -List.filter_filter, -List.map_map, -List.getD_eq_getElem?_getD, -List.length_filter_eq_length_iff, -List.length_filter_lt_length_iff_exists, gi_6, gc_6, icl_ok 6 (by decide), isub_eq 6 (by decide), iteAnd, iteAnd2, ha0, ha1, ha2, hb0, hb1, hb2]))
  all_goals first | exact h | (simp [iteAnd, iteAnd2, Bool.and_assoc] at h ⊢; exact h) | (simp_all; done) | (cases e0 : deq a0 b0 <;> cases e1 : deq a1 b1 <;> cases e2 : deq a2 b2 <;> simp_all)
theorem eqo_6 {c : Nat} {xs ys : List D} {ns vs : List Nat} {us : List D} {Q E : D → Prop} (hc : c < 13) (hk : c ≠ 6) (h : Q (.bl false)) : W_m_Looked___eq__ [.ins 6 vs xs, .ins c ns us] Q E := by
  unfold W_m_Looked___eq__ bodyW b_m_Looked___eq__
  simp [startE, N_m_Looked___eq__]
  repeat (first | ((first | with_reducible refine seqT ?_ | with_reducible refine seq1 ?_ | with_reducible refine seqE ?_ | with_reducible refine seqF ?_); try simp [PySem.sizeLine, DV.w1, DV.wE, DV.wT, DV.wI, DV.varW, DV.getS, DV.isOwn, DV.Slot.ow, DV.setV, DV.setO, DV.look2, DV.okV, DV.cl, DV.cls, DV.cc, DV.ccs, DV.tyName, DV.noRef, DV.noRefs, DV.cstW, DV.seqOf, DV.mkTab, DV.findE, DV.findM, DV.frzS, DV.ownS, DV.frE, DV.wipeE, DV.bindT, DV.setAll, DV.dropX, DV.dropF, DV.fstO, DV.esLen, DV.isNon, DV.isFlat, DV.deq, DV.deqs, -List.filter_filter, -List.map_map, -List.getD_eq_getElem?_getD, -List.length_filter_eq_length_iff, -List.length_filter_lt_length_iff_exists, gi_6, gc_6, icl_ok 6 (by decide), isub_ne c hc 6 (by decide) hk]) | simp [PySem.sizeLine, DV.w1, DV.wE, DV.wT, DV.wI, DV.varW, DV.getS, DV.isOwn, DV.Slot.ow, DV.setV, DV.setO, DV.look2, DV.okV, DV.cl, DV.cls, DV.cc, DV.ccs, DV.tyName, DV.noRef, DV.noRefs, DV.cstW, DV.seqOf, DV.mkTab, DV.findE, DV.findM, DV.frzS, DV.ownS, DV.frE, DV.wipeE, DV.bindT, DV.setAll, DV.dropX, DV.dropF, DV.fstO, DV.esLen, DV.isNon, DV.isFlat, DV.deq, DV.deqs, -List.filter_filter, -List.map_map, -List.getD_eq_getElem?_getD, -List.length_filter_eq_length_iff, -List.length_filter_lt_length_iff_exists, gi_6, gc_6, icl_ok 6 (by decide), isub_ne c hc 6 (by decide) hk])
  exact h
theorem eqn_6 {y : D} {xs : List D} {vs : List Nat} {Q E : D → Prop} (hy : tyName y ≠ none) (h : Q (.bl false)) : W_m_Looked___eq__ [.ins 6 vs xs, y] Q E := by
  unfold W_m_Looked___eq__ bodyW b_m_Looked___eq__
  simp [startE, N_m_Looked___eq__]
  cases y <;> first | exact absurd rfl hy | skip
  all_goals (repeat (first | ((first | with_reducible refine seqT ?_ | with_reducible refine seq1 ?_ | with_reducible refine seqE ?_ | with_reducible refine seqF ?_); try simp [PySem.sizeLine, DV.w1, DV.wE, DV.wT, DV.wI, DV.varW, DV.getS, DV.isOwn, DV.Slot.ow, DV.setV, DV.setO, DV.look2, DV.okV, DV.cl, DV.cls, DV.cc, DV.ccs, DV.tyName, DV.noRef, DV.noRefs, DV.cstW, DV.seqOf, DV.mkTab, DV.findE, DV.findM, DV.frzS, DV.ownS, DV.frE, DV.wipeE, DV.bindT, DV.setAll, DV.dropX, DV.dropF, DV.fstO, DV.esLen, DV.isNon, DV.isFlat, DV.deq, DV.deqs, -List.filter_filter, -List.map_map, -List.getD_eq_getElem?_getD, -List.length_filter_eq_length_iff, -List.length_filter_lt_length_iff_exists, gi_6, gc_6, icl_ok 6 (by decide)]) | simp [PySem.sizeLine, DV.w1, DV.wE, DV.wT, DV.wI, DV.varW, DV.getS, DV.isOwn, DV.Slot.ow, DV.setV, DV.setO, DV.look2, DV.okV, DV.cl, DV.cls, DV.cc, DV.ccs, DV.tyName, DV.noRef, DV.noRefs, DV.cstW, DV.seqOf, DV.mkTab, DV.findE, DV.findM, DV.frzS, DV.ownS, DV.frE, DV.wipeE, DV.bindT, DV.setAll, DV.dropX, DV.dropF, DV.fstO, DV.esLen, DV.isNon, DV.isFlat, DV.deq, DV.deqs, -List.filter_filter, -List.map_map, -List.getD_eq_getElem?_getD, -List.length_filter_eq_length_iff, -List.length_filter_lt_length_iff_exists, gi_6, gc_6, icl_ok 6 (by decide)]))
  all_goals exact h
theorem gi_7 : G_m_Job___eq__.isub = findB mX.isub := rfl
theorem gc_7 : G_m_Job___eq__.icl = fun c => mX.icl.contains c := rfl
theorem eqs_7 {a0 a1 a2 a3 b0 b1 b2 b3 : D} {Q E : D → Prop} (ha0 : eqOk a0) (ha1 : eqOk a1) (ha2 : eqOk a2) (ha3 : eqOk a3) (hb0 : eqOk b0) (hb1 : eqOk b1) (hb2 : eqOk b2) (hb3 : eqOk b3) (h : Q (.bl (deq a0 b0 && deq a1 b1 && deq a2 b2 && deq a3 b3))) : W_m_Job___eq__ [.ins 7 [19, 18, 17, 13] [a0, a1, a2, a3], .ins 7 [19, 18, 17, 13] [b0, b1, b2, b3]] Q E := by
  unfold W_m_Job___eq__ bodyW b_m_Job___eq__
  simp [startE, N_m_Job___eq__]
  cases e0 : deq a0 b0 <;> cases e1 : deq a1 b1 <;> (repeat (first | ((first | with_reducible refine seqT ?_ | with_reducible refine seq1 ?_ | with_reducible refine seqE ?_ | with_reducible refine seqF ?_); try simp [PySem.sizeLine, DV.w1, DV.wE, DV.wT, DV.wI, DV.varW, DV.getS, DV.isOwn, DV.Slot.ow, DV.setV, DV.setO, DV.look2, DV.okV, DV.cl, DV.cls, DV.cc, DV.ccs, DV.tyName, DV.noRef, DV.noRefs, DV.cstW, DV.seqOf, DV.mkTab, DV.findE, DV.findM, DV.frzS, DV.ownS, DV.frE, DV.wipeE, DV.bindT, DV.setAll, DV.dropX, DV.dropF, DV.fstO, DV.esLen, DV.isNon, DV.isFlat, DV.deq, DV.deqs, -List.filter_filter, -List.map_map, -List.getD_eq_getElem?_getD, -List.length_filter_eq_length_iff, -List.length_filter_lt_length_iff_exists, gi_7, gc_7, icl_ok 7 (by decide), isub_eq 7 (by decide), iteAnd, iteAnd2, ha0, ha1, ha2, ha3, hb0, hb1, hb2, hb3, e0, e1]) | simp [PySem.sizeLine, DV.w1, DV.wE, DV.wT, DV.wI, DV.varW, DV.getS, DV.isOwn, DV.Slot.ow, DV.setV, DV.setO, DV.look2, DV.okV, DV.cl, DV.cls, DV.cc, DV.ccs, DV.tyName, DV.noRef, DV.noRefs, DV.cstW, DV.seqOf, DV.mkTab, DV.findE, DV.findM, DV.frzS, DV.ownS, DV.frE, DV.wipeE, DV.bindT, DV.setAll, DV.dropX, DV.dropF, DV.fstO, DV.esLen, DV.isNon, DV.isFlat, DV.deq, DV.deqs, -List.filter_filter, -List.map_map, -List.getD_eq_getElem?_getD, -List.length_filter_eq_length_iff, -List.length_filter_lt_length_iff_exists, gi_7, gc_7, icl_ok 7 (by decide), isub_eq 7 (by decide), iteAnd, iteAnd2, ha0, ha1, ha2, ha3, hb0, hb1, hb2, hb3, e0, e1]))
  all_goals first | exact h | (simp [iteAnd, iteAnd2, Bool.and_assoc] at h ⊢; exact h) | (simp_all; done) | (cases e0 : deq a0 b0 <;> cases e1 : deq a1 b1 <;> cases e2 : deq a2 b2 <;> cases e3 : deq a3 b3 <;> simp_all)
theorem eqo_7 {c : Nat} {xs ys : List D} {ns vs : List Nat} {us : List D} {Q E : D → Prop} (hc : c < 13) (hk : c ≠ 7) (h : Q (.bl false)) : W_m_Job___eq__ [.ins 7 vs xs, .ins c ns us] Q E := by
  unfold W_m_Job___eq__ bodyW b_m_Job___eq__
  simp [startE, N_m_Job___eq__]
  repeat (first | ((first | with_reducible refine seqT ?_ | with_reducible refine seq1 ?_ | with_reducible refine seqE ?_ | with_reducible refine seqF ?_); try simp [PySem.sizeLine, DV.w1, DV.wE, DV.wT, DV.wI, DV.varW, DV.getS, DV.isOwn, DV.Slot.ow, DV.setV, DV.setO, DV.look2, DV.okV, DV.cl, DV.cls, DV.cc, DV.ccs, DV.tyName, DV.noRef, DV.noRefs, DV.cstW, DV.seqOf, DV.mkTab, DV.findE, DV.findM, DV.frzS, DV.ownS, DV.frE, DV.wipeE, DV.bindT, DV.setAll, DV.dropX, DV.dropF, DV.fstO, DV.esLen, DV.isNon, DV.isFlat, DV.deq, DV.deqs, -List.filter_filter, -List.map_map, -List.getD_eq_getElem?_getD, -List.length_filter_eq_length_iff, -List.length_filter_lt_length_iff_exists, gi_7, gc_7, icl_ok 7 (by decide), isub_ne c hc 7 (by decide) hk]) | simp [PySem.sizeLine, DV.w1, DV.wE, DV.wT, DV.wI, DV.varW, DV.getS, DV.isOwn, DV.Slot.ow, DV.setV, DV.setO, DV.look2, DV.okV, DV.cl, DV.cls, DV.cc, DV.ccs, DV.tyName, DV.noRef, DV.noRefs, DV.cstW, DV.seqOf, DV.mkTab, DV.findE, DV.findM, DV.frzS, DV.ownS, DV.frE, DV.wipeE, DV.bindT, DV.setAll, DV.dropX, DV.dropF, DV.fstO, DV.esLen, DV.isNon, DV.isFlat, DV.deq, DV.deqs, -List.filter_filter, -List.map_map, -List.getD_eq_getElem?_getD, -List.length_filter_eq_length_iff, -List.length_filter_lt_length_iff_exists, gi_7, gc_7, icl_ok 7 (by decide), isub_ne c hc 7 (by decide) hk])
  exact h
theorem eqn_7 {y : D} {xs : List D} {vs : List Nat} {Q E : D → Prop} (hy : tyName y ≠ none) (h : Q (.bl false)) : W_m_Job___eq__ [.ins 7 vs xs, y] Q E := by
  unfold W_m_Job___eq__ bodyW b_m_Job___eq__
  simp [startE, N_m_Job___eq__]
  cases y <;> first | exact absurd rfl hy | skip
  all_goals (repeat (first | ((first | with_reducible refine seqT ?_ | with_reducible refine seq1 ?_ | with_reducible refine seqE ?_ | with_reducible refine seqF ?_); try simp [PySem.sizeLine, DV.w1, DV.wE, DV.wT, DV.wI, DV.varW, DV.getS, DV.isOwn, DV.Slot.ow, DV.setV, DV.setO, DV.look2, DV.okV, DV.cl, DV.cls, DV.cc, DV.ccs, DV.tyName, DV.noRef, DV.noRefs, DV.cstW, DV.seqOf, DV.mkTab, DV.findE, DV.findM, DV.frzS, DV.ownS, DV.frE, DV.wipeE, DV.bindT, DV.setAll, DV.dropX, DV.dropF, DV.fstO, DV.esLen, DV.isNon, DV.isFlat, DV.deq, DV.deqs, -List.filter_filter, -List.map_map, -List.getD_eq_getElem?_getD, -List.length_filter_eq_length_iff, -List.length_filter_lt_length_iff_exists, gi_7, gc_7, icl_ok 7 (by decide)]) | simp [PySem.sizeLine, DV.w1, DV.wE, DV.wT, DV.wI, DV.varW, DV.getS, DV.isOwn, DV.Slot.ow, DV.setV, DV.setO, DV.look2, DV.okV, DV.cl, DV.cls, DV.cc, DV.ccs, DV.tyName, DV.noRef, DV.noRefs, DV.cstW, DV.seqOf, DV.mkTab, DV.findE, DV.findM, DV.frzS, DV.ownS, DV.frE, DV.wipeE, DV.bindT, DV.setAll, DV.dropX, DV.dropF, DV.fstO, DV.esLen, DV.isNon, DV.isFlat, DV.deq, DV.deqs, -List.filter_filter, -List.map_map, -List.getD_eq_getElem?_getD, -List.length_filter_eq_length_iff, -List.length_filter_lt_length_iff_exists, gi_7, gc_7, icl_ok 7 (by decide)]))
  all_goals exact h
theorem gi_8 : G_m_Answer___eq__.isub = findB mX.isub := rfl
theorem gc_8 : G_m_Answer___eq__.icl = fun c => mX.icl.contains c := rfl
theorem eqs_8 {a0 a1 a2 b0 b1 b2 : D} {Q E : D → Prop} (ha0 : eqOk a0) (ha1 : eqOk a1) (ha2 : eqOk a2) (hb0 : eqOk b0) (hb1 : eqOk b1) (hb2 : eqOk b2) (h : Q (.bl (deq a0 b0 && deq a1 b1 && deq a2 b2))) : W_m_Answer___eq__ [.ins 8 [21, 20, 9] [a0, a1, a2], .ins 8 [21, 20, 9] [b0, b1, b2]] Q E := by
  unfold W_m_Answer___eq__ bodyW b_m_Answer___eq__
  simp [startE, N_m_Answer___eq__]
  (repeat (first | ((first | with_reducible refine seqT ?_ | with_reducible refine seq1 ?_ | with_reducible refine seqE ?_ | with_reducible refine seqF ?_); try simp [PySem.sizeLine, DV.w1, DV.wE, DV.wT, DV.wI, DV.varW, DV.getS, DV.isOwn, DV.Slot.ow, DV.setV, DV.setO, DV.look2, DV.okV, DV.cl, DV.cls, DV.cc, DV.ccs, DV.tyName, DV.noRef, DV.noRefs, DV.cstW, DV.seqOf, DV.mkTab, DV.findE, DV.findM, DV.frzS, DV.ownS, DV.frE, DV.wipeE, DV.bindT, DV.setAll, DV.dropX, DV.dropF, DV.fstO, DV.esLen, DV.isNon, DV.isFlat, DV.deq, DV.deqs, -List.filter_filter, -List.map_map, -List.getD_eq_getElem?_getD, -List.length_filter_eq_length_iff, -List.length_filter_lt_length_iff_exists, gi_8, gc_8, icl_ok 8 (by decide), isub_eq 8 (by decide), iteAnd, iteAnd2, ha0, ha1, ha2, hb0, hb1, hb2]) | simp [PySem.sizeLine, DV.w1, DV.wE, DV.wT, DV.wI, DV.varW, DV.getS, DV.isOwn, DV.Slot.ow, DV.setV, DV.setO, DV.look2, DV.okV, DV.cl, DV.cls, DV.cc, DV.ccs, DV.tyName, DV.noRef, DV.noRefs, DV.cstW, DV.seqOf, DV.mkTab, DV.findE, DV.findM, DV.frzS, DV.ownS, DV.frE, DV.wipeE, DV.bindT, DV.setAll, DV.dropX, DV.dropF, DV.fstO, DV.esLen, DV.isNon, DV.isFlat, DV.deq, DV.deqs, -List.filter_filter, -List.map_map, -List.getD_eq_getElem?_getD, -List.length_filter_eq_length_iff, -List.length_filter_lt_length_iff_exists, gi_8, gc_8, icl_ok 8 (by decide), isub_eq 8 (by decide), iteAnd, iteAnd2, ha0, ha1, ha2, hb0, hb1, hb2]))
  all_goals first | exact h | (simp [iteAnd, iteAnd2, Bool.and_assoc] at h ⊢; exact h) | (simp_all; done) | (cases e0 : deq a0 b0 <;> cases e1 : deq a1 b1 <;> cases e2 : deq a2 b2 <;> simp_all)
theorem eqo_8 {c : Nat} {xs ys : List D} {ns vs : List Nat} {us : List D} {Q E : D → Prop} (hc : c < 13) (hk : c ≠ 8) (h : Q (.bl false)) : W_m_Answer___eq__ [.ins 8 vs xs, .ins c ns us] Q E := by
  unfold W_m_Answer___eq__ bodyW b_m_Answer___eq__
  simp [startE, N_m_Answer___eq__]
  repeat (first | ((first | with_reducible refine seqT ?_ | with_reducible refine seq1 ?_ | with_reducible refine seqE ?_ | with_reducible refine seqF ?_); try simp [PySem.sizeLine, DV.w1, DV.wE, DV.wT, DV.wI, DV.varW, DV.getS, DV.isOwn, DV.Slot.ow, DV.setV, DV.setO, DV.look2, DV.okV, DV.cl, DV.cls, DV.cc, DV.ccs, DV.tyName, DV.noRef, DV.noRefs, DV.cstW, DV.seqOf, DV.mkTab, DV.findE, DV.findM, DV.frzS, DV.ownS, DV.frE, DV.wipeE, DV.bindT, DV.setAll, DV.dropX, DV.dropF, DV.fstO, DV.esLen, DV.isNon, DV.isFlat, DV.deq, DV.deqs, -List.filter_filter, -List.map_map, -List.getD_eq_getElem?_getD, -List.length_filter_eq_length_iff, -List.length_filter_lt_length_iff_exists, gi_8, gc_8, icl_ok 8 (by decide), isub_ne c hc 8 (by decide) hk]) | simp [PySem.sizeLine, DV.w1, DV.wE, DV.wT, DV.wI, DV.varW, DV.getS, DV.isOwn, DV.Slot.ow, DV.setV, DV.setO, DV.look2, DV.okV, DV.cl, DV.cls, DV.cc, DV.ccs, DV.tyName, DV.noRef, DV.noRefs, DV.cstW, DV.seqOf, DV.mkTab, DV.findE, DV.findM, DV.frzS, DV.ownS, DV.frE, DV.wipeE, DV.bindT, DV.setAll, DV.dropX, DV.dropF, DV.fstO, DV.esLen, DV.isNon, DV.isFlat, DV.deq, DV.deqs, -List.filter_filter, -List.map_map, -List.getD_eq_getElem?_getD, -List.length_filter_eq_length_iff, -List.length_filter_lt_length_iff_exists, gi_8, gc_8, icl_ok 8 (by decide), isub_ne c hc 8 (by decide) hk])
  exact h
theorem eqn_8 {y : D} {xs : List D} {vs : List Nat} {Q E : D → Prop} (hy : tyName y ≠ none) (h : Q (.bl false)) : W_m_Answer___eq__ [.ins 8 vs xs, y] Q E := by
  unfold W_m_Answer___eq__ bodyW b_m_Answer___eq__
  simp [startE, N_m_Answer___eq__]
  cases y <;> first | exact absurd rfl hy | skip
  all_goals (repeat (first | ((first | with_reducible refine seqT ?_ | with_reducible refine seq1 ?_ | with_reducible refine seqE ?_ | with_reducible refine seqF ?_); try simp [PySem.sizeLine, DV.w1, DV.wE, DV.wT, DV.wI, DV.varW, DV.getS, DV.isOwn, DV.Slot.ow, DV.setV, DV.setO, DV.look2, DV.okV, DV.cl, DV.cls, DV.cc, DV.ccs, DV.tyName, DV.noRef, DV.noRefs, DV.cstW, DV.seqOf, DV.mkTab, DV.findE, DV.findM, DV.frzS, DV.ownS, DV.frE, DV.wipeE, DV.bindT, DV.setAll, DV.dropX, DV.dropF, DV.fstO, DV.esLen, DV.isNon, DV.isFlat, DV.deq, DV.deqs, -List.filter_filter, -List.map_map, -List.getD_eq_getElem?_getD, -List.length_filter_eq_length_iff, -List.length_filter_lt_length_iff_exists, gi_8, gc_8, icl_ok 8 (by decide)]) | simp [PySem.sizeLine, DV.w1, DV.wE, DV.wT, DV.wI, DV.varW, DV.getS, DV.isOwn, DV.Slot.ow, DV.setV, DV.setO, DV.look2, DV.okV, DV.cl, DV.cls, DV.cc, DV.ccs, DV.tyName, DV.noRef, DV.noRefs, DV.cstW, DV.seqOf, DV.mkTab, DV.findE, DV.findM, DV.frzS, DV.ownS, DV.frE, DV.wipeE, DV.bindT, DV.setAll, DV.dropX, DV.dropF, DV.fstO, DV.esLen, DV.isNon, DV.isFlat, DV.deq, DV.deqs, -List.filter_filter, -List.map_map, -List.getD_eq_getElem?_getD, -List.length_filter_eq_length_iff, -List.length_filter_lt_length_iff_exists, gi_8, gc_8, icl_ok 8 (by decide)]))
  all_goals exact h
theorem gi_9 : G_m_Plan___eq__.isub = findB mX.isub := rfl
theorem gc_9 : G_m_Plan___eq__.icl = fun c => mX.icl.contains c := rfl
theorem eqs_9 {a0 a1 b0 b1 : D} {Q E : D → Prop} (ha0 : eqOk a0) (ha1 : eqOk a1) (hb0 : eqOk b0) (hb1 : eqOk b1) (h : Q (.bl (deq a0 b0 && deq a1 b1))) : W_m_Plan___eq__ [.ins 9 [23, 22] [a0, a1], .ins 9 [23, 22] [b0, b1]] Q E := by
  unfold W_m_Plan___eq__ bodyW b_m_Plan___eq__
  simp [startE, N_m_Plan___eq__]
  (repeat (first | ((first | with_reducible refine seqT ?_ | with_reducible refine seq1 ?_ | with_reducible refine seqE ?_ | with_reducible refine seqF ?_); try simp [PySem.sizeLine, DV.w1, DV.wE, DV.wT, DV.wI, DV.varW, DV.getS, DV.isOwn, DV.Slot.ow, DV.setV, DV.setO, DV.look2, DV.okV, DV.cl, DV.cls, DV.cc, DV.ccs, DV.tyName, DV.noRef, DV.noRefs, DV.cstW, DV.seqOf, DV.mkTab, DV.findE, DV.findM, DV.frzS, DV.ownS, DV.frE, DV.wipeE, DV.bindT, DV.setAll, DV.dropX, DV.dropF, DV.fstO, DV.esLen, DV.isNon, DV.isFlat, DV.deq, DV.deqs, -List.filter_filter, -List.map_map, -List.getD_eq_getElem?_getD, -List.length_filter_eq_length_iff, -List.length_filter_lt_length_iff_exists, gi_9, gc_9, icl_ok 9 (by decide), isub_eq 9 (by decide), iteAnd, iteAnd2, ha0, ha1, hb0, hb1]) | simp [PySem.sizeLine, DV.w1, DV.wE, DV.wT, DV.wI, DV.varW, DV.getS, DV.isOwn, DV.Slot.ow, DV.setV, DV.setO, DV.look2, DV.okV, DV.cl, DV.cls, DV.cc, DV.ccs, DV.tyName, DV.noRef, DV.noRefs, DV.cstW, DV.seqOf, DV.mkTab, DV.findE, DV.findM, DV.frzS, DV.ownS, DV.frE, DV.wipeE, DV.bindT, DV.setAll, DV.dropX, DV.dropF, DV.fstO, DV.esLen, DV.isNon, DV.isFlat, DV.deq, DV.deqs, -List.filter_filter, -List.map_map, -List.getD_eq_getElem?_getD, -List.length_filter_eq_length_iff, -List.length_filter_lt_length_iff_exists, gi_9, gc_9, icl_ok 9 (by decide), isub_eq 9 (by decide), iteAnd, iteAnd2, ha0, ha1, hb0, hb1]))
  all_goals first | exact h | (simp [iteAnd, iteAnd2, Bool.and_assoc] at h ⊢; exact h) | (simp_all; done) | (cases e0 : deq a0 b0 <;> cases e1 : deq a1 b1 <;> simp_all)
theorem eqo_9 {c : Nat} {xs ys : List D} {ns vs : List Nat} {us : List D} {Q E : D → Prop} (hc : c < 13) (hk : c ≠ 9) (h : Q (.bl false)) : W_m_Plan___eq__ [.ins 9 vs xs, .ins c ns us] Q E := by
  unfold W_m_Plan___eq__ bodyW b_m_Plan___eq__
  simp [startE, N_m_Plan___eq__]
  repeat (first | ((first | with_reducible refine seqT ?_ | with_reducible refine seq1 ?_ | with_reducible refine seqE ?_ | with_reducible refine seqF ?_); try simp [PySem.sizeLine, DV.w1, DV.wE, DV.wT, DV.wI, DV.varW, DV.getS, DV.isOwn, DV.Slot.ow, DV.setV, DV.setO, DV.look2, DV.okV, DV.cl, DV.cls, DV.cc, DV.ccs, DV.tyName, DV.noRef, DV.noRefs, DV.cstW, DV.seqOf, DV.mkTab, DV.findE, DV.findM, DV.frzS, DV.ownS, DV.frE, DV.wipeE, DV.bindT, DV.setAll, DV.dropX, DV.dropF, DV.fstO, DV.esLen, DV.isNon, DV.isFlat, DV.deq, DV.deqs, -List.filter_filter, -List.map_map, -List.getD_eq_getElem?_getD, -List.length_filter_eq_length_iff, -List.length_filter_lt_length_iff_exists, gi_9, gc_9, icl_ok 9 (by decide), isub_ne c hc 9 (by decide) hk]) | simp [PySem.sizeLine, DV.w1, DV.wE, DV.wT, DV.wI, DV.varW, DV.getS, DV.isOwn, DV.Slot.ow, DV.setV, DV.setO, DV.look2, DV.okV, DV.cl, DV.cls, DV.cc, DV.ccs, DV.tyName, DV.noRef, DV.noRefs, DV.cstW, DV.seqOf, DV.mkTab, DV.findE, DV.findM, DV.frzS, DV.ownS, DV.frE, DV.wipeE, DV.bindT, DV.setAll, DV.dropX, DV.dropF, DV.fstO, DV.esLen, DV.isNon, DV.isFlat, DV.deq, DV.deqs, -List.filter_filter, -List.map_map, -List.getD_eq_getElem?_getD, -List.length_filter_eq_length_iff, -List.length_filter_lt_length_iff_exists, gi_9, gc_9, icl_ok 9 (by decide), isub_ne c hc 9 (by decide) hk])
  exact h
theorem eqn_9 {y : D} {xs : List D} {vs : List Nat} {Q E : D → Prop} (hy : tyName y ≠ none) (h : Q (.bl false)) : W_m_Plan___eq__ [.ins 9 vs xs, y] Q E := by
  unfold W_m_Plan___eq__ bodyW b_m_Plan___eq__
  simp [startE, N_m_Plan___eq__]
  cases y <;> first | exact absurd rfl hy | skip
  all_goals (repeat (first | ((first | with_reducible refine seqT ?_ | with_reducible refine seq1 ?_ | with_reducible refine seqE ?_ | with_reducible refine seqF ?_); try simp [PySem.sizeLine, DV.w1, DV.wE, DV.wT, DV.wI, DV.varW, DV.getS, DV.isOwn, DV.Slot.ow, DV.setV, DV.setO, DV.look2, DV.okV, DV.cl, DV.cls, DV.cc, DV.ccs, DV.tyName, DV.noRef, DV.noRefs, DV.cstW, DV.seqOf, DV.mkTab, DV.findE, DV.findM, DV.frzS, DV.ownS, DV.frE, DV.wipeE, DV.bindT, DV.setAll, DV.dropX, DV.dropF, DV.fstO, DV.esLen, DV.isNon, DV.isFlat, DV.deq, DV.deqs, -List.filter_filter, -List.map_map, -List.getD_eq_getElem?_getD, -List.length_filter_eq_length_iff, -List.length_filter_lt_length_iff_exists, gi_9, gc_9, icl_ok 9 (by decide)]) | simp [PySem.sizeLine, DV.w1, DV.wE, DV.wT, DV.wI, DV.varW, DV.getS, DV.isOwn, DV.Slot.ow, DV.setV, DV.setO, DV.look2, DV.okV, DV.cl, DV.cls, DV.cc, DV.ccs, DV.tyName, DV.noRef, DV.noRefs, DV.cstW, DV.seqOf, DV.mkTab, DV.findE, DV.findM, DV.frzS, DV.ownS, DV.frE, DV.wipeE, DV.bindT, DV.setAll, DV.dropX, DV.dropF, DV.fstO, DV.esLen, DV.isNon, DV.isFlat, DV.deq, DV.deqs, -List.filter_filter, -List.map_map, -List.getD_eq_getElem?_getD, -List.length_filter_eq_length_iff, -List.length_filter_lt_length_iff_exists, gi_9, gc_9, icl_ok 9 (by decide)]))
  all_goals exact h
theorem gi_10 : G_m_Play___eq__.isub = findB mX.isub := rfl
theorem gc_10 : G_m_Play___eq__.icl = fun c => mX.icl.contains c := rfl
theorem eqs_10 {a0 a1 a2 b0 b1 b2 : D} {Q E : D → Prop} (ha0 : eqOk a0) (ha1 : eqOk a1) (ha2 : eqOk a2) (hb0 : eqOk b0) (hb1 : eqOk b1) (hb2 : eqOk b2) (h : Q (.bl (deq a0 b0 && deq a1 b1 && deq a2 b2))) : W_m_Play___eq__ [.ins 10 [17, 24, 10] [a0, a1, a2], .ins 10 [17, 24, 10] [b0, b1, b2]] Q E := by
  unfold W_m_Play___eq__ bodyW b_m_Play___eq__
  simp [startE, N_m_Play___eq__]
  (repeat (first | ((first | with_reducible refine seqT ?_ | with_reducible refine seq1 ?_ | with_reducible refine seqE ?_ | with_reducible refine seqF ?_); try simp [PySem.sizeLine, DV.w1, DV.wE, DV.wT, DV.wI, DV.varW, DV.getS, DV.isOwn, DV.Slot.ow, DV.setV, DV.setO, DV.look2, DV.okV, DV.cl, DV.cls, DV.cc, DV.ccs, DV.tyName, DV.noRef, DV.noRefs, DV.cstW, DV.seqOf, DV.mkTab, DV.findE, DV.findM, DV.frzS, DV.ownS, DV.frE, DV.wipeE, DV.bindT, DV.setAll, DV.dropX, DV.dropF, DV.fstO, DV.esLen, DV.isNon, DV.isFlat, DV.deq, DV.deqs, -List.filter_filter, -List.map_map, -List.getD_eq_getElem?_getD, -List.length_filter_eq_length_iff, -List.length_filter_lt_length_iff_exists, gi_10, gc_10, icl_ok 10 (by decide), isub_eq 10 (by decide), iteAnd, iteAnd2, ha0, ha1, ha2, hb0, hb1, hb2]) | simp [PySem.sizeLine, DV.w1, DV.wE, DV.wT, DV.wI, DV.varW, DV.getS, DV.isOwn, DV.Slot.ow, DV.setV, DV.setO, DV.look2, DV.okV, DV.cl, DV.cls, DV.cc, DV.ccs, DV.tyName, DV.noRef, DV.noRefs, DV.cstW, DV.seqOf, DV.mkTab, DV.findE, DV.findM, DV.frzS, DV.ownS, DV.frE, DV.wipeE, DV.bindT, DV.setAll, DV.dropX, DV.dropF, DV.fstO, DV.esLen, DV.isNon, DV.isFlat, DV.deq, DV.deqs, -List.filter_filter, -List.map_map, -List.getD_eq_getElem?_getD, -List.length_filter_eq_length_iff, -List.length_filter_lt_length_iff_exists, gi_10, gc_10, icl_ok 10 (by decide), isub_eq 10 (by decide), iteAnd, iteAnd2, ha0, ha1, ha2, hb0, hb1, hb2]))
  all_goals first | exact h | (simp [iteAnd, iteAnd2, Bool.and_assoc] at h ⊢; exact h) | (simp_all; done) | (cases e0 : deq a0 b0 <;> cases e1 : deq a1 b1 <;> cases e2 : deq a2 b2 <;> simp_all)
theorem eqo_10 {c : Nat} {xs ys : List D} {ns vs : List Nat} {us : List D} {Q E : D → Prop} (hc : c < 13) (hk : c ≠ 10) (h : Q (.bl false)) : W_m_Play___eq__ [.ins 10 vs xs, .ins c ns us] Q E := by
  unfold W_m_Play___eq__ bodyW b_m_Play___eq__
  simp [startE, N_m_Play___eq__]
  repeat (first | ((first | with_reducible refine seqT ?_ | with_reducible refine seq1 ?_ | with_reducible refine seqE ?_ | with_reducible refine seqF ?_); try simp [PySem.sizeLine, DV.w1, DV.wE, DV.wT, DV.wI, DV.varW, DV.getS, DV.isOwn, DV.Slot.ow, DV.setV, DV.setO, DV.look2, DV.okV, DV.cl, DV.cls, DV.cc, DV.ccs, DV.tyName, DV.noRef, DV.noRefs, DV.cstW, DV.seqOf, DV.mkTab, DV.findE, DV.findM, DV.frzS, DV.ownS, DV.frE, DV.wipeE, DV.bindT, DV.setAll, DV.dropX, DV.dropF, DV.fstO, DV.esLen, DV.isNon, DV.isFlat, DV.deq, DV.deqs, -List.filter_filter, -List.map_map, -List.getD_eq_getElem?_getD, -List.length_filter_eq_length_iff, -List.length_filter_lt_length_iff_exists, gi_10, gc_10, icl_ok 10 (by decide), isub_ne c hc 10 (by decide) hk]) | simp [PySem.sizeLine, DV.w1, DV.wE, DV.wT, DV.wI, DV.varW, DV.getS, DV.isOwn, DV.Slot.ow, DV.setV, DV.setO, DV.look2, DV.okV, DV.cl, DV.cls, DV.cc, DV.ccs, DV.tyName, DV.noRef, DV.noRefs, DV.cstW, DV.seqOf, DV.mkTab, DV.findE, DV.findM, DV.frzS, DV.ownS, DV.frE, DV.wipeE, DV.bindT, DV.setAll, DV.dropX, DV.dropF, DV.fstO, DV.esLen, DV.isNon, DV.isFlat, DV.deq, DV.deqs, -List.filter_filter, -List.map_map, -List.getD_eq_getElem?_getD, -List.length_filter_eq_length_iff, -List.length_filter_lt_length_iff_exists, gi_10, gc_10, icl_ok 10 (by decide), isub_ne c hc 10 (by decide) hk])
  exact h
theorem eqn_10 {y : D} {xs : List D} {vs : List Nat} {Q E : D → Prop} (hy : tyName y ≠ none) (h : Q (.bl false)) : W_m_Play___eq__ [.ins 10 vs xs, y] Q E := by
  unfold W_m_Play___eq__ bodyW b_m_Play___eq__
  simp [startE, N_m_Play___eq__]
  cases y <;> first | exact absurd rfl hy | skip
  all_goals (repeat (first | ((first | with_reducible refine seqT ?_ | with_reducible refine seq1 ?_ | with_reducible refine seqE ?_ | with_reducible refine seqF ?_); try simp [PySem.sizeLine, DV.w1, DV.wE, DV.wT, DV.wI, DV.varW, DV.getS, DV.isOwn, DV.Slot.ow, DV.setV, DV.setO, DV.look2, DV.okV, DV.cl, DV.cls, DV.cc, DV.ccs, DV.tyName, DV.noRef, DV.noRefs, DV.cstW, DV.seqOf, DV.mkTab, DV.findE, DV.findM, DV.frzS, DV.ownS, DV.frE, DV.wipeE, DV.bindT, DV.setAll, DV.dropX, DV.dropF, DV.fstO, DV.esLen, DV.isNon, DV.isFlat, DV.deq, DV.deqs, -List.filter_filter, -List.map_map, -List.getD_eq_getElem?_getD, -List.length_filter_eq_length_iff, -List.length_filter_lt_length_iff_exists, gi_10, gc_10, icl_ok 10 (by decide)]) | simp [PySem.sizeLine, DV.w1, DV.wE, DV.wT, DV.wI, DV.varW, DV.getS, DV.isOwn, DV.Slot.ow, DV.setV, DV.setO, DV.look2, DV.okV, DV.cl, DV.cls, DV.cc, DV.ccs, DV.tyName, DV.noRef, DV.noRefs, DV.cstW, DV.seqOf, DV.mkTab, DV.findE, DV.findM, DV.frzS, DV.ownS, DV.frE, DV.wipeE, DV.bindT, DV.setAll, DV.dropX, DV.dropF, DV.fstO, DV.esLen, DV.isNon, DV.isFlat, DV.deq, DV.deqs, -List.filter_filter, -List.map_map, -List.getD_eq_getElem?_getD, -List.length_filter_eq_length_iff, -List.length_filter_lt_length_iff_exists, gi_10, gc_10, icl_ok 10 (by decide)]))
  all_goals exact h
theorem gi_11 : G_m_Wrong___eq__.isub = findB mX.isub := rfl
theorem gc_11 : G_m_Wrong___eq__.icl = fun c => mX.icl.contains c := rfl
theorem eqs_11 {a0 a1 a2 b0 b1 b2 : D} {Q E : D → Prop} (ha0 : eqOk a0) (ha1 : eqOk a1) (ha2 : eqOk a2) (hb0 : eqOk b0) (hb1 : eqOk b1) (hb2 : eqOk b2) (h : Q (.bl (deq a0 b0 && deq a1 b1 && deq a2 b2))) : W_m_Wrong___eq__ [.ins 11 [25, 10, 8] [a0, a1, a2], .ins 11 [25, 10, 8] [b0, b1, b2]] Q E := by
  unfold W_m_Wrong___eq__ bodyW b_m_Wrong___eq__
  simp [startE, N_m_Wrong___eq__]
  (repeat (first | ((first | with_reducible refine seqT ?_ | with_reducible refine seq1 ?_ | with_reducible refine seqE ?_ | with_reducible refine seqF ?_); try simp [PySem.sizeLine, DV.w1, DV.wE, DV.wT, DV.wI, DV.varW, DV.getS, DV.isOwn, DV.Slot.ow, DV.setV, DV.setO, DV.look2, DV.okV, DV.cl, DV.cls, DV.cc, DV.ccs, DV.tyName, DV.noRef, DV.noRefs, DV.cstW, DV.seqOf, DV.mkTab, DV.findE, DV.findM, DV.frzS, DV.ownS, DV.frE, DV.wipeE, DV.bindT, DV.setAll, DV.dropX, DV.dropF, DV.fstO, DV.esLen, DV.isNon, DV.isFlat, DV.deq, DV.deqs, -List.filter_filter, -List.map_map, -List.getD_eq_getElem?_getD, -List.length_filter_eq_length_iff, -List.length_filter_lt_length_iff_exists, gi_11, gc_11, icl_ok 11 (by decide), isub_eq 11 (by decide), iteAnd, iteAnd2, ha0, ha1, ha2, hb0, hb1, hb2]) | simp [PySem.sizeLine, DV.w1, DV.wE, DV.wT, DV.wI, DV.varW, DV.getS, DV.isOwn, DV.Slot.ow, DV.setV, DV.setO, DV.look2, DV.okV, DV.cl, DV.cls, DV.cc, DV.ccs, DV.tyName, DV.noRef, DV.noRefs, DV.cstW, DV.seqOf, DV.mkTab, DV.findE, DV.findM, DV.frzS, DV.ownS, DV.frE, DV.wipeE, DV.bindT, DV.setAll, DV.dropX, DV.dropF, DV.fstO, DV.esLen, DV.isNon, DV.isFlat, DV.deq, DV.deqs, -List.filter_filter, -List.map_map, -List.getD_eq_getElem?_getD, -List.length_filter_eq_length_iff, -List.length_filter_lt_length_iff_exists, gi_11, gc_11, icl_ok 11 (by decide), isub_eq 11 (by decide), iteAnd, iteAnd2, ha0, ha1, ha2, hb0, hb1, hb2]))
  all_goals first | exact h | (simp [iteAnd, iteAnd2, Bool.and_assoc] at h ⊢; exact h) | (simp_all; done) | (cases e0 : deq a0 b0 <;> cases e1 : deq a1 b1 <;> cases e2 : deq a2 b2 <;> simp_all)
theorem eqo_11 {c : Nat} {xs ys : List D} {ns vs : List Nat} {us : List D} {Q E : D → Prop} (hc : c < 13) (hk : c ≠ 11) (h : Q (.bl false)) : W_m_Wrong___eq__ [.ins 11 vs xs, .ins c ns us] Q E := by
  unfold W_m_Wrong___eq__ bodyW b_m_Wrong___eq__
  simp [startE, N_m_Wrong___eq__]
  repeat (first | ((first | with_reducible refine seqT ?_ | with_reducible refine seq1 ?_ | with_reducible refine seqE ?_ | with_reducible refine seqF ?_); try simp [PySem.sizeLine, DV.w1, DV.wE, DV.wT, DV.wI, DV.varW, DV.getS, DV.isOwn, DV.Slot.ow, DV.setV, DV.setO, DV.look2, DV.okV, DV.cl, DV.cls, DV.cc, DV.ccs, DV.tyName, DV.noRef, DV.noRefs, DV.cstW, DV.seqOf, DV.mkTab, DV.findE, DV.findM, DV.frzS, DV.ownS, DV.frE, DV.wipeE, DV.bindT, DV.setAll, DV.dropX, DV.dropF, DV.fstO, DV.esLen, DV.isNon, DV.isFlat, DV.deq, DV.deqs, -List.filter_filter, -List.map_map, -List.getD_eq_getElem?_getD, -List.length_filter_eq_length_iff, -List.length_filter_lt_length_iff_exists, gi_11, gc_11, icl_ok 11 (by decide), isub_ne c hc 11 (by decide) hk]) | simp [PySem.sizeLine, DV.w1, DV.wE, DV.wT, DV.wI, DV.varW, DV.getS, DV.isOwn, DV.Slot.ow, DV.setV, DV.setO, DV.look2, DV.okV, DV.cl, DV.cls, DV.cc, DV.ccs, DV.tyName, DV.noRef, DV.noRefs, DV.cstW, DV.seqOf, DV.mkTab, DV.findE, DV.findM, DV.frzS, DV.ownS, DV.frE, DV.wipeE, DV.bindT, DV.setAll, DV.dropX, DV.dropF, DV.fstO, DV.esLen, DV.isNon, DV.isFlat, DV.deq, DV.deqs, -List.filter_filter, -List.map_map, -List.getD_eq_getElem?_getD, -List.length_filter_eq_length_iff, -List.length_filter_lt_length_iff_exists, gi_11, gc_11, icl_ok 11 (by decide), isub_ne c hc 11 (by decide) hk])
  exact h
theorem eqn_11 {y : D} {xs : List D} {vs : List Nat} {Q E : D → Prop} (hy : tyName y ≠ none) (h : Q (.bl false)) : W_m_Wrong___eq__ [.ins 11 vs xs, y] Q E := by
  unfold W_m_Wrong___eq__ bodyW b_m_Wrong___eq__
  simp [startE, N_m_Wrong___eq__]
  cases y <;> first | exact absurd rfl hy | skip
  all_goals (repeat (first | ((first | with_reducible refine seqT ?_ | with_reducible refine seq1 ?_ | with_reducible refine seqE ?_ | with_reducible refine seqF ?_); try simp [PySem.sizeLine, DV.w1, DV.wE, DV.wT, DV.wI, DV.varW, DV.getS, DV.isOwn, DV.Slot.ow, DV.setV, DV.setO, DV.look2, DV.okV, DV.cl, DV.cls, DV.cc, DV.ccs, DV.tyName, DV.noRef, DV.noRefs, DV.cstW, DV.seqOf, DV.mkTab, DV.findE, DV.findM, DV.frzS, DV.ownS, DV.frE, DV.wipeE, DV.bindT, DV.setAll, DV.dropX, DV.dropF, DV.fstO, DV.esLen, DV.isNon, DV.isFlat, DV.deq, DV.deqs, -List.filter_filter, -List.map_map, -List.getD_eq_getElem?_getD, -List.length_filter_eq_length_iff, -List.length_filter_lt_length_iff_exists, gi_11, gc_11, icl_ok 11 (by decide)]) | simp [PySem.sizeLine, DV.w1, DV.wE, DV.wT, DV.wI, DV.varW, DV.getS, DV.isOwn, DV.Slot.ow, DV.setV, DV.setO, DV.look2, DV.okV, DV.cl, DV.cls, DV.cc, DV.ccs, DV.tyName, DV.noRef, DV.noRefs, DV.cstW, DV.seqOf, DV.mkTab, DV.findE, DV.findM, DV.frzS, DV.ownS, DV.frE, DV.wipeE, DV.bindT, DV.setAll, DV.dropX, DV.dropF, DV.fstO, DV.esLen, DV.isNon, DV.isFlat, DV.deq, DV.deqs, -List.filter_filter, -List.map_map, -List.getD_eq_getElem?_getD, -List.length_filter_eq_length_iff, -List.length_filter_lt_length_iff_exists, gi_11, gc_11, icl_ok 11 (by decide)]))
  all_goals exact h
theorem gi_12 : G_m_Trial___eq__.isub = findB mX.isub := rfl
theorem gc_12 : G_m_Trial___eq__.icl = fun c => mX.icl.contains c := rfl
theorem eqs_12 {a0 a1 b0 b1 : D} {Q E : D → Prop} (ha0 : eqOk a0) (ha1 : eqOk a1) (hb0 : eqOk b0) (hb1 : eqOk b1) (h : Q (.bl (deq a0 b0 && deq a1 b1))) : W_m_Trial___eq__ [.ins 12 [27, 26] [a0, a1], .ins 12 [27, 26] [b0, b1]] Q E := by
  unfold W_m_Trial___eq__ bodyW b_m_Trial___eq__
  simp [startE, N_m_Trial___eq__]
  (repeat (first | ((first | with_reducible refine seqT ?_ | with_reducible refine seq1 ?_ | with_reducible refine seqE ?_ | with_reducible refine seqF ?_); try simp [PySem.sizeLine, DV.w1, DV.wE, DV.wT, DV.wI, DV.varW, DV.getS, DV.isOwn, DV.Slot.ow, DV.setV, DV.setO, DV.look2, DV.okV, DV.cl, DV.cls, DV.cc, DV.ccs, DV.tyName, DV.noRef, DV.noRefs, DV.cstW, DV.seqOf, DV.mkTab, DV.findE, DV.findM, DV.frzS, DV.ownS, DV.frE, DV.wipeE, DV.bindT, DV.setAll, DV.dropX, DV.dropF, DV.fstO, DV.esLen, DV.isNon, DV.isFlat, DV.deq, DV.deqs, -List.filter_filter, -List.map_map, -List.getD_eq_getElem?_getD, -List.length_filter_eq_length_iff, -List.length_filter_lt_length_iff_exists, gi_12, gc_12, icl_ok 12 (by decide), isub_eq 12 (by decide), iteAnd, iteAnd2, ha0, ha1, hb0, hb1]) | simp [PySem.sizeLine, DV.w1, DV.wE, DV.wT, DV.wI, DV.varW, DV.getS, DV.isOwn, DV.Slot.ow, DV.setV, DV.setO, DV.look2, DV.okV, DV.cl, DV.cls, DV.cc, DV.ccs, DV.tyName, DV.noRef, DV.noRefs, DV.cstW, DV.seqOf, DV.mkTab, DV.findE, DV.findM, DV.frzS, DV.ownS, DV.frE, DV.wipeE, DV.bindT, DV.setAll, DV.dropX, DV.dropF, DV.fstO, DV.esLen, DV.isNon, DV.isFlat, DV.deq, DV.deqs, -List.filter_filter, -List.map_map, -List.getD_eq_getElem?_getD, -List.length_filter_eq_length_iff, -List.length_filter_lt_length_iff_exists, gi_12, gc_12, icl_ok 12 (by decide), isub_eq 12 (by decide), iteAnd, iteAnd2, ha0, ha1, hb0, hb1]))
  all_goals first | exact h | (simp [iteAnd, iteAnd2, Bool.and_assoc] at h ⊢; exact h) | (simp_all; done) | (cases e0 : deq a0 b0 <;> cases e1 : deq a1 b1 <;> simp_all)
theorem eqo_12 {c : Nat} {xs ys : List D} {ns vs : List Nat} {us : List D} {Q E : D → Prop} (hc : c < 13) (hk : c ≠ 12) (h : Q (.bl false)) : W_m_Trial___eq__ [.ins 12 vs xs, .ins c ns us] Q E := by
  unfold W_m_Trial___eq__ bodyW b_m_Trial___eq__
  simp [startE, N_m_Trial___eq__]
  repeat (first | ((first | with_reducible refine seqT ?_ | with_reducible refine seq1 ?_ | with_reducible refine seqE ?_ | with_reducible refine seqF ?_); try simp [PySem.sizeLine, DV.w1, DV.wE, DV.wT, DV.wI, DV.varW, DV.getS, DV.isOwn, DV.Slot.ow, DV.setV, DV.setO, DV.look2, DV.okV, DV.cl, DV.cls, DV.cc, DV.ccs, DV.tyName, DV.noRef, DV.noRefs, DV.cstW, DV.seqOf, DV.mkTab, DV.findE, DV.findM, DV.frzS, DV.ownS, DV.frE, DV.wipeE, DV.bindT, DV.setAll, DV.dropX, DV.dropF, DV.fstO, DV.esLen, DV.isNon, DV.isFlat, DV.deq, DV.deqs, -List.filter_filter, -List.map_map, -List.getD_eq_getElem?_getD, -List.length_filter_eq_length_iff, -List.length_filter_lt_length_iff_exists, gi_12, gc_12, icl_ok 12 (by decide), isub_ne c hc 12 (by decide) hk]) | simp [PySem.sizeLine, DV.w1, DV.wE, DV.wT, DV.wI, DV.varW, DV.getS, DV.isOwn, DV.Slot.ow, DV.setV, DV.setO, DV.look2, DV.okV, DV.cl, DV.cls, DV.cc, DV.ccs, DV.tyName, DV.noRef, DV.noRefs, DV.cstW, DV.seqOf, DV.mkTab, DV.findE, DV.findM, DV.frzS, DV.ownS, DV.frE, DV.wipeE, DV.bindT, DV.setAll, DV.dropX, DV.dropF, DV.fstO, DV.esLen, DV.isNon, DV.isFlat, DV.deq, DV.deqs, -List.filter_filter, -List.map_map, -List.getD_eq_getElem?_getD, -List.length_filter_eq_length_iff, -List.length_filter_lt_length_iff_exists, gi_12, gc_12, icl_ok 12 (by decide), isub_ne c hc 12 (by decide) hk])
  exact h
theorem eqn_12 {y : D} {xs : List D} {vs : List Nat} {Q E : D → Prop} (hy : tyName y ≠ none) (h : Q (.bl false)) : W_m_Trial___eq__ [.ins 12 vs xs, y] Q E := by
  unfold W_m_Trial___eq__ bodyW b_m_Trial___eq__
  simp [startE, N_m_Trial___eq__]
  cases y <;> first | exact absurd rfl hy | skip
  all_goals (repeat (first | ((first | with_reducible refine seqT ?_ | with_reducible refine seq1 ?_ | with_reducible refine seqE ?_ | with_reducible refine seqF ?_); try simp [PySem.sizeLine, DV.w1, DV.wE, DV.wT, DV.wI, DV.varW, DV.getS, DV.isOwn, DV.Slot.ow, DV.setV, DV.setO, DV.look2, DV.okV, DV.cl, DV.cls, DV.cc, DV.ccs, DV.tyName, DV.noRef, DV.noRefs, DV.cstW, DV.seqOf, DV.mkTab, DV.findE, DV.findM, DV.frzS, DV.ownS, DV.frE, DV.wipeE, DV.bindT, DV.setAll, DV.dropX, DV.dropF, DV.fstO, DV.esLen, DV.isNon, DV.isFlat, DV.deq, DV.deqs, -List.filter_filter, -List.map_map, -List.getD_eq_getElem?_getD, -List.length_filter_eq_length_iff, -List.length_filter_lt_length_iff_exists, gi_12, gc_12, icl_ok 12 (by decide)]) | simp [PySem.sizeLine, DV.w1, DV.wE, DV.wT, DV.wI, DV.varW, DV.getS, DV.isOwn, DV.Slot.ow, DV.setV, DV.setO, DV.look2, DV.okV, DV.cl, DV.cls, DV.cc, DV.ccs, DV.tyName, DV.noRef, DV.noRefs, DV.cstW, DV.seqOf, DV.mkTab, DV.findE, DV.findM, DV.frzS, DV.ownS, DV.frE, DV.wipeE, DV.bindT, DV.setAll, DV.dropX, DV.dropF, DV.fstO, DV.esLen, DV.isNon, DV.isFlat, DV.deq, DV.deqs, -List.filter_filter, -List.map_map, -List.getD_eq_getElem?_getD, -List.length_filter_eq_length_iff, -List.length_filter_lt_length_iff_exists, gi_12, gc_12, icl_ok 12 (by decide)]))
  all_goals exact h
end Lw
namespace Lw
open DV
def Th (d : D) : Prop := (∃ i, d = .int i) ∨ (∃ x, d = .str x) ∨ (∃ a b, d = .tup [.int a, .tup [.int b, .str "x"]]) ∨ d = .non
theorem len1000 : ∀ n : Fin 1000, (("word" : PySem.Str).length + (toString (n.val : Int) : PySem.Str).length ≤ PySem.sizeLine) := by decide +kernel
theorem thing_ok {Q E : D → Prop} (h : ∀ d, Th d → Q d) : W_law_thing [.hand] Q E := by
  unfold W_law_thing bodyW b_law_thing
  simp [startE, N_law_thing]
  (first | ((first | with_reducible refine seqT ?_ | with_reducible refine seq1 ?_ | with_reducible refine seqE ?_ | with_reducible refine seqF ?_); try simp [PySem.sizeLine, DV.w1, DV.wE, DV.wT, DV.wI, DV.varW, DV.getS, DV.isOwn, DV.Slot.ow, DV.setV, DV.setO, DV.look2, DV.okV, DV.cl, DV.cls, DV.cc, DV.ccs, DV.tyName, DV.noRef, DV.noRefs, DV.cstW, DV.seqOf, DV.mkTab, DV.findE, DV.findM, DV.frzS, DV.ownS, DV.frE, DV.wipeE, DV.bindT, DV.setAll, DV.dropX, DV.dropF, DV.fstO, DV.esLen, DV.isNon, DV.isFlat, DV.deq, DV.deqs, -List.filter_filter, -List.map_map, -List.getD_eq_getElem?_getD, -List.length_filter_eq_length_iff, -List.length_filter_lt_length_iff_exists, takeW]) | simp [PySem.sizeLine, DV.w1, DV.wE, DV.wT, DV.wI, DV.varW, DV.getS, DV.isOwn, DV.Slot.ow, DV.setV, DV.setO, DV.look2, DV.okV, DV.cl, DV.cls, DV.cc, DV.ccs, DV.tyName, DV.noRef, DV.noRefs, DV.cstW, DV.seqOf, DV.mkTab, DV.findE, DV.findM, DV.frzS, DV.ownS, DV.frE, DV.wipeE, DV.bindT, DV.setAll, DV.dropX, DV.dropF, DV.fstO, DV.esLen, DV.isNon, DV.isFlat, DV.deq, DV.deqs, -List.filter_filter, -List.map_map, -List.getD_eq_getElem?_getD, -List.length_filter_eq_length_iff, -List.length_filter_lt_length_iff_exists, takeW])
  refine ⟨by decide, fun r h0 h1 => ?_⟩
  have h2 : r = 0 ∨ r = 1 ∨ r = 2 ∨ r = 3 := by omega
  rcases h2 with rfl | rfl | rfl | rfl
  · repeat (first | ((first | with_reducible refine seqT ?_ | with_reducible refine seq1 ?_ | with_reducible refine seqE ?_ | with_reducible refine seqF ?_); try simp [PySem.sizeLine, DV.w1, DV.wE, DV.wT, DV.wI, DV.varW, DV.getS, DV.isOwn, DV.Slot.ow, DV.setV, DV.setO, DV.look2, DV.okV, DV.cl, DV.cls, DV.cc, DV.ccs, DV.tyName, DV.noRef, DV.noRefs, DV.cstW, DV.seqOf, DV.mkTab, DV.findE, DV.findM, DV.frzS, DV.ownS, DV.frE, DV.wipeE, DV.bindT, DV.setAll, DV.dropX, DV.dropF, DV.fstO, DV.esLen, DV.isNon, DV.isFlat, DV.deq, DV.deqs, -List.filter_filter, -List.map_map, -List.getD_eq_getElem?_getD, -List.length_filter_eq_length_iff, -List.length_filter_lt_length_iff_exists, takeW]) | simp [PySem.sizeLine, DV.w1, DV.wE, DV.wT, DV.wI, DV.varW, DV.getS, DV.isOwn, DV.Slot.ow, DV.setV, DV.setO, DV.look2, DV.okV, DV.cl, DV.cls, DV.cc, DV.ccs, DV.tyName, DV.noRef, DV.noRefs, DV.cstW, DV.seqOf, DV.mkTab, DV.findE, DV.findM, DV.frzS, DV.ownS, DV.frE, DV.wipeE, DV.bindT, DV.setAll, DV.dropX, DV.dropF, DV.fstO, DV.esLen, DV.isNon, DV.isFlat, DV.deq, DV.deqs, -List.filter_filter, -List.map_map, -List.getD_eq_getElem?_getD, -List.length_filter_eq_length_iff, -List.length_filter_lt_length_iff_exists, takeW])
    exact ⟨⟨by decide, by decide, by decide⟩, by decide, fun r _ _ => h _ (.inl ⟨r, rfl⟩)⟩
  · repeat (first | ((first | with_reducible refine seqT ?_ | with_reducible refine seq1 ?_ | with_reducible refine seqE ?_ | with_reducible refine seqF ?_); try simp [PySem.sizeLine, DV.w1, DV.wE, DV.wT, DV.wI, DV.varW, DV.getS, DV.isOwn, DV.Slot.ow, DV.setV, DV.setO, DV.look2, DV.okV, DV.cl, DV.cls, DV.cc, DV.ccs, DV.tyName, DV.noRef, DV.noRefs, DV.cstW, DV.seqOf, DV.mkTab, DV.findE, DV.findM, DV.frzS, DV.ownS, DV.frE, DV.wipeE, DV.bindT, DV.setAll, DV.dropX, DV.dropF, DV.fstO, DV.esLen, DV.isNon, DV.isFlat, DV.deq, DV.deqs, -List.filter_filter, -List.map_map, -List.getD_eq_getElem?_getD, -List.length_filter_eq_length_iff, -List.length_filter_lt_length_iff_exists, takeW]) | simp [PySem.sizeLine, DV.w1, DV.wE, DV.wT, DV.wI, DV.varW, DV.getS, DV.isOwn, DV.Slot.ow, DV.setV, DV.setO, DV.look2, DV.okV, DV.cl, DV.cls, DV.cc, DV.ccs, DV.tyName, DV.noRef, DV.noRefs, DV.cstW, DV.seqOf, DV.mkTab, DV.findE, DV.findM, DV.frzS, DV.ownS, DV.frE, DV.wipeE, DV.bindT, DV.setAll, DV.dropX, DV.dropF, DV.fstO, DV.esLen, DV.isNon, DV.isFlat, DV.deq, DV.deqs, -List.filter_filter, -List.map_map, -List.getD_eq_getElem?_getD, -List.length_filter_eq_length_iff, -List.length_filter_lt_length_iff_exists, takeW])
    refine ⟨by decide, fun r r0 r1 => ⟨Nat.lt_of_le_of_lt (Nat.log2_le_self _) (by omega), ?_, h _ (.inr (.inl ⟨_, rfl⟩))⟩⟩
    have := len1000 ⟨r.toNat, by omega⟩
    simp only [Int.toNat_of_nonneg r0] at this
    exact this
  · repeat (first | ((first | with_reducible refine seqT ?_ | with_reducible refine seq1 ?_ | with_reducible refine seqE ?_ | with_reducible refine seqF ?_); try simp [PySem.sizeLine, DV.w1, DV.wE, DV.wT, DV.wI, DV.varW, DV.getS, DV.isOwn, DV.Slot.ow, DV.setV, DV.setO, DV.look2, DV.okV, DV.cl, DV.cls, DV.cc, DV.ccs, DV.tyName, DV.noRef, DV.noRefs, DV.cstW, DV.seqOf, DV.mkTab, DV.findE, DV.findM, DV.frzS, DV.ownS, DV.frE, DV.wipeE, DV.bindT, DV.setAll, DV.dropX, DV.dropF, DV.fstO, DV.esLen, DV.isNon, DV.isFlat, DV.deq, DV.deqs, -List.filter_filter, -List.map_map, -List.getD_eq_getElem?_getD, -List.length_filter_eq_length_iff, -List.length_filter_lt_length_iff_exists, takeW]) | simp [PySem.sizeLine, DV.w1, DV.wE, DV.wT, DV.wI, DV.varW, DV.getS, DV.isOwn, DV.Slot.ow, DV.setV, DV.setO, DV.look2, DV.okV, DV.cl, DV.cls, DV.cc, DV.ccs, DV.tyName, DV.noRef, DV.noRefs, DV.cstW, DV.seqOf, DV.mkTab, DV.findE, DV.findM, DV.frzS, DV.ownS, DV.frE, DV.wipeE, DV.bindT, DV.setAll, DV.dropX, DV.dropF, DV.fstO, DV.esLen, DV.isNon, DV.isFlat, DV.deq, DV.deqs, -List.filter_filter, -List.map_map, -List.getD_eq_getElem?_getD, -List.length_filter_eq_length_iff, -List.length_filter_lt_length_iff_exists, takeW])
    exact ⟨by decide, fun r _ _ => ⟨by decide, fun r2 _ _ => h _ (.inr (.inr (.inl ⟨r, r2, rfl⟩)))⟩⟩
  · repeat (first | ((first | with_reducible refine seqT ?_ | with_reducible refine seq1 ?_ | with_reducible refine seqE ?_ | with_reducible refine seqF ?_); try simp [PySem.sizeLine, DV.w1, DV.wE, DV.wT, DV.wI, DV.varW, DV.getS, DV.isOwn, DV.Slot.ow, DV.setV, DV.setO, DV.look2, DV.okV, DV.cl, DV.cls, DV.cc, DV.ccs, DV.tyName, DV.noRef, DV.noRefs, DV.cstW, DV.seqOf, DV.mkTab, DV.findE, DV.findM, DV.frzS, DV.ownS, DV.frE, DV.wipeE, DV.bindT, DV.setAll, DV.dropX, DV.dropF, DV.fstO, DV.esLen, DV.isNon, DV.isFlat, DV.deq, DV.deqs, -List.filter_filter, -List.map_map, -List.getD_eq_getElem?_getD, -List.length_filter_eq_length_iff, -List.length_filter_lt_length_iff_exists, takeW]) | simp [PySem.sizeLine, DV.w1, DV.wE, DV.wT, DV.wI, DV.varW, DV.getS, DV.isOwn, DV.Slot.ow, DV.setV, DV.setO, DV.look2, DV.okV, DV.cl, DV.cls, DV.cc, DV.ccs, DV.tyName, DV.noRef, DV.noRefs, DV.cstW, DV.seqOf, DV.mkTab, DV.findE, DV.findM, DV.frzS, DV.ownS, DV.frE, DV.wipeE, DV.bindT, DV.setAll, DV.dropX, DV.dropF, DV.fstO, DV.esLen, DV.isNon, DV.isFlat, DV.deq, DV.deqs, -List.filter_filter, -List.map_map, -List.getD_eq_getElem?_getD, -List.length_filter_eq_length_iff, -List.length_filter_lt_length_iff_exists, takeW])
    exact h _ (.inr (.inr (.inr rfl)))
theorem Th.noRef {d : D} (h : Th d) : noRef d = true := by
  rcases h with ⟨_, rfl⟩ | ⟨_, rfl⟩ | ⟨_, _, rfl⟩ | rfl <;> rfl
theorem Th.ok {d : D} (h : Th d) : eqOk d := by
  rcases h with ⟨_, rfl⟩ | ⟨_, rfl⟩ | ⟨_, _, rfl⟩ | rfl <;> exact ⟨rfl, by simp [dep, deps]⟩
theorem Th.more {d : D} (h : Th d) : eqOk (.tup [d, .str "more"]) := by
  rcases h with ⟨_, rfl⟩ | ⟨_, rfl⟩ | ⟨_, _, rfl⟩ | rfl <;> exact ⟨rfl, by simp [dep, deps]⟩
theorem Th.refl {d : D} (h : Th d) : deq d d = true := by
  rcases h with ⟨_, rfl⟩ | ⟨_, rfl⟩ | ⟨_, _, rfl⟩ | rfl <;> simp [deq, deqs]
theorem Th.ne {d : D} (h : Th d) : deq d (.tup [d, .str "more"]) = false := by
  rcases h with ⟨_, rfl⟩ | ⟨_, rfl⟩ | ⟨_, _, rfl⟩ | rfl <;> simp [deq, deqs]
theorem Th.ty {d : D} (h : Th d) : tyName d ≠ none := by
  rcases h with ⟨_, rfl⟩ | ⟨_, rfl⟩ | ⟨_, _, rfl⟩ | rfl <;> exact fun z => nomatch z
theorem five {α : Type} {l : List α} (h : l.length = 5) : ∃ a b c d e, l = [a, b, c, d, e] := by
  match l, h with
  | [a, b, c, d, e], _ => exact ⟨a, b, c, d, e, rfl⟩
theorem made_ok {k : Nat} {row : List D} {Q E : D → Prop} (hk : k < 13) (hr : row.length = 5) (h : Q (mkI k row)) : W_law_made [.int k, .lst row] Q E := by
  obtain ⟨d0, d1, d2, d3, d4, rfl⟩ := five hr
  rcases lt13 hk with rfl | rfl | rfl | rfl | rfl | rfl | rfl | rfl | rfl | rfl | rfl | rfl | rfl
  · exact made_0 h
  · exact made_1 h
  · exact made_2 h
  · exact made_3 h
  · exact made_4 h
  · exact made_5 h
  · exact made_6 h
  · exact made_7 h
  · exact made_8 h
  · exact made_9 h
  · exact made_10 h
  · exact made_11 h
  · exact made_12 h
theorem deqs_set : ∀ {l : List D} {i : Nat} {x : D}, (hi : i < l.length) → deq l[i] x = false → deqs l (l.set i x) = false
  | a :: l, 0, x, _, h => by
    have h : deq a x = false := h
    simp [deqs, h]
  | a :: l, i + 1, x, hi, h => by
    have := deqs_set (l := l) (i := i) (x := x) (by simpa using hi) (by simpa using h)
    simp [deqs, this]
theorem deqs_refl : ∀ {l : List D}, (∀ d ∈ l, Th d) → deqs l l = true
  | [], _ => by simp [deqs]
  | a :: l, h => by simp [deqs, (h a List.mem_cons_self).refl, deqs_refl (l := l) fun d hd => h d (List.mem_cons_of_mem _ hd)]
theorem mt_law : ∀ k, k < 13 → G_law.mt k 0 = some (2, mK k) := fun k hk => by
  rcases lt13 hk with rfl | rfl | rfl | rfl | rfl | rfl | rfl | rfl | rfl | rfl | rfl | rfl | rfl <;> rfl
theorem fs_le : ∀ k, k < 13 → (fsK.getD k []).length ≤ 5 ∧ 0 < (fsK.getD k []).length := by decide
theorem gl_isub : G_law.isub = findB mX.isub := rfl
theorem gl_icl : G_law.icl = fun c => mX.icl.contains c := rfl
theorem eqi_same {k : Nat} {r s : List D} {Q : Bool → Prop} {E : D → Prop} (hk : k < 13) (hr : r.length = 5) (hs : s.length = 5) (h1 : ∀ d ∈ r, eqOk d) (h2 : ∀ d ∈ s, eqOk d)
    (h : Q (deqs (r.take (fsK.getD k []).length) (s.take (fsK.getD k []).length))) : eqiW G_law.isub G_law.icl G_law.mt 0 true (mkI k r) (mkI k s) Q E := by
  have ri : findB mX.isub k k = some true := isub_eq k hk
  obtain ⟨a0, a1, a2, a3, a4, rfl⟩ := five hr
  obtain ⟨b0, b1, b2, b3, b4, rfl⟩ := five hs
  simp only [List.mem_cons, List.not_mem_nil, or_false, forall_eq_or_imp, forall_eq] at h1 h2
  obtain ⟨p0, p1, p2, p3, p4⟩ := h1
  obtain ⟨q0, q1, q2, q3, q4⟩ := h2
  unfold eqiW mkI
  simp only [mt_law k hk]
  refine ⟨.inr ⟨rfl, ri⟩, rfl, ?_⟩
  rw [if_pos rfl]
  have e : ∀ t, deqs ([a0, a1, a2, a3, a4].take (fsK.getD k []).length) ([b0, b1, b2, b3, b4].take (fsK.getD k []).length) = t → Q t := fun t ht => by rw [← ht]; exact h
  rcases lt13 hk with rfl | rfl | rfl | rfl | rfl | rfl | rfl | rfl | rfl | rfl | rfl | rfl | rfl
  · exact eqs_0 p0 p1 p2 p3 p4 q0 q1 q2 q3 q4 ⟨_, rfl, e _ (by simp [fsK, deqs, Bool.and_assoc])⟩
  · exact eqs_1 p0 p1 p2 p3 p4 q0 q1 q2 q3 q4 ⟨_, rfl, e _ (by simp [fsK, deqs, Bool.and_assoc])⟩
  · exact eqs_2 p0 p1 p2 q0 q1 q2 ⟨_, rfl, e _ (by simp [fsK, deqs, Bool.and_assoc])⟩
  · exact eqs_3 p0 p1 p2 p3 q0 q1 q2 q3 ⟨_, rfl, e _ (by simp [fsK, deqs, Bool.and_assoc])⟩
  · exact eqs_4 p0 p1 q0 q1 ⟨_, rfl, e _ (by simp [fsK, deqs, Bool.and_assoc])⟩
  · exact eqs_5 p0 p1 q0 q1 ⟨_, rfl, e _ (by simp [fsK, deqs, Bool.and_assoc])⟩
  · exact eqs_6 p0 p1 p2 q0 q1 q2 ⟨_, rfl, e _ (by simp [fsK, deqs, Bool.and_assoc])⟩
  · exact eqs_7 p0 p1 p2 p3 q0 q1 q2 q3 ⟨_, rfl, e _ (by simp [fsK, deqs, Bool.and_assoc])⟩
  · exact eqs_8 p0 p1 p2 q0 q1 q2 ⟨_, rfl, e _ (by simp [fsK, deqs, Bool.and_assoc])⟩
  · exact eqs_9 p0 p1 q0 q1 ⟨_, rfl, e _ (by simp [fsK, deqs, Bool.and_assoc])⟩
  · exact eqs_10 p0 p1 p2 q0 q1 q2 ⟨_, rfl, e _ (by simp [fsK, deqs, Bool.and_assoc])⟩
  · exact eqs_11 p0 p1 p2 q0 q1 q2 ⟨_, rfl, e _ (by simp [fsK, deqs, Bool.and_assoc])⟩
  · exact eqs_12 p0 p1 q0 q1 ⟨_, rfl, e _ (by simp [fsK, deqs, Bool.and_assoc])⟩
theorem eqi_far {c k : Nat} {r s : List D} {Q : Bool → Prop} {E : D → Prop} (hk : k < 13) (hc : c < 13) (hn : c ≠ k) (h : Q false) : eqiW G_law.isub G_law.icl G_law.mt 0 true (mkI k r) (mkI c s) Q E := by
  have ri : findB mX.isub c k = some false := isub_ne c hc k hk hn
  unfold eqiW mkI
  simp only [mt_law k hk]
  refine ⟨.inl ri, rfl, ?_⟩
  rw [if_pos rfl]
  rcases lt13 hk with rfl | rfl | rfl | rfl | rfl | rfl | rfl | rfl | rfl | rfl | rfl | rfl | rfl
  · exact eqo_0 (ys := []) hc hn ⟨_, rfl, h⟩
  · exact eqo_1 (ys := []) hc hn ⟨_, rfl, h⟩
  · exact eqo_2 (ys := []) hc hn ⟨_, rfl, h⟩
  · exact eqo_3 (ys := []) hc hn ⟨_, rfl, h⟩
  · exact eqo_4 (ys := []) hc hn ⟨_, rfl, h⟩
  · exact eqo_5 (ys := []) hc hn ⟨_, rfl, h⟩
  · exact eqo_6 (ys := []) hc hn ⟨_, rfl, h⟩
  · exact eqo_7 (ys := []) hc hn ⟨_, rfl, h⟩
  · exact eqo_8 (ys := []) hc hn ⟨_, rfl, h⟩
  · exact eqo_9 (ys := []) hc hn ⟨_, rfl, h⟩
  · exact eqo_10 (ys := []) hc hn ⟨_, rfl, h⟩
  · exact eqo_11 (ys := []) hc hn ⟨_, rfl, h⟩
  · exact eqo_12 (ys := []) hc hn ⟨_, rfl, h⟩
theorem eqi_non {k : Nat} {r : List D} {y : D} {Q : Bool → Prop} {E : D → Prop} (hk : k < 13) (hy : tyName y ≠ none) (h : Q false) : eqiW G_law.isub G_law.icl G_law.mt 0 true (mkI k r) y Q E := by
  have ic : G_law.icl k = true := by rw [gl_icl]; simpa using icl_ok k hk
  have ro : rightOk G_law.isub G_law.icl k y := by
    cases y <;> first | exact ⟨hy, ic⟩ | exact absurd rfl hy
  unfold eqiW mkI
  simp only [mt_law k hk]
  refine ⟨ro, rfl, ?_⟩
  rw [if_pos rfl]
  rcases lt13 hk with rfl | rfl | rfl | rfl | rfl | rfl | rfl | rfl | rfl | rfl | rfl | rfl | rfl
  · exact eqn_0 hy ⟨_, rfl, h⟩
  · exact eqn_1 hy ⟨_, rfl, h⟩
  · exact eqn_2 hy ⟨_, rfl, h⟩
  · exact eqn_3 hy ⟨_, rfl, h⟩
  · exact eqn_4 hy ⟨_, rfl, h⟩
  · exact eqn_5 hy ⟨_, rfl, h⟩
  · exact eqn_6 hy ⟨_, rfl, h⟩
  · exact eqn_7 hy ⟨_, rfl, h⟩
  · exact eqn_8 hy ⟨_, rfl, h⟩
  · exact eqn_9 hy ⟨_, rfl, h⟩
  · exact eqn_10 hy ⟨_, rfl, h⟩
  · exact eqn_11 hy ⟨_, rfl, h⟩
  · exact eqn_12 hy ⟨_, rfl, h⟩
theorem fields_ok {k : Nat} {row : List D} {Q E : D → Prop} (hk : k < 13) (hr : row.length = 5) (h : Q (.lst (row.take (fsK.getD k []).length))) : W_law_fields [.int k, mkI k row] Q E := by
  obtain ⟨d0, d1, d2, d3, d4, rfl⟩ := five hr
  unfold W_law_fields bodyW b_law_fields
  simp [startE, N_law_fields]
  rcases lt13 hk with rfl | rfl | rfl | rfl | rfl | rfl | rfl | rfl | rfl | rfl | rfl | rfl | rfl <;> (simp [mkI, fsK] at h ⊢; repeat (first | ((first | with_reducible refine seqT ?_ | with_reducible refine seq1 ?_ | with_reducible refine seqE ?_ | with_reducible refine seqF ?_); try simp [PySem.sizeLine, DV.w1, DV.wE, DV.wT, DV.wI, DV.varW, DV.getS, DV.isOwn, DV.Slot.ow, DV.setV, DV.setO, DV.look2, DV.okV, DV.cl, DV.cls, DV.cc, DV.ccs, DV.tyName, DV.noRef, DV.noRefs, DV.cstW, DV.seqOf, DV.mkTab, DV.findE, DV.findM, DV.frzS, DV.ownS, DV.frE, DV.wipeE, DV.bindT, DV.setAll, DV.dropX, DV.dropF, DV.fstO, DV.esLen, DV.isNon, DV.isFlat, DV.deq, DV.deqs, -List.filter_filter, -List.map_map, -List.getD_eq_getElem?_getD, -List.length_filter_eq_length_iff, -List.length_filter_lt_length_iff_exists]) | simp [PySem.sizeLine, DV.w1, DV.wE, DV.wT, DV.wI, DV.varW, DV.getS, DV.isOwn, DV.Slot.ow, DV.setV, DV.setO, DV.look2, DV.okV, DV.cl, DV.cls, DV.cc, DV.ccs, DV.tyName, DV.noRef, DV.noRefs, DV.cstW, DV.seqOf, DV.mkTab, DV.findE, DV.findM, DV.frzS, DV.ownS, DV.frE, DV.wipeE, DV.bindT, DV.setAll, DV.dropX, DV.dropF, DV.fstO, DV.esLen, DV.isNon, DV.isFlat, DV.deq, DV.deqs, -List.filter_filter, -List.map_map, -List.getD_eq_getElem?_getD, -List.length_filter_eq_length_iff, -List.length_filter_lt_length_iff_exists])) <;> exact h
theorem many_ok {k : Nat} {Q E : D → Prop} (hk : k < 13) (h : Q (.int (fsK.getD k []).length)) : W_law_many [.int k] Q E := by
  unfold W_law_many bodyW b_law_many
  simp [startE, N_law_many]
  rcases lt13 hk with rfl | rfl | rfl | rfl | rfl | rfl | rfl | rfl | rfl | rfl | rfl | rfl | rfl <;> (simp [fsK] at h ⊢; repeat (first | ((first | with_reducible refine seqT ?_ | with_reducible refine seq1 ?_ | with_reducible refine seqE ?_ | with_reducible refine seqF ?_); try simp [PySem.sizeLine, DV.w1, DV.wE, DV.wT, DV.wI, DV.varW, DV.getS, DV.isOwn, DV.Slot.ow, DV.setV, DV.setO, DV.look2, DV.okV, DV.cl, DV.cls, DV.cc, DV.ccs, DV.tyName, DV.noRef, DV.noRefs, DV.cstW, DV.seqOf, DV.mkTab, DV.findE, DV.findM, DV.frzS, DV.ownS, DV.frE, DV.wipeE, DV.bindT, DV.setAll, DV.dropX, DV.dropF, DV.fstO, DV.esLen, DV.isNon, DV.isFlat, DV.deq, DV.deqs, -List.filter_filter, -List.map_map, -List.getD_eq_getElem?_getD, -List.length_filter_eq_length_iff, -List.length_filter_lt_length_iff_exists]) | simp [PySem.sizeLine, DV.w1, DV.wE, DV.wT, DV.wI, DV.varW, DV.getS, DV.isOwn, DV.Slot.ow, DV.setV, DV.setO, DV.look2, DV.okV, DV.cl, DV.cls, DV.cc, DV.ccs, DV.tyName, DV.noRef, DV.noRefs, DV.cstW, DV.seqOf, DV.mkTab, DV.findE, DV.findM, DV.frzS, DV.ownS, DV.frE, DV.wipeE, DV.bindT, DV.setAll, DV.dropX, DV.dropF, DV.fstO, DV.esLen, DV.isNon, DV.isFlat, DV.deq, DV.deqs, -List.filter_filter, -List.map_map, -List.getD_eq_getElem?_getD, -List.length_filter_eq_length_iff, -List.length_filter_lt_length_iff_exists])) <;> exact h
end Lw
namespace Lw
open DV
def inv (ρ : DV.Env) : Prop := ∃ x2 x3 x4 x5 x6 x7 x8 x9 : Option D, ρ = [none, some (.val .hand), x2.map .val, x3.map .val, x4.map .val, x5.map .val, x6.map .val, x7.map .val, x8.map .val, x9.map .val]
theorem Th.dep {d : D} (h : Th d) : dep d ≤ 2 := by
  rcases h with ⟨_, rfl⟩ | ⟨_, rfl⟩ | ⟨_, _, rfl⟩ | rfl <;> simp [DV.dep, deps]
theorem take_any {k : Nat} {Q E : D → Prop} (hm : (fsK.getD k []).length ≤ 5 ∧ 0 < (fsK.getD k []).length) (q : ∀ r : Nat, r < (fsK.getD k []).length → Q (.int r)) : takeW [.hand, .int ((fsK.getD k []).length : Nat)] Q E := by
  refine ⟨by omega, ?_, fun r r0 r1 => ?_⟩
  · have : (((fsK.getD k []).length : Nat) : Int).natAbs = (fsK.getD k []).length := rfl
    rw [this]
    exact Nat.lt_of_le_of_lt (Nat.log2_le_self _) (by omega)
  · have := q r.toNat (by omega)
    rwa [Int.toNat_of_nonneg r0] at this
theorem plain : LawOk G_law N_law.length b_law := by
  unfold LawOk rho0
  simp [N_law]
  (first | ((first | with_reducible refine seqT ?_ | with_reducible refine seq1 ?_ | with_reducible refine seqE ?_ | with_reducible refine seqF ?_); try simp [PySem.sizeLine, DV.w1, DV.wE, DV.wT, DV.wI, DV.varW, DV.getS, DV.isOwn, DV.Slot.ow, DV.setV, DV.setO, DV.look2, DV.okV, DV.cl, DV.cls, DV.cc, DV.ccs, DV.tyName, DV.noRef, DV.noRefs, DV.cstW, DV.seqOf, DV.mkTab, DV.findE, DV.findM, DV.frzS, DV.ownS, DV.frE, DV.wipeE, DV.bindT, DV.setAll, DV.dropX, DV.dropF, DV.fstO, DV.esLen, DV.isNon, DV.isFlat, DV.deq, DV.deqs, -List.filter_filter, -List.map_map, -List.getD_eq_getElem?_getD, -List.length_filter_eq_length_iff, -List.length_filter_lt_length_iff_exists]) | simp [PySem.sizeLine, DV.w1, DV.wE, DV.wT, DV.wI, DV.varW, DV.getS, DV.isOwn, DV.Slot.ow, DV.setV, DV.setO, DV.look2, DV.okV, DV.cl, DV.cls, DV.cc, DV.ccs, DV.tyName, DV.noRef, DV.noRefs, DV.cstW, DV.seqOf, DV.mkTab, DV.findE, DV.findM, DV.frzS, DV.ownS, DV.frE, DV.wipeE, DV.bindT, DV.setAll, DV.dropX, DV.dropF, DV.fstO, DV.esLen, DV.isNon, DV.isFlat, DV.deq, DV.deqs, -List.filter_filter, -List.map_map, -List.getD_eq_getElem?_getD, -List.length_filter_eq_length_iff, -List.length_filter_lt_length_iff_exists])
  refine for_inv (g := fun k : Nat => .int (k : Int)) (l := List.range 13) (pre := []) (fun _ => inv) (fun _ => False) (fun _ => False) ⟨none, none, none, none, none, none, none, none, rfl⟩ ?_ ?_ (fun _ z => z.elim) (fun _ z => z.elim)
  · rintro p2 k post ρ hl _ ⟨x2, x3, x4, x5, x6, x7, x8, x9, rfl⟩
    have hk : k < 13 := by
      have : k ∈ [] ++ List.range 13 := by rw [hl]; simp
      simpa using this
    simp [bindT, setAll]
    intro K k1 k2
    (first | ((first | with_reducible refine seqT ?_ | with_reducible refine seq1 ?_ | with_reducible refine seqE ?_ | with_reducible refine seqF ?_); try simp [PySem.sizeLine, DV.w1, DV.wE, DV.wT, DV.wI, DV.varW, DV.getS, DV.isOwn, DV.Slot.ow, DV.setV, DV.setO, DV.look2, DV.okV, DV.cl, DV.cls, DV.cc, DV.ccs, DV.tyName, DV.noRef, DV.noRefs, DV.cstW, DV.seqOf, DV.mkTab, DV.findE, DV.findM, DV.frzS, DV.ownS, DV.frE, DV.wipeE, DV.bindT, DV.setAll, DV.dropX, DV.dropF, DV.fstO, DV.esLen, DV.isNon, DV.isFlat, DV.deq, DV.deqs, -List.filter_filter, -List.map_map, -List.getD_eq_getElem?_getD, -List.length_filter_eq_length_iff, -List.length_filter_lt_length_iff_exists]) | simp [PySem.sizeLine, DV.w1, DV.wE, DV.wT, DV.wI, DV.varW, DV.getS, DV.isOwn, DV.Slot.ow, DV.setV, DV.setO, DV.look2, DV.okV, DV.cl, DV.cls, DV.cc, DV.ccs, DV.tyName, DV.noRef, DV.noRefs, DV.cstW, DV.seqOf, DV.mkTab, DV.findE, DV.findM, DV.frzS, DV.ownS, DV.frE, DV.wipeE, DV.bindT, DV.setAll, DV.dropX, DV.dropF, DV.fstO, DV.esLen, DV.isNon, DV.isFlat, DV.deq, DV.deqs, -List.filter_filter, -List.map_map, -List.getD_eq_getElem?_getD, -List.length_filter_eq_length_iff, -List.length_filter_lt_length_iff_exists])
    refine comp_any (g := fun k : Nat => .int (k : Int)) (l := List.range 5) (p := fun _ => true) (P := fun _ d => Th d) (fun a _ => ⟨_, rfl, fun Q q => q, fun _ Q hq => ?_⟩) fun ys hys => ?_
    · (simp [PySem.sizeLine, DV.w1, DV.wE, DV.wT, DV.wI, DV.varW, DV.getS, DV.isOwn, DV.Slot.ow, DV.setV, DV.setO, DV.look2, DV.okV, DV.cl, DV.cls, DV.cc, DV.ccs, DV.tyName, DV.noRef, DV.noRefs, DV.cstW, DV.seqOf, DV.mkTab, DV.findE, DV.findM, DV.frzS, DV.ownS, DV.frE, DV.wipeE, DV.bindT, DV.setAll, DV.dropX, DV.dropF, DV.fstO, DV.esLen, DV.isNon, DV.isFlat, DV.deq, DV.deqs, -List.filter_filter, -List.map_map, -List.getD_eq_getElem?_getD, -List.length_filter_eq_length_iff, -List.length_filter_lt_length_iff_exists])
      exact thing_ok fun d hd => hq d hd
    · have hl5 : ys.length = 5 := by rw [hys.len]; decide
      have hT : ∀ d ∈ ys, Th d := by
        have aux : ∀ {l : List Nat} {m : List D}, F2 (fun _ d => Th d) l m → ∀ d ∈ m, Th d := by
          intro l m h
          induction h with
          | nil => intro d hd; cases hd
          | cons h _ ih =>
            intro d hd
            rcases List.mem_cons.mp hd with rfl | hd
            · exact h
            · exact ih d hd
        exact aux hys
      clear hys
      have hm5 := fs_le k hk
      (first | ((first | with_reducible refine seqT ?_ | with_reducible refine seq1 ?_ | with_reducible refine seqE ?_ | with_reducible refine seqF ?_); try simp [PySem.sizeLine, DV.w1, DV.wE, DV.wT, DV.wI, DV.varW, DV.getS, DV.isOwn, DV.Slot.ow, DV.setV, DV.setO, DV.look2, DV.okV, DV.cl, DV.cls, DV.cc, DV.ccs, DV.tyName, DV.noRef, DV.noRefs, DV.cstW, DV.seqOf, DV.mkTab, DV.findE, DV.findM, DV.frzS, DV.ownS, DV.frE, DV.wipeE, DV.bindT, DV.setAll, DV.dropX, DV.dropF, DV.fstO, DV.esLen, DV.isNon, DV.isFlat, DV.deq, DV.deqs, -List.filter_filter, -List.map_map, -List.getD_eq_getElem?_getD, -List.length_filter_eq_length_iff, -List.length_filter_lt_length_iff_exists]) | simp [PySem.sizeLine, DV.w1, DV.wE, DV.wT, DV.wI, DV.varW, DV.getS, DV.isOwn, DV.Slot.ow, DV.setV, DV.setO, DV.look2, DV.okV, DV.cl, DV.cls, DV.cc, DV.ccs, DV.tyName, DV.noRef, DV.noRefs, DV.cstW, DV.seqOf, DV.mkTab, DV.findE, DV.findM, DV.frzS, DV.ownS, DV.frE, DV.wipeE, DV.bindT, DV.setAll, DV.dropX, DV.dropF, DV.fstO, DV.esLen, DV.isNon, DV.isFlat, DV.deq, DV.deqs, -List.filter_filter, -List.map_map, -List.getD_eq_getElem?_getD, -List.length_filter_eq_length_iff, -List.length_filter_lt_length_iff_exists])
      refine made_ok hk hl5 ?_
      (first | ((first | with_reducible refine seqT ?_ | with_reducible refine seq1 ?_ | with_reducible refine seqE ?_ | with_reducible refine seqF ?_); try simp [PySem.sizeLine, DV.w1, DV.wE, DV.wT, DV.wI, DV.varW, DV.getS, DV.isOwn, DV.Slot.ow, DV.setV, DV.setO, DV.look2, DV.okV, DV.cl, DV.cls, DV.cc, DV.ccs, DV.tyName, DV.noRef, DV.noRefs, DV.cstW, DV.seqOf, DV.mkTab, DV.findE, DV.findM, DV.frzS, DV.ownS, DV.frE, DV.wipeE, DV.bindT, DV.setAll, DV.dropX, DV.dropF, DV.fstO, DV.esLen, DV.isNon, DV.isFlat, DV.deq, DV.deqs, -List.filter_filter, -List.map_map, -List.getD_eq_getElem?_getD, -List.length_filter_eq_length_iff, -List.length_filter_lt_length_iff_exists]) | simp [PySem.sizeLine, DV.w1, DV.wE, DV.wT, DV.wI, DV.varW, DV.getS, DV.isOwn, DV.Slot.ow, DV.setV, DV.setO, DV.look2, DV.okV, DV.cl, DV.cls, DV.cc, DV.ccs, DV.tyName, DV.noRef, DV.noRefs, DV.cstW, DV.seqOf, DV.mkTab, DV.findE, DV.findM, DV.frzS, DV.ownS, DV.frE, DV.wipeE, DV.bindT, DV.setAll, DV.dropX, DV.dropF, DV.fstO, DV.esLen, DV.isNon, DV.isFlat, DV.deq, DV.deqs, -List.filter_filter, -List.map_map, -List.getD_eq_getElem?_getD, -List.length_filter_eq_length_iff, -List.length_filter_lt_length_iff_exists])
      refine made_ok hk hl5 ?_
      (first | ((first | with_reducible refine seqT ?_ | with_reducible refine seq1 ?_ | with_reducible refine seqE ?_ | with_reducible refine seqF ?_); try simp [PySem.sizeLine, DV.w1, DV.wE, DV.wT, DV.wI, DV.varW, DV.getS, DV.isOwn, DV.Slot.ow, DV.setV, DV.setO, DV.look2, DV.okV, DV.cl, DV.cls, DV.cc, DV.ccs, DV.tyName, DV.noRef, DV.noRefs, DV.cstW, DV.seqOf, DV.mkTab, DV.findE, DV.findM, DV.frzS, DV.ownS, DV.frE, DV.wipeE, DV.bindT, DV.setAll, DV.dropX, DV.dropF, DV.fstO, DV.esLen, DV.isNon, DV.isFlat, DV.deq, DV.deqs, -List.filter_filter, -List.map_map, -List.getD_eq_getElem?_getD, -List.length_filter_eq_length_iff, -List.length_filter_lt_length_iff_exists]) | simp [PySem.sizeLine, DV.w1, DV.wE, DV.wT, DV.wI, DV.varW, DV.getS, DV.isOwn, DV.Slot.ow, DV.setV, DV.setO, DV.look2, DV.okV, DV.cl, DV.cls, DV.cc, DV.ccs, DV.tyName, DV.noRef, DV.noRefs, DV.cstW, DV.seqOf, DV.mkTab, DV.findE, DV.findM, DV.frzS, DV.ownS, DV.frE, DV.wipeE, DV.bindT, DV.setAll, DV.dropX, DV.dropF, DV.fstO, DV.esLen, DV.isNon, DV.isFlat, DV.deq, DV.deqs, -List.filter_filter, -List.map_map, -List.getD_eq_getElem?_getD, -List.length_filter_eq_length_iff, -List.length_filter_lt_length_iff_exists])
      have okT : ∀ n : Nat, eqOk (.lst (ys.take n)) := fun n => by
        refine ⟨?_, ?_⟩
        · unfold isP
          have aux : ∀ {l : List D}, (∀ d ∈ l, Th d) → isPs l = true := by
            intro l h
            induction l with
            | nil => rfl
            | cons a l ih => simp only [isPs, Bool.and_eq_true]; exact ⟨(h a List.mem_cons_self).ok.1, ih fun d hd => h d (List.mem_cons_of_mem _ hd)⟩
          exact aux fun d hd => hT d (List.mem_of_mem_take hd)
        · unfold dep
          have aux : ∀ {l : List D}, (∀ d ∈ l, Th d) → deps l ≤ 2 := by
            intro l h
            induction l with
            | nil => simp [deps]
            | cons a l ih => simp only [deps]; exact Nat.max_le.mpr ⟨(h a List.mem_cons_self).dep, ih fun d hd => h d (List.mem_cons_of_mem _ hd)⟩
          exact Nat.le_trans (Nat.succ_le_succ (aux fun d hd => hT d (List.mem_of_mem_take hd))) (by decide)
      have eqT : ∀ n : Nat, deqs (ys.take n) (ys.take n) = true := fun n => deqs_refl fun d hd => hT d (List.mem_of_mem_take hd)
      have okY : ∀ d ∈ ys, eqOk d := fun d hd => (hT d hd).ok
      refine fields_ok hk hl5 ?_
      repeat (first | ((first | with_reducible refine seqT ?_ | with_reducible refine seq1 ?_ | with_reducible refine seqE ?_ | with_reducible refine seqF ?_); try simp [PySem.sizeLine, DV.w1, DV.wE, DV.wT, DV.wI, DV.varW, DV.getS, DV.isOwn, DV.Slot.ow, DV.setV, DV.setO, DV.look2, DV.okV, DV.cl, DV.cls, DV.cc, DV.ccs, DV.tyName, DV.noRef, DV.noRefs, DV.cstW, DV.seqOf, DV.mkTab, DV.findE, DV.findM, DV.frzS, DV.ownS, DV.frE, DV.wipeE, DV.bindT, DV.setAll, DV.dropX, DV.dropF, DV.fstO, DV.esLen, DV.isNon, DV.isFlat, DV.deq, DV.deqs, -List.filter_filter, -List.map_map, -List.getD_eq_getElem?_getD, -List.length_filter_eq_length_iff, -List.length_filter_lt_length_iff_exists]) | simp [PySem.sizeLine, DV.w1, DV.wE, DV.wT, DV.wI, DV.varW, DV.getS, DV.isOwn, DV.Slot.ow, DV.setV, DV.setO, DV.look2, DV.okV, DV.cl, DV.cls, DV.cc, DV.ccs, DV.tyName, DV.noRef, DV.noRefs, DV.cstW, DV.seqOf, DV.mkTab, DV.findE, DV.findM, DV.frzS, DV.ownS, DV.frE, DV.wipeE, DV.bindT, DV.setAll, DV.dropX, DV.dropF, DV.fstO, DV.esLen, DV.isNon, DV.isFlat, DV.deq, DV.deqs, -List.filter_filter, -List.map_map, -List.getD_eq_getElem?_getD, -List.length_filter_eq_length_iff, -List.length_filter_lt_length_iff_exists])
      refine many_ok hk ?_
      repeat (first | ((first | with_reducible refine seqT ?_ | with_reducible refine seq1 ?_ | with_reducible refine seqE ?_ | with_reducible refine seqF ?_); try simp [PySem.sizeLine, DV.w1, DV.wE, DV.wT, DV.wI, DV.varW, DV.getS, DV.isOwn, DV.Slot.ow, DV.setV, DV.setO, DV.look2, DV.okV, DV.cl, DV.cls, DV.cc, DV.ccs, DV.tyName, DV.noRef, DV.noRefs, DV.cstW, DV.seqOf, DV.mkTab, DV.findE, DV.findM, DV.frzS, DV.ownS, DV.frE, DV.wipeE, DV.bindT, DV.setAll, DV.dropX, DV.dropF, DV.fstO, DV.esLen, DV.isNon, DV.isFlat, DV.deq, DV.deqs, -List.filter_filter, -List.map_map, -List.getD_eq_getElem?_getD, -List.length_filter_eq_length_iff, -List.length_filter_lt_length_iff_exists, okT, eqT]) | simp [PySem.sizeLine, DV.w1, DV.wE, DV.wT, DV.wI, DV.varW, DV.getS, DV.isOwn, DV.Slot.ow, DV.setV, DV.setO, DV.look2, DV.okV, DV.cl, DV.cls, DV.cc, DV.ccs, DV.tyName, DV.noRef, DV.noRefs, DV.cstW, DV.seqOf, DV.mkTab, DV.findE, DV.findM, DV.frzS, DV.ownS, DV.frE, DV.wipeE, DV.bindT, DV.setAll, DV.dropX, DV.dropF, DV.fstO, DV.esLen, DV.isNon, DV.isFlat, DV.deq, DV.deqs, -List.filter_filter, -List.map_map, -List.getD_eq_getElem?_getD, -List.length_filter_eq_length_iff, -List.length_filter_lt_length_iff_exists, okT, eqT])
      refine eqi_same hk hl5 hl5 okY okY ?_
      rw [eqT]
      repeat (first | ((first | with_reducible refine seqT ?_ | with_reducible refine seq1 ?_ | with_reducible refine seqE ?_ | with_reducible refine seqF ?_); try simp [PySem.sizeLine, DV.w1, DV.wE, DV.wT, DV.wI, DV.varW, DV.getS, DV.isOwn, DV.Slot.ow, DV.setV, DV.setO, DV.look2, DV.okV, DV.cl, DV.cls, DV.cc, DV.ccs, DV.tyName, DV.noRef, DV.noRefs, DV.cstW, DV.seqOf, DV.mkTab, DV.findE, DV.findM, DV.frzS, DV.ownS, DV.frE, DV.wipeE, DV.bindT, DV.setAll, DV.dropX, DV.dropF, DV.fstO, DV.esLen, DV.isNon, DV.isFlat, DV.deq, DV.deqs, -List.filter_filter, -List.map_map, -List.getD_eq_getElem?_getD, -List.length_filter_eq_length_iff, -List.length_filter_lt_length_iff_exists]) | simp [PySem.sizeLine, DV.w1, DV.wE, DV.wT, DV.wI, DV.varW, DV.getS, DV.isOwn, DV.Slot.ow, DV.setV, DV.setO, DV.look2, DV.okV, DV.cl, DV.cls, DV.cc, DV.ccs, DV.tyName, DV.noRef, DV.noRefs, DV.cstW, DV.seqOf, DV.mkTab, DV.findE, DV.findM, DV.frzS, DV.ownS, DV.frE, DV.wipeE, DV.bindT, DV.setAll, DV.dropX, DV.dropF, DV.fstO, DV.esLen, DV.isNon, DV.isFlat, DV.deq, DV.deqs, -List.filter_filter, -List.map_map, -List.getD_eq_getElem?_getD, -List.length_filter_eq_length_iff, -List.length_filter_lt_length_iff_exists])
      refine many_ok hk ?_
      repeat (first | ((first | with_reducible refine seqT ?_ | with_reducible refine seq1 ?_ | with_reducible refine seqE ?_ | with_reducible refine seqF ?_); try simp [PySem.sizeLine, DV.w1, DV.wE, DV.wT, DV.wI, DV.varW, DV.getS, DV.isOwn, DV.Slot.ow, DV.setV, DV.setO, DV.look2, DV.okV, DV.cl, DV.cls, DV.cc, DV.ccs, DV.tyName, DV.noRef, DV.noRefs, DV.cstW, DV.seqOf, DV.mkTab, DV.findE, DV.findM, DV.frzS, DV.ownS, DV.frE, DV.wipeE, DV.bindT, DV.setAll, DV.dropX, DV.dropF, DV.fstO, DV.esLen, DV.isNon, DV.isFlat, DV.deq, DV.deqs, -List.filter_filter, -List.map_map, -List.getD_eq_getElem?_getD, -List.length_filter_eq_length_iff, -List.length_filter_lt_length_iff_exists]) | simp [PySem.sizeLine, DV.w1, DV.wE, DV.wT, DV.wI, DV.varW, DV.getS, DV.isOwn, DV.Slot.ow, DV.setV, DV.setO, DV.look2, DV.okV, DV.cl, DV.cls, DV.cc, DV.ccs, DV.tyName, DV.noRef, DV.noRefs, DV.cstW, DV.seqOf, DV.mkTab, DV.findE, DV.findM, DV.frzS, DV.ownS, DV.frE, DV.wipeE, DV.bindT, DV.setAll, DV.dropX, DV.dropF, DV.fstO, DV.esLen, DV.isNon, DV.isFlat, DV.deq, DV.deqs, -List.filter_filter, -List.map_map, -List.getD_eq_getElem?_getD, -List.length_filter_eq_length_iff, -List.length_filter_lt_length_iff_exists])
      refine take_any hm5 fun r hr => ?_
      have hry : r < ys.length := by omega
      repeat (first | ((first | with_reducible refine seqT ?_ | with_reducible refine seq1 ?_ | with_reducible refine seqE ?_ | with_reducible refine seqF ?_); try simp [PySem.sizeLine, DV.w1, DV.wE, DV.wT, DV.wI, DV.varW, DV.getS, DV.isOwn, DV.Slot.ow, DV.setV, DV.setO, DV.look2, DV.okV, DV.cl, DV.cls, DV.cc, DV.ccs, DV.tyName, DV.noRef, DV.noRefs, DV.cstW, DV.seqOf, DV.mkTab, DV.findE, DV.findM, DV.frzS, DV.ownS, DV.frE, DV.wipeE, DV.bindT, DV.setAll, DV.dropX, DV.dropF, DV.fstO, DV.esLen, DV.isNon, DV.isFlat, DV.deq, DV.deqs, -List.filter_filter, -List.map_map, -List.getD_eq_getElem?_getD, -List.length_filter_eq_length_iff, -List.length_filter_lt_length_iff_exists]) | simp [PySem.sizeLine, DV.w1, DV.wE, DV.wT, DV.wI, DV.varW, DV.getS, DV.isOwn, DV.Slot.ow, DV.setV, DV.setO, DV.look2, DV.okV, DV.cl, DV.cls, DV.cc, DV.ccs, DV.tyName, DV.noRef, DV.noRefs, DV.cstW, DV.seqOf, DV.mkTab, DV.findE, DV.findM, DV.frzS, DV.ownS, DV.frE, DV.wipeE, DV.bindT, DV.setAll, DV.dropX, DV.dropF, DV.fstO, DV.esLen, DV.isNon, DV.isFlat, DV.deq, DV.deqs, -List.filter_filter, -List.map_map, -List.getD_eq_getElem?_getD, -List.length_filter_eq_length_iff, -List.length_filter_lt_length_iff_exists])
      have hge : ys[r]? = some ys[r] := List.getElem?_eq_getElem hry
      have hTr : Th ys[r] := hT _ (List.getElem_mem hry)
      repeat (first | ((first | with_reducible refine seqT ?_ | with_reducible refine seq1 ?_ | with_reducible refine seqE ?_ | with_reducible refine seqF ?_); try simp [PySem.sizeLine, DV.w1, DV.wE, DV.wT, DV.wI, DV.varW, DV.getS, DV.isOwn, DV.Slot.ow, DV.setV, DV.setO, DV.look2, DV.okV, DV.cl, DV.cls, DV.cc, DV.ccs, DV.tyName, DV.noRef, DV.noRefs, DV.cstW, DV.seqOf, DV.mkTab, DV.findE, DV.findM, DV.frzS, DV.ownS, DV.frE, DV.wipeE, DV.bindT, DV.setAll, DV.dropX, DV.dropF, DV.fstO, DV.esLen, DV.isNon, DV.isFlat, DV.deq, DV.deqs, -List.filter_filter, -List.map_map, -List.getD_eq_getElem?_getD, -List.length_filter_eq_length_iff, -List.length_filter_lt_length_iff_exists, hge, ixN_nat hry, hTr.noRef]) | simp [PySem.sizeLine, DV.w1, DV.wE, DV.wT, DV.wI, DV.varW, DV.getS, DV.isOwn, DV.Slot.ow, DV.setV, DV.setO, DV.look2, DV.okV, DV.cl, DV.cls, DV.cc, DV.ccs, DV.tyName, DV.noRef, DV.noRefs, DV.cstW, DV.seqOf, DV.mkTab, DV.findE, DV.findM, DV.frzS, DV.ownS, DV.frE, DV.wipeE, DV.bindT, DV.setAll, DV.dropX, DV.dropF, DV.fstO, DV.esLen, DV.isNon, DV.isFlat, DV.deq, DV.deqs, -List.filter_filter, -List.map_map, -List.getD_eq_getElem?_getD, -List.length_filter_eq_length_iff, -List.length_filter_lt_length_iff_exists, hge, ixN_nat hry, hTr.noRef])
      have hset : (ys.set r (.tup [ys[r], .str "more"])).length = 5 := by rw [List.length_set]; exact hl5
      have okS : ∀ d ∈ ys.set r (.tup [ys[r], .str "more"]), eqOk d := fun d hd => by
        rcases List.mem_or_eq_of_mem_set hd with h | h
        · exact okY d h
        · rw [h]; exact hTr.more
      have neS : deqs (ys.take (fsK.getD k []).length) ((ys.set r (.tup [ys[r], .str "more"])).take (fsK.getD k []).length) = false := by
        rw [List.take_set]
        refine deqs_set (by rw [List.length_take]; omega) ?_
        rw [List.getElem_take]
        exact hTr.ne
      refine made_ok hk hset ?_
      refine eqi_same hk hl5 hset okY okS ?_
      rw [neS]
      repeat (first | ((first | with_reducible refine seqT ?_ | with_reducible refine seq1 ?_ | with_reducible refine seqE ?_ | with_reducible refine seqF ?_); try simp [PySem.sizeLine, DV.w1, DV.wE, DV.wT, DV.wI, DV.varW, DV.getS, DV.isOwn, DV.Slot.ow, DV.setV, DV.setO, DV.look2, DV.okV, DV.cl, DV.cls, DV.cc, DV.ccs, DV.tyName, DV.noRef, DV.noRefs, DV.cstW, DV.seqOf, DV.mkTab, DV.findE, DV.findM, DV.frzS, DV.ownS, DV.frE, DV.wipeE, DV.bindT, DV.setAll, DV.dropX, DV.dropF, DV.fstO, DV.esLen, DV.isNon, DV.isFlat, DV.deq, DV.deqs, -List.filter_filter, -List.map_map, -List.getD_eq_getElem?_getD, -List.length_filter_eq_length_iff, -List.length_filter_lt_length_iff_exists]) | simp [PySem.sizeLine, DV.w1, DV.wE, DV.wT, DV.wI, DV.varW, DV.getS, DV.isOwn, DV.Slot.ow, DV.setV, DV.setO, DV.look2, DV.okV, DV.cl, DV.cls, DV.cc, DV.ccs, DV.tyName, DV.noRef, DV.noRefs, DV.cstW, DV.seqOf, DV.mkTab, DV.findE, DV.findM, DV.frzS, DV.ownS, DV.frE, DV.wipeE, DV.bindT, DV.setAll, DV.dropX, DV.dropF, DV.fstO, DV.esLen, DV.isNon, DV.isFlat, DV.deq, DV.deqs, -List.filter_filter, -List.map_map, -List.getD_eq_getElem?_getD, -List.length_filter_eq_length_iff, -List.length_filter_lt_length_iff_exists])
      refine many_ok hk ?_
      repeat (first | ((first | with_reducible refine seqT ?_ | with_reducible refine seq1 ?_ | with_reducible refine seqE ?_ | with_reducible refine seqF ?_); try simp [PySem.sizeLine, DV.w1, DV.wE, DV.wT, DV.wI, DV.varW, DV.getS, DV.isOwn, DV.Slot.ow, DV.setV, DV.setO, DV.look2, DV.okV, DV.cl, DV.cls, DV.cc, DV.ccs, DV.tyName, DV.noRef, DV.noRefs, DV.cstW, DV.seqOf, DV.mkTab, DV.findE, DV.findM, DV.frzS, DV.ownS, DV.frE, DV.wipeE, DV.bindT, DV.setAll, DV.dropX, DV.dropF, DV.fstO, DV.esLen, DV.isNon, DV.isFlat, DV.deq, DV.deqs, -List.filter_filter, -List.map_map, -List.getD_eq_getElem?_getD, -List.length_filter_eq_length_iff, -List.length_filter_lt_length_iff_exists]) | simp [PySem.sizeLine, DV.w1, DV.wE, DV.wT, DV.wI, DV.varW, DV.getS, DV.isOwn, DV.Slot.ow, DV.setV, DV.setO, DV.look2, DV.okV, DV.cl, DV.cls, DV.cc, DV.ccs, DV.tyName, DV.noRef, DV.noRefs, DV.cstW, DV.seqOf, DV.mkTab, DV.findE, DV.findM, DV.frzS, DV.ownS, DV.frE, DV.wipeE, DV.bindT, DV.setAll, DV.dropX, DV.dropF, DV.fstO, DV.esLen, DV.isNon, DV.isFlat, DV.deq, DV.deqs, -List.filter_filter, -List.map_map, -List.getD_eq_getElem?_getD, -List.length_filter_eq_length_iff, -List.length_filter_lt_length_iff_exists])
      refine eqi_non hk (fun z => nomatch z) ?_
      repeat (first | ((first | with_reducible refine seqT ?_ | with_reducible refine seq1 ?_ | with_reducible refine seqE ?_ | with_reducible refine seqF ?_); try simp [PySem.sizeLine, DV.w1, DV.wE, DV.wT, DV.wI, DV.varW, DV.getS, DV.isOwn, DV.Slot.ow, DV.setV, DV.setO, DV.look2, DV.okV, DV.cl, DV.cls, DV.cc, DV.ccs, DV.tyName, DV.noRef, DV.noRefs, DV.cstW, DV.seqOf, DV.mkTab, DV.findE, DV.findM, DV.frzS, DV.ownS, DV.frE, DV.wipeE, DV.bindT, DV.setAll, DV.dropX, DV.dropF, DV.fstO, DV.esLen, DV.isNon, DV.isFlat, DV.deq, DV.deqs, -List.filter_filter, -List.map_map, -List.getD_eq_getElem?_getD, -List.length_filter_eq_length_iff, -List.length_filter_lt_length_iff_exists]) | simp [PySem.sizeLine, DV.w1, DV.wE, DV.wT, DV.wI, DV.varW, DV.getS, DV.isOwn, DV.Slot.ow, DV.setV, DV.setO, DV.look2, DV.okV, DV.cl, DV.cls, DV.cc, DV.ccs, DV.tyName, DV.noRef, DV.noRefs, DV.cstW, DV.seqOf, DV.mkTab, DV.findE, DV.findM, DV.frzS, DV.ownS, DV.frE, DV.wipeE, DV.bindT, DV.setAll, DV.dropX, DV.dropF, DV.fstO, DV.esLen, DV.isNon, DV.isFlat, DV.deq, DV.deqs, -List.filter_filter, -List.map_map, -List.getD_eq_getElem?_getD, -List.length_filter_eq_length_iff, -List.length_filter_lt_length_iff_exists])
      refine eqi_non hk (fun z => nomatch z) ?_
      repeat (first | ((first | with_reducible refine seqT ?_ | with_reducible refine seq1 ?_ | with_reducible refine seqE ?_ | with_reducible refine seqF ?_); try simp [PySem.sizeLine, DV.w1, DV.wE, DV.wT, DV.wI, DV.varW, DV.getS, DV.isOwn, DV.Slot.ow, DV.setV, DV.setO, DV.look2, DV.okV, DV.cl, DV.cls, DV.cc, DV.ccs, DV.tyName, DV.noRef, DV.noRefs, DV.cstW, DV.seqOf, DV.mkTab, DV.findE, DV.findM, DV.frzS, DV.ownS, DV.frE, DV.wipeE, DV.bindT, DV.setAll, DV.dropX, DV.dropF, DV.fstO, DV.esLen, DV.isNon, DV.isFlat, DV.deq, DV.deqs, -List.filter_filter, -List.map_map, -List.getD_eq_getElem?_getD, -List.length_filter_eq_length_iff, -List.length_filter_lt_length_iff_exists]) | simp [PySem.sizeLine, DV.w1, DV.wE, DV.wT, DV.wI, DV.varW, DV.getS, DV.isOwn, DV.Slot.ow, DV.setV, DV.setO, DV.look2, DV.okV, DV.cl, DV.cls, DV.cc, DV.ccs, DV.tyName, DV.noRef, DV.noRefs, DV.cstW, DV.seqOf, DV.mkTab, DV.findE, DV.findM, DV.frzS, DV.ownS, DV.frE, DV.wipeE, DV.bindT, DV.setAll, DV.dropX, DV.dropF, DV.fstO, DV.esLen, DV.isNon, DV.isFlat, DV.deq, DV.deqs, -List.filter_filter, -List.map_map, -List.getD_eq_getElem?_getD, -List.length_filter_eq_length_iff, -List.length_filter_lt_length_iff_exists])
      have h0 : 0 < ys.length := by omega
      have hge0 : ys[0]? = some ys[0] := List.getElem?_eq_getElem h0
      have hT0 : Th ys[0] := hT _ (List.getElem_mem h0)
      simp only [hge0]
      (simp [PySem.sizeLine, DV.w1, DV.wE, DV.wT, DV.wI, DV.varW, DV.getS, DV.isOwn, DV.Slot.ow, DV.setV, DV.setO, DV.look2, DV.okV, DV.cl, DV.cls, DV.cc, DV.ccs, DV.tyName, DV.noRef, DV.noRefs, DV.cstW, DV.seqOf, DV.mkTab, DV.findE, DV.findM, DV.frzS, DV.ownS, DV.frE, DV.wipeE, DV.bindT, DV.setAll, DV.dropX, DV.dropF, DV.fstO, DV.esLen, DV.isNon, DV.isFlat, DV.deq, DV.deqs, -List.filter_filter, -List.map_map, -List.getD_eq_getElem?_getD, -List.length_filter_eq_length_iff, -List.length_filter_lt_length_iff_exists])
      refine eqi_non hk hT0.ty ?_
      repeat (first | ((first | with_reducible refine seqT ?_ | with_reducible refine seq1 ?_ | with_reducible refine seqE ?_ | with_reducible refine seqF ?_); try simp [PySem.sizeLine, DV.w1, DV.wE, DV.wT, DV.wI, DV.varW, DV.getS, DV.isOwn, DV.Slot.ow, DV.setV, DV.setO, DV.look2, DV.okV, DV.cl, DV.cls, DV.cc, DV.ccs, DV.tyName, DV.noRef, DV.noRefs, DV.cstW, DV.seqOf, DV.mkTab, DV.findE, DV.findM, DV.frzS, DV.ownS, DV.frE, DV.wipeE, DV.bindT, DV.setAll, DV.dropX, DV.dropF, DV.fstO, DV.esLen, DV.isNon, DV.isFlat, DV.deq, DV.deqs, -List.filter_filter, -List.map_map, -List.getD_eq_getElem?_getD, -List.length_filter_eq_length_iff, -List.length_filter_lt_length_iff_exists]) | simp [PySem.sizeLine, DV.w1, DV.wE, DV.wT, DV.wI, DV.varW, DV.getS, DV.isOwn, DV.Slot.ow, DV.setV, DV.setO, DV.look2, DV.okV, DV.cl, DV.cls, DV.cc, DV.ccs, DV.tyName, DV.noRef, DV.noRefs, DV.cstW, DV.seqOf, DV.mkTab, DV.findE, DV.findM, DV.frzS, DV.ownS, DV.frE, DV.wipeE, DV.bindT, DV.setAll, DV.dropX, DV.dropF, DV.fstO, DV.esLen, DV.isNon, DV.isFlat, DV.deq, DV.deqs, -List.filter_filter, -List.map_map, -List.getD_eq_getElem?_getD, -List.length_filter_eq_length_iff, -List.length_filter_lt_length_iff_exists])
      refine for_inv (pre := []) (fun _ ρ => ∃ o8 : Option D, ρ = [none, some (.val .hand), some (.val (.int k)), some (.val (.lst ys)), some (.val (mkI k ys)), some (.val (mkI k ys)), some (.val (.lst (ys.set r (.tup [ys[r], .str "more"])))), some (.val (.int r)), o8.map .val, x9.map .val]) (fun _ => False) (fun _ => False) ⟨x8, rfl⟩ ?_ ?_ (fun _ z => z.elim) (fun _ z => z.elim)
      · rintro p3 c post3 ρ hl3 _ ⟨o8, rfl⟩
        have hc : c < 13 := by
          have : c ∈ [] ++ List.range 13 := by rw [hl3]; simp
          simpa using this
        refine ⟨_, rfl, fun K2 k3 _ _ _ => ?_⟩
        (first | ((first | with_reducible refine seqT ?_ | with_reducible refine seq1 ?_ | with_reducible refine seqE ?_ | with_reducible refine seqF ?_); try simp [PySem.sizeLine, DV.w1, DV.wE, DV.wT, DV.wI, DV.varW, DV.getS, DV.isOwn, DV.Slot.ow, DV.setV, DV.setO, DV.look2, DV.okV, DV.cl, DV.cls, DV.cc, DV.ccs, DV.tyName, DV.noRef, DV.noRefs, DV.cstW, DV.seqOf, DV.mkTab, DV.findE, DV.findM, DV.frzS, DV.ownS, DV.frE, DV.wipeE, DV.bindT, DV.setAll, DV.dropX, DV.dropF, DV.fstO, DV.esLen, DV.isNon, DV.isFlat, DV.deq, DV.deqs, -List.filter_filter, -List.map_map, -List.getD_eq_getElem?_getD, -List.length_filter_eq_length_iff, -List.length_filter_lt_length_iff_exists]) | simp [PySem.sizeLine, DV.w1, DV.wE, DV.wT, DV.wI, DV.varW, DV.getS, DV.isOwn, DV.Slot.ow, DV.setV, DV.setO, DV.look2, DV.okV, DV.cl, DV.cls, DV.cc, DV.ccs, DV.tyName, DV.noRef, DV.noRefs, DV.cstW, DV.seqOf, DV.mkTab, DV.findE, DV.findM, DV.frzS, DV.ownS, DV.frE, DV.wipeE, DV.bindT, DV.setAll, DV.dropX, DV.dropF, DV.fstO, DV.esLen, DV.isNon, DV.isFlat, DV.deq, DV.deqs, -List.filter_filter, -List.map_map, -List.getD_eq_getElem?_getD, -List.length_filter_eq_length_iff, -List.length_filter_lt_length_iff_exists])
        by_cases z : c = k
        · simp only [z]
          repeat (first | ((first | with_reducible refine seqT ?_ | with_reducible refine seq1 ?_ | with_reducible refine seqE ?_ | with_reducible refine seqF ?_); try simp [PySem.sizeLine, DV.w1, DV.wE, DV.wT, DV.wI, DV.varW, DV.getS, DV.isOwn, DV.Slot.ow, DV.setV, DV.setO, DV.look2, DV.okV, DV.cl, DV.cls, DV.cc, DV.ccs, DV.tyName, DV.noRef, DV.noRefs, DV.cstW, DV.seqOf, DV.mkTab, DV.findE, DV.findM, DV.frzS, DV.ownS, DV.frE, DV.wipeE, DV.bindT, DV.setAll, DV.dropX, DV.dropF, DV.fstO, DV.esLen, DV.isNon, DV.isFlat, DV.deq, DV.deqs, -List.filter_filter, -List.map_map, -List.getD_eq_getElem?_getD, -List.length_filter_eq_length_iff, -List.length_filter_lt_length_iff_exists]) | simp [PySem.sizeLine, DV.w1, DV.wE, DV.wT, DV.wI, DV.varW, DV.getS, DV.isOwn, DV.Slot.ow, DV.setV, DV.setO, DV.look2, DV.okV, DV.cl, DV.cls, DV.cc, DV.ccs, DV.tyName, DV.noRef, DV.noRefs, DV.cstW, DV.seqOf, DV.mkTab, DV.findE, DV.findM, DV.frzS, DV.ownS, DV.frE, DV.wipeE, DV.bindT, DV.setAll, DV.dropX, DV.dropF, DV.fstO, DV.esLen, DV.isNon, DV.isFlat, DV.deq, DV.deqs, -List.filter_filter, -List.map_map, -List.getD_eq_getElem?_getD, -List.length_filter_eq_length_iff, -List.length_filter_lt_length_iff_exists])
          exact k3 _ ⟨some (.int k), by simp⟩
        · simp only [z]
          repeat (first | ((first | with_reducible refine seqT ?_ | with_reducible refine seq1 ?_ | with_reducible refine seqE ?_ | with_reducible refine seqF ?_); try simp [PySem.sizeLine, DV.w1, DV.wE, DV.wT, DV.wI, DV.varW, DV.getS, DV.isOwn, DV.Slot.ow, DV.setV, DV.setO, DV.look2, DV.okV, DV.cl, DV.cls, DV.cc, DV.ccs, DV.tyName, DV.noRef, DV.noRefs, DV.cstW, DV.seqOf, DV.mkTab, DV.findE, DV.findM, DV.frzS, DV.ownS, DV.frE, DV.wipeE, DV.bindT, DV.setAll, DV.dropX, DV.dropF, DV.fstO, DV.esLen, DV.isNon, DV.isFlat, DV.deq, DV.deqs, -List.filter_filter, -List.map_map, -List.getD_eq_getElem?_getD, -List.length_filter_eq_length_iff, -List.length_filter_lt_length_iff_exists]) | simp [PySem.sizeLine, DV.w1, DV.wE, DV.wT, DV.wI, DV.varW, DV.getS, DV.isOwn, DV.Slot.ow, DV.setV, DV.setO, DV.look2, DV.okV, DV.cl, DV.cls, DV.cc, DV.ccs, DV.tyName, DV.noRef, DV.noRefs, DV.cstW, DV.seqOf, DV.mkTab, DV.findE, DV.findM, DV.frzS, DV.ownS, DV.frE, DV.wipeE, DV.bindT, DV.setAll, DV.dropX, DV.dropF, DV.fstO, DV.esLen, DV.isNon, DV.isFlat, DV.deq, DV.deqs, -List.filter_filter, -List.map_map, -List.getD_eq_getElem?_getD, -List.length_filter_eq_length_iff, -List.length_filter_lt_length_iff_exists])
          refine made_ok hc hl5 ?_
          refine eqi_far hk hc z ?_
          repeat (first | ((first | with_reducible refine seqT ?_ | with_reducible refine seq1 ?_ | with_reducible refine seqE ?_ | with_reducible refine seqF ?_); try simp [PySem.sizeLine, DV.w1, DV.wE, DV.wT, DV.wI, DV.varW, DV.getS, DV.isOwn, DV.Slot.ow, DV.setV, DV.setO, DV.look2, DV.okV, DV.cl, DV.cls, DV.cc, DV.ccs, DV.tyName, DV.noRef, DV.noRefs, DV.cstW, DV.seqOf, DV.mkTab, DV.findE, DV.findM, DV.frzS, DV.ownS, DV.frE, DV.wipeE, DV.bindT, DV.setAll, DV.dropX, DV.dropF, DV.fstO, DV.esLen, DV.isNon, DV.isFlat, DV.deq, DV.deqs, -List.filter_filter, -List.map_map, -List.getD_eq_getElem?_getD, -List.length_filter_eq_length_iff, -List.length_filter_lt_length_iff_exists]) | simp [PySem.sizeLine, DV.w1, DV.wE, DV.wT, DV.wI, DV.varW, DV.getS, DV.isOwn, DV.Slot.ow, DV.setV, DV.setO, DV.look2, DV.okV, DV.cl, DV.cls, DV.cc, DV.ccs, DV.tyName, DV.noRef, DV.noRefs, DV.cstW, DV.seqOf, DV.mkTab, DV.findE, DV.findM, DV.frzS, DV.ownS, DV.frE, DV.wipeE, DV.bindT, DV.setAll, DV.dropX, DV.dropF, DV.fstO, DV.esLen, DV.isNon, DV.isFlat, DV.deq, DV.deqs, -List.filter_filter, -List.map_map, -List.getD_eq_getElem?_getD, -List.length_filter_eq_length_iff, -List.length_filter_lt_length_iff_exists])
          exact k3 _ ⟨some (.int c), rfl⟩
      · rintro ρ2 ⟨o8, rfl⟩
        exact k1 _ ⟨some (.int k), some (.lst ys), some (mkI k ys), some (mkI k ys), some (.lst (ys.set r (.tup [ys[r], .str "more"]))), some (.int r), o8, x9, rfl⟩
  · rintro ρ2 ⟨x2, x3, x4, x5, x6, x7, x8, x9, rfl⟩
    repeat (first | ((first | with_reducible refine seqT ?_ | with_reducible refine seq1 ?_ | with_reducible refine seqE ?_ | with_reducible refine seqF ?_); try simp [PySem.sizeLine, DV.w1, DV.wE, DV.wT, DV.wI, DV.varW, DV.getS, DV.isOwn, DV.Slot.ow, DV.setV, DV.setO, DV.look2, DV.okV, DV.cl, DV.cls, DV.cc, DV.ccs, DV.tyName, DV.noRef, DV.noRefs, DV.cstW, DV.seqOf, DV.mkTab, DV.findE, DV.findM, DV.frzS, DV.ownS, DV.frE, DV.wipeE, DV.bindT, DV.setAll, DV.dropX, DV.dropF, DV.fstO, DV.esLen, DV.isNon, DV.isFlat, DV.deq, DV.deqs, -List.filter_filter, -List.map_map, -List.getD_eq_getElem?_getD, -List.length_filter_eq_length_iff, -List.length_filter_lt_length_iff_exists]) | simp [PySem.sizeLine, DV.w1, DV.wE, DV.wT, DV.wI, DV.varW, DV.getS, DV.isOwn, DV.Slot.ow, DV.setV, DV.setO, DV.look2, DV.okV, DV.cl, DV.cls, DV.cc, DV.ccs, DV.tyName, DV.noRef, DV.noRefs, DV.cstW, DV.seqOf, DV.mkTab, DV.findE, DV.findM, DV.frzS, DV.ownS, DV.frE, DV.wipeE, DV.bindT, DV.setAll, DV.dropX, DV.dropF, DV.fstO, DV.esLen, DV.isNon, DV.isFlat, DV.deq, DV.deqs, -List.filter_filter, -List.map_map, -List.getD_eq_getElem?_getD, -List.length_filter_eq_length_iff, -List.length_filter_lt_length_iff_exists])
end Lw
namespace Lw
open PySem PySem.Spec PyProof.Rows L2 DV
theorem first_law : ckFirst N_law (defScope (top 32)) (headS (defBody (top 32))) = true := by decide +kernel
theorem all_mk {P : Program} {w : World} {K : PySem.W.Frag} {h : Heap} {mg : Str → Option Value} {fa f_law_hand f_init_Pentagon f_init_Diamond f_init_Found f_init_Doubt f_init_Passing f_init_Within f_init_Looked f_init_Job f_init_Answer f_init_Plan f_init_Play f_init_Wrong f_init_Trial f_law_made f_law_many f_law_mixed f_law_take f_law_fields f_law_thing f_m_Found___eq__ f_m_Pentagon___eq__ f_m_Diamond___eq__ f_m_Wrong___eq__ f_m_Within___eq__ f_m_Looked___eq__ f_m_Answer___eq__ f_m_Job___eq__ f_m_Trial___eq__ f_m_Doubt___eq__ f_m_Passing___eq__ f_m_Plan___eq__ f_m_Play___eq__ f_law C_Pentagon C_Diamond C_Found C_Doubt C_Passing C_Within C_Looked C_Job C_Answer C_Plan C_Play C_Wrong C_Trial : Addr} (X : K.In h) (G : h.Ns mainGlobals mg) (hfa : mg "law" = some (.ref fa))
    {dlaw_hand elaw_hand : Option Addr} {slaw_hand : Array (Option Value)} {olaw_hand vlaw_hand claw_hand plaw_hand tlaw_hand ulaw_hand : Value}
    {dlaw_made elaw_made : Option Addr} {slaw_made : Array (Option Value)} {olaw_made vlaw_made claw_made plaw_made tlaw_made ulaw_made : Value}
    {dlaw_many elaw_many : Option Addr} {slaw_many : Array (Option Value)} {olaw_many vlaw_many claw_many plaw_many tlaw_many ulaw_many : Value}
    {dlaw_mixed elaw_mixed : Option Addr} {slaw_mixed : Array (Option Value)} {olaw_mixed vlaw_mixed claw_mixed plaw_mixed tlaw_mixed ulaw_mixed : Value}
    {dlaw_take elaw_take : Option Addr} {slaw_take : Array (Option Value)} {olaw_take vlaw_take claw_take plaw_take tlaw_take ulaw_take : Value}
    {dlaw_fields elaw_fields : Option Addr} {slaw_fields : Array (Option Value)} {olaw_fields vlaw_fields claw_fields plaw_fields tlaw_fields ulaw_fields : Value}
    {dlaw_thing elaw_thing : Option Addr} {slaw_thing : Array (Option Value)} {olaw_thing vlaw_thing claw_thing plaw_thing tlaw_thing ulaw_thing : Value}
    {dlaw elaw : Option Addr} {slaw : Array (Option Value)} {olaw vlaw claw plaw tlaw ulaw : Value}
    {dinit_Pentagon einit_Pentagon : Option Addr} {sinit_Pentagon : Array (Option Value)} {oinit_Pentagon vinit_Pentagon cinit_Pentagon pinit_Pentagon tinit_Pentagon uinit_Pentagon : Value}
    {dm_Pentagon___eq__ em_Pentagon___eq__ : Option Addr} {sm_Pentagon___eq__ : Array (Option Value)} {om_Pentagon___eq__ vm_Pentagon___eq__ cm_Pentagon___eq__ pm_Pentagon___eq__ tm_Pentagon___eq__ um_Pentagon___eq__ : Value}
    {dinit_Diamond einit_Diamond : Option Addr} {sinit_Diamond : Array (Option Value)} {oinit_Diamond vinit_Diamond cinit_Diamond pinit_Diamond tinit_Diamond uinit_Diamond : Value}
    {dm_Diamond___eq__ em_Diamond___eq__ : Option Addr} {sm_Diamond___eq__ : Array (Option Value)} {om_Diamond___eq__ vm_Diamond___eq__ cm_Diamond___eq__ pm_Diamond___eq__ tm_Diamond___eq__ um_Diamond___eq__ : Value}
    {dinit_Found einit_Found : Option Addr} {sinit_Found : Array (Option Value)} {oinit_Found vinit_Found cinit_Found pinit_Found tinit_Found uinit_Found : Value}
    {dm_Found___eq__ em_Found___eq__ : Option Addr} {sm_Found___eq__ : Array (Option Value)} {om_Found___eq__ vm_Found___eq__ cm_Found___eq__ pm_Found___eq__ tm_Found___eq__ um_Found___eq__ : Value}
    {dinit_Doubt einit_Doubt : Option Addr} {sinit_Doubt : Array (Option Value)} {oinit_Doubt vinit_Doubt cinit_Doubt pinit_Doubt tinit_Doubt uinit_Doubt : Value}
    {dm_Doubt___eq__ em_Doubt___eq__ : Option Addr} {sm_Doubt___eq__ : Array (Option Value)} {om_Doubt___eq__ vm_Doubt___eq__ cm_Doubt___eq__ pm_Doubt___eq__ tm_Doubt___eq__ um_Doubt___eq__ : Value}
    {dinit_Passing einit_Passing : Option Addr} {sinit_Passing : Array (Option Value)} {oinit_Passing vinit_Passing cinit_Passing pinit_Passing tinit_Passing uinit_Passing : Value}
    {dm_Passing___eq__ em_Passing___eq__ : Option Addr} {sm_Passing___eq__ : Array (Option Value)} {om_Passing___eq__ vm_Passing___eq__ cm_Passing___eq__ pm_Passing___eq__ tm_Passing___eq__ um_Passing___eq__ : Value}
    {dinit_Within einit_Within : Option Addr} {sinit_Within : Array (Option Value)} {oinit_Within vinit_Within cinit_Within pinit_Within tinit_Within uinit_Within : Value}
    {dm_Within___eq__ em_Within___eq__ : Option Addr} {sm_Within___eq__ : Array (Option Value)} {om_Within___eq__ vm_Within___eq__ cm_Within___eq__ pm_Within___eq__ tm_Within___eq__ um_Within___eq__ : Value}
    {dinit_Looked einit_Looked : Option Addr} {sinit_Looked : Array (Option Value)} {oinit_Looked vinit_Looked cinit_Looked pinit_Looked tinit_Looked uinit_Looked : Value}
    {dm_Looked___eq__ em_Looked___eq__ : Option Addr} {sm_Looked___eq__ : Array (Option Value)} {om_Looked___eq__ vm_Looked___eq__ cm_Looked___eq__ pm_Looked___eq__ tm_Looked___eq__ um_Looked___eq__ : Value}
    {dinit_Job einit_Job : Option Addr} {sinit_Job : Array (Option Value)} {oinit_Job vinit_Job cinit_Job pinit_Job tinit_Job uinit_Job : Value}
    {dm_Job___eq__ em_Job___eq__ : Option Addr} {sm_Job___eq__ : Array (Option Value)} {om_Job___eq__ vm_Job___eq__ cm_Job___eq__ pm_Job___eq__ tm_Job___eq__ um_Job___eq__ : Value}
    {dinit_Answer einit_Answer : Option Addr} {sinit_Answer : Array (Option Value)} {oinit_Answer vinit_Answer cinit_Answer pinit_Answer tinit_Answer uinit_Answer : Value}
    {dm_Answer___eq__ em_Answer___eq__ : Option Addr} {sm_Answer___eq__ : Array (Option Value)} {om_Answer___eq__ vm_Answer___eq__ cm_Answer___eq__ pm_Answer___eq__ tm_Answer___eq__ um_Answer___eq__ : Value}
    {dinit_Plan einit_Plan : Option Addr} {sinit_Plan : Array (Option Value)} {oinit_Plan vinit_Plan cinit_Plan pinit_Plan tinit_Plan uinit_Plan : Value}
    {dm_Plan___eq__ em_Plan___eq__ : Option Addr} {sm_Plan___eq__ : Array (Option Value)} {om_Plan___eq__ vm_Plan___eq__ cm_Plan___eq__ pm_Plan___eq__ tm_Plan___eq__ um_Plan___eq__ : Value}
    {dinit_Play einit_Play : Option Addr} {sinit_Play : Array (Option Value)} {oinit_Play vinit_Play cinit_Play pinit_Play tinit_Play uinit_Play : Value}
    {dm_Play___eq__ em_Play___eq__ : Option Addr} {sm_Play___eq__ : Array (Option Value)} {om_Play___eq__ vm_Play___eq__ cm_Play___eq__ pm_Play___eq__ tm_Play___eq__ um_Play___eq__ : Value}
    {dinit_Wrong einit_Wrong : Option Addr} {sinit_Wrong : Array (Option Value)} {oinit_Wrong vinit_Wrong cinit_Wrong pinit_Wrong tinit_Wrong uinit_Wrong : Value}
    {dm_Wrong___eq__ em_Wrong___eq__ : Option Addr} {sm_Wrong___eq__ : Array (Option Value)} {om_Wrong___eq__ vm_Wrong___eq__ cm_Wrong___eq__ pm_Wrong___eq__ tm_Wrong___eq__ um_Wrong___eq__ : Value}
    {dinit_Trial einit_Trial : Option Addr} {sinit_Trial : Array (Option Value)} {oinit_Trial vinit_Trial cinit_Trial pinit_Trial tinit_Trial uinit_Trial : Value}
    {dm_Trial___eq__ em_Trial___eq__ : Option Addr} {sm_Trial___eq__ : Array (Option Value)} {om_Trial___eq__ vm_Trial___eq__ cm_Trial___eq__ pm_Trial___eq__ tm_Trial___eq__ um_Trial___eq__ : Value}
    (a_law_hand : PySem.W.nsIn K mainGlobals "_law_hand" = some (some (.ref f_law_hand)))
    (l_law_hand : K.lookup f_law_hand = some ⟨olaw_hand, dlaw_hand, .func (PySem.W.fnOf "_law_hand" "_law_hand" (defArgs (top 25)) (defBody (top 25)) (defScope (top 25)) .none vlaw_hand claw_hand plaw_hand elaw_hand tlaw_hand ulaw_hand), slaw_hand⟩)
    (c_law_hand : PySem.W.codeIn K tlaw_hand "_law_hand" = true)
    (k_law_hand : PySem.W.keepIn K (.ref f_law_hand) = true)
    (a_law_made : PySem.W.nsIn K mainGlobals "_law_made" = some (some (.ref f_law_made)))
    (l_law_made : K.lookup f_law_made = some ⟨olaw_made, dlaw_made, .func (PySem.W.fnOf "_law_made" "_law_made" (defArgs (top 29)) (defBody (top 29)) (defScope (top 29)) .none vlaw_made claw_made plaw_made elaw_made tlaw_made ulaw_made), slaw_made⟩)
    (c_law_made : PySem.W.codeIn K tlaw_made "_law_made" = true)
    (k_law_made : PySem.W.keepIn K (.ref f_law_made) = true)
    (a_law_many : PySem.W.nsIn K mainGlobals "_law_many" = some (some (.ref f_law_many)))
    (l_law_many : K.lookup f_law_many = some ⟨olaw_many, dlaw_many, .func (PySem.W.fnOf "_law_many" "_law_many" (defArgs (top 31)) (defBody (top 31)) (defScope (top 31)) .none vlaw_many claw_many plaw_many elaw_many tlaw_many ulaw_many), slaw_many⟩)
    (c_law_many : PySem.W.codeIn K tlaw_many "_law_many" = true)
    (k_law_many : PySem.W.keepIn K (.ref f_law_many) = true)
    (a_law_mixed : PySem.W.nsIn K mainGlobals "_law_mixed" = some (some (.ref f_law_mixed)))
    (l_law_mixed : K.lookup f_law_mixed = some ⟨olaw_mixed, dlaw_mixed, .func (PySem.W.fnOf "_law_mixed" "_law_mixed" (defArgs (top 26)) (defBody (top 26)) (defScope (top 26)) .none vlaw_mixed claw_mixed plaw_mixed elaw_mixed tlaw_mixed ulaw_mixed), slaw_mixed⟩)
    (c_law_mixed : PySem.W.codeIn K tlaw_mixed "_law_mixed" = true)
    (k_law_mixed : PySem.W.keepIn K (.ref f_law_mixed) = true)
    (a_law_take : PySem.W.nsIn K mainGlobals "_law_take" = some (some (.ref f_law_take)))
    (l_law_take : K.lookup f_law_take = some ⟨olaw_take, dlaw_take, .func (PySem.W.fnOf "_law_take" "_law_take" (defArgs (top 27)) (defBody (top 27)) (defScope (top 27)) .none vlaw_take claw_take plaw_take elaw_take tlaw_take ulaw_take), slaw_take⟩)
    (c_law_take : PySem.W.codeIn K tlaw_take "_law_take" = true)
    (k_law_take : PySem.W.keepIn K (.ref f_law_take) = true)
    (a_law_fields : PySem.W.nsIn K mainGlobals "_law_fields" = some (some (.ref f_law_fields)))
    (l_law_fields : K.lookup f_law_fields = some ⟨olaw_fields, dlaw_fields, .func (PySem.W.fnOf "_law_fields" "_law_fields" (defArgs (top 30)) (defBody (top 30)) (defScope (top 30)) .none vlaw_fields claw_fields plaw_fields elaw_fields tlaw_fields ulaw_fields), slaw_fields⟩)
    (c_law_fields : PySem.W.codeIn K tlaw_fields "_law_fields" = true)
    (k_law_fields : PySem.W.keepIn K (.ref f_law_fields) = true)
    (a_law_thing : PySem.W.nsIn K mainGlobals "_law_thing" = some (some (.ref f_law_thing)))
    (l_law_thing : K.lookup f_law_thing = some ⟨olaw_thing, dlaw_thing, .func (PySem.W.fnOf "_law_thing" "_law_thing" (defArgs (top 28)) (defBody (top 28)) (defScope (top 28)) .none vlaw_thing claw_thing plaw_thing elaw_thing tlaw_thing ulaw_thing), slaw_thing⟩)
    (c_law_thing : PySem.W.codeIn K tlaw_thing "_law_thing" = true)
    (k_law_thing : PySem.W.keepIn K (.ref f_law_thing) = true)
    (a_law : PySem.W.nsIn K mainGlobals "law" = some (some (.ref f_law)))
    (l_law : K.lookup f_law = some ⟨olaw, dlaw, .func (PySem.W.fnOf "law" "law" (defArgs (top 32)) (defBody (top 32)) (defScope (top 32)) .none vlaw claw plaw elaw tlaw ulaw), slaw⟩)
    (c_law : PySem.W.codeIn K tlaw "law" = true)
    (k_law : PySem.W.keepIn K (.ref f_law) = true)
    (a_Pentagon : PySem.W.nsIn K mainGlobals "Pentagon" = some (some (.ref C_Pentagon)))
    (a_Diamond : PySem.W.nsIn K mainGlobals "Diamond" = some (some (.ref C_Diamond)))
    (a_Found : PySem.W.nsIn K mainGlobals "Found" = some (some (.ref C_Found)))
    (a_Doubt : PySem.W.nsIn K mainGlobals "Doubt" = some (some (.ref C_Doubt)))
    (a_Passing : PySem.W.nsIn K mainGlobals "Passing" = some (some (.ref C_Passing)))
    (a_Within : PySem.W.nsIn K mainGlobals "Within" = some (some (.ref C_Within)))
    (a_Looked : PySem.W.nsIn K mainGlobals "Looked" = some (some (.ref C_Looked)))
    (a_Job : PySem.W.nsIn K mainGlobals "Job" = some (some (.ref C_Job)))
    (a_Answer : PySem.W.nsIn K mainGlobals "Answer" = some (some (.ref C_Answer)))
    (a_Plan : PySem.W.nsIn K mainGlobals "Plan" = some (some (.ref C_Plan)))
    (a_Play : PySem.W.nsIn K mainGlobals "Play" = some (some (.ref C_Play)))
    (a_Wrong : PySem.W.nsIn K mainGlobals "Wrong" = some (some (.ref C_Wrong)))
    (a_Trial : PySem.W.nsIn K mainGlobals "Trial" = some (some (.ref C_Trial)))
    (pg_Pentagon : PySem.W.plainGet K C_Pentagon Str.empty = true)
    (hd_Pentagon : PySem.W.hasDictIn K C_Pentagon = true)
    (po_Pentagon : PySem.W.plainOver K C_Pentagon = true)
    (sa_Pentagon : PySem.W.findIn K (.ref C_Pentagon) "__setattr__" = some (some (.builtin "object.__setattr__")))
    (mk_Pentagon : PySem.W.makesIn K C_Pentagon = true)
    (kc_Pentagon : PySem.W.keepIn K (.ref C_Pentagon) = true)
    (n_Pentagon_4 : PySem.W.findIn K (.ref C_Pentagon) "low" = some none)
    (n_Pentagon_3 : PySem.W.findIn K (.ref C_Pentagon) "lesser" = some none)
    (n_Pentagon_2 : PySem.W.findIn K (.ref C_Pentagon) "greater" = some none)
    (n_Pentagon_1 : PySem.W.findIn K (.ref C_Pentagon) "aside" = some none)
    (n_Pentagon_0 : PySem.W.findIn K (.ref C_Pentagon) "high" = some none)
    (i_init_Pentagon : PySem.W.findIn K (.ref C_Pentagon) "__init__" = some (some (.ref f_init_Pentagon)))
    (g_init_Pentagon : PySem.W.isFn K (.ref f_init_Pentagon) = true)
    (l_init_Pentagon : K.lookup f_init_Pentagon = some ⟨oinit_Pentagon, dinit_Pentagon, .func (PySem.W.fnOf "__init__" "Pentagon.__init__" (defArgs (inClass (top 3) 0)) (defBody (inClass (top 3) 0)) (defScope (inClass (top 3) 0)) .none vinit_Pentagon cinit_Pentagon pinit_Pentagon einit_Pentagon tinit_Pentagon uinit_Pentagon), sinit_Pentagon⟩)
    (c_init_Pentagon : PySem.W.codeIn K tinit_Pentagon "Pentagon.__init__" = true)
    (k_init_Pentagon : PySem.W.keepIn K (.ref f_init_Pentagon) = true)
    (i_m_Pentagon___eq__ : PySem.W.findIn K (.ref C_Pentagon) "__eq__" = some (some (.ref f_m_Pentagon___eq__)))
    (g_m_Pentagon___eq__ : PySem.W.isFn K (.ref f_m_Pentagon___eq__) = true)
    (l_m_Pentagon___eq__ : K.lookup f_m_Pentagon___eq__ = some ⟨om_Pentagon___eq__, dm_Pentagon___eq__, .func (PySem.W.fnOf "__eq__" "Pentagon.__eq__" (defArgs (inClass (top 3) 1)) (defBody (inClass (top 3) 1)) (defScope (inClass (top 3) 1)) .none vm_Pentagon___eq__ cm_Pentagon___eq__ pm_Pentagon___eq__ em_Pentagon___eq__ tm_Pentagon___eq__ um_Pentagon___eq__), sm_Pentagon___eq__⟩)
    (c_m_Pentagon___eq__ : PySem.W.codeIn K tm_Pentagon___eq__ "Pentagon.__eq__" = true)
    (k_m_Pentagon___eq__ : PySem.W.keepIn K (.ref f_m_Pentagon___eq__) = true)
    (pg_Diamond : PySem.W.plainGet K C_Diamond Str.empty = true)
    (hd_Diamond : PySem.W.hasDictIn K C_Diamond = true)
    (po_Diamond : PySem.W.plainOver K C_Diamond = true)
    (sa_Diamond : PySem.W.findIn K (.ref C_Diamond) "__setattr__" = some (some (.builtin "object.__setattr__")))
    (mk_Diamond : PySem.W.makesIn K C_Diamond = true)
    (kc_Diamond : PySem.W.keepIn K (.ref C_Diamond) = true)
    (n_Diamond_4 : PySem.W.findIn K (.ref C_Diamond) "low" = some none)
    (n_Diamond_7 : PySem.W.findIn K (.ref C_Diamond) "first" = some none)
    (n_Diamond_6 : PySem.W.findIn K (.ref C_Diamond) "second" = some none)
    (n_Diamond_5 : PySem.W.findIn K (.ref C_Diamond) "third" = some none)
    (n_Diamond_0 : PySem.W.findIn K (.ref C_Diamond) "high" = some none)
    (i_init_Diamond : PySem.W.findIn K (.ref C_Diamond) "__init__" = some (some (.ref f_init_Diamond)))
    (g_init_Diamond : PySem.W.isFn K (.ref f_init_Diamond) = true)
    (l_init_Diamond : K.lookup f_init_Diamond = some ⟨oinit_Diamond, dinit_Diamond, .func (PySem.W.fnOf "__init__" "Diamond.__init__" (defArgs (inClass (top 4) 0)) (defBody (inClass (top 4) 0)) (defScope (inClass (top 4) 0)) .none vinit_Diamond cinit_Diamond pinit_Diamond einit_Diamond tinit_Diamond uinit_Diamond), sinit_Diamond⟩)
    (c_init_Diamond : PySem.W.codeIn K tinit_Diamond "Diamond.__init__" = true)
    (k_init_Diamond : PySem.W.keepIn K (.ref f_init_Diamond) = true)
    (i_m_Diamond___eq__ : PySem.W.findIn K (.ref C_Diamond) "__eq__" = some (some (.ref f_m_Diamond___eq__)))
    (g_m_Diamond___eq__ : PySem.W.isFn K (.ref f_m_Diamond___eq__) = true)
    (l_m_Diamond___eq__ : K.lookup f_m_Diamond___eq__ = some ⟨om_Diamond___eq__, dm_Diamond___eq__, .func (PySem.W.fnOf "__eq__" "Diamond.__eq__" (defArgs (inClass (top 4) 1)) (defBody (inClass (top 4) 1)) (defScope (inClass (top 4) 1)) .none vm_Diamond___eq__ cm_Diamond___eq__ pm_Diamond___eq__ em_Diamond___eq__ tm_Diamond___eq__ um_Diamond___eq__), sm_Diamond___eq__⟩)
    (c_m_Diamond___eq__ : PySem.W.codeIn K tm_Diamond___eq__ "Diamond.__eq__" = true)
    (k_m_Diamond___eq__ : PySem.W.keepIn K (.ref f_m_Diamond___eq__) = true)
    (pg_Found : PySem.W.plainGet K C_Found Str.empty = true)
    (hd_Found : PySem.W.hasDictIn K C_Found = true)
    (po_Found : PySem.W.plainOver K C_Found = true)
    (sa_Found : PySem.W.findIn K (.ref C_Found) "__setattr__" = some (some (.builtin "object.__setattr__")))
    (mk_Found : PySem.W.makesIn K C_Found = true)
    (kc_Found : PySem.W.keepIn K (.ref C_Found) = true)
    (n_Found_10 : PySem.W.findIn K (.ref C_Found) "worth" = some none)
    (n_Found_9 : PySem.W.findIn K (.ref C_Found) "asked" = some none)
    (n_Found_8 : PySem.W.findIn K (.ref C_Found) "passed" = some none)
    (i_init_Found : PySem.W.findIn K (.ref C_Found) "__init__" = some (some (.ref f_init_Found)))
    (g_init_Found : PySem.W.isFn K (.ref f_init_Found) = true)
    (l_init_Found : K.lookup f_init_Found = some ⟨oinit_Found, dinit_Found, .func (PySem.W.fnOf "__init__" "Found.__init__" (defArgs (inClass (top 1) 0)) (defBody (inClass (top 1) 0)) (defScope (inClass (top 1) 0)) .none vinit_Found cinit_Found pinit_Found einit_Found tinit_Found uinit_Found), sinit_Found⟩)
    (c_init_Found : PySem.W.codeIn K tinit_Found "Found.__init__" = true)
    (k_init_Found : PySem.W.keepIn K (.ref f_init_Found) = true)
    (i_m_Found___eq__ : PySem.W.findIn K (.ref C_Found) "__eq__" = some (some (.ref f_m_Found___eq__)))
    (g_m_Found___eq__ : PySem.W.isFn K (.ref f_m_Found___eq__) = true)
    (l_m_Found___eq__ : K.lookup f_m_Found___eq__ = some ⟨om_Found___eq__, dm_Found___eq__, .func (PySem.W.fnOf "__eq__" "Found.__eq__" (defArgs (inClass (top 1) 1)) (defBody (inClass (top 1) 1)) (defScope (inClass (top 1) 1)) .none vm_Found___eq__ cm_Found___eq__ pm_Found___eq__ em_Found___eq__ tm_Found___eq__ um_Found___eq__), sm_Found___eq__⟩)
    (c_m_Found___eq__ : PySem.W.codeIn K tm_Found___eq__ "Found.__eq__" = true)
    (k_m_Found___eq__ : PySem.W.keepIn K (.ref f_m_Found___eq__) = true)
    (pg_Doubt : PySem.W.plainGet K C_Doubt Str.empty = true)
    (hd_Doubt : PySem.W.hasDictIn K C_Doubt = true)
    (po_Doubt : PySem.W.plainOver K C_Doubt = true)
    (sa_Doubt : PySem.W.findIn K (.ref C_Doubt) "__setattr__" = some (some (.builtin "object.__setattr__")))
    (mk_Doubt : PySem.W.makesIn K C_Doubt = true)
    (kc_Doubt : PySem.W.keepIn K (.ref C_Doubt) = true)
    (n_Doubt_4 : PySem.W.findIn K (.ref C_Doubt) "low" = some none)
    (n_Doubt_0 : PySem.W.findIn K (.ref C_Doubt) "high" = some none)
    (n_Doubt_12 : PySem.W.findIn K (.ref C_Doubt) "low_worth" = some none)
    (n_Doubt_11 : PySem.W.findIn K (.ref C_Doubt) "high_worth" = some none)
    (i_init_Doubt : PySem.W.findIn K (.ref C_Doubt) "__init__" = some (some (.ref f_init_Doubt)))
    (g_init_Doubt : PySem.W.isFn K (.ref f_init_Doubt) = true)
    (l_init_Doubt : K.lookup f_init_Doubt = some ⟨oinit_Doubt, dinit_Doubt, .func (PySem.W.fnOf "__init__" "Doubt.__init__" (defArgs (inClass (top 18) 0)) (defBody (inClass (top 18) 0)) (defScope (inClass (top 18) 0)) .none vinit_Doubt cinit_Doubt pinit_Doubt einit_Doubt tinit_Doubt uinit_Doubt), sinit_Doubt⟩)
    (c_init_Doubt : PySem.W.codeIn K tinit_Doubt "Doubt.__init__" = true)
    (k_init_Doubt : PySem.W.keepIn K (.ref f_init_Doubt) = true)
    (i_m_Doubt___eq__ : PySem.W.findIn K (.ref C_Doubt) "__eq__" = some (some (.ref f_m_Doubt___eq__)))
    (g_m_Doubt___eq__ : PySem.W.isFn K (.ref f_m_Doubt___eq__) = true)
    (l_m_Doubt___eq__ : K.lookup f_m_Doubt___eq__ = some ⟨om_Doubt___eq__, dm_Doubt___eq__, .func (PySem.W.fnOf "__eq__" "Doubt.__eq__" (defArgs (inClass (top 18) 1)) (defBody (inClass (top 18) 1)) (defScope (inClass (top 18) 1)) .none vm_Doubt___eq__ cm_Doubt___eq__ pm_Doubt___eq__ em_Doubt___eq__ tm_Doubt___eq__ um_Doubt___eq__), sm_Doubt___eq__⟩)
    (c_m_Doubt___eq__ : PySem.W.codeIn K tm_Doubt___eq__ "Doubt.__eq__" = true)
    (k_m_Doubt___eq__ : PySem.W.keepIn K (.ref f_m_Doubt___eq__) = true)
    (pg_Passing : PySem.W.plainGet K C_Passing Str.empty = true)
    (hd_Passing : PySem.W.hasDictIn K C_Passing = true)
    (po_Passing : PySem.W.plainOver K C_Passing = true)
    (sa_Passing : PySem.W.findIn K (.ref C_Passing) "__setattr__" = some (some (.builtin "object.__setattr__")))
    (mk_Passing : PySem.W.makesIn K C_Passing = true)
    (kc_Passing : PySem.W.keepIn K (.ref C_Passing) = true)
    (n_Passing_14 : PySem.W.findIn K (.ref C_Passing) "way" = some none)
    (n_Passing_13 : PySem.W.findIn K (.ref C_Passing) "context" = some none)
    (i_init_Passing : PySem.W.findIn K (.ref C_Passing) "__init__" = some (some (.ref f_init_Passing)))
    (g_init_Passing : PySem.W.isFn K (.ref f_init_Passing) = true)
    (l_init_Passing : K.lookup f_init_Passing = some ⟨oinit_Passing, dinit_Passing, .func (PySem.W.fnOf "__init__" "Passing.__init__" (defArgs (inClass (top 19) 0)) (defBody (inClass (top 19) 0)) (defScope (inClass (top 19) 0)) .none vinit_Passing cinit_Passing pinit_Passing einit_Passing tinit_Passing uinit_Passing), sinit_Passing⟩)
    (c_init_Passing : PySem.W.codeIn K tinit_Passing "Passing.__init__" = true)
    (k_init_Passing : PySem.W.keepIn K (.ref f_init_Passing) = true)
    (i_m_Passing___eq__ : PySem.W.findIn K (.ref C_Passing) "__eq__" = some (some (.ref f_m_Passing___eq__)))
    (g_m_Passing___eq__ : PySem.W.isFn K (.ref f_m_Passing___eq__) = true)
    (l_m_Passing___eq__ : K.lookup f_m_Passing___eq__ = some ⟨om_Passing___eq__, dm_Passing___eq__, .func (PySem.W.fnOf "__eq__" "Passing.__eq__" (defArgs (inClass (top 19) 1)) (defBody (inClass (top 19) 1)) (defScope (inClass (top 19) 1)) .none vm_Passing___eq__ cm_Passing___eq__ pm_Passing___eq__ em_Passing___eq__ tm_Passing___eq__ um_Passing___eq__), sm_Passing___eq__⟩)
    (c_m_Passing___eq__ : PySem.W.codeIn K tm_Passing___eq__ "Passing.__eq__" = true)
    (k_m_Passing___eq__ : PySem.W.keepIn K (.ref f_m_Passing___eq__) = true)
    (pg_Within : PySem.W.plainGet K C_Within Str.empty = true)
    (hd_Within : PySem.W.hasDictIn K C_Within = true)
    (po_Within : PySem.W.plainOver K C_Within = true)
    (sa_Within : PySem.W.findIn K (.ref C_Within) "__setattr__" = some (some (.builtin "object.__setattr__")))
    (mk_Within : PySem.W.makesIn K C_Within = true)
    (kc_Within : PySem.W.keepIn K (.ref C_Within) = true)
    (n_Within_9 : PySem.W.findIn K (.ref C_Within) "asked" = some none)
    (n_Within_15 : PySem.W.findIn K (.ref C_Within) "whole" = some none)
    (i_init_Within : PySem.W.findIn K (.ref C_Within) "__init__" = some (some (.ref f_init_Within)))
    (g_init_Within : PySem.W.isFn K (.ref f_init_Within) = true)
    (l_init_Within : K.lookup f_init_Within = some ⟨oinit_Within, dinit_Within, .func (PySem.W.fnOf "__init__" "Within.__init__" (defArgs (inClass (top 8) 0)) (defBody (inClass (top 8) 0)) (defScope (inClass (top 8) 0)) .none vinit_Within cinit_Within pinit_Within einit_Within tinit_Within uinit_Within), sinit_Within⟩)
    (c_init_Within : PySem.W.codeIn K tinit_Within "Within.__init__" = true)
    (k_init_Within : PySem.W.keepIn K (.ref f_init_Within) = true)
    (i_m_Within___eq__ : PySem.W.findIn K (.ref C_Within) "__eq__" = some (some (.ref f_m_Within___eq__)))
    (g_m_Within___eq__ : PySem.W.isFn K (.ref f_m_Within___eq__) = true)
    (l_m_Within___eq__ : K.lookup f_m_Within___eq__ = some ⟨om_Within___eq__, dm_Within___eq__, .func (PySem.W.fnOf "__eq__" "Within.__eq__" (defArgs (inClass (top 8) 1)) (defBody (inClass (top 8) 1)) (defScope (inClass (top 8) 1)) .none vm_Within___eq__ cm_Within___eq__ pm_Within___eq__ em_Within___eq__ tm_Within___eq__ um_Within___eq__), sm_Within___eq__⟩)
    (c_m_Within___eq__ : PySem.W.codeIn K tm_Within___eq__ "Within.__eq__" = true)
    (k_m_Within___eq__ : PySem.W.keepIn K (.ref f_m_Within___eq__) = true)
    (pg_Looked : PySem.W.plainGet K C_Looked Str.empty = true)
    (hd_Looked : PySem.W.hasDictIn K C_Looked = true)
    (po_Looked : PySem.W.plainOver K C_Looked = true)
    (sa_Looked : PySem.W.findIn K (.ref C_Looked) "__setattr__" = some (some (.builtin "object.__setattr__")))
    (mk_Looked : PySem.W.makesIn K C_Looked = true)
    (kc_Looked : PySem.W.keepIn K (.ref C_Looked) = true)
    (n_Looked_10 : PySem.W.findIn K (.ref C_Looked) "worth" = some none)
    (n_Looked_9 : PySem.W.findIn K (.ref C_Looked) "asked" = some none)
    (n_Looked_16 : PySem.W.findIn K (.ref C_Looked) "served" = some none)
    (i_init_Looked : PySem.W.findIn K (.ref C_Looked) "__init__" = some (some (.ref f_init_Looked)))
    (g_init_Looked : PySem.W.isFn K (.ref f_init_Looked) = true)
    (l_init_Looked : K.lookup f_init_Looked = some ⟨oinit_Looked, dinit_Looked, .func (PySem.W.fnOf "__init__" "Looked.__init__" (defArgs (inClass (top 10) 0)) (defBody (inClass (top 10) 0)) (defScope (inClass (top 10) 0)) .none vinit_Looked cinit_Looked pinit_Looked einit_Looked tinit_Looked uinit_Looked), sinit_Looked⟩)
    (c_init_Looked : PySem.W.codeIn K tinit_Looked "Looked.__init__" = true)
    (k_init_Looked : PySem.W.keepIn K (.ref f_init_Looked) = true)
    (i_m_Looked___eq__ : PySem.W.findIn K (.ref C_Looked) "__eq__" = some (some (.ref f_m_Looked___eq__)))
    (g_m_Looked___eq__ : PySem.W.isFn K (.ref f_m_Looked___eq__) = true)
    (l_m_Looked___eq__ : K.lookup f_m_Looked___eq__ = some ⟨om_Looked___eq__, dm_Looked___eq__, .func (PySem.W.fnOf "__eq__" "Looked.__eq__" (defArgs (inClass (top 10) 1)) (defBody (inClass (top 10) 1)) (defScope (inClass (top 10) 1)) .none vm_Looked___eq__ cm_Looked___eq__ pm_Looked___eq__ em_Looked___eq__ tm_Looked___eq__ um_Looked___eq__), sm_Looked___eq__⟩)
    (c_m_Looked___eq__ : PySem.W.codeIn K tm_Looked___eq__ "Looked.__eq__" = true)
    (k_m_Looked___eq__ : PySem.W.keepIn K (.ref f_m_Looked___eq__) = true)
    (pg_Job : PySem.W.plainGet K C_Job Str.empty = true)
    (hd_Job : PySem.W.hasDictIn K C_Job = true)
    (po_Job : PySem.W.plainOver K C_Job = true)
    (sa_Job : PySem.W.findIn K (.ref C_Job) "__setattr__" = some (some (.builtin "object.__setattr__")))
    (mk_Job : PySem.W.makesIn K C_Job = true)
    (kc_Job : PySem.W.keepIn K (.ref C_Job) = true)
    (n_Job_19 : PySem.W.findIn K (.ref C_Job) "number" = some none)
    (n_Job_18 : PySem.W.findIn K (.ref C_Job) "hand" = some none)
    (n_Job_17 : PySem.W.findIn K (.ref C_Job) "road" = some none)
    (n_Job_13 : PySem.W.findIn K (.ref C_Job) "context" = some none)
    (i_init_Job : PySem.W.findIn K (.ref C_Job) "__init__" = some (some (.ref f_init_Job)))
    (g_init_Job : PySem.W.isFn K (.ref f_init_Job) = true)
    (l_init_Job : K.lookup f_init_Job = some ⟨oinit_Job, dinit_Job, .func (PySem.W.fnOf "__init__" "Job.__init__" (defArgs (inClass (top 14) 0)) (defBody (inClass (top 14) 0)) (defScope (inClass (top 14) 0)) .none vinit_Job cinit_Job pinit_Job einit_Job tinit_Job uinit_Job), sinit_Job⟩)
    (c_init_Job : PySem.W.codeIn K tinit_Job "Job.__init__" = true)
    (k_init_Job : PySem.W.keepIn K (.ref f_init_Job) = true)
    (i_m_Job___eq__ : PySem.W.findIn K (.ref C_Job) "__eq__" = some (some (.ref f_m_Job___eq__)))
    (g_m_Job___eq__ : PySem.W.isFn K (.ref f_m_Job___eq__) = true)
    (l_m_Job___eq__ : K.lookup f_m_Job___eq__ = some ⟨om_Job___eq__, dm_Job___eq__, .func (PySem.W.fnOf "__eq__" "Job.__eq__" (defArgs (inClass (top 14) 1)) (defBody (inClass (top 14) 1)) (defScope (inClass (top 14) 1)) .none vm_Job___eq__ cm_Job___eq__ pm_Job___eq__ em_Job___eq__ tm_Job___eq__ um_Job___eq__), sm_Job___eq__⟩)
    (c_m_Job___eq__ : PySem.W.codeIn K tm_Job___eq__ "Job.__eq__" = true)
    (k_m_Job___eq__ : PySem.W.keepIn K (.ref f_m_Job___eq__) = true)
    (pg_Answer : PySem.W.plainGet K C_Answer Str.empty = true)
    (hd_Answer : PySem.W.hasDictIn K C_Answer = true)
    (po_Answer : PySem.W.plainOver K C_Answer = true)
    (sa_Answer : PySem.W.findIn K (.ref C_Answer) "__setattr__" = some (some (.builtin "object.__setattr__")))
    (mk_Answer : PySem.W.makesIn K C_Answer = true)
    (kc_Answer : PySem.W.keepIn K (.ref C_Answer) = true)
    (n_Answer_21 : PySem.W.findIn K (.ref C_Answer) "prime" = some none)
    (n_Answer_20 : PySem.W.findIn K (.ref C_Answer) "yes" = some none)
    (n_Answer_9 : PySem.W.findIn K (.ref C_Answer) "asked" = some none)
    (i_init_Answer : PySem.W.findIn K (.ref C_Answer) "__init__" = some (some (.ref f_init_Answer)))
    (g_init_Answer : PySem.W.isFn K (.ref f_init_Answer) = true)
    (l_init_Answer : K.lookup f_init_Answer = some ⟨oinit_Answer, dinit_Answer, .func (PySem.W.fnOf "__init__" "Answer.__init__" (defArgs (inClass (top 12) 0)) (defBody (inClass (top 12) 0)) (defScope (inClass (top 12) 0)) .none vinit_Answer cinit_Answer pinit_Answer einit_Answer tinit_Answer uinit_Answer), sinit_Answer⟩)
    (c_init_Answer : PySem.W.codeIn K tinit_Answer "Answer.__init__" = true)
    (k_init_Answer : PySem.W.keepIn K (.ref f_init_Answer) = true)
    (i_m_Answer___eq__ : PySem.W.findIn K (.ref C_Answer) "__eq__" = some (some (.ref f_m_Answer___eq__)))
    (g_m_Answer___eq__ : PySem.W.isFn K (.ref f_m_Answer___eq__) = true)
    (l_m_Answer___eq__ : K.lookup f_m_Answer___eq__ = some ⟨om_Answer___eq__, dm_Answer___eq__, .func (PySem.W.fnOf "__eq__" "Answer.__eq__" (defArgs (inClass (top 12) 1)) (defBody (inClass (top 12) 1)) (defScope (inClass (top 12) 1)) .none vm_Answer___eq__ cm_Answer___eq__ pm_Answer___eq__ em_Answer___eq__ tm_Answer___eq__ um_Answer___eq__), sm_Answer___eq__⟩)
    (c_m_Answer___eq__ : PySem.W.codeIn K tm_Answer___eq__ "Answer.__eq__" = true)
    (k_m_Answer___eq__ : PySem.W.keepIn K (.ref f_m_Answer___eq__) = true)
    (pg_Plan : PySem.W.plainGet K C_Plan Str.empty = true)
    (hd_Plan : PySem.W.hasDictIn K C_Plan = true)
    (po_Plan : PySem.W.plainOver K C_Plan = true)
    (sa_Plan : PySem.W.findIn K (.ref C_Plan) "__setattr__" = some (some (.builtin "object.__setattr__")))
    (mk_Plan : PySem.W.makesIn K C_Plan = true)
    (kc_Plan : PySem.W.keepIn K (.ref C_Plan) = true)
    (n_Plan_23 : PySem.W.findIn K (.ref C_Plan) "holder" = some none)
    (n_Plan_22 : PySem.W.findIn K (.ref C_Plan) "certificate" = some none)
    (i_init_Plan : PySem.W.findIn K (.ref C_Plan) "__init__" = some (some (.ref f_init_Plan)))
    (g_init_Plan : PySem.W.isFn K (.ref f_init_Plan) = true)
    (l_init_Plan : K.lookup f_init_Plan = some ⟨oinit_Plan, dinit_Plan, .func (PySem.W.fnOf "__init__" "Plan.__init__" (defArgs (inClass (top 21) 0)) (defBody (inClass (top 21) 0)) (defScope (inClass (top 21) 0)) .none vinit_Plan cinit_Plan pinit_Plan einit_Plan tinit_Plan uinit_Plan), sinit_Plan⟩)
    (c_init_Plan : PySem.W.codeIn K tinit_Plan "Plan.__init__" = true)
    (k_init_Plan : PySem.W.keepIn K (.ref f_init_Plan) = true)
    (i_m_Plan___eq__ : PySem.W.findIn K (.ref C_Plan) "__eq__" = some (some (.ref f_m_Plan___eq__)))
    (g_m_Plan___eq__ : PySem.W.isFn K (.ref f_m_Plan___eq__) = true)
    (l_m_Plan___eq__ : K.lookup f_m_Plan___eq__ = some ⟨om_Plan___eq__, dm_Plan___eq__, .func (PySem.W.fnOf "__eq__" "Plan.__eq__" (defArgs (inClass (top 21) 1)) (defBody (inClass (top 21) 1)) (defScope (inClass (top 21) 1)) .none vm_Plan___eq__ cm_Plan___eq__ pm_Plan___eq__ em_Plan___eq__ tm_Plan___eq__ um_Plan___eq__), sm_Plan___eq__⟩)
    (c_m_Plan___eq__ : PySem.W.codeIn K tm_Plan___eq__ "Plan.__eq__" = true)
    (k_m_Plan___eq__ : PySem.W.keepIn K (.ref f_m_Plan___eq__) = true)
    (pg_Play : PySem.W.plainGet K C_Play Str.empty = true)
    (hd_Play : PySem.W.hasDictIn K C_Play = true)
    (po_Play : PySem.W.plainOver K C_Play = true)
    (sa_Play : PySem.W.findIn K (.ref C_Play) "__setattr__" = some (some (.builtin "object.__setattr__")))
    (mk_Play : PySem.W.makesIn K C_Play = true)
    (kc_Play : PySem.W.keepIn K (.ref C_Play) = true)
    (n_Play_17 : PySem.W.findIn K (.ref C_Play) "road" = some none)
    (n_Play_24 : PySem.W.findIn K (.ref C_Play) "numbers" = some none)
    (n_Play_10 : PySem.W.findIn K (.ref C_Play) "worth" = some none)
    (i_init_Play : PySem.W.findIn K (.ref C_Play) "__init__" = some (some (.ref f_init_Play)))
    (g_init_Play : PySem.W.isFn K (.ref f_init_Play) = true)
    (l_init_Play : K.lookup f_init_Play = some ⟨oinit_Play, dinit_Play, .func (PySem.W.fnOf "__init__" "Play.__init__" (defArgs (inClass (top 23) 0)) (defBody (inClass (top 23) 0)) (defScope (inClass (top 23) 0)) .none vinit_Play cinit_Play pinit_Play einit_Play tinit_Play uinit_Play), sinit_Play⟩)
    (c_init_Play : PySem.W.codeIn K tinit_Play "Play.__init__" = true)
    (k_init_Play : PySem.W.keepIn K (.ref f_init_Play) = true)
    (i_m_Play___eq__ : PySem.W.findIn K (.ref C_Play) "__eq__" = some (some (.ref f_m_Play___eq__)))
    (g_m_Play___eq__ : PySem.W.isFn K (.ref f_m_Play___eq__) = true)
    (l_m_Play___eq__ : K.lookup f_m_Play___eq__ = some ⟨om_Play___eq__, dm_Play___eq__, .func (PySem.W.fnOf "__eq__" "Play.__eq__" (defArgs (inClass (top 23) 1)) (defBody (inClass (top 23) 1)) (defScope (inClass (top 23) 1)) .none vm_Play___eq__ cm_Play___eq__ pm_Play___eq__ em_Play___eq__ tm_Play___eq__ um_Play___eq__), sm_Play___eq__⟩)
    (c_m_Play___eq__ : PySem.W.codeIn K tm_Play___eq__ "Play.__eq__" = true)
    (k_m_Play___eq__ : PySem.W.keepIn K (.ref f_m_Play___eq__) = true)
    (pg_Wrong : PySem.W.plainGet K C_Wrong Str.empty = true)
    (hd_Wrong : PySem.W.hasDictIn K C_Wrong = true)
    (po_Wrong : PySem.W.plainOver K C_Wrong = true)
    (sa_Wrong : PySem.W.findIn K (.ref C_Wrong) "__setattr__" = some (some (.builtin "object.__setattr__")))
    (mk_Wrong : PySem.W.makesIn K C_Wrong = true)
    (kc_Wrong : PySem.W.keepIn K (.ref C_Wrong) = true)
    (n_Wrong_25 : PySem.W.findIn K (.ref C_Wrong) "told" = some none)
    (n_Wrong_10 : PySem.W.findIn K (.ref C_Wrong) "worth" = some none)
    (n_Wrong_8 : PySem.W.findIn K (.ref C_Wrong) "passed" = some none)
    (i_init_Wrong : PySem.W.findIn K (.ref C_Wrong) "__init__" = some (some (.ref f_init_Wrong)))
    (g_init_Wrong : PySem.W.isFn K (.ref f_init_Wrong) = true)
    (l_init_Wrong : K.lookup f_init_Wrong = some ⟨oinit_Wrong, dinit_Wrong, .func (PySem.W.fnOf "__init__" "Wrong.__init__" (defArgs (inClass (top 6) 0)) (defBody (inClass (top 6) 0)) (defScope (inClass (top 6) 0)) .none vinit_Wrong cinit_Wrong pinit_Wrong einit_Wrong tinit_Wrong uinit_Wrong), sinit_Wrong⟩)
    (c_init_Wrong : PySem.W.codeIn K tinit_Wrong "Wrong.__init__" = true)
    (k_init_Wrong : PySem.W.keepIn K (.ref f_init_Wrong) = true)
    (i_m_Wrong___eq__ : PySem.W.findIn K (.ref C_Wrong) "__eq__" = some (some (.ref f_m_Wrong___eq__)))
    (g_m_Wrong___eq__ : PySem.W.isFn K (.ref f_m_Wrong___eq__) = true)
    (l_m_Wrong___eq__ : K.lookup f_m_Wrong___eq__ = some ⟨om_Wrong___eq__, dm_Wrong___eq__, .func (PySem.W.fnOf "__eq__" "Wrong.__eq__" (defArgs (inClass (top 6) 1)) (defBody (inClass (top 6) 1)) (defScope (inClass (top 6) 1)) .none vm_Wrong___eq__ cm_Wrong___eq__ pm_Wrong___eq__ em_Wrong___eq__ tm_Wrong___eq__ um_Wrong___eq__), sm_Wrong___eq__⟩)
    (c_m_Wrong___eq__ : PySem.W.codeIn K tm_Wrong___eq__ "Wrong.__eq__" = true)
    (k_m_Wrong___eq__ : PySem.W.keepIn K (.ref f_m_Wrong___eq__) = true)
    (pg_Trial : PySem.W.plainGet K C_Trial Str.empty = true)
    (hd_Trial : PySem.W.hasDictIn K C_Trial = true)
    (po_Trial : PySem.W.plainOver K C_Trial = true)
    (sa_Trial : PySem.W.findIn K (.ref C_Trial) "__setattr__" = some (some (.builtin "object.__setattr__")))
    (mk_Trial : PySem.W.makesIn K C_Trial = true)
    (kc_Trial : PySem.W.keepIn K (.ref C_Trial) = true)
    (n_Trial_27 : PySem.W.findIn K (.ref C_Trial) "tolds" = some none)
    (n_Trial_26 : PySem.W.findIn K (.ref C_Trial) "refused" = some none)
    (i_init_Trial : PySem.W.findIn K (.ref C_Trial) "__init__" = some (some (.ref f_init_Trial)))
    (g_init_Trial : PySem.W.isFn K (.ref f_init_Trial) = true)
    (l_init_Trial : K.lookup f_init_Trial = some ⟨oinit_Trial, dinit_Trial, .func (PySem.W.fnOf "__init__" "Trial.__init__" (defArgs (inClass (top 16) 0)) (defBody (inClass (top 16) 0)) (defScope (inClass (top 16) 0)) .none vinit_Trial cinit_Trial pinit_Trial einit_Trial tinit_Trial uinit_Trial), sinit_Trial⟩)
    (c_init_Trial : PySem.W.codeIn K tinit_Trial "Trial.__init__" = true)
    (k_init_Trial : PySem.W.keepIn K (.ref f_init_Trial) = true)
    (i_m_Trial___eq__ : PySem.W.findIn K (.ref C_Trial) "__eq__" = some (some (.ref f_m_Trial___eq__)))
    (g_m_Trial___eq__ : PySem.W.isFn K (.ref f_m_Trial___eq__) = true)
    (l_m_Trial___eq__ : K.lookup f_m_Trial___eq__ = some ⟨om_Trial___eq__, dm_Trial___eq__, .func (PySem.W.fnOf "__eq__" "Trial.__eq__" (defArgs (inClass (top 16) 1)) (defBody (inClass (top 16) 1)) (defScope (inClass (top 16) 1)) .none vm_Trial___eq__ cm_Trial___eq__ pm_Trial___eq__ em_Trial___eq__ tm_Trial___eq__ um_Trial___eq__), sm_Trial___eq__⟩)
    (c_m_Trial___eq__ : PySem.W.codeIn K tm_Trial___eq__ "Trial.__eq__" = true)
    (k_m_Trial___eq__ : PySem.W.keepIn K (.ref f_m_Trial___eq__) = true)
    (ic_n : PySem.W.specialIn K (.builtin "object.__class__") "__get__" = some (some (.builtin "getset_descriptor.__get__")))
    (ic_t : PySem.W.takesIn K (.builtin "object.__class__") = some true)
    (ic_a_Found : PySem.W.findIn K (.ref C_Found) "__class__" = some (some (.builtin "object.__class__")))
    (ic_m_Found : PySem.W.mroIn K C_Found (.type "object") = some true)
    (ic_Found_Found : PySem.W.kitOne K (.ref C_Found) (.ref C_Found) = some true)
    (ic_Found_Pentagon : PySem.W.kitOne K (.ref C_Found) (.ref C_Pentagon) = some false)
    (ic_Found_Diamond : PySem.W.kitOne K (.ref C_Found) (.ref C_Diamond) = some false)
    (ic_Found_Wrong : PySem.W.kitOne K (.ref C_Found) (.ref C_Wrong) = some false)
    (ic_Found_Within : PySem.W.kitOne K (.ref C_Found) (.ref C_Within) = some false)
    (ic_Found_Looked : PySem.W.kitOne K (.ref C_Found) (.ref C_Looked) = some false)
    (ic_Found_Answer : PySem.W.kitOne K (.ref C_Found) (.ref C_Answer) = some false)
    (ic_Found_Job : PySem.W.kitOne K (.ref C_Found) (.ref C_Job) = some false)
    (ic_Found_Trial : PySem.W.kitOne K (.ref C_Found) (.ref C_Trial) = some false)
    (ic_Found_Doubt : PySem.W.kitOne K (.ref C_Found) (.ref C_Doubt) = some false)
    (ic_Found_Passing : PySem.W.kitOne K (.ref C_Found) (.ref C_Passing) = some false)
    (ic_Found_Plan : PySem.W.kitOne K (.ref C_Found) (.ref C_Plan) = some false)
    (ic_Found_Play : PySem.W.kitOne K (.ref C_Found) (.ref C_Play) = some false)
    (it_Found_NoneType : PySem.W.kitOne K (.type "NoneType") (.ref C_Found) = some false)
    (it_Found_bool : PySem.W.kitOne K (.type "bool") (.ref C_Found) = some false)
    (it_Found_int : PySem.W.kitOne K (.type "int") (.ref C_Found) = some false)
    (it_Found_str : PySem.W.kitOne K (.type "str") (.ref C_Found) = some false)
    (it_Found_tuple : PySem.W.kitOne K (.type "tuple") (.ref C_Found) = some false)
    (it_Found_list : PySem.W.kitOne K (.type "list") (.ref C_Found) = some false)
    (ic_a_Pentagon : PySem.W.findIn K (.ref C_Pentagon) "__class__" = some (some (.builtin "object.__class__")))
    (ic_m_Pentagon : PySem.W.mroIn K C_Pentagon (.type "object") = some true)
    (ic_Pentagon_Found : PySem.W.kitOne K (.ref C_Pentagon) (.ref C_Found) = some false)
    (ic_Pentagon_Pentagon : PySem.W.kitOne K (.ref C_Pentagon) (.ref C_Pentagon) = some true)
    (ic_Pentagon_Diamond : PySem.W.kitOne K (.ref C_Pentagon) (.ref C_Diamond) = some false)
    (ic_Pentagon_Wrong : PySem.W.kitOne K (.ref C_Pentagon) (.ref C_Wrong) = some false)
    (ic_Pentagon_Within : PySem.W.kitOne K (.ref C_Pentagon) (.ref C_Within) = some false)
    (ic_Pentagon_Looked : PySem.W.kitOne K (.ref C_Pentagon) (.ref C_Looked) = some false)
    (ic_Pentagon_Answer : PySem.W.kitOne K (.ref C_Pentagon) (.ref C_Answer) = some false)
    (ic_Pentagon_Job : PySem.W.kitOne K (.ref C_Pentagon) (.ref C_Job) = some false)
    (ic_Pentagon_Trial : PySem.W.kitOne K (.ref C_Pentagon) (.ref C_Trial) = some false)
    (ic_Pentagon_Doubt : PySem.W.kitOne K (.ref C_Pentagon) (.ref C_Doubt) = some false)
    (ic_Pentagon_Passing : PySem.W.kitOne K (.ref C_Pentagon) (.ref C_Passing) = some false)
    (ic_Pentagon_Plan : PySem.W.kitOne K (.ref C_Pentagon) (.ref C_Plan) = some false)
    (ic_Pentagon_Play : PySem.W.kitOne K (.ref C_Pentagon) (.ref C_Play) = some false)
    (it_Pentagon_NoneType : PySem.W.kitOne K (.type "NoneType") (.ref C_Pentagon) = some false)
    (it_Pentagon_bool : PySem.W.kitOne K (.type "bool") (.ref C_Pentagon) = some false)
    (it_Pentagon_int : PySem.W.kitOne K (.type "int") (.ref C_Pentagon) = some false)
    (it_Pentagon_str : PySem.W.kitOne K (.type "str") (.ref C_Pentagon) = some false)
    (it_Pentagon_tuple : PySem.W.kitOne K (.type "tuple") (.ref C_Pentagon) = some false)
    (it_Pentagon_list : PySem.W.kitOne K (.type "list") (.ref C_Pentagon) = some false)
    (ic_a_Diamond : PySem.W.findIn K (.ref C_Diamond) "__class__" = some (some (.builtin "object.__class__")))
    (ic_m_Diamond : PySem.W.mroIn K C_Diamond (.type "object") = some true)
    (ic_Diamond_Found : PySem.W.kitOne K (.ref C_Diamond) (.ref C_Found) = some false)
    (ic_Diamond_Pentagon : PySem.W.kitOne K (.ref C_Diamond) (.ref C_Pentagon) = some false)
    (ic_Diamond_Diamond : PySem.W.kitOne K (.ref C_Diamond) (.ref C_Diamond) = some true)
    (ic_Diamond_Wrong : PySem.W.kitOne K (.ref C_Diamond) (.ref C_Wrong) = some false)
    (ic_Diamond_Within : PySem.W.kitOne K (.ref C_Diamond) (.ref C_Within) = some false)
    (ic_Diamond_Looked : PySem.W.kitOne K (.ref C_Diamond) (.ref C_Looked) = some false)
    (ic_Diamond_Answer : PySem.W.kitOne K (.ref C_Diamond) (.ref C_Answer) = some false)
    (ic_Diamond_Job : PySem.W.kitOne K (.ref C_Diamond) (.ref C_Job) = some false)
    (ic_Diamond_Trial : PySem.W.kitOne K (.ref C_Diamond) (.ref C_Trial) = some false)
    (ic_Diamond_Doubt : PySem.W.kitOne K (.ref C_Diamond) (.ref C_Doubt) = some false)
    (ic_Diamond_Passing : PySem.W.kitOne K (.ref C_Diamond) (.ref C_Passing) = some false)
    (ic_Diamond_Plan : PySem.W.kitOne K (.ref C_Diamond) (.ref C_Plan) = some false)
    (ic_Diamond_Play : PySem.W.kitOne K (.ref C_Diamond) (.ref C_Play) = some false)
    (it_Diamond_NoneType : PySem.W.kitOne K (.type "NoneType") (.ref C_Diamond) = some false)
    (it_Diamond_bool : PySem.W.kitOne K (.type "bool") (.ref C_Diamond) = some false)
    (it_Diamond_int : PySem.W.kitOne K (.type "int") (.ref C_Diamond) = some false)
    (it_Diamond_str : PySem.W.kitOne K (.type "str") (.ref C_Diamond) = some false)
    (it_Diamond_tuple : PySem.W.kitOne K (.type "tuple") (.ref C_Diamond) = some false)
    (it_Diamond_list : PySem.W.kitOne K (.type "list") (.ref C_Diamond) = some false)
    (ic_a_Wrong : PySem.W.findIn K (.ref C_Wrong) "__class__" = some (some (.builtin "object.__class__")))
    (ic_m_Wrong : PySem.W.mroIn K C_Wrong (.type "object") = some true)
    (ic_Wrong_Found : PySem.W.kitOne K (.ref C_Wrong) (.ref C_Found) = some false)
    (ic_Wrong_Pentagon : PySem.W.kitOne K (.ref C_Wrong) (.ref C_Pentagon) = some false)
    (ic_Wrong_Diamond : PySem.W.kitOne K (.ref C_Wrong) (.ref C_Diamond) = some false)
    (ic_Wrong_Wrong : PySem.W.kitOne K (.ref C_Wrong) (.ref C_Wrong) = some true)
    (ic_Wrong_Within : PySem.W.kitOne K (.ref C_Wrong) (.ref C_Within) = some false)
    (ic_Wrong_Looked : PySem.W.kitOne K (.ref C_Wrong) (.ref C_Looked) = some false)
    (ic_Wrong_Answer : PySem.W.kitOne K (.ref C_Wrong) (.ref C_Answer) = some false)
    (ic_Wrong_Job : PySem.W.kitOne K (.ref C_Wrong) (.ref C_Job) = some false)
    (ic_Wrong_Trial : PySem.W.kitOne K (.ref C_Wrong) (.ref C_Trial) = some false)
    (ic_Wrong_Doubt : PySem.W.kitOne K (.ref C_Wrong) (.ref C_Doubt) = some false)
    (ic_Wrong_Passing : PySem.W.kitOne K (.ref C_Wrong) (.ref C_Passing) = some false)
    (ic_Wrong_Plan : PySem.W.kitOne K (.ref C_Wrong) (.ref C_Plan) = some false)
    (ic_Wrong_Play : PySem.W.kitOne K (.ref C_Wrong) (.ref C_Play) = some false)
    (it_Wrong_NoneType : PySem.W.kitOne K (.type "NoneType") (.ref C_Wrong) = some false)
    (it_Wrong_bool : PySem.W.kitOne K (.type "bool") (.ref C_Wrong) = some false)
    (it_Wrong_int : PySem.W.kitOne K (.type "int") (.ref C_Wrong) = some false)
    (it_Wrong_str : PySem.W.kitOne K (.type "str") (.ref C_Wrong) = some false)
    (it_Wrong_tuple : PySem.W.kitOne K (.type "tuple") (.ref C_Wrong) = some false)
    (it_Wrong_list : PySem.W.kitOne K (.type "list") (.ref C_Wrong) = some false)
    (ic_a_Within : PySem.W.findIn K (.ref C_Within) "__class__" = some (some (.builtin "object.__class__")))
    (ic_m_Within : PySem.W.mroIn K C_Within (.type "object") = some true)
    (ic_Within_Found : PySem.W.kitOne K (.ref C_Within) (.ref C_Found) = some false)
    (ic_Within_Pentagon : PySem.W.kitOne K (.ref C_Within) (.ref C_Pentagon) = some false)
    (ic_Within_Diamond : PySem.W.kitOne K (.ref C_Within) (.ref C_Diamond) = some false)
    (ic_Within_Wrong : PySem.W.kitOne K (.ref C_Within) (.ref C_Wrong) = some false)
    (ic_Within_Within : PySem.W.kitOne K (.ref C_Within) (.ref C_Within) = some true)
    (ic_Within_Looked : PySem.W.kitOne K (.ref C_Within) (.ref C_Looked) = some false)
    (ic_Within_Answer : PySem.W.kitOne K (.ref C_Within) (.ref C_Answer) = some false)
    (ic_Within_Job : PySem.W.kitOne K (.ref C_Within) (.ref C_Job) = some false)
    (ic_Within_Trial : PySem.W.kitOne K (.ref C_Within) (.ref C_Trial) = some false)
    (ic_Within_Doubt : PySem.W.kitOne K (.ref C_Within) (.ref C_Doubt) = some false)
    (ic_Within_Passing : PySem.W.kitOne K (.ref C_Within) (.ref C_Passing) = some false)
    (ic_Within_Plan : PySem.W.kitOne K (.ref C_Within) (.ref C_Plan) = some false)
    (ic_Within_Play : PySem.W.kitOne K (.ref C_Within) (.ref C_Play) = some false)
    (it_Within_NoneType : PySem.W.kitOne K (.type "NoneType") (.ref C_Within) = some false)
    (it_Within_bool : PySem.W.kitOne K (.type "bool") (.ref C_Within) = some false)
    (it_Within_int : PySem.W.kitOne K (.type "int") (.ref C_Within) = some false)
    (it_Within_str : PySem.W.kitOne K (.type "str") (.ref C_Within) = some false)
    (it_Within_tuple : PySem.W.kitOne K (.type "tuple") (.ref C_Within) = some false)
    (it_Within_list : PySem.W.kitOne K (.type "list") (.ref C_Within) = some false)
    (ic_a_Looked : PySem.W.findIn K (.ref C_Looked) "__class__" = some (some (.builtin "object.__class__")))
    (ic_m_Looked : PySem.W.mroIn K C_Looked (.type "object") = some true)
    (ic_Looked_Found : PySem.W.kitOne K (.ref C_Looked) (.ref C_Found) = some false)
    (ic_Looked_Pentagon : PySem.W.kitOne K (.ref C_Looked) (.ref C_Pentagon) = some false)
    (ic_Looked_Diamond : PySem.W.kitOne K (.ref C_Looked) (.ref C_Diamond) = some false)
    (ic_Looked_Wrong : PySem.W.kitOne K (.ref C_Looked) (.ref C_Wrong) = some false)
    (ic_Looked_Within : PySem.W.kitOne K (.ref C_Looked) (.ref C_Within) = some false)
    (ic_Looked_Looked : PySem.W.kitOne K (.ref C_Looked) (.ref C_Looked) = some true)
    (ic_Looked_Answer : PySem.W.kitOne K (.ref C_Looked) (.ref C_Answer) = some false)
    (ic_Looked_Job : PySem.W.kitOne K (.ref C_Looked) (.ref C_Job) = some false)
    (ic_Looked_Trial : PySem.W.kitOne K (.ref C_Looked) (.ref C_Trial) = some false)
    (ic_Looked_Doubt : PySem.W.kitOne K (.ref C_Looked) (.ref C_Doubt) = some false)
    (ic_Looked_Passing : PySem.W.kitOne K (.ref C_Looked) (.ref C_Passing) = some false)
    (ic_Looked_Plan : PySem.W.kitOne K (.ref C_Looked) (.ref C_Plan) = some false)
    (ic_Looked_Play : PySem.W.kitOne K (.ref C_Looked) (.ref C_Play) = some false)
    (it_Looked_NoneType : PySem.W.kitOne K (.type "NoneType") (.ref C_Looked) = some false)
    (it_Looked_bool : PySem.W.kitOne K (.type "bool") (.ref C_Looked) = some false)
    (it_Looked_int : PySem.W.kitOne K (.type "int") (.ref C_Looked) = some false)
    (it_Looked_str : PySem.W.kitOne K (.type "str") (.ref C_Looked) = some false)
    (it_Looked_tuple : PySem.W.kitOne K (.type "tuple") (.ref C_Looked) = some false)
    (it_Looked_list : PySem.W.kitOne K (.type "list") (.ref C_Looked) = some false)
    (ic_a_Answer : PySem.W.findIn K (.ref C_Answer) "__class__" = some (some (.builtin "object.__class__")))
    (ic_m_Answer : PySem.W.mroIn K C_Answer (.type "object") = some true)
    (ic_Answer_Found : PySem.W.kitOne K (.ref C_Answer) (.ref C_Found) = some false)
    (ic_Answer_Pentagon : PySem.W.kitOne K (.ref C_Answer) (.ref C_Pentagon) = some false)
    (ic_Answer_Diamond : PySem.W.kitOne K (.ref C_Answer) (.ref C_Diamond) = some false)
    (ic_Answer_Wrong : PySem.W.kitOne K (.ref C_Answer) (.ref C_Wrong) = some false)
    (ic_Answer_Within : PySem.W.kitOne K (.ref C_Answer) (.ref C_Within) = some false)
    (ic_Answer_Looked : PySem.W.kitOne K (.ref C_Answer) (.ref C_Looked) = some false)
    (ic_Answer_Answer : PySem.W.kitOne K (.ref C_Answer) (.ref C_Answer) = some true)
    (ic_Answer_Job : PySem.W.kitOne K (.ref C_Answer) (.ref C_Job) = some false)
    (ic_Answer_Trial : PySem.W.kitOne K (.ref C_Answer) (.ref C_Trial) = some false)
    (ic_Answer_Doubt : PySem.W.kitOne K (.ref C_Answer) (.ref C_Doubt) = some false)
    (ic_Answer_Passing : PySem.W.kitOne K (.ref C_Answer) (.ref C_Passing) = some false)
    (ic_Answer_Plan : PySem.W.kitOne K (.ref C_Answer) (.ref C_Plan) = some false)
    (ic_Answer_Play : PySem.W.kitOne K (.ref C_Answer) (.ref C_Play) = some false)
    (it_Answer_NoneType : PySem.W.kitOne K (.type "NoneType") (.ref C_Answer) = some false)
    (it_Answer_bool : PySem.W.kitOne K (.type "bool") (.ref C_Answer) = some false)
    (it_Answer_int : PySem.W.kitOne K (.type "int") (.ref C_Answer) = some false)
    (it_Answer_str : PySem.W.kitOne K (.type "str") (.ref C_Answer) = some false)
    (it_Answer_tuple : PySem.W.kitOne K (.type "tuple") (.ref C_Answer) = some false)
    (it_Answer_list : PySem.W.kitOne K (.type "list") (.ref C_Answer) = some false)
    (ic_a_Job : PySem.W.findIn K (.ref C_Job) "__class__" = some (some (.builtin "object.__class__")))
    (ic_m_Job : PySem.W.mroIn K C_Job (.type "object") = some true)
    (ic_Job_Found : PySem.W.kitOne K (.ref C_Job) (.ref C_Found) = some false)
    (ic_Job_Pentagon : PySem.W.kitOne K (.ref C_Job) (.ref C_Pentagon) = some false)
    (ic_Job_Diamond : PySem.W.kitOne K (.ref C_Job) (.ref C_Diamond) = some false)
    (ic_Job_Wrong : PySem.W.kitOne K (.ref C_Job) (.ref C_Wrong) = some false)
    (ic_Job_Within : PySem.W.kitOne K (.ref C_Job) (.ref C_Within) = some false)
    (ic_Job_Looked : PySem.W.kitOne K (.ref C_Job) (.ref C_Looked) = some false)
    (ic_Job_Answer : PySem.W.kitOne K (.ref C_Job) (.ref C_Answer) = some false)
    (ic_Job_Job : PySem.W.kitOne K (.ref C_Job) (.ref C_Job) = some true)
    (ic_Job_Trial : PySem.W.kitOne K (.ref C_Job) (.ref C_Trial) = some false)
    (ic_Job_Doubt : PySem.W.kitOne K (.ref C_Job) (.ref C_Doubt) = some false)
    (ic_Job_Passing : PySem.W.kitOne K (.ref C_Job) (.ref C_Passing) = some false)
    (ic_Job_Plan : PySem.W.kitOne K (.ref C_Job) (.ref C_Plan) = some false)
    (ic_Job_Play : PySem.W.kitOne K (.ref C_Job) (.ref C_Play) = some false)
    (it_Job_NoneType : PySem.W.kitOne K (.type "NoneType") (.ref C_Job) = some false)
    (it_Job_bool : PySem.W.kitOne K (.type "bool") (.ref C_Job) = some false)
    (it_Job_int : PySem.W.kitOne K (.type "int") (.ref C_Job) = some false)
    (it_Job_str : PySem.W.kitOne K (.type "str") (.ref C_Job) = some false)
    (it_Job_tuple : PySem.W.kitOne K (.type "tuple") (.ref C_Job) = some false)
    (it_Job_list : PySem.W.kitOne K (.type "list") (.ref C_Job) = some false)
    (ic_a_Trial : PySem.W.findIn K (.ref C_Trial) "__class__" = some (some (.builtin "object.__class__")))
    (ic_m_Trial : PySem.W.mroIn K C_Trial (.type "object") = some true)
    (ic_Trial_Found : PySem.W.kitOne K (.ref C_Trial) (.ref C_Found) = some false)
    (ic_Trial_Pentagon : PySem.W.kitOne K (.ref C_Trial) (.ref C_Pentagon) = some false)
    (ic_Trial_Diamond : PySem.W.kitOne K (.ref C_Trial) (.ref C_Diamond) = some false)
    (ic_Trial_Wrong : PySem.W.kitOne K (.ref C_Trial) (.ref C_Wrong) = some false)
    (ic_Trial_Within : PySem.W.kitOne K (.ref C_Trial) (.ref C_Within) = some false)
    (ic_Trial_Looked : PySem.W.kitOne K (.ref C_Trial) (.ref C_Looked) = some false)
    (ic_Trial_Answer : PySem.W.kitOne K (.ref C_Trial) (.ref C_Answer) = some false)
    (ic_Trial_Job : PySem.W.kitOne K (.ref C_Trial) (.ref C_Job) = some false)
    (ic_Trial_Trial : PySem.W.kitOne K (.ref C_Trial) (.ref C_Trial) = some true)
    (ic_Trial_Doubt : PySem.W.kitOne K (.ref C_Trial) (.ref C_Doubt) = some false)
    (ic_Trial_Passing : PySem.W.kitOne K (.ref C_Trial) (.ref C_Passing) = some false)
    (ic_Trial_Plan : PySem.W.kitOne K (.ref C_Trial) (.ref C_Plan) = some false)
    (ic_Trial_Play : PySem.W.kitOne K (.ref C_Trial) (.ref C_Play) = some false)
    (it_Trial_NoneType : PySem.W.kitOne K (.type "NoneType") (.ref C_Trial) = some false)
    (it_Trial_bool : PySem.W.kitOne K (.type "bool") (.ref C_Trial) = some false)
    (it_Trial_int : PySem.W.kitOne K (.type "int") (.ref C_Trial) = some false)
    (it_Trial_str : PySem.W.kitOne K (.type "str") (.ref C_Trial) = some false)
    (it_Trial_tuple : PySem.W.kitOne K (.type "tuple") (.ref C_Trial) = some false)
    (it_Trial_list : PySem.W.kitOne K (.type "list") (.ref C_Trial) = some false)
    (ic_a_Doubt : PySem.W.findIn K (.ref C_Doubt) "__class__" = some (some (.builtin "object.__class__")))
    (ic_m_Doubt : PySem.W.mroIn K C_Doubt (.type "object") = some true)
    (ic_Doubt_Found : PySem.W.kitOne K (.ref C_Doubt) (.ref C_Found) = some false)
    (ic_Doubt_Pentagon : PySem.W.kitOne K (.ref C_Doubt) (.ref C_Pentagon) = some false)
    (ic_Doubt_Diamond : PySem.W.kitOne K (.ref C_Doubt) (.ref C_Diamond) = some false)
    (ic_Doubt_Wrong : PySem.W.kitOne K (.ref C_Doubt) (.ref C_Wrong) = some false)
    (ic_Doubt_Within : PySem.W.kitOne K (.ref C_Doubt) (.ref C_Within) = some false)
    (ic_Doubt_Looked : PySem.W.kitOne K (.ref C_Doubt) (.ref C_Looked) = some false)
    (ic_Doubt_Answer : PySem.W.kitOne K (.ref C_Doubt) (.ref C_Answer) = some false)
    (ic_Doubt_Job : PySem.W.kitOne K (.ref C_Doubt) (.ref C_Job) = some false)
    (ic_Doubt_Trial : PySem.W.kitOne K (.ref C_Doubt) (.ref C_Trial) = some false)
    (ic_Doubt_Doubt : PySem.W.kitOne K (.ref C_Doubt) (.ref C_Doubt) = some true)
    (ic_Doubt_Passing : PySem.W.kitOne K (.ref C_Doubt) (.ref C_Passing) = some false)
    (ic_Doubt_Plan : PySem.W.kitOne K (.ref C_Doubt) (.ref C_Plan) = some false)
    (ic_Doubt_Play : PySem.W.kitOne K (.ref C_Doubt) (.ref C_Play) = some false)
    (it_Doubt_NoneType : PySem.W.kitOne K (.type "NoneType") (.ref C_Doubt) = some false)
    (it_Doubt_bool : PySem.W.kitOne K (.type "bool") (.ref C_Doubt) = some false)
    (it_Doubt_int : PySem.W.kitOne K (.type "int") (.ref C_Doubt) = some false)
    (it_Doubt_str : PySem.W.kitOne K (.type "str") (.ref C_Doubt) = some false)
    (it_Doubt_tuple : PySem.W.kitOne K (.type "tuple") (.ref C_Doubt) = some false)
    (it_Doubt_list : PySem.W.kitOne K (.type "list") (.ref C_Doubt) = some false)
    (ic_a_Passing : PySem.W.findIn K (.ref C_Passing) "__class__" = some (some (.builtin "object.__class__")))
    (ic_m_Passing : PySem.W.mroIn K C_Passing (.type "object") = some true)
    (ic_Passing_Found : PySem.W.kitOne K (.ref C_Passing) (.ref C_Found) = some false)
    (ic_Passing_Pentagon : PySem.W.kitOne K (.ref C_Passing) (.ref C_Pentagon) = some false)
    (ic_Passing_Diamond : PySem.W.kitOne K (.ref C_Passing) (.ref C_Diamond) = some false)
    (ic_Passing_Wrong : PySem.W.kitOne K (.ref C_Passing) (.ref C_Wrong) = some false)
    (ic_Passing_Within : PySem.W.kitOne K (.ref C_Passing) (.ref C_Within) = some false)
    (ic_Passing_Looked : PySem.W.kitOne K (.ref C_Passing) (.ref C_Looked) = some false)
    (ic_Passing_Answer : PySem.W.kitOne K (.ref C_Passing) (.ref C_Answer) = some false)
    (ic_Passing_Job : PySem.W.kitOne K (.ref C_Passing) (.ref C_Job) = some false)
    (ic_Passing_Trial : PySem.W.kitOne K (.ref C_Passing) (.ref C_Trial) = some false)
    (ic_Passing_Doubt : PySem.W.kitOne K (.ref C_Passing) (.ref C_Doubt) = some false)
    (ic_Passing_Passing : PySem.W.kitOne K (.ref C_Passing) (.ref C_Passing) = some true)
    (ic_Passing_Plan : PySem.W.kitOne K (.ref C_Passing) (.ref C_Plan) = some false)
    (ic_Passing_Play : PySem.W.kitOne K (.ref C_Passing) (.ref C_Play) = some false)
    (it_Passing_NoneType : PySem.W.kitOne K (.type "NoneType") (.ref C_Passing) = some false)
    (it_Passing_bool : PySem.W.kitOne K (.type "bool") (.ref C_Passing) = some false)
    (it_Passing_int : PySem.W.kitOne K (.type "int") (.ref C_Passing) = some false)
    (it_Passing_str : PySem.W.kitOne K (.type "str") (.ref C_Passing) = some false)
    (it_Passing_tuple : PySem.W.kitOne K (.type "tuple") (.ref C_Passing) = some false)
    (it_Passing_list : PySem.W.kitOne K (.type "list") (.ref C_Passing) = some false)
    (ic_a_Plan : PySem.W.findIn K (.ref C_Plan) "__class__" = some (some (.builtin "object.__class__")))
    (ic_m_Plan : PySem.W.mroIn K C_Plan (.type "object") = some true)
    (ic_Plan_Found : PySem.W.kitOne K (.ref C_Plan) (.ref C_Found) = some false)
    (ic_Plan_Pentagon : PySem.W.kitOne K (.ref C_Plan) (.ref C_Pentagon) = some false)
    (ic_Plan_Diamond : PySem.W.kitOne K (.ref C_Plan) (.ref C_Diamond) = some false)
    (ic_Plan_Wrong : PySem.W.kitOne K (.ref C_Plan) (.ref C_Wrong) = some false)
    (ic_Plan_Within : PySem.W.kitOne K (.ref C_Plan) (.ref C_Within) = some false)
    (ic_Plan_Looked : PySem.W.kitOne K (.ref C_Plan) (.ref C_Looked) = some false)
    (ic_Plan_Answer : PySem.W.kitOne K (.ref C_Plan) (.ref C_Answer) = some false)
    (ic_Plan_Job : PySem.W.kitOne K (.ref C_Plan) (.ref C_Job) = some false)
    (ic_Plan_Trial : PySem.W.kitOne K (.ref C_Plan) (.ref C_Trial) = some false)
    (ic_Plan_Doubt : PySem.W.kitOne K (.ref C_Plan) (.ref C_Doubt) = some false)
    (ic_Plan_Passing : PySem.W.kitOne K (.ref C_Plan) (.ref C_Passing) = some false)
    (ic_Plan_Plan : PySem.W.kitOne K (.ref C_Plan) (.ref C_Plan) = some true)
    (ic_Plan_Play : PySem.W.kitOne K (.ref C_Plan) (.ref C_Play) = some false)
    (it_Plan_NoneType : PySem.W.kitOne K (.type "NoneType") (.ref C_Plan) = some false)
    (it_Plan_bool : PySem.W.kitOne K (.type "bool") (.ref C_Plan) = some false)
    (it_Plan_int : PySem.W.kitOne K (.type "int") (.ref C_Plan) = some false)
    (it_Plan_str : PySem.W.kitOne K (.type "str") (.ref C_Plan) = some false)
    (it_Plan_tuple : PySem.W.kitOne K (.type "tuple") (.ref C_Plan) = some false)
    (it_Plan_list : PySem.W.kitOne K (.type "list") (.ref C_Plan) = some false)
    (ic_a_Play : PySem.W.findIn K (.ref C_Play) "__class__" = some (some (.builtin "object.__class__")))
    (ic_m_Play : PySem.W.mroIn K C_Play (.type "object") = some true)
    (ic_Play_Found : PySem.W.kitOne K (.ref C_Play) (.ref C_Found) = some false)
    (ic_Play_Pentagon : PySem.W.kitOne K (.ref C_Play) (.ref C_Pentagon) = some false)
    (ic_Play_Diamond : PySem.W.kitOne K (.ref C_Play) (.ref C_Diamond) = some false)
    (ic_Play_Wrong : PySem.W.kitOne K (.ref C_Play) (.ref C_Wrong) = some false)
    (ic_Play_Within : PySem.W.kitOne K (.ref C_Play) (.ref C_Within) = some false)
    (ic_Play_Looked : PySem.W.kitOne K (.ref C_Play) (.ref C_Looked) = some false)
    (ic_Play_Answer : PySem.W.kitOne K (.ref C_Play) (.ref C_Answer) = some false)
    (ic_Play_Job : PySem.W.kitOne K (.ref C_Play) (.ref C_Job) = some false)
    (ic_Play_Trial : PySem.W.kitOne K (.ref C_Play) (.ref C_Trial) = some false)
    (ic_Play_Doubt : PySem.W.kitOne K (.ref C_Play) (.ref C_Doubt) = some false)
    (ic_Play_Passing : PySem.W.kitOne K (.ref C_Play) (.ref C_Passing) = some false)
    (ic_Play_Plan : PySem.W.kitOne K (.ref C_Play) (.ref C_Plan) = some false)
    (ic_Play_Play : PySem.W.kitOne K (.ref C_Play) (.ref C_Play) = some true)
    (it_Play_NoneType : PySem.W.kitOne K (.type "NoneType") (.ref C_Play) = some false)
    (it_Play_bool : PySem.W.kitOne K (.type "bool") (.ref C_Play) = some false)
    (it_Play_int : PySem.W.kitOne K (.type "int") (.ref C_Play) = some false)
    (it_Play_str : PySem.W.kitOne K (.type "str") (.ref C_Play) = some false)
    (it_Play_tuple : PySem.W.kitOne K (.type "tuple") (.ref C_Play) = some false)
    (it_Play_list : PySem.W.kitOne K (.type "list") (.ref C_Play) = some false)
    (z_len : PySem.W.nsIn K mainGlobals "len" = some none)
    (z_int : PySem.W.nsIn K mainGlobals "int" = some none)
    (z_bool : PySem.W.nsIn K mainGlobals "bool" = some none)
    (z_list : PySem.W.nsIn K mainGlobals "list" = some none)
    (z_tuple : PySem.W.nsIn K mainGlobals "tuple" = some none)
    (z_abs : PySem.W.nsIn K mainGlobals "abs" = some none)
    (z_max : PySem.W.nsIn K mainGlobals "max" = some none)
    (z_min : PySem.W.nsIn K mainGlobals "min" = some none)
    (z_sum : PySem.W.nsIn K mainGlobals "sum" = some none)
    (z_sorted : PySem.W.nsIn K mainGlobals "sorted" = some none)
    (z_any : PySem.W.nsIn K mainGlobals "any" = some none)
    (z_all : PySem.W.nsIn K mainGlobals "all" = some none)
    (z_range : PySem.W.nsIn K mainGlobals "range" = some none)
    (z_repr : PySem.W.nsIn K mainGlobals "repr" = some none)
    (z_str : PySem.W.nsIn K mainGlobals "str" = some none)
    (z_isinstance : PySem.W.nsIn K mainGlobals "isinstance" = some none)
    (z_enumerate : PySem.W.nsIn K mainGlobals "enumerate" = some none)
    (z_zip : PySem.W.nsIn K mainGlobals "zip" = some none)
    (z_reversed : PySem.W.nsIn K mainGlobals "reversed" = some none)
    : ∃ fd : FuncData, (∀ (s : Shared) (v : Value), BindsTo s fd ⟨[v], []⟩ [("_law_script", v)]) ∧ ∀ base : Heap, K.In base → base.Ns mainGlobals mg → FnOk P w K mg base (L2.CX P w) 4 fa fd ["_law_script"] (spLaw K) := by
  have e := hfa.symm.trans (PySem.W.mg_of X G a_law)
  cases e
  have F_law_hand := fun_mk (st := (top 25)) l_law_hand c_law_hand k_law_hand
  have B_law_hand := F_law_hand.binds (ps := ["_law_script"]) fun _ _ _ _ _ _ us hl => match us, hl with | [_], _ => rfl
  have F_init_Pentagon := fun_mk (st := (inClass (top 3) 0)) l_init_Pentagon c_init_Pentagon k_init_Pentagon
  have B_init_Pentagon := F_init_Pentagon.binds (ps := ["self", "low", "lesser", "greater", "aside", "high"]) fun _ _ _ _ _ _ us hl => match us, hl with | [_, _, _, _, _, _], _ => rfl
  have F_init_Diamond := fun_mk (st := (inClass (top 4) 0)) l_init_Diamond c_init_Diamond k_init_Diamond
  have B_init_Diamond := F_init_Diamond.binds (ps := ["self", "low", "first", "second", "third", "high"]) fun _ _ _ _ _ _ us hl => match us, hl with | [_, _, _, _, _, _], _ => rfl
  have F_init_Found := fun_mk (st := (inClass (top 1) 0)) l_init_Found c_init_Found k_init_Found
  have B_init_Found := F_init_Found.binds (ps := ["self", "worth", "asked", "passed"]) fun _ _ _ _ _ _ us hl => match us, hl with | [_, _, _, _], _ => rfl
  have F_init_Doubt := fun_mk (st := (inClass (top 18) 0)) l_init_Doubt c_init_Doubt k_init_Doubt
  have B_init_Doubt := F_init_Doubt.binds (ps := ["self", "low", "high", "low_worth", "high_worth"]) fun _ _ _ _ _ _ us hl => match us, hl with | [_, _, _, _, _], _ => rfl
  have F_init_Passing := fun_mk (st := (inClass (top 19) 0)) l_init_Passing c_init_Passing k_init_Passing
  have B_init_Passing := F_init_Passing.binds (ps := ["self", "way", "context"]) fun _ _ _ _ _ _ us hl => match us, hl with | [_, _, _], _ => rfl
  have F_init_Within := fun_mk (st := (inClass (top 8) 0)) l_init_Within c_init_Within k_init_Within
  have B_init_Within := F_init_Within.binds (ps := ["self", "asked", "whole"]) fun _ _ _ _ _ _ us hl => match us, hl with | [_, _, _], _ => rfl
  have F_init_Looked := fun_mk (st := (inClass (top 10) 0)) l_init_Looked c_init_Looked k_init_Looked
  have B_init_Looked := F_init_Looked.binds (ps := ["self", "worth", "asked", "served"]) fun _ _ _ _ _ _ us hl => match us, hl with | [_, _, _, _], _ => rfl
  have F_init_Job := fun_mk (st := (inClass (top 14) 0)) l_init_Job c_init_Job k_init_Job
  have B_init_Job := F_init_Job.binds (ps := ["self", "number", "hand", "road", "context"]) fun _ _ _ _ _ _ us hl => match us, hl with | [_, _, _, _, _], _ => rfl
  have F_init_Answer := fun_mk (st := (inClass (top 12) 0)) l_init_Answer c_init_Answer k_init_Answer
  have B_init_Answer := F_init_Answer.binds (ps := ["self", "prime", "yes", "asked"]) fun _ _ _ _ _ _ us hl => match us, hl with | [_, _, _, _], _ => rfl
  have F_init_Plan := fun_mk (st := (inClass (top 21) 0)) l_init_Plan c_init_Plan k_init_Plan
  have B_init_Plan := F_init_Plan.binds (ps := ["self", "holder", "certificate"]) fun _ _ _ _ _ _ us hl => match us, hl with | [_, _, _], _ => rfl
  have F_init_Play := fun_mk (st := (inClass (top 23) 0)) l_init_Play c_init_Play k_init_Play
  have B_init_Play := F_init_Play.binds (ps := ["self", "road", "numbers", "worth"]) fun _ _ _ _ _ _ us hl => match us, hl with | [_, _, _, _], _ => rfl
  have F_init_Wrong := fun_mk (st := (inClass (top 6) 0)) l_init_Wrong c_init_Wrong k_init_Wrong
  have B_init_Wrong := F_init_Wrong.binds (ps := ["self", "told", "worth", "passed"]) fun _ _ _ _ _ _ us hl => match us, hl with | [_, _, _, _], _ => rfl
  have F_init_Trial := fun_mk (st := (inClass (top 16) 0)) l_init_Trial c_init_Trial k_init_Trial
  have B_init_Trial := F_init_Trial.binds (ps := ["self", "tolds", "refused"]) fun _ _ _ _ _ _ us hl => match us, hl with | [_, _, _], _ => rfl
  have F_law_made := fun_mk (st := (top 29)) l_law_made c_law_made k_law_made
  have B_law_made := F_law_made.binds (ps := ["_law_k", "_law_row"]) fun _ _ _ _ _ _ us hl => match us, hl with | [_, _], _ => rfl
  have F_law_many := fun_mk (st := (top 31)) l_law_many c_law_many k_law_many
  have B_law_many := F_law_many.binds (ps := ["_law_k"]) fun _ _ _ _ _ _ us hl => match us, hl with | [_], _ => rfl
  have F_law_mixed := fun_mk (st := (top 26)) l_law_mixed c_law_mixed k_law_mixed
  have B_law_mixed := F_law_mixed.binds (ps := ["_law_number", "_law_turn"]) fun _ _ _ _ _ _ us hl => match us, hl with | [_, _], _ => rfl
  have F_law_take := fun_mk (st := (top 27)) l_law_take c_law_take k_law_take
  have B_law_take := F_law_take.binds (ps := ["_law_hand_here", "_law_many_here"]) fun _ _ _ _ _ _ us hl => match us, hl with | [_, _], _ => rfl
  have F_law_fields := fun_mk (st := (top 30)) l_law_fields c_law_fields k_law_fields
  have B_law_fields := F_law_fields.binds (ps := ["_law_k", "_law_told"]) fun _ _ _ _ _ _ us hl => match us, hl with | [_, _], _ => rfl
  have F_law_thing := fun_mk (st := (top 28)) l_law_thing c_law_thing k_law_thing
  have B_law_thing := F_law_thing.binds (ps := ["_law_hand_here"]) fun _ _ _ _ _ _ us hl => match us, hl with | [_], _ => rfl
  have F_m_Found___eq__ := fun_mk (st := (inClass (top 1) 1)) l_m_Found___eq__ c_m_Found___eq__ k_m_Found___eq__
  have B_m_Found___eq__ := F_m_Found___eq__.binds (ps := ["self", "other"]) fun _ _ _ _ _ _ us hl => match us, hl with | [_, _], _ => rfl
  have F_m_Pentagon___eq__ := fun_mk (st := (inClass (top 3) 1)) l_m_Pentagon___eq__ c_m_Pentagon___eq__ k_m_Pentagon___eq__
  have B_m_Pentagon___eq__ := F_m_Pentagon___eq__.binds (ps := ["self", "other"]) fun _ _ _ _ _ _ us hl => match us, hl with | [_, _], _ => rfl
  have F_m_Diamond___eq__ := fun_mk (st := (inClass (top 4) 1)) l_m_Diamond___eq__ c_m_Diamond___eq__ k_m_Diamond___eq__
  have B_m_Diamond___eq__ := F_m_Diamond___eq__.binds (ps := ["self", "other"]) fun _ _ _ _ _ _ us hl => match us, hl with | [_, _], _ => rfl
  have F_m_Wrong___eq__ := fun_mk (st := (inClass (top 6) 1)) l_m_Wrong___eq__ c_m_Wrong___eq__ k_m_Wrong___eq__
  have B_m_Wrong___eq__ := F_m_Wrong___eq__.binds (ps := ["self", "other"]) fun _ _ _ _ _ _ us hl => match us, hl with | [_, _], _ => rfl
  have F_m_Within___eq__ := fun_mk (st := (inClass (top 8) 1)) l_m_Within___eq__ c_m_Within___eq__ k_m_Within___eq__
  have B_m_Within___eq__ := F_m_Within___eq__.binds (ps := ["self", "other"]) fun _ _ _ _ _ _ us hl => match us, hl with | [_, _], _ => rfl
  have F_m_Looked___eq__ := fun_mk (st := (inClass (top 10) 1)) l_m_Looked___eq__ c_m_Looked___eq__ k_m_Looked___eq__
  have B_m_Looked___eq__ := F_m_Looked___eq__.binds (ps := ["self", "other"]) fun _ _ _ _ _ _ us hl => match us, hl with | [_, _], _ => rfl
  have F_m_Answer___eq__ := fun_mk (st := (inClass (top 12) 1)) l_m_Answer___eq__ c_m_Answer___eq__ k_m_Answer___eq__
  have B_m_Answer___eq__ := F_m_Answer___eq__.binds (ps := ["self", "other"]) fun _ _ _ _ _ _ us hl => match us, hl with | [_, _], _ => rfl
  have F_m_Job___eq__ := fun_mk (st := (inClass (top 14) 1)) l_m_Job___eq__ c_m_Job___eq__ k_m_Job___eq__
  have B_m_Job___eq__ := F_m_Job___eq__.binds (ps := ["self", "other"]) fun _ _ _ _ _ _ us hl => match us, hl with | [_, _], _ => rfl
  have F_m_Trial___eq__ := fun_mk (st := (inClass (top 16) 1)) l_m_Trial___eq__ c_m_Trial___eq__ k_m_Trial___eq__
  have B_m_Trial___eq__ := F_m_Trial___eq__.binds (ps := ["self", "other"]) fun _ _ _ _ _ _ us hl => match us, hl with | [_, _], _ => rfl
  have F_m_Doubt___eq__ := fun_mk (st := (inClass (top 18) 1)) l_m_Doubt___eq__ c_m_Doubt___eq__ k_m_Doubt___eq__
  have B_m_Doubt___eq__ := F_m_Doubt___eq__.binds (ps := ["self", "other"]) fun _ _ _ _ _ _ us hl => match us, hl with | [_, _], _ => rfl
  have F_m_Passing___eq__ := fun_mk (st := (inClass (top 19) 1)) l_m_Passing___eq__ c_m_Passing___eq__ k_m_Passing___eq__
  have B_m_Passing___eq__ := F_m_Passing___eq__.binds (ps := ["self", "other"]) fun _ _ _ _ _ _ us hl => match us, hl with | [_, _], _ => rfl
  have F_m_Plan___eq__ := fun_mk (st := (inClass (top 21) 1)) l_m_Plan___eq__ c_m_Plan___eq__ k_m_Plan___eq__
  have B_m_Plan___eq__ := F_m_Plan___eq__.binds (ps := ["self", "other"]) fun _ _ _ _ _ _ us hl => match us, hl with | [_, _], _ => rfl
  have F_m_Play___eq__ := fun_mk (st := (inClass (top 23) 1)) l_m_Play___eq__ c_m_Play___eq__ k_m_Play___eq__
  have B_m_Play___eq__ := F_m_Play___eq__.binds (ps := ["self", "other"]) fun _ _ _ _ _ _ us hl => match us, hl with | [_, _], _ => rfl
  have F_law := fun_mk (st := (top 32)) l_law c_law k_law
  have y_len := PySem.W.mg_none_of X G z_len
  have y_int := PySem.W.mg_none_of X G z_int
  have y_bool := PySem.W.mg_none_of X G z_bool
  have y_list := PySem.W.mg_none_of X G z_list
  have y_tuple := PySem.W.mg_none_of X G z_tuple
  have y_abs := PySem.W.mg_none_of X G z_abs
  have y_max := PySem.W.mg_none_of X G z_max
  have y_min := PySem.W.mg_none_of X G z_min
  have y_sum := PySem.W.mg_none_of X G z_sum
  have y_sorted := PySem.W.mg_none_of X G z_sorted
  have y_any := PySem.W.mg_none_of X G z_any
  have y_all := PySem.W.mg_none_of X G z_all
  have y_range := PySem.W.mg_none_of X G z_range
  have y_repr := PySem.W.mg_none_of X G z_repr
  have y_str := PySem.W.mg_none_of X G z_str
  have y_isinstance := PySem.W.mg_none_of X G z_isinstance
  have y_enumerate := PySem.W.mg_none_of X G z_enumerate
  have y_zip := PySem.W.mg_none_of X G z_zip
  have y_reversed := PySem.W.mg_none_of X G z_reversed
  refine ⟨PySem.W.fnOf "law" "law" (defArgs (top 32)) (defBody (top 32)) (defScope (top 32)) .none vlaw claw plaw elaw tlaw ulaw, fun s v => .of_eq rfl, fun base _ _ => ?_⟩
  have md : MdOk P w K mg base nmX hcX (hvF []) (caF [C_Pentagon, C_Diamond, C_Found, C_Doubt, C_Passing, C_Within, C_Looked, C_Job, C_Answer, C_Plan, C_Play, C_Wrong, C_Trial]) mX := ⟨rfl, rfl, trivial, trivial, ⟨y_len, y_int, y_bool, y_list, y_tuple, y_abs, y_max, y_min, y_sum, y_sorted, y_any, y_all, y_range, y_repr, y_str, y_isinstance, y_enumerate, y_zip, y_reversed, trivial⟩,
    trivial,
    hvn_of (l := []) trivial rfl, trivial, ⟨⟨⟨ic_a_Found, ic_n, ic_t, ic_m_Found⟩, ic_Found_Found⟩, ⟨⟨ic_a_Found, ic_n, ic_t, ic_m_Found⟩, ic_Found_Pentagon⟩, ⟨⟨ic_a_Found, ic_n, ic_t, ic_m_Found⟩, ic_Found_Diamond⟩, ⟨⟨ic_a_Found, ic_n, ic_t, ic_m_Found⟩, ic_Found_Wrong⟩, ⟨⟨ic_a_Found, ic_n, ic_t, ic_m_Found⟩, ic_Found_Within⟩, ⟨⟨ic_a_Found, ic_n, ic_t, ic_m_Found⟩, ic_Found_Looked⟩, ⟨⟨ic_a_Found, ic_n, ic_t, ic_m_Found⟩, ic_Found_Answer⟩, ⟨⟨ic_a_Found, ic_n, ic_t, ic_m_Found⟩, ic_Found_Job⟩, ⟨⟨ic_a_Found, ic_n, ic_t, ic_m_Found⟩, ic_Found_Trial⟩, ⟨⟨ic_a_Found, ic_n, ic_t, ic_m_Found⟩, ic_Found_Doubt⟩, ⟨⟨ic_a_Found, ic_n, ic_t, ic_m_Found⟩, ic_Found_Passing⟩, ⟨⟨ic_a_Found, ic_n, ic_t, ic_m_Found⟩, ic_Found_Plan⟩, ⟨⟨ic_a_Found, ic_n, ic_t, ic_m_Found⟩, ic_Found_Play⟩, ⟨⟨ic_a_Pentagon, ic_n, ic_t, ic_m_Pentagon⟩, ic_Pentagon_Found⟩, ⟨⟨ic_a_Pentagon, ic_n, ic_t, ic_m_Pentagon⟩, ic_Pentagon_Pentagon⟩, ⟨⟨ic_a_Pentagon, ic_n, ic_t, ic_m_Pentagon⟩, ic_Pentagon_Diamond⟩, ⟨⟨ic_a_Pentagon, ic_n, ic_t, ic_m_Pentagon⟩, ic_Pentagon_Wrong⟩, ⟨⟨ic_a_Pentagon, ic_n, ic_t, ic_m_Pentagon⟩, ic_Pentagon_Within⟩, ⟨⟨ic_a_Pentagon, ic_n, ic_t, ic_m_Pentagon⟩, ic_Pentagon_Looked⟩, ⟨⟨ic_a_Pentagon, ic_n, ic_t, ic_m_Pentagon⟩, ic_Pentagon_Answer⟩, ⟨⟨ic_a_Pentagon, ic_n, ic_t, ic_m_Pentagon⟩, ic_Pentagon_Job⟩, ⟨⟨ic_a_Pentagon, ic_n, ic_t, ic_m_Pentagon⟩, ic_Pentagon_Trial⟩, ⟨⟨ic_a_Pentagon, ic_n, ic_t, ic_m_Pentagon⟩, ic_Pentagon_Doubt⟩, ⟨⟨ic_a_Pentagon, ic_n, ic_t, ic_m_Pentagon⟩, ic_Pentagon_Passing⟩, ⟨⟨ic_a_Pentagon, ic_n, ic_t, ic_m_Pentagon⟩, ic_Pentagon_Plan⟩, ⟨⟨ic_a_Pentagon, ic_n, ic_t, ic_m_Pentagon⟩, ic_Pentagon_Play⟩, ⟨⟨ic_a_Diamond, ic_n, ic_t, ic_m_Diamond⟩, ic_Diamond_Found⟩, ⟨⟨ic_a_Diamond, ic_n, ic_t, ic_m_Diamond⟩, ic_Diamond_Pentagon⟩, ⟨⟨ic_a_Diamond, ic_n, ic_t, ic_m_Diamond⟩, ic_Diamond_Diamond⟩, ⟨⟨ic_a_Diamond, ic_n, ic_t, ic_m_Diamond⟩, ic_Diamond_Wrong⟩, ⟨⟨ic_a_Diamond, ic_n, ic_t, ic_m_Diamond⟩, ic_Diamond_Within⟩, ⟨⟨ic_a_Diamond, ic_n, ic_t, ic_m_Diamond⟩, ic_Diamond_Looked⟩, ⟨⟨ic_a_Diamond, ic_n, ic_t, ic_m_Diamond⟩, ic_Diamond_Answer⟩, ⟨⟨ic_a_Diamond, ic_n, ic_t, ic_m_Diamond⟩, ic_Diamond_Job⟩, ⟨⟨ic_a_Diamond, ic_n, ic_t, ic_m_Diamond⟩, ic_Diamond_Trial⟩, ⟨⟨ic_a_Diamond, ic_n, ic_t, ic_m_Diamond⟩, ic_Diamond_Doubt⟩, ⟨⟨ic_a_Diamond, ic_n, ic_t, ic_m_Diamond⟩, ic_Diamond_Passing⟩, ⟨⟨ic_a_Diamond, ic_n, ic_t, ic_m_Diamond⟩, ic_Diamond_Plan⟩, ⟨⟨ic_a_Diamond, ic_n, ic_t, ic_m_Diamond⟩, ic_Diamond_Play⟩, ⟨⟨ic_a_Wrong, ic_n, ic_t, ic_m_Wrong⟩, ic_Wrong_Found⟩, ⟨⟨ic_a_Wrong, ic_n, ic_t, ic_m_Wrong⟩, ic_Wrong_Pentagon⟩, ⟨⟨ic_a_Wrong, ic_n, ic_t, ic_m_Wrong⟩, ic_Wrong_Diamond⟩, ⟨⟨ic_a_Wrong, ic_n, ic_t, ic_m_Wrong⟩, ic_Wrong_Wrong⟩, ⟨⟨ic_a_Wrong, ic_n, ic_t, ic_m_Wrong⟩, ic_Wrong_Within⟩, ⟨⟨ic_a_Wrong, ic_n, ic_t, ic_m_Wrong⟩, ic_Wrong_Looked⟩, ⟨⟨ic_a_Wrong, ic_n, ic_t, ic_m_Wrong⟩, ic_Wrong_Answer⟩, ⟨⟨ic_a_Wrong, ic_n, ic_t, ic_m_Wrong⟩, ic_Wrong_Job⟩, ⟨⟨ic_a_Wrong, ic_n, ic_t, ic_m_Wrong⟩, ic_Wrong_Trial⟩, ⟨⟨ic_a_Wrong, ic_n, ic_t, ic_m_Wrong⟩, ic_Wrong_Doubt⟩, ⟨⟨ic_a_Wrong, ic_n, ic_t, ic_m_Wrong⟩, ic_Wrong_Passing⟩, ⟨⟨ic_a_Wrong, ic_n, ic_t, ic_m_Wrong⟩, ic_Wrong_Plan⟩, ⟨⟨ic_a_Wrong, ic_n, ic_t, ic_m_Wrong⟩, ic_Wrong_Play⟩, ⟨⟨ic_a_Within, ic_n, ic_t, ic_m_Within⟩, ic_Within_Found⟩, ⟨⟨ic_a_Within, ic_n, ic_t, ic_m_Within⟩, ic_Within_Pentagon⟩, ⟨⟨ic_a_Within, ic_n, ic_t, ic_m_Within⟩, ic_Within_Diamond⟩, ⟨⟨ic_a_Within, ic_n, ic_t, ic_m_Within⟩, ic_Within_Wrong⟩, ⟨⟨ic_a_Within, ic_n, ic_t, ic_m_Within⟩, ic_Within_Within⟩, ⟨⟨ic_a_Within, ic_n, ic_t, ic_m_Within⟩, ic_Within_Looked⟩, ⟨⟨ic_a_Within, ic_n, ic_t, ic_m_Within⟩, ic_Within_Answer⟩, ⟨⟨ic_a_Within, ic_n, ic_t, ic_m_Within⟩, ic_Within_Job⟩, ⟨⟨ic_a_Within, ic_n, ic_t, ic_m_Within⟩, ic_Within_Trial⟩, ⟨⟨ic_a_Within, ic_n, ic_t, ic_m_Within⟩, ic_Within_Doubt⟩, ⟨⟨ic_a_Within, ic_n, ic_t, ic_m_Within⟩, ic_Within_Passing⟩, ⟨⟨ic_a_Within, ic_n, ic_t, ic_m_Within⟩, ic_Within_Plan⟩, ⟨⟨ic_a_Within, ic_n, ic_t, ic_m_Within⟩, ic_Within_Play⟩, ⟨⟨ic_a_Looked, ic_n, ic_t, ic_m_Looked⟩, ic_Looked_Found⟩, ⟨⟨ic_a_Looked, ic_n, ic_t, ic_m_Looked⟩, ic_Looked_Pentagon⟩, ⟨⟨ic_a_Looked, ic_n, ic_t, ic_m_Looked⟩, ic_Looked_Diamond⟩, ⟨⟨ic_a_Looked, ic_n, ic_t, ic_m_Looked⟩, ic_Looked_Wrong⟩, ⟨⟨ic_a_Looked, ic_n, ic_t, ic_m_Looked⟩, ic_Looked_Within⟩, ⟨⟨ic_a_Looked, ic_n, ic_t, ic_m_Looked⟩, ic_Looked_Looked⟩, ⟨⟨ic_a_Looked, ic_n, ic_t, ic_m_Looked⟩, ic_Looked_Answer⟩, ⟨⟨ic_a_Looked, ic_n, ic_t, ic_m_Looked⟩, ic_Looked_Job⟩, ⟨⟨ic_a_Looked, ic_n, ic_t, ic_m_Looked⟩, ic_Looked_Trial⟩, ⟨⟨ic_a_Looked, ic_n, ic_t, ic_m_Looked⟩, ic_Looked_Doubt⟩, ⟨⟨ic_a_Looked, ic_n, ic_t, ic_m_Looked⟩, ic_Looked_Passing⟩, ⟨⟨ic_a_Looked, ic_n, ic_t, ic_m_Looked⟩, ic_Looked_Plan⟩, ⟨⟨ic_a_Looked, ic_n, ic_t, ic_m_Looked⟩, ic_Looked_Play⟩, ⟨⟨ic_a_Answer, ic_n, ic_t, ic_m_Answer⟩, ic_Answer_Found⟩, ⟨⟨ic_a_Answer, ic_n, ic_t, ic_m_Answer⟩, ic_Answer_Pentagon⟩, ⟨⟨ic_a_Answer, ic_n, ic_t, ic_m_Answer⟩, ic_Answer_Diamond⟩, ⟨⟨ic_a_Answer, ic_n, ic_t, ic_m_Answer⟩, ic_Answer_Wrong⟩, ⟨⟨ic_a_Answer, ic_n, ic_t, ic_m_Answer⟩, ic_Answer_Within⟩, ⟨⟨ic_a_Answer, ic_n, ic_t, ic_m_Answer⟩, ic_Answer_Looked⟩, ⟨⟨ic_a_Answer, ic_n, ic_t, ic_m_Answer⟩, ic_Answer_Answer⟩, ⟨⟨ic_a_Answer, ic_n, ic_t, ic_m_Answer⟩, ic_Answer_Job⟩, ⟨⟨ic_a_Answer, ic_n, ic_t, ic_m_Answer⟩, ic_Answer_Trial⟩, ⟨⟨ic_a_Answer, ic_n, ic_t, ic_m_Answer⟩, ic_Answer_Doubt⟩, ⟨⟨ic_a_Answer, ic_n, ic_t, ic_m_Answer⟩, ic_Answer_Passing⟩, ⟨⟨ic_a_Answer, ic_n, ic_t, ic_m_Answer⟩, ic_Answer_Plan⟩, ⟨⟨ic_a_Answer, ic_n, ic_t, ic_m_Answer⟩, ic_Answer_Play⟩, ⟨⟨ic_a_Job, ic_n, ic_t, ic_m_Job⟩, ic_Job_Found⟩, ⟨⟨ic_a_Job, ic_n, ic_t, ic_m_Job⟩, ic_Job_Pentagon⟩, ⟨⟨ic_a_Job, ic_n, ic_t, ic_m_Job⟩, ic_Job_Diamond⟩, ⟨⟨ic_a_Job, ic_n, ic_t, ic_m_Job⟩, ic_Job_Wrong⟩, ⟨⟨ic_a_Job, ic_n, ic_t, ic_m_Job⟩, ic_Job_Within⟩, ⟨⟨ic_a_Job, ic_n, ic_t, ic_m_Job⟩, ic_Job_Looked⟩, ⟨⟨ic_a_Job, ic_n, ic_t, ic_m_Job⟩, ic_Job_Answer⟩, ⟨⟨ic_a_Job, ic_n, ic_t, ic_m_Job⟩, ic_Job_Job⟩, ⟨⟨ic_a_Job, ic_n, ic_t, ic_m_Job⟩, ic_Job_Trial⟩, ⟨⟨ic_a_Job, ic_n, ic_t, ic_m_Job⟩, ic_Job_Doubt⟩, ⟨⟨ic_a_Job, ic_n, ic_t, ic_m_Job⟩, ic_Job_Passing⟩, ⟨⟨ic_a_Job, ic_n, ic_t, ic_m_Job⟩, ic_Job_Plan⟩, ⟨⟨ic_a_Job, ic_n, ic_t, ic_m_Job⟩, ic_Job_Play⟩, ⟨⟨ic_a_Trial, ic_n, ic_t, ic_m_Trial⟩, ic_Trial_Found⟩, ⟨⟨ic_a_Trial, ic_n, ic_t, ic_m_Trial⟩, ic_Trial_Pentagon⟩, ⟨⟨ic_a_Trial, ic_n, ic_t, ic_m_Trial⟩, ic_Trial_Diamond⟩, ⟨⟨ic_a_Trial, ic_n, ic_t, ic_m_Trial⟩, ic_Trial_Wrong⟩, ⟨⟨ic_a_Trial, ic_n, ic_t, ic_m_Trial⟩, ic_Trial_Within⟩, ⟨⟨ic_a_Trial, ic_n, ic_t, ic_m_Trial⟩, ic_Trial_Looked⟩, ⟨⟨ic_a_Trial, ic_n, ic_t, ic_m_Trial⟩, ic_Trial_Answer⟩, ⟨⟨ic_a_Trial, ic_n, ic_t, ic_m_Trial⟩, ic_Trial_Job⟩, ⟨⟨ic_a_Trial, ic_n, ic_t, ic_m_Trial⟩, ic_Trial_Trial⟩, ⟨⟨ic_a_Trial, ic_n, ic_t, ic_m_Trial⟩, ic_Trial_Doubt⟩, ⟨⟨ic_a_Trial, ic_n, ic_t, ic_m_Trial⟩, ic_Trial_Passing⟩, ⟨⟨ic_a_Trial, ic_n, ic_t, ic_m_Trial⟩, ic_Trial_Plan⟩, ⟨⟨ic_a_Trial, ic_n, ic_t, ic_m_Trial⟩, ic_Trial_Play⟩, ⟨⟨ic_a_Doubt, ic_n, ic_t, ic_m_Doubt⟩, ic_Doubt_Found⟩, ⟨⟨ic_a_Doubt, ic_n, ic_t, ic_m_Doubt⟩, ic_Doubt_Pentagon⟩, ⟨⟨ic_a_Doubt, ic_n, ic_t, ic_m_Doubt⟩, ic_Doubt_Diamond⟩, ⟨⟨ic_a_Doubt, ic_n, ic_t, ic_m_Doubt⟩, ic_Doubt_Wrong⟩, ⟨⟨ic_a_Doubt, ic_n, ic_t, ic_m_Doubt⟩, ic_Doubt_Within⟩, ⟨⟨ic_a_Doubt, ic_n, ic_t, ic_m_Doubt⟩, ic_Doubt_Looked⟩, ⟨⟨ic_a_Doubt, ic_n, ic_t, ic_m_Doubt⟩, ic_Doubt_Answer⟩, ⟨⟨ic_a_Doubt, ic_n, ic_t, ic_m_Doubt⟩, ic_Doubt_Job⟩, ⟨⟨ic_a_Doubt, ic_n, ic_t, ic_m_Doubt⟩, ic_Doubt_Trial⟩, ⟨⟨ic_a_Doubt, ic_n, ic_t, ic_m_Doubt⟩, ic_Doubt_Doubt⟩, ⟨⟨ic_a_Doubt, ic_n, ic_t, ic_m_Doubt⟩, ic_Doubt_Passing⟩, ⟨⟨ic_a_Doubt, ic_n, ic_t, ic_m_Doubt⟩, ic_Doubt_Plan⟩, ⟨⟨ic_a_Doubt, ic_n, ic_t, ic_m_Doubt⟩, ic_Doubt_Play⟩, ⟨⟨ic_a_Passing, ic_n, ic_t, ic_m_Passing⟩, ic_Passing_Found⟩, ⟨⟨ic_a_Passing, ic_n, ic_t, ic_m_Passing⟩, ic_Passing_Pentagon⟩, ⟨⟨ic_a_Passing, ic_n, ic_t, ic_m_Passing⟩, ic_Passing_Diamond⟩, ⟨⟨ic_a_Passing, ic_n, ic_t, ic_m_Passing⟩, ic_Passing_Wrong⟩, ⟨⟨ic_a_Passing, ic_n, ic_t, ic_m_Passing⟩, ic_Passing_Within⟩, ⟨⟨ic_a_Passing, ic_n, ic_t, ic_m_Passing⟩, ic_Passing_Looked⟩, ⟨⟨ic_a_Passing, ic_n, ic_t, ic_m_Passing⟩, ic_Passing_Answer⟩, ⟨⟨ic_a_Passing, ic_n, ic_t, ic_m_Passing⟩, ic_Passing_Job⟩, ⟨⟨ic_a_Passing, ic_n, ic_t, ic_m_Passing⟩, ic_Passing_Trial⟩, ⟨⟨ic_a_Passing, ic_n, ic_t, ic_m_Passing⟩, ic_Passing_Doubt⟩, ⟨⟨ic_a_Passing, ic_n, ic_t, ic_m_Passing⟩, ic_Passing_Passing⟩, ⟨⟨ic_a_Passing, ic_n, ic_t, ic_m_Passing⟩, ic_Passing_Plan⟩, ⟨⟨ic_a_Passing, ic_n, ic_t, ic_m_Passing⟩, ic_Passing_Play⟩, ⟨⟨ic_a_Plan, ic_n, ic_t, ic_m_Plan⟩, ic_Plan_Found⟩, ⟨⟨ic_a_Plan, ic_n, ic_t, ic_m_Plan⟩, ic_Plan_Pentagon⟩, ⟨⟨ic_a_Plan, ic_n, ic_t, ic_m_Plan⟩, ic_Plan_Diamond⟩, ⟨⟨ic_a_Plan, ic_n, ic_t, ic_m_Plan⟩, ic_Plan_Wrong⟩, ⟨⟨ic_a_Plan, ic_n, ic_t, ic_m_Plan⟩, ic_Plan_Within⟩, ⟨⟨ic_a_Plan, ic_n, ic_t, ic_m_Plan⟩, ic_Plan_Looked⟩, ⟨⟨ic_a_Plan, ic_n, ic_t, ic_m_Plan⟩, ic_Plan_Answer⟩, ⟨⟨ic_a_Plan, ic_n, ic_t, ic_m_Plan⟩, ic_Plan_Job⟩, ⟨⟨ic_a_Plan, ic_n, ic_t, ic_m_Plan⟩, ic_Plan_Trial⟩, ⟨⟨ic_a_Plan, ic_n, ic_t, ic_m_Plan⟩, ic_Plan_Doubt⟩, ⟨⟨ic_a_Plan, ic_n, ic_t, ic_m_Plan⟩, ic_Plan_Passing⟩, ⟨⟨ic_a_Plan, ic_n, ic_t, ic_m_Plan⟩, ic_Plan_Plan⟩, ⟨⟨ic_a_Plan, ic_n, ic_t, ic_m_Plan⟩, ic_Plan_Play⟩, ⟨⟨ic_a_Play, ic_n, ic_t, ic_m_Play⟩, ic_Play_Found⟩, ⟨⟨ic_a_Play, ic_n, ic_t, ic_m_Play⟩, ic_Play_Pentagon⟩, ⟨⟨ic_a_Play, ic_n, ic_t, ic_m_Play⟩, ic_Play_Diamond⟩, ⟨⟨ic_a_Play, ic_n, ic_t, ic_m_Play⟩, ic_Play_Wrong⟩, ⟨⟨ic_a_Play, ic_n, ic_t, ic_m_Play⟩, ic_Play_Within⟩, ⟨⟨ic_a_Play, ic_n, ic_t, ic_m_Play⟩, ic_Play_Looked⟩, ⟨⟨ic_a_Play, ic_n, ic_t, ic_m_Play⟩, ic_Play_Answer⟩, ⟨⟨ic_a_Play, ic_n, ic_t, ic_m_Play⟩, ic_Play_Job⟩, ⟨⟨ic_a_Play, ic_n, ic_t, ic_m_Play⟩, ic_Play_Trial⟩, ⟨⟨ic_a_Play, ic_n, ic_t, ic_m_Play⟩, ic_Play_Doubt⟩, ⟨⟨ic_a_Play, ic_n, ic_t, ic_m_Play⟩, ic_Play_Passing⟩, ⟨⟨ic_a_Play, ic_n, ic_t, ic_m_Play⟩, ic_Play_Plan⟩, ⟨⟨ic_a_Play, ic_n, ic_t, ic_m_Play⟩, ic_Play_Play⟩, trivial⟩, ⟨⟨⟨it_Found_NoneType, it_Found_bool, it_Found_int, it_Found_str, it_Found_tuple, it_Found_list, trivial⟩, _, rfl, PySem.W.mg_of X G a_Found⟩, ⟨⟨it_Pentagon_NoneType, it_Pentagon_bool, it_Pentagon_int, it_Pentagon_str, it_Pentagon_tuple, it_Pentagon_list, trivial⟩, _, rfl, PySem.W.mg_of X G a_Pentagon⟩, ⟨⟨it_Diamond_NoneType, it_Diamond_bool, it_Diamond_int, it_Diamond_str, it_Diamond_tuple, it_Diamond_list, trivial⟩, _, rfl, PySem.W.mg_of X G a_Diamond⟩, ⟨⟨it_Wrong_NoneType, it_Wrong_bool, it_Wrong_int, it_Wrong_str, it_Wrong_tuple, it_Wrong_list, trivial⟩, _, rfl, PySem.W.mg_of X G a_Wrong⟩, ⟨⟨it_Within_NoneType, it_Within_bool, it_Within_int, it_Within_str, it_Within_tuple, it_Within_list, trivial⟩, _, rfl, PySem.W.mg_of X G a_Within⟩, ⟨⟨it_Looked_NoneType, it_Looked_bool, it_Looked_int, it_Looked_str, it_Looked_tuple, it_Looked_list, trivial⟩, _, rfl, PySem.W.mg_of X G a_Looked⟩, ⟨⟨it_Answer_NoneType, it_Answer_bool, it_Answer_int, it_Answer_str, it_Answer_tuple, it_Answer_list, trivial⟩, _, rfl, PySem.W.mg_of X G a_Answer⟩, ⟨⟨it_Job_NoneType, it_Job_bool, it_Job_int, it_Job_str, it_Job_tuple, it_Job_list, trivial⟩, _, rfl, PySem.W.mg_of X G a_Job⟩, ⟨⟨it_Trial_NoneType, it_Trial_bool, it_Trial_int, it_Trial_str, it_Trial_tuple, it_Trial_list, trivial⟩, _, rfl, PySem.W.mg_of X G a_Trial⟩, ⟨⟨it_Doubt_NoneType, it_Doubt_bool, it_Doubt_int, it_Doubt_str, it_Doubt_tuple, it_Doubt_list, trivial⟩, _, rfl, PySem.W.mg_of X G a_Doubt⟩, ⟨⟨it_Passing_NoneType, it_Passing_bool, it_Passing_int, it_Passing_str, it_Passing_tuple, it_Passing_list, trivial⟩, _, rfl, PySem.W.mg_of X G a_Passing⟩, ⟨⟨it_Plan_NoneType, it_Plan_bool, it_Plan_int, it_Plan_str, it_Plan_tuple, it_Plan_list, trivial⟩, _, rfl, PySem.W.mg_of X G a_Plan⟩, ⟨⟨it_Play_NoneType, it_Play_bool, it_Play_int, it_Play_str, it_Play_tuple, it_Play_list, trivial⟩, _, rfl, PySem.W.mg_of X G a_Play⟩, trivial⟩⟩
  have md0 : MdOk P w K mg base nmX hcX (hvF []) (caF [C_Pentagon, C_Diamond, C_Found, C_Doubt, C_Passing, C_Within, C_Looked, C_Job, C_Answer, C_Plan, C_Play, C_Wrong, C_Trial]) m0 := ⟨rfl, rfl, trivial, trivial, md.bl, trivial, md.hvn, trivial, trivial, trivial⟩
  have M_init_Pentagon : Mo P w K mg base nmX hcX (hvF []) (caF [C_Pentagon, C_Diamond, C_Found, C_Doubt, C_Passing, C_Within, C_Looked, C_Job, C_Answer, C_Plan, C_Play, C_Wrong, C_Trial]) G_init_Pentagon 0 := (mo_of (k := 0) md0 (.inl rfl) trivial trivial trivial)
  have M_init_Diamond : Mo P w K mg base nmX hcX (hvF []) (caF [C_Pentagon, C_Diamond, C_Found, C_Doubt, C_Passing, C_Within, C_Looked, C_Job, C_Answer, C_Plan, C_Play, C_Wrong, C_Trial]) G_init_Diamond 0 := (mo_of (k := 0) md0 (.inl rfl) trivial trivial trivial)
  have M_init_Found : Mo P w K mg base nmX hcX (hvF []) (caF [C_Pentagon, C_Diamond, C_Found, C_Doubt, C_Passing, C_Within, C_Looked, C_Job, C_Answer, C_Plan, C_Play, C_Wrong, C_Trial]) G_init_Found 0 := (mo_of (k := 0) md0 (.inl rfl) trivial trivial trivial)
  have M_init_Doubt : Mo P w K mg base nmX hcX (hvF []) (caF [C_Pentagon, C_Diamond, C_Found, C_Doubt, C_Passing, C_Within, C_Looked, C_Job, C_Answer, C_Plan, C_Play, C_Wrong, C_Trial]) G_init_Doubt 0 := (mo_of (k := 0) md0 (.inl rfl) trivial trivial trivial)
  have M_init_Passing : Mo P w K mg base nmX hcX (hvF []) (caF [C_Pentagon, C_Diamond, C_Found, C_Doubt, C_Passing, C_Within, C_Looked, C_Job, C_Answer, C_Plan, C_Play, C_Wrong, C_Trial]) G_init_Passing 0 := (mo_of (k := 0) md0 (.inl rfl) trivial trivial trivial)
  have M_init_Within : Mo P w K mg base nmX hcX (hvF []) (caF [C_Pentagon, C_Diamond, C_Found, C_Doubt, C_Passing, C_Within, C_Looked, C_Job, C_Answer, C_Plan, C_Play, C_Wrong, C_Trial]) G_init_Within 0 := (mo_of (k := 0) md0 (.inl rfl) trivial trivial trivial)
  have M_init_Looked : Mo P w K mg base nmX hcX (hvF []) (caF [C_Pentagon, C_Diamond, C_Found, C_Doubt, C_Passing, C_Within, C_Looked, C_Job, C_Answer, C_Plan, C_Play, C_Wrong, C_Trial]) G_init_Looked 0 := (mo_of (k := 0) md0 (.inl rfl) trivial trivial trivial)
  have M_init_Job : Mo P w K mg base nmX hcX (hvF []) (caF [C_Pentagon, C_Diamond, C_Found, C_Doubt, C_Passing, C_Within, C_Looked, C_Job, C_Answer, C_Plan, C_Play, C_Wrong, C_Trial]) G_init_Job 0 := (mo_of (k := 0) md0 (.inl rfl) trivial trivial trivial)
  have M_init_Answer : Mo P w K mg base nmX hcX (hvF []) (caF [C_Pentagon, C_Diamond, C_Found, C_Doubt, C_Passing, C_Within, C_Looked, C_Job, C_Answer, C_Plan, C_Play, C_Wrong, C_Trial]) G_init_Answer 0 := (mo_of (k := 0) md0 (.inl rfl) trivial trivial trivial)
  have M_init_Plan : Mo P w K mg base nmX hcX (hvF []) (caF [C_Pentagon, C_Diamond, C_Found, C_Doubt, C_Passing, C_Within, C_Looked, C_Job, C_Answer, C_Plan, C_Play, C_Wrong, C_Trial]) G_init_Plan 0 := (mo_of (k := 0) md0 (.inl rfl) trivial trivial trivial)
  have M_init_Play : Mo P w K mg base nmX hcX (hvF []) (caF [C_Pentagon, C_Diamond, C_Found, C_Doubt, C_Passing, C_Within, C_Looked, C_Job, C_Answer, C_Plan, C_Play, C_Wrong, C_Trial]) G_init_Play 0 := (mo_of (k := 0) md0 (.inl rfl) trivial trivial trivial)
  have M_init_Wrong : Mo P w K mg base nmX hcX (hvF []) (caF [C_Pentagon, C_Diamond, C_Found, C_Doubt, C_Passing, C_Within, C_Looked, C_Job, C_Answer, C_Plan, C_Play, C_Wrong, C_Trial]) G_init_Wrong 0 := (mo_of (k := 0) md0 (.inl rfl) trivial trivial trivial)
  have M_init_Trial : Mo P w K mg base nmX hcX (hvF []) (caF [C_Pentagon, C_Diamond, C_Found, C_Doubt, C_Passing, C_Within, C_Looked, C_Job, C_Answer, C_Plan, C_Play, C_Wrong, C_Trial]) G_init_Trial 0 := (mo_of (k := 0) md0 (.inl rfl) trivial trivial trivial)
  have K_init_Pentagon : MkE0 P w K mg base (caF [C_Pentagon, C_Diamond, C_Found, C_Doubt, C_Passing, C_Within, C_Looked, C_Job, C_Answer, C_Plan, C_Play, C_Wrong, C_Trial]) nmX.fl 2 "Pentagon" 0 5 W_init_Pentagon := mkE_of F_init_Pentagon sc_init_Pentagon M_init_Pentagon ck_init_Pentagon B_init_Pentagon (insOk_of ⟨pg_Pentagon, hd_Pentagon, po_Pentagon, sa_Pentagon⟩ ⟨n_Pentagon_4, n_Pentagon_3, n_Pentagon_2, n_Pentagon_1, n_Pentagon_0, trivial⟩ (by decide +kernel)) rfl (PySem.W.mg_of X G a_Pentagon) ⟨mk_Pentagon, i_init_Pentagon, g_init_Pentagon, kc_Pentagon⟩ (by decide)
  have K_init_Diamond : MkE0 P w K mg base (caF [C_Pentagon, C_Diamond, C_Found, C_Doubt, C_Passing, C_Within, C_Looked, C_Job, C_Answer, C_Plan, C_Play, C_Wrong, C_Trial]) nmX.fl 2 "Diamond" 1 5 W_init_Diamond := mkE_of F_init_Diamond sc_init_Diamond M_init_Diamond ck_init_Diamond B_init_Diamond (insOk_of ⟨pg_Diamond, hd_Diamond, po_Diamond, sa_Diamond⟩ ⟨n_Diamond_4, n_Diamond_7, n_Diamond_6, n_Diamond_5, n_Diamond_0, trivial⟩ (by decide +kernel)) rfl (PySem.W.mg_of X G a_Diamond) ⟨mk_Diamond, i_init_Diamond, g_init_Diamond, kc_Diamond⟩ (by decide)
  have K_init_Found : MkE0 P w K mg base (caF [C_Pentagon, C_Diamond, C_Found, C_Doubt, C_Passing, C_Within, C_Looked, C_Job, C_Answer, C_Plan, C_Play, C_Wrong, C_Trial]) nmX.fl 2 "Found" 2 3 W_init_Found := mkE_of F_init_Found sc_init_Found M_init_Found ck_init_Found B_init_Found (insOk_of ⟨pg_Found, hd_Found, po_Found, sa_Found⟩ ⟨n_Found_10, n_Found_9, n_Found_8, trivial⟩ (by decide +kernel)) rfl (PySem.W.mg_of X G a_Found) ⟨mk_Found, i_init_Found, g_init_Found, kc_Found⟩ (by decide)
  have K_init_Doubt : MkE0 P w K mg base (caF [C_Pentagon, C_Diamond, C_Found, C_Doubt, C_Passing, C_Within, C_Looked, C_Job, C_Answer, C_Plan, C_Play, C_Wrong, C_Trial]) nmX.fl 2 "Doubt" 3 4 W_init_Doubt := mkE_of F_init_Doubt sc_init_Doubt M_init_Doubt ck_init_Doubt B_init_Doubt (insOk_of ⟨pg_Doubt, hd_Doubt, po_Doubt, sa_Doubt⟩ ⟨n_Doubt_4, n_Doubt_0, n_Doubt_12, n_Doubt_11, trivial⟩ (by decide +kernel)) rfl (PySem.W.mg_of X G a_Doubt) ⟨mk_Doubt, i_init_Doubt, g_init_Doubt, kc_Doubt⟩ (by decide)
  have K_init_Passing : MkE0 P w K mg base (caF [C_Pentagon, C_Diamond, C_Found, C_Doubt, C_Passing, C_Within, C_Looked, C_Job, C_Answer, C_Plan, C_Play, C_Wrong, C_Trial]) nmX.fl 2 "Passing" 4 2 W_init_Passing := mkE_of F_init_Passing sc_init_Passing M_init_Passing ck_init_Passing B_init_Passing (insOk_of ⟨pg_Passing, hd_Passing, po_Passing, sa_Passing⟩ ⟨n_Passing_14, n_Passing_13, trivial⟩ (by decide +kernel)) rfl (PySem.W.mg_of X G a_Passing) ⟨mk_Passing, i_init_Passing, g_init_Passing, kc_Passing⟩ (by decide)
  have K_init_Within : MkE0 P w K mg base (caF [C_Pentagon, C_Diamond, C_Found, C_Doubt, C_Passing, C_Within, C_Looked, C_Job, C_Answer, C_Plan, C_Play, C_Wrong, C_Trial]) nmX.fl 2 "Within" 5 2 W_init_Within := mkE_of F_init_Within sc_init_Within M_init_Within ck_init_Within B_init_Within (insOk_of ⟨pg_Within, hd_Within, po_Within, sa_Within⟩ ⟨n_Within_9, n_Within_15, trivial⟩ (by decide +kernel)) rfl (PySem.W.mg_of X G a_Within) ⟨mk_Within, i_init_Within, g_init_Within, kc_Within⟩ (by decide)
  have K_init_Looked : MkE0 P w K mg base (caF [C_Pentagon, C_Diamond, C_Found, C_Doubt, C_Passing, C_Within, C_Looked, C_Job, C_Answer, C_Plan, C_Play, C_Wrong, C_Trial]) nmX.fl 2 "Looked" 6 3 W_init_Looked := mkE_of F_init_Looked sc_init_Looked M_init_Looked ck_init_Looked B_init_Looked (insOk_of ⟨pg_Looked, hd_Looked, po_Looked, sa_Looked⟩ ⟨n_Looked_10, n_Looked_9, n_Looked_16, trivial⟩ (by decide +kernel)) rfl (PySem.W.mg_of X G a_Looked) ⟨mk_Looked, i_init_Looked, g_init_Looked, kc_Looked⟩ (by decide)
  have K_init_Job : MkE0 P w K mg base (caF [C_Pentagon, C_Diamond, C_Found, C_Doubt, C_Passing, C_Within, C_Looked, C_Job, C_Answer, C_Plan, C_Play, C_Wrong, C_Trial]) nmX.fl 2 "Job" 7 4 W_init_Job := mkE_of F_init_Job sc_init_Job M_init_Job ck_init_Job B_init_Job (insOk_of ⟨pg_Job, hd_Job, po_Job, sa_Job⟩ ⟨n_Job_19, n_Job_18, n_Job_17, n_Job_13, trivial⟩ (by decide +kernel)) rfl (PySem.W.mg_of X G a_Job) ⟨mk_Job, i_init_Job, g_init_Job, kc_Job⟩ (by decide)
  have K_init_Answer : MkE0 P w K mg base (caF [C_Pentagon, C_Diamond, C_Found, C_Doubt, C_Passing, C_Within, C_Looked, C_Job, C_Answer, C_Plan, C_Play, C_Wrong, C_Trial]) nmX.fl 2 "Answer" 8 3 W_init_Answer := mkE_of F_init_Answer sc_init_Answer M_init_Answer ck_init_Answer B_init_Answer (insOk_of ⟨pg_Answer, hd_Answer, po_Answer, sa_Answer⟩ ⟨n_Answer_21, n_Answer_20, n_Answer_9, trivial⟩ (by decide +kernel)) rfl (PySem.W.mg_of X G a_Answer) ⟨mk_Answer, i_init_Answer, g_init_Answer, kc_Answer⟩ (by decide)
  have K_init_Plan : MkE0 P w K mg base (caF [C_Pentagon, C_Diamond, C_Found, C_Doubt, C_Passing, C_Within, C_Looked, C_Job, C_Answer, C_Plan, C_Play, C_Wrong, C_Trial]) nmX.fl 2 "Plan" 9 2 W_init_Plan := mkE_of F_init_Plan sc_init_Plan M_init_Plan ck_init_Plan B_init_Plan (insOk_of ⟨pg_Plan, hd_Plan, po_Plan, sa_Plan⟩ ⟨n_Plan_23, n_Plan_22, trivial⟩ (by decide +kernel)) rfl (PySem.W.mg_of X G a_Plan) ⟨mk_Plan, i_init_Plan, g_init_Plan, kc_Plan⟩ (by decide)
  have K_init_Play : MkE0 P w K mg base (caF [C_Pentagon, C_Diamond, C_Found, C_Doubt, C_Passing, C_Within, C_Looked, C_Job, C_Answer, C_Plan, C_Play, C_Wrong, C_Trial]) nmX.fl 2 "Play" 10 3 W_init_Play := mkE_of F_init_Play sc_init_Play M_init_Play ck_init_Play B_init_Play (insOk_of ⟨pg_Play, hd_Play, po_Play, sa_Play⟩ ⟨n_Play_17, n_Play_24, n_Play_10, trivial⟩ (by decide +kernel)) rfl (PySem.W.mg_of X G a_Play) ⟨mk_Play, i_init_Play, g_init_Play, kc_Play⟩ (by decide)
  have K_init_Wrong : MkE0 P w K mg base (caF [C_Pentagon, C_Diamond, C_Found, C_Doubt, C_Passing, C_Within, C_Looked, C_Job, C_Answer, C_Plan, C_Play, C_Wrong, C_Trial]) nmX.fl 2 "Wrong" 11 3 W_init_Wrong := mkE_of F_init_Wrong sc_init_Wrong M_init_Wrong ck_init_Wrong B_init_Wrong (insOk_of ⟨pg_Wrong, hd_Wrong, po_Wrong, sa_Wrong⟩ ⟨n_Wrong_25, n_Wrong_10, n_Wrong_8, trivial⟩ (by decide +kernel)) rfl (PySem.W.mg_of X G a_Wrong) ⟨mk_Wrong, i_init_Wrong, g_init_Wrong, kc_Wrong⟩ (by decide)
  have K_init_Trial : MkE0 P w K mg base (caF [C_Pentagon, C_Diamond, C_Found, C_Doubt, C_Passing, C_Within, C_Looked, C_Job, C_Answer, C_Plan, C_Play, C_Wrong, C_Trial]) nmX.fl 2 "Trial" 12 2 W_init_Trial := mkE_of F_init_Trial sc_init_Trial M_init_Trial ck_init_Trial B_init_Trial (insOk_of ⟨pg_Trial, hd_Trial, po_Trial, sa_Trial⟩ ⟨n_Trial_27, n_Trial_26, trivial⟩ (by decide +kernel)) rfl (PySem.W.mg_of X G a_Trial) ⟨mk_Trial, i_init_Trial, g_init_Trial, kc_Trial⟩ (by decide)
  have M_law_made : Mo P w K mg base nmX hcX (hvF []) (caF [C_Pentagon, C_Diamond, C_Found, C_Doubt, C_Passing, C_Within, C_Looked, C_Job, C_Answer, C_Plan, C_Play, C_Wrong, C_Trial]) G_law_made 2 := (mo_of (k := 2) md0 (.inl rfl) trivial ⟨⟨_, rfl, K_init_Pentagon⟩, ⟨_, rfl, K_init_Diamond⟩, ⟨_, rfl, K_init_Found⟩, ⟨_, rfl, K_init_Doubt⟩, ⟨_, rfl, K_init_Passing⟩, ⟨_, rfl, K_init_Within⟩, ⟨_, rfl, K_init_Looked⟩, ⟨_, rfl, K_init_Job⟩, ⟨_, rfl, K_init_Answer⟩, ⟨_, rfl, K_init_Plan⟩, ⟨_, rfl, K_init_Play⟩, ⟨_, rfl, K_init_Wrong⟩, ⟨_, rfl, K_init_Trial⟩, trivial⟩ trivial)
  have E_law_made : FnE0 P w K mg base (caF [C_Pentagon, C_Diamond, C_Found, C_Doubt, C_Passing, C_Within, C_Looked, C_Job, C_Answer, C_Plan, C_Play, C_Wrong, C_Trial]) nmX.fl 3 "_law_made" 2 W_law_made := fnE_of F_law_made sc_law_made M_law_made ck_law_made (PySem.W.mg_of X G a_law_made) B_law_made
  have M_law_many : Mo P w K mg base nmX hcX (hvF []) (caF [C_Pentagon, C_Diamond, C_Found, C_Doubt, C_Passing, C_Within, C_Looked, C_Job, C_Answer, C_Plan, C_Play, C_Wrong, C_Trial]) G_law_many 0 := (mo_of (k := 0) md0 (.inl rfl) trivial trivial trivial)
  have E_law_many : FnE0 P w K mg base (caF [C_Pentagon, C_Diamond, C_Found, C_Doubt, C_Passing, C_Within, C_Looked, C_Job, C_Answer, C_Plan, C_Play, C_Wrong, C_Trial]) nmX.fl 1 "_law_many" 1 W_law_many := fnE_of F_law_many sc_law_many M_law_many ck_law_many (PySem.W.mg_of X G a_law_many) B_law_many
  have M_law_mixed : Mo P w K mg base nmX hcX (hvF []) (caF [C_Pentagon, C_Diamond, C_Found, C_Doubt, C_Passing, C_Within, C_Looked, C_Job, C_Answer, C_Plan, C_Play, C_Wrong, C_Trial]) G_law_mixed 0 := (mo_of (k := 0) md0 (.inl rfl) trivial trivial trivial)
  have E_law_mixed : FnE0 P w K mg base (caF [C_Pentagon, C_Diamond, C_Found, C_Doubt, C_Passing, C_Within, C_Looked, C_Job, C_Answer, C_Plan, C_Play, C_Wrong, C_Trial]) nmX.fl 1 "_law_mixed" 2 W_law_mixed := fnE_of F_law_mixed sc_law_mixed M_law_mixed ck_law_mixed (PySem.W.mg_of X G a_law_mixed) B_law_mixed
  have E_law_take : FnE0 P w K mg base (caF [C_Pentagon, C_Diamond, C_Found, C_Doubt, C_Passing, C_Within, C_Looked, C_Job, C_Answer, C_Plan, C_Play, C_Wrong, C_Trial]) nmX.fl 2 "_law_take" 2 takeW := ⟨_, _, _, 2, Nat.le_refl _, rfl, ok_take F_law_take (E_law_mixed.up (by decide)) mix_ok y_len y_int, PySem.W.mg_of X G a_law_take, k_law_take, B_law_take⟩
  have M_law_fields : Mo P w K mg base nmX hcX (hvF []) (caF [C_Pentagon, C_Diamond, C_Found, C_Doubt, C_Passing, C_Within, C_Looked, C_Job, C_Answer, C_Plan, C_Play, C_Wrong, C_Trial]) G_law_fields 0 := (mo_of (k := 0) md0 (.inl rfl) trivial trivial trivial)
  have E_law_fields : FnE0 P w K mg base (caF [C_Pentagon, C_Diamond, C_Found, C_Doubt, C_Passing, C_Within, C_Looked, C_Job, C_Answer, C_Plan, C_Play, C_Wrong, C_Trial]) nmX.fl 1 "_law_fields" 2 W_law_fields := fnE_of F_law_fields sc_law_fields M_law_fields ck_law_fields (PySem.W.mg_of X G a_law_fields) B_law_fields
  have M_law_thing : Mo P w K mg base nmX hcX (hvF []) (caF [C_Pentagon, C_Diamond, C_Found, C_Doubt, C_Passing, C_Within, C_Looked, C_Job, C_Answer, C_Plan, C_Play, C_Wrong, C_Trial]) G_law_thing 2 := (mo_of (k := 2) md0 (.inl rfl) ⟨⟨_, rfl, E_law_take.up (by decide)⟩, trivial⟩ trivial trivial)
  have E_law_thing : FnE0 P w K mg base (caF [C_Pentagon, C_Diamond, C_Found, C_Doubt, C_Passing, C_Within, C_Looked, C_Job, C_Answer, C_Plan, C_Play, C_Wrong, C_Trial]) nmX.fl 3 "_law_thing" 1 W_law_thing := fnE_of F_law_thing sc_law_thing M_law_thing ck_law_thing (PySem.W.mg_of X G a_law_thing) B_law_thing
  have M_m_Found___eq__ : Mo P w K mg base nmX hcX (hvF []) (caF [C_Pentagon, C_Diamond, C_Found, C_Doubt, C_Passing, C_Within, C_Looked, C_Job, C_Answer, C_Plan, C_Play, C_Wrong, C_Trial]) G_m_Found___eq__ 0 := (mo_of (k := 0) md (.inl rfl) trivial trivial trivial)
  have M_m_Pentagon___eq__ : Mo P w K mg base nmX hcX (hvF []) (caF [C_Pentagon, C_Diamond, C_Found, C_Doubt, C_Passing, C_Within, C_Looked, C_Job, C_Answer, C_Plan, C_Play, C_Wrong, C_Trial]) G_m_Pentagon___eq__ 0 := (mo_of (k := 0) md (.inl rfl) trivial trivial trivial)
  have M_m_Diamond___eq__ : Mo P w K mg base nmX hcX (hvF []) (caF [C_Pentagon, C_Diamond, C_Found, C_Doubt, C_Passing, C_Within, C_Looked, C_Job, C_Answer, C_Plan, C_Play, C_Wrong, C_Trial]) G_m_Diamond___eq__ 0 := (mo_of (k := 0) md (.inl rfl) trivial trivial trivial)
  have M_m_Wrong___eq__ : Mo P w K mg base nmX hcX (hvF []) (caF [C_Pentagon, C_Diamond, C_Found, C_Doubt, C_Passing, C_Within, C_Looked, C_Job, C_Answer, C_Plan, C_Play, C_Wrong, C_Trial]) G_m_Wrong___eq__ 0 := (mo_of (k := 0) md (.inl rfl) trivial trivial trivial)
  have M_m_Within___eq__ : Mo P w K mg base nmX hcX (hvF []) (caF [C_Pentagon, C_Diamond, C_Found, C_Doubt, C_Passing, C_Within, C_Looked, C_Job, C_Answer, C_Plan, C_Play, C_Wrong, C_Trial]) G_m_Within___eq__ 0 := (mo_of (k := 0) md (.inl rfl) trivial trivial trivial)
  have M_m_Looked___eq__ : Mo P w K mg base nmX hcX (hvF []) (caF [C_Pentagon, C_Diamond, C_Found, C_Doubt, C_Passing, C_Within, C_Looked, C_Job, C_Answer, C_Plan, C_Play, C_Wrong, C_Trial]) G_m_Looked___eq__ 0 := (mo_of (k := 0) md (.inl rfl) trivial trivial trivial)
  have M_m_Answer___eq__ : Mo P w K mg base nmX hcX (hvF []) (caF [C_Pentagon, C_Diamond, C_Found, C_Doubt, C_Passing, C_Within, C_Looked, C_Job, C_Answer, C_Plan, C_Play, C_Wrong, C_Trial]) G_m_Answer___eq__ 0 := (mo_of (k := 0) md (.inl rfl) trivial trivial trivial)
  have M_m_Job___eq__ : Mo P w K mg base nmX hcX (hvF []) (caF [C_Pentagon, C_Diamond, C_Found, C_Doubt, C_Passing, C_Within, C_Looked, C_Job, C_Answer, C_Plan, C_Play, C_Wrong, C_Trial]) G_m_Job___eq__ 0 := (mo_of (k := 0) md (.inl rfl) trivial trivial trivial)
  have M_m_Trial___eq__ : Mo P w K mg base nmX hcX (hvF []) (caF [C_Pentagon, C_Diamond, C_Found, C_Doubt, C_Passing, C_Within, C_Looked, C_Job, C_Answer, C_Plan, C_Play, C_Wrong, C_Trial]) G_m_Trial___eq__ 0 := (mo_of (k := 0) md (.inl rfl) trivial trivial trivial)
  have M_m_Doubt___eq__ : Mo P w K mg base nmX hcX (hvF []) (caF [C_Pentagon, C_Diamond, C_Found, C_Doubt, C_Passing, C_Within, C_Looked, C_Job, C_Answer, C_Plan, C_Play, C_Wrong, C_Trial]) G_m_Doubt___eq__ 0 := (mo_of (k := 0) md (.inl rfl) trivial trivial trivial)
  have M_m_Passing___eq__ : Mo P w K mg base nmX hcX (hvF []) (caF [C_Pentagon, C_Diamond, C_Found, C_Doubt, C_Passing, C_Within, C_Looked, C_Job, C_Answer, C_Plan, C_Play, C_Wrong, C_Trial]) G_m_Passing___eq__ 0 := (mo_of (k := 0) md (.inl rfl) trivial trivial trivial)
  have M_m_Plan___eq__ : Mo P w K mg base nmX hcX (hvF []) (caF [C_Pentagon, C_Diamond, C_Found, C_Doubt, C_Passing, C_Within, C_Looked, C_Job, C_Answer, C_Plan, C_Play, C_Wrong, C_Trial]) G_m_Plan___eq__ 0 := (mo_of (k := 0) md (.inl rfl) trivial trivial trivial)
  have M_m_Play___eq__ : Mo P w K mg base nmX hcX (hvF []) (caF [C_Pentagon, C_Diamond, C_Found, C_Doubt, C_Passing, C_Within, C_Looked, C_Job, C_Answer, C_Plan, C_Play, C_Wrong, C_Trial]) G_m_Play___eq__ 0 := (mo_of (k := 0) md (.inl rfl) trivial trivial trivial)
  have Q_m_Found___eq___3 : MtE0 P w K mg base (caF [C_Pentagon, C_Diamond, C_Found, C_Doubt, C_Passing, C_Within, C_Looked, C_Job, C_Answer, C_Plan, C_Play, C_Wrong, C_Trial]) nmX.fl 3 "__eq__" 2 2 W_m_Found___eq__ := mtE_of F_m_Found___eq__ sc_m_Found___eq__ M_m_Found___eq__ ck_m_Found___eq__ B_m_Found___eq__ ⟨i_m_Found___eq__, g_m_Found___eq__, k_m_Found___eq__⟩ (fl_ne (by decide +kernel) (by decide +kernel)) (by decide)
  have Q_m_Pentagon___eq___3 : MtE0 P w K mg base (caF [C_Pentagon, C_Diamond, C_Found, C_Doubt, C_Passing, C_Within, C_Looked, C_Job, C_Answer, C_Plan, C_Play, C_Wrong, C_Trial]) nmX.fl 3 "__eq__" 0 2 W_m_Pentagon___eq__ := mtE_of F_m_Pentagon___eq__ sc_m_Pentagon___eq__ M_m_Pentagon___eq__ ck_m_Pentagon___eq__ B_m_Pentagon___eq__ ⟨i_m_Pentagon___eq__, g_m_Pentagon___eq__, k_m_Pentagon___eq__⟩ (fl_ne (by decide +kernel) (by decide +kernel)) (by decide)
  have Q_m_Diamond___eq___3 : MtE0 P w K mg base (caF [C_Pentagon, C_Diamond, C_Found, C_Doubt, C_Passing, C_Within, C_Looked, C_Job, C_Answer, C_Plan, C_Play, C_Wrong, C_Trial]) nmX.fl 3 "__eq__" 1 2 W_m_Diamond___eq__ := mtE_of F_m_Diamond___eq__ sc_m_Diamond___eq__ M_m_Diamond___eq__ ck_m_Diamond___eq__ B_m_Diamond___eq__ ⟨i_m_Diamond___eq__, g_m_Diamond___eq__, k_m_Diamond___eq__⟩ (fl_ne (by decide +kernel) (by decide +kernel)) (by decide)
  have Q_m_Wrong___eq___3 : MtE0 P w K mg base (caF [C_Pentagon, C_Diamond, C_Found, C_Doubt, C_Passing, C_Within, C_Looked, C_Job, C_Answer, C_Plan, C_Play, C_Wrong, C_Trial]) nmX.fl 3 "__eq__" 11 2 W_m_Wrong___eq__ := mtE_of F_m_Wrong___eq__ sc_m_Wrong___eq__ M_m_Wrong___eq__ ck_m_Wrong___eq__ B_m_Wrong___eq__ ⟨i_m_Wrong___eq__, g_m_Wrong___eq__, k_m_Wrong___eq__⟩ (fl_ne (by decide +kernel) (by decide +kernel)) (by decide)
  have Q_m_Within___eq___3 : MtE0 P w K mg base (caF [C_Pentagon, C_Diamond, C_Found, C_Doubt, C_Passing, C_Within, C_Looked, C_Job, C_Answer, C_Plan, C_Play, C_Wrong, C_Trial]) nmX.fl 3 "__eq__" 5 2 W_m_Within___eq__ := mtE_of F_m_Within___eq__ sc_m_Within___eq__ M_m_Within___eq__ ck_m_Within___eq__ B_m_Within___eq__ ⟨i_m_Within___eq__, g_m_Within___eq__, k_m_Within___eq__⟩ (fl_ne (by decide +kernel) (by decide +kernel)) (by decide)
  have Q_m_Looked___eq___3 : MtE0 P w K mg base (caF [C_Pentagon, C_Diamond, C_Found, C_Doubt, C_Passing, C_Within, C_Looked, C_Job, C_Answer, C_Plan, C_Play, C_Wrong, C_Trial]) nmX.fl 3 "__eq__" 6 2 W_m_Looked___eq__ := mtE_of F_m_Looked___eq__ sc_m_Looked___eq__ M_m_Looked___eq__ ck_m_Looked___eq__ B_m_Looked___eq__ ⟨i_m_Looked___eq__, g_m_Looked___eq__, k_m_Looked___eq__⟩ (fl_ne (by decide +kernel) (by decide +kernel)) (by decide)
  have Q_m_Answer___eq___3 : MtE0 P w K mg base (caF [C_Pentagon, C_Diamond, C_Found, C_Doubt, C_Passing, C_Within, C_Looked, C_Job, C_Answer, C_Plan, C_Play, C_Wrong, C_Trial]) nmX.fl 3 "__eq__" 8 2 W_m_Answer___eq__ := mtE_of F_m_Answer___eq__ sc_m_Answer___eq__ M_m_Answer___eq__ ck_m_Answer___eq__ B_m_Answer___eq__ ⟨i_m_Answer___eq__, g_m_Answer___eq__, k_m_Answer___eq__⟩ (fl_ne (by decide +kernel) (by decide +kernel)) (by decide)
  have Q_m_Job___eq___3 : MtE0 P w K mg base (caF [C_Pentagon, C_Diamond, C_Found, C_Doubt, C_Passing, C_Within, C_Looked, C_Job, C_Answer, C_Plan, C_Play, C_Wrong, C_Trial]) nmX.fl 3 "__eq__" 7 2 W_m_Job___eq__ := mtE_of F_m_Job___eq__ sc_m_Job___eq__ M_m_Job___eq__ ck_m_Job___eq__ B_m_Job___eq__ ⟨i_m_Job___eq__, g_m_Job___eq__, k_m_Job___eq__⟩ (fl_ne (by decide +kernel) (by decide +kernel)) (by decide)
  have Q_m_Trial___eq___3 : MtE0 P w K mg base (caF [C_Pentagon, C_Diamond, C_Found, C_Doubt, C_Passing, C_Within, C_Looked, C_Job, C_Answer, C_Plan, C_Play, C_Wrong, C_Trial]) nmX.fl 3 "__eq__" 12 2 W_m_Trial___eq__ := mtE_of F_m_Trial___eq__ sc_m_Trial___eq__ M_m_Trial___eq__ ck_m_Trial___eq__ B_m_Trial___eq__ ⟨i_m_Trial___eq__, g_m_Trial___eq__, k_m_Trial___eq__⟩ (fl_ne (by decide +kernel) (by decide +kernel)) (by decide)
  have Q_m_Doubt___eq___3 : MtE0 P w K mg base (caF [C_Pentagon, C_Diamond, C_Found, C_Doubt, C_Passing, C_Within, C_Looked, C_Job, C_Answer, C_Plan, C_Play, C_Wrong, C_Trial]) nmX.fl 3 "__eq__" 3 2 W_m_Doubt___eq__ := mtE_of F_m_Doubt___eq__ sc_m_Doubt___eq__ M_m_Doubt___eq__ ck_m_Doubt___eq__ B_m_Doubt___eq__ ⟨i_m_Doubt___eq__, g_m_Doubt___eq__, k_m_Doubt___eq__⟩ (fl_ne (by decide +kernel) (by decide +kernel)) (by decide)
  have Q_m_Passing___eq___3 : MtE0 P w K mg base (caF [C_Pentagon, C_Diamond, C_Found, C_Doubt, C_Passing, C_Within, C_Looked, C_Job, C_Answer, C_Plan, C_Play, C_Wrong, C_Trial]) nmX.fl 3 "__eq__" 4 2 W_m_Passing___eq__ := mtE_of F_m_Passing___eq__ sc_m_Passing___eq__ M_m_Passing___eq__ ck_m_Passing___eq__ B_m_Passing___eq__ ⟨i_m_Passing___eq__, g_m_Passing___eq__, k_m_Passing___eq__⟩ (fl_ne (by decide +kernel) (by decide +kernel)) (by decide)
  have Q_m_Plan___eq___3 : MtE0 P w K mg base (caF [C_Pentagon, C_Diamond, C_Found, C_Doubt, C_Passing, C_Within, C_Looked, C_Job, C_Answer, C_Plan, C_Play, C_Wrong, C_Trial]) nmX.fl 3 "__eq__" 9 2 W_m_Plan___eq__ := mtE_of F_m_Plan___eq__ sc_m_Plan___eq__ M_m_Plan___eq__ ck_m_Plan___eq__ B_m_Plan___eq__ ⟨i_m_Plan___eq__, g_m_Plan___eq__, k_m_Plan___eq__⟩ (fl_ne (by decide +kernel) (by decide +kernel)) (by decide)
  have Q_m_Play___eq___3 : MtE0 P w K mg base (caF [C_Pentagon, C_Diamond, C_Found, C_Doubt, C_Passing, C_Within, C_Looked, C_Job, C_Answer, C_Plan, C_Play, C_Wrong, C_Trial]) nmX.fl 3 "__eq__" 10 2 W_m_Play___eq__ := mtE_of F_m_Play___eq__ sc_m_Play___eq__ M_m_Play___eq__ ck_m_Play___eq__ B_m_Play___eq__ ⟨i_m_Play___eq__, g_m_Play___eq__, k_m_Play___eq__⟩ (fl_ne (by decide +kernel) (by decide +kernel)) (by decide)
  have M_law : Mo P w K mg base nmX hcX (hvF []) (caF [C_Pentagon, C_Diamond, C_Found, C_Doubt, C_Passing, C_Within, C_Looked, C_Job, C_Answer, C_Plan, C_Play, C_Wrong, C_Trial]) G_law 3 := (mo_of (k := 3) md (.inl rfl) ⟨⟨_, rfl, E_law_made.up (by decide)⟩, ⟨_, rfl, E_law_many.up (by decide)⟩, ⟨_, rfl, E_law_take.up (by decide)⟩, ⟨_, rfl, E_law_fields.up (by decide)⟩, ⟨_, rfl, E_law_thing.up (by decide)⟩, trivial⟩ trivial ⟨⟨_, rfl, Q_m_Found___eq___3⟩, ⟨_, rfl, Q_m_Pentagon___eq___3⟩, ⟨_, rfl, Q_m_Diamond___eq___3⟩, ⟨_, rfl, Q_m_Wrong___eq___3⟩, ⟨_, rfl, Q_m_Within___eq___3⟩, ⟨_, rfl, Q_m_Looked___eq___3⟩, ⟨_, rfl, Q_m_Answer___eq___3⟩, ⟨_, rfl, Q_m_Job___eq___3⟩, ⟨_, rfl, Q_m_Trial___eq___3⟩, ⟨_, rfl, Q_m_Doubt___eq___3⟩, ⟨_, rfl, Q_m_Passing___eq___3⟩, ⟨_, rfl, Q_m_Plan___eq___3⟩, ⟨_, rfl, Q_m_Play___eq___3⟩, trivial⟩)
  have hb_law : defBody (top 32) = headS (defBody (top 32)) :: (defBody (top 32)).drop 1 := rfl
  have E_law_hand := ok_hand (P := P) (w := w) (base := base) F_law_hand y_len y_int y_abs
  have hN_law : N_law.length ≠ 0 := by decide
  exact law_fn F_law sc_law rfl hN_law M_law hb_law first_law ck_law E_law_hand (by decide) (PySem.W.mg_of X G a_law_hand) k_law_hand B_law_hand plain
end Lw
namespace Lw
open PySem PySem.Spec PyProof.Rows L2 DV
end Lw
open PySem PySem.W PyProof.Rows
set_option maxRecDepth 100000 in
set_option maxHeartbeats 0 in
theorem PySem.Challenge.cw_cutworths_k99_results_are_equal_by_class_holds : PySem.Challenge.rw_cutworths_k99_results_are_equal_by_class.Holds := by
  w_on; o_law; k_head; (case hw => w_witness2)
  k_fill
  refine DV.walk (l := PySem.Challenge.rw_cutworths_k99_results_are_equal_by_class) (k := 4) (x := "_law_script") rfl rfl ⟨rfl, by decide, by decide⟩ (fun w h Y => PySem.W.kIn_of Y) ?F
  case F =>
    intro w mg fa h KX G hmg
    refine' Lw.all_mk KX G hmg ?a_law_hand ?l_law_hand ?c_law_hand ?k_law_hand ?a_law_made ?l_law_made ?c_law_made ?k_law_made ?a_law_many ?l_law_many ?c_law_many ?k_law_many ?a_law_mixed ?l_law_mixed ?c_law_mixed ?k_law_mixed ?a_law_take ?l_law_take ?c_law_take ?k_law_take ?a_law_fields ?l_law_fields ?c_law_fields ?k_law_fields ?a_law_thing ?l_law_thing ?c_law_thing ?k_law_thing ?a_law ?l_law ?c_law ?k_law ?a_Pentagon ?a_Diamond ?a_Found ?a_Doubt ?a_Passing ?a_Within ?a_Looked ?a_Job ?a_Answer ?a_Plan ?a_Play ?a_Wrong ?a_Trial ?pg_Pentagon ?hd_Pentagon ?po_Pentagon ?sa_Pentagon ?mk_Pentagon ?kc_Pentagon ?n_Pentagon_4 ?n_Pentagon_3 ?n_Pentagon_2 ?n_Pentagon_1 ?n_Pentagon_0 ?i_init_Pentagon ?g_init_Pentagon ?l_init_Pentagon ?c_init_Pentagon ?k_init_Pentagon ?i_m_Pentagon___eq__ ?g_m_Pentagon___eq__ ?l_m_Pentagon___eq__ ?c_m_Pentagon___eq__ ?k_m_Pentagon___eq__ ?pg_Diamond ?hd_Diamond ?po_Diamond ?sa_Diamond ?mk_Diamond ?kc_Diamond ?n_Diamond_4 ?n_Diamond_7 ?n_Diamond_6 ?n_Diamond_5 ?n_Diamond_0 ?i_init_Diamond ?g_init_Diamond ?l_init_Diamond ?c_init_Diamond ?k_init_Diamond ?i_m_Diamond___eq__ ?g_m_Diamond___eq__ ?l_m_Diamond___eq__ ?c_m_Diamond___eq__ ?k_m_Diamond___eq__ ?pg_Found ?hd_Found ?po_Found ?sa_Found ?mk_Found ?kc_Found ?n_Found_10 ?n_Found_9 ?n_Found_8 ?i_init_Found ?g_init_Found ?l_init_Found ?c_init_Found ?k_init_Found ?i_m_Found___eq__ ?g_m_Found___eq__ ?l_m_Found___eq__ ?c_m_Found___eq__ ?k_m_Found___eq__ ?pg_Doubt ?hd_Doubt ?po_Doubt ?sa_Doubt ?mk_Doubt ?kc_Doubt ?n_Doubt_4 ?n_Doubt_0 ?n_Doubt_12 ?n_Doubt_11 ?i_init_Doubt ?g_init_Doubt ?l_init_Doubt ?c_init_Doubt ?k_init_Doubt ?i_m_Doubt___eq__ ?g_m_Doubt___eq__ ?l_m_Doubt___eq__ ?c_m_Doubt___eq__ ?k_m_Doubt___eq__ ?pg_Passing ?hd_Passing ?po_Passing ?sa_Passing ?mk_Passing ?kc_Passing ?n_Passing_14 ?n_Passing_13 ?i_init_Passing ?g_init_Passing ?l_init_Passing ?c_init_Passing ?k_init_Passing ?i_m_Passing___eq__ ?g_m_Passing___eq__ ?l_m_Passing___eq__ ?c_m_Passing___eq__ ?k_m_Passing___eq__ ?pg_Within ?hd_Within ?po_Within ?sa_Within ?mk_Within ?kc_Within ?n_Within_9 ?n_Within_15 ?i_init_Within ?g_init_Within ?l_init_Within ?c_init_Within ?k_init_Within ?i_m_Within___eq__ ?g_m_Within___eq__ ?l_m_Within___eq__ ?c_m_Within___eq__ ?k_m_Within___eq__ ?pg_Looked ?hd_Looked ?po_Looked ?sa_Looked ?mk_Looked ?kc_Looked ?n_Looked_10 ?n_Looked_9 ?n_Looked_16 ?i_init_Looked ?g_init_Looked ?l_init_Looked ?c_init_Looked ?k_init_Looked ?i_m_Looked___eq__ ?g_m_Looked___eq__ ?l_m_Looked___eq__ ?c_m_Looked___eq__ ?k_m_Looked___eq__ ?pg_Job ?hd_Job ?po_Job ?sa_Job ?mk_Job ?kc_Job ?n_Job_19 ?n_Job_18 ?n_Job_17 ?n_Job_13 ?i_init_Job ?g_init_Job ?l_init_Job ?c_init_Job ?k_init_Job ?i_m_Job___eq__ ?g_m_Job___eq__ ?l_m_Job___eq__ ?c_m_Job___eq__ ?k_m_Job___eq__ ?pg_Answer ?hd_Answer ?po_Answer ?sa_Answer ?mk_Answer ?kc_Answer ?n_Answer_21 ?n_Answer_20 ?n_Answer_9 ?i_init_Answer ?g_init_Answer ?l_init_Answer ?c_init_Answer ?k_init_Answer ?i_m_Answer___eq__ ?g_m_Answer___eq__ ?l_m_Answer___eq__ ?c_m_Answer___eq__ ?k_m_Answer___eq__ ?pg_Plan ?hd_Plan ?po_Plan ?sa_Plan ?mk_Plan ?kc_Plan ?n_Plan_23 ?n_Plan_22 ?i_init_Plan ?g_init_Plan ?l_init_Plan ?c_init_Plan ?k_init_Plan ?i_m_Plan___eq__ ?g_m_Plan___eq__ ?l_m_Plan___eq__ ?c_m_Plan___eq__ ?k_m_Plan___eq__ ?pg_Play ?hd_Play ?po_Play ?sa_Play ?mk_Play ?kc_Play ?n_Play_17 ?n_Play_24 ?n_Play_10 ?i_init_Play ?g_init_Play ?l_init_Play ?c_init_Play ?k_init_Play ?i_m_Play___eq__ ?g_m_Play___eq__ ?l_m_Play___eq__ ?c_m_Play___eq__ ?k_m_Play___eq__ ?pg_Wrong ?hd_Wrong ?po_Wrong ?sa_Wrong ?mk_Wrong ?kc_Wrong ?n_Wrong_25 ?n_Wrong_10 ?n_Wrong_8 ?i_init_Wrong ?g_init_Wrong ?l_init_Wrong ?c_init_Wrong ?k_init_Wrong ?i_m_Wrong___eq__ ?g_m_Wrong___eq__ ?l_m_Wrong___eq__ ?c_m_Wrong___eq__ ?k_m_Wrong___eq__ ?pg_Trial ?hd_Trial ?po_Trial ?sa_Trial ?mk_Trial ?kc_Trial ?n_Trial_27 ?n_Trial_26 ?i_init_Trial ?g_init_Trial ?l_init_Trial ?c_init_Trial ?k_init_Trial ?i_m_Trial___eq__ ?g_m_Trial___eq__ ?l_m_Trial___eq__ ?c_m_Trial___eq__ ?k_m_Trial___eq__ ?ic_n ?ic_t ?ic_a_Found ?ic_m_Found ?ic_Found_Found ?ic_Found_Pentagon ?ic_Found_Diamond ?ic_Found_Wrong ?ic_Found_Within ?ic_Found_Looked ?ic_Found_Answer ?ic_Found_Job ?ic_Found_Trial ?ic_Found_Doubt ?ic_Found_Passing ?ic_Found_Plan ?ic_Found_Play ?it_Found_NoneType ?it_Found_bool ?it_Found_int ?it_Found_str ?it_Found_tuple ?it_Found_list ?ic_a_Pentagon ?ic_m_Pentagon ?ic_Pentagon_Found ?ic_Pentagon_Pentagon ?ic_Pentagon_Diamond ?ic_Pentagon_Wrong ?ic_Pentagon_Within ?ic_Pentagon_Looked ?ic_Pentagon_Answer ?ic_Pentagon_Job ?ic_Pentagon_Trial ?ic_Pentagon_Doubt ?ic_Pentagon_Passing ?ic_Pentagon_Plan ?ic_Pentagon_Play ?it_Pentagon_NoneType ?it_Pentagon_bool ?it_Pentagon_int ?it_Pentagon_str ?it_Pentagon_tuple ?it_Pentagon_list ?ic_a_Diamond ?ic_m_Diamond ?ic_Diamond_Found ?ic_Diamond_Pentagon ?ic_Diamond_Diamond ?ic_Diamond_Wrong ?ic_Diamond_Within ?ic_Diamond_Looked ?ic_Diamond_Answer ?ic_Diamond_Job ?ic_Diamond_Trial ?ic_Diamond_Doubt ?ic_Diamond_Passing ?ic_Diamond_Plan ?ic_Diamond_Play ?it_Diamond_NoneType ?it_Diamond_bool ?it_Diamond_int ?it_Diamond_str ?it_Diamond_tuple ?it_Diamond_list ?ic_a_Wrong ?ic_m_Wrong ?ic_Wrong_Found ?ic_Wrong_Pentagon ?ic_Wrong_Diamond ?ic_Wrong_Wrong ?ic_Wrong_Within ?ic_Wrong_Looked ?ic_Wrong_Answer ?ic_Wrong_Job ?ic_Wrong_Trial ?ic_Wrong_Doubt ?ic_Wrong_Passing ?ic_Wrong_Plan ?ic_Wrong_Play ?it_Wrong_NoneType ?it_Wrong_bool ?it_Wrong_int ?it_Wrong_str ?it_Wrong_tuple ?it_Wrong_list ?ic_a_Within ?ic_m_Within ?ic_Within_Found ?ic_Within_Pentagon ?ic_Within_Diamond ?ic_Within_Wrong ?ic_Within_Within ?ic_Within_Looked ?ic_Within_Answer ?ic_Within_Job ?ic_Within_Trial ?ic_Within_Doubt ?ic_Within_Passing ?ic_Within_Plan ?ic_Within_Play ?it_Within_NoneType ?it_Within_bool ?it_Within_int ?it_Within_str ?it_Within_tuple ?it_Within_list ?ic_a_Looked ?ic_m_Looked ?ic_Looked_Found ?ic_Looked_Pentagon ?ic_Looked_Diamond ?ic_Looked_Wrong ?ic_Looked_Within ?ic_Looked_Looked ?ic_Looked_Answer ?ic_Looked_Job ?ic_Looked_Trial ?ic_Looked_Doubt ?ic_Looked_Passing ?ic_Looked_Plan ?ic_Looked_Play ?it_Looked_NoneType ?it_Looked_bool ?it_Looked_int ?it_Looked_str ?it_Looked_tuple ?it_Looked_list ?ic_a_Answer ?ic_m_Answer ?ic_Answer_Found ?ic_Answer_Pentagon ?ic_Answer_Diamond ?ic_Answer_Wrong ?ic_Answer_Within ?ic_Answer_Looked ?ic_Answer_Answer ?ic_Answer_Job ?ic_Answer_Trial ?ic_Answer_Doubt ?ic_Answer_Passing ?ic_Answer_Plan ?ic_Answer_Play ?it_Answer_NoneType ?it_Answer_bool ?it_Answer_int ?it_Answer_str ?it_Answer_tuple ?it_Answer_list ?ic_a_Job ?ic_m_Job ?ic_Job_Found ?ic_Job_Pentagon ?ic_Job_Diamond ?ic_Job_Wrong ?ic_Job_Within ?ic_Job_Looked ?ic_Job_Answer ?ic_Job_Job ?ic_Job_Trial ?ic_Job_Doubt ?ic_Job_Passing ?ic_Job_Plan ?ic_Job_Play ?it_Job_NoneType ?it_Job_bool ?it_Job_int ?it_Job_str ?it_Job_tuple ?it_Job_list ?ic_a_Trial ?ic_m_Trial ?ic_Trial_Found ?ic_Trial_Pentagon ?ic_Trial_Diamond ?ic_Trial_Wrong ?ic_Trial_Within ?ic_Trial_Looked ?ic_Trial_Answer ?ic_Trial_Job ?ic_Trial_Trial ?ic_Trial_Doubt ?ic_Trial_Passing ?ic_Trial_Plan ?ic_Trial_Play ?it_Trial_NoneType ?it_Trial_bool ?it_Trial_int ?it_Trial_str ?it_Trial_tuple ?it_Trial_list ?ic_a_Doubt ?ic_m_Doubt ?ic_Doubt_Found ?ic_Doubt_Pentagon ?ic_Doubt_Diamond ?ic_Doubt_Wrong ?ic_Doubt_Within ?ic_Doubt_Looked ?ic_Doubt_Answer ?ic_Doubt_Job ?ic_Doubt_Trial ?ic_Doubt_Doubt ?ic_Doubt_Passing ?ic_Doubt_Plan ?ic_Doubt_Play ?it_Doubt_NoneType ?it_Doubt_bool ?it_Doubt_int ?it_Doubt_str ?it_Doubt_tuple ?it_Doubt_list ?ic_a_Passing ?ic_m_Passing ?ic_Passing_Found ?ic_Passing_Pentagon ?ic_Passing_Diamond ?ic_Passing_Wrong ?ic_Passing_Within ?ic_Passing_Looked ?ic_Passing_Answer ?ic_Passing_Job ?ic_Passing_Trial ?ic_Passing_Doubt ?ic_Passing_Passing ?ic_Passing_Plan ?ic_Passing_Play ?it_Passing_NoneType ?it_Passing_bool ?it_Passing_int ?it_Passing_str ?it_Passing_tuple ?it_Passing_list ?ic_a_Plan ?ic_m_Plan ?ic_Plan_Found ?ic_Plan_Pentagon ?ic_Plan_Diamond ?ic_Plan_Wrong ?ic_Plan_Within ?ic_Plan_Looked ?ic_Plan_Answer ?ic_Plan_Job ?ic_Plan_Trial ?ic_Plan_Doubt ?ic_Plan_Passing ?ic_Plan_Plan ?ic_Plan_Play ?it_Plan_NoneType ?it_Plan_bool ?it_Plan_int ?it_Plan_str ?it_Plan_tuple ?it_Plan_list ?ic_a_Play ?ic_m_Play ?ic_Play_Found ?ic_Play_Pentagon ?ic_Play_Diamond ?ic_Play_Wrong ?ic_Play_Within ?ic_Play_Looked ?ic_Play_Answer ?ic_Play_Job ?ic_Play_Trial ?ic_Play_Doubt ?ic_Play_Passing ?ic_Play_Plan ?ic_Play_Play ?it_Play_NoneType ?it_Play_bool ?it_Play_int ?it_Play_str ?it_Play_tuple ?it_Play_list ?z_len ?z_int ?z_bool ?z_list ?z_tuple ?z_abs ?z_max ?z_min ?z_sum ?z_sorted ?z_any ?z_all ?z_range ?z_repr ?z_str ?z_isinstance ?z_enumerate ?z_zip ?z_reversed
    (case a_law_hand => k_is)
    (case l_law_hand => k_is)
    (case c_law_hand => k_is)
    (case k_law_hand => k_is)
    (case a_law_made => k_is)
    (case l_law_made => k_is)
    (case c_law_made => k_is)
    (case k_law_made => k_is)
    (case a_law_many => k_is)
    (case l_law_many => k_is)
    (case c_law_many => k_is)
    (case k_law_many => k_is)
    (case a_law_mixed => k_is)
    (case l_law_mixed => k_is)
    (case c_law_mixed => k_is)
    (case k_law_mixed => k_is)
    (case a_law_take => k_is)
    (case l_law_take => k_is)
    (case c_law_take => k_is)
    (case k_law_take => k_is)
    (case a_law_fields => k_is)
    (case l_law_fields => k_is)
    (case c_law_fields => k_is)
    (case k_law_fields => k_is)
    (case a_law_thing => k_is)
    (case l_law_thing => k_is)
    (case c_law_thing => k_is)
    (case k_law_thing => k_is)
    (case a_law => k_is)
    (case l_law => k_is)
    (case c_law => k_is)
    (case k_law => k_is)
    (case a_Pentagon => k_is)
    (case a_Diamond => k_is)
    (case a_Found => k_is)
    (case a_Doubt => k_is)
    (case a_Passing => k_is)
    (case a_Within => k_is)
    (case a_Looked => k_is)
    (case a_Job => k_is)
    (case a_Answer => k_is)
    (case a_Plan => k_is)
    (case a_Play => k_is)
    (case a_Wrong => k_is)
    (case a_Trial => k_is)
    (case pg_Pentagon => k_is)
    (case hd_Pentagon => k_is)
    (case po_Pentagon => k_is)
    (case sa_Pentagon => k_is)
    (case mk_Pentagon => k_is)
    (case kc_Pentagon => k_is)
    (case n_Pentagon_4 => k_is)
    (case n_Pentagon_3 => k_is)
    (case n_Pentagon_2 => k_is)
    (case n_Pentagon_1 => k_is)
    (case n_Pentagon_0 => k_is)
    (case i_init_Pentagon => k_is)
    (case g_init_Pentagon => k_is)
    (case l_init_Pentagon => k_is)
    (case c_init_Pentagon => k_is)
    (case k_init_Pentagon => k_is)
    (case i_m_Pentagon___eq__ => k_is)
    (case g_m_Pentagon___eq__ => k_is)
    (case l_m_Pentagon___eq__ => k_is)
    (case c_m_Pentagon___eq__ => k_is)
    (case k_m_Pentagon___eq__ => k_is)
    (case pg_Diamond => k_is)
    (case hd_Diamond => k_is)
    (case po_Diamond => k_is)
    (case sa_Diamond => k_is)
    (case mk_Diamond => k_is)
    (case kc_Diamond => k_is)
    (case n_Diamond_4 => k_is)
    (case n_Diamond_7 => k_is)
    (case n_Diamond_6 => k_is)
    (case n_Diamond_5 => k_is)
    (case n_Diamond_0 => k_is)
    (case i_init_Diamond => k_is)
    (case g_init_Diamond => k_is)
    (case l_init_Diamond => k_is)
    (case c_init_Diamond => k_is)
    (case k_init_Diamond => k_is)
    (case i_m_Diamond___eq__ => k_is)
    (case g_m_Diamond___eq__ => k_is)
    (case l_m_Diamond___eq__ => k_is)
    (case c_m_Diamond___eq__ => k_is)
    (case k_m_Diamond___eq__ => k_is)
    (case pg_Found => k_is)
    (case hd_Found => k_is)
    (case po_Found => k_is)
    (case sa_Found => k_is)
    (case mk_Found => k_is)
    (case kc_Found => k_is)
    (case n_Found_10 => k_is)
    (case n_Found_9 => k_is)
    (case n_Found_8 => k_is)
    (case i_init_Found => k_is)
    (case g_init_Found => k_is)
    (case l_init_Found => k_is)
    (case c_init_Found => k_is)
    (case k_init_Found => k_is)
    (case i_m_Found___eq__ => k_is)
    (case g_m_Found___eq__ => k_is)
    (case l_m_Found___eq__ => k_is)
    (case c_m_Found___eq__ => k_is)
    (case k_m_Found___eq__ => k_is)
    (case pg_Doubt => k_is)
    (case hd_Doubt => k_is)
    (case po_Doubt => k_is)
    (case sa_Doubt => k_is)
    (case mk_Doubt => k_is)
    (case kc_Doubt => k_is)
    (case n_Doubt_4 => k_is)
    (case n_Doubt_0 => k_is)
    (case n_Doubt_12 => k_is)
    (case n_Doubt_11 => k_is)
    (case i_init_Doubt => k_is)
    (case g_init_Doubt => k_is)
    (case l_init_Doubt => k_is)
    (case c_init_Doubt => k_is)
    (case k_init_Doubt => k_is)
    (case i_m_Doubt___eq__ => k_is)
    (case g_m_Doubt___eq__ => k_is)
    (case l_m_Doubt___eq__ => k_is)
    (case c_m_Doubt___eq__ => k_is)
    (case k_m_Doubt___eq__ => k_is)
    (case pg_Passing => k_is)
    (case hd_Passing => k_is)
    (case po_Passing => k_is)
    (case sa_Passing => k_is)
    (case mk_Passing => k_is)
    (case kc_Passing => k_is)
    (case n_Passing_14 => k_is)
    (case n_Passing_13 => k_is)
    (case i_init_Passing => k_is)
    (case g_init_Passing => k_is)
    (case l_init_Passing => k_is)
    (case c_init_Passing => k_is)
    (case k_init_Passing => k_is)
    (case i_m_Passing___eq__ => k_is)
    (case g_m_Passing___eq__ => k_is)
    (case l_m_Passing___eq__ => k_is)
    (case c_m_Passing___eq__ => k_is)
    (case k_m_Passing___eq__ => k_is)
    (case pg_Within => k_is)
    (case hd_Within => k_is)
    (case po_Within => k_is)
    (case sa_Within => k_is)
    (case mk_Within => k_is)
    (case kc_Within => k_is)
    (case n_Within_9 => k_is)
    (case n_Within_15 => k_is)
    (case i_init_Within => k_is)
    (case g_init_Within => k_is)
    (case l_init_Within => k_is)
    (case c_init_Within => k_is)
    (case k_init_Within => k_is)
    (case i_m_Within___eq__ => k_is)
    (case g_m_Within___eq__ => k_is)
    (case l_m_Within___eq__ => k_is)
    (case c_m_Within___eq__ => k_is)
    (case k_m_Within___eq__ => k_is)
    (case pg_Looked => k_is)
    (case hd_Looked => k_is)
    (case po_Looked => k_is)
    (case sa_Looked => k_is)
    (case mk_Looked => k_is)
    (case kc_Looked => k_is)
    (case n_Looked_10 => k_is)
    (case n_Looked_9 => k_is)
    (case n_Looked_16 => k_is)
    (case i_init_Looked => k_is)
    (case g_init_Looked => k_is)
    (case l_init_Looked => k_is)
    (case c_init_Looked => k_is)
    (case k_init_Looked => k_is)
    (case i_m_Looked___eq__ => k_is)
    (case g_m_Looked___eq__ => k_is)
    (case l_m_Looked___eq__ => k_is)
    (case c_m_Looked___eq__ => k_is)
    (case k_m_Looked___eq__ => k_is)
    (case pg_Job => k_is)
    (case hd_Job => k_is)
    (case po_Job => k_is)
    (case sa_Job => k_is)
    (case mk_Job => k_is)
    (case kc_Job => k_is)
    (case n_Job_19 => k_is)
    (case n_Job_18 => k_is)
    (case n_Job_17 => k_is)
    (case n_Job_13 => k_is)
    (case i_init_Job => k_is)
    (case g_init_Job => k_is)
    (case l_init_Job => k_is)
    (case c_init_Job => k_is)
    (case k_init_Job => k_is)
    (case i_m_Job___eq__ => k_is)
    (case g_m_Job___eq__ => k_is)
    (case l_m_Job___eq__ => k_is)
    (case c_m_Job___eq__ => k_is)
    (case k_m_Job___eq__ => k_is)
    (case pg_Answer => k_is)
    (case hd_Answer => k_is)
    (case po_Answer => k_is)
    (case sa_Answer => k_is)
    (case mk_Answer => k_is)
    (case kc_Answer => k_is)
    (case n_Answer_21 => k_is)
    (case n_Answer_20 => k_is)
    (case n_Answer_9 => k_is)
    (case i_init_Answer => k_is)
    (case g_init_Answer => k_is)
    (case l_init_Answer => k_is)
    (case c_init_Answer => k_is)
    (case k_init_Answer => k_is)
    (case i_m_Answer___eq__ => k_is)
    (case g_m_Answer___eq__ => k_is)
    (case l_m_Answer___eq__ => k_is)
    (case c_m_Answer___eq__ => k_is)
    (case k_m_Answer___eq__ => k_is)
    (case pg_Plan => k_is)
    (case hd_Plan => k_is)
    (case po_Plan => k_is)
    (case sa_Plan => k_is)
    (case mk_Plan => k_is)
    (case kc_Plan => k_is)
    (case n_Plan_23 => k_is)
    (case n_Plan_22 => k_is)
    (case i_init_Plan => k_is)
    (case g_init_Plan => k_is)
    (case l_init_Plan => k_is)
    (case c_init_Plan => k_is)
    (case k_init_Plan => k_is)
    (case i_m_Plan___eq__ => k_is)
    (case g_m_Plan___eq__ => k_is)
    (case l_m_Plan___eq__ => k_is)
    (case c_m_Plan___eq__ => k_is)
    (case k_m_Plan___eq__ => k_is)
    (case pg_Play => k_is)
    (case hd_Play => k_is)
    (case po_Play => k_is)
    (case sa_Play => k_is)
    (case mk_Play => k_is)
    (case kc_Play => k_is)
    (case n_Play_17 => k_is)
    (case n_Play_24 => k_is)
    (case n_Play_10 => k_is)
    (case i_init_Play => k_is)
    (case g_init_Play => k_is)
    (case l_init_Play => k_is)
    (case c_init_Play => k_is)
    (case k_init_Play => k_is)
    (case i_m_Play___eq__ => k_is)
    (case g_m_Play___eq__ => k_is)
    (case l_m_Play___eq__ => k_is)
    (case c_m_Play___eq__ => k_is)
    (case k_m_Play___eq__ => k_is)
    (case pg_Wrong => k_is)
    (case hd_Wrong => k_is)
    (case po_Wrong => k_is)
    (case sa_Wrong => k_is)
    (case mk_Wrong => k_is)
    (case kc_Wrong => k_is)
    (case n_Wrong_25 => k_is)
    (case n_Wrong_10 => k_is)
    (case n_Wrong_8 => k_is)
    (case i_init_Wrong => k_is)
    (case g_init_Wrong => k_is)
    (case l_init_Wrong => k_is)
    (case c_init_Wrong => k_is)
    (case k_init_Wrong => k_is)
    (case i_m_Wrong___eq__ => k_is)
    (case g_m_Wrong___eq__ => k_is)
    (case l_m_Wrong___eq__ => k_is)
    (case c_m_Wrong___eq__ => k_is)
    (case k_m_Wrong___eq__ => k_is)
    (case pg_Trial => k_is)
    (case hd_Trial => k_is)
    (case po_Trial => k_is)
    (case sa_Trial => k_is)
    (case mk_Trial => k_is)
    (case kc_Trial => k_is)
    (case n_Trial_27 => k_is)
    (case n_Trial_26 => k_is)
    (case i_init_Trial => k_is)
    (case g_init_Trial => k_is)
    (case l_init_Trial => k_is)
    (case c_init_Trial => k_is)
    (case k_init_Trial => k_is)
    (case i_m_Trial___eq__ => k_is)
    (case g_m_Trial___eq__ => k_is)
    (case l_m_Trial___eq__ => k_is)
    (case c_m_Trial___eq__ => k_is)
    (case k_m_Trial___eq__ => k_is)
    (case ic_n => first | rfl | k_is)
    (case ic_t => first | rfl | k_is)
    (case ic_a_Found => first | rfl | k_is)
    (case ic_m_Found => first | rfl | k_is)
    (case ic_Found_Found => first | rfl | k_is)
    (case ic_Found_Pentagon => first | rfl | k_is)
    (case ic_Found_Diamond => first | rfl | k_is)
    (case ic_Found_Wrong => first | rfl | k_is)
    (case ic_Found_Within => first | rfl | k_is)
    (case ic_Found_Looked => first | rfl | k_is)
    (case ic_Found_Answer => first | rfl | k_is)
    (case ic_Found_Job => first | rfl | k_is)
    (case ic_Found_Trial => first | rfl | k_is)
    (case ic_Found_Doubt => first | rfl | k_is)
    (case ic_Found_Passing => first | rfl | k_is)
    (case ic_Found_Plan => first | rfl | k_is)
    (case ic_Found_Play => first | rfl | k_is)
    (case it_Found_NoneType => first | rfl | k_is)
    (case it_Found_bool => first | rfl | k_is)
    (case it_Found_int => first | rfl | k_is)
    (case it_Found_str => first | rfl | k_is)
    (case it_Found_tuple => first | rfl | k_is)
    (case it_Found_list => first | rfl | k_is)
    (case ic_a_Pentagon => first | rfl | k_is)
    (case ic_m_Pentagon => first | rfl | k_is)
    (case ic_Pentagon_Found => first | rfl | k_is)
    (case ic_Pentagon_Pentagon => first | rfl | k_is)
    (case ic_Pentagon_Diamond => first | rfl | k_is)
    (case ic_Pentagon_Wrong => first | rfl | k_is)
    (case ic_Pentagon_Within => first | rfl | k_is)
    (case ic_Pentagon_Looked => first | rfl | k_is)
    (case ic_Pentagon_Answer => first | rfl | k_is)
    (case ic_Pentagon_Job => first | rfl | k_is)
    (case ic_Pentagon_Trial => first | rfl | k_is)
    (case ic_Pentagon_Doubt => first | rfl | k_is)
    (case ic_Pentagon_Passing => first | rfl | k_is)
    (case ic_Pentagon_Plan => first | rfl | k_is)
    (case ic_Pentagon_Play => first | rfl | k_is)
    (case it_Pentagon_NoneType => first | rfl | k_is)
    (case it_Pentagon_bool => first | rfl | k_is)
    (case it_Pentagon_int => first | rfl | k_is)
    (case it_Pentagon_str => first | rfl | k_is)
    (case it_Pentagon_tuple => first | rfl | k_is)
    (case it_Pentagon_list => first | rfl | k_is)
    (case ic_a_Diamond => first | rfl | k_is)
    (case ic_m_Diamond => first | rfl | k_is)
    (case ic_Diamond_Found => first | rfl | k_is)
    (case ic_Diamond_Pentagon => first | rfl | k_is)
    (case ic_Diamond_Diamond => first | rfl | k_is)
    (case ic_Diamond_Wrong => first | rfl | k_is)
    (case ic_Diamond_Within => first | rfl | k_is)
    (case ic_Diamond_Looked => first | rfl | k_is)
    (case ic_Diamond_Answer => first | rfl | k_is)
    (case ic_Diamond_Job => first | rfl | k_is)
    (case ic_Diamond_Trial => first | rfl | k_is)
    (case ic_Diamond_Doubt => first | rfl | k_is)
    (case ic_Diamond_Passing => first | rfl | k_is)
    (case ic_Diamond_Plan => first | rfl | k_is)
    (case ic_Diamond_Play => first | rfl | k_is)
    (case it_Diamond_NoneType => first | rfl | k_is)
    (case it_Diamond_bool => first | rfl | k_is)
    (case it_Diamond_int => first | rfl | k_is)
    (case it_Diamond_str => first | rfl | k_is)
    (case it_Diamond_tuple => first | rfl | k_is)
    (case it_Diamond_list => first | rfl | k_is)
    (case ic_a_Wrong => first | rfl | k_is)
    (case ic_m_Wrong => first | rfl | k_is)
    (case ic_Wrong_Found => first | rfl | k_is)
    (case ic_Wrong_Pentagon => first | rfl | k_is)
    (case ic_Wrong_Diamond => first | rfl | k_is)
    (case ic_Wrong_Wrong => first | rfl | k_is)
    (case ic_Wrong_Within => first | rfl | k_is)
    (case ic_Wrong_Looked => first | rfl | k_is)
    (case ic_Wrong_Answer => first | rfl | k_is)
    (case ic_Wrong_Job => first | rfl | k_is)
    (case ic_Wrong_Trial => first | rfl | k_is)
    (case ic_Wrong_Doubt => first | rfl | k_is)
    (case ic_Wrong_Passing => first | rfl | k_is)
    (case ic_Wrong_Plan => first | rfl | k_is)
    (case ic_Wrong_Play => first | rfl | k_is)
    (case it_Wrong_NoneType => first | rfl | k_is)
    (case it_Wrong_bool => first | rfl | k_is)
    (case it_Wrong_int => first | rfl | k_is)
    (case it_Wrong_str => first | rfl | k_is)
    (case it_Wrong_tuple => first | rfl | k_is)
    (case it_Wrong_list => first | rfl | k_is)
    (case ic_a_Within => first | rfl | k_is)
    (case ic_m_Within => first | rfl | k_is)
    (case ic_Within_Found => first | rfl | k_is)
    (case ic_Within_Pentagon => first | rfl | k_is)
    (case ic_Within_Diamond => first | rfl | k_is)
    (case ic_Within_Wrong => first | rfl | k_is)
    (case ic_Within_Within => first | rfl | k_is)
    (case ic_Within_Looked => first | rfl | k_is)
    (case ic_Within_Answer => first | rfl | k_is)
    (case ic_Within_Job => first | rfl | k_is)
    (case ic_Within_Trial => first | rfl | k_is)
    (case ic_Within_Doubt => first | rfl | k_is)
    (case ic_Within_Passing => first | rfl | k_is)
    (case ic_Within_Plan => first | rfl | k_is)
    (case ic_Within_Play => first | rfl | k_is)
    (case it_Within_NoneType => first | rfl | k_is)
    (case it_Within_bool => first | rfl | k_is)
    (case it_Within_int => first | rfl | k_is)
    (case it_Within_str => first | rfl | k_is)
    (case it_Within_tuple => first | rfl | k_is)
    (case it_Within_list => first | rfl | k_is)
    (case ic_a_Looked => first | rfl | k_is)
    (case ic_m_Looked => first | rfl | k_is)
    (case ic_Looked_Found => first | rfl | k_is)
    (case ic_Looked_Pentagon => first | rfl | k_is)
    (case ic_Looked_Diamond => first | rfl | k_is)
    (case ic_Looked_Wrong => first | rfl | k_is)
    (case ic_Looked_Within => first | rfl | k_is)
    (case ic_Looked_Looked => first | rfl | k_is)
    (case ic_Looked_Answer => first | rfl | k_is)
    (case ic_Looked_Job => first | rfl | k_is)
    (case ic_Looked_Trial => first | rfl | k_is)
    (case ic_Looked_Doubt => first | rfl | k_is)
    (case ic_Looked_Passing => first | rfl | k_is)
    (case ic_Looked_Plan => first | rfl | k_is)
    (case ic_Looked_Play => first | rfl | k_is)
    (case it_Looked_NoneType => first | rfl | k_is)
    (case it_Looked_bool => first | rfl | k_is)
    (case it_Looked_int => first | rfl | k_is)
    (case it_Looked_str => first | rfl | k_is)
    (case it_Looked_tuple => first | rfl | k_is)
    (case it_Looked_list => first | rfl | k_is)
    (case ic_a_Answer => first | rfl | k_is)
    (case ic_m_Answer => first | rfl | k_is)
    (case ic_Answer_Found => first | rfl | k_is)
    (case ic_Answer_Pentagon => first | rfl | k_is)
    (case ic_Answer_Diamond => first | rfl | k_is)
    (case ic_Answer_Wrong => first | rfl | k_is)
    (case ic_Answer_Within => first | rfl | k_is)
    (case ic_Answer_Looked => first | rfl | k_is)
    (case ic_Answer_Answer => first | rfl | k_is)
    (case ic_Answer_Job => first | rfl | k_is)
    (case ic_Answer_Trial => first | rfl | k_is)
    (case ic_Answer_Doubt => first | rfl | k_is)
    (case ic_Answer_Passing => first | rfl | k_is)
    (case ic_Answer_Plan => first | rfl | k_is)
    (case ic_Answer_Play => first | rfl | k_is)
    (case it_Answer_NoneType => first | rfl | k_is)
    (case it_Answer_bool => first | rfl | k_is)
    (case it_Answer_int => first | rfl | k_is)
    (case it_Answer_str => first | rfl | k_is)
    (case it_Answer_tuple => first | rfl | k_is)
    (case it_Answer_list => first | rfl | k_is)
    (case ic_a_Job => first | rfl | k_is)
    (case ic_m_Job => first | rfl | k_is)
    (case ic_Job_Found => first | rfl | k_is)
    (case ic_Job_Pentagon => first | rfl | k_is)
    (case ic_Job_Diamond => first | rfl | k_is)
    (case ic_Job_Wrong => first | rfl | k_is)
    (case ic_Job_Within => first | rfl | k_is)
    (case ic_Job_Looked => first | rfl | k_is)
    (case ic_Job_Answer => first | rfl | k_is)
    (case ic_Job_Job => first | rfl | k_is)
    (case ic_Job_Trial => first | rfl | k_is)
    (case ic_Job_Doubt => first | rfl | k_is)
    (case ic_Job_Passing => first | rfl | k_is)
    (case ic_Job_Plan => first | rfl | k_is)
    (case ic_Job_Play => first | rfl | k_is)
    (case it_Job_NoneType => first | rfl | k_is)
    (case it_Job_bool => first | rfl | k_is)
    (case it_Job_int => first | rfl | k_is)
    (case it_Job_str => first | rfl | k_is)
    (case it_Job_tuple => first | rfl | k_is)
    (case it_Job_list => first | rfl | k_is)
    (case ic_a_Trial => first | rfl | k_is)
    (case ic_m_Trial => first | rfl | k_is)
    (case ic_Trial_Found => first | rfl | k_is)
    (case ic_Trial_Pentagon => first | rfl | k_is)
    (case ic_Trial_Diamond => first | rfl | k_is)
    (case ic_Trial_Wrong => first | rfl | k_is)
    (case ic_Trial_Within => first | rfl | k_is)
    (case ic_Trial_Looked => first | rfl | k_is)
    (case ic_Trial_Answer => first | rfl | k_is)
    (case ic_Trial_Job => first | rfl | k_is)
    (case ic_Trial_Trial => first | rfl | k_is)
    (case ic_Trial_Doubt => first | rfl | k_is)
    (case ic_Trial_Passing => first | rfl | k_is)
    (case ic_Trial_Plan => first | rfl | k_is)
    (case ic_Trial_Play => first | rfl | k_is)
    (case it_Trial_NoneType => first | rfl | k_is)
    (case it_Trial_bool => first | rfl | k_is)
    (case it_Trial_int => first | rfl | k_is)
    (case it_Trial_str => first | rfl | k_is)
    (case it_Trial_tuple => first | rfl | k_is)
    (case it_Trial_list => first | rfl | k_is)
    (case ic_a_Doubt => first | rfl | k_is)
    (case ic_m_Doubt => first | rfl | k_is)
    (case ic_Doubt_Found => first | rfl | k_is)
    (case ic_Doubt_Pentagon => first | rfl | k_is)
    (case ic_Doubt_Diamond => first | rfl | k_is)
    (case ic_Doubt_Wrong => first | rfl | k_is)
    (case ic_Doubt_Within => first | rfl | k_is)
    (case ic_Doubt_Looked => first | rfl | k_is)
    (case ic_Doubt_Answer => first | rfl | k_is)
    (case ic_Doubt_Job => first | rfl | k_is)
    (case ic_Doubt_Trial => first | rfl | k_is)
    (case ic_Doubt_Doubt => first | rfl | k_is)
    (case ic_Doubt_Passing => first | rfl | k_is)
    (case ic_Doubt_Plan => first | rfl | k_is)
    (case ic_Doubt_Play => first | rfl | k_is)
    (case it_Doubt_NoneType => first | rfl | k_is)
    (case it_Doubt_bool => first | rfl | k_is)
    (case it_Doubt_int => first | rfl | k_is)
    (case it_Doubt_str => first | rfl | k_is)
    (case it_Doubt_tuple => first | rfl | k_is)
    (case it_Doubt_list => first | rfl | k_is)
    (case ic_a_Passing => first | rfl | k_is)
    (case ic_m_Passing => first | rfl | k_is)
    (case ic_Passing_Found => first | rfl | k_is)
    (case ic_Passing_Pentagon => first | rfl | k_is)
    (case ic_Passing_Diamond => first | rfl | k_is)
    (case ic_Passing_Wrong => first | rfl | k_is)
    (case ic_Passing_Within => first | rfl | k_is)
    (case ic_Passing_Looked => first | rfl | k_is)
    (case ic_Passing_Answer => first | rfl | k_is)
    (case ic_Passing_Job => first | rfl | k_is)
    (case ic_Passing_Trial => first | rfl | k_is)
    (case ic_Passing_Doubt => first | rfl | k_is)
    (case ic_Passing_Passing => first | rfl | k_is)
    (case ic_Passing_Plan => first | rfl | k_is)
    (case ic_Passing_Play => first | rfl | k_is)
    (case it_Passing_NoneType => first | rfl | k_is)
    (case it_Passing_bool => first | rfl | k_is)
    (case it_Passing_int => first | rfl | k_is)
    (case it_Passing_str => first | rfl | k_is)
    (case it_Passing_tuple => first | rfl | k_is)
    (case it_Passing_list => first | rfl | k_is)
    (case ic_a_Plan => first | rfl | k_is)
    (case ic_m_Plan => first | rfl | k_is)
    (case ic_Plan_Found => first | rfl | k_is)
    (case ic_Plan_Pentagon => first | rfl | k_is)
    (case ic_Plan_Diamond => first | rfl | k_is)
    (case ic_Plan_Wrong => first | rfl | k_is)
    (case ic_Plan_Within => first | rfl | k_is)
    (case ic_Plan_Looked => first | rfl | k_is)
    (case ic_Plan_Answer => first | rfl | k_is)
    (case ic_Plan_Job => first | rfl | k_is)
    (case ic_Plan_Trial => first | rfl | k_is)
    (case ic_Plan_Doubt => first | rfl | k_is)
    (case ic_Plan_Passing => first | rfl | k_is)
    (case ic_Plan_Plan => first | rfl | k_is)
    (case ic_Plan_Play => first | rfl | k_is)
    (case it_Plan_NoneType => first | rfl | k_is)
    (case it_Plan_bool => first | rfl | k_is)
    (case it_Plan_int => first | rfl | k_is)
    (case it_Plan_str => first | rfl | k_is)
    (case it_Plan_tuple => first | rfl | k_is)
    (case it_Plan_list => first | rfl | k_is)
    (case ic_a_Play => first | rfl | k_is)
    (case ic_m_Play => first | rfl | k_is)
    (case ic_Play_Found => first | rfl | k_is)
    (case ic_Play_Pentagon => first | rfl | k_is)
    (case ic_Play_Diamond => first | rfl | k_is)
    (case ic_Play_Wrong => first | rfl | k_is)
    (case ic_Play_Within => first | rfl | k_is)
    (case ic_Play_Looked => first | rfl | k_is)
    (case ic_Play_Answer => first | rfl | k_is)
    (case ic_Play_Job => first | rfl | k_is)
    (case ic_Play_Trial => first | rfl | k_is)
    (case ic_Play_Doubt => first | rfl | k_is)
    (case ic_Play_Passing => first | rfl | k_is)
    (case ic_Play_Plan => first | rfl | k_is)
    (case ic_Play_Play => first | rfl | k_is)
    (case it_Play_NoneType => first | rfl | k_is)
    (case it_Play_bool => first | rfl | k_is)
    (case it_Play_int => first | rfl | k_is)
    (case it_Play_str => first | rfl | k_is)
    (case it_Play_tuple => first | rfl | k_is)
    (case it_Play_list => first | rfl | k_is)
    (case z_len => k_is)
    (case z_int => k_is)
    (case z_bool => k_is)
    (case z_list => k_is)
    (case z_tuple => k_is)
    (case z_abs => k_is)
    (case z_max => k_is)
    (case z_min => k_is)
    (case z_sum => k_is)
    (case z_sorted => k_is)
    (case z_any => k_is)
    (case z_all => k_is)
    (case z_range => k_is)
    (case z_repr => k_is)
    (case z_str => k_is)
    (case z_isinstance => k_is)
    (case z_enumerate => k_is)
    (case z_zip => k_is)
    (case z_reversed => k_is)
