import PyProof.Rows.All
import Wide.All
import OpenK.AllK
import Wide.FinOn
import HandS.ForMost
import HandS.Deep
import HandS.Wide
import HandS.WideBits
import HandS.HeadHook2
import HandS.ForExc
import HandS.TupAny
import HandS.Conv
import HandS.SortInts
import HandS.IsInst
import HandS.Gcd
import HandS.WideMore
import HandS.Property
import HandS.Zip
import HandS.CallSlots
import HandS.ExcInit
import HandS.ExcIs
import HandS.ExcField
import HandS.HotCalls
import HandS.TryMany
import KE.KTupSum
import HandS.ExcOwn
import HandS.TryOnly
import HandS.Small
import KE.KExcIs
import HandS.Walk
import HandS.Defaults
import HandS.Ends
import HandS.EndBits
import HandS.Head0
import HandS.Head1
import HandS.Head2
import HandS.HeadEnd
import HandS.HeadHook1
import HandS.HeadHook3
import HandS.HeadHook4
import KE.KStateDown
import Lean
import HandS.Head3
import PySem.Challenge.RW_twicewaited_k28_greatest_spread
set_option Elab.async false
set_option linter.all false
set_option maxRecDepth 100000
/-! Pv0: plain values, a small language, its evaluator (no heap). -/
namespace Pv
open PySem

/-- a plain value -/
inductive D where
  | non
  | bl (b : Bool)
  | int (i : Int)
  | str (s : Str)
  | tup (l : List D)
  | lst (l : List D)
  | ins (c : Str) (ns : List Str) (l : List D)
  | dct (ks : List (Sum Int Str)) (l : List D)
  | exc (c : Str) (ns : List Str) (l : List D)

structure Exc where
  c : Str
  ns : List Str
  l : List D

inductive R (α : Type) where
  | ok (a : α)
  | exn (x : Exc)
  | bad

def R.bind {α β : Type} (r : R α) (f : α → R β) : R β := match r with
  | .ok a => f a
  | .exn x => .exn x
  | .bad => .bad
@[simp] theorem R.bind_ok {α β : Type} (a : α) (f : α → R β) : (R.ok a).bind f = f a := id rfl
@[simp] theorem R.bind_exn {α β : Type} (x : Exc) (f : α → R β) : (R.exn x).bind f = .exn x := id rfl
@[simp] theorem R.bind_bad {α β : Type} (f : α → R β) : (R.bad : R α).bind f = .bad := id rfl

/-- the result of a statement -/
inductive SR where
  | nx (ρ : List (Option D))
  | rt (d : D)
  | bk (ρ : List (Option D))
  | ct (ρ : List (Option D))
  | ex (x : Exc) (ρ : List (Option D))
  | bad

abbrev Env := List (Option D)
abbrev CallT := Nat → List D → R D

/-! ### plain data, equality -/
mutual
def toP : D → PyData
  | .non => .none
  | .bl b => .bool b
  | .int i => .int i
  | .str s => .str s
  | .tup l => .tuple (toPs l)
  | .lst l => .list (toPs l)
  | .ins _ _ _ => .dict []
  | .dct _ _ => .dict []
  | .exc _ _ _ => .dict []
def toPs : List D → List PyData
  | [] => []
  | d :: ds => toP d :: toPs ds
end
def shp (d : D) : Bool := SeqAt.shaped (toP d)
def eqP (a b : D) : Bool := PyData.eqv (toP a) (toP b)
def eqD (a b : D) : R Bool := if shp a && shp b then .ok (eqP a b) else .bad
def inD (x : D) (l : List D) : R Bool := if shp x && shp (.lst l) then .ok (l.any fun z => eqP z x) else .bad

mutual
/-- no list, dict or instance within -/
def noL : D → Bool
  | .tup l => noLs l
  | .lst _ => false
  | .ins _ _ _ => false
  | .dct _ _ => false
  | .exc _ _ _ => false
  | _ => true
def noLs : List D → Bool
  | [] => true
  | d :: ds => noL d && noLs ds
end

def flat : D → Bool
  | .non | .bl _ | .int _ | .str _ => true
  | _ => false

/-! ### sizes -/
def bt (i : Int) : Nat := Builtin.Int.intBits i
def mulOk (i j : Int) : Bool := decide (bt i + bt j ≤ 134217728)
def divOk (i j : Int) : Bool := decide (0 < j) && (decide (bt j ≤ 9000) || decide (bt i ≤ 13000))
def lenOk (n : Nat) : Bool := decide (n ≤ sizeLine)
def powOk (i j : Int) : Bool := decide (0 ≤ j) && decide (j ≤ 1000000) && decide (i.natAbs < 2 ^ 64)

/-! ### the language -/
inductive Op where
  | add | sub | mul | fdiv | mod | pow | shl | shr | band
inductive Cm where
  | eq | ne | lt | le | gt | ge | isN | notN | isin | notin | is_ | isnot
inductive Ty where
  | b (n : String)      -- a built-in type
  | c (x : Str)         -- an own class
inductive Bl where
  | len | tuple | list | sum | all | any | abs | int | str | min | max | min2 | max2 | sorted | gcd | lcm | repr | chr | ord | bool

mutual
inductive E where
  | var (i : Nat)
  | c (d : D)
  | bin (o : Op) (a b : E)
  | rep (a b : E)                          -- a list's display, many times
  | neg (a : E)
  | not (a : E)
  | and (a b : E)
  | or (a b : E)
  | cmp (o : Cm) (a b : E)
  | chain (o o' : Cm) (a b c : E)
  | ife (c a b : E)
  | ix (a i : E)
  | sl (a lo hi : E)
  | tup (es : Es)
  | lst (es : Es)
  | dct0
  | call (f : Nat) (es : Es)
  | callB (f : Nat) (fr : Bool) (es : Es)
  | blt (b : Bl) (es : Es)
  | lenI (f : Nat) (a : E)
  | mth (m : String) (a : E) (es : Es)
  | fld (a : E) (f : Str) (cs : List Str)
  | xfld (i : Nat) (f : Str)
  | xisi (i : Nat) (ts : List Ty)
  | lc (elt : E) (t : Tg) (it : It) (cs : Es) (own : List Nat)
  | isi (a : E) (ts : List String)
inductive Es where
  | nil
  | cons (e : E) (es : Es)
inductive It where
  | seq (e : E)
  | rng (a b : E)
  | enum (e : E)
  | zip (es : Es)
  | rev (e : E)
  | keys (e : E)
inductive Tg where
  | nm (i : Nat)
  | tp (ts : Tgs)
inductive Tgs where
  | nil
  | cons (t : Tg) (ts : Tgs)
end

mutual
inductive S where
  | set (t : Tg) (e : E)
  | setO (i : Nat) (e : E)                 -- x = e, x an own list, dict
  | setIx (i : Nat) (ix e : E)             -- x[ix] = e, x an own list
  | setKey (i : Nat) (ix e : E)            -- x[ix] = e, x an own dict
  | setFld (i : Nat) (f : Str) (e : E)     -- x.f = e, x an own instance
  | app (i : Nat) (e : E)                  -- x.append(e)
  | popL (i : Nat)                         -- x.pop()
  | insL (i : Nat) (k e : E)               -- x.insert(k, e)
  | ex (e : E)
  | ret (e : E)
  | ite (c : E) (a b : Ss)
  | for_ (t : Tg) (it : It) (b : Ss)
  | whl (c : E) (b : Ss)
  | brk
  | cnt
  | pass
  | rais (c : Str) (ns : List Str) (es : Es)
  | try_ (b : Ss) (hs : Hs)
inductive Ss where
  | nil
  | cons (s : S) (ss : Ss)
inductive Hs where
  | nil
  | cons (c : Str) (as_ : Option Nat) (b : Ss) (hs : Hs)
end
end Pv
set_option Elab.async false
set_option linter.all false
set_option maxRecDepth 100000
namespace Pv
open PySem

/-! ### operations on values -/
def oR {α : Type} : Option α → R α
  | some a => .ok a
  | none => .bad
@[simp] theorem oR_some {α : Type} (a : α) : oR (some a) = .ok a := id rfl
@[simp] theorem oR_none {α : Type} : oR (none : Option α) = .bad := id rfl

def seqOf : D → Option (List D)
  | .lst l => some l
  | .tup l => some l
  | _ => none

def binD : Op → D → D → R D
  | .add, .int i, .int j => .ok (.int (i + j))
  | .add, .str a, .str b => if lenOk (a.length + b.length) then .ok (.str (a ++ b)) else .bad
  | .add, .lst a, .lst b => if lenOk (a.length + b.length) then .ok (.lst (a ++ b)) else .bad
  | .add, .tup a, .tup b => if lenOk (a.length + b.length) then .ok (.tup (a ++ b)) else .bad
  | .sub, .int i, .int j => .ok (.int (i - j))
  | .mul, .int i, .int j => if mulOk i j then .ok (.int (i * j)) else .bad
  | .fdiv, .int i, .int j => if divOk i j then .ok (.int (i / j)) else .bad
  | .mod, .int i, .int j => if decide (0 < j) then .ok (.int (i % j)) else .bad
  | .pow, .int i, .int j => if powOk i j then .ok (.int (i ^ j.toNat)) else .bad
  | .shl, .int i, .int j => if powOk i j then .ok (.int (i * 2 ^ j.toNat)) else .bad
  | .shr, .int i, .int j => if decide (0 ≤ j) then .ok (.int (i / 2 ^ j.toNat)) else .bad
  | .band, .int i, .int j => if decide (0 ≤ i) && decide (j = 1) then .ok (.int (i % 2)) else .bad
  | _, _, _ => .bad

def repD : D → D → R D
  | .lst l, .int k => if lenOk (l.length * k.toNat) && (decide (-(2 ^ 63) ≤ k) && decide (k < 2 ^ 63)) then .ok (.lst (List.replicate k.toNat l).flatten) else .bad
  | _, _ => .bad
def negD : D → R D
  | .int i => .ok (.int (-i))
  | _ => .bad

def hasKey (ks : List (Sum Int Str)) (k : Sum Int Str) : Bool := ks.any fun z => decide (z = k)
def keyOf : D → Option (Sum Int Str)
  | .int i => some (.inl i)
  | .str s => some (.inr s)
  | _ => none
def inC (x : D) : D → R Bool
  | .lst l => inD x l
  | .tup l => if flat x && l.all flat then inD x l else .bad
  | .dct ks _ => match keyOf x with
    | some k => .ok (hasKey ks k)
    | none => .bad
  | _ => .bad

def cmpD : Cm → D → D → R Bool
  | .eq, a, b => eqD a b
  | .ne, a, b => (eqD a b).bind fun t => .ok (!t)
  | .lt, .int i, .int j => .ok (decide (i < j))
  | .le, .int i, .int j => .ok (decide (i ≤ j))
  | .gt, .int i, .int j => .ok (decide (j < i))
  | .ge, .int i, .int j => .ok (decide (j ≤ i))
  | .isN, a, .non => .ok (match a with | .non => true | _ => false)
  | .notN, a, .non => .ok (match a with | .non => false | _ => true)
  | .isin, a, b => inC a b
  | .notin, a, b => (inC a b).bind fun t => .ok (!t)
  | _, _, _ => .bad

def tBool : D → R Bool
  | .bl b => .ok b
  | _ => .bad

def getKey (ks : List (Sum Int Str)) (l : List D) (k : Sum Int Str) : Option D := ((ks.zip l).find? fun z => decide (z.1 = k)).map (·.2)
def ixD : D → D → R D
  | .lst l, .int i => match L2.atI l i with
    | some d => .ok d
    | none => .bad
  | .tup l, .int i => match L2.atI l i with
    | some d => .ok d
    | none => .bad
  | .str s, .int i => match L2.atI s.cps.toList i with
    | some c => if lenOk s.length then .ok (.str ⟨#[c]⟩) else .bad
    | none => .bad
  | .dct ks l, k => match keyOf k with
    | some k => (match getKey ks l k with
      | some d => .ok d
      | none => .bad)
    | none => .bad
  | _, _ => .bad

def partD : D → Option (Option Int)
  | .non => some none
  | .int i => some (some i)
  | _ => none
def cutD (l : List D) (lo hi : Option Int) : List D := (l.drop (HT.sIx l.length 0 lo)).take (HT.sIx l.length l.length hi - HT.sIx l.length 0 lo)
def slV (a : D) (p q : Option Int) : R D := match a with
  | .lst l => .ok (.lst (cutD l p q))
  | .tup l => .ok (.tup (cutD l p q))
  | _ => .bad

def intsOf : List D → Option (List Int)
  | [] => some []
  | .int i :: r => (intsOf r).map (i :: ·)
  | _ :: _ => none
def blsOf : List D → Option (List Bool)
  | [] => some []
  | .bl i :: r => (blsOf r).map (i :: ·)
  | _ :: _ => none
def minI : List Int → Option Int
  | [] => none
  | i :: r => some (r.foldl min i)
def maxI : List Int → Option Int
  | [] => none
  | i :: r => some (r.foldl max i)
def sortI (l : List Int) : List Int := l.mergeSort (fun a b => decide (a ≤ b))

def bl_len : List D → R D
  | [.lst l] => .ok (.int l.length)
  | [.tup l] => .ok (.int l.length)
  | [.str s] => if lenOk s.length then .ok (.int s.length) else .bad
  | [.dct ks _] => .ok (.int ks.length)
  | _ => .bad
def bl_tuple : List D → R D
  | [.lst l] => .ok (.tup l)
  | [.tup l] => .ok (.tup l)
  | _ => .bad
def bl_list : List D → R D
  | [.lst l] => .ok (.lst l)
  | [.tup l] => .ok (.lst l)
  | _ => .bad
def bl_sum : List D → R D
  | [.lst l] => (oR (intsOf l)).bind fun ns => .ok (.int ns.sum)
  | _ => .bad
def bl_all : List D → R D
  | [.lst l] => (oR (blsOf l)).bind fun ns => .ok (.bl (ns.all id))
  | _ => .bad
def bl_any : List D → R D
  | [.lst l] => (oR (blsOf l)).bind fun ns => .ok (.bl (ns.any id))
  | _ => .bad
def bl_abs : List D → R D
  | [.int i] => .ok (.int (if i < 0 then -i else i))
  | _ => .bad
def bl_int : List D → R D
  | [.int i] => .ok (.int i)
  | [.bl b] => .ok (.int (if b then 1 else 0))
  | _ => .bad
def bl_str : List D → R D
  | [.int i] => if decide (i.natAbs.log2 < 1920) then .ok (.str (toString i)) else .bad
  | _ => .bad
def bl_min : List D → R D
  | [.lst l] => (oR (intsOf l)).bind fun ns => (oR (minI ns)).bind fun m => .ok (.int m)
  | _ => .bad
def bl_max : List D → R D
  | [.lst l] => (oR (intsOf l)).bind fun ns => (oR (maxI ns)).bind fun m => .ok (.int m)
  | _ => .bad
def bl_min2 : List D → R D
  | [.int i, .int j] => .ok (.int (if j < i then j else i))
  | _ => .bad
def bl_max2 : List D → R D
  | [.int i, .int j] => .ok (.int (if j > i then j else i))
  | _ => .bad
def bl_sorted : List D → R D
  | [.lst l] => (oR (intsOf l)).bind fun ns => .ok (.lst ((sortI ns).map D.int))
  | [.tup l] => (oR (intsOf l)).bind fun ns => .ok (.lst ((sortI ns).map D.int))
  | _ => .bad
def bl_gcd : List D → R D
  | [.int i, .int j] => .ok (.int (Nat.gcd i.natAbs j.natAbs : Nat))
  | _ => .bad
def blD : Bl → List D → R D
  | .len, l => bl_len l
  | .tuple, l => bl_tuple l
  | .list, l => bl_list l
  | .sum, l => bl_sum l
  | .all, l => bl_all l
  | .any, l => bl_any l
  | .abs, l => bl_abs l
  | .int, l => bl_int l
  | .str, l => bl_str l
  | .min, l => bl_min l
  | .max, l => bl_max l
  | .min2, l => bl_min2 l
  | .max2, l => bl_max2 l
  | .sorted, l => bl_sorted l
  | .gcd, l => bl_gcd l
  | _, _ => .bad

def mthD : String → D → List D → R D
  | "index", .lst l, [x] => if flat x && l.all flat && shp x && l.all shp then (oR (l.findIdx? fun z => eqP z x)).bind fun j => .ok (.int j) else .bad
  | "index", .tup l, [x] => if flat x && l.all flat && shp x && l.all shp then (oR (l.findIdx? fun z => eqP z x)).bind fun j => .ok (.int j) else .bad
  | "get", .dct ks l, [k, d] => (oR (keyOf k)).bind fun k => .ok ((getKey ks l k).getD d)
  | _, _, _ => .bad

def fldD (f : Str) (cs : List Str) : D → R D
  | .ins c ns l => if decide (c ∈ cs) then oR ((ns.zip l).lookup f) else .bad
  | _ => .bad
def xfldD (f : Str) : D → R D
  | .exc _ ns l => oR ((ns.zip l).lookup f)
  | _ => .bad

/-- the package's errors: all directly under CounterError, that one under ValueError -/
def subC (c c' : Str) : Bool := decide (c = c') || decide (c' = ("CounterError" : Str)) || decide (c' = ("ValueError" : Str)) || decide (c' = ("Exception" : Str))
def isTy : D → Ty → Bool
  | .non, _ => false
  | .bl _, .b n => decide (n = "bool") || decide (n = "int")
  | .int _, .b n => decide (n = "int")
  | .str _, .b n => decide (n = "str")
  | .tup _, .b n => decide (n = "tuple")
  | .lst _, .b n => decide (n = "list")
  | .dct _ _, .b n => decide (n = "dict")
  | .ins c _ _, .c x => decide (c = x)
  | .exc c _ _, .c x => subC c x
  | .exc c _ _, .b n => decide (n = "ValueError")
  | _, _ => false

def tyB (n t : String) : Bool := decide (n = t) || (decide (n = "bool") && decide (t = "int"))
def kindD : D → Option String
  | .non => some "NoneType"
  | .bl _ => some "bool"
  | .int _ => some "int"
  | .str _ => some "str"
  | .tup _ => some "tuple"
  | .lst _ => some "list"
  | .dct _ _ => some "dict"
  | _ => none
def kindsD : List String := ["NoneType", "bool", "int", "str", "tuple", "list", "dict"]
/-- isinstance, of a plain value and built-in types -/
def isiD (ts : List String) (x : D) : R D := match kindD x with
  | some n => .ok (.bl (ts.any fun t => tyB n t))
  | none => .bad
/-- a result that shares no list with what was lent -/
def safeD (fr : Bool) (d : D) : Bool := noL d || (fr && match d with | .lst l => noLs l | _ => false)

/-- what comes of a call that was lent an own list -/
def safeR (fr : Bool) : R D → R D
  | .ok d => if safeD fr d then .ok d else .bad
  | .exn x => if noLs x.l then .exn x else .bad
  | .bad => .bad

def getV (ρ : Env) (i : Nat) : R D := match ρ[i]? with
  | some (some d) => .ok d
  | _ => .bad

mutual
def setT : Tg → D → Env → Option Env
  | .nm i, d, ρ => some (ρ.set i (some d))
  | .tp ts, d, ρ => match d with
    | .tup l => setTs ts l ρ
    | .lst l => setTs ts l ρ
    | _ => none
def setTs : Tgs → List D → Env → Option Env
  | .nil, [], ρ => some ρ
  | .cons t ts, d :: ds, ρ => (setT t d ρ).bind fun ρ' => setTs ts ds ρ'
  | _, _, _ => none
end

def wipeE (ρ : Env) : List Nat → Env
  | [] => ρ
  | v :: vs => (wipeE ρ vs).set v none

def zipD : List (List D) → List D
  | [] => []
  | ls => (List.range ((ls.map List.length).min?.getD 0)).map fun i => .tup (ls.map fun l => l.getD i .non)

def enumD : Nat → List D → List D
  | _, [] => []
  | i, d :: ds => .tup [.int i, d] :: enumD (i + 1) ds

def seqsOf : List D → Option (List (List D))
  | [] => some []
  | d :: ds => (seqOf d).bind fun l => (seqsOf ds).map (l :: ·)

def rngD (a b : Int) : List D := (List.range (b - a).toNat).map fun i => D.int (a + (i : Nat))
def rngOk (a b : Int) : Bool := decide (-(2 ^ 62) ≤ a) && decide (a < 2 ^ 62) && decide (-(2 ^ 62) ≤ b) && decide (b < 2 ^ 62)
def charsD (s : Str) : List D := s.cps.toList.map fun c => D.str ⟨#[c]⟩

def R.nox {α : Type} : R α → R α
  | .ok a => .ok a
  | _ => .bad
@[simp] theorem R.nox_ok {α : Type} (a : α) : (R.ok a).nox = .ok a := id rfl
/-- a comprehension's loop (what is raised within is not followed) -/
def lcGo (f : D → R (Option D)) : List D → R (List D)
  | [] => .ok []
  | d :: ds => (f d).nox.bind fun o => (lcGo f ds).bind fun r => .ok (match o with | some x => x :: r | none => r)
def lcOne (o : Option Env) (c : Env → R Bool) (e : Env → R D) : R (Option D) := match o with
  | some ρ1 => (c ρ1).bind fun t => if t then (e ρ1).bind fun x => .ok (some x) else .ok none
  | none => .bad

mutual
def ev (cl : CallT) : E → Env → R D
  | .var i, ρ => getV ρ i
  | .c d, _ => .ok d
  | .bin o a b, ρ => (ev cl a ρ).bind fun x => (ev cl b ρ).bind fun y => binD o x y
  | .rep a b, ρ => (ev cl a ρ).bind fun x => (ev cl b ρ).bind fun y => repD x y
  | .neg a, ρ => (ev cl a ρ).bind negD
  | .not a, ρ => (ev cl a ρ).bind fun x => (tBool x).bind fun t => .ok (.bl (!t))
  | .and a b, ρ => (ev cl a ρ).bind fun x => (tBool x).bind fun t => if t then ev cl b ρ else .ok (.bl false)
  | .or a b, ρ => (ev cl a ρ).bind fun x => (tBool x).bind fun t => if t then .ok (.bl true) else ev cl b ρ
  | .cmp o a b, ρ => (ev cl a ρ).bind fun x => (ev cl b ρ).bind fun y => (cmpD o x y).bind fun t => .ok (.bl t)
  | .chain o o' a b c, ρ => (ev cl a ρ).bind fun x => (ev cl b ρ).bind fun y => (cmpD o x y).bind fun t =>
      if t then (ev cl c ρ).bind fun z => (cmpD o' y z).bind fun t' => .ok (.bl t') else .ok (.bl false)
  | .ife c a b, ρ => (ev cl c ρ).bind fun x => (tBool x).bind fun t => if t then ev cl a ρ else ev cl b ρ
  | .ix a i, ρ => (ev cl a ρ).bind fun x => (ev cl i ρ).bind fun y => ixD x y
  | .sl a lo hi, ρ => (ev cl a ρ).bind fun x => (ev cl lo ρ).bind fun p => (oR (partD p)).bind fun p' => (ev cl hi ρ).bind fun q => (oR (partD q)).bind fun q' => slV x p' q'
  | .tup es, ρ => (evs cl es ρ).bind fun l => if lenOk l.length then .ok (.tup l) else .bad
  | .lst es, ρ => (evs cl es ρ).bind fun l => if lenOk l.length then .ok (.lst l) else .bad
  | .dct0, _ => .ok (.dct [] [])
  | .call f es, ρ => (evs cl es ρ).bind fun l => cl f l
  | .callB f fr es, ρ => (evs cl es ρ).bind fun l => safeR fr (cl f l)
  | .blt b es, ρ => (evs cl es ρ).bind fun l => blD b l
  | .lenI f a, ρ => (ev cl a ρ).bind fun x => match x with
      | .ins _ _ _ => (cl f [x]).bind fun d => match d with
        | .int n => if decide (0 ≤ n) && decide (n < 2 ^ 62) then .ok (.int n) else .bad
        | _ => .bad
      | _ => blD .len [x]
  | .mth m a es, ρ => (ev cl a ρ).bind fun x => (evs cl es ρ).bind fun l => mthD m x l
  | .fld a f cs, ρ => (ev cl a ρ).bind fun x => fldD f cs x
  | .xfld i f, ρ => (getV ρ i).bind fun x => xfldD f x
  | .xisi i ts, ρ => (getV ρ i).bind fun x => match x with
    | .exc _ _ _ => .ok (.bl (ts.any fun t => isTy x t))
    | _ => .bad
  | .lc elt t it cs own, ρ => (evIt cl it ρ).bind fun l =>
      (lcGo (fun d => lcOne (setT t d (wipeE ρ own)) (fun ρ1 => evAll cl cs ρ1) (fun ρ1 => ev cl elt ρ1)) l).bind fun r => if lenOk (l.length + 1) then .ok (.lst r) else .bad
  | .isi a ts, ρ => (ev cl a ρ).bind fun x => isiD ts x
def evs (cl : CallT) : Es → Env → R (List D)
  | .nil, _ => .ok []
  | .cons e es, ρ => (ev cl e ρ).bind fun x => (evs cl es ρ).bind fun r => .ok (x :: r)
/-- tests, all to be true -/
def evAll (cl : CallT) : Es → Env → R Bool
  | .nil, _ => .ok true
  | .cons e es, ρ => (ev cl e ρ).bind fun x => (tBool x).bind fun t => if t then evAll cl es ρ else .ok false
def evIt (cl : CallT) : It → Env → R (List D)
  | .seq e, ρ => (ev cl e ρ).bind fun x => match x with
      | .lst l => .ok l
      | .tup l => .ok l
      | .str s => .ok (charsD s)
      | _ => .bad
  | .rng a b, ρ => (ev cl a ρ).bind fun x => (ev cl b ρ).bind fun y => match x, y with
      | .int i, .int j => if rngOk i j then .ok (rngD i j) else .bad
      | _, _ => .bad
  | .enum e, ρ => (ev cl e ρ).bind fun x => (oR (seqOf x)).bind fun l => .ok (enumD 0 l)
  | .zip es, ρ => (evs cl es ρ).bind fun xs => (oR (seqsOf xs)).bind fun ls => .ok (zipD ls)
  | .rev e, ρ => (ev cl e ρ).bind fun x => (oR (seqOf x)).bind fun l => .ok l.reverse
  | .keys e, ρ => (ev cl e ρ).bind fun x => match x with
      | .dct ks _ => .ok (ks.map fun k => match k with | .inl i => D.int i | .inr s => D.str s)
      | _ => .bad
end

/-- a for loop's turns -/
def forL (f : D → Env → SR) : List D → Env → SR
  | [], ρ => .nx ρ
  | d :: ds, ρ => match f d ρ with
    | .nx ρ' => forL f ds ρ'
    | .ct ρ' => forL f ds ρ'
    | .bk ρ' => .nx ρ'
    | r => r
/-- a while loop, n turns at most -/
def whN (c : Env → R Bool) (b : Env → SR) : Nat → Env → SR
  | 0, _ => .bad
  | n + 1, ρ => match c ρ with
    | .ok true => (match b ρ with
      | .nx ρ' => whN c b n ρ'
      | .ct ρ' => whN c b n ρ'
      | .bk ρ' => .nx ρ'
      | r => r)
    | .ok false => .nx ρ
    | .exn x => .ex x ρ
    | .bad => .bad
def SR.isBad : SR → Bool
  | .bad => true
  | _ => false
open Classical in
noncomputable def wh (c : Env → R Bool) (b : Env → SR) (ρ : Env) : SR := if h : ∃ n, (whN c b n ρ).isBad = false then whN c b (Classical.choose h) ρ else .bad

def SR.of (r : R D) (ρ : Env) (f : D → SR) : SR := match r with
  | .ok d => f d
  | .exn x => .ex x ρ
  | .bad => .bad
@[simp] theorem SR.of_ok (d : D) (ρ : Env) (f : D → SR) : SR.of (.ok d) ρ f = f d := id rfl
@[simp] theorem SR.of_exn (x : Exc) (ρ : Env) (f : D → SR) : SR.of (.exn x) ρ f = .ex x ρ := id rfl
@[simp] theorem SR.of_bad (ρ : Env) (f : D → SR) : SR.of .bad ρ f = .bad := id rfl

def putKey : List (Sum Int Str) → List D → Sum Int Str → D → List (Sum Int Str) × List D
  | k :: ks, v :: vs, q, d => if k = q then (k :: ks, d :: vs) else let r := putKey ks vs q d; (k :: r.1, v :: r.2)
  | _, _, q, d => ([q], [d])

def oS : Option Env → SR
  | some ρ => .nx ρ
  | none => .bad
@[simp] theorem oS_some (ρ : Env) : oS (some ρ) = .nx ρ := id rfl
@[simp] theorem oS_none : oS none = .bad := id rfl

def catchE (ρ : Env) (a : Option Nat) (d : D) : Env := match a with
  | some i => ρ.set i (some d)
  | none => ρ
def uncatch (a : Option Nat) (r : SR) : SR := match a with
  | none => (match r with
    | .ex _ _ => .bad
    | r => r)
  | some i => match r with
    | .nx ρ => .nx (ρ.set i none)
    | .bk ρ => .bk (ρ.set i none)
    | .ct ρ => .ct (ρ.set i none)
    | .rt d => .rt d
    | .ex _ _ => .bad
    | .bad => .bad

def isO : D → Bool
  | .lst _ => true
  | .dct _ _ => true
  | .ins _ _ _ => true
  | _ => false

mutual
noncomputable def evS (cl : CallT) : S → Env → SR
  | .set t e, ρ => SR.of (ev cl e ρ) ρ fun d => oS (setT t d ρ)
  | .setO i e, ρ => SR.of (ev cl e ρ) ρ fun d => if isO d then .nx (ρ.set i (some d)) else .bad
  | .setIx i k e, ρ => match ρ[i]? with
      | some (some (.lst l)) => SR.of (ev cl e ρ) ρ fun d => SR.of (ev cl k ρ) ρ fun z => (match z with
        | .int j => (match L2.ixN l.length j with
          | some n => .nx (ρ.set i (some (.lst (l.set n d))))
          | none => .bad)
        | _ => .bad)
      | _ => .bad
  | .setKey i k e, ρ => match ρ[i]? with
      | some (some (.dct ks l)) => SR.of (ev cl e ρ) ρ fun d => SR.of (ev cl k ρ) ρ fun z => (match keyOf z with
        | some q => if lenOk (ks.length + 1) then .nx (ρ.set i (some (.dct (putKey ks l q d).1 (putKey ks l q d).2))) else .bad
        | none => .bad)
      | _ => .bad
  | .setFld i f e, ρ => match ρ[i]? with
      | some (some (.ins c ns l)) => SR.of (ev cl e ρ) ρ fun d => if decide (f ∉ ns) && decide (ns.length < 900) then .nx (ρ.set i (some (.ins c (ns ++ [f]) (l ++ [d])))) else .bad
      | _ => .bad
  | .app i e, ρ => match ρ[i]? with
      | some (some (.lst l)) => SR.of (ev cl e ρ) ρ fun d => if lenOk (l.length + 1) then .nx (ρ.set i (some (.lst (l ++ [d])))) else .bad
      | _ => .bad
  | .popL i, ρ => match ρ[i]? with
      | some (some (.lst l)) => if l.isEmpty then .bad else .nx (ρ.set i (some (.lst l.dropLast)))
      | _ => .bad
  | .insL i k e, ρ => .bad
  | .ex e, ρ => SR.of (ev cl e ρ) ρ fun _ => .nx ρ
  | .ret e, ρ => SR.of (ev cl e ρ) ρ fun d => .rt d
  | .ite c a b, ρ => SR.of (ev cl c ρ) ρ fun d => match d with
      | .bl true => evSs cl a ρ
      | .bl false => evSs cl b ρ
      | _ => .bad
  | .for_ t it b, ρ => match evIt cl it ρ with
      | .ok l => forL (fun d ρ1 => match setT t d ρ1 with
        | some ρ2 => evSs cl b ρ2
        | none => .bad) l ρ
      | .exn x => .ex x ρ
      | .bad => .bad
  | .whl c b, ρ => wh (fun ρ => (ev cl c ρ).bind tBool) (fun ρ => evSs cl b ρ) ρ
  | .brk, ρ => .bk ρ
  | .cnt, ρ => .ct ρ
  | .pass, ρ => .nx ρ
  | .rais c ns es, ρ => match evs cl es ρ with
      | .ok l => if l.length = ns.length then .ex ⟨c, ns.reverse, l.reverse⟩ ρ else .bad
      | .exn x => .ex x ρ
      | .bad => .bad
  | .try_ b hs, ρ => match evSs cl b ρ with
      | .ex x ρ' => evHs cl hs x ρ'
      | r => r
noncomputable def evSs (cl : CallT) : Ss → Env → SR
  | .nil, ρ => .nx ρ
  | .cons s ss, ρ => match evS cl s ρ with
    | .nx ρ' => evSs cl ss ρ'
    | r => r
noncomputable def evHs (cl : CallT) : Hs → Exc → Env → SR
  | .nil, x, ρ => .ex x ρ
  | .cons c a b hs, x, ρ => if subC x.c c then uncatch a (evSs cl b (catchE ρ a (.exc x.c x.ns x.l))) else evHs cl hs x ρ
end

/-! ### a program: its defs -/
structure FI where
  name : Str
  arity : Nat
  slots : Nat
  fr : Bool
  body : Ss
  init : Option Str := none
  self : Option Str := none

def finish (r : SR) : R D := match r with
  | .nx _ => .ok .non
  | .rt d => .ok d
  | .ex x _ => .exn x
  | _ => .bad
def finishI (r : SR) : R D := match r with
  | .nx ρ => getV ρ 0
  | .ex x _ => .exn x
  | _ => .bad
def startE (n : Nat) (ds : List D) : Env := ds.map some ++ List.replicate (n - ds.length) none

def selfOk (fi : FI) (ds : List D) : Bool := match fi.self with
  | none => true
  | some c => match ds with
    | .ins c' ns _ :: _ => decide (c = c') && decide (fi.name ∉ ns)
    | _ => false
noncomputable def run (tbl : Nat → Option FI) : Nat → CallT
  | 0, _, _ => .bad
  | k + 1, f, ds => match tbl f with
    | none => .bad
    | some fi => if ds.length = fi.arity ∧ selfOk fi ds then (match fi.init with
      | none => finish (evSs (run tbl k) fi.body (startE fi.slots ds))
      | some c => finishI (evSs (run tbl k) fi.body (startE fi.slots (.ins c [] [] :: ds)))) else .bad
end Pv
set_option Elab.async false
set_option linter.all false
set_option maxRecDepth 100000
/-! Pv2: what a plain value is in the abstract heap. -/
namespace Pv
open PySem PySem.Spec PyProof.Rows L2

/-- what stands fixed: the written part, the exception that is handled (its address, class, own dict) -/
structure Bs where
  K : PySem.W.Frag
  xs : List Str := []
  hx : Option (Nat × Addr × Value × Option Addr) := none

/-- a list to be read that is none of the own ones -/
def LstA (K : PySem.W.Frag) (av : Addr → Prop) (H : Hp) (a : Addr) (vs : List V) : Prop :=
  (¬ av a ∧ Rd H a (.lst vs)) ∨
    ∃ (o : Obj) (its : Array Value) (n : Nat), K.lookup a = some o ∧ o.cls = .type "list" ∧ o.dict = none ∧ o.data = .seq its n ∧ its.size ≤ sizeLine ∧ Vals vs its.toList
theorem LstA.seq {K : PySem.W.Frag} {av : Addr → Prop} {H : Hp} {a : Addr} {vs : List V} (h : LstA K av H a vs) : SqL K H a vs := by
  rcases h with ⟨_, h⟩ | h
  · exact .inl h
  · exact .inr h

mutual
def Den (B : Bs) (av : Addr → Prop) (H : Hp) : D → V → Prop
  | .non, v => v = .non
  | .bl b, v => v = .bl b
  | .int i, v => v = .int i
  | .str s, v => v = .str s
  | .tup l, v => ∃ a vs, v = .ref a ∧ SqT B.K H a vs ∧ Dens B av H l vs
  | .lst l, v => ∃ a vs, v = .ref a ∧ LstA B.K av H a vs ∧ Dens B av H l vs
  | .ins c ns l, v => ∃ a dx fs, v = .ref a ∧ ¬ av a ∧ H a = some (.ins (He.ga B.K c) dx fs) ∧ fs.map (·.1) = ns ∧ Dens B av H l (fs.map (·.2))
  | .dct ks l, v => ∃ a kvs, v = .ref a ∧ ¬ av a ∧ H a = some (.dK kvs) ∧ kvs.map (·.1) = ks ∧ Dens B av H l (kvs.map (·.2))
  | .exc _ _ _, _ => False
def Dens (B : Bs) (av : Addr → Prop) (H : Hp) : List D → List V → Prop
  | [], vs => vs = []
  | d :: ds, vs => ∃ v r, vs = v :: r ∧ Den B av H d v ∧ Dens B av H ds r
end

section
variable {B : Bs} {av av' : Addr → Prop} {H H' : Hp}

theorem Rd.same {a : Addr} {u : HO} (h : Rd H a u) (s : Same H H') : Rd H' a u := by
  rcases h with h | ⟨o, h⟩
  · exact .inl (s _ _ h)
  · exact .inr ⟨o, s _ _ h⟩
theorem Rd.some {a : Addr} {u : HO} (h : Rd H a u) : H a ≠ none := by
  rcases h with h | ⟨o, h⟩ <;> rw [h] <;> simp
theorem SqT.same {K : PySem.W.Frag} {a : Addr} {vs : List V} (h : SqT K H a vs) (s : Same H H') : SqT K H' a vs := by
  rcases h with h | h
  · exact .inl (Rd.same h s)
  · exact .inr h
theorem LstA.mono {K : PySem.W.Frag} {a : Addr} {vs : List V} (h : LstA K av H a vs) (s : Same H H') (ha : ∀ b, av' b → H b ≠ none → av b) : LstA K av' H' a vs := by
  rcases h with ⟨n, h⟩ | h
  · exact .inl ⟨fun z => n (ha a z (Rd.some h)), Rd.same h s⟩
  · exact .inr h

mutual
theorem Den.mono (s : Same H H') (ha : ∀ b, av' b → H b ≠ none → av b) : ∀ (d : D) (v : V), Den B av H d v → Den B av' H' d v
  | .non, _, h => h
  | .bl _, _, h => h
  | .int _, _, h => h
  | .str _, _, h => h
  | .tup l, v, h => by
    obtain ⟨a, vs, e, q, r⟩ := h
    exact ⟨a, vs, e, SqT.same q s, Dens.mono s ha l vs r⟩
  | .lst l, v, h => by
    obtain ⟨a, vs, e, q, r⟩ := h
    exact ⟨a, vs, e, q.mono s ha, Dens.mono s ha l vs r⟩
  | .ins c ns l, v, h => by
    obtain ⟨a, dx, fs, e, n, q, z, r⟩ := h
    exact ⟨a, dx, fs, e, fun y => n (ha a y (by rw [q]; simp)), s _ _ q, z, Dens.mono s ha l _ r⟩
  | .dct ks l, v, h => by
    obtain ⟨a, kvs, e, n, q, z, r⟩ := h
    exact ⟨a, kvs, e, fun y => n (ha a y (by rw [q]; simp)), s _ _ q, z, Dens.mono s ha l _ r⟩
  | .exc c ns l, v, h => h.elim
theorem Dens.mono (s : Same H H') (ha : ∀ b, av' b → H b ≠ none → av b) : ∀ (l : List D) (vs : List V), Dens B av H l vs → Dens B av' H' l vs
  | [], _, h => h
  | d :: ds, vs, h => by
    obtain ⟨v, r, e, h1, h2⟩ := h
    exact ⟨v, r, e, Den.mono s ha d v h1, Dens.mono s ha ds r h2⟩
end
theorem Den.same {d : D} {v : V} (h : Den B av H d v) (s : Same H H') : Den B av H' d v := Den.mono s (fun _ q _ => q) d v h
theorem Dens.same {l : List D} {vs : List V} (h : Dens B av H l vs) (s : Same H H') : Dens B av H' l vs := Dens.mono s (fun _ q _ => q) l vs h

/-- what may be changed in place -/
def MutO : HO → Prop
  | .lst _ => True
  | .dK _ => True
  | .ins _ _ _ => True
  | _ => False
theorem SqT.upd {K : PySem.W.Frag} {a b : Addr} {o o' : HO} {vs : List V} (h : SqT K H b vs) (ha : H a = some o) (m : MutO o) : SqT K (upd H a o') b vs := by
  rcases h with (h | ⟨z, h⟩) | h
  · refine .inl (.inl ?_)
    rw [upd_ne]
    · exact h
    · rintro rfl
      rw [h] at ha
      cases ha
      exact m
  · refine .inl (.inr ⟨z, ?_⟩)
    rw [upd_ne]
    · exact h
    · rintro rfl
      rw [h] at ha
      cases ha
      exact m
  · exact .inr h
theorem LstA.upd {K : PySem.W.Frag} {a b : Addr} {o' : HO} {vs : List V} (h : LstA K av H b vs) (ha : av a) : LstA K av (upd H a o') b vs := by
  rcases h with ⟨n, h⟩ | h
  · have hb : b ≠ a := by rintro rfl; exact n ha
    refine .inl ⟨n, ?_⟩
    rcases h with h | ⟨z, h⟩
    · exact .inl (by rw [upd_ne hb]; exact h)
    · exact .inr ⟨z, by rw [upd_ne hb]; exact h⟩
  · exact .inr h
mutual
theorem Den.upd {a : Addr} {o o' : HO} (ha : av a) (e : H a = some o) (m : MutO o) : ∀ (d : D) (v : V), Den B av H d v → Den B av (upd H a o') d v
  | .non, _, h => h
  | .bl _, _, h => h
  | .int _, _, h => h
  | .str _, _, h => h
  | .tup l, v, h => by
    obtain ⟨b, vs, e1, q, r⟩ := h
    exact ⟨b, vs, e1, SqT.upd q e m, Dens.upd ha e m l vs r⟩
  | .lst l, v, h => by
    obtain ⟨b, vs, e1, q, r⟩ := h
    exact ⟨b, vs, e1, q.upd ha, Dens.upd ha e m l vs r⟩
  | .ins c ns l, v, h => by
    obtain ⟨b, dx, fs, e1, n, q, z, r⟩ := h
    exact ⟨b, dx, fs, e1, n, by rw [upd_ne (by rintro rfl; exact n ha)]; exact q, z, Dens.upd ha e m l _ r⟩
  | .dct ks l, v, h => by
    obtain ⟨b, kvs, e1, n, q, z, r⟩ := h
    exact ⟨b, kvs, e1, n, by rw [upd_ne (by rintro rfl; exact n ha)]; exact q, z, Dens.upd ha e m l _ r⟩
  | .exc c ns l, v, h => h.elim
theorem Dens.upd {a : Addr} {o o' : HO} (ha : av a) (e : H a = some o) (m : MutO o) : ∀ (l : List D) (vs : List V), Dens B av H l vs → Dens B av (upd H a o') l vs
  | [], _, h => h
  | d :: ds, vs, h => by
    obtain ⟨v, r, e1, h1, h2⟩ := h
    exact ⟨v, r, e1, Den.upd ha e m d v h1, Dens.upd ha e m ds r h2⟩
end

theorem Dens.length : ∀ {l : List D} {vs : List V}, Dens B av H l vs → vs.length = l.length
  | [], _, h => by cases h; rfl
  | d :: ds, vs, h => by
    obtain ⟨v, r, rfl, _, h2⟩ := h
    rw [List.length_cons, List.length_cons, Dens.length h2]
theorem Dens.get : ∀ {l : List D} {vs : List V} {i : Nat} {d : D}, Dens B av H l vs → l[i]? = some d → ∃ v, vs[i]? = some v ∧ Den B av H d v
  | [], _, _, _, _, e => by simp at e
  | x :: l, vs, 0, d, h, e => by
    obtain ⟨v, r, rfl, h1, _⟩ := h
    simp at e
    subst e
    exact ⟨v, rfl, h1⟩
  | x :: l, vs, i + 1, d, h, e => by
    obtain ⟨v, r, rfl, _, h2⟩ := h
    obtain ⟨w, e1, h3⟩ := Dens.get (i := i) h2 (by simpa using e)
    exact ⟨w, by simpa using e1, h3⟩
theorem Dens.at : ∀ {l : List D} {vs : List V} {i : Nat} {v : V}, Dens B av H l vs → vs[i]? = some v → ∃ d, l[i]? = some d ∧ Den B av H d v
  | [], _, _, _, h, e => by cases h; simp at e
  | x :: l, vs, 0, v, h, e => by
    obtain ⟨w, r, rfl, h1, _⟩ := h
    simp at e
    subst e
    exact ⟨x, rfl, h1⟩
  | x :: l, vs, i + 1, v, h, e => by
    obtain ⟨w, r, rfl, _, h2⟩ := h
    obtain ⟨d, e1, h3⟩ := Dens.at (i := i) h2 (by simpa using e)
    exact ⟨d, by simpa using e1, h3⟩
theorem Dens.append : ∀ {l m : List D} {vs ws : List V}, Dens B av H l vs → Dens B av H m ws → Dens B av H (l ++ m) (vs ++ ws)
  | [], _, _, _, h, q => by cases h; exact q
  | d :: ds, _, _, _, h, q => by
    obtain ⟨v, r, rfl, h1, h2⟩ := h
    exact ⟨v, r ++ _, rfl, h1, Dens.append h2 q⟩
theorem Dens.take : ∀ {l : List D} {vs : List V} (n : Nat), Dens B av H l vs → Dens B av H (l.take n) (vs.take n)
  | [], _, _, h => by cases h; simp only [List.take_nil]; rfl
  | _ :: _, _, 0, _ => rfl
  | d :: ds, _, n + 1, h => by
    obtain ⟨v, r, rfl, h1, h2⟩ := h
    exact ⟨v, r.take n, rfl, h1, Dens.take n h2⟩
theorem Dens.drop : ∀ {l : List D} {vs : List V} (n : Nat), Dens B av H l vs → Dens B av H (l.drop n) (vs.drop n)
  | [], _, _, h => by cases h; simp only [List.drop_nil]; rfl
  | _ :: _, _, 0, h => h
  | d :: ds, _, n + 1, h => by
    obtain ⟨v, r, rfl, h1, h2⟩ := h
    exact Dens.drop n h2
theorem Dens.set : ∀ {l : List D} {vs : List V} (i : Nat) {d : D} {v : V}, Dens B av H l vs → Den B av H d v → Dens B av H (l.set i d) (vs.set i v)
  | [], _, _, _, _, h, _ => by cases h; rfl
  | _ :: _, _, 0, _, v', h, q => by
    obtain ⟨v, r, rfl, h1, h2⟩ := h
    exact ⟨v', r, rfl, q, h2⟩
  | x :: l, _, i + 1, d, v', h, q => by
    obtain ⟨v, r, rfl, h1, h2⟩ := h
    exact ⟨v, r.set i v', rfl, h1, Dens.set i h2 q⟩
theorem Dens.cut {l : List D} {vs : List V} (lo hi : Option Int) (h : Dens B av H l vs) : Dens B av H (cutD l lo hi) (cutV vs lo hi) := by
  unfold cutD cutV
  rw [h.length]
  exact (h.drop _).take _
theorem Dens.dropLast : ∀ {l : List D} {vs : List V}, Dens B av H l vs → Dens B av H l.dropLast vs.dropLast
  | l, vs, h => by
    rw [List.dropLast_eq_take, List.dropLast_eq_take, h.length]
    exact h.take _
theorem Dens.reverse : ∀ {l : List D} {vs : List V}, Dens B av H l vs → Dens B av H l.reverse vs.reverse
  | [], _, h => by cases h; rfl
  | d :: ds, _, h => by
    obtain ⟨v, r, rfl, h1, h2⟩ := h
    rw [List.reverse_cons, List.reverse_cons]
    exact (Dens.reverse h2).append ⟨v, [], rfl, h1, rfl⟩

/-- the value under a borrowed reference: an own list too -/
def DenB (B : Bs) (av : Addr → Prop) (H : Hp) (d : D) (v : V) : Prop := match d with
  | .lst l => ∃ a vs, v = .ref a ∧ SqL B.K H a vs ∧ Dens B av H l vs
  | .ins c ns l => ∃ a dx fs, v = .ref a ∧ H a = some (.ins (He.ga B.K c) dx fs) ∧ fs.map (·.1) = ns ∧ Dens B av H l (fs.map (·.2))
  | .dct ks l => ∃ a kvs, v = .ref a ∧ H a = some (.dK kvs) ∧ kvs.map (·.1) = ks ∧ Dens B av H l (kvs.map (·.2))
  | d => Den B av H d v
theorem Den.b {d : D} {v : V} (h : Den B av H d v) : DenB B av H d v := by
  cases d with
  | lst l => obtain ⟨a, vs, e, q, r⟩ := h; exact ⟨a, vs, e, q.seq, r⟩
  | ins c ns l => obtain ⟨a, dx, fs, e, _, q, z, r⟩ := h; exact ⟨a, dx, fs, e, q, z, r⟩
  | dct ks l => obtain ⟨a, kvs, e, _, q, z, r⟩ := h; exact ⟨a, kvs, e, q, z, r⟩
  | _ => exact h
theorem SqL.same {K : PySem.W.Frag} {a : Addr} {vs : List V} (h : SqL K H a vs) (s : Same H H') : SqL K H' a vs := s.seq h
theorem DenB.same {d : D} {v : V} (h : DenB B av H d v) (s : Same H H') : DenB B av H' d v := by
  cases d with
  | lst l => obtain ⟨a, vs, e, q, r⟩ := h; exact ⟨a, vs, e, SqL.same q s, r.same s⟩
  | ins c ns l => obtain ⟨a, dx, fs, e, q, z, r⟩ := h; exact ⟨a, dx, fs, e, s _ _ q, z, r.same s⟩
  | dct ks l => obtain ⟨a, kvs, e, q, z, r⟩ := h; exact ⟨a, kvs, e, s _ _ q, z, r.same s⟩
  | _ => exact Den.same (B := B) (av := av) h s

/-- a new list, dict or instance that nothing else names; H0: the heap ahead of it -/
def DenF (B : Bs) (av : Addr → Prop) (H0 H : Hp) (d : D) (v : V) : Prop := match d with
  | .lst l => ∃ a vs, v = .ref a ∧ H0 a = none ∧ H a = some (.lst vs) ∧ Dens B (fun b => av b ∨ b = a) H l vs
  | .ins c ns l => ∃ a dx fs, v = .ref a ∧ H0 a = none ∧ H a = some (.ins (He.ga B.K c) dx fs) ∧ fs.map (·.1) = ns ∧ Dens B (fun b => av b ∨ b = a) H l (fs.map (·.2))
  | .dct ks l => ∃ a kvs, v = .ref a ∧ H0 a = none ∧ H a = some (.dK kvs) ∧ kvs.map (·.1) = ks ∧ Dens B (fun b => av b ∨ b = a) H l (kvs.map (·.2))
  | _ => False
theorem Dens.weak {av2 : Addr → Prop} {l : List D} {vs : List V} (h : Dens B av H l vs) (ha : ∀ b, av2 b → av b) : Dens B av2 H l vs := Dens.mono (Same.refl H) (fun b q _ => ha b q) l vs h
theorem Den.weak {av2 : Addr → Prop} {d : D} {v : V} (h : Den B av H d v) (ha : ∀ b, av2 b → av b) : Den B av2 H d v := Den.mono (Same.refl H) (fun b q _ => ha b q) d v h
theorem DenF.den {H0 : Hp} {d : D} {v : V} (h : DenF B av H0 H d v) (ht : ∀ b, av b → H0 b ≠ none) : Den B av H d v := by
  cases d with
  | lst l =>
    obtain ⟨a, vs, e, n, q, r⟩ := h
    exact ⟨a, vs, e, .inl ⟨fun z => ht a z n, .inl q⟩, r.weak fun _ z => .inl z⟩
  | ins c ns l =>
    obtain ⟨a, dx, fs, e, n, q, z, r⟩ := h
    exact ⟨a, dx, fs, e, fun z => ht a z n, q, z, r.weak fun _ z => .inl z⟩
  | dct ks l =>
    obtain ⟨a, kvs, e, n, q, z, r⟩ := h
    exact ⟨a, kvs, e, fun z => ht a z n, q, z, r.weak fun _ z => .inl z⟩
  | _ => exact False.elim h
/-- a new object over what is denoted -/
theorem Dens.fresh {a : Addr} {o : HO} {l : List D} {vs : List V} (h : Dens B av H l vs) (n : H a = none) : Dens B (fun b => av b ∨ b = a) (L2.upd H a o) l vs :=
  Dens.mono (fun b u e => by rw [upd_ne (ne_of_none e n)]; exact e) (fun b q z => q.elim id fun e => absurd (e ▸ n) z) l vs h
theorem Same.upd {a : Addr} {o : HO} (n : H a = none) : Same H (L2.upd H a o) := fun b u e => by rw [upd_ne (ne_of_none e n)]; exact e
/-! only with no list within: nothing is avoided -/
mutual
theorem Den.noL {av2 : Addr → Prop} : ∀ (d : D) (v : V), Pv.noL d = true → Den B av H d v → Den B av2 H d v
  | .non, _, _, h => h
  | .bl _, _, _, h => h
  | .int _, _, _, h => h
  | .str _, _, _, h => h
  | .tup l, v, n, h => by
    obtain ⟨a, vs, e, q, r⟩ := h
    exact ⟨a, vs, e, q, Dens.noL l vs (by simpa [Pv.noL] using n) r⟩
  | .lst l, _, n, _ => by simp [Pv.noL] at n
  | .ins _ _ _, _, n, _ => by simp [Pv.noL] at n
  | .dct _ _, _, n, _ => by simp [Pv.noL] at n
  | .exc _ _ _, _, n, _ => by simp [Pv.noL] at n
theorem Dens.noL {av2 : Addr → Prop} : ∀ (l : List D) (vs : List V), noLs l = true → Dens B av H l vs → Dens B av2 H l vs
  | [], _, _, h => h
  | d :: ds, vs, n, h => by
    obtain ⟨v, r, e, h1, h2⟩ := h
    have n2 : Pv.noL d = true ∧ noLs ds = true := by simpa [noLs] using n
    exact ⟨v, r, e, Den.noL d v n2.1 h1, Dens.noL ds r n2.2 h2⟩
end
end

/-- an exception's class and own dict -/
def ExD (B : Bs) (av : Addr → Prop) (H : Hp) (x : Exc) (cv : Value) (dd : Option Addr) : Prop :=
  x.c ∈ B.xs ∧ cv = .ref (He.ga B.K x.c) ∧ ((x.ns = [] ∧ x.l = [] ∧ dd = none) ∨ ∃ dx fs, dd = some dx ∧ H dx = some (.xd fs) ∧ fs.map (·.1) = x.ns ∧ Dens B av H x.l (fs.map (·.2)))
theorem ExD.mono {B : Bs} {av av' : Addr → Prop} {H H' : Hp} {x : Exc} {cv : Value} {dd : Option Addr} (h : ExD B av H x cv dd) (s : Same H H') (ha : ∀ b, av' b → H b ≠ none → av b) : ExD B av' H' x cv dd := by
  obtain ⟨e0, e, h⟩ := h
  refine ⟨e0, e, ?_⟩
  rcases h with h | ⟨dx, fs, e1, e2, e3, r⟩
  · exact .inl h
  · exact .inr ⟨dx, fs, e1, s _ _ e2, e3, Dens.mono s ha _ _ r⟩
end Pv
set_option Elab.async false
set_option linter.all false
set_option maxRecDepth 100000
set_option maxHeartbeats 2000000
/-! Pv3: operations on values, sound. -/
namespace Pv
open PySem PySem.Spec PyProof.Rows L2

theorem lenOk_le {n : Nat} (h : lenOk n = true) : n ≤ sizeLine := of_decide_eq_true h

/-! ### rules by values -/
section
variable {X : Cx} {f : Value → Value → Sem Value} {r1 r2 : R2}
theorem OpR.or (h1 : OpR X f r1) (h2 : OpR X f r2) : OpR X f (fun x y H Q => r1 x y H Q ∨ r2 x y H Q) := fun pins s σ H x y v u Q I rx ry h =>
  h.elim (fun z => h1 pins s σ H x y v u Q I rx ry z) fun z => h2 pins s σ H x y v u Q I rx ry z
theorem OpR.imp (h1 : OpR X f r1) (h : ∀ x y H Q, r2 x y H Q → r1 x y H Q) : OpR X f r2 := fun pins s σ H x y v u Q I rx ry z =>
  h1 pins s σ H x y v u Q I rx ry (h _ _ _ _ z)
theorem CallR.or {f : Value} {r1 r2 : List V → Hp → VK → Prop} (h1 : CallR X f r1) (h2 : CallR X f r2) : CallR X f (fun x H Q => r1 x H Q ∨ r2 x H Q) := fun pins s σ H x v Q I rx h =>
  h.elim (fun z => h1 pins s σ H x v Q I rx z) fun z => h2 pins s σ H x v Q I rx z
theorem CallR.imp {f : Value} {r1 r2 : List V → Hp → VK → Prop} (h1 : CallR X f r1) (h : ∀ x H Q, r2 x H Q → r1 x H Q) : CallR X f r2 := fun pins s σ H x v Q I rx z =>
  h1 pins s σ H x v Q I rx (h _ _ _ z)
/-- lists that are read are put together -/
def rCatL (K : PySem.W.Frag) : R2 := fun x y H Q => ∃ l b xs zs, x = .ref l ∧ y = .ref b ∧ SqL K H l xs ∧ SqL K H b zs ∧ xs.length + zs.length ≤ sizeLine ∧ ∀ p, H p = none → Q (.ref p) (upd H p (.lst (xs ++ zs)))
theorem op_catL : OpR X (binaryOp .Add) (rCatL X.K) := by
  intro pins s σ H x y v u Q I rx ry h
  obtain ⟨l, b, xs, zs, rfl, rfl, hH, hB, hz, q⟩ := h
  cases rx
  cases ry
  obtain ⟨its, r, ⟨⟨cls, dd, data, sl⟩, n, ho, hc, hdd, hd⟩, z⟩ := I.list hH
  obtain ⟨its2, r2, ⟨⟨cls2, dd2, data2, sl2⟩, n2, ho2, hc2, hdd2, hd2⟩, z2⟩ := I.list hB
  simp only at hc hd hdd hc2 hd2 hdd2
  subst hc hd hdd hc2 hd2 hdd2
  have e : its.toArray ++ its2.toArray = (its ++ its2).toArray := by simp
  refine concat_meets ⟨_, ho, rfl⟩ ⟨_, ho2, rfl⟩ noFill_list_add seq_list_add PySem.F.slot_list_add PySem.F.entry_list_add (PySem.F.args_list_add_2 _ _) (list_addW l b its.toArray its2.toArray n n2 none none sl sl2 (by rw [List.size_toArray, List.size_toArray, ← r.length, ← r2.length]; exact hz)) ⟨ho, ho2, ?_⟩
  rw [e]
  exact ⟨.ref _, _, I.lnew (t' := s.toks) (r.append r2) (by rw [List.length_append]; omega), rfl, q _ I.fresh⟩
end

/-! ### what an operation gives -/
/-- a value that is new, if it is an object that may be changed -/
def DenR (B : Bs) (av : Addr → Prop) (H0 H : Hp) (d : D) (v : V) : Prop := Den B av H d v ∧ (isO d = true → DenF B av H0 H d v)
theorem DenR.scal {B : Bs} {av : Addr → Prop} {H0 H : Hp} {d : D} {v : V} (h : Den B av H d v) (n : isO d = false) : DenR B av H0 H d v := ⟨h, fun z => by rw [n] at z; cases z⟩
theorem DenR.lst {B : Bs} {av : Addr → Prop} {H : Hp} {l : List D} {vs : List V} {p : Addr} (h : Dens B av H l vs) (np : H p = none) (ht : ∀ b, av b → H b ≠ none) : DenR B av H (L2.upd H p (.lst vs)) (.lst l) (.ref p) := by
  have f : DenF B av H (L2.upd H p (.lst vs)) (.lst l) (.ref p) := ⟨p, vs, rfl, np, upd_same, Dens.fresh h np⟩
  exact ⟨f.den ht, fun _ => f⟩
theorem DenR.from {B : Bs} {av : Addr → Prop} {H0 H1 H : Hp} {d : D} {v : V} (h : DenR B av H1 H d v) (s : Same H0 H1) : DenR B av H0 H d v := by
  refine ⟨h.1, fun z => ?_⟩
  have q := h.2 z
  cases d with
  | lst l => obtain ⟨a, vs, e, n, r⟩ := q; exact ⟨a, vs, e, s.free n, r⟩
  | ins c ns l => obtain ⟨a, dx, fs, e, n, r⟩ := q; exact ⟨a, dx, fs, e, s.free n, r⟩
  | dct ks l => obtain ⟨a, kvs, e, n, r⟩ := q; exact ⟨a, kvs, e, s.free n, r⟩
  | _ => exact False.elim q
theorem Den.tupNew {B : Bs} {av : Addr → Prop} {H : Hp} {l : List D} {vs : List V} {p : Addr} (h : Dens B av H l vs) (np : H p = none) : Den B av (L2.upd H p (.tup vs)) (.tup l) (.ref p) :=
  ⟨p, vs, rfl, .inl (.inl upd_same), h.same (Same.upd np)⟩

/-- operators of binD -/
def opOf : Op → Operator
  | .add => .Add
  | .sub => .Sub
  | .mul => .Mult
  | .fdiv => .FloorDiv
  | .mod => .Mod
  | .pow => .Pow
  | .shl => .LShift
  | .shr => .RShift
  | .band => .BitAnd

/-- the rule by plain values -/
def rDD (B : Bs) (f : D → D → R D) : R2 := fun x y H Q => ∃ av d e r, (∀ b, av b → H b ≠ none) ∧ DenB B av H d x ∧ DenB B av H e y ∧ f d e = .ok r ∧ ∀ v H', Same H H' → DenR B av H H' r v → Q v H'

theorem if_ok {α : Type} {c : Bool} {a r : α} (h : (if c = true then R.ok a else R.bad) = R.ok r) : c = true ∧ a = r := by
  cases c with
  | true => exact ⟨rfl, by injection h⟩
  | false => cases h
theorem bt_eq (i : Int) : bt i = if i = 0 then 0 else i.natAbs.log2 + 1 := by
  unfold bt Builtin.Int.intBits
  by_cases h : i = 0
  · rw [h]
    rfl
  · rw [if_neg h, if_neg]
    intro z
    exact h (by simpa using z)
theorem divOk_ok {i j : Int} (h : divOk i j = true) : 0 < j ∧ Builtin.divisionGoesByPylong i j = false := by
  unfold divOk at h
  rw [Bool.and_eq_true, Bool.or_eq_true] at h
  obtain ⟨h1, h2⟩ := h
  have p : (0 : Int) < j := of_decide_eq_true h1
  have ej : bt j = j.natAbs.log2 + 1 := by
    rw [bt_eq, if_neg (by omega)]
  refine ⟨p, ?_⟩
  by_cases q : j.natAbs.log2 < 9000
  · exact PyProof.noPylong_of_log2 q
  · rcases h2 with h2 | h2
    · have z : bt j ≤ 9000 := of_decide_eq_true h2
      omega
    · have z : bt i ≤ 13000 := of_decide_eq_true h2
      refine (L2.divp_ok p ?_).2
      show bt i ≤ bt j + 4000
      omega

section
variable {X : Cx} {B : Bs}
theorem DenB.int_ {av : Addr → Prop} {H : Hp} {i : Int} {v : V} (h : DenB B av H (.int i) v) : v = .int i := h
theorem DenB.str_ {av : Addr → Prop} {H : Hp} {i : Str} {v : V} (h : DenB B av H (.str i) v) : v = .str i := h

theorem opr_bin (hK : X.K = B.K) : ∀ o : Op, OpR X (binaryOp (opOf o)) (rDD B (binD o))
  | .add => by
    refine OpR.imp (OpR.or op_add (OpR.or op_add_str (OpR.or op_catL op_catA))) fun x y H Q h => ?_
    obtain ⟨av, d, e, r, ht, hd, he, hr, q⟩ := h
    cases d <;> cases e <;> first | cases hr | skip
    · exact .inl ⟨_, _, hd, he, q _ H (Same.refl H) (DenR.scal rfl rfl)⟩
    · rename_i a b
      obtain ⟨z, rfl⟩ := if_ok hr
      exact .inr (.inl ⟨a, b, hd, he, lenOk_le z, q _ H (Same.refl H) (DenR.scal rfl rfl)⟩)
    · rename_i a b
      obtain ⟨z, rfl⟩ := if_ok hr
      obtain ⟨p1, vs1, rfl, q1, r1⟩ := hd
      obtain ⟨p2, vs2, rfl, q2, r2⟩ := he
      refine .inr (.inr (.inr ⟨p1, p2, vs1, vs2, rfl, rfl, by rw [hK]; exact q1, by rw [hK]; exact q2, by rw [r1.length, r2.length]; exact lenOk_le z, ?_, ?_, ?_⟩))
      · intro z1
        subst z1
        have : a = [] := List.eq_nil_of_length_eq_zero (by rw [← r1.length]; rfl)
        subst this
        exact q _ H (Same.refl H) (DenR.scal ⟨p2, vs2, rfl, q2, r2⟩ rfl)
      · intro _ z2
        subst z2
        have : b = [] := List.eq_nil_of_length_eq_zero (by rw [← r2.length]; rfl)
        subst this
        rw [List.append_nil] at q
        exact q _ H (Same.refl H) (DenR.scal ⟨p1, vs1, rfl, q1, r1⟩ rfl)
      · intro _ _ p hp
        exact q _ _ (Same.upd hp) (DenR.scal (Den.tupNew (r1.append r2) hp) rfl)
    · rename_i a b
      obtain ⟨z, rfl⟩ := if_ok hr
      obtain ⟨p1, vs1, rfl, q1, r1⟩ := hd
      obtain ⟨p2, vs2, rfl, q2, r2⟩ := he
      refine .inr (.inr (.inl ⟨p1, p2, vs1, vs2, rfl, rfl, by rw [hK]; exact q1, by rw [hK]; exact q2, by rw [r1.length, r2.length]; exact lenOk_le z, fun p hp => ?_⟩))
      exact q _ _ (Same.upd hp) (DenR.lst (r1.append r2) hp ht)
  | .sub => by
    refine OpR.imp op_sub fun x y H Q h => ?_
    obtain ⟨av, d, e, r, ht, hd, he, hr, q⟩ := h
    cases d <;> cases e <;> first | cases hr | skip
    exact ⟨_, _, hd, he, q _ H (Same.refl H) (DenR.scal rfl rfl)⟩
  | .mul => by
    refine OpR.imp op_mulX fun x y H Q h => ?_
    obtain ⟨av, d, e, r, ht, hd, he, hr, q⟩ := h
    cases d <;> cases e <;> first | cases hr | skip
    obtain ⟨z, rfl⟩ := if_ok hr
    have z2 := of_decide_eq_true z
    refine ⟨_, _, hd, he, ?_, q _ H (Same.refl H) (DenR.scal rfl rfl)⟩
    unfold CMulX
    unfold bt at z2
    omega
  | .fdiv => by
    have h0 : OpR X (binaryOp .FloorDiv) (rI CDivP fun i j => .int (i / j)) := opI fun i j _ _ _ _ _ hc q => by
      have h1 : (0 : Int) < j := hc.1
      exact floordiv_int (by omega) (by rw [Int.fdiv_eq_ediv_of_nonneg i (by omega)]; exact q) (.inl hc.2)
    refine OpR.imp h0 fun x y H Q h => ?_
    obtain ⟨av, d, e, r, ht, hd, he, hr, q⟩ := h
    cases d <;> cases e <;> first | cases hr | skip
    obtain ⟨z, rfl⟩ := if_ok hr
    exact ⟨_, _, hd, he, divOk_ok z, q _ H (Same.refl H) (DenR.scal rfl rfl)⟩
  | .mod => by
    refine OpR.imp op_mod fun x y H Q h => ?_
    obtain ⟨av, d, e, r, ht, hd, he, hr, q⟩ := h
    cases d <;> cases e <;> first | cases hr | skip
    obtain ⟨z, rfl⟩ := if_ok hr
    exact ⟨_, _, hd, he, of_decide_eq_true z, q _ H (Same.refl H) (DenR.scal rfl rfl)⟩
  | .pow => by
    refine OpR.imp op_pow fun x y H Q h => ?_
    obtain ⟨av, d, e, r, ht, hd, he, hr, q⟩ := h
    cases d <;> cases e <;> first | cases hr | skip
    obtain ⟨z, rfl⟩ := if_ok hr
    unfold powOk at z
    simp only [Bool.and_eq_true, decide_eq_true_eq] at z
    exact ⟨_, _, hd, he, ⟨z.1.1, z.1.2, z.2⟩, q _ H (Same.refl H) (DenR.scal rfl rfl)⟩
  | .shl => by
    refine OpR.imp op_shl fun x y H Q h => ?_
    obtain ⟨av, d, e, r, ht, hd, he, hr, q⟩ := h
    cases d <;> cases e <;> first | cases hr | skip
    obtain ⟨z, rfl⟩ := if_ok hr
    unfold powOk at z
    simp only [Bool.and_eq_true, decide_eq_true_eq] at z
    exact ⟨_, _, hd, he, ⟨z.1.1, z.1.2, z.2⟩, q _ H (Same.refl H) (DenR.scal rfl rfl)⟩
  | .shr => by
    refine OpR.imp op_shr fun x y H Q h => ?_
    obtain ⟨av, d, e, r, ht, hd, he, hr, q⟩ := h
    cases d <;> cases e <;> first | cases hr | skip
    obtain ⟨z, rfl⟩ := if_ok hr
    exact ⟨_, _, hd, he, of_decide_eq_true z, q _ H (Same.refl H) (DenR.scal rfl rfl)⟩
  | .band => by
    refine OpR.imp op_odd fun x y H Q h => ?_
    obtain ⟨av, d, e, r, ht, hd, he, hr, q⟩ := h
    cases d <;> cases e <;> first | cases hr | skip
    rename_i i j
    obtain ⟨z, rfl⟩ := if_ok hr
    simp only [Bool.and_eq_true, decide_eq_true_eq] at z
    obtain ⟨z1, rfl⟩ := z
    refine ⟨i.toNat, ?_, he, ?_⟩
    · rw [Int.toNat_of_nonneg z1]
      exact hd
    · have e2 : ((i.toNat % 2 : Nat) : Int) = i % 2 := by omega
      rw [e2]
      exact q _ H (Same.refl H) (DenR.scal rfl rfl)
end
end Pv
set_option Elab.async false
set_option linter.all false
set_option maxRecDepth 100000
set_option maxHeartbeats 2000000
/-! Pv4: comparisons, subscripts, built-ins on values, sound. -/
namespace Pv
open PySem PySem.Spec PyProof.Rows L2

/-- the rule by plain values, of a comparison -/
def rCC (B : Bs) (f : D → D → R Bool) : R2 := fun x y H Q => ∃ av d e t, DenB B av H d x ∧ DenB B av H e y ∧ f d e = .ok t ∧ Q (.bl t) H

theorem R.bind_eq {α β : Type} {r : R α} {f : α → R β} {b : β} (h : r.bind f = .ok b) : ∃ a, r = .ok a ∧ f a = .ok b := by
  cases r with
  | ok a => exact ⟨a, rfl, h⟩
  | exn x => cases h
  | bad => cases h
theorem oR_eq {α : Type} {o : Option α} {a : α} (h : oR o = .ok a) : o = some a := by
  cases o with
  | none => cases h
  | some b => injection h with h; rw [h]

theorem toPs_map : ∀ l : List D, toPs l = l.map toP
  | [] => rfl
  | d :: l => by rw [toPs, toPs_map l]; rfl
mutual
theorem dp_of {B : Bs} {av : Addr → Prop} {H : Hp} : ∀ (d : D) (v : V), (toP d).canLay0 = true → Den B av H d v → Dp B.K H v (toP d)
  | .non, _, _, h => by cases h; exact .non
  | .bl b, _, _, h => by cases h; exact .bl b
  | .int i, _, _, h => by cases h; exact .int i
  | .str s, _, _, h => by cases h; exact .str s
  | .tup l, v, c, h => by
    obtain ⟨a, vs, rfl, q, r⟩ := h
    exact .tup q (dps_of l vs (by simpa [toP, PyData.canLay0] using c) r)
  | .lst l, v, c, h => by
    obtain ⟨a, vs, rfl, q, r⟩ := h
    exact .lst q.seq (dps_of l vs (by simpa [toP, PyData.canLay0] using c) r)
  | .ins _ _ _, _, c, _ => by simp [toP, PyData.canLay0] at c
  | .dct _ _, _, c, _ => by simp [toP, PyData.canLay0] at c
  | .exc _ _ _, _, c, _ => by simp [toP, PyData.canLay0] at c
theorem dps_of {B : Bs} {av : Addr → Prop} {H : Hp} : ∀ (l : List D) (vs : List V), PyData.canLayAll0 (toPs l) = true → Dens B av H l vs → DpAll B.K H vs (toPs l)
  | [], _, _, h => by cases h; exact .nil
  | d :: ds, _, c, h => by
    obtain ⟨v, r, rfl, h1, h2⟩ := h
    have c2 : (toP d).canLay0 = true ∧ PyData.canLayAll0 (toPs ds) = true := by simpa [toPs, PyData.canLayAll0] using c
    exact .cons (dp_of d v c2.1 h1) (dps_of ds r c2.2 h2)
end
theorem dpB_of {B : Bs} {av : Addr → Prop} {H : Hp} {d : D} {v : V} (c : shp d = true) (h : DenB B av H d v) : Dp B.K H v (toP d) := by
  have c := SeqAt.canLay_of_shaped c
  cases d with
  | lst l =>
    obtain ⟨a, vs, rfl, q, r⟩ := h
    exact .lst q (dps_of l vs (by simpa [toP, PyData.canLay0] using c) r)
  | ins _ _ _ => simp [toP, PyData.canLay0] at c
  | dct _ _ => simp [toP, PyData.canLay0] at c
  | exc _ _ _ => simp [toP, PyData.canLay0] at c
  | _ => exact dp_of (B := B) (av := av) _ v c h

theorem eqD_ok {d e : D} {t : Bool} (h : eqD d e = .ok t) : shp d = true ∧ shp e = true ∧ eqP d e = t := by
  obtain ⟨h1, h2⟩ := if_ok h
  rw [Bool.and_eq_true] at h1
  exact ⟨h1.1, h1.2, h2⟩
theorem flatV_of {B : Bs} {av : Addr → Prop} {H : Hp} {d : D} {v : V} (f : flat d = true) (h : Den B av H d v) : flatV v = true := by
  cases d <;> first | (cases f; done) | (cases h; rfl)
theorem flatB_of {B : Bs} {av : Addr → Prop} {H : Hp} {d : D} {v : V} (f : flat d = true) (h : DenB B av H d v) : flatV v = true ∧ Den B av H d v := by
  cases d <;> first | (cases f; done) | exact ⟨flatV_of (B := B) (av := av) (H := H) f h, h⟩
theorem flatVs_of {B : Bs} {av : Addr → Prop} {H : Hp} : ∀ {l : List D} {vs : List V}, l.all flat = true → Dens B av H l vs → vs.all flatV = true
  | [], _, _, h => by cases h; rfl
  | d :: ds, _, f, h => by
    obtain ⟨v, r, rfl, h1, h2⟩ := h
    rw [List.all_cons, Bool.and_eq_true] at f
    rw [List.all_cons, flatV_of f.1 h1, flatVs_of f.2 h2]
    rfl
theorem eqV_eqP {B : Bs} {av : Addr → Prop} {H : Hp} {d e : D} {v w : V} (fd : flat d = true) (fe : flat e = true) (hd : Den B av H d v) (he : Den B av H e w) : eqV v w = eqP d e := by
  cases d <;> first | (cases fd; done) | skip
  all_goals (cases hd; cases e <;> first | (cases fe; done) | skip)
  all_goals (cases he; first | rfl | simp [eqV, eqP, toP, PyData.eqv])
theorem inV_any {B : Bs} {av : Addr → Prop} {H : Hp} {x : D} {v : V} (fx : flat x = true) (hx : Den B av H x v) : ∀ {l : List D} {vs : List V}, l.all flat = true → Dens B av H l vs → inV v vs = l.any fun z => eqP z x
  | [], _, _, h => by cases h; rfl
  | d :: ds, _, f, h => by
    obtain ⟨u, r, rfl, h1, h2⟩ := h
    rw [List.all_cons, Bool.and_eq_true] at f
    have ih := inV_any fx hx f.2 h2
    unfold inV at ih ⊢
    rw [List.any_cons, List.any_cons, ih, eqV_eqP f.1 fx h1 hx]
theorem inD_ok {x : D} {l : List D} {t : Bool} (h : inD x l = .ok t) : shp x = true ∧ shp (.lst l) = true ∧ (l.any fun z => eqP z x) = t := by
  obtain ⟨h1, h2⟩ := if_ok h
  rw [Bool.and_eq_true] at h1
  exact ⟨h1.1, h1.2, h2⟩

theorem key_of {B : Bs} {av : Addr → Prop} {H : Hp} {d : D} {v : V} {k : Sum Int Str} (h : keyOf d = some k) (hd : DenB B av H d v) : v = kV k := by
  cases d <;> first | (cases h; done) | skip
  · injection h with h
    subst h
    exact hd
  · injection h with h
    subst h
    exact hd
theorem valV_get {B : Bs} {av : Addr → Prop} {H : Hp} (k : Sum Int Str) : ∀ {l : List D} {kvs : List (Key × V)}, Dens B av H l (kvs.map (·.2)) →
    (getKey (kvs.map (·.1)) l k = none ∧ valV kvs k = none) ∨ ∃ d v, getKey (kvs.map (·.1)) l k = some d ∧ valV kvs k = some v ∧ Den B av H d v
  | [], [], h => .inl ⟨rfl, rfl⟩
  | [], _ :: _, h => by cases h
  | d :: l, [], h => by
    obtain ⟨v, r, e, _⟩ := h
    cases e
  | d :: l, p :: kvs, h => by
    obtain ⟨v, r, e, h1, h2⟩ := h
    have e' : p.2 :: kvs.map (·.2) = v :: r := e
    injection e' with e1 e2
    subst e1 e2
    by_cases z : p.1 = k
    · refine .inr ⟨d, p.2, ?_, valV_pos z, h1⟩
      unfold getKey
      simp [z]
    · rcases valV_get k h2 with ⟨g1, g2⟩ | ⟨d', v', g1, g2, g3⟩
      · refine .inl ⟨?_, by rw [valV_neg z]; exact g2⟩
        unfold getKey at g1 ⊢
        simpa [z] using g1
      · refine .inr ⟨d', v', ?_, by rw [valV_neg z]; exact g2, g3⟩
        unfold getKey at g1 ⊢
        simpa [z] using g1
theorem hasKey_val (k : Sum Int Str) : ∀ kvs : List (Key × V), hasKey (kvs.map (·.1)) k = (valV kvs k).isSome
  | [] => rfl
  | p :: r => by
    have ih := hasKey_val k r
    unfold hasKey at ih ⊢
    rw [List.map_cons, List.any_cons, ih]
    by_cases z : p.1 = k
    · rw [valV_pos z]
      simp [z]
    · rw [valV_neg z]
      simp [z]

section
variable {X : Cx} {B : Bs}
/-- a key in a dict -/
def rInK (neg : Bool) : R2 := fun y x H Q => ∃ a o, x = .ref a ∧ DGet H a y o ∧ Q (.bl (if neg then !o.isSome else o.isSome)) H
theorem op_inK (hu : X.A.units + 1 < cLine) : OpR X (compareOp .In) (rInK false) := by
  intro pins s σ H y x v u Q I ry rx h
  obtain ⟨a, o, rfl, g, q⟩ := h
  cases rx
  exact d_in hu I g ry fun s' I' => ⟨.bl _, H, I', rfl, q⟩
theorem op_notInK (hu : X.A.units + 1 < cLine) : OpR X (compareOp .NotIn) (rInK true) := by
  intro pins s σ H y x v u Q I ry rx h
  obtain ⟨a, o, rfl, g, q⟩ := h
  cases rx
  exact d_notIn hu I g ry fun s' I' => ⟨.bl _, H, I', rfl, q⟩

def cmOf : Cm → CmpOp
  | .eq => .Eq
  | .ne => .NotEq
  | .lt => .Lt
  | .le => .LtE
  | .gt => .Gt
  | .ge => .GtE
  | .isN => .Is
  | .notN => .IsNot
  | .isin => .In
  | .notin => .NotIn
  | .is_ => .Is
  | .isnot => .IsNot
theorem any_toPs (x : D) : ∀ l : List D, ((toPs l).any fun z => PyData.eqv z (toP x)) = l.any fun z => eqP z x
  | [] => rfl
  | d :: l => by rw [toPs, List.any_cons, List.any_cons, any_toPs x l]; rfl
theorem inC_ok {x c : D} {t : Bool} (h : inC x c = .ok t) : (∃ l, c = .lst l ∧ inD x l = .ok t) ∨ (∃ l, c = .tup l ∧ flat x = true ∧ l.all flat = true ∧ inD x l = .ok t) ∨ (∃ ks l k, c = .dct ks l ∧ keyOf x = some k ∧ hasKey ks k = t) := by
  cases c <;> first | (cases h; done) | skip
  · rename_i l
    refine .inr (.inl ⟨l, rfl, ?_⟩)
    have h' : (if (flat x && l.all flat) = true then inD x l else .bad) = .ok t := h
    by_cases z : (flat x && l.all flat) = true
    · rw [if_pos z] at h'
      rw [Bool.and_eq_true] at z
      exact ⟨z.1, z.2, h'⟩
    · rw [if_neg z] at h'
      cases h'
  · rename_i l
    exact .inl ⟨l, rfl, h⟩
  · rename_i ks l
    have h' : (match keyOf x with | some k => R.ok (hasKey ks k) | none => .bad) = .ok t := h
    cases z : keyOf x with
    | none => rw [z] at h'; cases h'
    | some k =>
      rw [z] at h'
      exact .inr (.inr ⟨ks, l, k, rfl, rfl, by injection h'⟩)

theorem opr_cmp (hK : X.K = B.K) (hu : X.A.units + 200 < cLine) : ∀ o : Cm, OpR X (compareOp (cmOf o)) (rCC B (cmpD o))
  | .eq => by
    refine OpR.imp (op_eqD (by omega)) fun x y H Q h => ?_
    obtain ⟨av, d, e, t, hd, he, hr, q⟩ := h
    obtain ⟨sd, se, rfl⟩ := eqD_ok hr
    exact ⟨_, _, by rw [hK]; exact dpB_of sd hd, by rw [hK]; exact dpB_of se he, sd, se, q⟩
  | .ne => by
    refine OpR.imp (op_neD (by omega)) fun x y H Q h => ?_
    obtain ⟨av, d, e, t, hd, he, hr, q⟩ := h
    obtain ⟨t', h1, h2⟩ := R.bind_eq (show (eqD d e).bind _ = _ from hr)
    obtain ⟨sd, se, rfl⟩ := eqD_ok h1
    injection h2 with h2
    subst h2
    exact ⟨_, _, by rw [hK]; exact dpB_of sd hd, by rw [hK]; exact dpB_of se he, sd, se, q⟩
  | .lt => by
    refine OpR.imp op_lt fun x y H Q h => ?_
    obtain ⟨av, d, e, t, hd, he, hr, q⟩ := h
    cases d <;> cases e <;> first | (cases hr; done) | skip
    cases hr
    exact ⟨_, _, hd, he, q⟩
  | .le => by
    refine OpR.imp op_le fun x y H Q h => ?_
    obtain ⟨av, d, e, t, hd, he, hr, q⟩ := h
    cases d <;> cases e <;> first | (cases hr; done) | skip
    cases hr
    exact ⟨_, _, hd, he, q⟩
  | .gt => by
    refine OpR.imp op_gt fun x y H Q h => ?_
    obtain ⟨av, d, e, t, hd, he, hr, q⟩ := h
    cases d <;> cases e <;> first | (cases hr; done) | skip
    cases hr
    exact ⟨_, _, hd, he, q⟩
  | .ge => by
    refine OpR.imp op_ge fun x y H Q h => ?_
    obtain ⟨av, d, e, t, hd, he, hr, q⟩ := h
    cases d <;> cases e <;> first | (cases hr; done) | skip
    cases hr
    exact ⟨_, _, hd, he, q⟩
  | .isN => by
    refine OpR.imp op_isN fun x y H Q h => ?_
    obtain ⟨av, d, e, t, hd, he, hr, q⟩ := h
    cases e <;> first | (cases d <;> cases hr; done) | skip
    refine ⟨he, ?_⟩
    cases d
    case non =>
      cases hr
      cases hd
      exact q
    all_goals (cases hr; first | (exact False.elim hd) | (cases hd; exact q) | (obtain ⟨a, _, rfl, _⟩ := hd; exact q) | (obtain ⟨a, _, _, rfl, _⟩ := hd; exact q))
  | .notN => by
    refine OpR.imp op_notN fun x y H Q h => ?_
    obtain ⟨av, d, e, t, hd, he, hr, q⟩ := h
    cases e <;> first | (cases d <;> cases hr; done) | skip
    refine ⟨he, ?_⟩
    cases d
    case non =>
      cases hr
      cases hd
      exact q
    all_goals (cases hr; first | (exact False.elim hd) | (cases hd; exact q) | (obtain ⟨a, _, rfl, _⟩ := hd; exact q) | (obtain ⟨a, _, _, rfl, _⟩ := hd; exact q))
  | .isin => by
    refine OpR.imp (OpR.or (op_inD (by omega)) (OpR.or op_in_seq (op_inK (by omega)))) fun x y H Q h => ?_
    obtain ⟨av, d, e, t, hd, he, hr, q⟩ := h
    rcases inC_ok hr with ⟨l, rfl, h1⟩ | ⟨l, rfl, f1, f2, h1⟩ | ⟨ks, l, k, rfl, h1, rfl⟩
    · obtain ⟨sd, se, rfl⟩ := inD_ok h1
      refine .inl ⟨toP d, toPs l, by rw [hK]; exact dpB_of sd hd, by rw [hK]; exact dpB_of se he, sd, se, ?_⟩
      rw [any_toPs]
      exact q
    · obtain ⟨sd, se, rfl⟩ := inD_ok h1
      obtain ⟨a, vs, rfl, q1, r1⟩ := he
      obtain ⟨fv, hd'⟩ := flatB_of f1 hd
      refine .inr (.inl ⟨a, vs, rfl, .inr (by rw [hK]; exact q1), fv, flatVs_of f2 r1, ?_⟩)
      rw [if_neg Bool.false_ne_true, inV_any f1 hd' f2 r1]
      exact q
    · obtain ⟨a, kvs, rfl, q1, rfl, r1⟩ := he
      refine .inr (.inr ⟨a, valV kvs k, rfl, ?_, ?_⟩)
      · rw [key_of h1 hd]
        exact DGet.k q1
      · rw [if_neg Bool.false_ne_true, ← hasKey_val]
        exact q
  | .notin => by
    refine OpR.imp (OpR.or (op_notInD (by omega)) (OpR.or op_notIn_seq (op_notInK (by omega)))) fun x y H Q h => ?_
    obtain ⟨av, d, e, t, hd, he, hr, q⟩ := h
    obtain ⟨t', hr1, hr2⟩ := R.bind_eq (show (inC d e).bind _ = _ from hr)
    injection hr2 with hr2
    subst hr2
    rcases inC_ok hr1 with ⟨l, rfl, h1⟩ | ⟨l, rfl, f1, f2, h1⟩ | ⟨ks, l, k, rfl, h1, rfl⟩
    · obtain ⟨sd, se, rfl⟩ := inD_ok h1
      refine .inl ⟨toP d, toPs l, by rw [hK]; exact dpB_of sd hd, by rw [hK]; exact dpB_of se he, sd, se, ?_⟩
      rw [any_toPs]
      exact q
    · obtain ⟨sd, se, rfl⟩ := inD_ok h1
      obtain ⟨a, vs, rfl, q1, r1⟩ := he
      obtain ⟨fv, hd'⟩ := flatB_of f1 hd
      refine .inr (.inl ⟨a, vs, rfl, .inr (by rw [hK]; exact q1), fv, flatVs_of f2 r1, ?_⟩)
      rw [if_pos rfl, inV_any f1 hd' f2 r1]
      exact q
    · obtain ⟨a, kvs, rfl, q1, rfl, r1⟩ := he
      refine .inr (.inr ⟨a, valV kvs k, rfl, ?_, ?_⟩)
      · rw [key_of h1 hd]
        exact DGet.k q1
      · rw [if_pos rfl, ← hasKey_val]
        exact q
  | .is_ => fun _ _ _ _ _ _ _ _ _ _ _ _ h => by
    obtain ⟨av, d, e, t, hd, he, hr, q⟩ := h
    cases d <;> cases e <;> cases hr
  | .isnot => fun _ _ _ _ _ _ _ _ _ _ _ _ h => by
    obtain ⟨av, d, e, t, hd, he, hr, q⟩ := h
    cases d <;> cases e <;> cases hr
end
end Pv
set_option Elab.async false
set_option linter.all false
set_option maxRecDepth 100000
set_option maxHeartbeats 2000000
/-! Pv5: subscripts, slices, built-ins, sound. -/
namespace PySem
open AutoSeq1 (wpAny_loadPart')
section
variable {prog : Program} {w : World} {A : Around} {E : Value → Shared → Prop} {s : Shared}
/-- a list, a tuple taken out, the heap told -/
theorem collect_seqX {Q : List Value → Shared → Prop} (it : Addr) {T : String} {o : Obj} {items : Array Value} {n : Nat} (hT : T = "list" ∨ T = "tuple")
    (ho : s.heap.get? it = some o) (hc : o.cls = .type T) (hd : o.data = .seq items n)
    (hQ : Q items.toList { s with heap := (s.heap.push { cls := .type "list", data := .seq #[] 0 }).update s.heap.objs.size (Obj.mapSeq (· ++ items)) }) (hsz : items.size ≤ sizeLine) :
    wpAny (model prog w) A (collect (.ref it)) Q E s := by
  unfold collect
  refine wpAny_bind (wpAny_runValue (codeAny_builtin F.entry_proto_collect ?_))
  rw [Around.under_plainId F.plain_proto_collect _]
  show wpAny _ A.in1 (newList [] >>= fun l => again (.builtin "list.__iadd__" ⟨[l, .ref it], []⟩)) _ _ s
  refine wpAny_bind (wpAny_newObj_type ?_)
  refine wpAny_pure ⟨plainId_quiet F.plain_list_iadd _, codeAny_builtin F.entry_list_iadd ?_⟩
  rw [Around.under_plainId F.plain_list_iadd _]
  show wpAny _ A.in1 (Builtin.List.listExtendWith (.ref s.heap.objs.size) (.ref it) (.ref s.heap.objs.size)) _ _ _
  have hS : (s.heap.push { cls := .type "list", data := .seq ([] : List Value).toArray }).get? s.heap.objs.size = some { cls := .type "list", data := .seq #[] 0 } := Heap.get?_push_size _ rfl
  have hS₂ := Heap.get?_update_self (Obj.mapSeq (· ++ items)) hS rfl
  have fin' : wpAny (model prog w) A (match Value.ref s.heap.objs.size with
      | Value.ref a => do
        match (← load a).data with
          | Data.seq xs _ => pure xs.toList
          | _ => unsupported "internal:collect"
      | _ => unsupported "internal:collect") Q E { s with heap := (s.heap.push { cls := .type "list", data := .seq ([] : List Value).toArray }).update s.heap.objs.size (Obj.mapSeq (· ++ items)) } := by
    show wpAny _ A (load s.heap.objs.size >>= _) _ _ _
    refine wpAny_bind (wpAny_load hS₂ ?_)
    refine wpAny_pure ?_
    have e : ((#[] : Array Value) ++ items).toList = items.toList := by simp
    show Q ((#[] : Array Value) ++ items).toList _
    rw [e]
    exact hQ
  refine wpAny_mono (wpAny_extend_seq (hsz := hsz) (A := A) (R := fun r s' => r = .ok (.ret (.ref s.heap.objs.size)) ∧ s' = { s with heap := (s.heap.push { cls := .type "list", data := .seq ([] : List Value).toArray }).update s.heap.objs.size (Obj.mapSeq (· ++ items)) })
    (s := { s with heap := s.heap.push { cls := .type "list", data := .seq ([] : List Value).toArray } }) _ it _ 0 hT hS (Heap.get?_push_of_some _ ho) hc hd ⟨rfl, rfl⟩) (fun fin s' h => ?_) (fun e s' h => ?_)
  · cases fin with
    | done f =>
      obtain ⟨e, rfl⟩ := h
      cases e
      exact fin'
    | again c' => exact ⟨h.1, codeAny_mono h.2 fun r s'' hr => by obtain ⟨rfl, rfl⟩ := hr; exact fin'⟩
  · exact absurd h.1 (by simp)
end
end PySem
namespace SrtO
open PySem PyProof.Rows Srt
section
variable {prog : Program} {w : World} {A : Around} {E : Value → Shared → Prop} {s : Shared}
/-- as sorted_ord, of a tuple too -/
theorem sorted_ordT {l : Addr} {vs : List Value} {ltv : Value → Value → Bool} {Q : Value → Shared → Prop} {T : String} {o : Obj} {n : Nat} (O : Swo ltv) (hT : T = "list" ∨ T = "tuple")
    (ho : s.heap.get? l = some o) (hc : o.cls = .type T) (hd : o.data = .seq vs.toArray n) (hz : vs.length ≤ sizeLine)
    (hS : 2 ≤ vs.length → ∀ (h₁ : Heap) (a : Addr), h₁.get? a = some (seqObj "list" vs.toArray 0) → (∀ b o, s.heap.get? b = some o → b ≠ a ∧ h₁.get? b = some o) → SortableO prog w A.in1.in1 { s with heap := h₁ } a vs ltv)
    (h : ∀ out : List Value, Srtd ltv out → Stb ltv out vs → Q (.ref (s.heap.objs.size + 1)) { s with heap := sortedAll s.heap vs out.toArray }) :
    wpAny (model prog w) A (call (.builtin "sorted") [.ref l]) Q E s := by
  refine Calls.call_function_entry kind_sorted plain_sorted entry_sorted (args_sorted1 _) ?_
  unfold Builtin.«sorted»
  refine wpAny_bind (m := checkCount "sorted" 1 1 _) (wpAny_pure ?_)
  refine wpAny_bind (collect_seqX l hT ho hc hd ?_ (by rw [List.size_toArray]; exact hz))
  refine wpAny_bind (wpAny_newList ?_ hz)
  have hsz : ((s.heap.push (seqObj "list" #[] 0)).update s.heap.objs.size (Obj.mapSeq (· ++ vs.toArray))).objs.size = s.heap.objs.size + 1 := by
    rw [Heap.size_update, size_push']
  have hoL : (((s.heap.push (seqObj "list" #[] 0)).update s.heap.objs.size (Obj.mapSeq (· ++ vs.toArray))).push (seqObj "list" vs.toArray 0)).get? (s.heap.objs.size + 1) = some (seqObj "list" vs.toArray 0) := by
    rw [← hsz]; exact Heap.get?_push_size _ rfl
  have keep : ∀ b o, s.heap.get? b = some o → b ≠ s.heap.objs.size + 1 ∧ (((s.heap.push (seqObj "list" #[] 0)).update s.heap.objs.size (Obj.mapSeq (· ++ vs.toArray))).push (seqObj "list" vs.toArray 0)).get? b = some o := fun b o q => by
    have hlt : b < s.heap.objs.size := Heap.lt_size q
    refine ⟨Nat.ne_of_lt (Nat.lt_succ_of_lt hlt), Heap.get?_push_of_some _ ?_⟩
    rw [Heap.get?_update_ne _ _ _ _ (Nat.ne_of_lt hlt)]
    exact Heap.get?_push_of_some _ q
  show wpAny _ _ _ _ _ { s with heap := ((s.heap.push (seqObj "list" #[] 0)).update s.heap.objs.size (Obj.mapSeq (· ++ vs.toArray))).push (seqObj "list" vs.toArray 0) }
  rw [hsz]
  refine wpAny_bind (wpAny_holding (wpAny_call_entry slot_list_sort ⟨_, hoL, rfl⟩ entry_list_sort (list_sort_ord O hoL hz (fun h2 => hS h2 _ _ hoL keep) fun out hs hb => ⟨_, rfl, ?_⟩) (args_list_sort _)))
  exact wpAny_pure ⟨_, rfl, h out hs hb⟩
end
end SrtO
namespace Pv
open PySem PySem.Spec PyProof.Rows L2

def DensB (B : Bs) (av : Addr → Prop) (H : Hp) : List D → List V → Prop
  | [], vs => vs = []
  | d :: ds, vs => ∃ v r, vs = v :: r ∧ DenB B av H d v ∧ DensB B av H ds r
theorem DensB.same {B : Bs} {av : Addr → Prop} {H H' : Hp} (s : Same H H') : ∀ {l : List D} {vs : List V}, DensB B av H l vs → DensB B av H' l vs
  | [], _, h => h
  | d :: ds, _, h => by
    obtain ⟨v, r, e, h1, h2⟩ := h
    exact ⟨v, r, e, h1.same s, DensB.same s h2⟩
theorem Dens.b {B : Bs} {av : Addr → Prop} {H : Hp} : ∀ {l : List D} {vs : List V}, Dens B av H l vs → DensB B av H l vs
  | [], _, h => h
  | d :: ds, _, h => by
    obtain ⟨v, r, e, h1, h2⟩ := h
    exact ⟨v, r, e, h1.b, Dens.b h2⟩
/-- a call's rule by plain values -/
def rLL (B : Bs) (f : List D → R D) : List V → Hp → VK → Prop := fun vs H Q => ∃ av ds r, (∀ b, av b → H b ≠ none) ∧ DensB B av H ds vs ∧ f ds = .ok r ∧ ∀ v H', Same H H' → DenR B av H H' r v → Q v H'
/-- .. of one value -/
def rL1 (B : Bs) (f : D → R D) : V → Hp → VK → Prop := fun x H Q => ∃ av d r, (∀ b, av b → H b ≠ none) ∧ DenB B av H d x ∧ f d = .ok r ∧ ∀ v H', Same H H' → DenR B av H H' r v → Q v H'

theorem ints_of {B : Bs} {av : Addr → Prop} {H : Hp} : ∀ {l : List D} {vs : List V} {ns : List Int}, intsOf l = some ns → Dens B av H l vs → vs = ns.map V.int
  | [], _, _, e, h => by cases h; cases e; rfl
  | d :: ds, _, ns, e, h => by
    obtain ⟨v, r, rfl, h1, h2⟩ := h
    cases d <;> first | (cases e; done) | skip
    rename_i i
    have e' : (intsOf ds).map (i :: ·) = some ns := e
    cases q : intsOf ds with
    | none => rw [q] at e'; cases e'
    | some ms =>
      rw [q] at e'
      cases e'
      rw [ints_of q h2]
      cases h1
      rfl
theorem bls_of {B : Bs} {av : Addr → Prop} {H : Hp} : ∀ {l : List D} {vs : List V} {ns : List Bool}, blsOf l = some ns → Dens B av H l vs → vs = ns.map V.bl
  | [], _, _, e, h => by cases h; cases e; rfl
  | d :: ds, _, ns, e, h => by
    obtain ⟨v, r, rfl, h1, h2⟩ := h
    cases d <;> first | (cases e; done) | skip
    rename_i i
    have e' : (blsOf ds).map (i :: ·) = some ns := e
    cases q : blsOf ds with
    | none => rw [q] at e'; cases e'
    | some ms =>
      rw [q] at e'
      cases e'
      rw [bls_of q h2]
      cases h1
      rfl
theorem dens_ints {B : Bs} {av : Addr → Prop} {H : Hp} : ∀ ns : List Int, Dens B av H (ns.map D.int) (ns.map V.int)
  | [] => rfl
  | n :: ns => ⟨_, _, rfl, rfl, dens_ints ns⟩
theorem intsOf_map : ∀ ns : List Int, intsOf (ns.map D.int) = some ns
  | [] => rfl
  | n :: ns => by
    show (intsOf (ns.map D.int)).map (n :: ·) = _
    rw [intsOf_map ns]
    rfl
theorem blsOf_map : ∀ ns : List Bool, blsOf (ns.map D.bl) = some ns
  | [] => rfl
  | n :: ns => by
    show (blsOf (ns.map D.bl)).map (n :: ·) = _
    rw [blsOf_map ns]
    rfl
theorem foldl_min_le : ∀ (l : List Int) (a : Int), l.foldl min a ≤ a ∧ (∀ y ∈ l, l.foldl min a ≤ y) ∧ (l.foldl min a = a ∨ l.foldl min a ∈ l)
  | [], a => ⟨Int.le_refl _, fun y h => absurd h List.not_mem_nil, .inl rfl⟩
  | x :: l, a => by
    obtain ⟨h1, h2, h3⟩ := foldl_min_le l (min a x)
    refine ⟨by rw [List.foldl_cons]; omega, fun y hy => ?_, ?_⟩
    · rw [List.foldl_cons]
      rcases List.mem_cons.mp hy with e | hy
      · subst e
        omega
      · exact h2 y hy
    · rw [List.foldl_cons]
      rcases h3 with h3 | h3
      · rw [h3]
        by_cases z : a ≤ x
        · exact .inl (by omega)
        · refine .inr ?_
          have : min a x = x := by omega
          rw [this]
          exact List.mem_cons_self
      · exact .inr (List.mem_cons_of_mem _ h3)
theorem foldl_max_le : ∀ (l : List Int) (a : Int), a ≤ l.foldl max a ∧ (∀ y ∈ l, y ≤ l.foldl max a) ∧ (l.foldl max a = a ∨ l.foldl max a ∈ l)
  | [], a => ⟨Int.le_refl _, fun y h => absurd h List.not_mem_nil, .inl rfl⟩
  | x :: l, a => by
    obtain ⟨h1, h2, h3⟩ := foldl_max_le l (max a x)
    refine ⟨by rw [List.foldl_cons]; omega, fun y hy => ?_, ?_⟩
    · rw [List.foldl_cons]
      rcases List.mem_cons.mp hy with e | hy
      · subst e
        omega
      · exact h2 y hy
    · rw [List.foldl_cons]
      rcases h3 with h3 | h3
      · rw [h3]
        by_cases z : x ≤ a
        · exact .inl (by omega)
        · refine .inr ?_
          have : max a x = x := by omega
          rw [this]
          exact List.mem_cons_self
      · exact .inr (List.mem_cons_of_mem _ h3)
theorem minI_is {ns : List Int} {m m' : Int} (h : minI ns = some m) (h1 : m' ∈ ns) (h2 : ∀ y ∈ ns, m' ≤ y) : m' = m := by
  cases ns with
  | nil => cases h
  | cons a l =>
    have h : l.foldl min a = m := by injection h
    obtain ⟨q1, q2, q3⟩ := foldl_min_le l a
    rw [h] at q1 q2 q3
    have e1 : m ≤ m' := by
      rcases List.mem_cons.mp h1 with e | e
      · rw [e]; exact q1
      · exact q2 _ e
    have e2 : m' ≤ m := by
      rcases q3 with e | e
      · rw [e]; exact h2 a List.mem_cons_self
      · exact h2 m (List.mem_cons_of_mem _ e)
    omega
theorem maxI_is {ns : List Int} {m m' : Int} (h : maxI ns = some m) (h1 : m' ∈ ns) (h2 : ∀ y ∈ ns, y ≤ m') : m' = m := by
  cases ns with
  | nil => cases h
  | cons a l =>
    have h : l.foldl max a = m := by injection h
    obtain ⟨q1, q2, q3⟩ := foldl_max_le l a
    rw [h] at q1 q2 q3
    have e1 : m' ≤ m := by
      rcases List.mem_cons.mp h1 with e | e
      · rw [e]; exact q1
      · exact q2 _ e
    have e2 : m ≤ m' := by
      rcases q3 with e | e
      · rw [e]; exact h2 a List.mem_cons_self
      · exact h2 m (List.mem_cons_of_mem _ e)
    omega
theorem minI_len {ns : List Int} {m : Int} (h : minI ns = some m) : 0 < ns.length := by
  cases ns with
  | nil => cases h
  | cons a l => simp
theorem maxI_len {ns : List Int} {m : Int} (h : maxI ns = some m) : 0 < ns.length := by
  cases ns with
  | nil => cases h
  | cons a l => simp
theorem sortI_perm (ns : List Int) : (sortI ns).Perm ns := List.mergeSort_perm _ _
theorem sortI_sorted (ns : List Int) : (sortI ns).Pairwise (· ≤ ·) := by
  have h := List.pairwise_mergeSort (le := fun a b : Int => decide (a ≤ b)) (fun a b c h1 h2 => by
    have h1 := of_decide_eq_true h1
    have h2 := of_decide_eq_true h2
    exact decide_eq_true (by omega)) (fun a b => by
    by_cases z : a ≤ b
    · simp [z]
    · simp
      omega) ns
  exact h.imp fun h => of_decide_eq_true h
theorem sortI_is {ns ns' : List Int} (h1 : ns'.Perm ns) (h2 : ns'.Pairwise (· ≤ ·)) : ns' = sortI ns := PySem.W.ksm_same (h1.trans (sortI_perm ns).symm) h2 (sortI_sorted ns)

section
variable {X : Cx} {B : Bs}
/-- sorted(x) of a list, a tuple -/
def rSortedS2 (K : PySem.W.Frag) : List V → Hp → VK → Prop := fun vs H Q => ∃ (a : Addr) (ns : List Int), vs = [V.ref a] ∧ (SqL K H a (ns.map V.int) ∨ SqT K H a (ns.map V.int)) ∧
  ∀ p : Addr, H p = none → Q (.ref p) (upd H p (.lst ((sortI ns).map V.int)))
theorem cr_sortedT : CallR X (.builtin "sorted") (rSortedS2 X.K) := by
  intro pins s σ H vs us Q I r h
  obtain ⟨a, ns, rfl, hs, q⟩ := h
  rw [Vals.ref1 r]
  have fin : ∀ {its : List Value}, Vals (ns.map V.int) its → (ns.map V.int).length ≤ sizeLine → ∀ (T : String) (o : Obj) (n : Nat), T = "list" ∨ T = "tuple" → s.heap.get? a = some o → o.cls = .type T → o.data = .seq its.toArray n →
      wpAny (model X.prog X.w) X.A (call (.builtin "sorted") [.ref a]) (EP X pins σ Q) X.xe s := fun {its} rv hz T o n hT ho hc hd => by
    have hi := rv.ints
    refine SrtO.sorted_ordT SrtO.swo_int hT ho hc hd (by rw [← rv.length]; exact hz) (fun h2 h₁ a' _ _ => SrtO.ints_sortable hi h2) fun out h1 h2 => ?_
    obtain ⟨k1, k2, k3⟩ := SrtO.ints_out hi h1 h2
    obtain ⟨ep, he'⟩ := PyProof.Rows.sortedAll_at s.heap its out.toArray
    have hlen : ((out.map SrtO.iv).map V.int).length ≤ sizeLine := by
      rw [List.length_map, k2.length_eq]
      rw [List.length_map] at hz
      exact hz
    refine ⟨.ref _, upd H (s.heap.objs.size + 1) (.lst ((out.map SrtO.iv).map V.int)), I.laid (t' := s.toks) (fun _ _ => PyProof.Rows.sortedAll_old) (Nat.le_succ _) ⟨hlen, out, ep, vals_of_ints k1, he'⟩, rfl, ?_⟩
    rw [sortI_is k2 k3]
    exact q _ (I.hok.fresh (Nat.le_succ _))
  rcases hs with hs | hs
  · obtain ⟨its, rv, ⟨o, n, h1, h2, _, h3⟩, hz⟩ := I.list hs
    exact fin rv hz "list" o n (.inl rfl) h1 h2 h3
  · obtain ⟨its, rv, ⟨o, h1, h2, n, h3⟩, hz⟩ := I.tuple hs
    exact fin rv hz "tuple" o n (.inr rfl) h1 h2 h3
/-- sum(t), a tuple -/
def rSumT (K : PySem.W.Frag) : List V → Hp → VK → Prop := fun vs H Q => ∃ (a : Addr) (ns : List Int), vs = [V.ref a] ∧ SqT K H a (ns.map V.int) ∧ Q (.int ns.sum) H
theorem cr_sumT (hc : X.calm = true) : CallR X (.builtin "sum") (rSumT X.K) := by
  intro pins s σ H vs us Q I r h
  obtain ⟨a, ns, rfl, hs, q⟩ := h
  obtain ⟨its, rv, hl, _⟩ := I.tuple hs
  rw [Vals.ref1 r]
  have hi := rv.ints
  obtain ⟨xs, e⟩ := hi.allInts.items
  have hn : numsOf (intItems xs).toList = ns := by rw [← e]; exact hi.numsOf
  rw [nums_intItems] at hn
  rw [e] at hl
  refine PySem.W.ktm_sumG (I.ok.hd hc) hl fun h' tk t' hk => ?_
  rw [preSum_eq, List.take_of_length_le (by simp), hn]
  exact ⟨.int _, H, I.kept hk, ⟨_, rfl⟩, q⟩
end
end Pv
set_option Elab.async false
set_option linter.all false
set_option maxRecDepth 100000
set_option maxHeartbeats 2000000
/-! Pv6: the built-ins by plain values; subscripts, slices. -/
namespace Pv
open PySem PySem.Spec PyProof.Rows L2

def blVal : Bl → Value
  | .len => .builtin "len"
  | .tuple => .type "tuple"
  | .list => .type "list"
  | .sum => .builtin "sum"
  | .all => .builtin "all"
  | .any => .builtin "any"
  | .abs => .builtin "abs"
  | .int => .type "int"
  | .str => .type "str"
  | .min => .builtin "min"
  | .max => .builtin "max"
  | .min2 => .builtin "min"
  | .max2 => .builtin "max"
  | .sorted => .builtin "sorted"
  | .gcd => .builtin "math.gcd"
  | .lcm => .builtin "math.lcm"
  | .repr => .builtin "repr"
  | .chr => .builtin "chr"
  | .ord => .builtin "ord"
  | .bool => .type "bool"
def blHot : Bl → Bool
  | .sum | .all | .any | .min | .max | .min2 | .max2 => false
  | _ => true

theorem DensB.one {B : Bs} {av : Addr → Prop} {H : Hp} {d : D} {vs : List V} (h : DensB B av H [d] vs) : ∃ v, vs = [v] ∧ DenB B av H d v := by
  obtain ⟨v, r, rfl, h1, h2⟩ := h
  cases h2
  exact ⟨v, rfl, h1⟩
theorem DensB.two {B : Bs} {av : Addr → Prop} {H : Hp} {d e : D} {vs : List V} (h : DensB B av H [d, e] vs) : ∃ v w, vs = [v, w] ∧ DenB B av H d v ∧ DenB B av H e w := by
  obtain ⟨v, r, rfl, h1, h2⟩ := h
  obtain ⟨w, rfl, h3⟩ := h2.one
  exact ⟨v, w, rfl, h1, h3⟩

theorem bl_len_ok {ds : List D} {r : D} (h : bl_len ds = .ok r) : (∃ l, ds = [.lst l] ∧ (.ok (.int l.length) : R D) = .ok r) ∨ (∃ l, ds = [.tup l] ∧ (.ok (.int l.length) : R D) = .ok r) ∨ (∃ s, ds = [.str s] ∧ (if lenOk s.length then .ok (.int s.length) else .bad : R D) = .ok r) ∨ (∃ ks u0, ds = [.dct ks u0] ∧ (.ok (.int ks.length) : R D) = .ok r) := by
  unfold bl_len at h
  split at h
  · exact .inl ⟨_, rfl, h⟩
  · exact .inr (.inl ⟨_, rfl, h⟩)
  · exact .inr (.inr (.inl ⟨_, rfl, h⟩))
  · exact .inr (.inr (.inr (⟨_, _, rfl, h⟩)))
  · cases h
theorem bl_tuple_ok {ds : List D} {r : D} (h : bl_tuple ds = .ok r) : (∃ l, ds = [.lst l] ∧ (.ok (.tup l) : R D) = .ok r) ∨ (∃ l, ds = [.tup l] ∧ (.ok (.tup l) : R D) = .ok r) := by
  unfold bl_tuple at h
  split at h
  · exact .inl ⟨_, rfl, h⟩
  · exact .inr (⟨_, rfl, h⟩)
  · cases h
theorem bl_list_ok {ds : List D} {r : D} (h : bl_list ds = .ok r) : (∃ l, ds = [.lst l] ∧ (.ok (.lst l) : R D) = .ok r) ∨ (∃ l, ds = [.tup l] ∧ (.ok (.lst l) : R D) = .ok r) := by
  unfold bl_list at h
  split at h
  · exact .inl ⟨_, rfl, h⟩
  · exact .inr (⟨_, rfl, h⟩)
  · cases h
theorem bl_sum_ok {ds : List D} {r : D} (h : bl_sum ds = .ok r) : (∃ l, ds = [.lst l] ∧ ((oR (intsOf l)).bind fun ns => .ok (.int ns.sum) : R D) = .ok r) := by
  unfold bl_sum at h
  split at h
  · exact ⟨_, rfl, h⟩
  · cases h
theorem bl_all_ok {ds : List D} {r : D} (h : bl_all ds = .ok r) : (∃ l, ds = [.lst l] ∧ ((oR (blsOf l)).bind fun ns => .ok (.bl (ns.all id)) : R D) = .ok r) := by
  unfold bl_all at h
  split at h
  · exact ⟨_, rfl, h⟩
  · cases h
theorem bl_any_ok {ds : List D} {r : D} (h : bl_any ds = .ok r) : (∃ l, ds = [.lst l] ∧ ((oR (blsOf l)).bind fun ns => .ok (.bl (ns.any id)) : R D) = .ok r) := by
  unfold bl_any at h
  split at h
  · exact ⟨_, rfl, h⟩
  · cases h
theorem bl_abs_ok {ds : List D} {r : D} (h : bl_abs ds = .ok r) : (∃ i, ds = [.int i] ∧ (.ok (.int (if i < 0 then -i else i)) : R D) = .ok r) := by
  unfold bl_abs at h
  split at h
  · exact ⟨_, rfl, h⟩
  · cases h
theorem bl_int_ok {ds : List D} {r : D} (h : bl_int ds = .ok r) : (∃ i, ds = [.int i] ∧ (.ok (.int i) : R D) = .ok r) ∨ (∃ b, ds = [.bl b] ∧ (.ok (.int (if b then 1 else 0)) : R D) = .ok r) := by
  unfold bl_int at h
  split at h
  · exact .inl ⟨_, rfl, h⟩
  · exact .inr (⟨_, rfl, h⟩)
  · cases h
theorem bl_str_ok {ds : List D} {r : D} (h : bl_str ds = .ok r) : (∃ i, ds = [.int i] ∧ (if decide (i.natAbs.log2 < 1920) then .ok (.str (toString i)) else .bad : R D) = .ok r) := by
  unfold bl_str at h
  split at h
  · exact ⟨_, rfl, h⟩
  · cases h
theorem bl_min_ok {ds : List D} {r : D} (h : bl_min ds = .ok r) : (∃ l, ds = [.lst l] ∧ ((oR (intsOf l)).bind fun ns => (oR (minI ns)).bind fun m => .ok (.int m) : R D) = .ok r) := by
  unfold bl_min at h
  split at h
  · exact ⟨_, rfl, h⟩
  · cases h
theorem bl_max_ok {ds : List D} {r : D} (h : bl_max ds = .ok r) : (∃ l, ds = [.lst l] ∧ ((oR (intsOf l)).bind fun ns => (oR (maxI ns)).bind fun m => .ok (.int m) : R D) = .ok r) := by
  unfold bl_max at h
  split at h
  · exact ⟨_, rfl, h⟩
  · cases h
theorem bl_min2_ok {ds : List D} {r : D} (h : bl_min2 ds = .ok r) : (∃ i j, ds = [.int i, .int j] ∧ (.ok (.int (if j < i then j else i)) : R D) = .ok r) := by
  unfold bl_min2 at h
  split at h
  · exact ⟨_, _, rfl, h⟩
  · cases h
theorem bl_max2_ok {ds : List D} {r : D} (h : bl_max2 ds = .ok r) : (∃ i j, ds = [.int i, .int j] ∧ (.ok (.int (if j > i then j else i)) : R D) = .ok r) := by
  unfold bl_max2 at h
  split at h
  · exact ⟨_, _, rfl, h⟩
  · cases h
theorem bl_sorted_ok {ds : List D} {r : D} (h : bl_sorted ds = .ok r) : (∃ l, ds = [.lst l] ∧ ((oR (intsOf l)).bind fun ns => .ok (.lst ((sortI ns).map D.int)) : R D) = .ok r) ∨ (∃ l, ds = [.tup l] ∧ ((oR (intsOf l)).bind fun ns => .ok (.lst ((sortI ns).map D.int)) : R D) = .ok r) := by
  unfold bl_sorted at h
  split at h
  · exact .inl ⟨_, rfl, h⟩
  · exact .inr (⟨_, rfl, h⟩)
  · cases h
theorem bl_gcd_ok {ds : List D} {r : D} (h : bl_gcd ds = .ok r) : (∃ i j, ds = [.int i, .int j] ∧ (.ok (.int (Nat.gcd i.natAbs j.natAbs : Nat)) : R D) = .ok r) := by
  unfold bl_gcd at h
  split at h
  · exact ⟨_, _, rfl, h⟩
  · cases h
section
variable {X : Cx} {B : Bs}
theorem call_len_dct : CallR X (.builtin "len") (fun xs H Q => ∃ a kvs, xs = [.ref a] ∧ H a = some (.dK kvs) ∧ Q (.int (kvs.length : Nat)) H) := by
  intro pins s σ H xs us Q I r h
  obtain ⟨a, kvs, rfl, e, q⟩ := h
  rw [Vals.ref1 r]
  exact d_len I (.inl e) fun t s' I' => ⟨.int kvs.length, H, I', ⟨t, rfl⟩, q⟩
theorem rLL.imp {f : List D → R D} {vs : List V} {H : Hp} {Q : VK} (h : rLL B f vs H Q) : ∃ av ds r, (∀ b, av b → H b ≠ none) ∧ DensB B av H ds vs ∧ f ds = .ok r ∧ ∀ v H', Same H H' → DenR B av H H' r v → Q v H' := h

theorem cr_bl (hK : X.K = B.K) : ∀ b : Bl, (blHot b = false → X.calm = true) → CallR X (blVal b) (rLL B (blD b))
  | .len, _ => by
    refine CallR.imp (CallR.or call_len_seq (CallR.or call_len_str call_len_dct)) fun vs H Q h => ?_
    obtain ⟨av, ds, r, ht, hd, hr, q⟩ := h
    rcases bl_len_ok hr with ⟨l, rfl, hr⟩ | ⟨l, rfl, hr⟩ | ⟨s, rfl, hr⟩ | ⟨ks, u0, rfl, hr⟩
    · obtain ⟨v, rfl, a, xs, rfl, q1, r1⟩ := hd.one
      injection hr with hr
      subst hr
      exact .inl ⟨a, xs, rfl, .inl (by rw [hK]; exact q1), by rw [r1.length]; exact q _ H (Same.refl H) (DenR.scal rfl rfl)⟩
    · obtain ⟨v, rfl, a, xs, rfl, q1, r1⟩ := hd.one
      injection hr with hr
      subst hr
      exact .inl ⟨a, xs, rfl, .inr (by rw [hK]; exact q1), by rw [r1.length]; exact q _ H (Same.refl H) (DenR.scal rfl rfl)⟩
    · obtain ⟨v, rfl, e⟩ := hd.one
      cases e
      obtain ⟨z1, rfl⟩ := if_ok hr
      exact .inr (.inl ⟨s, rfl, lenOk_le z1, q _ H (Same.refl H) (DenR.scal rfl rfl)⟩)
    · obtain ⟨v, rfl, a, kvs, rfl, q1, rfl, r1⟩ := hd.one
      injection hr with hr
      subst hr
      exact .inr (.inr ⟨a, kvs, rfl, q1, by rw [List.length_map] at q; exact q _ H (Same.refl H) (DenR.scal rfl rfl)⟩)
  | .tuple, _ => by
    refine CallR.imp call_tuple_of fun vs H Q h => ?_
    obtain ⟨av, ds, r, ht, hd, hr, q⟩ := h
    rcases bl_tuple_ok hr with ⟨l, rfl, hr⟩ | ⟨l, rfl, hr⟩
    · obtain ⟨v, rfl, a, xs, rfl, q1, r1⟩ := hd.one
      injection hr with hr
      subst hr
      exact ⟨a, xs, rfl, .inl ⟨by rw [hK]; exact q1, fun p hp => q _ _ (Same.upd hp) (DenR.scal (Den.tupNew r1 hp) rfl)⟩⟩
    · obtain ⟨v, rfl, a, xs, rfl, q1, r1⟩ := hd.one
      injection hr with hr
      subst hr
      exact ⟨a, xs, rfl, .inr ⟨by rw [hK]; exact q1, q _ H (Same.refl H) (DenR.scal ⟨a, xs, rfl, q1, r1⟩ rfl)⟩⟩
  | .list, _ => by
    refine CallR.imp call_list_of fun vs H Q h => ?_
    obtain ⟨av, ds, r, ht, hd, hr, q⟩ := h
    rcases bl_list_ok hr with ⟨l, rfl, hr⟩ | ⟨l, rfl, hr⟩
    · obtain ⟨v, rfl, a, xs, rfl, q1, r1⟩ := hd.one
      injection hr with hr
      subst hr
      exact ⟨a, xs, rfl, .inl (by rw [hK]; exact q1), fun p hp => q _ _ (Same.upd hp) (DenR.lst r1 hp ht)⟩
    · obtain ⟨v, rfl, a, xs, rfl, q1, r1⟩ := hd.one
      injection hr with hr
      subst hr
      exact ⟨a, xs, rfl, .inr (by rw [hK]; exact q1), fun p hp => q _ _ (Same.upd hp) (DenR.lst r1 hp ht)⟩
  | .sum, hc => by
    refine CallR.imp (CallR.or (cr_sum (hc rfl)) (cr_sumT (hc rfl))) fun vs H Q h => ?_
    obtain ⟨av, ds, r, ht, hd, hr, q⟩ := h
    obtain ⟨l, rfl, hr⟩ := bl_sum_ok hr
    obtain ⟨v, rfl, a, xs, rfl, q1, r1⟩ := hd.one
    obtain ⟨ns, e1, e2⟩ := R.bind_eq (show (oR (intsOf l)).bind _ = _ from hr)
    injection e2 with e2
    subst e2
    have e3 := ints_of (oR_eq e1) r1
    subst e3
    exact .inl ⟨a, ns, rfl, by rw [hK]; exact q1, q _ H (Same.refl H) (DenR.scal rfl rfl)⟩
  | .all, hc => by
    refine CallR.imp (cr_all (hc rfl)) fun vs H Q h => ?_
    obtain ⟨av, ds, r, ht, hd, hr, q⟩ := h
    obtain ⟨l, rfl, hr⟩ := bl_all_ok hr
    obtain ⟨v, rfl, a, xs, rfl, q1, r1⟩ := hd.one
    obtain ⟨ns, e1, e2⟩ := R.bind_eq (show (oR (blsOf l)).bind _ = _ from hr)
    injection e2 with e2
    subst e2
    have e3 := bls_of (oR_eq e1) r1
    subst e3
    exact ⟨a, ns, rfl, by rw [hK]; exact q1, q _ H (Same.refl H) (DenR.scal rfl rfl)⟩
  | .any, hc => by
    refine CallR.imp (cr_any (hc rfl)) fun vs H Q h => ?_
    obtain ⟨av, ds, r, ht, hd, hr, q⟩ := h
    obtain ⟨l, rfl, hr⟩ := bl_any_ok hr
    obtain ⟨v, rfl, a, xs, rfl, q1, r1⟩ := hd.one
    obtain ⟨ns, e1, e2⟩ := R.bind_eq (show (oR (blsOf l)).bind _ = _ from hr)
    injection e2 with e2
    subst e2
    have e3 := bls_of (oR_eq e1) r1
    subst e3
    exact ⟨a, ns, rfl, by rw [hK]; exact q1, q _ H (Same.refl H) (DenR.scal rfl rfl)⟩
  | .abs, _ => by
    refine CallR.imp call_abs fun vs H Q h => ?_
    obtain ⟨av, ds, r, ht, hd, hr, q⟩ := h
    obtain ⟨i, rfl, hr⟩ := bl_abs_ok hr
    obtain ⟨v, rfl, e⟩ := hd.one
    cases e
    injection hr with hr
    subst hr
    exact ⟨i, rfl, q _ H (Same.refl H) (DenR.scal rfl rfl)⟩
  | .int, _ => by
    refine CallR.imp call_int1 fun vs H Q h => ?_
    obtain ⟨av, ds, r, ht, hd, hr, q⟩ := h
    rcases bl_int_ok hr with ⟨i, rfl, hr⟩ | ⟨b, rfl, hr⟩
    · obtain ⟨v, rfl, e⟩ := hd.one
      cases e
      injection hr with hr
      subst hr
      exact .inl ⟨i, rfl, q _ H (Same.refl H) (DenR.scal rfl rfl)⟩
    · obtain ⟨v, rfl, e⟩ := hd.one
      cases e
      injection hr with hr
      subst hr
      exact .inr ⟨b, rfl, q _ H (Same.refl H) (DenR.scal rfl rfl)⟩
  | .str, _ => by
    refine CallR.imp call_str_int fun vs H Q h => ?_
    obtain ⟨av, ds, r, ht, hd, hr, q⟩ := h
    obtain ⟨i, rfl, hr⟩ := bl_str_ok hr
    obtain ⟨v, rfl, e⟩ := hd.one
    cases e
    obtain ⟨z, rfl⟩ := if_ok hr
    exact ⟨i, rfl, of_decide_eq_true z, q _ H (Same.refl H) (DenR.scal rfl rfl)⟩
  | .min, hc => by
    refine CallR.imp (cr_min (hc rfl)) fun vs H Q h => ?_
    obtain ⟨av, ds, r, ht, hd, hr, q⟩ := h
    obtain ⟨l, rfl, hr⟩ := bl_min_ok hr
    obtain ⟨v, rfl, a, xs, rfl, q1, r1⟩ := hd.one
    obtain ⟨ns, e1, e2⟩ := R.bind_eq (show (oR (intsOf l)).bind _ = _ from hr)
    obtain ⟨m, e4, e5⟩ := R.bind_eq e2
    injection e5 with e5
    subst e5
    have e3 := ints_of (oR_eq e1) r1
    subst e3
    refine ⟨a, ns, rfl, by rw [hK]; exact q1, minI_len (oR_eq e4), fun m' h1 h2 => ?_⟩
    rw [minI_is (oR_eq e4) h1 h2]
    exact q _ H (Same.refl H) (DenR.scal rfl rfl)
  | .max, hc => by
    refine CallR.imp (cr_max (hc rfl)) fun vs H Q h => ?_
    obtain ⟨av, ds, r, ht, hd, hr, q⟩ := h
    obtain ⟨l, rfl, hr⟩ := bl_max_ok hr
    obtain ⟨v, rfl, a, xs, rfl, q1, r1⟩ := hd.one
    obtain ⟨ns, e1, e2⟩ := R.bind_eq (show (oR (intsOf l)).bind _ = _ from hr)
    obtain ⟨m, e4, e5⟩ := R.bind_eq e2
    injection e5 with e5
    subst e5
    have e3 := ints_of (oR_eq e1) r1
    subst e3
    refine ⟨a, ns, rfl, by rw [hK]; exact q1, maxI_len (oR_eq e4), fun m' h1 h2 => ?_⟩
    rw [maxI_is (oR_eq e4) h1 h2]
    exact q _ H (Same.refl H) (DenR.scal rfl rfl)
  | .min2, hc => by
    refine CallR.imp (call_min2 (hc rfl)) fun vs H Q h => ?_
    obtain ⟨av, ds, r, ht, hd, hr, q⟩ := h
    obtain ⟨i, j, rfl, hr⟩ := bl_min2_ok hr
    obtain ⟨v, w, rfl, e1, e2⟩ := hd.two
    cases e1
    cases e2
    injection hr with hr
    subst hr
    exact ⟨i, j, rfl, q _ H (Same.refl H) (DenR.scal rfl rfl)⟩
  | .max2, hc => by
    refine CallR.imp (call_max2 (hc rfl)) fun vs H Q h => ?_
    obtain ⟨av, ds, r, ht, hd, hr, q⟩ := h
    obtain ⟨i, j, rfl, hr⟩ := bl_max2_ok hr
    obtain ⟨v, w, rfl, e1, e2⟩ := hd.two
    cases e1
    cases e2
    injection hr with hr
    subst hr
    exact ⟨i, j, rfl, q _ H (Same.refl H) (DenR.scal rfl rfl)⟩
  | .sorted, _ => by
    refine CallR.imp cr_sortedT fun vs H Q h => ?_
    obtain ⟨av, ds, r, ht, hd, hr, q⟩ := h
    rcases bl_sorted_ok hr with ⟨l, rfl, hr⟩ | ⟨l, rfl, hr⟩
    · obtain ⟨v, rfl, a, xs, rfl, q1, r1⟩ := hd.one
      obtain ⟨ns, e1, e2⟩ := R.bind_eq (show (oR (intsOf l)).bind _ = _ from hr)
      injection e2 with e2
      subst e2
      have e3 := ints_of (oR_eq e1) r1
      subst e3
      exact ⟨a, ns, rfl, .inl (by rw [hK]; exact q1), fun p hp => q _ _ (Same.upd hp) (DenR.lst (dens_ints _) hp ht)⟩
    · obtain ⟨v, rfl, a, xs, rfl, q1, r1⟩ := hd.one
      obtain ⟨ns, e1, e2⟩ := R.bind_eq (show (oR (intsOf l)).bind _ = _ from hr)
      injection e2 with e2
      subst e2
      have e3 := ints_of (oR_eq e1) r1
      subst e3
      exact ⟨a, ns, rfl, .inr (by rw [hK]; exact q1), fun p hp => q _ _ (Same.upd hp) (DenR.lst (dens_ints _) hp ht)⟩
  | .gcd, _ => by
    refine CallR.imp cr_gcd fun vs H Q h => ?_
    obtain ⟨av, ds, r, ht, hd, hr, q⟩ := h
    obtain ⟨i, j, rfl, hr⟩ := bl_gcd_ok hr
    obtain ⟨v, w, rfl, e1, e2⟩ := hd.two
    cases e1
    cases e2
    injection hr with hr
    subst hr
    exact ⟨i, j, rfl, q _ H (Same.refl H) (DenR.scal rfl rfl)⟩
  | .lcm, _ => fun _ _ _ _ _ _ _ _ _ h => by
    obtain ⟨av, ds, r, ht, hd, hr, q⟩ := h
    cases hr
  | .repr, _ => fun _ _ _ _ _ _ _ _ _ h => by
    obtain ⟨av, ds, r, ht, hd, hr, q⟩ := h
    cases hr
  | .chr, _ => fun _ _ _ _ _ _ _ _ _ h => by
    obtain ⟨av, ds, r, ht, hd, hr, q⟩ := h
    cases hr
  | .ord, _ => fun _ _ _ _ _ _ _ _ _ h => by
    obtain ⟨av, ds, r, ht, hd, hr, q⟩ := h
    cases hr
  | .bool, _ => fun _ _ _ _ _ _ _ _ _ h => by
    obtain ⟨av, ds, r, ht, hd, hr, q⟩ := h
    cases hr

/-! ### subscripts -/
theorem ix_dct (hu : X.A.units + 1 < cLine) : IxR X (fun x y H Q => ∃ a v, x = .ref a ∧ DGet H a y (some v) ∧ Q v H) := by
  intro value slice pins s σ H x y v u Q I rx ry h hs
  obtain ⟨a, z, rfl, g, q⟩ := h
  cases rx
  have hT := dict_typeIs I g
  unfold subscriptTail
  refine wpAny_bind ?_
  rw [getitemInPython_of_ne hT.not_modules]
  refine wpAny_bind (wpAny_specialOf hT PySem.F.slot_dict_getitem.lookup ?_)
  have fin : wpAny (model X.prog X.w) X.A (subscripted slice false (.ref a) u) (fun r s₃ => wpAny (model X.prog X.w) X.A (letTemporaryGo value (.ref a) r >>= fun _ => pure r) (EP X pins σ Q) X.xe s₃) X.xe s := by
    rw [hs]
    exact wpAny_operating (wpAny_mono (d_getItem hu I g ry fun w' s' I' r' => (show EP X pins σ Q w' s' from ⟨z, H, I', r', q⟩)) (fun r s₃ h₃ => wpAny_bind (wpAny_letTemporaryGo (wpAny_pure h₃))) fun _ _ x => x)
  first
    | exact wpAny_pure (wpAny_bind fin)
    | exact wpAny_bind (wpAny_pure (wpAny_bind fin))
    | exact wpAny_bind fin
theorem atI_dens {B : Bs} {av : Addr → Prop} {H : Hp} {l : List D} {vs : List V} {i : Int} {d : D} (h : Dens B av H l vs) (e : atI l i = some d) : ∃ v, atI vs i = some v ∧ Den B av H d v := by
  unfold atI at e ⊢
  rw [h.length]
  cases q : ixN l.length i with
  | none => rw [q] at e; cases e
  | some j =>
    rw [q] at e
    exact h.get e
/-- IxR by plain values -/
def rDX (B : Bs) (f : D → D → R D) : R2 := fun x y H Q => ∃ av d e r, DenB B av H d x ∧ DenB B av H e y ∧ f d e = .ok r ∧ ∀ v, Den B av H r v → Q v H
theorem ixD_ok {d e r : D} (h : ixD d e = .ok r) : (∃ l i, d = .lst l ∧ e = .int i ∧ atI l i = some r) ∨ (∃ l i, d = .tup l ∧ e = .int i ∧ atI l i = some r) ∨
    (∃ z i c, d = .str z ∧ e = .int i ∧ atI z.cps.toList i = some c ∧ z.length ≤ sizeLine ∧ D.str ⟨#[c]⟩ = r) ∨ ∃ ks l k, d = .dct ks l ∧ keyOf e = some k ∧ getKey ks l k = some r := by
  unfold ixD at h
  split at h
  · split at h
    · rename_i d' e'
      injection h with h
      subst h
      exact .inl ⟨_, _, rfl, rfl, e'⟩
    · cases h
  · split at h
    · rename_i d' e'
      injection h with h
      subst h
      exact .inr (.inl ⟨_, _, rfl, rfl, e'⟩)
    · cases h
  · split at h
    · rename_i d' e'
      obtain ⟨z1, z2⟩ := if_ok h
      exact .inr (.inr (.inl ⟨_, _, _, rfl, rfl, e', lenOk_le z1, z2⟩))
    · cases h
  · split at h
    · rename_i e'
      split at h
      · rename_i e2
        injection h with h
        subst h
        exact .inr (.inr (.inr ⟨_, _, _, rfl, e', e2⟩))
      · cases h
    · cases h
  · cases h
theorem ixr (hK : X.K = B.K) (hu : X.A.units + 1 < cLine) : IxR X (rDX B ixD) := by
  have h0 := IxR.or ix_list (IxR.or ix_tup (IxR.or ix_str (ix_dct hu)))
  intro value slice pins s σ H x y v u Q I rx ry h hs
  refine h0 value slice pins s σ H x y v u Q I rx ry ?_ hs
  obtain ⟨av, d, e, r, hd, he, hr, q⟩ := h
  rcases ixD_ok hr with ⟨l, i, rfl, rfl, z⟩ | ⟨l, i, rfl, rfl, z⟩ | ⟨z, i, c, rfl, rfl, y, z1, rfl⟩ | ⟨ks, l, k, rfl, z, y⟩
  · obtain ⟨a, xs, rfl, q1, r1⟩ := hd
    obtain ⟨w, e1, e2⟩ := atI_dens r1 z
    exact .inl ⟨a, xs, i, w, rfl, he, by rw [hK]; exact q1, e1, q _ e2⟩
  · obtain ⟨a, xs, rfl, q1, r1⟩ := hd
    obtain ⟨w, e1, e2⟩ := atI_dens r1 z
    exact .inr (.inl ⟨a, xs, i, w, rfl, he, by rw [hK]; exact q1, e1, q _ e2⟩)
  · exact .inr (.inr (.inl ⟨z, i, c, hd, he, z1, y, q _ rfl⟩))
  · obtain ⟨a, kvs, rfl, q1, rfl, r1⟩ := hd
    rcases valV_get k r1 with ⟨g1, _⟩ | ⟨d, w, g1, g2, g3⟩
    · rw [y] at g1
      cases g1
    · rw [y] at g1
      injection g1 with g1
      subst g1
      refine .inr (.inr (.inr ⟨a, w, rfl, ?_, q _ g3⟩))
      rw [key_of z he, ← g2]
      exact DGet.k q1
end
end Pv
set_option Elab.async false
set_option linter.all false
set_option maxRecDepth 100000
set_option maxHeartbeats 2000000
/-! Pv7: the frame's names, the judgements, expressions. -/
namespace Pv
open PySem PySem.Spec PyProof.Rows L2

/-- an own object -/
def OwnD (B : Bs) (av : Addr → Prop) (H0 H : Hp) (d : D) (v : V) : Prop := match d with
  | .lst l => ∃ a vs, v = .ref a ∧ H0 a = none ∧ av a ∧ H a = some (.lst vs) ∧ Dens B av H l vs
  | .ins c ns l => ∃ a dx fs, v = .ref a ∧ H0 a = none ∧ av a ∧ H a = some (.ins (He.ga B.K c) dx fs) ∧ fs.map (·.1) = ns ∧ Dens B av H l (fs.map (·.2))
  | .dct ks l => ∃ a kvs, v = .ref a ∧ H0 a = none ∧ av a ∧ H a = some (.dK kvs) ∧ kvs.map (·.1) = ks ∧ Dens B av H l (kvs.map (·.2))
  | _ => False
theorem OwnD.b {B : Bs} {av : Addr → Prop} {H0 H : Hp} {d : D} {v : V} (h : OwnD B av H0 H d v) : DenB B av H d v := by
  cases d with
  | lst l => obtain ⟨a, vs, e, _, _, q, r⟩ := h; exact ⟨a, vs, e, SqL.of q, r⟩
  | ins c ns l => obtain ⟨a, dx, fs, e, _, _, q, z, r⟩ := h; exact ⟨a, dx, fs, e, q, z, r⟩
  | dct ks l => obtain ⟨a, kvs, e, _, _, q, z, r⟩ := h; exact ⟨a, kvs, e, q, z, r⟩
  | _ => exact False.elim h
theorem OwnD.mono {B : Bs} {av av' : Addr → Prop} {H0 H H' : Hp} {d : D} {v : V} (h : OwnD B av H0 H d v) (s : Same H H') (ha : ∀ b, av' b → H b ≠ none → av b) (hb : ∀ b, av b → av' b) : OwnD B av' H0 H' d v := by
  cases d with
  | lst l => obtain ⟨a, vs, e, n, x, q, r⟩ := h; exact ⟨a, vs, e, n, hb a x, s _ _ q, Dens.mono s ha _ _ r⟩
  | ins c ns l => obtain ⟨a, dx, fs, e, n, x, q, z, r⟩ := h; exact ⟨a, dx, fs, e, n, hb a x, s _ _ q, z, Dens.mono s ha _ _ r⟩
  | dct ks l => obtain ⟨a, kvs, e, n, x, q, z, r⟩ := h; exact ⟨a, kvs, e, n, hb a x, s _ _ q, z, Dens.mono s ha _ _ r⟩
  | _ => exact False.elim h
/-- its address -/
theorem OwnD.at {B : Bs} {av : Addr → Prop} {H0 H : Hp} {d : D} {v : V} (h : OwnD B av H0 H d v) : ∃ a o, v = .ref a ∧ H0 a = none ∧ av a ∧ H a = some o ∧ MutO o := by
  cases d with
  | lst l => obtain ⟨a, vs, e, n, x, q, r⟩ := h; exact ⟨a, _, e, n, x, q, trivial⟩
  | ins c ns l => obtain ⟨a, dx, fs, e, n, x, q, z, r⟩ := h; exact ⟨a, _, e, n, x, q, trivial⟩
  | dct ks l => obtain ⟨a, kvs, e, n, x, q, z, r⟩ := h; exact ⟨a, _, e, n, x, q, trivial⟩
  | _ => exact False.elim h
theorem OwnD.upd {B : Bs} {av : Addr → Prop} {H0 H : Hp} {d : D} {v : V} {a : Addr} {o o' : HO} (h : OwnD B av H0 H d v) (ha : av a) (e : H a = some o) (m : MutO o) (n : v ≠ .ref a) : OwnD B av H0 (L2.upd H a o') d v := by
  cases d with
  | lst l =>
    obtain ⟨b, vs, e1, n1, x, q, r⟩ := h
    exact ⟨b, vs, e1, n1, x, by rw [upd_ne (by rintro rfl; exact n e1)]; exact q, Dens.upd ha e m _ _ r⟩
  | ins c ns l =>
    obtain ⟨b, dx, fs, e1, n1, x, q, z, r⟩ := h
    exact ⟨b, dx, fs, e1, n1, x, by rw [upd_ne (by rintro rfl; exact n e1)]; exact q, z, Dens.upd ha e m _ _ r⟩
  | dct ks l =>
    obtain ⟨b, kvs, e1, n1, x, q, z, r⟩ := h
    exact ⟨b, kvs, e1, n1, x, by rw [upd_ne (by rintro rfl; exact n e1)]; exact q, z, Dens.upd ha e m _ _ r⟩
  | _ => exact False.elim h

/-- what the slot i holds: a plain value, or the exception that is handled -/
def DenX (B : Bs) (av : Addr → Prop) (H : Hp) (i : Nat) (d : D) (v : V) : Prop := Den B av H d v ∨
  ∃ c ns l a dd, d = .exc c ns l ∧ v = .ref a ∧ (c ∈ B.xs ∧ B.hx = some (i, a, .ref (He.ga B.K c), dd)) ∧ ((ns = [] ∧ l = [] ∧ dd = none) ∨
      ∃ dx fs, dd = some dx ∧ H dx = some (.xd fs) ∧ fs.map (·.1) = ns ∧ Dens B av H l (fs.map (·.2)))
theorem DenX.mono {B : Bs} {av av' : Addr → Prop} {H H' : Hp} {i : Nat} {d : D} {v : V} (h : DenX B av H i d v) (s : Same H H') (ha : ∀ b, av' b → H b ≠ none → av b) : DenX B av' H' i d v := by
  rcases h with h | ⟨c, ns, l, a, dd, e1, e2, e3, h⟩
  · exact .inl (Den.mono s ha _ _ h)
  · refine .inr ⟨c, ns, l, a, dd, e1, e2, e3, ?_⟩
    rcases h with h | ⟨dx, fs, e1, e2, e3, r⟩
    · exact .inl h
    · exact .inr ⟨dx, fs, e1, s _ _ e2, e3, Dens.mono s ha _ _ r⟩
theorem DenX.same {B : Bs} {av : Addr → Prop} {H H' : Hp} {i : Nat} {d : D} {v : V} (h : DenX B av H i d v) (s : Same H H') : DenX B av H' i d v := h.mono s fun _ z _ => z
theorem DenX.weak {B : Bs} {av av' : Addr → Prop} {H : Hp} {i : Nat} {d : D} {v : V} (h : DenX B av H i d v) (ha : ∀ b, av' b → av b) : DenX B av' H i d v := h.mono (Same.refl H) fun b z _ => ha b z
theorem DenX.upd {B : Bs} {av : Addr → Prop} {H : Hp} {i : Nat} {d : D} {v : V} {a : Addr} {o o' : HO} (h : DenX B av H i d v) (ha : av a) (e : H a = some o) (m : MutO o) : DenX B av (L2.upd H a o') i d v := by
  rcases h with h | ⟨c, ns, l, b, dd, e1, e2, e3, h⟩
  · exact .inl (Den.upd ha e m _ _ h)
  · refine .inr ⟨c, ns, l, b, dd, e1, e2, e3, ?_⟩
    rcases h with h | ⟨dx, fs, z1, z2, z3, r⟩
    · exact .inl h
    · refine .inr ⟨dx, fs, z1, ?_, z3, Dens.upd ha e m _ _ r⟩
      rw [upd_ne]
      · exact z2
      · rintro rfl
        rw [z2] at e
        cases e
        exact m
theorem DenX.den {B : Bs} {av : Addr → Prop} {H : Hp} {i : Nat} {d : D} {v : V} (h : DenX B av H i d v) (n : B.hx.map (·.1) ≠ some i) : Den B av H d v := by
  rcases h with h | ⟨c, ns, l, b, dd, e1, e2, e3, h⟩
  · exact h
  · exact absurd (by rw [e3.2]; rfl) n

/-- the frame's slots hold the environment; M: the own ones; κ: values that a loop around holds; H0: the heap at the entry; av0: what the callers own; av: that and what is own here -/
structure EnvOk (B : Bs) (M : Nat → Bool) (κ : List (D × V)) (H0 : Hp) (av0 av : Addr → Prop) (σ : L2.St) (H : Hp) (ρ : Env) : Prop where
  len : ρ.length = σ.length
  same : Same H0 H
  sub : ∀ a, av0 a → av a
  trk0 : ∀ a, av0 a → H0 a ≠ none
  trk : ∀ a, av a → H a ≠ none
  val : ∀ i d, ρ[i]? = some (some d) → M i = false → ∃ v, σ[i]? = some (some v) ∧ DenX B av H i d v
  own : ∀ i d, ρ[i]? = some (some d) → M i = true → ∃ v, σ[i]? = some (some v) ∧ OwnD B av H0 H d v
  inj : ∀ i j d d' v, M i = true → M j = true → i ≠ j → ρ[i]? = some (some d) → ρ[j]? = some (some d') → σ[i]? = some (some v) → σ[j]? = some (some v) → False
  kp : ∀ p ∈ κ, Den B av H p.1 p.2
section
variable {B : Bs} {M : Nat → Bool} {κ : List (D × V)} {H0 H H' : Hp} {av0 av av' : Addr → Prop} {σ : L2.St} {ρ : Env}
theorem EnvOk.mono (k : EnvOk B M κ H0 av0 av σ H ρ) (s : Same H H') : EnvOk B M κ H0 av0 av σ H' ρ where
  len := k.len
  same := k.same.trans s
  sub := k.sub
  trk0 := k.trk0
  trk := fun a h => by
    cases q : H a with
    | none => exact absurd q (k.trk a h)
    | some o => rw [s a o q]; simp
  val := fun i d h1 h2 => by obtain ⟨v, e, d⟩ := k.val i d h1 h2; exact ⟨v, e, d.same s⟩
  own := fun i d h1 h2 => by obtain ⟨v, e, d⟩ := k.own i d h1 h2; exact ⟨v, e, d.mono s (fun _ z _ => z) fun _ z => z⟩
  inj := k.inj
  kp := fun p h => (k.kp p h).same s
theorem EnvOk.borrow (k : EnvOk B M κ H0 av0 av σ H ρ) {i : Nat} {d : D} (e : ρ[i]? = some (some d)) (n : B.hx.map (·.1) ≠ some i) : ∃ v, σ[i]? = some (some v) ∧ DenB B av H d v := by
  cases q : M i with
  | false => obtain ⟨v, e1, d1⟩ := k.val i d e q; exact ⟨v, e1, (d1.den n).b⟩
  | true => obtain ⟨v, e1, d1⟩ := k.own i d e q; exact ⟨v, e1, d1.b⟩
/-- at the end of the frame nothing is own any more -/
theorem EnvOk.dissolve (k : EnvOk B M κ H0 av0 av σ H ρ) : EnvOk B (fun _ => false) κ H0 av0 av0 σ H ρ where
  len := k.len
  same := k.same
  sub := fun _ h => h
  trk0 := k.trk0
  trk := fun a h => k.trk a (k.sub a h)
  val := fun i d h1 _ => by
    cases q : M i with
    | false => obtain ⟨v, e1, d1⟩ := k.val i d h1 q; exact ⟨v, e1, d1.weak k.sub⟩
    | true =>
      obtain ⟨v, e1, d1⟩ := k.own i d h1 q
      refine ⟨v, e1, .inl ?_⟩
      cases d with
      | lst l => obtain ⟨a, vs, e, n, x, q, r⟩ := d1; exact ⟨a, vs, e, .inl ⟨fun z => k.trk0 a z n, .inl q⟩, r.weak k.sub⟩
      | ins c ns l => obtain ⟨a, dx, fs, e, n, x, q, z, r⟩ := d1; exact ⟨a, dx, fs, e, fun z => k.trk0 a z n, q, z, r.weak k.sub⟩
      | dct ks l => obtain ⟨a, kvs, e, n, x, q, z, r⟩ := d1; exact ⟨a, kvs, e, fun z => k.trk0 a z n, q, z, r.weak k.sub⟩
      | _ => exact False.elim d1
  own := fun _ _ _ h => by cases h
  inj := fun _ _ _ _ _ h => by cases h
  kp := fun p h => (k.kp p h).weak k.sub
end

/-- what follows a result -/
def Pst (B : Bs) (W : WX) (av : Addr → Prop) (σ : L2.St) (H : Hp) {α β : Type} (P : α → β → Hp → Prop) (Q : β → Hp → Prop) : R α → Prop
  | .ok a => ∀ b H', Same H H' → P a b H' → Q b H'
  | .exn x => ∀ cv dd H', Same H H' → ExD B av H' x cv dd → W cv dd σ H'
  | .bad => False
section
variable {B : Bs} {W : WX} {av : Addr → Prop} {σ : L2.St} {H H1 : Hp} {α β γ δ : Type}
theorem Pst.bind {P : α → β → Hp → Prop} {Q : β → Hp → Prop} {P2 : γ → δ → Hp → Prop} {Q2 : δ → Hp → Prop} {r : R α} {f : α → R γ} (h : Pst B W av σ H P2 Q2 (r.bind f))
    (step : ∀ a b H1, Same H H1 → P a b H1 → Pst B W av σ H P2 Q2 (f a) → Q b H1) : Pst B W av σ H P Q r := by
  cases r with
  | ok a => exact fun b H' s p => step a b H' s p h
  | exn x => exact h
  | bad => exact h
theorem Pst.mono {P P' : α → β → Hp → Prop} {Q : β → Hp → Prop} {r : R α} (h : Pst B W av σ H P Q r) (s : Same H H1) (hp : ∀ a b H', Same H1 H' → P' a b H' → P a b H') : Pst B W av σ H1 P' Q r := by
  cases r with
  | ok a => exact fun b H' s' p => h b H' (s.trans s') (hp a b H' s' p)
  | exn x => exact fun cv dd H' s' p => h cv dd H' (s.trans s') p
  | bad => exact h
end

/-- how a value is had: as it is, lent, new -/
inductive Md where
  | v | b | f
  deriving DecidableEq
def Md.P (m : Md) (B : Bs) (av : Addr → Prop) (H : Hp) (d : D) (v : V) (H' : Hp) : Prop := match m with
  | .v => Den B av H' d v
  | .b => DenB B av H' d v
  | .f => DenR B av H H' d v
theorem Md.to {m : Md} {B : Bs} {av : Addr → Prop} {H H' : Hp} {d : D} {v : V} (h : Md.P .f B av H d v H') : m.P B av H d v H' := by
  cases m with
  | v => exact h.1
  | b => exact h.1.b
  | f => exact h
theorem Md.from {m : Md} {B : Bs} {av : Addr → Prop} {H H1 H' : Hp} {d : D} {v : V} (s : Same H H1) (h : m.P B av H1 d v H') : m.P B av H d v H' := by
  cases m with
  | v => exact h
  | b => exact h
  | f => exact DenR.from h s
theorem Md.same {B : Bs} {av : Addr → Prop} {H H' H2 : Hp} {d : D} {v : V} (h : Md.P .b B av H d v H') (s : Same H' H2) : Md.P .b B av H d v H2 := DenB.same h s

/-- what a def of the text promises, in the terms of plain values -/
def SpC (T : Nat → Option FI) (k : Nat) (B : Bs) (f : Nat) (fr : Bool) : Sp := fun vs H Q E => ∃ av ds, (∀ b, av b → H b ≠ none) ∧ Dens B av H ds vs ∧ match run T k f ds with
  | .ok d => ∀ v H', Same H H' → Den B av H' d v ∧ (fr = true → DenR B av H H' d v) → Q v H'
  | .exn x => ∀ cv dd H', Same H H' → ExD B av H' x cv dd → E cv dd H'
  | .bad => False
/-- the value u may be called as the def f -/
def CallV (T : Nat → Option FI) (k : Nat) (B : Bs) (X : Cx) (W : WX) (f : Nat) (fr : Bool) (u : Value) : Prop :=
  ∀ (pins : List (Addr × Obj)) (σ : L2.St) (H : Hp) (s : Shared) (Q : VK) (us : List Value) (vs : List V), Inv X pins σ H s → Vals vs us → SpC T k B f fr vs H Q (fun c d H' => W c d σ H') →
    wpAny (model X.prog X.w) X.A (call u us) (EP X pins σ Q) X.xe s
/-- the def at a keeps the promise of f -/
def FnV (T : Nat → Option FI) (k : Nat) (B : Bs) (P : Program) (w : World) (mg : Str → Option Value) (base : Heap) (f : Nat) (fr : Bool) (a : Addr) : Prop :=
  ∃ (fd : FuncData) (ps : List Str), Binds B.K fd ps [] ∧ FnOk P w B.K mg base (L2.CX P w) (k + 2) a fd ps (SpC T k B f fr)
theorem callV_of {T : Nat → Option FI} {k : Nat} {B : Bs} {X : Cx} {W : WX} {f : Nat} {fr : Bool} {a : Addr} (hK : X.K = B.K) (h : FnV T k B X.prog X.w X.mg X.base f fr a) (hr : Room (k + 2) X.A) (tk : Takes X W) : CallV T k B X W f fr (.ref a) := by
  intro pins σ H s Q us vs I r q
  obtain ⟨fd, ps, hb, F⟩ := h
  rw [← hK] at hb F
  have hl : us.length = ps.length := by rw [← r.length]; exact F.len _ _ _ _ q
  have hb2 := hb s us I.kIn (by rw [List.append_nil]; exact hl)
  rw [List.append_nil] at hb2
  refine wpAny_call (codeAny_mono (F.run X.A X.stack s H ⟨us, []⟩ us vs Q (WE W σ) hr I.env0 hb2 r q) fun r s' hq => ?_)
  cases r with
  | error e => exact passAt tk σ pins H s e s' I hq
  | ok fl =>
    cases fl with
    | ret u => exact I.after hq
    | next => exact False.elim hq
    | brk => exact False.elim hq
    | cont => exact False.elim hq

/-- what the module's names hold -/
inductive Nm where
  | free
  | bf (id : String)
  | fn (f : Nat)
  | cl
  | con (d : D)
structure Lw where
  T : Nat → Option FI
  nms : Str → Option Nm
  flds : Str → Str → Bool
  xs : List (Str × Option (List Str)) := []
  hs : List Str := []
/-- a class as a value -/
def clV (K : PySem.W.Frag) (h : Str) : Value := if h = "ValueError" then .type "ValueError" else if h = "Exception" then .type "Exception" else .ref (He.ga K h)
/-- an exception class with an own __init__ that keeps its parameters under their names -/
def spX (K : PySem.W.Frag) (C : Addr) (ns : List Str) : Sp := fun vs H Q _ => ∃ (a : Addr) (ws : List V), vs = .ref a :: ws ∧ ws.length = ns.length ∧ H a = some (exo a C none) ∧ OexC K C ∧ (∀ f ∈ ns, PySem.W.findIn K (.ref C) f = some none) ∧
  ∀ (d : Addr) (H' : Hp), d ≠ a → H d = none → H' a = some (exo a C (some d)) → H' d = some (exd d (ns.zip ws).reverse) → (∀ b, b ≠ a → b ≠ d → H' b = H b) → Q .non H'
structure XiOk (P : Program) (w : World) (K : PySem.W.Frag) (mg : Str → Option Value) (base : Heap) (C : Addr) (ns : List Str) : Prop where
  T : OexC K C
  no : ∀ f ∈ ns, PySem.W.findIn K (.ref C) f = some none
  fn : ∃ (fI : Addr) (fd : FuncData) (ps : List Str), PySem.W.findIn K (.ref C) "__init__" = some (some (.ref fI)) ∧ PySem.W.typeIn K (.ref fI) = some (.type "function") ∧ Binds K fd ps [] ∧ FnOk P w K mg base (L2.CX P w) 1 fI fd ps (spX K C ns)
structure XoOk (K : PySem.W.Frag) (C : Addr) : Prop where
  exc : PySem.W.excIn K C He.veBase "ValueError.__new__" = true
  kp : PySem.W.keepIn K (.ref C) = true
  sub : PySem.W.subIn K (.ref C) (.type "BaseException") = some true
  typ : PySem.W.typeIn K (.ref C) = some (.type "type")
def NmOk (B : Bs) (mg : Str → Option Value) (x : Str) : Nm → Prop
  | .free => mg x = none
  | .bf id => mg x = some (.builtin id)
  | .fn _ => True
  | .cl => mg x = some (.ref (He.ga B.K x))
  | .con d => ∃ v u, mg x = some u ∧ RelV v u ∧ ∀ av H, Den B av H d v

/-- the cells of a scope -/
def cellsOf (sc : Scope) : List Str := (sc.names.filter fun p => sc.names.lookup p.1 == some .cell).map (·.1)
structure Cn (L : Lw) (k : Nat) (B : Bs) (N : List Str) (sc : Scope) (fc : List Str) (hot : Option Nat) (X : Cx) (W : WX) : Prop where
  hK : X.K = B.K
  hN : X.N = N
  nd : N.Nodup
  hsc : X.env.scope = sc
  calm : hot = none → X.calm = true
  un : X.A.units + 200 < cLine
  tk : Takes X W
  po : PassesOwn (model X.prog X.w) X.A X.env X.xe
  fnc : ∀ x, x ∈ fc → X.fn x = true
  nm : ∀ x n, L.nms x = some n → NmOk B X.mg x n
  fl : ∀ c f, L.flds c f = true → Cls X.K (He.ga B.K c) ∧ NoAttr X.K (He.ga B.K c) f
  room : hot = none → Room (k + 2) X.A
  fn : hot = none → ∀ f fi, L.T f = some fi → fi.self = none → fi.init = none → ∃ a : Addr, X.mg fi.name = some (.ref a) ∧ PySem.W.keepIn X.K (.ref a) = true ∧ FnV L.T k B X.prog X.w X.mg X.base f fi.fr a
  xb : B.xs = L.xs.map (·.1)
  xg : ∀ p ∈ L.xs, X.mg p.1 = some (.ref (He.ga B.K p.1))
  xo : ∀ c, (c, none) ∈ L.xs → XoOk B.K (He.ga B.K c)
  xi : ∀ c ns, (c, some ns) ∈ L.xs → XiOk X.prog X.w B.K X.mg X.base (He.ga B.K c) ns
  xm : ∀ c ∈ B.xs, ∀ h ∈ L.hs, PySem.W.exmOne B.K (.ref (He.ga B.K c)) (clV B.K h) = some (subC c h) ∧ PySem.W.kitOne B.K (.ref (He.ga B.K c)) (clV B.K h) = some (subC c h)
  xn : ∀ h ∈ L.hs, X.mg h = some (clV B.K h) ∨ (X.mg h = none ∧ bootBuiltins h = some (clV B.K h) ∧ h ≠ "__name__")
  xc : ∀ c ∈ B.xs, ExcC B.K (He.ga B.K c)
  hxs : B.hx.map (·.1) = hot
  hxo : ∀ z, B.hx = some z → ∃ (Y : Cx) (oe : Obj) (pn : List (Addr × Obj)), X = Y.suite z.2.1 ((z.2.1, oe) :: pn) ∧ Zc z.2.2.1 z.2.2.2 oe ∧ ∃ vs, oe.data = .fields vs

theorem Cn.env {L : Lw} {k : Nat} {B : Bs} {N : List Str} {sc : Scope} {fc : List Str} {hot : Option Nat} {X : Cx} {W : WX} (C : Cn L k B N sc fc hot X W) : X.env = { X.env with scope := sc } := by rw [← C.hsc]
/-- the reading of an expression -/
def rd (L : Lw) (k : Nat) (B : Bs) (M : Nat → Bool) (W : WX) (m : Md) (e : E) : TE := fun σ H Q => ∃ κ H0 av0 av ρ, EnvOk B M κ H0 av0 av σ H ρ ∧ Pst B W av σ H (m.P B av H) Q (ev (run L.T k) e ρ)
end Pv
set_option Elab.async false
set_option linter.all false
set_option maxRecDepth 100000
set_option maxHeartbeats 2000000
/-! Pv8: expressions, sound. -/
namespace Pv
open PySem PySem.Spec PyProof.Rows L2

theorem PE.imp {X : Cx} {e : Expr} {t t' : TE} (h : PE X e t) (i : ∀ σ H Q, t' σ H Q → t σ H Q) : PE X e t' := ⟨fun pins s σ H Q I q => h.run pins s σ H Q I (i _ _ _ q)⟩
theorem PT.imp {X : Cx} {e : Expr} {t t' : TT} (h : PT X e t) (i : ∀ σ H Q, t' σ H Q → t σ H Q) : PT X e t' := ⟨fun pins s σ H Q I q => h.run pins s σ H Q I (i _ _ _ q)⟩
theorem PW.imp {X : Cx} {e : Expr} {t t' : TT} (h : PW X e t) (i : ∀ σ H Q, t' σ H Q → t σ H Q) : PW X e t' := ⟨fun wh pins s σ H Q I q => h.run wh pins s σ H Q I (i _ _ _ q)⟩
theorem PA.imp {X : Cx} {e : List Expr} {t t' : TA} (h : PA X e t) (i : ∀ σ H Q, t' σ H Q → t σ H Q) : PA X e t' := ⟨fun pos pins s σ H Q I q => h.run pos pins s σ H Q I (i _ _ _ q)⟩

/-- an expression of the text and the one of the small language -/
def EJ (L : Lw) (k : Nat) (B : Bs) (M : Nat → Bool) (X : Cx) (W : WX) (m : Md) (e : Expr) (ê : E) : Prop := PE X e (rd L k B M W m ê)
/-- a test -/
def rdT (L : Lw) (k : Nat) (B : Bs) (M : Nat → Bool) (W : WX) (e : E) : TT := fun σ H Q => ∃ κ H0 av0 av ρ, EnvOk B M κ H0 av0 av σ H ρ ∧ Pst B W av σ H (fun (t b : Bool) _ => t = b) Q ((ev (run L.T k) e ρ).bind tBool)
def TJ (L : Lw) (k : Nat) (B : Bs) (M : Nat → Bool) (X : Cx) (W : WX) (e : Expr) (ê : E) : Prop := PT X e (rdT L k B M W ê)
def TW (L : Lw) (k : Nat) (B : Bs) (M : Nat → Bool) (X : Cx) (W : WX) (e : Expr) (ê : E) : Prop := PW X e (rdT L k B M W ê)
/-- arguments -/
def Md.Ps (m : Md) (B : Bs) (av : Addr → Prop) (l : List D) (vs : List V) (H' : Hp) : Prop := match m with
  | .b => DensB B av H' l vs
  | _ => Dens B av H' l vs
def rdA (L : Lw) (k : Nat) (B : Bs) (M : Nat → Bool) (W : WX) (m : Md) (e : Es) : TA := fun σ H Q => ∃ κ H0 av0 av ρ, EnvOk B M κ H0 av0 av σ H ρ ∧ Pst B W av σ H (m.Ps B av) Q (evs (run L.T k) e ρ)
def AJ (L : Lw) (k : Nat) (B : Bs) (M : Nat → Bool) (X : Cx) (W : WX) (m : Md) (e : List Expr) (ê : Es) : Prop := PA X e (rdA L k B M W m ê)

/-! ### nothing is raised by the operations -/
def NoX {α : Type} (r : R α) : Prop := ∀ x, r ≠ .exn x
theorem NoX.ok {α : Type} {a : α} : NoX (R.ok a) := fun _ h => by cases h
theorem NoX.bad {α : Type} : NoX (R.bad : R α) := fun _ h => by cases h
theorem NoX.ite {α : Type} {c : Prop} [Decidable c] {r r' : R α} (h : NoX r) (h' : NoX r') : NoX (if c then r else r') := by
  split
  · exact h
  · exact h'
theorem NoX.bind {α β : Type} {r : R α} {f : α → R β} (h : NoX r) (h' : ∀ a, NoX (f a)) : NoX (r.bind f) := by
  cases r with
  | ok a => exact h' a
  | exn x => exact absurd rfl (h x)
  | bad => exact .bad
theorem NoX.oR {α : Type} {o : Option α} : NoX (oR o) := by
  cases o with
  | none => exact .bad
  | some a => exact .ok
theorem nox_bin (o : Op) (d e : D) : NoX (binD o d e) := by
  unfold binD
  split <;> first | exact .ok | exact .bad | exact .ite .ok .bad
theorem nox_neg (d : D) : NoX (negD d) := by
  unfold negD
  split <;> first | exact .ok | exact .bad
theorem nox_eqD (d e : D) : NoX (eqD d e) := .ite .ok .bad
theorem nox_inD (d : D) (l : List D) : NoX (inD d l) := .ite .ok .bad
theorem nox_inC (d e : D) : NoX (inC d e) := by
  unfold inC
  split
  · exact nox_inD _ _
  · exact .ite (nox_inD _ _) .bad
  · split <;> first | exact .ok | exact .bad
  · exact .bad
theorem nox_cmp (o : Cm) (d e : D) : NoX (cmpD o d e) := by
  unfold cmpD
  split <;> first | exact .ok | exact .bad | exact nox_eqD _ _ | exact nox_inC _ _ | exact .bind (nox_eqD _ _) fun _ => .ok | exact .bind (nox_inC _ _) fun _ => .ok
theorem nox_tBool (d : D) : NoX (tBool d) := by
  unfold tBool
  split <;> first | exact .ok | exact .bad
theorem nox_ix (d e : D) : NoX (ixD d e) := by
  unfold ixD
  split
  · split <;> first | exact .ok | exact .bad
  · split <;> first | exact .ok | exact .bad
  · split <;> first | exact .ite .ok .bad | exact .bad
  · split
    · split <;> first | exact .ok | exact .bad
    · exact .bad
  · exact .bad
theorem nox_sl (a : D) (p q : Option Int) : NoX (slV a p q) := by
  unfold slV
  split <;> first | exact .ok | exact .bad
theorem nox_bl (b : Bl) (l : List D) : NoX (blD b l) := by
  cases b <;> first | exact .bad | skip
  all_goals (show NoX (_ : R D))
  all_goals first
    | (unfold blD; dsimp only; (first | unfold bl_len | unfold bl_tuple | unfold bl_list | unfold bl_sum | unfold bl_all | unfold bl_any | unfold bl_abs | unfold bl_int | unfold bl_str | unfold bl_min | unfold bl_max | unfold bl_min2 | unfold bl_max2 | unfold bl_sorted | unfold bl_gcd); split <;> first | exact .ok | exact .bad | exact .ite .ok .bad | exact .bind .oR fun _ => .ok | exact .bind .oR fun _ => .bind .oR fun _ => .ok)
theorem nox_fld (f : Str) (cs : List Str) (d : D) : NoX (fldD f cs d) := by
  unfold fldD
  split <;> first | exact .ite .oR .bad | exact .bad
theorem nox_xfld (f : Str) (d : D) : NoX (xfldD f d) := by
  unfold xfldD
  split <;> first | exact .oR | exact .bad
theorem Pst.ok {B : Bs} {W : WX} {av : Addr → Prop} {σ : L2.St} {H : Hp} {α β : Type} {P : α → β → Hp → Prop} {Q : β → Hp → Prop} {r : R α} (h : Pst B W av σ H P Q r) (n : NoX r) : ∃ a, r = .ok a ∧ ∀ b H', Same H H' → P a b H' → Q b H' := by
  cases r with
  | ok a => exact ⟨a, rfl, h⟩
  | exn x => exact absurd rfl (n x)
  | bad => exact h.elim

section
variable {L : Lw} {k : Nat} {B : Bs} {N : List Str} {sc : Scope} {fc : List Str} {hot : Option Nat} {X : Cx} {W : WX} {M : Nat → Bool} {m : Md}

theorem Cn.vis (C : Cn L k B N sc fc hot X W) {x : Str} (h : Vis sc x) : Vis X.env.scope x := by rw [C.hsc]; exact h
theorem Cn.gl (C : Cn L k B N sc fc hot X W) {x : Str} (h : sc.names.lookup x = some .globalImplicit) : Gl X x := by
  show X.env.scope.names.lookup x = _
  rw [C.hsc]
  exact h

theorem EJ.v {e : Expr} {ê : E} (h : EJ L k B M X W .f e ê) : EJ L k B M X W m e ê := PE.imp h fun σ H Q q => by
  obtain ⟨κ, H0, av0, av, ρ, ok, q⟩ := q
  exact ⟨κ, H0, av0, av, ρ, ok, q.mono (Same.refl H) fun a b H' _ p => Md.to p⟩
theorem EJ.b {e : Expr} {ê : E} (h : EJ L k B M X W .v e ê) : EJ L k B M X W .b e ê := PE.imp h fun σ H Q q => by
  obtain ⟨κ, H0, av0, av, ρ, ok, q⟩ := q
  exact ⟨κ, H0, av0, av, ρ, ok, q.mono (Same.refl H) fun a b H' _ p => Den.b p⟩

/-! ### names, constants -/
theorem e_var (C : Cn L k B N sc fc hot X W) (i : Nat) {x : Str} {pos : Pos} (hi : N[i]? = some x := by rfl) (hm : M i = false := by rfl) (hne : hot ≠ some i := by first | (intro h; cases h; done) | decide) (hv : Vis sc x := by first | exact Or.inl rfl | exact Or.inr (Or.inl rfl) | exact Or.inr (Or.inr rfl))
    (hd : (x == ("__debug__" : Str)) = false := by decide) (hcd : (x == ("__classdict__" : Str)) = false := by decide) : EJ L k B M X W .v (.Name x pos) (.var i) :=
  PE.imp (pe_var (by rw [C.hN]; exact hi) (C.vis hv) hd hcd) fun σ H Q q => by
    obtain ⟨κ, H0, av0, av, ρ, ok, q⟩ := q
    have q' : Pst B W av σ H (Md.P .v B av H) Q (getV ρ i) := q
    unfold getV at q'
    cases e : ρ[i]? with
    | none => rw [e] at q'; exact q'.elim
    | some o =>
      rw [e] at q'
      cases o with
      | none => exact q'.elim
      | some d =>
        obtain ⟨v, e1, d1⟩ := ok.val i d e hm
        exact ⟨v, e1, q' v H (Same.refl H) (d1.den (by rw [C.hxs]; exact hne))⟩
theorem b_var (C : Cn L k B N sc fc hot X W) (i : Nat) {x : Str} {pos : Pos} (hi : N[i]? = some x := by rfl) (hne : hot ≠ some i := by first | (intro h; cases h; done) | decide) (hv : Vis sc x := by first | exact Or.inl rfl | exact Or.inr (Or.inl rfl) | exact Or.inr (Or.inr rfl))
    (hd : (x == ("__debug__" : Str)) = false := by decide) (hcd : (x == ("__classdict__" : Str)) = false := by decide) : EJ L k B M X W .b (.Name x pos) (.var i) :=
  PE.imp (pe_var (by rw [C.hN]; exact hi) (C.vis hv) hd hcd) fun σ H Q q => by
    obtain ⟨κ, H0, av0, av, ρ, ok, q⟩ := q
    have q' : Pst B W av σ H (Md.P .b B av H) Q (getV ρ i) := q
    unfold getV at q'
    cases e : ρ[i]? with
    | none => rw [e] at q'; exact q'.elim
    | some o =>
      rw [e] at q'
      cases o with
      | none => exact q'.elim
      | some d =>
        obtain ⟨v, e1, d1⟩ := ok.borrow e (by rw [C.hxs]; exact hne)
        exact ⟨v, e1, q' v H (Same.refl H) d1⟩
theorem e_c {e : Expr} {d : D} {v : V} (h : PE X e (tC v)) (hd : ∀ av H, Den B av H d v) (ho : isO d = false) : EJ L k B M X W m e (.c d) :=
  EJ.v (PE.imp h fun σ H Q q => by
    obtain ⟨κ, H0, av0, av, ρ, ok, q⟩ := q
    exact q v H (Same.refl H) (DenR.scal (hd _ _) ho))
theorem e_int {i : Int} {j : Nat} {pos : Pos} : EJ L k B M X W m (.Constant (.int i) j pos) (.c (.int i)) := e_c pe_int (fun _ _ => rfl) rfl
theorem e_bl {b : Bool} {j : Nat} {pos : Pos} : EJ L k B M X W m (.Constant (.bool b) j pos) (.c (.bl b)) := e_c pe_bl (fun _ _ => rfl) rfl
theorem e_non {j : Nat} {pos : Pos} : EJ L k B M X W m (.Constant .none j pos) (.c .non) := e_c pe_non (fun _ _ => rfl) rfl
theorem e_str {x : Str} {j : Nat} {pos : Pos} : EJ L k B M X W m (.Constant (.str x) j pos) (.c (.str x)) := e_c pe_str (fun _ _ => rfl) rfl
/-- a module's constant -/
theorem e_con (C : Cn L k B N sc fc hot X W) {x : Str} {d : D} {pos : Pos} (hg : sc.names.lookup x = some .globalImplicit := by rfl) (hn : L.nms x = some (.con d) := by rfl) (ho : isO d = false := by rfl) (hd : (x == ("__debug__" : Str)) = false := by decide) :
    EJ L k B M X W m (.Name x pos) (.c d) := by
  obtain ⟨v, u, e, r, dn⟩ := C.nm x _ hn
  exact e_c (pe_glob (C.gl hg) e r hd) dn ho

/-! ### operators -/
theorem e_bin (C : Cn L k B N sc fc hot X W) (o : Op) {a b : Expr} {â b' : E} {pos : Pos} (ha : EJ L k B M X W .b a â) (hb : EJ L k B M X W .b b b') : EJ L k B M X W m (.BinOp a (opOf o) b pos) (.bin o â b') :=
  EJ.v (PE.imp (pe_op (opr_bin C.hK o) ha hb) fun σ H Q q => by
    obtain ⟨κ, H0, av0, av, ρ, ok, q⟩ := q
    refine ⟨κ, H0, av0, av, ρ, ok, Pst.bind q fun x v H1 s1 d1 q1 => ⟨κ, H0, av0, av, ρ, ok.mono s1, Pst.bind (q1.mono s1 fun a b H' _ p => Md.from s1 p) fun y w H2 s2 d2 q2 => ?_⟩⟩
    obtain ⟨r, e, q3⟩ := q2.ok (nox_bin o x y)
    exact ⟨av, x, y, r, (ok.mono (s1.trans s2)).trk, Md.same d1 s2, d2, e, fun v' H' s' p => q3 v' H' (s2.trans s') (Md.from (m := .f) s2 p)⟩)
theorem e_add (C : Cn L k B N sc fc hot X W) {a b : Expr} {â b' : E} {pos : Pos} (ha : EJ L k B M X W .b a â) (hb : EJ L k B M X W .b b b') : EJ L k B M X W m (.BinOp a .Add b pos) (.bin .add â b') := e_bin C .add ha hb
theorem e_sub (C : Cn L k B N sc fc hot X W) {a b : Expr} {â b' : E} {pos : Pos} (ha : EJ L k B M X W .b a â) (hb : EJ L k B M X W .b b b') : EJ L k B M X W m (.BinOp a .Sub b pos) (.bin .sub â b') := e_bin C .sub ha hb
theorem e_mul (C : Cn L k B N sc fc hot X W) {a b : Expr} {â b' : E} {pos : Pos} (ha : EJ L k B M X W .b a â) (hb : EJ L k B M X W .b b b') : EJ L k B M X W m (.BinOp a .Mult b pos) (.bin .mul â b') := e_bin C .mul ha hb
theorem e_fdiv (C : Cn L k B N sc fc hot X W) {a b : Expr} {â b' : E} {pos : Pos} (ha : EJ L k B M X W .b a â) (hb : EJ L k B M X W .b b b') : EJ L k B M X W m (.BinOp a .FloorDiv b pos) (.bin .fdiv â b') := e_bin C .fdiv ha hb
theorem e_mod (C : Cn L k B N sc fc hot X W) {a b : Expr} {â b' : E} {pos : Pos} (ha : EJ L k B M X W .b a â) (hb : EJ L k B M X W .b b b') : EJ L k B M X W m (.BinOp a .Mod b pos) (.bin .mod â b') := e_bin C .mod ha hb
theorem e_pow (C : Cn L k B N sc fc hot X W) {a b : Expr} {â b' : E} {pos : Pos} (ha : EJ L k B M X W .b a â) (hb : EJ L k B M X W .b b b') : EJ L k B M X W m (.BinOp a .Pow b pos) (.bin .pow â b') := e_bin C .pow ha hb
theorem e_shl (C : Cn L k B N sc fc hot X W) {a b : Expr} {â b' : E} {pos : Pos} (ha : EJ L k B M X W .b a â) (hb : EJ L k B M X W .b b b') : EJ L k B M X W m (.BinOp a .LShift b pos) (.bin .shl â b') := e_bin C .shl ha hb
theorem e_shr (C : Cn L k B N sc fc hot X W) {a b : Expr} {â b' : E} {pos : Pos} (ha : EJ L k B M X W .b a â) (hb : EJ L k B M X W .b b b') : EJ L k B M X W m (.BinOp a .RShift b pos) (.bin .shr â b') := e_bin C .shr ha hb
theorem e_band (C : Cn L k B N sc fc hot X W) {a b : Expr} {â b' : E} {pos : Pos} (ha : EJ L k B M X W .b a â) (hb : EJ L k B M X W .b b b') : EJ L k B M X W m (.BinOp a .BitAnd b pos) (.bin .band â b') := e_bin C .band ha hb
theorem e_neg (C : Cn L k B N sc fc hot X W) {a : Expr} {â : E} {pos : Pos} (ha : EJ L k B M X W .b a â) : EJ L k B M X W m (.UnaryOp .USub a pos) (.neg â) :=
  EJ.v (PE.imp (pe_un un_neg ha) fun σ H Q q => by
    obtain ⟨κ, H0, av0, av, ρ, ok, q⟩ := q
    refine ⟨κ, H0, av0, av, ρ, ok, Pst.bind q fun x v H1 s1 d1 q1 => ?_⟩
    obtain ⟨r, e, q3⟩ := q1.ok (nox_neg x)
    cases x <;> first | (cases e; done) | skip
    cases e
    exact ⟨_, d1, q3 _ H1 s1 (DenR.scal rfl rfl)⟩)
theorem opr_of {o : Cm} (C : Cn L k B N sc fc hot X W) : OpR X (compareOp (cmOf o)) (rCC B (cmpD o)) := opr_cmp C.hK C.un o
theorem e_cmp (C : Cn L k B N sc fc hot X W) (o : Cm) {op : CmpOp} {a b : Expr} {â b' : E} {pos : Pos} (ha : EJ L k B M X W .b a â) (hb : EJ L k B M X W .b b b') (hop : op = cmOf o := by rfl) (hm : behindInMarks op b = false := by first | rfl | exact nomark _ (by decide) (by decide)) :
    EJ L k B M X W m (.Compare a [op] [b] pos) (.cmp o â b') := by
  subst hop
  exact EJ.v (PE.imp (pe_cmpR (opr_of C) ha hb hm) fun σ H Q q => by
    obtain ⟨κ, H0, av0, av, ρ, ok, q⟩ := q
    refine ⟨κ, H0, av0, av, ρ, ok, Pst.bind q fun x v H1 s1 d1 q1 => ⟨κ, H0, av0, av, ρ, ok.mono s1, Pst.bind (q1.mono s1 fun a b H' _ p => Md.from s1 p) fun y w H2 s2 d2 q2 => ?_⟩⟩
    obtain ⟨r, e, q3⟩ := q2.ok (.bind (nox_cmp o x y) fun _ => .ok)
    obtain ⟨t, e1, e2⟩ := R.bind_eq e
    injection e2 with e2
    subst e2
    exact ⟨av, x, y, t, Md.same d1 s2, d2, e1, q3 _ H2 s2 (DenR.scal rfl rfl)⟩)
theorem t_cmp (C : Cn L k B N sc fc hot X W) (o : Cm) {op : CmpOp} {a b : Expr} {â b' : E} {pos : Pos} (ha : EJ L k B M X W .b a â) (hb : EJ L k B M X W .b b b') (hop : op = cmOf o := by rfl) (hm : behindInMarks op b = false := by first | rfl | exact nomark _ (by decide) (by decide)) :
    TJ L k B M X W (.Compare a [op] [b] pos) (.cmp o â b') := by
  subst hop
  exact PT.imp (pt_cmpR (opr_of C) ha hb hm) fun σ H Q q => by
    obtain ⟨κ, H0, av0, av, ρ, ok, q⟩ := q
    have q0 : Pst B W av σ H (fun (t b : Bool) _ => t = b) Q ((ev (run L.T k) â ρ).bind fun x => (ev (run L.T k) b' ρ).bind fun y => cmpD o x y) := by
      have e : (ev (run L.T k) (.cmp o â b') ρ).bind tBool = ((ev (run L.T k) â ρ).bind fun x => (ev (run L.T k) b' ρ).bind fun y => cmpD o x y) := by
        rw [ev]
        cases ev (run L.T k) â ρ with
        | ok x =>
          cases ev (run L.T k) b' ρ with
          | ok y =>
            show ((cmpD o x y).bind fun t => .ok (.bl t)).bind tBool = cmpD o x y
            cases cmpD o x y <;> rfl
          | exn x => rfl
          | bad => rfl
        | exn x => rfl
        | bad => rfl
      rw [← e]
      exact q
    refine ⟨κ, H0, av0, av, ρ, ok, Pst.bind q0 fun x v H1 s1 d1 q1 => ⟨κ, H0, av0, av, ρ, ok.mono s1, Pst.bind (q1.mono s1 fun a b H' _ p => p) fun y w H2 s2 d2 q2 => ?_⟩⟩
    obtain ⟨t, e1, q3⟩ := q2.ok (nox_cmp o x y)
    exact ⟨av, x, y, t, Md.same d1 s2, d2, e1, t, rfl, q3 _ H2 s2 rfl⟩
end
end Pv
set_option Elab.async false
set_option linter.all false
set_option maxRecDepth 100000
set_option maxHeartbeats 2000000
/-! Pv9: expressions, sound (2). -/
namespace Pv
open PySem PySem.Spec PyProof.Rows L2

section
variable {L : Lw} {k : Nat} {B : Bs} {N : List Str} {sc : Scope} {fc : List Str} {hot : Option Nat} {X : Cx} {W : WX} {M : Nat → Bool} {m : Md}

/-! ### tests and truth -/
theorem bind_assoc {α β γ : Type} (r : R α) (f : α → R β) (g : β → R γ) : (r.bind f).bind g = r.bind fun a => (f a).bind g := by
  cases r <;> rfl
theorem tBool_ok {d : D} {b : Bool} (h : tBool d = .ok b) : d = .bl b := by
  cases d <;> first | (cases h; done) | skip
  cases h
  rfl
theorem pst_tb {av : Addr → Prop} {σ : L2.St} {H : Hp} {x : D} {v : V} {P2 : α → β → Hp → Prop} {Q2 : β → Hp → Prop} {f : Bool → R α} (h : Pst B W av σ H P2 Q2 ((tBool x).bind f)) (d : Md.P .v B av H x v H ∨ Md.P .b B av H x v H) :
    ∃ b, v = .bl b ∧ x = .bl b ∧ Pst B W av σ H P2 Q2 (f b) := by
  cases e : tBool x with
  | ok b =>
    rw [e] at h
    have := tBool_ok e
    subst this
    exact ⟨b, d.elim (fun z => z) (fun z => z), rfl, h⟩
  | exn z => exact absurd e (nox_tBool x z)
  | bad => rw [e] at h; exact h.elim
theorem t_val {e : Expr} {ê : E} (h : EJ L k B M X W .b e ê) (he : ∀ whole, isTrue e X.env whole = (do let v ← whole; standAt e.pos; holding [v] (truthy v)) := by intro _; rfl) : TJ L k B M X W e ê :=
  PT.imp (pt_val h he) fun σ H Q q => by
    obtain ⟨κ, H0, av0, av, ρ, ok, q⟩ := q
    refine ⟨κ, H0, av0, av, ρ, ok, Pst.bind q fun x v H1 s1 d1 q1 => ?_⟩
    obtain ⟨t, e1, q3⟩ := q1.ok (nox_tBool x)
    have e2 := tBool_ok e1
    subst e2
    exact ⟨t, d1, q3 _ H1 s1 rfl⟩
theorem t_not {a : Expr} {â : E} {pos : Pos} (ha : TJ L k B M X W a â) : TJ L k B M X W (.UnaryOp .Not a pos) (.not â) :=
  PT.imp (pt_not ha) fun σ H Q q => by
    obtain ⟨κ, H0, av0, av, ρ, ok, q⟩ := q
    refine ⟨κ, H0, av0, av, ρ, ok, ?_⟩
    have q' : Pst B W av σ H (fun (t b : Bool) _ => t = b) Q (((ev (run L.T k) â ρ).bind tBool).bind fun t => .ok (!t)) := by
      have e : (ev (run L.T k) (.not â) ρ).bind tBool = ((ev (run L.T k) â ρ).bind tBool).bind fun t => .ok (!t) := by
        rw [ev, bind_assoc, bind_assoc]
        cases ev (run L.T k) â ρ with
        | ok x => show ((tBool x).bind _).bind _ = (tBool x).bind _; cases tBool x <;> rfl
        | exn x => rfl
        | bad => rfl
      rw [← e]
      exact q
    exact Pst.bind q' fun t b H1 s1 d1 q1 => by subst d1; exact q1 _ H1 s1 rfl
theorem e_not {a : Expr} {â : E} {pos : Pos} (ha : EJ L k B M X W .b a â) : EJ L k B M X W m (.UnaryOp .Not a pos) (.not â) :=
  EJ.v (PE.imp (pe_not ha) fun σ H Q q => by
    obtain ⟨κ, H0, av0, av, ρ, ok, q⟩ := q
    refine ⟨κ, H0, av0, av, ρ, ok, Pst.bind q fun x v H1 s1 d1 q1 => ?_⟩
    obtain ⟨b, rfl, rfl, q2⟩ := pst_tb (q1.mono s1 fun a b H' _ p => Md.from (m := .f) s1 p) (.inr (show Md.P .b B av H1 x v H1 from d1))
    exact ⟨b, rfl, q2 _ H1 (Same.refl H1) (DenR.scal rfl rfl)⟩)
theorem e_and1 {a : Expr} {â : E} {pos : Pos} (h : EJ L k B M X W m a â) : EJ L k B M X W m (.BoolOp .And [a] pos) â := pe_one h
theorem e_or1 {a : Expr} {â : E} {pos : Pos} (h : EJ L k B M X W m a â) : EJ L k B M X W m (.BoolOp .Or [a] pos) â := pe_one h
theorem e_and {a b : Expr} {r : List Expr} {â b' : E} {pos : Pos} (ha : EJ L k B M X W .b a â) (hb : EJ L k B M X W .v (.BoolOp .And (b :: r) pos) b') : EJ L k B M X W .v (.BoolOp .And (a :: b :: r) pos) (.and â b') :=
  PE.imp (pe_and ha hb) fun σ H Q q => by
    obtain ⟨κ, H0, av0, av, ρ, ok, q⟩ := q
    refine ⟨κ, H0, av0, av, ρ, ok, Pst.bind q fun x v H1 s1 d1 q1 => ?_⟩
    obtain ⟨t, rfl, rfl, q2⟩ := pst_tb (q1.mono s1 fun a b H' _ p => p) (.inr (show Md.P .b B av H1 x v H1 from d1))
    refine ⟨t, rfl, ?_⟩
    cases t with
    | true =>
      rw [if_pos rfl] at q2 ⊢
      exact ⟨κ, H0, av0, av, ρ, ok.mono s1, q2⟩
    | false =>
      rw [if_neg Bool.false_ne_true] at q2 ⊢
      exact q2 _ H1 (Same.refl H1) rfl
theorem e_or {a b : Expr} {r : List Expr} {â b' : E} {pos : Pos} (ha : EJ L k B M X W .b a â) (hb : EJ L k B M X W .v (.BoolOp .Or (b :: r) pos) b') : EJ L k B M X W .v (.BoolOp .Or (a :: b :: r) pos) (.or â b') :=
  PE.imp (pe_or ha hb) fun σ H Q q => by
    obtain ⟨κ, H0, av0, av, ρ, ok, q⟩ := q
    refine ⟨κ, H0, av0, av, ρ, ok, Pst.bind q fun x v H1 s1 d1 q1 => ?_⟩
    obtain ⟨t, rfl, rfl, q2⟩ := pst_tb (q1.mono s1 fun a b H' _ p => p) (.inr (show Md.P .b B av H1 x v H1 from d1))
    refine ⟨t, rfl, ?_⟩
    cases t with
    | true =>
      rw [if_pos rfl] at q2 ⊢
      exact q2 _ H1 (Same.refl H1) rfl
    | false =>
      rw [if_neg Bool.false_ne_true] at q2 ⊢
      exact ⟨κ, H0, av0, av, ρ, ok.mono s1, q2⟩
theorem TW.t {e : Expr} {ê : E} (h : TW L k B M X W e ê) : TJ L k B M X W e ê := h.pt
theorem w_and1 {a : Expr} {â : E} {pos : Pos} (h : TJ L k B M X W a â) : TW L k B M X W (.BoolOp .And [a] pos) â := pw_and1 h
theorem w_or1 {a : Expr} {â : E} {pos : Pos} (h : TJ L k B M X W a â) : TW L k B M X W (.BoolOp .Or [a] pos) â := pw_or1 h
theorem ev_and {cl : CallT} {a b : E} {ρ : Env} : (ev cl (.and a b) ρ).bind tBool = ((ev cl a ρ).bind tBool).bind fun t => if t then (ev cl b ρ).bind tBool else .ok false := by
  rw [ev, bind_assoc, bind_assoc]
  cases ev cl a ρ with
  | ok x =>
    show ((tBool x).bind _).bind _ = (tBool x).bind _
    cases tBool x with
    | ok t => cases t <;> rfl
    | exn x => rfl
    | bad => rfl
  | exn x => rfl
  | bad => rfl
theorem ev_or {cl : CallT} {a b : E} {ρ : Env} : (ev cl (.or a b) ρ).bind tBool = ((ev cl a ρ).bind tBool).bind fun t => if t then .ok true else (ev cl b ρ).bind tBool := by
  rw [ev, bind_assoc, bind_assoc]
  cases ev cl a ρ with
  | ok x =>
    show ((tBool x).bind _).bind _ = (tBool x).bind _
    cases tBool x with
    | ok t => cases t <;> rfl
    | exn x => rfl
    | bad => rfl
  | exn x => rfl
  | bad => rfl
theorem w_and {a b : Expr} {r : List Expr} {â b' : E} {pos : Pos} (ha : TJ L k B M X W a â) (hb : TW L k B M X W (.BoolOp .And (b :: r) pos) b') : TW L k B M X W (.BoolOp .And (a :: b :: r) pos) (.and â b') :=
  PW.imp (pw_and ha hb) fun σ H Q q => by
    obtain ⟨κ, H0, av0, av, ρ, ok, q⟩ := q
    rw [ev_and] at q
    refine ⟨κ, H0, av0, av, ρ, ok, Pst.bind q fun t b H1 s1 d1 q1 => ?_⟩
    subst d1
    cases t with
    | true =>
      rw [if_pos rfl] at q1 ⊢
      exact ⟨κ, H0, av0, av, ρ, ok.mono s1, q1.mono s1 fun _ _ _ _ p => p⟩
    | false =>
      rw [if_neg Bool.false_ne_true] at q1 ⊢
      exact q1 _ H1 s1 rfl
theorem w_or {a b : Expr} {r : List Expr} {â b' : E} {pos : Pos} (ha : TJ L k B M X W a â) (hb : TW L k B M X W (.BoolOp .Or (b :: r) pos) b') : TW L k B M X W (.BoolOp .Or (a :: b :: r) pos) (.or â b') :=
  PW.imp (pw_or ha hb) fun σ H Q q => by
    obtain ⟨κ, H0, av0, av, ρ, ok, q⟩ := q
    rw [ev_or] at q
    refine ⟨κ, H0, av0, av, ρ, ok, Pst.bind q fun t b H1 s1 d1 q1 => ?_⟩
    subst d1
    cases t with
    | true =>
      rw [if_pos rfl] at q1 ⊢
      exact q1 _ H1 s1 rfl
    | false =>
      rw [if_neg Bool.false_ne_true] at q1 ⊢
      exact ⟨κ, H0, av0, av, ρ, ok.mono s1, q1.mono s1 fun _ _ _ _ p => p⟩
theorem chain_ev {cl : CallT} {o o' : Cm} {a b c : E} {ρ : Env} : ev cl (.chain o o' a b c) ρ = (ev cl a ρ).bind fun x => (ev cl b ρ).bind fun y => (cmpD o x y).bind fun t =>
      if t then (ev cl c ρ).bind fun z => (cmpD o' y z).bind fun t' => .ok (.bl t') else .ok (.bl false) := by rw [ev]
theorem e_chain (C : Cn L k B N sc fc hot X W) (o o' : Cm) {op op' : CmpOp} {a b c : Expr} {â b' c' : E} {pos : Pos} (ha : EJ L k B M X W .b a â) (hb : EJ L k B M X W .b b b') (hc : EJ L k B M X W .b c c') (hop : op = cmOf o := by rfl) (hop' : op' = cmOf o' := by rfl)
    (h1 : lastMarks [op, op'] [b, c] = false := by rfl) : EJ L k B M X W m (.Compare a [op, op'] [b, c] pos) (.chain o o' â b' c') := by
  subst hop hop'
  exact EJ.v (PE.imp (pe_chain (opr_of C) (opr_of C) ha hb hc h1) fun σ H Q q => by
    obtain ⟨κ, H0, av0, av, ρ, ok, q⟩ := q
    rw [chain_ev] at q
    refine ⟨κ, H0, av0, av, ρ, ok, Pst.bind q fun x v H1 s1 d1 q1 => ⟨κ, H0, av0, av, ρ, ok.mono s1, Pst.bind (q1.mono s1 fun a b H' _ p => Md.from s1 p) fun y w H2 s2 d2 q2 => ?_⟩⟩
    cases e : cmpD o x y with
    | exn z => exact absurd e (nox_cmp _ _ _ z)
    | bad => rw [e] at q2; exact q2.elim
    | ok t =>
      rw [e] at q2
      refine ⟨av, x, y, t, Md.same d1 s2, d2, e, t, rfl, ?_⟩
      cases t with
      | false =>
        simp only [R.bind_ok, if_neg Bool.false_ne_true] at q2 ⊢
        exact q2 _ H2 s2 (DenR.scal rfl rfl)
      | true =>
        simp only [R.bind_ok, if_pos] at q2 ⊢
        refine ⟨κ, H0, av0, av, ρ, (ok.mono s1).mono s2, Pst.bind (q2.mono s2 fun a b H' _ p => Md.from s2 p) fun z u H3 s3 d3 q3 => ?_⟩
        obtain ⟨r, e3, q4⟩ := q3.ok (.bind (nox_cmp o' y z) fun _ => .ok)
        obtain ⟨t', e4, e5⟩ := R.bind_eq e3
        injection e5 with e5
        subst e5
        exact ⟨av, y, z, t', Md.same d2 s3, d3, e4, q4 _ H3 s3 (DenR.scal rfl rfl)⟩)
theorem t_chain (C : Cn L k B N sc fc hot X W) (o o' : Cm) {op op' : CmpOp} {a b c : Expr} {â b' c' : E} {pos : Pos} (ha : EJ L k B M X W .b a â) (hb : EJ L k B M X W .b b b') (hc : EJ L k B M X W .b c c') (hop : op = cmOf o := by rfl) (hop' : op' = cmOf o' := by rfl)
    (h1 : lastMarks [op, op'] [b, c] = false := by rfl) : TJ L k B M X W (.Compare a [op, op'] [b, c] pos) (.chain o o' â b' c') := by
  subst hop hop'
  exact PT.imp (pt_chain (opr_of C) (opr_of C) ha hb hc h1) fun σ H Q q => by
    obtain ⟨κ, H0, av0, av, ρ, ok, q⟩ := q
    rw [chain_ev, bind_assoc] at q
    refine ⟨κ, H0, av0, av, ρ, ok, Pst.bind q fun x v H1 s1 d1 q1 => ?_⟩
    rw [bind_assoc] at q1
    refine ⟨κ, H0, av0, av, ρ, ok.mono s1, Pst.bind (q1.mono s1 fun a b H' _ p => p) fun y w H2 s2 d2 q2 => ?_⟩
    cases e : cmpD o x y with
    | exn z => exact absurd e (nox_cmp _ _ _ z)
    | bad => rw [e] at q2; exact q2.elim
    | ok t =>
      rw [e] at q2
      refine ⟨av, x, y, t, Md.same d1 s2, d2, e, t, rfl, ?_⟩
      cases t with
      | false =>
        simp only [R.bind_ok, if_neg Bool.false_ne_true] at q2 ⊢
        exact ⟨false, rfl, q2 _ H2 s2 rfl⟩
      | true =>
        simp only [R.bind_ok, if_pos] at q2 ⊢
        rw [bind_assoc] at q2
        refine ⟨κ, H0, av0, av, ρ, (ok.mono s1).mono s2, Pst.bind (q2.mono s2 fun a b H' _ p => p) fun z u H3 s3 d3 q3 => ?_⟩
        obtain ⟨r, e3, q4⟩ := q3.ok (.bind (.bind (nox_cmp o' y z) fun _ => .ok) fun _ => nox_tBool _)
        obtain ⟨r2, e6, e7⟩ := R.bind_eq e3
        obtain ⟨t', e4, e5⟩ := R.bind_eq e6
        injection e5 with e5
        subst e5
        injection e7 with e7
        subst e7
        exact ⟨av, y, z, t', Md.same d2 s3, d3, e4, _, rfl, q4 _ H3 s3 rfl⟩
theorem e_ife {c a b : Expr} {c' â b' : E} {pos : Pos} (hc : TJ L k B M X W c c') (ha : EJ L k B M X W m a â) (hb : EJ L k B M X W m b b') : EJ L k B M X W m (.IfExp c a b pos) (.ife c' â b') :=
  PE.imp (pe_ifExp hc ha hb) fun σ H Q q => by
    obtain ⟨κ, H0, av0, av, ρ, ok, q⟩ := q
    have q' : Pst B W av σ H (m.P B av H) Q (((ev (run L.T k) c' ρ).bind tBool).bind fun t => if t then ev (run L.T k) â ρ else ev (run L.T k) b' ρ) := by
      have e : ev (run L.T k) (.ife c' â b') ρ = ((ev (run L.T k) c' ρ).bind tBool).bind fun t => if t then ev (run L.T k) â ρ else ev (run L.T k) b' ρ := by
        rw [ev, bind_assoc]
      rw [← e]
      exact q
    refine ⟨κ, H0, av0, av, ρ, ok, Pst.bind q' fun t b H1 s1 d1 q1 => ?_⟩
    subst d1
    cases t with
    | true =>
      rw [if_pos rfl] at q1 ⊢
      exact ⟨κ, H0, av0, av, ρ, ok.mono s1, q1.mono s1 fun a b H' _ p => Md.from s1 p⟩
    | false =>
      rw [if_neg Bool.false_ne_true] at q1 ⊢
      exact ⟨κ, H0, av0, av, ρ, ok.mono s1, q1.mono s1 fun a b H' _ p => Md.from s1 p⟩

/-! ### subscripts, slices -/
theorem e_ix (C : Cn L k B N sc fc hot X W) {a b : Expr} {â b' : E} {pos : Pos} (ha : EJ L k B M X W .b a â) (hb : EJ L k B M X W .b b b') (hs : PlainIx b := by exact fun _ _ => rfl) (hm : m ≠ .f := by decide) : EJ L k B M X W m (.Subscript a b pos) (.ix â b') := by
  have h : EJ L k B M X W .v (.Subscript a b pos) (.ix â b') := PE.imp (pe_ix (ixr C.hK (Nat.lt_of_le_of_lt (Nat.add_le_add_left (by decide : 1 ≤ 200) _) C.un)) ha hb hs) fun σ H Q q => by
    obtain ⟨κ, H0, av0, av, ρ, ok, q⟩ := q
    refine ⟨κ, H0, av0, av, ρ, ok, Pst.bind q fun x v H1 s1 d1 q1 => ⟨κ, H0, av0, av, ρ, ok.mono s1, Pst.bind (q1.mono s1 fun a b H' _ p => p) fun y w H2 s2 d2 q2 => ?_⟩⟩
    obtain ⟨r, e, q3⟩ := q2.ok (nox_ix x y)
    exact ⟨av, x, y, r, Md.same d1 s2, d2, e, fun v' p => q3 v' H2 s2 p⟩
  cases m with
  | v => exact h
  | b => exact h.b
  | f => exact absurd rfl hm

/-! ### arguments, displays -/
theorem a_nil : AJ L k B M X W m [] .nil := PA.imp pa_nil fun σ H Q q => by
  obtain ⟨κ, H0, av0, av, ρ, ok, q⟩ := q
  exact q [] H (Same.refl H) (by cases m <;> rfl)
theorem a_cons {e : Expr} {es : List Expr} {ê : E} {ês : Es} (h : EJ L k B M X W m e ê) (hs : AJ L k B M X W m es ês) (hm : m ≠ .f := by decide) (he : starEach (e :: es) X.env = (false, eval e X.env) :: starEach es X.env := by rfl) : AJ L k B M X W m (e :: es) (.cons ê ês) :=
  PA.imp (pa_cons h hs he) fun σ H Q q => by
    obtain ⟨κ, H0, av0, av, ρ, ok, q⟩ := q
    refine ⟨κ, H0, av0, av, ρ, ok, Pst.bind q fun x v H1 s1 d1 q1 => ⟨κ, H0, av0, av, ρ, ok.mono s1, Pst.bind (P := m.Ps B av) (q1.mono s1 fun a b H' _ p => p) fun y w H2 s2 d2 q2 => q2 _ H2 s2 ?_⟩⟩
    cases m with
    | v => exact ⟨v, w, rfl, Den.same d1 s2, d2⟩
    | b => exact ⟨v, w, rfl, DenB.same d1 s2, d2⟩
    | f => exact absurd rfl hm
theorem e_tup {es : List Expr} {ês : Es} {x1 : Nat} {pos : Pos} (h : AJ L k B M X W .v es ês) : EJ L k B M X W m (.Tuple es x1 pos) (.tup ês) :=
  EJ.v (PE.imp (pe_tup h) fun σ H Q q => by
    obtain ⟨κ, H0, av0, av, ρ, ok, q⟩ := q
    refine ⟨κ, H0, av0, av, ρ, ok, Pst.bind q fun l vs H1 s1 d1 q1 => ?_⟩
    cases e : lenOk l.length with
    | false => rw [e] at q1; exact q1.elim
    | true =>
      rw [e] at q1
      have d1' : Dens B av H1 l vs := d1
      exact ⟨by rw [d1'.length]; exact lenOk_le e, fun p hp => q1 _ _ (s1.trans (Same.upd hp)) (DenR.scal (Den.tupNew d1' hp) rfl)⟩)
theorem e_lst {es : List Expr} {ês : Es} {pos : Pos} (h : AJ L k B M X W .v es ês) : EJ L k B M X W m (.List es pos) (.lst ês) :=
  EJ.v (PE.imp (pe_lst h) fun σ H Q q => by
    obtain ⟨κ, H0, av0, av, ρ, ok, q⟩ := q
    refine ⟨κ, H0, av0, av, ρ, ok, Pst.bind q fun l vs H1 s1 d1 q1 => ?_⟩
    cases e : lenOk l.length with
    | false => rw [e] at q1; exact q1.elim
    | true =>
      rw [e] at q1
      have d1' : Dens B av H1 l vs := d1
      exact ⟨by rw [d1'.length]; exact lenOk_le e, fun p hp => q1 _ _ (s1.trans (Same.upd hp)) (DenR.from (DenR.lst d1' hp (ok.mono s1).trk) s1)⟩)

theorem Dens.reps {av : Addr → Prop} {H : Hp} {l : List D} {vs : List V} (h : Dens B av H l vs) : ∀ n : Nat, Dens B av H (List.replicate n l).flatten (List.replicate n vs).flatten
  | 0 => rfl
  | n + 1 => by
    rw [List.replicate_succ, List.replicate_succ, List.flatten_cons, List.flatten_cons]
    exact h.append (Dens.reps h n)
theorem nox_rep (d e : D) : NoX (repD d e) := by
  unfold repD
  split <;> first | exact .ite .ok .bad | exact .bad
/-- [a, ..] * n -/
theorem e_rep (C : Cn L k B N sc fc hot X W) {a b : Expr} {â b' : E} {pos : Pos} (ha : EJ L k B M X W .f a â) (hb : EJ L k B M X W .b b b') : EJ L k B M X W m (.BinOp a .Mult b pos) (.rep â b') :=
  EJ.v (PE.imp (pe_op op_rep ha hb) fun σ H Q q => by
    obtain ⟨κ, H0, av0, av, ρ, ok, q⟩ := q
    have q' : Pst B W av σ H (Md.f.P B av H) Q ((ev (run L.T k) â ρ).bind fun x => (ev (run L.T k) b' ρ).bind fun y => repD x y) := q
    refine ⟨κ, H0, av0, av, ρ, ok, Pst.bind q' fun x v H1 s1 d1 q1 => ⟨κ, H0, av0, av, ρ, ok.mono s1, Pst.bind (q1.mono s1 fun a b H' _ p => p) fun y w H2 s2 d2 q2 => ?_⟩⟩
    obtain ⟨r, e1, q3⟩ := q2.ok (nox_rep x y)
    cases x <;> first | (cases e1; done) | skip
    cases y <;> first | (cases e1; done) | skip
    rename_i l i
    obtain ⟨z, rfl⟩ := if_ok e1
    obtain ⟨z1, z⟩ := Bool.and_eq_true_iff.mp z
    obtain ⟨z2, z3⟩ := Bool.and_eq_true_iff.mp z
    have d1' : DenR B av H H1 (.lst l) v := d1
    obtain ⟨p, vs, rfl, n, q4, r⟩ := d1'.2 rfl
    have d2' : w = .int i := d2
    subst d2'
    have hd : Dens B av H2 l vs := (r.weak fun _ z => .inl z).same s2
    refine ⟨p, i, vs, rfl, rfl, s2 _ _ q4, of_decide_eq_true z2, of_decide_eq_true z3, by rw [hd.length]; exact lenOk_le z1, fun p2 np => q3 _ _ (s2.trans (Same.upd np)) ?_⟩
    exact DenR.from (DenR.lst (hd.reps _) np ((ok.mono s1).mono s2).trk) (s1.trans s2))

/-! ### calls of the text's defs -/
def frM (fr : Bool) : Md := if fr then .f else .v
theorem den_frM {fr : Bool} {av : Addr → Prop} {H H' : Hp} {d : D} {v : V} (h : Den B av H' d v ∧ (fr = true → DenR B av H H' d v)) : (frM fr).P B av H d v H' := by
  cases fr with
  | true => exact h.2 rfl
  | false => exact h.1
theorem spc_of {f : Nat} {fr : Bool} {ds : List D} {vs : List V} {H : Hp} {σ : L2.St} {av : Addr → Prop} {Q : VK} (ht : ∀ b, av b → H b ≠ none) (hd : Dens B av H ds vs) (h : Pst B W av σ H ((frM fr).P B av H) Q (run L.T k f ds)) :
    SpC L.T k B f fr vs H Q (fun c d H' => W c d σ H') := by
  refine ⟨av, ds, ht, hd, ?_⟩
  cases e : run L.T k f ds with
  | ok d => rw [e] at h; exact fun v H' s p => h v H' s (den_frM p)
  | exn x => rw [e] at h; exact fun cv dd H' s p => h cv dd H' s p
  | bad => rw [e] at h; exact h
theorem e_call_u (C : Cn L k B N sc fc hot X W) {f : Nat} {fr : Bool} {x : Str} {p pos : Pos} {e : Expr} {es : List Expr} {ês : Es} {u : Value} (hu : X.mg x = some u) (hk : PySem.W.keepIn X.K u = true) (hc : CallV L.T k B X W f fr u)
    (hg : Gl X x) (ha : AJ L k B M X W .v (e :: es) ês) (hd : (x == ("__debug__" : Str)) = false)
    (h1 : starEach (e :: es) X.env = (false, eval e X.env) :: starEach es X.env) (h2 : (backTo pos (starEach es X.env)).any (·.1) = false) :
    PE X (.Call (.Name x p) (e :: es) [] pos) (rd L k B M W (frM fr) (.call f ês)) := by
  refine ⟨fun pins s σ H Q I q => ?_⟩
  obtain ⟨κ, H0, av0, av, ρ, ok, q⟩ := q
  have q' : Pst B W av σ H ((frM fr).P B av H) Q ((evs (run L.T k) ês ρ).bind fun l => run L.T k f l) := q
  refine wpAny_Call_Name_kw (ld_glob I hg hu ?_ hd)
  refine PySem.W.callWith_K (h₀ := X.base) I.ok.mod.kin hk (thn (ha.run pos pins s σ H (fun vs H1 => SpC L.T k B f fr vs H1 Q (fun c d H' => W c d σ H')) I
    ⟨κ, H0, av0, av, ρ, ok, Pst.bind q' fun l vs H1 s1 d1 q1 => spc_of (ok.mono s1).trk d1 (q1.mono s1 fun a b H' _ p => Md.from s1 p)⟩) fun us s1 h => ?_) h1 h2
  obtain ⟨vs, H1, I1, r1, q1⟩ := h
  exact ⟨I1.kIn, hc pins σ H1 s1 Q us vs I1 r1 q1⟩
theorem e_call0_u (C : Cn L k B N sc fc hot X W) {f : Nat} {fr : Bool} {x : Str} {p pos : Pos} {u : Value} (hu : X.mg x = some u) (hk : PySem.W.keepIn X.K u = true) (hc : CallV L.T k B X W f fr u)
    (hg : Gl X x) (hd : (x == ("__debug__" : Str)) = false) : PE X (.Call (.Name x p) [] [] pos) (rd L k B M W (frM fr) (.call f .nil)) := by
  refine ⟨fun pins s σ H Q I q => ?_⟩
  obtain ⟨κ, H0, av0, av, ρ, ok, q⟩ := q
  refine wpAny_Call_Name_kw (ld_glob I hg hu ?_ hd)
  exact PySem.W.callWith_K0 I.kIn hk (hc pins σ H s Q [] [] I .nil (spc_of (B := B) (W := W) (ds := []) ok.trk rfl q))
theorem Cn.callV (C : Cn L k B N sc fc none X W) {f : Nat} {fr : Bool} {a : Addr} (h : FnV L.T k B X.prog X.w X.mg X.base f fr a) : CallV L.T k B X W f fr (.ref a) := callV_of C.hK h (C.room rfl) C.tk
/-- f(e, ..), f a def of the module -/
theorem f_call (C : Cn L k B N sc fc none X W) (f : Nat) {fi : FI} {x : Str} {p pos : Pos} {e : Expr} {es : List Expr} {ês : Es} (ha : AJ L k B M X W .v (e :: es) ês) (hf : L.T f = some fi := by rfl) (hn : fi.name = x := by rfl) (hs : fi.self = none := by rfl) (hi : fi.init = none := by rfl)
    (hg : sc.names.lookup x = some .globalImplicit := by rfl) (hd : (x == ("__debug__" : Str)) = false := by decide)
    (h1 : starEach (e :: es) X.env = (false, eval e X.env) :: starEach es X.env := by rfl) (h2 : (backTo pos (starEach es X.env)).any (·.1) = false := by rfl) :
    EJ L k B M X W (frM fi.fr) (.Call (.Name x p) (e :: es) [] pos) (.call f ês) := by
  obtain ⟨a, g1, g2, g3⟩ := C.fn rfl f fi hf hs hi
  exact e_call_u C (by rw [← hn]; exact g1) g2 (C.callV g3) (C.gl hg) ha hd h1 h2
theorem f_call0 (C : Cn L k B N sc fc none X W) (f : Nat) {fi : FI} {x : Str} {p pos : Pos} (hf : L.T f = some fi := by rfl) (hn : fi.name = x := by rfl) (hs : fi.self = none := by rfl) (hi : fi.init = none := by rfl)
    (hg : sc.names.lookup x = some .globalImplicit := by rfl) (hd : (x == ("__debug__" : Str)) = false := by decide) :
    EJ L k B M X W (frM fi.fr) (.Call (.Name x p) [] [] pos) (.call f .nil) := by
  obtain ⟨a, g1, g2, g3⟩ := C.fn rfl f fi hf hs hi
  exact e_call0_u C (by rw [← hn]; exact g1) g2 (C.callV g3) (C.gl hg) hd
theorem EJ.fv {fr : Bool} {e : Expr} {ê : E} (h : EJ L k B M X W (frM fr) e ê) : EJ L k B M X W .v e ê := by
  cases fr with
  | true => exact EJ.v h
  | false => exact h
theorem EJ.fb {fr : Bool} {e : Expr} {ê : E} (h : EJ L k B M X W (frM fr) e ê) : EJ L k B M X W .b e ê := h.fv.b

/-! ### calls of built-ins -/
theorem e_blt (C : Cn L k B N sc fc hot X W) (b : Bl) {x : Str} {p pos : Pos} {e : Expr} {es : List Expr} {ês : Es} (ha : AJ L k B M X W .b (e :: es) ês) (hv : bootBuiltins x = some (blVal b) := by decide +kernel)
    (hg : sc.names.lookup x = some .globalImplicit := by rfl) (hn : L.nms x = some .free := by rfl) (hc : blHot b = true ∨ hot = none := by first | exact .inl rfl | exact .inr rfl) (hnm : x ≠ "__name__" := by decide) (hd : (x == ("__debug__" : Str)) = false := by decide)
    (h1 : starEach (e :: es) X.env = (false, eval e X.env) :: starEach es X.env := by rfl) (h2 : (backTo pos (starEach es X.env)).any (·.1) = false := by rfl) :
    EJ L k B M X W m (.Call (.Name x p) (e :: es) [] pos) (.blt b ês) := by
  have hcr := cr_bl C.hK b (fun h => hc.elim (fun z => by rw [z] at h; cases h) fun z => C.calm z)
  have hfree : X.mg x = none := C.nm x _ hn
  have fin : ∀ (Q : VK) (σ : L2.St) (H : Hp), rd L k B M W .f (.blt b ês) σ H Q → tCB (rLL B (blD b)) (rdA L k B M W .b ês) σ H Q := fun Q σ H q => by
    obtain ⟨κ, H0, av0, av, ρ, ok, q⟩ := q
    refine ⟨κ, H0, av0, av, ρ, ok, Pst.bind q fun l vs H1 s1 d1 q1 => ?_⟩
    obtain ⟨r, e1, q3⟩ := q1.ok (nox_bl b l)
    exact ⟨av, l, r, (ok.mono s1).trk, d1, e1, fun v' H' s' p => q3 v' H' (s1.trans s') (Md.from (m := .f) s1 p)⟩
  refine EJ.v (PE.imp (t := tCB (rLL B (blD b)) (rdA L k B M W .b ês)) ?_ fun σ H Q q => fin Q σ H q)
  cases b
  case tuple => exact pe_callTy hcr (C.gl hg) hfree hv ha hnm hd h1 h2
  case list => exact pe_callTy hcr (C.gl hg) hfree hv ha hnm hd h1 h2
  case int => exact pe_callTy hcr (C.gl hg) hfree hv ha hnm hd h1 h2
  case str => exact pe_callTy hcr (C.gl hg) hfree hv ha hnm hd h1 h2
  case bool => exact pe_callTy hcr (C.gl hg) hfree hv ha hnm hd h1 h2
  all_goals exact pe_callB hcr (C.gl hg) hfree hv ha hnm hd h1 h2
/-- a built-in function under a module's name (from math import gcd) -/
theorem e_bltm (C : Cn L k B N sc fc hot X W) (b : Bl) {x : Str} {id : String} {p pos : Pos} {e : Expr} {es : List Expr} {ês : Es} (ha : AJ L k B M X W .b (e :: es) ês) (hv : blVal b = .builtin id := by rfl)
    (hg : sc.names.lookup x = some .globalImplicit := by rfl) (hn : L.nms x = some (.bf id) := by rfl) (hc : blHot b = true ∨ hot = none := by first | exact .inl rfl | exact .inr rfl) (hd : (x == ("__debug__" : Str)) = false := by decide)
    (h1 : starEach (e :: es) X.env = (false, eval e X.env) :: starEach es X.env := by rfl) (h2 : (backTo pos (starEach es X.env)).any (·.1) = false := by rfl) :
    EJ L k B M X W m (.Call (.Name x p) (e :: es) [] pos) (.blt b ês) := by
  have hcr := cr_bl C.hK b (fun h => hc.elim (fun z => by rw [z] at h; cases h) fun z => C.calm z)
  rw [hv] at hcr
  have hmg : X.mg x = some (.builtin id) := C.nm x _ hn
  exact EJ.v (PE.imp (pe_callBfun hcr (C.gl hg) hmg ha hd h1 h2) fun σ H Q q => by
    obtain ⟨κ, H0, av0, av, ρ, ok, q⟩ := q
    refine ⟨κ, H0, av0, av, ρ, ok, Pst.bind q fun l vs H1 s1 d1 q1 => ?_⟩
    obtain ⟨r, e1, q3⟩ := q1.ok (nox_bl b l)
    exact ⟨av, l, r, (ok.mono s1).trk, d1, e1, fun v' H' s' p => q3 v' H' (s1.trans s') (Md.from (m := .f) s1 p)⟩)

/-! ### fields -/
theorem lookup_dens {B : Bs} {av : Addr → Prop} {H : Hp} {f : Str} : ∀ {l : List D} {fs : List (Str × V)} {d : D}, Dens B av H l (fs.map (·.2)) → ((fs.map (·.1)).zip l).lookup f = some d → ∃ v, fs.lookup f = some v ∧ Den B av H d v
  | [], [], _, _, e => by cases e
  | [], _ :: _, _, h, _ => by cases h
  | _ :: _, [], _, h, _ => by
    obtain ⟨v, r, e, _⟩ := h
    cases e
  | x :: l, p :: fs, d, h, e => by
    obtain ⟨v, r, e1, h1, h2⟩ := h
    have e1' : p.2 :: fs.map (·.2) = v :: r := e1
    injection e1' with e2 e3
    subst e2 e3
    have e' : ((p.1, x) :: ((fs.map (·.1)).zip l)).lookup f = some d := e
    rw [List.lookup_cons] at e'
    by_cases z : (f == p.1) = true
    · rw [z] at e'
      have e' : some x = some d := e'
      cases e'
      refine ⟨p.2, ?_, h1⟩
      obtain ⟨p1, p2⟩ := p
      rw [List.lookup_cons, z]
    · have z' : (f == p.1) = false := by simpa using z
      rw [z'] at e'
      obtain ⟨w, g1, g2⟩ := lookup_dens h2 e'
      refine ⟨w, ?_, g2⟩
      obtain ⟨p1, p2⟩ := p
      rw [List.lookup_cons, z']
      exact g1
theorem e_fld (C : Cn L k B N sc fc hot X W) (cs : List Str) {a : Expr} {â : E} {f : Str} {pos : Pos} (ha : EJ L k B M X W .b a â) (hf : ∀ c ∈ cs, L.flds c f = true := by decide +kernel) (hb : attributeBase a f X.env (eval a X.env) = eval a X.env := by rfl) (hm : m ≠ .f := by decide) :
    EJ L k B M X W m (.Attribute a f pos) (.fld â f cs) := by
  have h : EJ L k B M X W .v (.Attribute a f pos) (.fld â f cs) := PE.imp (pe_fld ha hb) fun σ H Q q => by
    obtain ⟨κ, H0, av0, av, ρ, ok, q⟩ := q
    refine ⟨κ, H0, av0, av, ρ, ok, Pst.bind q fun x v H1 s1 d1 q1 => ?_⟩
    obtain ⟨r, e1, q3⟩ := q1.ok (nox_fld f cs x)
    cases x <;> first | (cases e1; done) | skip
    rename_i c ns l
    obtain ⟨a, dx, fs, rfl, q2, rfl, r1⟩ := d1
    by_cases z : c ∈ cs
    · have e2 : oR ((List.zip (fs.map (·.1)) l).lookup f) = R.ok r := by
        have e3 : (if decide (c ∈ cs) = true then oR ((List.zip (fs.map (·.1)) l).lookup f) else R.bad) = R.ok r := e1
        rw [if_pos (decide_eq_true z)] at e3
        exact e3
      obtain ⟨w, g1, g2⟩ := lookup_dens r1 (oR_eq e2)
      obtain ⟨c1, c2⟩ := C.fl c f (hf c z)
      exact ⟨a, _, dx, fs, w, rfl, q2, c1, c2, g1, q3 w H1 s1 g2⟩
    · have e3 : (if decide (c ∈ cs) = true then oR ((List.zip (fs.map (·.1)) l).lookup f) else R.bad) = R.ok r := e1
      rw [if_neg (by rw [decide_eq_false z]; exact Bool.false_ne_true)] at e3
      cases e3
  cases m with
  | v => exact h
  | b => exact h.b
  | f => exact absurd rfl hm
end
end Pv
set_option Elab.async false
set_option linter.all false
set_option maxRecDepth 100000
set_option maxHeartbeats 2000000
/-! Pv10: slices, targets, what is walked, comprehensions. -/
namespace Pv
open PySem PySem.Spec PyProof.Rows L2

section
variable {L : Lw} {k : Nat} {B : Bs} {N : List Str} {sc : Scope} {fc : List Str} {hot : Option Nat} {X : Cx} {W : WX} {M : Nat → Bool} {m : Md}

/-! ### slices -/
def rdO (L : Lw) (k : Nat) (B : Bs) (M : Nat → Bool) (W : WX) (e : E) : TO := fun σ H Q => ∃ κ H0 av0 av ρ, EnvOk B M κ H0 av0 av σ H ρ ∧ Pst B W av σ H (fun (p q : Option Int) _ => p = q) Q ((ev (run L.T k) e ρ).bind fun d => oR (partD d))
def OJ (L : Lw) (k : Nat) (B : Bs) (M : Nat → Bool) (X : Cx) (W : WX) (e : Option Expr) (ê : E) : Prop := PO X e (rdO L k B M W ê)
theorem PO.imp {e : Option Expr} {t t' : TO} (h : PO X e t) (i : ∀ σ H Q, t' σ H Q → t σ H Q) : PO X e t' := ⟨fun pins s σ H Q I q => h.run pins s σ H Q I (i _ _ _ q)⟩
theorem o_none : OJ L k B M X W none (.c .non) := PO.imp po_none fun σ H Q q => by
  obtain ⟨κ, H0, av0, av, ρ, ok, q⟩ := q
  exact q none H (Same.refl H) rfl
theorem o_some {e : Expr} {ê : E} (h : EJ L k B M X W .b e ê) : OJ L k B M X W (some e) ê := by
  refine ⟨fun pins s σ H Q I q => ?_⟩
  rw [evalPart_some]
  obtain ⟨κ, H0, av0, av, ρ, ok, q⟩ := q
  refine thn (h.run pins s σ H (fun x H1 => ∃ o, (x = .non ∧ o = none ∨ ∃ i, x = .int i ∧ o = some i) ∧ Q o H1) I ⟨κ, H0, av0, av, ρ, ok, Pst.bind q fun x v H1 s1 d1 q1 => ?_⟩) fun u s1 ⟨x, H1, I1, r1, o, h1, q1⟩ => ?_
  · obtain ⟨o, e1, q2⟩ := q1.ok .oR
    have e2 := oR_eq e1
    cases x <;> first | (cases e2; done) | skip
    · cases e2
      exact ⟨none, .inl ⟨d1, rfl⟩, q2 none H1 s1 rfl⟩
    · rename_i i
      cases e2
      exact ⟨some i, .inr ⟨i, d1, rfl⟩, q2 (some i) H1 s1 rfl⟩
  · rcases h1 with ⟨rfl, rfl⟩ | ⟨i, rfl, rfl⟩
    · cases r1
      exact ⟨none, H1, I1, .none, q1⟩
    · obtain ⟨t, rfl⟩ := r1
      exact ⟨some i, H1, I1, .int i t, q1⟩
theorem slr (hK : X.K = B.K) : SlR X (fun x lo hi H Q => ∃ av d r, (∀ b, av b → H b ≠ none) ∧ DenB B av H d x ∧ slV d lo hi = .ok r ∧ ∀ v H', Same H H' → DenR B av H H' r v → Q v H') := by
  have h0 := SlR.or (X := X) sl_list sl_tupA
  intro pins s σ H x v vl vu lo hi sl Q I rx hs pl pu h
  refine h0 pins s σ H x v vl vu lo hi sl Q I rx hs pl pu ?_
  obtain ⟨av, d, r, ht, hd, hr, q⟩ := h
  cases d <;> first | (cases hr; done) | skip
  · rename_i l
    cases hr
    obtain ⟨a, xs, rfl, q1, r1⟩ := hd
    refine .inr ⟨a, xs, rfl, by rw [hK]; exact q1, fun z => ?_, fun z p hp => ?_⟩
    · have e : cutD l lo hi = l := by
        unfold cutD
        rw [← r1.length, z.1, z.2, List.drop_zero, Nat.sub_zero, r1.length, List.take_length]
      rw [e] at q
      exact q _ H (Same.refl H) (DenR.scal ⟨a, xs, rfl, q1, r1⟩ rfl)
    · exact q _ _ (Same.upd hp) (DenR.scal (Den.tupNew (r1.cut lo hi) hp) rfl)
  · rename_i l
    cases hr
    obtain ⟨a, xs, rfl, q1, r1⟩ := hd
    exact .inl ⟨a, xs, rfl, by rw [hK]; exact q1, fun p hp => q _ _ (Same.upd hp) (DenR.lst (r1.cut lo hi) hp ht)⟩
theorem e_sl (C : Cn L k B N sc fc hot X W) {a : Expr} {lo hi : Option Expr} {â l' h' : E} {p2 pos : Pos} (ha : EJ L k B M X W .b a â) (hl : OJ L k B M X W lo l') (hh : OJ L k B M X W hi h') : EJ L k B M X W m (.Subscript a (.Slice lo hi none p2) pos) (.sl â l' h') :=
  EJ.v (PE.imp (pe_slice (slr C.hK) ha hl hh) fun σ H Q q => by
    obtain ⟨κ, H0, av0, av, ρ, ok, q⟩ := q
    have e : ev (run L.T k) (.sl â l' h') ρ = (ev (run L.T k) â ρ).bind fun x => ((ev (run L.T k) l' ρ).bind fun p => oR (partD p)).bind fun p' => ((ev (run L.T k) h' ρ).bind fun q => oR (partD q)).bind fun q' => slV x p' q' := by
      rw [ev]
      congr 1
      funext x
      rw [bind_assoc]
      congr 1
      funext p
      congr 1
      funext p'
      rw [bind_assoc]
    rw [e] at q
    refine ⟨κ, H0, av0, av, ρ, ok, Pst.bind q fun x v H1 s1 d1 q1 => ⟨κ, H0, av0, av, ρ, ok.mono s1, Pst.bind (q1.mono s1 fun a b H' _ p => Md.from s1 p) fun p p' H2 s2 d2 q2 => ⟨κ, H0, av0, av, ρ, (ok.mono s1).mono s2, Pst.bind (q2.mono s2 fun a b H' _ p => Md.from s2 p) fun r r' H3 s3 d3 q3 => ?_⟩⟩⟩
    subst d2 d3
    obtain ⟨z, e3, q4⟩ := q3.ok (nox_sl x p r)
    exact ⟨av, x, z, (((ok.mono s1).mono s2).mono s3).trk, Md.same (Md.same d1 s2) s3, e3, fun v' H' s' p => q4 v' H' (s3.trans s') (Md.from (m := .f) s3 p)⟩)

/-! ### targets -/
mutual
def tgSl : Tg → List Nat
  | .nm i => [i]
  | .tp ts => tgSls ts
def tgSls : Tgs → List Nat
  | .nil => []
  | .cons t ts => tgSl t ++ tgSls ts
end
theorem EnvOk.set {κ : List (D × V)} {H0 H : Hp} {av0 av : Addr → Prop} {σ : L2.St} {ρ : Env} (ok : EnvOk B M κ H0 av0 av σ H ρ) {i : Nat} {d : D} {v : V} (hm : M i = false) (hd : Den B av H d v) : EnvOk B M κ H0 av0 av (σ.set i (some v)) H (ρ.set i (some d)) := by
  have hl := ok.len
  have get : ∀ {j : Nat} {d' : D}, (ρ.set i (some d))[j]? = some (some d') → (j = i ∧ d' = d ∧ j < ρ.length) ∨ (j ≠ i ∧ ρ[j]? = some (some d')) := fun {j d'} h => by
    by_cases e : j = i
    · subst e
      by_cases z : j < ρ.length
      · rw [List.getElem?_set_self z] at h
        cases h
        exact .inl ⟨rfl, rfl, z⟩
      · rw [List.getElem?_eq_none (by rw [List.length_set]; omega)] at h
        cases h
    · rw [List.getElem?_set_ne (Ne.symm e)] at h
      exact .inr ⟨e, h⟩
  refine ⟨by rw [List.length_set, List.length_set]; exact hl, ok.same, ok.sub, ok.trk0, ok.trk, fun j d' h1 h2 => ?_, fun j d' h1 h2 => ?_, fun j j' d1 d2 u h1 h2 h3 h4 h5 h6 h7 => ?_, ok.kp⟩
  · rcases get h1 with ⟨rfl, rfl, z⟩ | ⟨e, h⟩
    · exact ⟨v, List.getElem?_set_self (by omega), .inl hd⟩
    · obtain ⟨u, e1, e2⟩ := ok.val j d' h h2
      exact ⟨u, by rw [List.getElem?_set_ne (Ne.symm e)]; exact e1, e2⟩
  · rcases get h1 with ⟨rfl, rfl, z⟩ | ⟨e, h⟩
    · rw [hm] at h2
      cases h2
    · obtain ⟨u, e1, e2⟩ := ok.own j d' h h2
      exact ⟨u, by rw [List.getElem?_set_ne (Ne.symm e)]; exact e1, e2⟩
  · have n1 : j ≠ i := by rintro rfl; rw [hm] at h1; cases h1
    have n2 : j' ≠ i := by rintro rfl; rw [hm] at h2; cases h2
    rw [List.getElem?_set_ne (Ne.symm n1)] at h4 h6
    rw [List.getElem?_set_ne (Ne.symm n2)] at h5 h7
    exact ok.inj j j' d1 d2 u h1 h2 h3 h4 h5 h6 h7
/-- σ' is σ but at the slots l -/
def Upd (l : List Nat) (σ σ' : L2.St) : Prop := σ'.length = σ.length ∧ ∀ j, j ∉ l → σ'[j]? = σ[j]?
theorem Upd.refl {l : List Nat} {σ : L2.St} : Upd l σ σ := ⟨rfl, fun _ _ => rfl⟩
theorem Upd.trans {l l' : List Nat} {σ σ' σ2 : L2.St} (h : Upd l σ σ') (h' : Upd l' σ' σ2) : Upd (l ++ l') σ σ2 :=
  ⟨h'.1.trans h.1, fun j hj => by
    rw [List.mem_append, not_or] at hj
    exact (h'.2 j hj.2).trans (h.2 j hj.1)⟩
theorem Upd.set {i : Nat} {σ : L2.St} {v : Option V} : Upd [i] σ (σ.set i v) := ⟨List.length_set .., fun j hj => List.getElem?_set_ne (fun e => hj (by rw [e]; exact List.mem_cons_self))⟩
theorem wipe_get {σ : L2.St} {j : Nat} : ∀ vs : List Nat, (wipe σ vs)[j]? = if j ∈ vs then (if j < σ.length then some none else none) else σ[j]?
  | [] => by rw [if_neg (by simp)]; rfl
  | v :: vs => by
    unfold wipe
    by_cases e : v = j
    · subst e
      rw [if_pos List.mem_cons_self]
      by_cases z : v < σ.length
      · rw [List.getElem?_set_self (by rw [wipe_length]; exact z), if_pos z]
      · rw [List.getElem?_eq_none (by rw [List.length_set, wipe_length]; omega), if_neg z]
    · rw [List.getElem?_set_ne e, wipe_get vs]
      by_cases h : j ∈ vs
      · rw [if_pos h, if_pos (List.mem_cons_of_mem _ h)]
      · rw [if_neg h, if_neg (by
          intro z
          rcases List.mem_cons.mp z with z | z
          · exact e z.symm
          · exact h z)]
theorem wipe_upd {σ σ' : L2.St} {l vs : List Nat} (h : Upd l σ σ') (s : ∀ j ∈ l, j ∈ vs) : wipe σ' vs = wipe σ vs := by
  refine List.ext_getElem? fun j => ?_
  rw [wipe_get, wipe_get, h.1]
  by_cases z : j ∈ vs
  · rw [if_pos z, if_pos z]
  · rw [if_neg z, if_neg z]
    exact h.2 j fun y => z (s j y)
def rdG (B : Bs) (M : Nat → Bool) (t : Tg) : TG := fun v σ H Q => ∃ κ H0 av0 av ρ d ρ', EnvOk B M κ H0 av0 av σ H ρ ∧ Den B av H d v ∧ setT t d ρ = some ρ' ∧ ∀ σ', EnvOk B M κ H0 av0 av σ' H ρ' → Upd (tgSl t) σ σ' → Q σ' H
def rdGs (B : Bs) (M : Nat → Bool) (t : Tgs) : TGs := fun vs σ H Q => ∃ κ H0 av0 av ρ l ρ', EnvOk B M κ H0 av0 av σ H ρ ∧ Dens B av H l vs ∧ setTs t l ρ = some ρ' ∧ ∀ σ', EnvOk B M κ H0 av0 av σ' H ρ' → Upd (tgSls t) σ σ' → Q σ' H
def GJ (B : Bs) (M : Nat → Bool) (X : Cx) (e : Expr) (t : Tg) : Prop := PG X e (rdG B M t)
def GJs (B : Bs) (M : Nat → Bool) (X : Cx) (e : List Expr) (t : Tgs) : Prop := PGs X e (rdGs B M t)
theorem PG.imp {e : Expr} {t t' : TG} (h : PG X e t) (i : ∀ v σ H Q, t' v σ H Q → t v σ H Q) : PG X e t' := ⟨fun pins s σ H x v Q I r q => h.run pins s σ H x v Q I r (i _ _ _ _ q)⟩
theorem PGs.imp {e : List Expr} {t t' : TGs} (h : PGs X e t) (i : ∀ v σ H Q, t' v σ H Q → t v σ H Q) : PGs X e t' := ⟨fun pins s σ H x v Q I r q => h.run pins s σ H x v Q I r (i _ _ _ _ q)⟩
theorem PG.or {e : Expr} {t t' : TG} (h : PG X e t) (h' : PG X e t') : PG X e (fun v σ H Q => t v σ H Q ∨ t' v σ H Q) := ⟨fun pins s σ H x v Q I r q => q.elim (fun z => h.run pins s σ H x v Q I r z) fun z => h'.run pins s σ H x v Q I r z⟩
theorem g_nm (C : Cn L k B N sc fc hot X W) (i : Nat) {x : Str} {pos : Pos} (hi : N[i]? = some x := by rfl) (hx : sc.names.lookup x = some .local ∨ (sc.names.lookup x = some .cell ∧ x ∈ fc) := by first | exact Or.inl rfl | exact Or.inr ⟨rfl, by decide +kernel⟩) (hm : M i = false := by rfl) : GJ B M X (.Name x pos) (.nm i) :=
  PG.imp (pg_name (i := i) (by rw [C.hN]; exact C.nd) (by rw [C.hN]; exact hi) (by rw [C.hsc]; exact hx.imp id fun z => z.1) (by
    rcases hx with h | h
    · exact .inr (by rw [C.hsc]; exact h)
    · exact .inl (C.fnc x h.2))) fun v σ H Q q => by
    obtain ⟨κ, H0, av0, av, ρ, d, ρ', ok, hd, hs, q⟩ := q
    have hs' : some (ρ.set i (some d)) = some ρ' := hs
    cases hs'
    exact q _ (ok.set hm hd) Upd.set
theorem gs_nil : GJs B M X [] .nil := PGs.imp pgs_nil fun v σ H Q q => by
  obtain ⟨κ, H0, av0, av, ρ, l, ρ', ok, hd, hs, q⟩ := q
  cases l with
  | nil =>
    cases hs
    exact ⟨hd, q σ ok Upd.refl⟩
  | cons d ds => cases hs
theorem gs_cons {e : Expr} {es : List Expr} {t : Tg} {ts : Tgs} (h1 : GJ B M X e t) (h2 : GJs B M X es ts) (hs : (assignEach (e :: es) X.env).map (·.2) = assign e X.env :: (assignEach es X.env).map (·.2) := by rfl) : GJs B M X (e :: es) (.cons t ts) :=
  PGs.imp (pgs_cons h1 h2 hs) fun vs σ H Q q => by
    obtain ⟨κ, H0, av0, av, ρ, l, ρ', ok, hd, hs, q⟩ := q
    cases l with
    | nil => cases hs
    | cons d ds =>
      obtain ⟨v, r, rfl, d1, d2⟩ := hd
      have hs' : (setT t d ρ).bind (fun ρ1 => setTs ts ds ρ1) = some ρ' := hs
      cases e : setT t d ρ with
      | none => rw [e] at hs'; cases hs'
      | some ρ1 =>
        rw [e] at hs'
        exact ⟨v, r, rfl, κ, H0, av0, av, ρ, d, ρ1, ok, d1, e, fun σ' ok' u' => ⟨κ, H0, av0, av, ρ1, ds, ρ', ok', d2, hs', fun σ2 ok2 u2 => q σ2 ok2 (u'.trans u2)⟩⟩
def tgsLen : Tgs → Nat
  | .nil => 0
  | .cons _ ts => tgsLen ts + 1
theorem setTs_len : ∀ {ts : Tgs} {l : List D} {ρ ρ' : Env}, setTs ts l ρ = some ρ' → l.length = tgsLen ts
  | .nil, [], _, _, _ => rfl
  | .nil, _ :: _, _, _, h => by cases h
  | .cons _ _, [], _, _, h => by cases h
  | .cons t ts, d :: ds, ρ, ρ', h => by
    have h' : (setT t d ρ).bind (fun ρ1 => setTs ts ds ρ1) = some ρ' := h
    cases e : setT t d ρ with
    | none => rw [e] at h'; cases h'
    | some ρ1 =>
      rw [e] at h'
      rw [List.length_cons, setTs_len h']
      rfl
theorem g_tp (C : Cn L k B N sc fc none X W) {es : List Expr} {j : Nat} {pos : Pos} {ts : Tgs} (h : GJs B M X es ts) (hn : (assignEach es X.env).length = tgsLen ts := by rfl) (hst : (assignEach es X.env).findIdx? (·.1) = none := by rfl) : GJ B M X (.Tuple es j pos) (.tp ts) :=
  PG.imp (PG.or (pg_tup (C.calm rfl) h hn hst) (pg_lst (C.calm rfl) h hn hst)) fun v σ H Q q => by
    obtain ⟨κ, H0, av0, av, ρ, d, ρ', ok, hd, hs, q⟩ := q
    cases d <;> first | (cases hs; done) | skip
    · rename_i l
      have hs' : setTs ts l ρ = some ρ' := hs
      obtain ⟨a, vs, rfl, q1, r1⟩ := hd
      exact .inl ⟨a, vs, rfl, by rw [C.hK]; exact q1, by rw [r1.length, setTs_len hs'], κ, H0, av0, av, ρ, l, ρ', ok, r1, hs', q⟩
    · rename_i l
      have hs' : setTs ts l ρ = some ρ' := hs
      obtain ⟨a, vs, rfl, q1, r1⟩ := hd
      exact .inr ⟨a, vs, rfl, by rw [C.hK]; exact q1.seq, by rw [r1.length, setTs_len hs'], κ, H0, av0, av, ρ, l, ρ', ok, r1, hs', q⟩

/-! ### what is walked -/
/-- the iterator J gives the items l, as long as the values κ stand -/
def WalkD (B : Bs) (J : L2.It) (l : List D) (κ : List (D × V)) : Prop :=
  L2.Walk J l.length (fun H => ∃ av, ∀ p ∈ κ, Den B av H p.1 p.2) fun i H x H' => Same H H' ∧ ∀ av, (∀ p ∈ κ, Den B av H p.1 p.2) → ∃ d, l[i]? = some d ∧ Den B av H' d x
def rdI (L : Lw) (k : Nat) (B : Bs) (M : Nat → Bool) (W : WX) (it : Pv.It) : TI := fun σ H R => ∃ κ H0 av0 av ρ, EnvOk B M κ H0 av0 av σ H ρ ∧ match evIt (run L.T k) it ρ with
  | .ok l => ∀ J κ' H', Same H H' → (∀ p ∈ κ', Den B av H' p.1 p.2) → WalkD B J l κ' → R J H'
  | .exn x => ∀ cv dd H', Same H H' → ExD B av H' x cv dd → W cv dd σ H'
  | .bad => False
def IJ (L : Lw) (k : Nat) (B : Bs) (M : Nat → Bool) (X : Cx) (W : WX) (tg e : Expr) (it : Pv.It) : Prop := PI X tg e (rdI L k B M W it)
theorem PI.imp {tg e : Expr} {t t' : TI} (h : PI X tg e t) (i : ∀ σ H Q, t' σ H Q → t σ H Q) : PI X tg e t' := ⟨fun pins s σ H Q I q => h.run pins s σ H Q I (i _ _ _ q)⟩
theorem walk_l {a : Addr} {l : List D} : WalkD B (Itl B.K a) l [(.lst l, .ref a)] := by
  refine ⟨fun i H hi h => ?_, fun H h => ?_, fun i H x H' hi h y => ?_⟩
  · obtain ⟨av, h⟩ := h
    obtain ⟨a', vs, e, q, r⟩ := h _ (List.mem_singleton.mpr rfl)
    cases e
    have hv : i < vs.length := by rw [r.length]; exact hi
    exact ⟨vs, vs[i], q.seq, List.getElem?_eq_getElem hv⟩
  · obtain ⟨av, h⟩ := h
    obtain ⟨a', vs, e, q, r⟩ := h _ (List.mem_singleton.mpr rfl)
    cases e
    exact ⟨vs, q.seq, by rw [r.length]; exact Nat.le_refl _⟩
  · obtain ⟨rfl, y⟩ := y
    refine ⟨Same.refl _, fun av h => ?_⟩
    obtain ⟨a', vs, e, q, r⟩ := h _ (List.mem_singleton.mpr rfl)
    cases e
    obtain ⟨d, e1, e2⟩ := r.at (y vs q.seq)
    exact ⟨d, e1, e2⟩
theorem walk_t {a : Addr} {l : List D} : WalkD B (Itt B.K a) l [(.tup l, .ref a)] := by
  refine ⟨fun i H hi h => ?_, fun H h => ?_, fun i H x H' hi h y => ?_⟩
  · obtain ⟨av, h⟩ := h
    obtain ⟨a', vs, e, q, r⟩ := h _ (List.mem_singleton.mpr rfl)
    cases e
    have hv : i < vs.length := by rw [r.length]; exact hi
    exact ⟨vs, vs[i], q, List.getElem?_eq_getElem hv⟩
  · obtain ⟨av, h⟩ := h
    obtain ⟨a', vs, e, q, r⟩ := h _ (List.mem_singleton.mpr rfl)
    cases e
    exact ⟨vs, q, by rw [r.length]; exact Nat.le_refl _⟩
  · obtain ⟨rfl, y⟩ := y
    refine ⟨Same.refl _, fun av h => ?_⟩
    obtain ⟨a', vs, e, q, r⟩ := h _ (List.mem_singleton.mpr rfl)
    cases e
    obtain ⟨d, e1, e2⟩ := r.at (y vs q)
    exact ⟨d, e1, e2⟩
theorem walk_s {z : Str} : WalkD B (Its z) (charsD z) [] := by
  have hl : (charsD z).length = z.cps.size := by unfold charsD; rw [List.length_map, Array.length_toList]
  refine ⟨fun i H hi h => ?_, fun H h => ?_, fun i H x H' hi h y => ?_⟩
  · show i < z.cps.size
    omega
  · show z.cps.size ≤ _
    omega
  · obtain ⟨rfl, c, y1, rfl⟩ := y
    refine ⟨Same.refl _, fun av h => ⟨.str ⟨#[c]⟩, ?_, rfl⟩⟩
    unfold charsD
    rw [List.getElem?_map, Array.getElem?_toList, y1]
    rfl
theorem PI.or {tg e : Expr} {t t' : TI} (h : PI X tg e t) (h' : PI X tg e t') : PI X tg e (fun σ H Q => t σ H Q ∨ t' σ H Q) := ⟨fun pins s σ H Q I q => q.elim (fun z => h.run pins s σ H Q I z) fun z => h'.run pins s σ H Q I z⟩
/-- a list, a tuple, a text -/
theorem i_seq (C : Cn L k B N sc fc hot X W) {tg e : Expr} {ê : E} (h : EJ L k B M X W .v e ê) : IJ L k B M X W tg e (.seq ê) := by
  refine ⟨fun pins s σ H Rk I q => ?_⟩
  obtain ⟨κ, H0, av0, av, ρ, ok, q⟩ := q
  have q' : match (ev (run L.T k) ê ρ).bind (fun x => match x with
      | .lst l => R.ok l
      | .tup l => .ok l
      | .str s => .ok (charsD s)
      | _ => .bad) with
    | .ok l => ∀ J κ' H', Same H H' → (∀ p ∈ κ', Den B av H' p.1 p.2) → WalkD B J l κ' → Rk J H'
    | .exn x => ∀ cv dd H', Same H H' → ExD B av H' x cv dd → W cv dd σ H'
    | .bad => False := q
  cases e1 : ev (run L.T k) ê ρ with
  | bad => rw [e1] at q'; exact q'.elim
  | exn x =>
    rw [e1] at q'
    have hp := (pi_list (tg := tg) h).run pins s σ H Rk I ⟨κ, H0, av0, av, ρ, ok, by
      rw [e1]
      exact fun cv dd H' s p => q' cv dd H' s p⟩
    exact hp
  | ok x =>
    rw [e1] at q'
    cases x <;> first | exact q'.elim | skip
    · rename_i z
      exact (pi_str (tg := tg) h).run pins s σ H Rk I ⟨κ, H0, av0, av, ρ, ok, by
        rw [e1]
        intro v H' s p
        have p' : v = .str z := p
        subst p'
        exact ⟨z, rfl, q' _ [] H' s (fun _ h => by cases h) walk_s⟩⟩
    · rename_i l
      exact (pi_tup (tg := tg) h).run pins s σ H Rk I ⟨κ, H0, av0, av, ρ, ok, by
        rw [e1]
        intro v H' s p
        have p' : Den B av H' (.tup l) v := p
        obtain ⟨a, vs, rfl, r1, r2⟩ := id p'
        refine ⟨a, rfl, ⟨vs, by rw [C.hK]; exact r1⟩, ?_⟩
        rw [C.hK]
        exact q' _ [(.tup l, .ref a)] H' s (fun y hy => by rw [List.mem_singleton.mp hy]; exact p') walk_t⟩
    · rename_i l
      exact (pi_list (tg := tg) h).run pins s σ H Rk I ⟨κ, H0, av0, av, ρ, ok, by
        rw [e1]
        intro v H' s p
        have p' : Den B av H' (.lst l) v := p
        obtain ⟨a, vs, rfl, r1, r2⟩ := id p'
        refine ⟨a, rfl, ⟨vs, by rw [C.hK]; exact r1.seq⟩, ?_⟩
        rw [C.hK]
        exact q' _ [(.lst l, .ref a)] H' s (fun y hy => by rw [List.mem_singleton.mp hy]; exact p') walk_l⟩
theorem walk_r {lo hi : Int} : WalkD B (Itr lo (hi - lo).toNat) (rngD lo hi) [] := by
  have hl : (rngD lo hi).length = (hi - lo).toNat := by unfold rngD; rw [List.length_map, List.length_range]
  refine ⟨fun i H hi h => ?_, fun H h => ?_, fun i H x H' hi h y => ?_⟩
  · show i < _
    omega
  · show _ ≤ (rngD lo _).length
    omega
  · obtain ⟨rfl, rfl⟩ := y
    refine ⟨Same.refl _, fun av h => ⟨.int (lo + i), ?_, rfl⟩⟩
    unfold rngD
    rw [List.getElem?_map, List.getElem?_range (by omega)]
    rfl
theorem rngOk_ok {i j : Int} (h : rngOk i j = true) : -(2 ^ 62) ≤ i ∧ i < 2 ^ 62 ∧ -(2 ^ 62) ≤ j ∧ j < 2 ^ 62 := by
  unfold rngOk at h
  simp only [Bool.and_eq_true, decide_eq_true_eq] at h
  exact ⟨h.1.1.1, h.1.1.2, h.1.2, h.2⟩
def rng2 (x y : D) : R (List D) := match x, y with
  | .int i, .int j => if rngOk i j then .ok (rngD i j) else .bad
  | _, _ => .bad
theorem rng2_ok {x y : D} {l : List D} (h : rng2 x y = .ok l) : ∃ i j, x = .int i ∧ y = .int j ∧ rngOk i j = true ∧ rngD i j = l := by
  unfold rng2 at h
  split at h
  · obtain ⟨h1, h2⟩ := if_ok h
    exact ⟨_, _, rfl, rfl, h1, h2⟩
  · cases h
theorem nox_rng2 (x y : D) : NoX (rng2 x y) := by
  unfold rng2
  split <;> first | exact .ite .ok .bad | exact .bad
/-- range(n) -/
theorem i_rng1 (C : Cn L k B N sc fc hot X W) {tg a : Expr} {â : E} {p pos : Pos} (h : EJ L k B M X W .b a â) (hg : sc.names.lookup ("range" : Str) = some .globalImplicit := by rfl) (hn : L.nms "range" = some .free := by rfl)
    (hs : starEach [a] X.env = [(false, eval a X.env)] := by rfl) : IJ L k B M X W tg (.Call (.Name "range" p) [a] [] pos) (.rng (.c (.int 0)) â) :=
  PI.imp (pi_range1 (C.gl hg) (C.nm _ _ hn) (a_cons h a_nil (by decide) (by rw [hs]; rfl)) hs) fun σ H Rk q => by
    obtain ⟨κ, H0, av0, av, ρ, ok, q⟩ := q
    have e : evIt (run L.T k) (.rng (.c (.int 0)) â) ρ = (evs (run L.T k) (.cons â .nil) ρ).bind fun l => (match l with | [y] => rng2 (.int 0) y | _ => R.bad) := by
      rw [evIt, evs, evs, ev]
      cases ev (run L.T k) â ρ <;> rfl
    rw [e] at q
    cases e1 : evs (run L.T k) (.cons â .nil) ρ with
    | bad => rw [e1] at q; exact q.elim
    | exn x => rw [e1] at q; exact ⟨κ, H0, av0, av, ρ, ok, by rw [e1]; exact q⟩
    | ok l =>
      rw [e1] at q
      refine ⟨κ, H0, av0, av, ρ, ok, ?_⟩
      rw [e1]
      intro vs H' s p
      match l, p, q with
      | [], p, q => exact q.elim
      | _ :: _ :: _, p, q => exact q.elim
      | [y], p, q =>
        obtain ⟨v, rfl, d1⟩ := DensB.one p
        cases e2 : rng2 (.int 0) y with
        | bad => simp only [R.bind_ok, e2] at q
        | exn x => exact absurd e2 (nox_rng2 _ _ x)
        | ok l =>
          simp only [R.bind_ok, e2] at q
          obtain ⟨i, j, e3, rfl, r1, rfl⟩ := rng2_ok e2
          cases e3
          have d1' : v = .int j := d1
          subst d1'
          obtain ⟨b1, b2, b3, b4⟩ := rngOk_ok r1
          refine ⟨j, rfl, b3, b4, ?_⟩
          have w := walk_r (B := B) (lo := 0) (hi := j)
          rw [Int.sub_zero] at w
          exact q _ [] H' s (fun _ h => by cases h) w
/-- range(a, b) -/
theorem i_rng2 (C : Cn L k B N sc fc hot X W) {tg a b : Expr} {â b' : E} {p pos : Pos} (ha : EJ L k B M X W .b a â) (hb : EJ L k B M X W .b b b') (hg : sc.names.lookup ("range" : Str) = some .globalImplicit := by rfl) (hn : L.nms "range" = some .free := by rfl)
    (hs : starEach [a, b] X.env = [(false, eval a X.env), (false, eval b X.env)] := by rfl) (hs2 : starEach [b] X.env = [(false, eval b X.env)] := by rfl) : IJ L k B M X W tg (.Call (.Name "range" p) [a, b] [] pos) (.rng â b') :=
  PI.imp (pi_range2 (C.gl hg) (C.nm _ _ hn) (a_cons ha (a_cons hb a_nil (by decide) (by rw [hs2]; rfl)) (by decide) (by rw [hs, hs2])) hs hs2) fun σ H Rk q => by
    obtain ⟨κ, H0, av0, av, ρ, ok, q⟩ := q
    have e : evIt (run L.T k) (.rng â b') ρ = (evs (run L.T k) (.cons â (.cons b' .nil)) ρ).bind fun l => (match l with | [x, y] => rng2 x y | _ => R.bad) := by
      rw [evIt, evs, evs, evs]
      cases ev (run L.T k) â ρ with
      | ok x => cases ev (run L.T k) b' ρ <;> rfl
      | exn x => rfl
      | bad => rfl
    rw [e] at q
    cases e1 : evs (run L.T k) (.cons â (.cons b' .nil)) ρ with
    | bad => rw [e1] at q; exact q.elim
    | exn x => rw [e1] at q; exact ⟨κ, H0, av0, av, ρ, ok, by rw [e1]; exact q⟩
    | ok l =>
      rw [e1] at q
      refine ⟨κ, H0, av0, av, ρ, ok, ?_⟩
      rw [e1]
      intro vs H' s p
      match l, p, q with
      | [], p, q => exact q.elim
      | [_], p, q => exact q.elim
      | _ :: _ :: _ :: _, p, q => exact q.elim
      | [x, y], p, q =>
        obtain ⟨v, w, rfl, d1, d2⟩ := DensB.two p
        cases e2 : rng2 x y with
        | bad => simp only [R.bind_ok, e2] at q
        | exn x => exact absurd e2 (nox_rng2 _ _ x)
        | ok l =>
          simp only [R.bind_ok, e2] at q
          obtain ⟨i, j, rfl, rfl, r1, rfl⟩ := rng2_ok e2
          have d1' : v = .int i := d1
          have d2' : w = .int j := d2
          subst d1' d2'
          exact ⟨i, j, rfl, rngOk_ok r1, q _ [] H' s (fun _ h => by cases h) walk_r⟩
end
end Pv
set_option Elab.async false
set_option linter.all false
set_option maxRecDepth 100000
set_option maxHeartbeats 2000000
/-! Pv11: comprehensions. -/
namespace Pv
open PySem PySem.Spec PyProof.Rows L2

section
variable {L : Lw} {k : Nat} {B : Bs} {N : List Str} {sc : Scope} {fc : List Str} {hot : Option Nat} {X : Cx} {W : WX} {M : Nat → Bool} {m : Md}

/-- the wish of a block: nothing is raised -/
abbrev W0 : WX := fun _ _ _ _ => False
theorem Cn.blk (C : Cn L k B N sc fc none X W) (s : Shared) (H : Hp) (c : Addr) (cl : List (Str × Addr)) (fp : List Addr) (scope : Scope) : Cn L k B N (relS scope sc) (cellsOf scope) none (X.blk s H scope (compEnvC scope cl c X.env) fp) W0 where
  hK := C.hK
  hN := C.hN
  nd := C.nd
  hsc := by rw [← C.hsc]; rfl
  calm := C.calm
  un := C.un
  tk := takes0
  po := PassesOwn.never
  fnc := fun x hx => by
    show (scope.names.lookup x == some .cell) = true
    obtain ⟨p, h1, rfl⟩ := List.mem_map.mp hx
    exact (List.mem_filter.mp h1).2
  nm := C.nm
  fl := C.fl
  room := C.room
  fn := C.fn
  xb := C.xb
  xg := C.xg
  xo := C.xo
  xi := C.xi
  xm := C.xm
  xn := C.xn
  xc := C.xc
  hxs := C.hxs
  hxo := fun z h => by
    have q := C.hxs
    rw [h] at q
    cases q

theorem EnvOk.keep {κ κ' : List (D × V)} {H0 H : Hp} {av0 av : Addr → Prop} {σ : L2.St} {ρ : Env} (ok : EnvOk B M κ H0 av0 av σ H ρ) (h : ∀ p ∈ κ', Den B av H p.1 p.2) : EnvOk B M (κ' ++ κ) H0 av0 av σ H ρ :=
  { ok with kp := fun p hp => (List.mem_append.mp hp).elim (h p) (ok.kp p) }
theorem EnvOk.less {κ κ' : List (D × V)} {H0 H : Hp} {av0 av : Addr → Prop} {σ : L2.St} {ρ : Env} (ok : EnvOk B M (κ' ++ κ) H0 av0 av σ H ρ) : EnvOk B M κ H0 av0 av σ H ρ :=
  { ok with kp := fun p hp => ok.kp p (List.mem_append_right _ hp) }
theorem wipeE_get {ρ : Env} {j : Nat} {d : D} : ∀ {vs : List Nat}, (wipeE ρ vs)[j]? = some (some d) → ρ[j]? = some (some d) ∧ j ∉ vs
  | [], h => ⟨h, by simp⟩
  | v :: vs, h => by
    have h' : ((wipeE ρ vs).set v none)[j]? = some (some d) := h
    by_cases e : v = j
    · subst e
      by_cases z : v < (wipeE ρ vs).length
      · rw [List.getElem?_set_self z] at h'
        cases h'
      · rw [List.getElem?_eq_none (by rw [List.length_set]; omega)] at h'
        cases h'
    · rw [List.getElem?_set_ne e] at h'
      obtain ⟨h1, h2⟩ := wipeE_get h'
      refine ⟨h1, fun z => ?_⟩
      rcases List.mem_cons.mp z with z | z
      · exact e z.symm
      · exact h2 z
theorem wipeE_length (ρ : Env) : ∀ vs : List Nat, (wipeE ρ vs).length = ρ.length
  | [] => rfl
  | v :: vs => by
    show ((wipeE ρ vs).set v none).length = _
    rw [List.length_set, wipeE_length ρ vs]
theorem wipe_keep {σ : L2.St} {j : Nat} {vs : List Nat} (h : j ∉ vs) : (wipe σ vs)[j]? = σ[j]? := by rw [wipe_get, if_neg h]
theorem wipe_wipe {σ : L2.St} {vs : List Nat} : wipe (wipe σ vs) vs = wipe σ vs := by
  refine List.ext_getElem? fun j => ?_
  rw [wipe_get, wipe_get]
  by_cases z : j ∈ vs
  · rw [if_pos z, if_pos z, wipe_length]
  · rw [if_neg z, if_neg z]
theorem EnvOk.wipe {κ : List (D × V)} {H0 H : Hp} {av0 av : Addr → Prop} {σ : L2.St} {ρ : Env} (ok : EnvOk B M κ H0 av0 av σ H ρ) (vs : List Nat) : EnvOk B M κ H0 av0 av (wipe σ vs) H (wipeE ρ vs) where
  len := by rw [wipe_length, wipeE_length]; exact ok.len
  same := ok.same
  sub := ok.sub
  trk0 := ok.trk0
  trk := ok.trk
  val := fun i d h1 h2 => by
    obtain ⟨g1, g2⟩ := wipeE_get h1
    obtain ⟨v, e1, e2⟩ := ok.val i d g1 h2
    exact ⟨v, by rw [wipe_keep g2]; exact e1, e2⟩
  own := fun i d h1 h2 => by
    obtain ⟨g1, g2⟩ := wipeE_get h1
    obtain ⟨v, e1, e2⟩ := ok.own i d g1 h2
    exact ⟨v, by rw [wipe_keep g2]; exact e1, e2⟩
  inj := fun i j d d' v h1 h2 h3 h4 h5 h6 h7 => by
    obtain ⟨g1, g2⟩ := wipeE_get h4
    obtain ⟨g3, g4⟩ := wipeE_get h5
    rw [wipe_keep g2] at h6
    rw [wipe_keep g4] at h7
    exact ok.inj i j d d' v h1 h2 h3 g1 g3 h6 h7
  kp := ok.kp
/-- no own slot holds the address a -/
def NotAt (M : Nat → Bool) (σ : L2.St) (ρ : Env) (a : Addr) : Prop := ∀ i d, M i = true → ρ[i]? = some (some d) → σ[i]? ≠ some (some (.ref a))
theorem EnvOk.notAt {κ : List (D × V)} {H0 H : Hp} {av0 av : Addr → Prop} {σ : L2.St} {ρ : Env} (ok : EnvOk B M κ H0 av0 av σ H ρ) {a : Addr} (n : H a = none) : NotAt M σ ρ a := fun i d h1 h2 h3 => by
  obtain ⟨v, e1, e2⟩ := ok.own i d h2 h1
  rw [h3] at e1
  cases e1
  obtain ⟨b, o, e, _, _, e3, _⟩ := e2.at
  cases e
  rw [n] at e3
  cases e3
/-- a new object is laid that nobody may reach -/
theorem EnvOk.lay {κ : List (D × V)} {H0 H : Hp} {av0 av : Addr → Prop} {σ : L2.St} {ρ : Env} (ok : EnvOk B M κ H0 av0 av σ H ρ) {a : Addr} {o : HO} (n : H a = none) : EnvOk B M κ H0 av0 (fun b => av b ∨ b = a) σ (L2.upd H a o) ρ := by
  have s : Same H (L2.upd H a o) := Same.upd n
  have ha : ∀ b, (av b ∨ b = a) → H b ≠ none → av b := fun b h q => h.elim id fun e => absurd (e ▸ n) q
  refine ⟨ok.len, ok.same.trans s, fun b h => .inl (ok.sub b h), ok.trk0, fun b h => ?_, fun i d h1 h2 => ?_, fun i d h1 h2 => ?_, ok.inj, fun p hp => Den.mono s ha _ _ (ok.kp p hp)⟩
  · rcases h with h | h
    · cases q : H b with
      | none => exact absurd q (ok.trk b h)
      | some u => rw [s b u q]; simp
    · rw [h, upd_same]
      simp
  · obtain ⟨v, e1, e2⟩ := ok.val i d h1 h2
    exact ⟨v, e1, e2.mono s ha⟩
  · obtain ⟨v, e1, e2⟩ := ok.own i d h1 h2
    exact ⟨v, e1, e2.mono s ha fun b h => .inl h⟩
theorem EnvOk.change {κ : List (D × V)} {H0 H : Hp} {av0 av : Addr → Prop} {σ : L2.St} {ρ : Env} (ok : EnvOk B M κ H0 av0 av σ H ρ) {a : Addr} {o o' : HO} (ha : av a) (n0 : H0 a = none) (e : H a = some o) (mu : MutO o) (na : NotAt M σ ρ a) : EnvOk B M κ H0 av0 av σ (L2.upd H a o') ρ := by
  refine ⟨ok.len, fun b u q => ?_, ok.sub, ok.trk0, fun b h => ?_, fun i d h1 h2 => ?_, fun i d h1 h2 => ?_, ok.inj, fun p hp => Den.upd ha e mu _ _ (ok.kp p hp)⟩
  · rw [upd_ne (ne_of_none q n0)]
    exact ok.same b u q
  · by_cases z : b = a
    · rw [z, upd_same]
      simp
    · rw [upd_ne z]
      exact ok.trk b h
  · obtain ⟨v, e1, e2⟩ := ok.val i d h1 h2
    exact ⟨v, e1, e2.upd ha e mu⟩
  · obtain ⟨v, e1, e2⟩ := ok.own i d h1 h2
    exact ⟨v, e1, e2.upd ha e mu fun z => na i d h2 h1 (by rw [e1, z])⟩

/-- the tests of a clause -/
def rdTs (L : Lw) (k : Nat) (B : Bs) (M : Nat → Bool) (W : WX) (cs : Es) : TT := fun σ H Q => ∃ κ H0 av0 av ρ, EnvOk B M κ H0 av0 av σ H ρ ∧ Pst B W av σ H (fun (t b : Bool) _ => t = b) Q (evAll (run L.T k) cs ρ)
def QJ (L : Lw) (k : Nat) (B : Bs) (M : Nat → Bool) (X : Cx) (W : WX) (ifs : List Expr) (cs : Es) : Prop := PTs X ifs (rdTs L k B M W cs)
theorem q_nil : QJ L k B M X W [] .nil := ⟨fun pins s σ H Q I q => by
  obtain ⟨κ, H0, av0, av, ρ, ok, q⟩ := q
  exact pts_nil.run pins s σ H Q I (q true H (Same.refl H) rfl)⟩
theorem q_one {c : Expr} {ĉ : E} (h : TJ L k B M X W c ĉ) : QJ L k B M X W [c] (.cons ĉ .nil) := ⟨fun pins s σ H Q I q => by
  refine (pts_one h).run pins s σ H Q I ?_
  obtain ⟨κ, H0, av0, av, ρ, ok, q⟩ := q
  refine ⟨κ, H0, av0, av, ρ, ok, ?_⟩
  have e : evAll (run L.T k) (.cons ĉ .nil) ρ = (ev (run L.T k) ĉ ρ).bind tBool := by
    rw [evAll]
    cases ev (run L.T k) ĉ ρ with
    | ok x =>
      show (tBool x).bind _ = tBool x
      cases tBool x with
      | ok t => cases t <;> rfl
      | exn x => rfl
      | bad => rfl
    | exn x => rfl
    | bad => rfl
  rw [← e]
  exact q⟩

theorem lcGo_split {f : D → R (Option D)} : ∀ {l : List D} {r : List D}, lcGo f l = .ok r → ∀ {i : Nat} {d : D}, l[i]? = some d → ∃ o, f d = .ok o := fun {l r} h {i d} e => by
  induction l generalizing r i with
  | nil => simp at e
  | cons x l ih =>
    have h' : (f x).nox.bind (fun o => (lcGo f l).bind fun r => .ok (match o with | some x => x :: r | none => r)) = .ok r := h
    obtain ⟨o, h1, h2⟩ := R.bind_eq h'
    obtain ⟨r', h3, h4⟩ := R.bind_eq h2
    cases i with
    | zero =>
      simp at e
      subst e
      cases q : f x with
      | ok a => exact ⟨a, rfl⟩
      | exn z => rw [q] at h1; cases h1
      | bad => rw [q] at h1; cases h1
    | succ i => exact ih h3 (by simpa using e)
/-- what the first i items give -/
def lcPre (f : D → R (Option D)) (l : List D) : List D := l.filterMap fun d => match f d with | .ok o => o | _ => none
theorem lcGo_pre {f : D → R (Option D)} : ∀ {l : List D} {r : List D}, lcGo f l = .ok r → r = lcPre f l
  | [], r, h => by cases h; rfl
  | x :: l, r, h => by
    have h' : (f x).nox.bind (fun o => (lcGo f l).bind fun r => .ok (match o with | some x => x :: r | none => r)) = .ok r := h
    obtain ⟨o, h1, h2⟩ := R.bind_eq h'
    obtain ⟨r', h3, h4⟩ := R.bind_eq h2
    have ih := lcGo_pre h3
    cases q : f x with
    | exn z => rw [q] at h1; cases h1
    | bad => rw [q] at h1; cases h1
    | ok a =>
      rw [q] at h1
      cases h1
      injection h4 with h4
      rw [← h4, ih]
      unfold lcPre
      rw [List.filterMap_cons, q]
      cases o <;> rfl
theorem lcGo_nox {f : D → R (Option D)} {x : Exc} : ∀ {l : List D}, lcGo f l ≠ .exn x
  | [], h => by cases h
  | d :: l, h => by
    have h' : (f d).nox.bind (fun o => (lcGo f l).bind fun r => .ok (match o with | some x => x :: r | none => r)) = .exn x := h
    cases q : f d with
    | exn z => rw [q] at h'; cases h'
    | bad => rw [q] at h'; cases h'
    | ok a =>
      rw [q] at h'
      have h2 : (lcGo f l).bind (fun r => R.ok (match a with | some x => x :: r | none => r)) = .exn x := h'
      cases q2 : lcGo f l with
      | exn z => exact lcGo_nox q2
      | bad => rw [q2] at h2; cases h2
      | ok r => rw [q2] at h2; cases h2
theorem lcPre_take {f : D → R (Option D)} {l : List D} {i : Nat} {d : D} {o : Option D} (e : l[i]? = some d) (h : f d = .ok o) : lcPre f (l.take (i + 1)) = lcPre f (l.take i) ++ o.toList := by
  unfold lcPre
  rw [List.take_succ, List.filterMap_append, e]
  simp only [Option.toList_some, List.filterMap_cons, h, List.filterMap_nil]
  cases o <;> rfl
theorem lcPre_len {f : D → R (Option D)} {l : List D} : (lcPre f l).length ≤ l.length := by
  unfold lcPre
  exact List.length_filterMap_le _ _

theorem lc_imp {own : List (Str × Nat)} {t : Tg} {it : Pv.It} {cs : Es} {ê : E} (hsl : ∀ j ∈ tgSl t, j ∈ own.map (·.2)) {σ : L2.St} {H : Hp} {Q : VK} (q : rd L k B M W .f (.lc ê t it cs (own.map (·.2))) σ H Q) :
    tLc (rdI L k B M W it) (rdG B M t) (rdTs L k B M W0 cs) (rd L k B M W0 .v ê) (own.map (·.2)) σ H Q := by
  obtain ⟨κ, H0, av0, av, ρ, ok, q⟩ := q
  have q' : Pst B W av σ H (Md.f.P B av H) Q ((evIt (run L.T k) it ρ).bind fun l =>
      (lcGo (fun d => lcOne (setT t d (wipeE ρ (own.map (·.2)))) (fun ρ1 => evAll (run L.T k) cs ρ1) (fun ρ1 => ev (run L.T k) ê ρ1)) l).bind fun r => if lenOk (l.length + 1) then (R.ok (D.lst r)) else R.bad) := q
  refine ⟨κ, H0, av0, av, ρ, ok, ?_⟩
  cases e1 : evIt (run L.T k) it ρ with
  | bad => rw [e1] at q'; exact q'.elim
  | exn x => rw [e1] at q'; exact q'
  | ok l =>
    rw [e1] at q'
    intro J κ' H1 s1 k1 w aD hD
    generalize hf : (fun d => lcOne (setT t d (wipeE ρ (own.map (·.2)))) (fun ρ1 => evAll (run L.T k) cs ρ1) (fun ρ1 => ev (run L.T k) ê ρ1)) = f at q'
    have q2 : Pst B W av σ H (Md.f.P B av H) Q ((lcGo f l).bind fun r => if lenOk (l.length + 1) then (R.ok (D.lst r)) else R.bad) := q'
    cases e2 : lcGo f l with
    | bad => rw [e2] at q2; exact q2.elim
    | exn x => exact absurd e2 lcGo_nox
    | ok r =>
      rw [e2] at q2
      cases e3 : lenOk (l.length + 1) with
      | false => simp only [R.bind_ok, e3] at q2; exact q2.elim
      | true =>
        simp only [R.bind_ok, e3, if_true] at q2
        have hz := lenOk_le e3
        have hr := lcGo_pre e2
        have n0 : H0 aD = none := (ok.mono s1).same.free hD
        have nH : H aD = none := s1.free hD
        have ok1 := (((ok.mono s1).keep k1).lay (o := .lst []) hD)
        refine lc_it w (fun i H2 => EnvOk B M (κ' ++ κ) H0 av0 (fun b => av b ∨ b = aD) σ H2 ρ ∧ NotAt M σ ρ aD ∧ Same H1 H2 ∧ ∃ acc, H2 aD = some (.lst acc) ∧ Dens B (fun b => av b ∨ b = aD) H2 (lcPre f (l.take i)) acc) ?_ ?_ ?_ ?_
        · exact ⟨ok1, (ok.mono s1).notAt hD, Same.upd hD, [], upd_same, rfl⟩
        · rintro i H2 hi ⟨ok2, _⟩
          exact ⟨_, fun p hp => ok2.kp p (List.mem_append_left _ hp)⟩
        · rintro i x H2 H3 hi ⟨ok2, na, s2, acc, hacc, hden⟩ ⟨s3, hy⟩
          obtain ⟨d, e4, dx⟩ := hy _ fun p hp => ok2.kp p (List.mem_append_left _ hp)
          obtain ⟨o, e5⟩ := lcGo_split e2 e4
          have e6 := e5
          rw [← hf] at e6
          have e7 : lcOne (setT t d (wipeE ρ (own.map (·.2)))) (fun ρ1 => evAll (run L.T k) cs ρ1) (fun ρ1 => ev (run L.T k) ê ρ1) = .ok o := e6
          cases e8 : setT t d (wipeE ρ (own.map (·.2))) with
          | none => rw [e8] at e7; cases e7
          | some ρ1 =>
            rw [e8] at e7
            obtain ⟨tb, e9, e10⟩ := R.bind_eq (show (evAll (run L.T k) cs ρ1).bind _ = _ from e7)
            refine ⟨κ' ++ κ, H0, av0, _, _, d, ρ1, (ok2.mono s3).wipe _, dx, e8, fun σ' ok3 u => ⟨(wipe_upd u hsl).trans wipe_wipe, κ' ++ κ, H0, av0, _, ρ1, ok3, ?_⟩⟩
            rw [e9]
            intro b H4 s4 eb
            subst eb
            have accH : ∀ {H5 : Hp}, Same H2 H5 → H5 aD = some (.lst acc) := fun s => s _ _ hacc
            have hlen : acc.length < sizeLine := by
              rw [hden.length]
              have := lcPre_len (f := f) (l := l.take i)
              rw [List.length_take] at this
              omega
            cases tb with
            | false =>
              rw [if_neg Bool.false_ne_true] at e10 ⊢
              injection e10 with e10
              subst e10
              have s5 := s3.trans s4
              refine ⟨ok2.mono s5, na, s2.trans s5, acc, accH s5, ?_⟩
              rw [lcPre_take e4 e5]
              simpa using hden.same s5
            | true =>
              rw [if_pos rfl] at e10 ⊢
              obtain ⟨y, e11, e12⟩ := R.bind_eq e10
              injection e12 with e12
              subst e12
              refine ⟨κ' ++ κ, H0, av0, _, ρ1, ok3.mono s4, ?_⟩
              rw [show ev (run L.T k) ê ρ1 = .ok y from e11]
              intro v H5 s5 dv
              have s6 := (s3.trans s4).trans s5
              refine ⟨acc, accH s6, hlen, (ok2.mono s6).change (o := .lst acc) (.inr rfl) n0 (accH s6) trivial na, na, fun b u z => ?_, _, upd_same, ?_⟩
              · rw [upd_ne (ne_of_none z hD)]
                exact s6 _ _ (s2 _ _ z)
              · rw [lcPre_take e4 e5]
                exact Dens.upd (.inr rfl) (accH s6) (o := .lst acc) trivial _ _ ((hden.same s6).append ⟨v, [], rfl, dv, rfl⟩)
        · rintro H2 ⟨ok2, na, s2, acc, hacc, hden⟩
          rw [List.take_length, ← hr] at hden
          have f : DenF B av H H2 (.lst r) (.ref aD) := ⟨aD, acc, rfl, nH, hacc, hden⟩
          exact q2 _ H2 (s1.trans s2) ⟨f.den ok.trk, fun _ => f⟩
theorem e_lc (C : Cn L k B N sc fc none X W) (own : List (Str × Nat)) {elt tg iter : Expr} {ifs : List Expr} {scope : Scope} {pos : Pos} {t : Tg} {it : Pv.It} {cs : Es} {ê : E} (hi : IJ L k B M X W tg iter it)
    (hg : ∀ {X' : Cx}, Cn L k B N (relS scope sc) (cellsOf scope) none X' W0 → GJ B M X' tg t) (ht : ∀ {X' : Cx}, Cn L k B N (relS scope sc) (cellsOf scope) none X' W0 → QJ L k B M X' W0 ifs cs)
    (he : ∀ {X' : Cx}, Cn L k B N (relS scope sc) (cellsOf scope) none X' W0 → EJ L k B M X' W0 .v elt ê) (hb : blkC N sc scope own = true := by decide +kernel) (hsl : ∀ j ∈ tgSl t, j ∈ own.map (·.2) := by decide +kernel)
    (hs : ∀ x, foldedSetIterable iter X.env x = pure x := by intro _; rfl) : EJ L k B M X W m (.ListComp elt [⟨tg, iter, ifs, 0⟩] scope pos) (.lc ê t it cs (own.map (·.2))) := by
  have hpe := pe_lc (elt := elt) (own := own) (pos := pos) (C.calm rfl) (by rw [C.hN]; exact C.nd) hi (by rw [C.hN, C.hsc]; exact blkOk_by hb)
    (fun s H c cl fp => hg (C.blk s H c cl fp scope)) (fun s H c cl fp => ht (C.blk s H c cl fp scope)) (fun s H c cl fp => he (C.blk s H c cl fp scope)) hs
  exact EJ.v (PE.imp hpe fun σ H Q q => lc_imp hsl q)
end
end Pv
set_option Elab.async false
set_option linter.all false
set_option maxRecDepth 100000
set_option maxHeartbeats 2000000
/-! Pv12: statements. -/
namespace Pv
open PySem PySem.Spec PyProof.Rows L2

def mks (l : List Nat) : Nat → Bool := fun i => l.contains i
theorem mks_true {l : List Nat} {i : Nat} : mks l i = true ↔ i ∈ l := by unfold mks; simp
theorem mks_false {l : List Nat} {i : Nat} : mks l i = false ↔ i ∉ l := by
  rw [← mks_true]
  cases mks l i <;> simp
structure JS where
  b : List Nat := []
  c : List Nat := []
  x : List Nat := []
  fr : Bool := false

section
variable {L : Lw} {k : Nat} {B : Bs} {N : List Str} {sc : Scope} {fc : List Str} {hot : Option Nat} {X : Cx} {W : WX} {M M1 M2 M' : List Nat} {m : Md} {J : JS}
variable {κ κ' : List (D × V)} {H0 H H' H1 : Hp} {av0 av : Addr → Prop} {σ : L2.St} {ρ : Env} {D' : Ends}

theorem DenR.weak {av2 : Addr → Prop} {d : D} {v : V} (h : DenR B av H0 H d v) (ha : ∀ b, av2 b → av b) : DenR B av2 H0 H d v := by
  refine ⟨h.1.weak ha, fun z => ?_⟩
  have q := h.2 z
  have hb : ∀ (a : Addr) b, (av2 b ∨ b = a) → (av b ∨ b = a) := fun a b h => h.imp (ha b) id
  cases d with
  | lst l => obtain ⟨a, vs, e, n, q, r⟩ := q; exact ⟨a, vs, e, n, q, r.weak (hb a)⟩
  | ins c ns l => obtain ⟨a, dx, fs, e, n, q, z, r⟩ := q; exact ⟨a, dx, fs, e, n, q, z, r.weak (hb a)⟩
  | dct ks l => obtain ⟨a, kvs, e, n, q, z, r⟩ := q; exact ⟨a, kvs, e, n, q, z, r.weak (hb a)⟩
  | _ => exact False.elim q
theorem ExD.weak {av2 : Addr → Prop} {x : Exc} {cv : Value} {dd : Option Addr} (h : ExD B av H x cv dd) (ha : ∀ b, av2 b → av b) : ExD B av2 H x cv dd := h.mono (Same.refl H) fun b q _ => ha b q

/-- some own objects are own no more -/
theorem EnvOk.weaken (ok : EnvOk B (mks M) κ H0 av0 av σ H ρ) (hs : ∀ j ∈ M2, j ∈ M) : ∃ av', EnvOk B (mks M2) κ H0 av0 av' σ H ρ ∧ ∀ b, av' b → av b := by
  refine ⟨fun b => av b ∧ ∀ i d, i ∈ M → i ∉ M2 → ρ[i]? = some (some d) → σ[i]? = some (some (.ref b)) → False, ?_, fun b h => h.1⟩
  have wk : ∀ b, (av b ∧ ∀ i d, i ∈ M → i ∉ M2 → ρ[i]? = some (some d) → σ[i]? = some (some (.ref b)) → False) → av b := fun b h => h.1
  refine ⟨ok.len, ok.same, fun b h => ⟨ok.sub b h, fun i d h1 h2 h3 h4 => ?_⟩, ok.trk0, fun b h => ok.trk b h.1, fun i d h1 h2 => ?_, fun i d h1 h2 => ?_, fun i j d d' v h1 h2 => ok.inj i j d d' v (mks_true.mpr (hs i (mks_true.mp h1))) (mks_true.mpr (hs j (mks_true.mp h2))), fun p hp => (ok.kp p hp).weak wk⟩
  · obtain ⟨v, e1, e2⟩ := ok.own i d h3 (mks_true.mpr h1)
    obtain ⟨a, o, e, n, _⟩ := e2.at
    rw [h4] at e1
    cases e1
    cases e
    exact ok.trk0 b h n
  · cases q : mks M i with
    | false =>
      obtain ⟨v, e1, e2⟩ := ok.val i d h1 q
      exact ⟨v, e1, e2.weak wk⟩
    | true =>
      obtain ⟨v, e1, e2⟩ := ok.own i d h1 q
      refine ⟨v, e1, .inl ?_⟩
      have na : ∀ a, v = .ref a → ¬ (av a ∧ ∀ i d, i ∈ M → i ∉ M2 → ρ[i]? = some (some d) → σ[i]? = some (some (.ref a)) → False) := fun a e z => by
        subst e
        exact z.2 i d (mks_true.mp q) (mks_false.mp h2) h1 e1
      cases d with
      | lst l => obtain ⟨a, vs, e, n, x, q, r⟩ := e2; exact ⟨a, vs, e, .inl ⟨na a e, .inl q⟩, r.weak wk⟩
      | ins c ns l => obtain ⟨a, dx, fs, e, n, x, q, z, r⟩ := e2; exact ⟨a, dx, fs, e, na a e, q, z, r.weak wk⟩
      | dct ks l => obtain ⟨a, kvs, e, n, x, q, z, r⟩ := e2; exact ⟨a, kvs, e, na a e, q, z, r.weak wk⟩
      | _ => exact False.elim e2
  · have hM := mks_true.mpr (hs i (mks_true.mp h2))
    obtain ⟨v, e1, e2⟩ := ok.own i d h1 hM
    refine ⟨v, e1, ?_⟩
    have na : ∀ a, v = .ref a → av a → (av a ∧ ∀ i d, i ∈ M → i ∉ M2 → ρ[i]? = some (some d) → σ[i]? = some (some (.ref a)) → False) := fun a e z => ⟨z, fun j d' j1 j2 j3 j4 => by
      subst e
      refine ok.inj i j d d' _ hM (mks_true.mpr j1) ?_ h1 j3 e1 j4
      rintro rfl
      exact j2 (mks_true.mp h2)⟩
    cases d with
    | lst l => obtain ⟨a, vs, e, n, x, q, r⟩ := e2; exact ⟨a, vs, e, n, na a e x, q, r.weak wk⟩
    | ins c ns l => obtain ⟨a, dx, fs, e, n, x, q, z, r⟩ := e2; exact ⟨a, dx, fs, e, n, na a e x, q, z, r.weak wk⟩
    | dct ks l => obtain ⟨a, kvs, e, n, x, q, z, r⟩ := e2; exact ⟨a, kvs, e, n, na a e x, q, z, r.weak wk⟩
    | _ => exact False.elim e2

/-- a new own object in slot i -/
theorem EnvOk.setO (ok : EnvOk B (mks M) κ H0 av0 av σ H ρ) (s : Same H H') {i : Nat} {d : D} {v : V} (f : DenF B av H H' d v) : ∃ av', EnvOk B (mks (i :: M)) κ H0 av0 av' (σ.set i (some v)) H' (ρ.set i (some d)) := by
  have hl := ok.len
  have get : ∀ {j : Nat} {d' : D}, (ρ.set i (some d))[j]? = some (some d') → (j = i ∧ d' = d ∧ j < ρ.length) ∨ (j ≠ i ∧ ρ[j]? = some (some d')) := fun {j d'} h => by
    by_cases e : j = i
    · subst e
      by_cases z : j < ρ.length
      · rw [List.getElem?_set_self z] at h
        cases h
        exact .inl ⟨rfl, rfl, z⟩
      · rw [List.getElem?_eq_none (by rw [List.length_set]; omega)] at h
        cases h
    · rw [List.getElem?_set_ne (Ne.symm e)] at h
      exact .inr ⟨e, h⟩
  obtain ⟨a, na, ev, ha', hown⟩ : ∃ a, H a = none ∧ v = .ref a ∧ H' a ≠ none ∧ ∀ av', (∀ b, av' b ↔ av b ∨ b = a) → OwnD B av' H0 H' d v := by
    have n0 : ∀ a, H a = none → H0 a = none := fun a n => ok.same.free n
    have c : ∀ (av' : Addr → Prop) (a : Addr), (∀ b, av' b ↔ av b ∨ b = a) → ∀ b, av' b → av b ∨ b = a := fun av' a h b => (h b).mp
    cases d with
    | lst l =>
      obtain ⟨a, vs, e, n, q, r⟩ := f
      exact ⟨a, n, e, by rw [q]; simp, fun av' h => ⟨a, vs, e, n0 a n, (h a).mpr (.inr rfl), q, r.weak (c av' a h)⟩⟩
    | ins c' ns l =>
      obtain ⟨a, dx, fs, e, n, q, z, r⟩ := f
      exact ⟨a, n, e, by rw [q]; simp, fun av' h => ⟨a, dx, fs, e, n0 a n, (h a).mpr (.inr rfl), q, z, r.weak (c av' a h)⟩⟩
    | dct ks l =>
      obtain ⟨a, kvs, e, n, q, z, r⟩ := f
      exact ⟨a, n, e, by rw [q]; simp, fun av' h => ⟨a, kvs, e, n0 a n, (h a).mpr (.inr rfl), q, z, r.weak (c av' a h)⟩⟩
    | _ => exact False.elim f
  have ha : ∀ b, (av b ∨ b = a) → H b ≠ none → av b := fun b h q => h.elim id fun e => absurd (e ▸ na) q
  have hmk : ∀ {j}, j ≠ i → mks (i :: M) j = mks M j := fun {j} n => by
    cases q : mks M j with
    | true => exact mks_true.mpr (List.mem_cons_of_mem _ (mks_true.mp q))
    | false =>
      refine mks_false.mpr fun z => ?_
      rcases List.mem_cons.mp z with z | z
      · exact n z
      · exact mks_false.mp q z
  refine ⟨fun b => av b ∨ b = a, by rw [List.length_set, List.length_set]; exact hl, ok.same.trans s, fun b h => .inl (ok.sub b h), ok.trk0, fun b h => ?_, fun j d' h1 h2 => ?_, fun j d' h1 h2 => ?_, fun j j' d1 d2 u h1 h2 h3 h4 h5 h6 h7 => ?_, fun p hp => Den.mono s ha _ _ (ok.kp p hp)⟩
  · rcases h with h | h
    · cases q : H b with
      | none => exact absurd q (ok.trk b h)
      | some u => rw [s b u q]; simp
    · rw [h]; exact ha'
  · rcases get h1 with ⟨rfl, rfl, z⟩ | ⟨e, h⟩
    · exact absurd List.mem_cons_self (mks_false.mp h2)
    · obtain ⟨u, e1, e2⟩ := ok.val j d' h (by rw [← hmk e]; exact h2)
      exact ⟨u, by rw [List.getElem?_set_ne (Ne.symm e)]; exact e1, e2.mono s ha⟩
  · rcases get h1 with ⟨rfl, rfl, z⟩ | ⟨e, h⟩
    · exact ⟨v, List.getElem?_set_self (by omega), hown _ fun b => Iff.rfl⟩
    · obtain ⟨u, e1, e2⟩ := ok.own j d' h (by rw [← hmk e]; exact h2)
      exact ⟨u, by rw [List.getElem?_set_ne (Ne.symm e)]; exact e1, e2.mono s ha fun b h => .inl h⟩
  · have old : ∀ {j d u}, j ≠ i → mks (i :: M) j = true → (ρ.set i (some d)) = (ρ.set i (some d)) → ρ[j]? = some (some d) → σ[j]? = some (some u) → u ≠ .ref a := fun {j d u} n q _ h1 h2 e => by
      obtain ⟨w, e1, e2⟩ := ok.own j d h1 (by rw [← hmk n]; exact q)
      obtain ⟨b, o, e3, _, _, e4, _⟩ := e2.at
      rw [h2] at e1
      cases e1
      subst e
      cases e3
      rw [na] at e4
      cases e4
    rcases get h4 with ⟨rfl, rfl, z⟩ | ⟨e, h⟩
    · rcases get h5 with ⟨rfl, rfl, z'⟩ | ⟨e', h'⟩
      · exact h3 rfl
      · rw [List.getElem?_set_self (by omega)] at h6
        rw [List.getElem?_set_ne (Ne.symm e')] at h7
        cases h6
        exact old e' h2 rfl h' h7 ev
    · rcases get h5 with ⟨rfl, rfl, z'⟩ | ⟨e', h'⟩
      · rw [List.getElem?_set_self (by omega)] at h7
        rw [List.getElem?_set_ne (Ne.symm e)] at h6
        cases h7
        exact old e h1 rfl h h6 ev
      · rw [List.getElem?_set_ne (Ne.symm e)] at h6
        rw [List.getElem?_set_ne (Ne.symm e')] at h7
        exact ok.inj j j' d1 d2 u (by rw [← hmk e]; exact h1) (by rw [← hmk e']; exact h2) h3 h h' h6 h7
/-- the own object of slot i is written -/
theorem EnvOk.put (ok : EnvOk B (mks M) κ H0 av0 av σ H ρ) {i : Nat} {d d' : D} {a : Addr} {o o' : HO} (hi : i ∈ M) (e : ρ[i]? = some (some d)) (es : σ[i]? = some (some (.ref a))) (n0 : H0 a = none) (ha : av a) (ho : H a = some o) (mu : MutO o)
    (hd : OwnD B av H0 (L2.upd H a o') d' (.ref a)) : EnvOk B (mks M) κ H0 av0 av σ (L2.upd H a o') (ρ.set i (some d')) := by
  have hl := ok.len
  have get : ∀ {j : Nat} {d2 : D}, (ρ.set i (some d'))[j]? = some (some d2) → (j = i ∧ d2 = d' ∧ j < ρ.length) ∨ (j ≠ i ∧ ρ[j]? = some (some d2)) := fun {j d2} h => by
    by_cases e : j = i
    · subst e
      by_cases z : j < ρ.length
      · rw [List.getElem?_set_self z] at h
        cases h
        exact .inl ⟨rfl, rfl, z⟩
      · rw [List.getElem?_eq_none (by rw [List.length_set]; omega)] at h
        cases h
    · rw [List.getElem?_set_ne (Ne.symm e)] at h
      exact .inr ⟨e, h⟩
  refine ⟨by rw [List.length_set]; exact hl, fun b u q => ?_, ok.sub, ok.trk0, fun b h => ?_, fun j d2 h1 h2 => ?_, fun j d2 h1 h2 => ?_, fun j j' d1 d2 u h1 h2 h3 h4 h5 h6 h7 => ?_, fun p hp => Den.upd ha ho mu _ _ (ok.kp p hp)⟩
  · rw [upd_ne (ne_of_none q n0)]
    exact ok.same b u q
  · by_cases z : b = a
    · rw [z, upd_same]; simp
    · rw [upd_ne z]; exact ok.trk b h
  · rcases get h1 with ⟨rfl, rfl, z⟩ | ⟨n, h⟩
    · exact absurd hi (mks_false.mp h2)
    · obtain ⟨u, e1, e2⟩ := ok.val j d2 h h2
      exact ⟨u, e1, e2.upd ha ho mu⟩
  · rcases get h1 with ⟨rfl, rfl, z⟩ | ⟨n, h⟩
    · exact ⟨_, es, hd⟩
    · obtain ⟨u, e1, e2⟩ := ok.own j d2 h h2
      exact ⟨u, e1, e2.upd ha ho mu fun z => ok.inj j i d2 d u h2 (mks_true.mpr hi) n h e e1 (by rw [z]; exact es)⟩
  · have old : ∀ {j d2}, (ρ.set i (some d'))[j]? = some (some d2) → ∃ d3, ρ[j]? = some (some d3) := fun {j d2} h => by
      rcases get h with ⟨rfl, rfl, z⟩ | ⟨n, h⟩
      · exact ⟨_, e⟩
      · exact ⟨_, h⟩
    obtain ⟨d3, g3⟩ := old h4
    obtain ⟨d4, g4⟩ := old h5
    exact ok.inj j j' d3 d4 u h1 h2 h3 g3 g4 h6 h7

/-- what has to follow a result -/
def Fin (B : Bs) (M' : List Nat) (J : JS) (κ : List (D × V)) (H0 : Hp) (av0 : Addr → Prop) (W : WX) (D' : Ends) : SR → Prop
  | .nx ρ => ∀ σ H av, EnvOk B (mks M') κ H0 av0 av σ H ρ → D'.nx σ H
  | .bk ρ => ∀ σ H av, EnvOk B (mks J.b) κ H0 av0 av σ H ρ → D'.bk σ H
  | .ct ρ => ∀ σ H av, EnvOk B (mks J.c) κ H0 av0 av σ H ρ → D'.ct σ H
  | .rt d => ∀ v H, Same H0 H → Den B av0 H d v → (J.fr = true → DenR B av0 H0 H d v) → D'.rt v H
  | .ex x ρ => ∀ σ H av cv dd, EnvOk B (mks J.x) κ H0 av0 av σ H ρ → ExD B av H x cv dd → W cv dd σ H
  | .bad => False
def rdS (L : Lw) (k : Nat) (B : Bs) (M M' : List Nat) (J : JS) (W : WX) (s : S) : TS := fun D' σ H => ∃ κ H0 av0 av ρ, EnvOk B (mks M) κ H0 av0 av σ H ρ ∧ Fin B M' J κ H0 av0 W D' (evS (run L.T k) s ρ)
def rdSs (L : Lw) (k : Nat) (B : Bs) (M M' : List Nat) (J : JS) (W : WX) (s : Ss) : TS := fun D' σ H => ∃ κ H0 av0 av ρ, EnvOk B (mks M) κ H0 av0 av σ H ρ ∧ Fin B M' J κ H0 av0 W D' (evSs (run L.T k) s ρ)
def SJ (L : Lw) (k : Nat) (B : Bs) (M M' : List Nat) (J : JS) (X : Cx) (W : WX) (st : Stmt) (s : S) : Prop := PS X st (rdS L k B M M' J W s)
def SsJ (L : Lw) (k : Nat) (B : Bs) (M M' : List Nat) (J : JS) (X : Cx) (W : WX) (st : List Stmt) (s : Ss) : Prop := PSs X st (rdSs L k B M M' J W s)
theorem PS.imp {st : Stmt} {t t' : TS} (h : PS X st t) (i : ∀ D' σ H, t' D' σ H → t D' σ H) : PS X st t' := ⟨fun pins s σ H D' I q => h.run pins s σ H D' I (i _ _ _ q)⟩
theorem PSs.imp {st : List Stmt} {t t' : TS} (h : PSs X st t) (i : ∀ D' σ H, t' D' σ H → t D' σ H) : PSs X st t' := ⟨fun pins s σ H D' I q => h.run pins s σ H D' I (i _ _ _ q)⟩

theorem fin_ex {x : Exc} (ok : EnvOk B (mks M) κ H0 av0 av σ H ρ) (hx : ∀ j ∈ J.x, j ∈ M) (h : Fin B M' J κ H0 av0 W D' (.ex x ρ)) : ∀ cv dd H1, Same H H1 → ExD B av H1 x cv dd → W cv dd σ H1 := fun cv dd H1 s e => by
  obtain ⟨av', ok', wk⟩ := (ok.mono s).weaken hx
  exact h σ H1 av' cv dd ok' (e.weak wk)
/-- an expression ahead of the rest -/
theorem fin_of {β : Type} {P : D → β → Hp → Prop} {Q : β → Hp → Prop} {r : R D} {f : D → SR} (ok : EnvOk B (mks M) κ H0 av0 av σ H ρ) (hx : ∀ j ∈ J.x, j ∈ M) (h : Fin B M' J κ H0 av0 W D' (SR.of r ρ f))
    (step : ∀ d v H1, Same H H1 → P d v H1 → Fin B M' J κ H0 av0 W D' (f d) → Q v H1) : Pst B W av σ H P Q r := by
  cases r with
  | ok d => exact fun v H1 s p => step d v H1 s p h
  | exn x => exact fin_ex ok hx h
  | bad => exact h.elim

/-! ### blocks -/
theorem ss_nil (hs : ∀ j ∈ M', j ∈ M := by decide) : SsJ L k B M M' J X W [] .nil := PSs.imp pss_nil fun D' σ H q => by
  obtain ⟨κ, H0, av0, av, ρ, ok, q⟩ := q
  obtain ⟨av', ok', _⟩ := ok.weaken hs
  exact q σ H av' ok'
theorem ss_cons {st : Stmt} {sts : List Stmt} {s : S} {ss : Ss} (h1 : SJ L k B M M1 J X W st s) (h2 : SsJ L k B M1 M' J X W sts ss) : SsJ L k B M M' J X W (st :: sts) (.cons s ss) := PSs.imp (pss_cons h1 h2) fun D' σ H q => by
  obtain ⟨κ, H0, av0, av, ρ, ok, q⟩ := q
  have q' : Fin B M' J κ H0 av0 W D' (match evS (run L.T k) s ρ with | .nx ρ' => evSs (run L.T k) ss ρ' | r => r) := q
  refine ⟨κ, H0, av0, av, ρ, ok, ?_⟩
  cases e : evS (run L.T k) s ρ with
  | nx ρ' =>
    rw [e] at q'
    exact fun σ1 H1 av1 ok1 => ⟨κ, H0, av0, av1, ρ', ok1, q'⟩
  | rt d => rw [e] at q'; exact q'
  | bk ρ' => rw [e] at q'; exact q'
  | ct ρ' => rw [e] at q'; exact q'
  | ex x ρ' => rw [e] at q'; exact q'
  | bad => rw [e] at q'; exact q'
theorem ss_one {st : Stmt} {s : S} (h1 : SJ L k B M M' J X W st s) : SsJ L k B M M' J X W [st] (.cons s .nil) := PSs.imp (pss_one h1) fun D' σ H q => by
  obtain ⟨κ, H0, av0, av, ρ, ok, q⟩ := q
  have q' : Fin B M' J κ H0 av0 W D' (match evS (run L.T k) s ρ with | .nx ρ' => .nx ρ' | r => r) := q
  refine ⟨κ, H0, av0, av, ρ, ok, ?_⟩
  cases e : evS (run L.T k) s ρ with
  | nx ρ' => rw [e] at q'; exact q'
  | rt d => rw [e] at q'; exact q'
  | bk ρ' => rw [e] at q'; exact q'
  | ct ρ' => rw [e] at q'; exact q'
  | ex x ρ' => rw [e] at q'; exact q'
  | bad => rw [e] at q'; exact q'
theorem ss_weak {sts : List Stmt} {ss : Ss} (h : SsJ L k B M1 M' J X W sts ss) (hs : ∀ j ∈ M1, j ∈ M := by decide) : SsJ L k B M M' J X W sts ss := PSs.imp h fun D' σ H q => by
  obtain ⟨κ, H0, av0, av, ρ, ok, q⟩ := q
  obtain ⟨av', ok', _⟩ := ok.weaken hs
  exact ⟨κ, H0, av0, av', ρ, ok', q⟩

/-! ### small statements -/
theorem s_pass {pos : Pos} : SJ L k B M M J X W (.Pass pos) .pass := PS.imp ps_pass fun D' σ H q => by
  obtain ⟨κ, H0, av0, av, ρ, ok, q⟩ := q
  exact q σ H av ok
theorem s_brk {pos : Pos} (hs : ∀ j ∈ J.b, j ∈ M := by decide) : SJ L k B M M' J X W (.Break pos) .brk := PS.imp ps_break fun D' σ H q => by
  obtain ⟨κ, H0, av0, av, ρ, ok, q⟩ := q
  obtain ⟨av', ok', _⟩ := ok.weaken hs
  exact q σ H av' ok'
theorem s_cnt {pos : Pos} (hs : ∀ j ∈ J.c, j ∈ M := by decide) : SJ L k B M M' J X W (.Continue pos) .cnt := PS.imp ps_continue fun D' σ H q => by
  obtain ⟨κ, H0, av0, av, ρ, ok, q⟩ := q
  obtain ⟨av', ok', _⟩ := ok.weaken hs
  exact q σ H av' ok'
theorem s_doc {x j pos pos'} : SJ L k B M M J X W (.Expr (.Constant (.str x) j pos) pos') .pass := PS.imp ps_doc fun D' σ H q => by
  obtain ⟨κ, H0, av0, av, ρ, ok, q⟩ := q
  exact q σ H av ok
theorem s_ex {e : Expr} {ê : E} {pos : Pos} (h : EJ L k B (mks M) X W .b e ê) (hx : ∀ j ∈ J.x, j ∈ M := by decide) (hs : swapsWith e none pos.line X.env = pure false := by rfl) : SJ L k B M M J X W (.Expr e pos) (.ex ê) := PS.imp (ps_expr h hs) fun D' σ H q => by
  obtain ⟨κ, H0, av0, av, ρ, ok, q⟩ := q
  exact ⟨κ, H0, av0, av, ρ, ok, fin_of ok hx q fun d v H1 s p q => q σ H1 av (ok.mono s)⟩
theorem s_ret {e : Expr} {ê : E} {pos : Pos} (h : EJ L k B (mks M) X W (if J.fr then .f else .v) e ê) (hx : ∀ j ∈ J.x, j ∈ M := by decide) : SJ L k B M M' J X W (.Return (some e) pos) (.ret ê) := PS.imp (ps_ret h) fun D' σ H q => by
  obtain ⟨κ, H0, av0, av, ρ, ok, q⟩ := q
  refine ⟨κ, H0, av0, av, ρ, ok, fin_of ok hx q fun d v H1 s p q => ?_⟩
  cases e : J.fr with
  | true =>
    rw [e] at p
    have p' : DenR B av H H1 d v := p
    have p2 := (DenR.from p' ok.same).weak ok.sub
    exact q v H1 (ok.same.trans s) p2.1 fun _ => p2
  | false =>
    rw [e] at p
    have p' : Den B av H1 d v := p
    exact q v H1 (ok.same.trans s) (p'.weak ok.sub) fun z => by rw [e] at z; cases z
theorem s_retN {pos : Pos} : SJ L k B M M' J X W (.Return none pos) (.ret (.c .non)) := PS.imp ps_retN fun D' σ H q => by
  obtain ⟨κ, H0, av0, av, ρ, ok, q⟩ := q
  exact q .non H ok.same rfl fun _ => DenR.scal rfl rfl
/-- return x, x an own object -/
theorem s_retO (C : Cn L k B N sc fc hot X W) (i : Nat) {x : Str} {p pos : Pos} (hi : N[i]? = some x := by rfl) (hm : i ∈ M := by decide) (hv : Vis sc x := by first | exact Or.inl rfl | exact Or.inr (Or.inl rfl) | exact Or.inr (Or.inr rfl))
    (hd : (x == ("__debug__" : Str)) = false := by decide) (hcd : (x == ("__classdict__" : Str)) = false := by decide) : SJ L k B M M' J X W (.Return (some (.Name x p)) pos) (.ret (.var i)) :=
  PS.imp (ps_ret (pe_var (by rw [C.hN]; exact hi) (C.vis hv) hd hcd)) fun D' σ H q => by
    obtain ⟨κ, H0, av0, av, ρ, ok, q⟩ := q
    have q' : Fin B M' J κ H0 av0 W D' (SR.of (getV ρ i) ρ fun d => .rt d) := q
    unfold getV at q'
    cases e : ρ[i]? with
    | none => rw [e] at q'; exact q'.elim
    | some o =>
      rw [e] at q'
      cases o with
      | none => exact q'.elim
      | some d =>
        obtain ⟨v, e1, d1⟩ := ok.own i d e (mks_true.mpr hm)
        refine ⟨v, e1, ?_⟩
        have wk : ∀ (a : Addr) b, av a → (av0 b ∨ b = a) → av b := fun a b z h => h.elim (ok.sub b) fun e => e ▸ z
        have f : DenF B av0 H0 H d v := by
          cases d with
          | lst l => obtain ⟨a, vs, e, n, x, q, r⟩ := d1; exact ⟨a, vs, e, n, q, r.weak fun b => wk a b x⟩
          | ins c ns l => obtain ⟨a, dx, fs, e, n, x, q, z, r⟩ := d1; exact ⟨a, dx, fs, e, n, q, z, r.weak fun b => wk a b x⟩
          | dct ks l => obtain ⟨a, kvs, e, n, x, q, z, r⟩ := d1; exact ⟨a, kvs, e, n, q, z, r.weak fun b => wk a b x⟩
          | _ => exact False.elim d1
        exact q' v H ok.same (f.den ok.trk0) fun _ => ⟨f.den ok.trk0, fun _ => f⟩

/-! ### names set -/
theorem s_set_of {st : Stmt} {ê : E} {t : Tg} (h : PS X st (tAsg (rd L k B (mks M) W .v ê) (rdG B (mks M) t))) (hx : ∀ j ∈ J.x, j ∈ M := by decide) : SJ L k B M M J X W st (.set t ê) := PS.imp h fun D' σ H q => by
  obtain ⟨κ, H0, av0, av, ρ, ok, q⟩ := q
  refine ⟨κ, H0, av0, av, ρ, ok, fin_of ok hx q fun d v H1 s p q => ?_⟩
  cases e : setT t d ρ with
  | none => rw [e] at q; exact q.elim
  | some ρ' =>
    rw [e] at q
    exact ⟨κ, H0, av0, av, ρ, d, ρ', ok.mono s, p, e, fun σ' ok' _ => q σ' H1 av ok'⟩
theorem s_set {tg e : Expr} {ê : E} {t : Tg} {pos : Pos} (h : EJ L k B (mks M) X W .v e ê) (hg : GJ B (mks M) X tg t) (hx : ∀ j ∈ J.x, j ∈ M := by decide) (hs : swapsWithSole [tg] e pos.line X.env = pure false := by rfl) (hw : swappedStores [tg] e X.env = pure none := by rfl)
    (h1 : (assignEach [tg] X.env).map (·.2) = [assign tg X.env] := by rfl) : SJ L k B M M J X W (.Assign [tg] e pos) (.set t ê) := s_set_of (ps_asg h hg hs hw h1) hx
theorem s_setO_of {st : Stmt} {ê : E} {i : Nat} (h : PS X st (tAsg (rd L k B (mks M) W .f ê) (gName i))) (hx : ∀ j ∈ J.x, j ∈ M := by decide) : SJ L k B M (i :: M) J X W st (.setO i ê) := PS.imp h fun D' σ H q => by
  obtain ⟨κ, H0, av0, av, ρ, ok, q⟩ := q
  refine ⟨κ, H0, av0, av, ρ, ok, fin_of ok hx q fun d v H1 s p q => ?_⟩
  have p' : DenR B av H H1 d v := p
  cases e : isO d with
  | false => rw [e] at q; exact False.elim q
  | true =>
    rw [e] at q
    obtain ⟨av', ok'⟩ := ok.setO s (i := i) (p'.2 e)
    exact q _ H1 av' ok'
theorem s_setO (C : Cn L k B N sc fc hot X W) (i : Nat) {x : Str} {e : Expr} {ê : E} {p' pos : Pos} (h : EJ L k B (mks M) X W .f e ê) (hi : N[i]? = some x := by rfl) (hx : sc.names.lookup x = some .local ∨ (sc.names.lookup x = some .cell ∧ x ∈ fc) := by first | exact Or.inl rfl | exact Or.inr ⟨rfl, by decide +kernel⟩)
    (hj : ∀ j ∈ J.x, j ∈ M := by decide) (hs : swapsWith e (some (.Name x p')) pos.line X.env = pure false := by rfl) : SJ L k B M (i :: M) J X W (.Assign [.Name x p'] e pos) (.setO i ê) :=
  s_setO_of (ps_set (by rw [C.hN]; exact C.nd) (by rw [C.hN]; exact hi) (by rw [C.hsc]; exact hx.imp id fun z => z.1) h hs (by
    rcases hx with h | h
    · exact .inr (by rw [C.hsc]; exact h)
    · exact .inl (C.fnc x h.2))) hj

/-! ### if -/
theorem s_if {c : Expr} {ĉ : E} {a b : List Stmt} {ta tb : Ss} {pos : Pos} (h : TJ L k B (mks M) X W c ĉ) (ha : SsJ L k B M M' J X W a ta) (hb : SsJ L k B M M' J X W b tb) (hx : ∀ j ∈ J.x, j ∈ M := by decide) : SJ L k B M M' J X W (.If c a b pos) (.ite ĉ ta tb) := PS.imp (ps_if h ha hb) fun D' σ H q => by
  obtain ⟨κ, H0, av0, av, ρ, ok, q⟩ := q
  refine ⟨κ, H0, av0, av, ρ, ok, ?_⟩
  have q' : Fin B M' J κ H0 av0 W D' (SR.of (ev (run L.T k) ĉ ρ) ρ fun d => match d with | .bl true => evSs (run L.T k) ta ρ | .bl false => evSs (run L.T k) tb ρ | _ => .bad) := q
  cases e : ev (run L.T k) ĉ ρ with
  | exn x => rw [e] at q'; exact fin_ex ok hx q'
  | bad => rw [e] at q'; exact q'.elim
  | ok d =>
    rw [e] at q'
    cases d <;> first | (exact False.elim q'; done) | skip
    rename_i t
    rintro t' H1 s rfl
    cases t with
    | true => exact ⟨κ, H0, av0, av, ρ, ok.mono s, q'⟩
    | false => exact ⟨κ, H0, av0, av, ρ, ok.mono s, q'⟩
end
end Pv
set_option Elab.async false
set_option linter.all false
set_option maxRecDepth 100000
set_option maxHeartbeats 2000000
/-! Pv13: loops, stores into own objects. -/
namespace Pv
open PySem PySem.Spec PyProof.Rows L2

section
variable {L : Lw} {k : Nat} {B : Bs} {N : List Str} {sc : Scope} {fc : List Str} {hot : Option Nat} {X : Cx} {W : WX} {M M1 M2 M' : List Nat} {m : Md} {J : JS}
variable {κ κ' : List (D × V)} {H0 H H' H1 : Hp} {av0 av : Addr → Prop} {σ : L2.St} {ρ : Env} {D' : Ends}

/-- after a loop's turn -/
theorem fin_turn {body : D → Env → SR} {d : D} {l : List D} {Pn : L2.St → Hp → Prop} (hn : ∀ ρ' σ' H' av', Fin B M J κ H0 av0 W D' (forL body l ρ') → EnvOk B (mks M) (κ' ++ κ) H0 av0 av' σ' H' ρ' → Pn σ' H')
    (q : Fin B M J κ H0 av0 W D' (forL body (d :: l) ρ)) : Fin B M { J with b := M, c := M } (κ' ++ κ) H0 av0 W { D' with nx := Pn, ct := Pn, bk := D'.nx } (body d ρ) := by
  have q' : Fin B M J κ H0 av0 W D' (match body d ρ with
    | .nx ρ' => forL body l ρ'
    | .ct ρ' => forL body l ρ'
    | .bk ρ' => .nx ρ'
    | r => r) := q
  cases e : body d ρ with
  | nx ρ' => rw [e] at q'; exact fun σ1 H1 av1 ok1 => hn ρ' σ1 H1 av1 q' ok1
  | ct ρ' => rw [e] at q'; exact fun σ1 H1 av1 ok1 => hn ρ' σ1 H1 av1 q' ok1
  | bk ρ' => rw [e] at q'; exact fun σ1 H1 av1 ok1 => q' σ1 H1 av1 ok1.less
  | rt d => rw [e] at q'; exact q'
  | ex x ρ' => rw [e] at q'; exact fun σ1 H1 av1 cv dd ok1 h => q' σ1 H1 av1 cv dd ok1.less h
  | bad => rw [e] at q'; exact q'
theorem s_for (C : Cn L k B N sc fc none X W) {tg iter : Expr} {body : List Stmt} {t : Tg} {it : Pv.It} {b : Ss} {pos : Pos} (hi : IJ L k B (mks M) X W tg iter it) (hg : GJ B (mks M) X tg t) (hb : SsJ L k B M M { J with b := M, c := M } X W body b)
    (hx : ∀ j ∈ J.x, j ∈ M := by decide) (hs : ∀ x, foldedSetIterable iter X.env x = pure x := by intro _; rfl) : SJ L k B M M J X W (.For tg iter body [] pos) (.for_ t it b) :=
  PS.imp (ps_for C.po (C.calm rfl) hi hg hb hs) fun D' σ H q => by
    obtain ⟨κ, H0, av0, av, ρ, ok, q⟩ := q
    have q' : Fin B M J κ H0 av0 W D' (match evIt (run L.T k) it ρ with
      | .ok l => forL (fun d ρ1 => match setT t d ρ1 with
        | some ρ2 => evSs (run L.T k) b ρ2
        | none => .bad) l ρ
      | .exn x => .ex x ρ
      | .bad => .bad) := q
    generalize hf : (fun (d : D) (ρ1 : Env) => match setT t d ρ1 with
        | some ρ2 => evSs (run L.T k) b ρ2
        | none => SR.bad) = f at q'
    refine ⟨κ, H0, av0, av, ρ, ok, ?_⟩
    cases e : evIt (run L.T k) it ρ with
    | bad => rw [e] at q'; exact q'.elim
    | exn x => rw [e] at q'; exact fin_ex ok hx q'
    | ok l =>
      rw [e] at q'
      intro Jt κ' H1 s k1 w
      refine for_it w (fun i σ' H' => ∃ av' ρ', EnvOk B (mks M) (κ' ++ κ) H0 av0 av' σ' H' ρ' ∧ Fin B M J κ H0 av0 W D' (forL f (l.drop i) ρ')) ?_ ?_ ?_ ?_
      · exact ⟨av, ρ, (ok.mono s).keep k1, q'⟩
      · rintro i σ' H' hi ⟨av', ρ', ok', _⟩
        exact ⟨av', fun p hp => ok'.kp p (List.mem_append_left _ hp)⟩
      · rintro i x σ' H2 H3 hi ⟨av', ρ', ok', q2⟩ ⟨s3, hy⟩
        obtain ⟨d, e4, dx⟩ := hy av' fun p hp => ok'.kp p (List.mem_append_left _ hp)
        have hd : l.drop i = d :: l.drop (i + 1) := by
          obtain ⟨h1, h2⟩ := List.getElem?_eq_some_iff.mp e4
          rw [List.drop_eq_getElem_cons h1, h2]
        rw [hd] at q2
        have q3 := fin_turn (κ' := κ') (Pn := fun σ' H' => ∃ av' ρ', EnvOk B (mks M) (κ' ++ κ) H0 av0 av' σ' H' ρ' ∧ Fin B M J κ H0 av0 W D' (forL f (l.drop (i + 1)) ρ')) (fun ρ1 σ1 H1 av1 h ok1 => ⟨av1, ρ1, ok1, h⟩) q2
        rw [← hf] at q3
        have q4 : Fin B M { J with b := M, c := M } (κ' ++ κ) H0 av0 W _ (match setT t d ρ' with
          | some ρ2 => evSs (run L.T k) b ρ2
          | none => SR.bad) := q3
        cases e5 : setT t d ρ' with
        | none => rw [e5] at q4; exact False.elim q4
        | some ρ2 =>
          rw [e5] at q4
          refine ⟨κ' ++ κ, H0, av0, av', ρ', d, ρ2, ok'.mono s3, dx, e5, fun σ2 ok2 _ => ⟨κ' ++ κ, H0, av0, av', ρ2, ok2, ?_⟩⟩
          rw [hf] at q4
          exact q4
      · rintro σ' H' ⟨av', ρ', ok', q2⟩
        rw [List.drop_length] at q2
        have q3 : Fin B M J κ H0 av0 W D' (.nx ρ') := q2
        exact q3 σ' H' av' ok'.less
theorem s_whl (C : Cn L k B N sc fc hot X W) {c : Expr} {body : List Stmt} {ĉ : E} {b : Ss} {pos : Pos} (hc : TJ L k B (mks M) X W c ĉ) (hb : SsJ L k B M M { J with b := M, c := M } X W body b) (hx : ∀ j ∈ J.x, j ∈ M := by decide) :
    SJ L k B M M J X W (.While c body [] pos) (.whl ĉ b) :=
  PS.imp (ps_while C.po hc hb) fun D' σ H q => by
    obtain ⟨κ, H0, av0, av, ρ, ok, q⟩ := q
    generalize hfc : (fun ρ => (ev (run L.T k) ĉ ρ).bind tBool) = fc
    generalize hfb : (fun ρ => evSs (run L.T k) b ρ) = fb
    have q' : Fin B M J κ H0 av0 W D' (wh fc fb ρ) := by rw [← hfc, ← hfb]; exact q
    have q2 : ∃ n, Fin B M J κ H0 av0 W D' (whN fc fb n ρ) := by
      unfold wh at q'
      split at q'
      · exact ⟨_, q'⟩
      · exact False.elim q'
    refine ⟨fun m σ H => ∃ av ρ, EnvOk B (mks M) κ H0 av0 av σ H ρ ∧ Fin B M J κ H0 av0 W D' (whN fc fb m ρ), ?_, ?_⟩
    · obtain ⟨n, q2⟩ := q2
      exact ⟨n, av, ρ, ok, q2⟩
    · rintro n σ1 H1 ⟨av1, ρ1, ok1, q3⟩
      cases n with
      | zero => exact q3.elim
      | succ n =>
        refine ⟨κ, H0, av0, av1, ρ1, ok1, ?_⟩
        have q4 : Fin B M J κ H0 av0 W D' (match fc ρ1 with
          | .ok true => (match fb ρ1 with
            | .nx ρ' => whN fc fb n ρ'
            | .ct ρ' => whN fc fb n ρ'
            | .bk ρ' => .nx ρ'
            | r => r)
          | .ok false => .nx ρ1
          | .exn x => .ex x ρ1
          | .bad => .bad) := q3
        have ec : (ev (run L.T k) ĉ ρ1).bind tBool = fc ρ1 := by rw [← hfc]
        have eb : evSs (run L.T k) b ρ1 = fb ρ1 := by rw [← hfb]
        rw [ec]
        cases e : fc ρ1 with
        | bad => rw [e] at q4; exact q4.elim
        | exn x => rw [e] at q4; exact fin_ex ok1 hx q4
        | ok t =>
          rw [e] at q4
          rintro t' H2 s rfl
          cases t with
          | false =>
            rw [if_neg Bool.false_ne_true]
            exact q4 σ1 H2 av1 (ok1.mono s)
          | true =>
            rw [if_pos rfl]
            refine ⟨fun σ H => ∃ av ρ, EnvOk B (mks M) κ H0 av0 av σ H ρ ∧ Fin B M J κ H0 av0 W D' (whN fc fb n ρ), fun σ' H' h => ⟨n, Nat.lt_succ_self n, h⟩, κ, H0, av0, av1, ρ1, ok1.mono s, ?_⟩
            rw [eb]
            have q5 : Fin B M J κ H0 av0 W D' (match fb ρ1 with
              | .nx ρ' => whN fc fb n ρ'
              | .ct ρ' => whN fc fb n ρ'
              | .bk ρ' => .nx ρ'
              | r => r) := q4
            cases e2 : fb ρ1 with
            | nx ρ' => rw [e2] at q5; exact fun σ1 H1 av1 ok1 => ⟨av1, ρ', ok1, q5⟩
            | ct ρ' => rw [e2] at q5; exact fun σ1 H1 av1 ok1 => ⟨av1, ρ', ok1, q5⟩
            | bk ρ' => rw [e2] at q5; exact q5
            | rt d => rw [e2] at q5; exact q5
            | ex x ρ' => rw [e2] at q5; exact q5
            | bad => rw [e2] at q5; exact q5

/-! ### own lists written -/
theorem own_lst {i : Nat} {l : List D} (ok : EnvOk B (mks M) κ H0 av0 av σ H ρ) (hi : i ∈ M) (e : ρ[i]? = some (some (.lst l))) : ∃ a vs, σ[i]? = some (some (.ref a)) ∧ H0 a = none ∧ av a ∧ H a = some (.lst vs) ∧ Dens B av H l vs := by
  obtain ⟨v, e1, a, vs, rfl, n, x, q, r⟩ := ok.own i _ e (mks_true.mpr hi)
  exact ⟨a, vs, e1, n, x, q, r⟩
theorem own_put {i : Nat} {l l' : List D} {a : Addr} {vs ws : List V} (ok : EnvOk B (mks M) κ H0 av0 av σ H ρ) (hi : i ∈ M) (e : ρ[i]? = some (some (.lst l))) (es : σ[i]? = some (some (.ref a))) (n0 : H0 a = none) (ha : av a) (ho : H a = some (.lst vs))
    (hd : Dens B av H l' ws) : EnvOk B (mks M) κ H0 av0 av σ (L2.upd H a (.lst ws)) (ρ.set i (some (.lst l'))) :=
  ok.put hi e es n0 ha ho trivial ⟨a, ws, rfl, n0, ha, upd_same, Dens.upd ha ho trivial _ _ hd⟩
/-- the reading of an own list's name -/
theorem own_name (C : Cn L k B N sc fc hot X W) (i : Nat) {x : Str} {p : Pos} (hi : N[i]? = some x) (hv : Vis sc x) (hd : (x == ("__debug__" : Str)) = false) (hcd : (x == ("__classdict__" : Str)) = false) : PE X (.Name x p) (tVar i) :=
  pe_var (by rw [C.hN]; exact hi) (C.vis hv) hd hcd

theorem evs_one {cl : CallT} {e : E} : evs cl (.cons e .nil) ρ = (ev cl e ρ).bind fun d => .ok [d] := by
  rw [evs]
  rfl
theorem s_app (C : Cn L k B N sc fc hot X W) (i : Nat) {x : Str} {e : Expr} {ê : E} {p ap cp pos : Pos} (h : AJ L k B (mks M) X W .v [e] (.cons ê .nil)) (hi : N[i]? = some x := by rfl) (hm : i ∈ M := by decide) (hx : ∀ j ∈ J.x, j ∈ M := by decide)
    (hv : Vis sc x := by first | exact Or.inl rfl | exact Or.inr (Or.inl rfl) | exact Or.inr (Or.inr rfl)) (hd : (x == ("__debug__" : Str)) = false := by decide) (hcd : (x == ("__classdict__" : Str)) = false := by decide)
    (hbase : attributeBase (.Name x p) "append" X.env (eval (.Name x p) X.env) = eval (.Name x p) X.env := by rfl)
    (hfew : ((backTo cp (starEach [e] X.env)).all (fun x => !x.1) && (backToKw cp (keywordEach [] X.env)).all (fun x => x.1.isSome)
      && decide ([e].length + ([] : List Keyword).length + (if ([] : List Keyword).isEmpty then 0 else 1) < 30)) = true := by rfl)
    (hline : (ap.endLine == cp.line) = true := by rfl) (h1 : starEach [e] X.env = (false, eval e X.env) :: starEach [] X.env := by rfl)
    (hsw : swapsWith (.Call (.Attribute (.Name x p) "append" ap) [e] [] cp) none pos.line X.env = pure false := by rfl) :
    SJ L k B M M J X W (.Expr (.Call (.Attribute (.Name x p) "append" ap) [e] [] cp) pos) (.app i ê) :=
  PS.imp (ps_expr (pe_bm PySem.F.plainAttrs_list PySem.F.slot_list_append PySem.F.type_list_append mt_append (own_name C i hi hv hd hcd) h hbase hfew hline h1 rfl) hsw) fun D' σ H q => by
    obtain ⟨κ, H0, av0, av, ρ, ok, q⟩ := q
    have q' : Fin B M J κ H0 av0 W D' (match ρ[i]? with
      | some (some (.lst l)) => SR.of (ev (run L.T k) ê ρ) ρ fun d => if lenOk (l.length + 1) then .nx (ρ.set i (some (.lst (l ++ [d])))) else .bad
      | _ => .bad) := q
    cases e : ρ[i]? with
    | none => rw [e] at q'; exact q'.elim
    | some o =>
      rw [e] at q'
      cases o with
      | none => exact q'.elim
      | some d =>
        cases d <;> first | (exact False.elim q'; done) | skip
        rename_i l
        have q2 : Fin B M J κ H0 av0 W D' (SR.of (ev (run L.T k) ê ρ) ρ fun d => if lenOk (l.length + 1) then .nx (ρ.set i (some (.lst (l ++ [d])))) else .bad) := q'
        obtain ⟨a, vs, e1, n0, ha, ho, hd⟩ := own_lst ok hm e
        refine ⟨.ref a, e1, .inl ⟨rfl, vs, SqL.of ho⟩, κ, H0, av0, av, ρ, ok, ?_⟩
        rw [evs_one]
        cases e2 : ev (run L.T k) ê ρ with
        | bad => rw [e2] at q2; exact q2.elim
        | exn x => rw [e2] at q2; exact fin_ex ok hx q2
        | ok d =>
          rw [e2] at q2
          rintro us H1 s ⟨v, r, rfl, dv, rfl⟩
          simp only [SR.of_ok] at q2
          cases e3 : lenOk (l.length + 1) with
          | false => rw [e3] at q2; exact False.elim q2
          | true =>
            rw [e3] at q2
            have hlen := lenOk_le e3
            have ok1 := ok.mono s
            exact ⟨a, vs, v, rfl, rfl, s _ _ ho, by rw [hd.length]; omega, q2 σ _ av (own_put ok1 hm e e1 n0 ha (s _ _ ho) ((hd.same s).append ⟨v, [], rfl, dv, rfl⟩))⟩
/-- x.pop(), dropped -/
theorem s_pop (C : Cn L k B N sc fc hot X W) (i : Nat) {x : Str} {p ap cp pos : Pos} (hi : N[i]? = some x := by rfl) (hm : i ∈ M := by decide)
    (hv : Vis sc x := by first | exact Or.inl rfl | exact Or.inr (Or.inl rfl) | exact Or.inr (Or.inr rfl)) (hd : (x == ("__debug__" : Str)) = false := by decide) (hcd : (x == ("__classdict__" : Str)) = false := by decide)
    (hbase : attributeBase (.Name x p) "pop" X.env (eval (.Name x p) X.env) = eval (.Name x p) X.env := by rfl) (hline : (ap.endLine == cp.line) = true := by rfl)
    (hsw : swapsWith (.Call (.Attribute (.Name x p) "pop" ap) [] [] cp) none pos.line X.env = pure false := by rfl) :
    SJ L k B M M J X W (.Expr (.Call (.Attribute (.Name x p) "pop" ap) [] [] cp) pos) (.popL i) :=
  PS.imp (ps_expr (pe_bm0 PySem.F.plainAttrs_list PySem.F.slot_list_pop PySem.F.type_list_pop mt_pop (own_name C i hi hv hd hcd) hbase hline) hsw) fun D' σ H q => by
    obtain ⟨κ, H0, av0, av, ρ, ok, q⟩ := q
    have q' : Fin B M J κ H0 av0 W D' (match ρ[i]? with
      | some (some (.lst l)) => if l.isEmpty then .bad else .nx (ρ.set i (some (.lst l.dropLast)))
      | _ => .bad) := q
    cases e : ρ[i]? with
    | none => rw [e] at q'; exact q'.elim
    | some o =>
      rw [e] at q'
      cases o with
      | none => exact q'.elim
      | some d =>
        cases d <;> first | (exact False.elim q'; done) | skip
        rename_i l
        have q2 : Fin B M J κ H0 av0 W D' (if l.isEmpty then .bad else .nx (ρ.set i (some (.lst l.dropLast)))) := q'
        obtain ⟨a, vs, e1, n0, ha, ho, hd⟩ := own_lst ok hm e
        cases l with
        | nil => exact False.elim q2
        | cons d l =>
          have hl := hd.length
          have : vs.length - 1 < vs.length := by rw [hl, List.length_cons]; omega
          exact ⟨.ref a, e1, .inl ⟨rfl, vs, SqL.of ho⟩, a, vs, vs[vs.length - 1], rfl, rfl, ho, List.getElem?_eq_getElem this, q2 σ _ av (own_put ok hm e e1 n0 ha ho hd.dropLast)⟩
/-- x[e1] = e, x an own list -/
theorem s_setIx (C : Cn L k B N sc fc hot X W) (i : Nat) {x : Str} {e e1 : Expr} {ê ê1 : E} {p sp pos : Pos} (h : EJ L k B (mks M) X W .v e ê) (h1 : EJ L k B (mks M) X W .v e1 ê1) (hi : N[i]? = some x := by rfl) (hm : i ∈ M := by decide) (hx : ∀ j ∈ J.x, j ∈ M := by decide)
    (hv : Vis sc x := by first | exact Or.inl rfl | exact Or.inr (Or.inl rfl) | exact Or.inr (Or.inr rfl)) (hd : (x == ("__debug__" : Str)) = false := by decide) (hcd : (x == ("__classdict__" : Str)) = false := by decide)
    (ha : ∀ v, assign (.Subscript (.Name x p) e1 sp) X.env v = (do
      let ov ← holding [v] (eval (.Name x p) X.env)
      let iv ← holding [v, ov] (eval e1 X.env)
      standAt sp
      holding [v, ov, iv] (setItem ov iv v)
      release [v, ov, iv] []) := by intro _; rfl)
    (hs : swapsWithSole [.Subscript (.Name x p) e1 sp] e pos.line X.env = pure false := by rfl) (hw : swappedStores [.Subscript (.Name x p) e1 sp] e X.env = pure none := by rfl)
    (h2 : (assignEach [.Subscript (.Name x p) e1 sp] X.env).map (·.2) = [assign (.Subscript (.Name x p) e1 sp) X.env] := by rfl) :
    SJ L k B M M J X W (.Assign [.Subscript (.Name x p) e1 sp] e pos) (.setIx i ê1 ê) :=
  PS.imp (ps_asg h (pg_sub (PE.imp (t' := fun σ H Q => (∃ l a vs, ∃ κ H0 av0 av ρ, EnvOk B (mks M) κ H0 av0 av σ H ρ ∧ ρ[i]? = some (some (.lst l)) ∧ σ[i]? = some (some (.ref a)) ∧ H a = some (.lst vs) ∧ Dens B av H l vs ∧ Q (.ref a) H)) (own_name C i hi hv hd hcd) fun σ H Q q => by
      obtain ⟨l, a, vs, κ, H0, av0, av, ρ, ok, e1, e2, e3, e4, q⟩ := q
      exact ⟨_, e2, q⟩) h1 set_list ha) hs hw h2) fun D' σ H q => by
    obtain ⟨κ, H0, av0, av, ρ, ok, q⟩ := q
    have q' : Fin B M J κ H0 av0 W D' (match ρ[i]? with
      | some (some (.lst l)) => SR.of (ev (run L.T k) ê ρ) ρ fun d => SR.of (ev (run L.T k) ê1 ρ) ρ fun z => (match z with
        | .int j => (match L2.ixN l.length j with
          | some n => .nx (ρ.set i (some (.lst (l.set n d))))
          | none => .bad)
        | _ => .bad)
      | _ => .bad) := q
    cases e : ρ[i]? with
    | none => rw [e] at q'; exact q'.elim
    | some o =>
      rw [e] at q'
      cases o with
      | none => exact q'.elim
      | some d =>
        cases d <;> first | (exact False.elim q'; done) | skip
        · rename_i l
          have q2 : Fin B M J κ H0 av0 W D' (SR.of (ev (run L.T k) ê ρ) ρ fun d => SR.of (ev (run L.T k) ê1 ρ) ρ fun z => (match z with
            | .int j => (match L2.ixN l.length j with
              | some n => .nx (ρ.set i (some (.lst (l.set n d))))
              | none => .bad)
            | _ => .bad)) := q'
          obtain ⟨a, vs, e1, n0, ha, ho, hd⟩ := own_lst ok hm e
          refine ⟨κ, H0, av0, av, ρ, ok, fin_of ok hx q2 fun d v H1 s dv q3 => ?_⟩
          have ok1 := ok.mono s
          refine ⟨l, a, vs, κ, H0, av0, av, ρ, ok1, e, e1, s _ _ ho, hd.same s, κ, H0, av0, av, ρ, ok1, fin_of ok1 hx q3 fun z zv H2 s2 dz q4 => ?_⟩
          cases z <;> first | (exact False.elim q4; done) | skip
          rename_i j
          cases dz
          have q5 : Fin B M J κ H0 av0 W D' (match L2.ixN l.length j with
              | some n => .nx (ρ.set i (some (.lst (l.set n d))))
              | none => .bad) := q4
          cases e5 : L2.ixN l.length j with
          | none => rw [e5] at q5; exact False.elim q5
          | some n =>
            rw [e5] at q5
            have ok2 := ok1.mono s2
            have ss := s.trans s2
            exact ⟨a, vs, j, n, rfl, rfl, ss _ _ ho, by rw [hd.length]; exact e5, q5 σ _ av (own_put ok2 hm e e1 n0 ha (ss _ _ ho) ((hd.same ss).set _ (dv.same s2)))⟩
/-! ### a pair of names set, a name set anew by an operation, a comprehension on one line -/
theorem s_par (C : Cn L k B N sc fc none X W) (i j : Nat) {x y : Str} {a b : Expr} {ês : Es} {px py pt pos : Pos} {kt k2 pt2} (ha : AJ L k B (mks M) X W .v [a, b] ês) (hi : N[i]? = some x := by rfl) (hj : N[j]? = some y := by rfl) (hij : i ≠ j := by decide)
    (hx : sc.names.lookup x = some .local := by rfl) (hy : sc.names.lookup y = some .local := by rfl) (hmi : i ∉ M := by decide) (hmj : j ∉ M := by decide) (hJ : ∀ j ∈ J.x, j ∈ M := by decide)
    (hw : swappedStores [.Tuple [.Name x px, .Name y py] kt pt] (.Tuple [a, b] k2 pt2) X.env = pure (some [x, y]) := by rfl)
    (hs : swapsWithSole [.Tuple [.Name x px, .Name y py] kt pt] (.Tuple [a, b] k2 pt2) pos.line X.env = pure false := by rfl) :
    SJ L k B M M J X W (.Assign [.Tuple [.Name x px, .Name y py] kt pt] (.Tuple [a, b] k2 pt2) pos) (.set (.tp (.cons (.nm i) (.cons (.nm j) .nil))) (.tup ês)) :=
  PS.imp (ps_par (C.calm rfl) (by rw [C.hN]; exact C.nd) (by rw [C.hN]; exact hi) (by rw [C.hN]; exact hj) hij (by rw [C.hsc]; exact hx) (by rw [C.hsc]; exact hy) ha hw hs) fun D' σ H q => by
    obtain ⟨κ, H0, av0, av, ρ, ok, q⟩ := q
    have q' : Fin B M J κ H0 av0 W D' (SR.of ((evs (run L.T k) ês ρ).bind fun l => if lenOk l.length then .ok (.tup l) else .bad) ρ fun d => oS (setT (.tp (.cons (.nm i) (.cons (.nm j) .nil))) d ρ)) := q
    refine ⟨κ, H0, av0, av, ρ, ok, ?_⟩
    cases e : evs (run L.T k) ês ρ with
    | bad => rw [e] at q'; exact q'.elim
    | exn x => rw [e] at q'; exact fin_ex ok hJ q'
    | ok l =>
      rw [e] at q'
      rintro vs H1 s dl
      simp only [R.bind_ok] at q'
      cases e2 : lenOk l.length with
      | false => rw [e2] at q'; exact False.elim q'
      | true =>
        rw [e2] at q'
        have q2 : Fin B M J κ H0 av0 W D' (oS (setTs (.cons (.nm i) (.cons (.nm j) .nil)) l ρ)) := q'
        cases l with
        | nil => exact False.elim q2
        | cons d1 l =>
          cases l with
          | nil => exact False.elim q2
          | cons d2 l =>
            cases l with
            | cons _ _ => exact False.elim q2
            | nil =>
              obtain ⟨v1, r, rfl, h1, v2, r2, rfl, h2, rfl⟩ := dl
              have ok1 := ok.mono s
              exact ⟨v1, v2, rfl, q2 _ H1 av ((ok1.set (mks_false.mpr hmi) h1).set (mks_false.mpr hmj) h2)⟩
end
end Pv
set_option Elab.async false
set_option linter.all false
set_option maxRecDepth 100000
set_option maxHeartbeats 2000000
/-! Pv14: isinstance, lent arguments, a comprehension on one line. -/
namespace Pv
open PySem PySem.Spec PyProof.Rows L2

section
variable {L : Lw} {k : Nat} {B : Bs} {N : List Str} {sc : Scope} {fc : List Str} {hot : Option Nat} {X : Cx} {W : WX} {M : Nat → Bool} {m : Md} {J : JS}
variable {κ κ' : List (D × V)} {H0 H H' H1 : Hp} {av0 av : Addr → Prop} {σ : L2.St} {ρ : Env}

/-! ### isinstance -/
theorem SqL.tyx {K : PySem.W.Frag} {a : Addr} {vs : List V} (h : SqL K H a vs) : TyX K H (.ref a) (.type "list") := by
  rcases h with h | ⟨o, its, n, h1, h2, _⟩
  · rcases h with h | ⟨o, h⟩
    · exact .base (.lst h)
    · exact .base (.frz h)
  · exact .kList h1 h2
theorem SqT.tyx {K : PySem.W.Frag} {a : Addr} {vs : List V} (h : SqT K H a vs) : TyX K H (.ref a) (.type "tuple") := by
  rcases h with h | ⟨o, its, n, h1, h2, _⟩
  · rcases h with h | ⟨o, h⟩
    · exact .base (.tup h)
    · exact .fTuple h
  · exact .kTuple h1 h2
theorem DenB.tyx {d : D} {v : V} {n : String} (h : DenB B av H d v) (e : kindD d = some n) : TyX B.K H v (.type n) := by
  cases d <;> first | (cases e; done) | skip
  · cases e; cases h; exact .base .non
  · cases e; cases h; exact .base (.bl _)
  · cases e; cases h; exact .base (.int _)
  · cases e; cases h; exact .base (.str _)
  · cases e; obtain ⟨a, vs, rfl, q, _⟩ := h; exact SqT.tyx q
  · cases e; obtain ⟨a, vs, rfl, q, _⟩ := h; exact SqL.tyx q
  · cases e; obtain ⟨a, kvs, rfl, q, _⟩ := h; exact .base (.dK q)
theorem kindD_mem {d : D} {n : String} (e : kindD d = some n) : n ∈ kindsD := by
  cases d <;> first | (cases e; done) | (cases e; decide)
def tyTab (t : String) : Bool := kindsD.all fun n => kitB n t == some (tyB n t)
theorem tyTab_ok {K : PySem.W.Frag} {d : D} {n t : String} (h : tyTab t = true) (e : kindD d = some n) : PySem.W.kitOne K (.type n) (.type t) = some (tyB n t) :=
  kit_ty (beq_iff_eq.mp (List.all_eq_true.mp h n (kindD_mem e)))
theorem tyAny_ok {K : PySem.W.Frag} {d : D} {n : String} (e : kindD d = some n) : ∀ {ts : List String}, (∀ t ∈ ts, tyTab t = true) → PySem.W.kitAny K (.type n) (ts.map Value.type) = some (ts.any fun t => tyB n t)
  | [], _ => rfl
  | t :: ts, h => by
    have ih := tyAny_ok (K := K) e (ts := ts) fun t z => h t (List.mem_cons_of_mem _ z)
    refine kitAny_cons (b := tyB n t) (tyTab_ok (h t List.mem_cons_self) e) (fun z => ?_) fun z => ?_
    · rw [List.any_cons, z, Bool.false_or]; exact ih
    · rw [List.any_cons, z, Bool.true_or]
theorem e_isi (C : Cn L k B N sc fc hot X W) {x T : Str} {t : String} {e : Expr} {ê : E} {p p2 pos : Pos} (h : EJ L k B M X W .b e ê) (hx : x = "isinstance" := by rfl) (ht : bootBuiltins T = some (.type t) := by decide +kernel) (hk : tyTab t = true := by decide +kernel)
    (hg : sc.names.lookup x = some .globalImplicit := by rfl) (hgT : sc.names.lookup T = some .globalImplicit := by rfl) (hn : L.nms x = some .free := by rfl) (hnT : L.nms T = some .free := by rfl) (hnm : T ≠ "__name__" := by decide) (hdT : (T == ("__debug__" : Str)) = false := by decide)
    (h1 : starEach [e, .Name T p2] X.env = (false, eval e X.env) :: starEach [.Name T p2] X.env := by rfl) (h2 : (backTo pos (starEach [.Name T p2] X.env)).any (·.1) = false := by rfl) (h3 : starEach [.Name T p2] X.env = (false, eval (.Name T p2) X.env) :: starEach [] X.env := by rfl) :
    EJ L k B M X W m (.Call (.Name x p) [e, .Name T p2] [] pos) (.isi ê [t]) := by
  subst hx
  have hfree : X.mg "isinstance" = none := C.nm _ _ hn
  have hfreeT : X.mg T = none := C.nm _ _ hnT
  refine EJ.v (PE.imp (pe_callB call_isi (C.gl hg) hfree (by decide +kernel) (pa_cons h (pa_cons (pe_bltn (v := .ty t) (C.gl hgT) hfreeT ht rfl hnm hdT) pa_nil h3) h1) (by decide) (by decide) h1 h2) fun σ H Q q => ?_)
  obtain ⟨κ, H0, av0, av, ρ, ok, q⟩ := q
  refine ⟨κ, H0, av0, av, ρ, ok, Pst.bind (f := isiD [t]) q fun d v H1 s1 d1 q1 => ?_⟩
  unfold isiD at q1
  cases e : kindD d with
  | none => rw [e] at q1; exact q1.elim
  | some n =>
    rw [e] at q1
    exact ⟨v, .ty t, .type n, .type t, _, rfl, .ty t, by rw [C.hK]; exact DenB.tyx d1 e, tyTab_ok hk e, q1 _ H1 s1 (DenR.scal (by simp [Den]) rfl)⟩
theorem clsv_ty : ∀ ts : List String, Paired ClsV (ts.map V.ty) (ts.map Value.type)
  | [] => .nil
  | t :: ts => .cons (.ty t) (clsv_ty ts)
theorem safeD_cases {fr : Bool} {d : D} (z : safeD fr d = true) (n : noL d = false) : fr = true ∧ ∃ l, d = .lst l ∧ noLs l = true := by
  unfold safeD at z
  rw [n, Bool.false_or] at z
  obtain ⟨z2, z3⟩ := Bool.and_eq_true_iff.mp z
  refine ⟨z2, ?_⟩
  cases d <;> first | (cases z3; done) | exact ⟨_, rfl, z3⟩
/-- a tuple of built-in types -/
theorem a_ty0 : PA X [] (fun σ H Q => Q (([] : List String).map V.ty) H) := PA.imp pa_nil fun _ _ _ q => q
theorem a_ty (C : Cn L k B N sc fc hot X W) {T : Str} {t : String} {ts : List String} {es : List Expr} {p2 : Pos} (h : PA X es (fun σ H Q => Q (ts.map V.ty) H)) (ht : bootBuiltins T = some (.type t) := by decide +kernel)
    (hgT : sc.names.lookup T = some .globalImplicit := by rfl) (hnT : L.nms T = some .free := by rfl) (hnm : T ≠ "__name__" := by decide) (hdT : (T == ("__debug__" : Str)) = false := by decide)
    (h1 : starEach (.Name T p2 :: es) X.env = (false, eval (.Name T p2) X.env) :: starEach es X.env := by rfl) : PA X (.Name T p2 :: es) (fun σ H Q => Q ((t :: ts).map V.ty) H) :=
  PA.imp (pa_cons (pe_bltn (v := .ty t) (C.gl hgT) (C.nm _ _ hnT : X.mg T = none) ht rfl hnm hdT) h h1) fun _ _ _ q => q
theorem e_isiT (C : Cn L k B N sc fc hot X W) {x : Str} {ts : List String} {e : Expr} {es : List Expr} {ê : E} {p p2 pos : Pos} {j : Nat} (h : EJ L k B M X W .b e ê) (hts : PA X es (fun σ H Q => Q (ts.map V.ty) H)) (hx : x = "isinstance" := by rfl) (hk : (ts.all tyTab) = true := by decide +kernel)
    (hg : sc.names.lookup x = some .globalImplicit := by rfl) (hn : L.nms x = some .free := by rfl) (hl : ts.length < 1000 := by decide)
    (h1 : starEach [e, .Tuple es j p2] X.env = (false, eval e X.env) :: starEach [.Tuple es j p2] X.env := by rfl) (h2 : (backTo pos (starEach [.Tuple es j p2] X.env)).any (·.1) = false := by rfl) (h3 : starEach [.Tuple es j p2] X.env = (false, eval (.Tuple es j p2) X.env) :: starEach [] X.env := by rfl) :
    EJ L k B M X W m (.Call (.Name x p) [e, .Tuple es j p2] [] pos) (.isi ê ts) := by
  subst hx
  have hfree : X.mg "isinstance" = none := C.nm _ _ hn
  refine EJ.v (PE.imp (pe_callB call_isiT (C.gl hg) hfree (by decide +kernel) (pa_cons h (pa_cons (pe_tup hts) pa_nil h3) h1) (by decide) (by decide) h1 h2) fun σ H Q q => ?_)
  obtain ⟨κ, H0, av0, av, ρ, ok, q⟩ := q
  refine ⟨κ, H0, av0, av, ρ, ok, Pst.bind (f := isiD ts) q fun d v H1 s1 d1 q1 => ?_⟩
  unfold isiD at q1
  cases e : kindD d with
  | none => rw [e] at q1; exact q1.elim
  | some n =>
    rw [e] at q1
    refine ⟨by rw [List.length_map]; exact Nat.le_of_lt (Nat.lt_trans hl (by decide)), fun p np => ?_⟩
    have s2 : Same H1 (L2.upd H1 p (.tup (ts.map V.ty))) := Same.upd np
    refine ⟨v, p, ts.map V.ty, .type n, ts.map Value.type, _, rfl, upd_same, ?_, by rw [C.hK]; exact DenB.tyx (DenB.same d1 s2) e, tyAny_ok e fun t ht => List.all_eq_true.mp hk t ht, q1 _ _ (s1.trans s2) (DenR.scal (by simp [Den]) rfl)⟩
    exact clsv_ty ts

/-! ### own lists lent to a def -/
theorem DensB.lend : ∀ {l : List D} {vs : List V} {ws : List V}, DensB B av H l vs → (∀ v ∈ vs, v ∈ ws) → Dens B (fun b => av b ∧ V.ref b ∉ ws) H l vs
  | [], vs, ws, h, hs => h
  | d :: l, vs, ws, h, hs => by
    obtain ⟨v, r, rfl, h1, h2⟩ := h
    have wk : ∀ b, (av b ∧ V.ref b ∉ ws) → av b := fun b z => z.1
    refine ⟨v, r, rfl, ?_, DensB.lend h2 fun u hu => hs u (List.mem_cons_of_mem _ hu)⟩
    have hv := hs v List.mem_cons_self
    cases d with
    | lst l =>
      obtain ⟨a, us, rfl, q, r⟩ := h1
      refine ⟨a, us, rfl, ?_, r.weak wk⟩
      rcases q with q | q
      · exact .inl ⟨fun z => z.2 hv, q⟩
      · exact .inr q
    | ins c ns l =>
      obtain ⟨a, dx, fs, rfl, q, z, r⟩ := h1
      exact ⟨a, dx, fs, rfl, fun z => z.2 hv, q, z, r.weak wk⟩
    | dct ks l =>
      obtain ⟨a, kvs, rfl, q, z, r⟩ := h1
      exact ⟨a, kvs, rfl, fun z => z.2 hv, q, z, r.weak wk⟩
    | _ => exact Den.weak (B := B) (av := av) h1 wk
theorem e_callB (C : Cn L k B N sc fc none X W) (f : Nat) {fi : FI} {x : Str} {p pos : Pos} {e : Expr} {es : List Expr} {ês : Es} (ha : AJ L k B M X W .b (e :: es) ês) (hf : L.T f = some fi := by rfl) (hn : fi.name = x := by rfl) (hs : fi.self = none := by rfl) (hi : fi.init = none := by rfl)
    (hg : sc.names.lookup x = some .globalImplicit := by rfl) (hd : (x == ("__debug__" : Str)) = false := by decide)
    (h1 : starEach (e :: es) X.env = (false, eval e X.env) :: starEach es X.env := by rfl) (h2 : (backTo pos (starEach es X.env)).any (·.1) = false := by rfl) :
    EJ L k B M X W m (.Call (.Name x p) (e :: es) [] pos) (.callB f fi.fr ês) := by
  obtain ⟨a, hu, hk, hF⟩ := C.fn rfl f fi hf hs hi
  have hc := C.callV hF
  rw [hn] at hu
  refine EJ.v ⟨fun pins s σ H Q I q => ?_⟩
  obtain ⟨κ, H0, av0, av, ρ, ok, q⟩ := q
  have q' : Pst B W av σ H (Md.f.P B av H) Q ((evs (run L.T k) ês ρ).bind fun l => safeR fi.fr (run L.T k f l)) := q
  refine wpAny_Call_Name_kw (ld_glob I (C.gl hg) hu ?_ hd)
  refine PySem.W.callWith_K (h₀ := X.base) I.ok.mod.kin hk (thn (ha.run pos pins s σ H (fun vs H1 => SpC L.T k B f fi.fr vs H1 Q (fun c d H' => W c d σ H')) I
    ⟨κ, H0, av0, av, ρ, ok, Pst.bind q' fun l vs H1 s1 d1 q1 => ?_⟩) fun us s1 h => ?_) h1 h2
  · have trk := (ok.mono s1).trk
    have q1' := q1.mono s1 fun a b H' _ (p : Md.f.P B av H1 a b H') => Md.from (m := .f) s1 p
    refine ⟨fun b => av b ∧ V.ref b ∉ vs, l, fun b h => trk b h.1, DensB.lend d1 fun v h => h, ?_⟩
    cases e : run L.T k f l with
    | bad => rw [e] at q1'; exact q1'.elim
    | exn x =>
      rw [e] at q1'
      have q2 : Pst B W av σ H1 (Md.f.P B av H1) Q (if noLs x.l then .exn x else .bad) := q1'
      cases z : noLs x.l with
      | false => rw [z] at q2; exact q2.elim
      | true =>
        rw [z] at q2
        rintro cv dd H' s' ⟨e0, e1, h⟩
        refine q2 cv dd H' s' ⟨e0, e1, ?_⟩
        rcases h with h | ⟨dx, fs, z1, z2, z3, r⟩
        · exact .inl h
        · exact .inr ⟨dx, fs, z1, z2, z3, Dens.noL _ _ z r⟩
    | ok d =>
      rw [e] at q1'
      have q2 : Pst B W av σ H1 (Md.f.P B av H1) Q (if safeD fi.fr d then .ok d else .bad) := q1'
      cases z : safeD fi.fr d with
      | false => rw [z] at q2; exact q2.elim
      | true =>
        rw [z] at q2
        rintro v H' s' ⟨p1, p2⟩
        refine q2 v H' s' ?_
        show DenR B av H1 H' d v
        cases z1 : noL d with
        | true => exact ⟨Den.noL d v z1 p1, fun z2 => by cases d <;> first | (cases z2; done) | (simp [noL] at z1)⟩
        | false =>
          obtain ⟨z2, l, rfl, z3⟩ := safeD_cases z z1
          obtain ⟨a, ws, e1, n, q3, r⟩ := (p2 z2).2 rfl
          have f : DenF B av H1 H' (.lst l) v := ⟨a, ws, e1, n, q3, Dens.noL _ _ z3 r⟩
          exact ⟨f.den trk, fun _ => f⟩
  · obtain ⟨vs, H1, I1, r1, q1⟩ := h
    exact ⟨I1.kIn, hc pins σ H1 s1 Q us vs I1 r1 q1⟩

/-! ### y = [..] on one line -/
theorem rd_v {ê : E} {Q Q' : VK} (q : rd L k B M W .v ê σ H Q) (i : ∀ v H, Q v H → Q' v H) : rd L k B M W .f ê σ H Q' := by
  obtain ⟨κ, H0, av0, av, ρ, ok, q⟩ := q
  refine ⟨κ, H0, av0, av, ρ, ok, ?_⟩
  cases e : ev (run L.T k) ê ρ with
  | ok d => rw [e] at q; exact fun v H' s p => i _ _ (q v H' s p.1)
  | exn x => rw [e] at q; exact q
  | bad => rw [e] at q; exact q
theorem rdG_nm {i : Nat} (hm : M i = false) {v : V} {Q : L2.St → Hp → Prop} (q : rdG B M (.nm i) v σ H Q) : gName i v σ H Q := by
  obtain ⟨κ, H0, av0, av, ρ, d, ρ', ok, hd, hs, q⟩ := q
  have hs' : some (ρ.set i (some d)) = some ρ' := hs
  cases hs'
  exact q _ (ok.set hm hd) Upd.set
theorem lc1 (C : Cn L k B N sc fc none X W) (i : Nat) (own : List (Str × Nat)) {y : Str} {py spos : Pos} {elt tg iter : Expr} {ifs : List Expr} {scope : Scope} {pos : Pos} {t : Tg} {it : Pv.It} {cs : Es} {ê : E} (hi : IJ L k B M X W tg iter it)
    (hg : ∀ {X' : Cx}, Cn L k B N (relS scope sc) (cellsOf scope) none X' W0 → GJ B M X' tg t) (ht : ∀ {X' : Cx}, Cn L k B N (relS scope sc) (cellsOf scope) none X' W0 → QJ L k B M X' W0 ifs cs)
    (he : ∀ {X' : Cx}, Cn L k B N (relS scope sc) (cellsOf scope) none X' W0 → EJ L k B M X' W0 .v elt ê) (hb : blkC N sc scope own = true) (hs : ∀ x, foldedSetIterable iter X.env x = pure x)
    (hN : N[i]? = some y) (hy : sc.names.lookup y = some .local) (hkd : sc.kind = .function) (hl : (py.line == pos.line) = true) (ha : (scope.names.any fun (n, k) => n == y && (k == .local || k == .cell)) = false) :
    PS X (.Assign [.Name y py] (.ListComp elt [⟨tg, iter, ifs, 0⟩] scope pos) spos) (tAsg (tLc (rdI L k B M W it) (rdG B M t) (rdTs L k B M W0 cs) (rd L k B M W0 .v ê) (own.map (·.2))) (gName i)) :=
  ps_setLc (C.calm rfl) (by rw [C.hN]; exact C.nd) (by rw [C.hN]; exact hN) (by rw [C.hsc]; exact hy) (sw_true (by rw [C.hsc]; exact hkd) (by rw [C.hsc]; exact hy) hl ha) hi (by rw [C.hN, C.hsc]; exact blkOk_by hb)
    (fun s H c cl fp => hg (C.blk s H c cl fp scope)) (fun s H c cl fp => ht (C.blk s H c cl fp scope)) (fun s H c cl fp => he (C.blk s H c cl fp scope)) hs
theorem s_setLc {M : List Nat} (C : Cn L k B N sc fc none X W) (i : Nat) (own : List (Str × Nat)) {y : Str} {py spos : Pos} {elt tg iter : Expr} {ifs : List Expr} {scope : Scope} {pos : Pos} {t : Tg} {it : Pv.It} {cs : Es} {ê : E} (hi : IJ L k B (mks M) X W tg iter it)
    (hg : ∀ {X' : Cx}, Cn L k B N (relS scope sc) (cellsOf scope) none X' W0 → GJ B (mks M) X' tg t) (ht : ∀ {X' : Cx}, Cn L k B N (relS scope sc) (cellsOf scope) none X' W0 → QJ L k B (mks M) X' W0 ifs cs)
    (he : ∀ {X' : Cx}, Cn L k B N (relS scope sc) (cellsOf scope) none X' W0 → EJ L k B (mks M) X' W0 .v elt ê) (hb : blkC N sc scope own = true := by decide +kernel) (hsl : ∀ j ∈ tgSl t, j ∈ own.map (·.2) := by decide +kernel)
    (hs : ∀ x, foldedSetIterable iter X.env x = pure x := by intro _; rfl) (hJ : ∀ j ∈ J.x, j ∈ M := by decide) (hm : i ∉ M := by decide)
    (hN : N[i]? = some y := by rfl) (hy : sc.names.lookup y = some .local := by rfl) (hkd : sc.kind = .function := by rfl) (hl : (py.line == pos.line) = true := by rfl) (ha : (scope.names.any fun (n, k) => n == y && (k == .local || k == .cell)) = false := by rfl) :
    SJ L k B M M J X W (.Assign [.Name y py] (.ListComp elt [⟨tg, iter, ifs, 0⟩] scope pos) spos) (.set (.nm i) (.lc ê t it cs (own.map (·.2)))) :=
  s_set_of (PS.imp (lc1 C i own hi hg ht he hb hs hN hy hkd hl ha) fun D' σ H q => lc_imp hsl (rd_v q fun v H q => rdG_nm (mks_false.mpr hm) q)) hJ
theorem s_setOLc {M : List Nat} (C : Cn L k B N sc fc none X W) (i : Nat) (own : List (Str × Nat)) {y : Str} {py spos : Pos} {elt tg iter : Expr} {ifs : List Expr} {scope : Scope} {pos : Pos} {t : Tg} {it : Pv.It} {cs : Es} {ê : E} (hi : IJ L k B (mks M) X W tg iter it)
    (hg : ∀ {X' : Cx}, Cn L k B N (relS scope sc) (cellsOf scope) none X' W0 → GJ B (mks M) X' tg t) (ht : ∀ {X' : Cx}, Cn L k B N (relS scope sc) (cellsOf scope) none X' W0 → QJ L k B (mks M) X' W0 ifs cs)
    (he : ∀ {X' : Cx}, Cn L k B N (relS scope sc) (cellsOf scope) none X' W0 → EJ L k B (mks M) X' W0 .v elt ê) (hb : blkC N sc scope own = true := by decide +kernel) (hsl : ∀ j ∈ tgSl t, j ∈ own.map (·.2) := by decide +kernel)
    (hs : ∀ x, foldedSetIterable iter X.env x = pure x := by intro _; rfl) (hJ : ∀ j ∈ J.x, j ∈ M := by decide)
    (hN : N[i]? = some y := by rfl) (hy : sc.names.lookup y = some .local := by rfl) (hkd : sc.kind = .function := by rfl) (hl : (py.line == pos.line) = true := by rfl) (ha : (scope.names.any fun (n, k) => n == y && (k == .local || k == .cell)) = false := by rfl) :
    SJ L k B M (i :: M) J X W (.Assign [.Name y py] (.ListComp elt [⟨tg, iter, ifs, 0⟩] scope pos) spos) (.setO i (.lc ê t it cs (own.map (·.2)))) :=
  s_setO_of (PS.imp (lc1 C i own hi hg ht he hb hs hN hy hkd hl ha) fun D' σ H q => lc_imp hsl q) hJ
end
end Pv
set_option Elab.async false
set_option linter.all false
set_option maxRecDepth 100000
set_option maxHeartbeats 2000000
/-! Pv15: raise, try, the handled exception. -/
namespace Pv
open PySem PySem.Spec PyProof.Rows L2

section
variable {L : Lw} {k : Nat} {B : Bs} {N : List Str} {sc : Scope} {fc : List Str} {hot : Option Nat} {X : Cx} {W : WX} {M M1 M2 M' : List Nat} {m : Md} {J : JS}
variable {κ κ' : List (D × V)} {H0 H H' H1 : Hp} {av0 av : Addr → Prop} {σ : L2.St} {ρ : Env} {D' : Ends} {M0 : Nat → Bool}

/-! ### raise -/
theorem s_rais0 (C : Cn L k B N sc fc none X W) {c : Str} {p pos pos' : Pos} (hc : (c, none) ∈ L.xs := by decide) (hg : sc.names.lookup c = some .globalImplicit := by rfl) (hx : ∀ j ∈ J.x, j ∈ M := by decide) (hd : (c == ("__debug__" : Str)) = false := by decide) :
    SJ L k B M M' J X W (.Raise (some (.Call (.Name c p) [] [] pos)) none pos') (.rais c [] .nil) := by
  have O := C.xo c hc
  have gC := C.xg _ hc
  have hm : PMk X (.Call (.Name c p) [] [] pos) (fun _ H Q => Q (.ref (He.ga B.K c)) none H) := by
    intro pins s σ H Q I h
    refine wpAny_Call_Name_kw (ld_glob I (C.gl hg) gC ?_ hd)
    refine PySem.W.callWith_K0 I.kIn (by rw [C.hK]; exact O.kp) ?_
    show wpAny _ _ (call (.ref (He.ga B.K c)) []) _ _ _
    obtain ⟨bm, N, nm, qn, bs, hdct, sn, sub, ab, col, dd, k0, k1, k2, k3, k5, mN, hC, hN, hni, T⟩ := exc_obj I.kIn (by rw [C.hK]; exact O.exc)
    refine wpAny_call_exc_subT F.excBase_ValueError T hC hN hni (fun h' e hm => ?_) (by show 0 ≤ sizeLine; omega)
    exact mk_of I hm (raises_own (by rw [C.hK]; exact O.sub) (by rw [C.hK]; exact O.typ)) h (I.hok.gone hm.new)
  refine PS.imp (ps_raise (C.calm rfl) C.tk hm) fun D' σ H q => ?_
  obtain ⟨κ, H0, av0, av, ρ, ok, q⟩ := q
  have q' : Fin B M' J κ H0 av0 W D' (.ex ⟨c, [], []⟩ ρ) := q
  exact fin_ex ok hx q' _ _ H (Same.refl H) ⟨by rw [C.xb]; exact List.mem_map.mpr ⟨_, hc, rfl⟩, rfl, .inl ⟨rfl, rfl, rfl⟩⟩
theorem map_zip_fst {α β : Type} : ∀ {l : List α} {r : List β}, r.length = l.length → (l.zip r).map (·.1) = l
  | [], [], _ => rfl
  | a :: l, b :: r, h => by
    rw [List.zip_cons_cons, List.map_cons, map_zip_fst (Nat.succ.inj h)]
  | [], _ :: _, h => by cases h
  | _ :: _, [], h => by cases h
theorem map_zip_snd {α β : Type} : ∀ {l : List α} {r : List β}, r.length = l.length → (l.zip r).map (·.2) = r
  | [], [], _ => rfl
  | a :: l, b :: r, h => by
    rw [List.zip_cons_cons, List.map_cons, map_zip_snd (Nat.succ.inj h)]
  | [], _ :: _, h => by cases h
  | _ :: _, [], h => by cases h
theorem s_rais (C : Cn L k B N sc fc none X W) {c : Str} {ns : List Str} {e : Expr} {es : List Expr} {ês : Es} {p pos pos' : Pos} (ha : AJ L k B (mks M) X W .v (e :: es) ês) (hc : (c, some ns) ∈ L.xs := by decide) (hl : ns.length ≤ 1000 := by decide) (hg : sc.names.lookup c = some .globalImplicit := by rfl) (hx : ∀ j ∈ J.x, j ∈ M := by decide) (hd : (c == ("__debug__" : Str)) = false := by decide)
    (h1 : starEach (e :: es) X.env = (false, eval e X.env) :: starEach es X.env := by rfl) (h2 : (backTo pos (starEach es X.env)).any (·.1) = false := by rfl) :
    SJ L k B M M' J X W (.Raise (some (.Call (.Name c p) (e :: es) [] pos)) none pos') (.rais c ns ês) := by
  obtain ⟨T, no, fI, fd, ps, iC, tI, hb, F1⟩ := C.xi c ns hc
  have gC := C.xg _ hc
  have hm := pmk_oex (X := X) (k := 1) (CX := L2.CX X.prog X.w) (dvs := []) (ds := []) (pos := pos) (p := p) (by rw [C.hK]; exact T) (by rw [C.hK]; exact iC) (by rw [C.hK]; exact tI) (by rw [C.hK]; exact F1) ((C.room rfl).mono (by omega)) (by rw [C.hK]; exact hb) .nil
    (fun _ _ _ _ _ _ _ h => by obtain ⟨_, _, _, _, _, _, _, _, _, _, _, _, z⟩ := h; exact z.elim) (C.gl hg) gC ha hd h1 h2
  refine PS.imp (ps_raise (C.calm rfl) C.tk hm) fun D' σ H q => ?_
  obtain ⟨κ, H0, av0, av, ρ, ok, q⟩ := q
  have q' : Fin B M' J κ H0 av0 W D' (match evs (run L.T k) ês ρ with
      | .ok l => if l.length = ns.length then .ex ⟨c, ns.reverse, l.reverse⟩ ρ else .bad
      | .exn x => .ex x ρ
      | .bad => .bad) := q
  refine ⟨κ, H0, av0, av, ρ, ok, ?_⟩
  cases e1 : evs (run L.T k) ês ρ with
  | bad => rw [e1] at q'; exact q'.elim
  | exn x => rw [e1] at q'; exact fin_ex ok hx q'
  | ok l =>
    rw [e1] at q'
    have q2 : Fin B M' J κ H0 av0 W D' (if l.length = ns.length then .ex ⟨c, ns.reverse, l.reverse⟩ ρ else .bad) := q'
    intro vs H1 s dl
    have dl' : Dens B av H1 l vs := dl
    by_cases hlen : l.length = ns.length
    · rw [if_pos hlen] at q2
      have hvs : vs.length = ns.length := by rw [dl'.length]; exact hlen
      refine ⟨by rw [hvs]; exact hl, fun a na => ⟨a, vs, by rw [List.append_nil], hvs, upd_same, T, no, fun d H' nd hd e2 e3 e4 => ⟨rfl, d, _, e2, e3, ?_, ?_⟩⟩⟩
      · rw [upd_ne nd] at hd
        exact hd
      · have nd1 : H1 d = none := by rw [upd_ne nd] at hd; exact hd
        have same3 : Same H1 (L2.upd (del H' a) d (.xd (ns.zip vs).reverse)) := fun b u z => by
          have ba : b ≠ a := fun z' => by rw [z', na] at z; cases z
          have bd : b ≠ d := fun z' => by rw [z', nd1] at z; cases z
          rw [upd_ne bd, del_ne ba, e4 b ba bd, upd_ne ba]
          exact z
        refine fin_ex ok hx q2 _ _ _ (s.trans same3) ⟨by rw [C.xb]; exact List.mem_map.mpr ⟨_, hc, rfl⟩, rfl, .inr ⟨d, (ns.zip vs).reverse, rfl, upd_same, ?_, ?_⟩⟩
        · rw [List.map_reverse, map_zip_fst hvs]
        · rw [List.map_reverse, map_zip_snd hvs]
          exact (dl'.same same3).reverse
    · rw [if_neg hlen] at q2
      exact q2.elim

/-! ### the context of a try -/
mutual
theorem Den.cg {B2 : Bs} (h : B.K = B2.K) : ∀ (d : D) (v : V), Den B av H d v → Den B2 av H d v
  | .non, v, q => q
  | .bl b, v, q => q
  | .int i, v, q => q
  | .str s, v, q => q
  | .tup l, v, q => by
    obtain ⟨a, vs, e, q, r⟩ := q
    exact ⟨a, vs, e, by rw [← h]; exact q, Dens.cg h l vs r⟩
  | .lst l, v, q => by
    obtain ⟨a, vs, e, q, r⟩ := q
    exact ⟨a, vs, e, by rw [← h]; exact q, Dens.cg h l vs r⟩
  | .ins c ns l, v, q => by
    obtain ⟨a, dx, fs, e, n, q, z, r⟩ := q
    exact ⟨a, dx, fs, e, n, by rw [← h]; exact q, z, Dens.cg h l _ r⟩
  | .dct ks l, v, q => by
    obtain ⟨a, kvs, e, n, q, z, r⟩ := q
    exact ⟨a, kvs, e, n, q, z, Dens.cg h l _ r⟩
  | .exc c ns l, v, q => q.elim
theorem Dens.cg {B2 : Bs} (h : B.K = B2.K) : ∀ (l : List D) (vs : List V), Dens B av H l vs → Dens B2 av H l vs
  | [], vs, q => q
  | d :: l, vs, q => by
    obtain ⟨v, r, e, q1, q2⟩ := q
    exact ⟨v, r, e, Den.cg h d v q1, Dens.cg h l r q2⟩
end
theorem OwnD.cg {B2 : Bs} (h : B.K = B2.K) {d : D} {v : V} (q : OwnD B av H0 H d v) : OwnD B2 av H0 H d v := by
  cases d with
  | lst l => obtain ⟨a, vs, e, n, x, q, r⟩ := q; exact ⟨a, vs, e, n, x, q, r.cg h⟩
  | ins c ns l => obtain ⟨a, dx, fs, e, n, x, q, z, r⟩ := q; exact ⟨a, dx, fs, e, n, x, by rw [← h]; exact q, z, r.cg h⟩
  | dct ks l => obtain ⟨a, kvs, e, n, x, q, z, r⟩ := q; exact ⟨a, kvs, e, n, x, q, z, r.cg h⟩
  | _ => exact False.elim q
theorem DenR.cg {B2 : Bs} (h : B.K = B2.K) {d : D} {v : V} (q : DenR B av H0 H d v) : DenR B2 av H0 H d v := by
  refine ⟨q.1.cg h, fun z => ?_⟩
  have q := q.2 z
  cases d with
  | lst l => obtain ⟨a, vs, e, n, q, r⟩ := q; exact ⟨a, vs, e, n, q, r.cg h⟩
  | ins c ns l => obtain ⟨a, dx, fs, e, n, q, z, r⟩ := q; exact ⟨a, dx, fs, e, n, by rw [← h]; exact q, z, r.cg h⟩
  | dct ks l => obtain ⟨a, kvs, e, n, q, z, r⟩ := q; exact ⟨a, kvs, e, n, q, z, r.cg h⟩
  | _ => exact False.elim q
/-- the exception is put into slot i -/
theorem EnvOk.catch_ {x : Exc} {cv : Value} {dd : Option Addr} {i : Nat} {a : Addr} (ok : EnvOk B (mks M) κ H0 av0 av σ H ρ) (hB : B.hx = none) (hx : ExD B av H x cv dd) (hm : i ∉ M) :
    EnvOk { B with hx := some (i, a, cv, dd) } (mks M) κ H0 av0 av (σ.set i (some (.ref a))) H (ρ.set i (some (.exc x.c x.ns x.l))) := by
  have hl := ok.len
  have hK : B.K = ({ B with hx := some (i, a, cv, dd) } : Bs).K := rfl
  have get : ∀ {j : Nat} {d' : D}, (ρ.set i (some (.exc x.c x.ns x.l)))[j]? = some (some d') → (j = i ∧ d' = .exc x.c x.ns x.l ∧ j < ρ.length) ∨ (j ≠ i ∧ ρ[j]? = some (some d')) := fun {j d'} h => by
    by_cases e : j = i
    · subst e
      by_cases z : j < ρ.length
      · rw [List.getElem?_set_self z] at h
        cases h
        exact .inl ⟨rfl, rfl, z⟩
      · rw [List.getElem?_eq_none (by rw [List.length_set]; omega)] at h
        cases h
    · rw [List.getElem?_set_ne (Ne.symm e)] at h
      exact .inr ⟨e, h⟩
  have hmi := mks_false.mpr hm
  refine ⟨by rw [List.length_set, List.length_set]; exact hl, ok.same, ok.sub, ok.trk0, ok.trk, fun j d' h1 h2 => ?_, fun j d' h1 h2 => ?_, fun j j' d1 d2 u h1 h2 h3 h4 h5 h6 h7 => ?_, fun p hp => (ok.kp p hp).cg hK⟩
  · rcases get h1 with ⟨rfl, rfl, z⟩ | ⟨e, h⟩
    · obtain ⟨e0, e1, h⟩ := hx
      refine ⟨.ref a, List.getElem?_set_self (by omega), .inr ⟨x.c, x.ns, x.l, a, dd, rfl, rfl, ⟨e0, by rw [e1]⟩, ?_⟩⟩
      rcases h with h | ⟨dx, fs, z1, z2, z3, r⟩
      · exact .inl h
      · exact .inr ⟨dx, fs, z1, z2, z3, r.cg hK⟩
    · obtain ⟨u, e1, e2⟩ := ok.val j d' h h2
      exact ⟨u, by rw [List.getElem?_set_ne (Ne.symm e)]; exact e1, .inl ((e2.den (by rw [hB]; simp)).cg hK)⟩
  · rcases get h1 with ⟨rfl, rfl, z⟩ | ⟨e, h⟩
    · rw [hmi] at h2
      cases h2
    · obtain ⟨u, e1, e2⟩ := ok.own j d' h h2
      exact ⟨u, by rw [List.getElem?_set_ne (Ne.symm e)]; exact e1, e2.cg hK⟩
  · have n1 : j ≠ i := by rintro rfl; rw [hmi] at h1; cases h1
    have n2 : j' ≠ i := by rintro rfl; rw [hmi] at h2; cases h2
    rw [List.getElem?_set_ne (Ne.symm n1)] at h4 h6
    rw [List.getElem?_set_ne (Ne.symm n2)] at h5 h7
    exact ok.inj j j' d1 d2 u h1 h2 h3 h4 h5 h6 h7
/-- .. and goes -/
theorem EnvOk.uncatch {z : Nat × Addr × Value × Option Addr} (ok : EnvOk { B with hx := some z } (mks M) κ H0 av0 av σ H ρ) : EnvOk B (mks M) κ H0 av0 av (σ.set z.1 none) H (ρ.set z.1 none) := by
  have hl := ok.len
  have hK : ({ B with hx := some z } : Bs).K = B.K := rfl
  have get : ∀ {j : Nat} {d' : D}, (ρ.set z.1 none)[j]? = some (some d') → j ≠ z.1 ∧ ρ[j]? = some (some d') := fun {j d'} h => by
    by_cases e : j = z.1
    · subst e
      by_cases z2 : z.1 < ρ.length
      · rw [List.getElem?_set_self z2] at h
        cases h
      · rw [List.getElem?_eq_none (by rw [List.length_set]; omega)] at h
        cases h
    · rw [List.getElem?_set_ne (Ne.symm e)] at h
      exact ⟨e, h⟩
  refine ⟨by rw [List.length_set, List.length_set]; exact hl, ok.same, ok.sub, ok.trk0, ok.trk, fun j d' h1 h2 => ?_, fun j d' h1 h2 => ?_, fun j j' d1 d2 u h1 h2 h3 h4 h5 h6 h7 => ?_, fun p hp => (ok.kp p hp).cg hK⟩
  · obtain ⟨e, h⟩ := get h1
    obtain ⟨u, e1, e2⟩ := ok.val j d' h h2
    exact ⟨u, by rw [List.getElem?_set_ne (Ne.symm e)]; exact e1, .inl ((e2.den (by show some z.1 ≠ some j; intro q; cases q; exact e rfl)).cg hK)⟩
  · obtain ⟨e, h⟩ := get h1
    obtain ⟨u, e1, e2⟩ := ok.own j d' h h2
    exact ⟨u, by rw [List.getElem?_set_ne (Ne.symm e)]; exact e1, e2.cg hK⟩
  · obtain ⟨e, g4⟩ := get h4
    obtain ⟨e', g5⟩ := get h5
    rw [List.getElem?_set_ne (Ne.symm e)] at h6
    rw [List.getElem?_set_ne (Ne.symm e')] at h7
    exact ok.inj j j' d1 d2 u h1 h2 h3 g4 g5 h6 h7

theorem Cn.tr (C : Cn L k B N sc fc none X W) {W' : WX} {pn : List (Addr × Obj)} {xe : Value → Shared → Prop} (tk : Takes (X.tr pn xe) W') (po : PassesOwn (model X.prog X.w) X.A X.env xe) : Cn L k B N sc fc none (X.tr pn xe) W' where
  hK := C.hK
  hN := C.hN
  nd := C.nd
  hsc := C.hsc
  calm := C.calm
  un := C.un
  tk := tk
  po := po
  fnc := C.fnc
  nm := C.nm
  fl := C.fl
  room := C.room
  fn := C.fn
  xb := C.xb
  xg := C.xg
  xo := C.xo
  xi := C.xi
  xm := C.xm
  xn := C.xn
  xc := C.xc
  hxs := C.hxs
  hxo := fun z h => by
    have q := C.hxs
    rw [h] at q
    cases q
theorem Cn.su (C : Cn L k B N sc fc none X W) {i : Nat} {a : Addr} {oe : Obj} {cv : Value} {dd : Option Addr} {pn : List (Addr × Obj)} (hz : Zc cv dd oe) (hf : ∃ vs, oe.data = .fields vs) :
    Cn L k { B with hx := some (i, a, cv, dd) } N sc fc (some i) (X.suite a ((a, oe) :: pn)) W0 where
  hK := C.hK
  hN := C.hN
  nd := C.nd
  hsc := C.hsc
  calm := fun h => by cases h
  un := C.un
  tk := takes0
  po := PassesOwn.never
  fnc := C.fnc
  nm := fun x n h => by
    have q := C.nm x n h
    cases n with
    | con d =>
      obtain ⟨v, u, h1, h2, h3⟩ := q
      exact ⟨v, u, h1, h2, fun av H => Den.cg (B := B) (B2 := { B with hx := some (i, a, cv, dd) }) rfl _ _ (h3 av H)⟩
    | _ => exact q
  fl := C.fl
  room := fun h => by cases h
  fn := fun h => by cases h
  xb := C.xb
  xg := C.xg
  xo := C.xo
  xi := C.xi
  xm := C.xm
  xn := C.xn
  xc := C.xc
  hxs := rfl
  hxo := fun z h => by
    cases h
    exact ⟨X, oe, pn, rfl, hz, hf⟩

/-- what the frame is -/
structure Fr (X : Cx) : Prop where
  hs : X.stack = X.env :: X.outer
  hf : X.env.frame = some X.env.locals
theorem s_try (C : Cn L k B N sc fc none X W) (R : Fr X) (i : Nat) {x n : Str} {b₀ : Stmt} {body suite : List Stmt} {np pos pos' : Pos} {tb th : Ss} (Mx : List Nat) (hb : ∀ {X' : Cx} {W' : WX}, Cn L k B N sc fc none X' W' → Fr X' → SsJ L k B M M' { J with x := Mx } X' W' body tb)
    (hh : ∀ {B' : Bs} {X' : Cx}, Cn L k B' N sc fc (some i) X' W0 → SsJ L k B' Mx M' J X' W0 (b₀ :: suite) th) (hx : ∀ j ∈ J.x, j ∈ Mx := by decide) (hi : N[i]? = some n := by rfl) (hm : i ∉ Mx := by decide) (hn : sc.names.lookup n = some .local := by rfl)
    (hc : x ∈ L.hs := by decide) (hg : sc.names.lookup x = some .globalImplicit := by rfl) (hd : (x == ("__debug__" : Str)) = false := by decide) :
    SJ L k B M M' J X W (.Try body [.ExceptHandler (some (.Name x np)) (some n) (b₀ :: suite) pos'] [] [] pos) (.try_ tb (.cons x (some i) th .nil)) := by
  have hB : B.hx = none := by
    have q := C.hxs
    cases e : B.hx with
    | none => rfl
    | some z => rw [e] at q; cases q
  refine PS.imp (ps_try_as (c := clV B.K x) (tb := fun W' => rdSs L k B M M' { J with x := Mx } W' tb) (ts := fun a cv dd => rdSs L k { B with hx := some (i, a, cv, dd) } Mx M' J W0 th) R.hs R.hf (by rw [C.hN]; exact C.nd) (by rw [C.hN]; exact hi) (by show X.env.scope.names.lookup n = _; rw [C.hsc]; exact hn)
    ⟨C.gl hg, hd, C.xn x hc⟩ C.tk (fun W' pn xe tk po => hb (C.tr tk po) ⟨R.hs, R.hf⟩) (fun a oe cv dd pn hz hf => hh (C.su hz hf))) fun D' σ H q => ?_
  obtain ⟨κ, H0, av0, av, ρ, ok, q⟩ := q
  have q' : Fin B M' J κ H0 av0 W D' (match evSs (run L.T k) tb ρ with
      | .ex x' ρ' => evHs (run L.T k) (.cons x (some i) th .nil) x' ρ'
      | r => r) := q
  refine ⟨κ, H0, av0, av, ρ, ok, ?_⟩
  cases e : evSs (run L.T k) tb ρ with
  | nx ρ' => rw [e] at q'; exact q'
  | rt d => rw [e] at q'; exact q'
  | bk ρ' => rw [e] at q'; exact q'
  | ct ρ' => rw [e] at q'; exact q'
  | bad => rw [e] at q'; exact q'
  | ex x' ρ' =>
    rw [e] at q'
    have q2 : Fin B M' J κ H0 av0 W D' (if subC x'.c x then uncatch (some i) (evSs (run L.T k) th (ρ'.set i (some (.exc x'.c x'.ns x'.l)))) else .ex x' ρ') := q'
    intro σ1 H1 av1 cv dd ok1 hE
    refine ⟨subC x'.c x, ?_, fun z a na => ?_, fun z => ?_⟩
    · rw [C.hK, hE.2.1]
      exact (C.xm _ hE.1 x hc).1
    · rw [z, if_pos rfl] at q2
      refine ⟨κ, H0, av0, av1, _, ok1.catch_ hB hE hm, ?_⟩
      cases e2 : evSs (run L.T k) th (ρ'.set i (some (.exc x'.c x'.ns x'.l))) with
      | nx ρ2 => rw [e2] at q2; exact fun σ2 H2 av2 ok2 => q2 _ H2 av2 ok2.uncatch
      | rt d => rw [e2] at q2; exact fun v H2 s d1 d2 => q2 v H2 s (Den.cg (B := { B with hx := some (i, a, cv, dd) }) (B2 := B) rfl _ _ d1) fun z => DenR.cg (B := { B with hx := some (i, a, cv, dd) }) (B2 := B) rfl (d2 z)
      | bk ρ2 => rw [e2] at q2; exact fun σ2 H2 av2 ok2 => q2 _ H2 av2 ok2.uncatch
      | ct ρ2 => rw [e2] at q2; exact fun σ2 H2 av2 ok2 => q2 _ H2 av2 ok2.uncatch
      | ex x2 ρ2 => rw [e2] at q2; exact q2.elim
      | bad => rw [e2] at q2; exact q2.elim
    · rw [z, if_neg Bool.false_ne_true] at q2
      exact fin_ex ok1 hx q2 cv dd H1 (Same.refl H1) hE

/-! ### isinstance(e, X), e.f -/
theorem call_isED {Y : Cx} {a E : Addr} {oe : Obj} {dd : Option Addr} {pn : List (Addr × Obj)} (C : ExcC Y.K E) (hz : Zc (.ref E) dd oe) (hf : ∃ vs, oe.data = .fields vs) : CallR (Y.suite a ((a, oe) :: pn)) (.builtin "isinstance") (fun xs H Q => ∃ (c : V) (cv : Value) (b : Bool), xs = [.ref a, c] ∧ (∀ u, RelV c u → u = cv) ∧ PySem.W.kitOne Y.K (.ref E) cv = some b ∧
    (dd = none ∨ ∃ dx fs, dd = some dx ∧ H dx = some (.xd fs)) ∧ Q (.bl b) H) := by
  intro pins s σ H xs us Q I r h
  obtain ⟨c, cv, b, rfl, hcv, e, hdd, q⟩ := h
  cases r with
  | cons rx rr =>
    cases rr with
    | cons rt rr =>
      cases rr
      cases rx
      have ec := hcv _ rt
      subst ec
      obtain ⟨hget, _⟩ := I.pin (a, oe) (List.mem_append.mpr (.inl List.mem_cons_self))
      obtain ⟨vs, hv⟩ := hf
      obtain ⟨od, J⟩ : ∃ od, PySem.W.InstAt s.heap a oe E od := by
        rcases hdd with h | ⟨dx, fs, h, hx⟩
        · subst h
          exact ⟨none, hget, hz.1, by unfold PySem.W.notCls; rw [hv] <;> rfl, by rw [hz.2]; trivial⟩
        · subst h
          obtain ⟨mA, hns, _⟩ := (show ObjOk Y.prog Y.w H s.heap dx (.xd fs) from I.hok dx _ hx)
          obtain ⟨od, ho, _⟩ := lookIn_ns hns
          exact ⟨some od, hget, hz.1, by unfold PySem.W.notCls; rw [hv] <;> rfl, by rw [hz.2]; exact ho⟩
      have hcl : (PySem.W.clsIn Y.K E).isSome = true := by
        obtain ⟨cd, hc, _⟩ := PySem.W.any_some C.hd
        rw [hc]; rfl
      exact PySem.W.kia_one (PySem.W.kitx_exc hcl C.hg C.hk C.hs C.ha C.hn C.ht C.hm) I.kIn J e (fun z => nomatch z) fun tk => ⟨.bl b, H, I.kept (t' := tk) fun _ _ z => z, rfl, q⟩
def clW (K : PySem.W.Frag) (h : Str) : V := if h = "ValueError" then .ty "ValueError" else if h = "Exception" then .ty "Exception" else .ref (He.ga K h)
theorem clW_rel {K : PySem.W.Frag} {h : Str} : RelV (clW K h) (clV K h) := by
  unfold clW clV
  by_cases h1 : h = "ValueError"
  · rw [if_pos h1, if_pos h1]; rfl
  · rw [if_neg h1, if_neg h1]
    by_cases h2 : h = "Exception"
    · rw [if_pos h2, if_pos h2]; rfl
    · rw [if_neg h2, if_neg h2]; rfl
theorem clW_only {K : PySem.W.Frag} {h : Str} {u : Value} (r : RelV (clW K h) u) : u = clV K h := by
  unfold clW at r
  unfold clV
  by_cases h1 : h = "ValueError"
  · rw [if_pos h1] at r ⊢; exact r
  · rw [if_neg h1] at r ⊢
    by_cases h2 : h = "Exception"
    · rw [if_pos h2] at r ⊢; exact r
    · rw [if_neg h2] at r ⊢; exact r
theorem pe_cls (C : Cn L k B N sc fc hot X W) {T : Str} {p : Pos} (hT : T ∈ L.hs) (hg : sc.names.lookup T = some .globalImplicit) (hd : (T == ("__debug__" : Str)) = false) : PE X (.Name T p) (tC (clW B.K T)) := by
  rcases C.xn T hT with h | ⟨h1, h2, h3⟩
  · exact pe_glob (C.gl hg) h clW_rel hd
  · exact pe_bltn (C.gl hg) h1 h2 clW_rel h3 hd
theorem e_xisi {i : Nat} (C : Cn L k B N sc fc (some i) X W) {x e T : Str} {p p1 p2 pos : Pos} (hi : N[i]? = some e := by rfl) (hT : T ∈ L.hs := by decide) (hx : x = "isinstance" := by rfl) (hn : L.nms x = some .free := by rfl)
    (hg : sc.names.lookup x = some .globalImplicit := by rfl) (hgT : sc.names.lookup T = some .globalImplicit := by rfl) (hdT : (T == ("__debug__" : Str)) = false := by decide)
    (hv : Vis sc e := by first | exact Or.inl rfl | exact Or.inr (Or.inl rfl) | exact Or.inr (Or.inr rfl)) (hd : (e == ("__debug__" : Str)) = false := by decide) (hcd : (e == ("__classdict__" : Str)) = false := by decide)
    (h1 : starEach [.Name e p1, .Name T p2] X.env = (false, eval (.Name e p1) X.env) :: starEach [.Name T p2] X.env := by rfl) (h2 : (backTo pos (starEach [.Name T p2] X.env)).any (·.1) = false := by rfl) (h3 : starEach [.Name T p2] X.env = (false, eval (.Name T p2) X.env) :: starEach [] X.env := by rfl) (hm : M0 i = false := by rfl) :
    EJ L k B M0 X W m (.Call (.Name x p) [.Name e p1, .Name T p2] [] pos) (.xisi i [.c T]) := by
  subst hx
  have hfree : X.mg "isinstance" = none := C.nm _ _ hn
  have hhx := C.hxs
  cases eB : B.hx with
  | none => rw [eB] at hhx; cases hhx
  | some z =>
    rw [eB] at hhx
    have ez : z.1 = i := Option.some.inj hhx
    obtain ⟨i', a, cv, dd⟩ := z
    have ez : i' = i := ez
    subst ez
    obtain ⟨Y, oe, pn, eX, hz, hf⟩ := C.hxo _ eB
    by_cases hcl : ∃ c, c ∈ B.xs ∧ cv = .ref (He.ga B.K c)
    · obtain ⟨c, hc, rfl⟩ := hcl
      have hcr : CallR X (.builtin "isinstance") (fun xs H Q => ∃ (c' : V) (cv : Value) (b : Bool), xs = [.ref a, c'] ∧ (∀ u, RelV c' u → u = cv) ∧ PySem.W.kitOne B.K (.ref (He.ga B.K c)) cv = some b ∧ (dd = none ∨ ∃ dx fs, dd = some dx ∧ H dx = some (.xd fs)) ∧ Q (.bl b) H) := by
        have hK : Y.K = B.K := by rw [← C.hK, eX]
        have ec : ExcC Y.K (He.ga B.K c) := by rw [hK]; exact C.xc c hc
        have h := call_isED (a := a) (dd := dd) (pn := pn) (E := He.ga B.K c) ec hz hf
        rw [hK] at h
        rw [eX]
        exact h
      refine EJ.v (PE.imp (pe_callB hcr (C.gl hg) hfree (by decide +kernel) (pa_cons (pe_var (by rw [C.hN]; exact hi) (C.vis hv) hd hcd) (pa_cons (pe_cls C hT hgT hdT) pa_nil h3) h1) (by decide) (by decide) h1 h2) fun σ H Q q => ?_)
      obtain ⟨κ, H0, av0, av, ρ, ok, q⟩ := q
      have q' : Pst B W av σ H (Md.f.P B av H) Q ((getV ρ i').bind fun x => match x with
        | .exc _ _ _ => .ok (.bl ([Ty.c T].any fun t => isTy x t))
        | _ => .bad) := q
      unfold getV at q'
      cases e : ρ[i']? with
      | none => rw [e] at q'; exact q'.elim
      | some o =>
        rw [e] at q'
        cases o with
        | none => exact q'.elim
        | some d =>
          cases d <;> first | (exact False.elim q'; done) | skip
          rename_i c2 ns l
          obtain ⟨v, e1, hv⟩ := ok.val i' _ e hm
          rcases hv with hv | ⟨c3, ns3, l3, a3, dd3, z1, z2, ⟨z3, z4⟩, z5⟩
          · exact False.elim hv
          · cases z1
            rw [eB] at z4
            injection z4 with z4
            injection z4 with _ z4
            injection z4 with z6 z4
            injection z4 with z7 z8
            subst z6 z8
            refine ⟨v, e1, clW B.K T, clV B.K T, subC c2 T, by rw [z2], fun u r => clW_only r, ?_, ?_, ?_⟩
            · rw [show Value.ref (He.ga B.K c) = Value.ref (He.ga B.K c2) from z7]
              exact (C.xm c2 z3 T hT).2
            · rcases z5 with ⟨_, _, h⟩ | ⟨dx, fs, h1, h2, _⟩
              · exact .inl h
              · exact .inr ⟨dx, fs, h1, h2⟩
            · have q2 : Pst B W av σ H (Md.f.P B av H) Q (.ok (.bl (subC c2 T || false))) := q'
              rw [Bool.or_false] at q2
              exact q2 _ H (Same.refl H) (DenR.scal (by simp [Den]) rfl)
    · refine ⟨fun pins s σ H Q I q => ?_⟩
      exfalso
      obtain ⟨κ, H0, av0, av, ρ, ok, q⟩ := q
      have q' : Pst B W av σ H (m.P B av H) Q ((getV ρ i').bind fun x => match x with
        | .exc _ _ _ => .ok (.bl ([Ty.c T].any fun t => isTy x t))
        | _ => .bad) := q
      unfold getV at q'
      cases e : ρ[i']? with
      | none => rw [e] at q'; exact q'.elim
      | some o =>
        rw [e] at q'
        cases o with
        | none => exact q'.elim
        | some d =>
          cases d <;> first | (exact False.elim q'; done) | skip
          obtain ⟨v, e1, hv⟩ := ok.val i' _ e hm
          rcases hv with hv | ⟨c3, ns3, l3, a3, dd3, z1, z2, ⟨z3, z4⟩, z5⟩
          · exact False.elim hv
          · rw [eB] at z4
            injection z4 with z4
            injection z4 with _ z4
            injection z4 with z6 z4
            injection z4 with z7 z8
            exact hcl ⟨c3, z3, z7⟩
end
end Pv
set_option Elab.async false
set_option linter.all false
set_option maxRecDepth 100000
set_option maxHeartbeats 2000000
/-! Pv16: defs. -/
namespace Pv
open PySem PySem.Spec PyProof.Rows L2

/-- what stands fixed of a module -/
structure St0 (L : Lw) (B : Bs) (P : Program) (w : World) (mg : Str → Option Value) (base : Heap) : Prop where
  hx : B.hx = none
  nm : ∀ x n, L.nms x = some n → NmOk B mg x n
  fl : ∀ c f, L.flds c f = true → Cls B.K (He.ga B.K c) ∧ NoAttr B.K (He.ga B.K c) f
  xb : B.xs = L.xs.map (·.1)
  xg : ∀ p ∈ L.xs, mg p.1 = some (.ref (He.ga B.K p.1))
  xo : ∀ c, (c, none) ∈ L.xs → XoOk B.K (He.ga B.K c)
  xi : ∀ c ns, (c, some ns) ∈ L.xs → XiOk P w B.K mg base (He.ga B.K c) ns
  xm : ∀ c ∈ B.xs, ∀ h ∈ L.hs, PySem.W.exmOne B.K (.ref (He.ga B.K c)) (clV B.K h) = some (subC c h) ∧ PySem.W.kitOne B.K (.ref (He.ga B.K c)) (clV B.K h) = some (subC c h)
  xn : ∀ h ∈ L.hs, mg h = some (clV B.K h) ∨ (mg h = none ∧ bootBuiltins h = some (clV B.K h) ∧ h ≠ "__name__")
  xc : ∀ c ∈ B.xs, ExcC B.K (He.ga B.K c)
/-- every def keeps its promise at the level k -/
def AllF (L : Lw) (k : Nat) (B : Bs) (P : Program) (w : World) (mg : Str → Option Value) (base : Heap) : Prop :=
  ∀ f fi, L.T f = some fi → fi.self = none → fi.init = none → ∃ a : Addr, mg fi.name = some (.ref a) ∧ PySem.W.keepIn B.K (.ref a) = true ∧ FnV L.T k B P w mg base f fi.fr a

section
variable {L : Lw} {k : Nat} {B : Bs} {P : Program} {w : World} {mg : Str → Option Value} {base : Heap}
theorem startE_len {n : Nat} {ds : List D} (h : ds.length ≤ n) : (startE n ds).length = n := by
  unfold startE
  rw [List.length_append, List.length_map, List.length_replicate]
  omega
theorem startE_get {n : Nat} {ds : List D} {i : Nat} {d : D} (h : (startE n ds)[i]? = some (some d)) : ds[i]? = some d := by
  unfold startE at h
  by_cases z : i < ds.length
  · rw [List.getElem?_append_left (by rw [List.length_map]; exact z), List.getElem?_map] at h
    cases e : ds[i]? with
    | none => rw [e] at h; cases h
    | some x => rw [e] at h; cases h; rfl
  · rw [List.getElem?_append_right (by rw [List.length_map]; omega), List.getElem?_replicate] at h
    split at h <;> cases h
theorem start_get {N : List Str} {vs : List V} {i : Nat} {v : V} (h : vs[i]? = some v) : (L2.start N vs)[i]? = some (some v) := by
  unfold L2.start
  have z : i < vs.length := by
    by_cases z : i < vs.length
    · exact z
    · rw [List.getElem?_eq_none (by omega)] at h; cases h
  rw [List.getElem?_append_left (by rw [List.length_map]; exact z), List.getElem?_map, h]
  rfl
theorem run_len {T : Nat → Option FI} {f : Nat} {fi : FI} {ds : List D} (hT : T f = some fi) (h : run T (k + 1) f ds ≠ .bad) : ds.length = fi.arity := by
  rw [run, hT] at h
  by_cases e : ds.length = fi.arity ∧ selfOk fi ds
  · exact e.1
  · simp only [if_neg e] at h
    exact absurd rfl h
theorem spc_nb {T : Nat → Option FI} {f : Nat} {fr : Bool} {vs : List V} {H : Hp} {Q : VK} {E : XK} (h : SpC T k B f fr vs H Q E) : ∃ av ds, (∀ b, av b → H b ≠ none) ∧ Dens B av H ds vs ∧ run T k f ds ≠ .bad := by
  obtain ⟨av, ds, h1, h2, h3⟩ := h
  refine ⟨av, ds, h1, h2, fun e => ?_⟩
  rw [e] at h3
  exact h3
theorem fn_ok (Z : St0 L B P w mg base) (IH : AllF L k B P w mg base) {f : Nat} {fi : FI} {name qual : Str} {params : Arguments} {body : List Stmt} {scope : Scope} {dvs : List V} {kws : List (Str × V)} {a : Addr} {fd : FuncData} {N ps : List Str} {M' : List Nat}
    (F : FunD B.K name qual params body scope dvs kws a fd) (S : FnScope N ps scope) (hT : L.T f = some fi) (har : fi.arity = ps.length) (hsl : fi.slots = N.length) (hs : fi.self = none) (hi : fi.init = none)
    (hb : ∀ {X : Cx} {W : WX}, Cn L k B N scope (cellsOf scope) none X W → Fr X → SsJ L k B [] M' { fr := fi.fr } X W body fi.body) : FnOk P w B.K mg base (L2.CX P w) (k + 1 + 2) a fd ps (SpC L.T (k + 1) B f fi.fr) := by
  have hpl : ps.length ≤ N.length := by have := congrArg List.length S.pre; rw [List.length_take] at this; omega
  refine F.ok S (fun vs H Q E h => ?_) fun cdv A outer s H vs Q E hr h => ?_
  · obtain ⟨av, ds, _, h2, h3⟩ := spc_nb h
    rw [h2.length, run_len hT h3, har]
  · obtain ⟨av, ds, ht, hd, hr2⟩ := h
    have hlen : ds.length = ps.length := by
      rw [← har]
      refine run_len (k := k) hT fun e => ?_
      rw [e] at hr2
      exact hr2
    have er : run L.T (k + 1) f ds = finish (evSs (run L.T k) fi.body (startE fi.slots ds)) := by
      rw [run, hT]
      simp only [hi]
      rw [if_pos ⟨by rw [hlen, har], by unfold selfOk; rw [hs]⟩]
    rw [er] at hr2
    have C : Cn L k B N scope (cellsOf scope) none (cxOf (L2.CX P w) P w B.K mg base N qual scope a cdv A outer s H E) (fun cls d _ H => E cls d H) := {
      hK := rfl
      hN := rfl
      nd := S.nd
      hsc := rfl
      calm := fun _ => rfl
      un := by have := hr.un; show (A.deeper (envOfC qual scope s.heap.objs.size a cdv)).units + 200 < cLine; omega
      tk := takes_of (X := cxOf (L2.CX P w) P w B.K mg base N qual scope a cdv A outer s H E) rfl rfl rfl rfl
      po := passes_of (X := cxOf (L2.CX P w) P w B.K mg base N qual scope a cdv A outer s H E) rfl
      fnc := fun _ _ => rfl
      nm := Z.nm
      fl := Z.fl
      room := fun _ => hr
      fn := fun _ => IH
      xb := Z.xb
      xg := Z.xg
      xo := Z.xo
      xi := Z.xi
      xm := Z.xm
      xn := Z.xn
      xc := Z.xc
      hxs := by rw [Z.hx]; rfl
      hxo := fun z h => by rw [Z.hx] at h; cases h }
    refine ⟨_, hb C ⟨rfl, rfl⟩, [], H, av, av, startE fi.slots ds, ?_, ?_⟩
    · refine ⟨by rw [startE_len (by omega)]; unfold L2.start; rw [List.length_append, List.length_map, List.length_replicate, hd.length]; omega, Same.refl H, fun _ h => h, ht, ht, fun i d h1 _ => ?_, fun i d h1 h2 => (Bool.false_ne_true h2).elim, fun i j d d' v h1 => (Bool.false_ne_true h1).elim, fun p hp => (List.not_mem_nil hp).elim⟩
      obtain ⟨v, h3, h4⟩ := hd.get (startE_get h1)
      exact ⟨v, start_get h3, .inl h4⟩
    · cases e : evSs (run L.T k) fi.body (startE fi.slots ds) with
      | nx ρ =>
        rw [e] at hr2
        exact fun σ H' av' ok => hr2 .non H' ok.same ⟨rfl, fun _ => DenR.scal rfl rfl⟩
      | rt d =>
        rw [e] at hr2
        exact fun v H' s h1 h2 => hr2 v H' s ⟨h1, h2⟩
      | ex x ρ =>
        rw [e] at hr2
        exact fun σ H' av' cv dd ok h => hr2 cv dd H' ok.same (h.weak ok.sub)
      | bk ρ => rw [e] at hr2; exact hr2.elim
      | ct ρ => rw [e] at hr2; exact hr2.elim
      | bad => rw [e] at hr2; exact hr2.elim
theorem all_f (hall : ∀ f fi, L.T f = some fi → fi.self = none → fi.init = none → ∃ (a : Addr) (fd : FuncData) (ps : List Str), mg fi.name = some (.ref a) ∧ PySem.W.keepIn B.K (.ref a) = true ∧ Binds B.K fd ps [] ∧
    ∀ k, AllF L k B P w mg base → FnOk P w B.K mg base (L2.CX P w) (k + 1 + 2) a fd ps (SpC L.T (k + 1) B f fi.fr)) : ∀ k, AllF L k B P w mg base
  | 0 => fun f fi hT hs hi => by
    obtain ⟨a, fd, ps, h1, h2, h3, h4⟩ := hall f fi hT hs hi
    refine ⟨a, h1, h2, fd, ps, h3, ⟨fun vs H Q E h => ?_, fun A outer s H args us vs Q E _ _ _ _ h => ?_⟩⟩
    · obtain ⟨av, ds, _, _, h⟩ := h; exact h.elim
    · obtain ⟨av, ds, _, _, h⟩ := h; exact h.elim
  | k + 1 => fun f fi hT hs hi => by
    obtain ⟨a, fd, ps, h1, h2, h3, h4⟩ := hall f fi hT hs hi
    exact ⟨a, h1, h2, fd, ps, h3, h4 k (all_f hall k)⟩

/-! ### the __init__ of an exception -/
theorem xi1 {C : Addr} {f qual : Str} {params : Arguments} {body : List Stmt} {scope : Scope} {dvs : List V} {kws : List (Str × V)} {a : Addr} {fd : FuncData} {p p1 p2 pos : Pos} (F : FunD B.K "__init__" qual params body scope dvs kws a fd) (hbd : body = [.Assign [.Attribute (.Name "self" p) f p1] (.Name f p2) pos] := by rfl) (S : FnScope ["self", f] ["self", f] scope)
    (h1 : Vis scope "self") (h2 : Vis scope f) (hd : (f == ("__debug__" : Str)) = false) (hcd : (f == ("__classdict__" : Str)) = false) (hsw : ∀ env : PySem.Env, env.scope = scope → swapsWith (.Name f p2) (some (.Attribute (.Name "self" p) f p1)) pos.line env = pure false) : FnOk P w B.K mg base (L2.CX P w) 1 a fd ["self", f] (spX B.K C [f]) := by
  subst hbd
  refine F.ok S (fun vs H Q E h => ?_) fun cdv A outer s H vs Q E hr h => ?_
  · obtain ⟨a, ws, rfl, hl, _⟩ := h
    rw [List.length_cons, hl]
    rfl
  · obtain ⟨a', ws, rfl, hl, ha, T, no, q⟩ := h
    match ws, hl with
    | [y], _ =>
      refine ⟨_, pss_one (ps_ost (pe_var (i := 0) rfl h1) (pe_var (i := 1) rfl h2 hd hcd) (hsw _ rfl)), ?_⟩
      refine ⟨y, rfl, .ref a', rfl, a', C, rfl, T, no f List.mem_cons_self, .inl ⟨ha, fun d hd nd => ?_⟩⟩
      exact q d _ nd hd upd_same (by rw [upd_ne nd, upd_same]; rfl) fun b ba bd => by rw [upd_ne ba, upd_ne bd]
end
end Pv
set_option Elab.async false
set_option linter.all false
set_option maxRecDepth 100000
set_option maxHeartbeats 2000000
/-! Pv17: facts of the written part, the end. -/
namespace Pv
open PySem PySem.Spec PyProof.Rows L2

/-- a module's data -/
structure LwD where
  tab : List FI
  nmL : List (Str × Nm)
  xsL : List (Str × Option (List Str))
  hsL : List Str
def LwD.lw (d : LwD) : Lw := { T := fun i => d.tab[i]?, nms := fun x => d.nmL.lookup x, flds := fun _ _ => false, xs := d.xsL, hs := d.hsL }

def nsB (K : PySem.W.Frag) (x : Str) : Option (Option Value) := PySem.W.nsIn K mainGlobals x
def nmB (K : PySem.W.Frag) (x : Str) : Nm → Bool
  | .free => He.eqO (nsB K x) (some none)
  | .bf id => He.eqO (nsB K x) (some (some (.builtin id)))
  | .con (.int i) => (match nsB K x with
    | some (some (.int j _)) => decide (j = i)
    | _ => false)
  | .con (.str z) => (match nsB K x with
    | some (some (.str y _)) => decide (y = z)
    | _ => false)
  | .cl => He.eqO (nsB K x) (some (some (.ref (He.ga K x))))
  | _ => false
def oexB (K : PySem.W.Frag) (C : Addr) : Bool := (match K.lookup C with
  | some ⟨.type "type", _, .cls cd, sl⟩ => (match cd.mro, sl.toList with
    | .ref C' :: bm, [_, _, _, _, some (.builtin n), _] => C' == C && n == "ValueError.__new__" && !cd.hasDel && cd.hasDict && PySem.HandSPX.refsVE bm
    | _, _ => false)
  | _ => false) && (He.eqO (PySem.W.findIn K (.ref C) "__setattr__") (some (some (.builtin "object.__setattr__"))) && (decide (PySem.W.subIn K (.ref C) (.type "BaseException") = some true) && (decide (PySem.W.typeIn K (.ref C) = some (.type "type")) && PySem.W.keepIn K (.ref C))))
theorem oexB_ok {K : PySem.W.Frag} {C : Addr} (h : oexB K C = true) : OexC K C := by
  obtain ⟨h1, h⟩ := Bool.and_eq_true_iff.mp h
  obtain ⟨h2, h⟩ := Bool.and_eq_true_iff.mp h
  obtain ⟨h3, h⟩ := Bool.and_eq_true_iff.mp h
  obtain ⟨h4, h5⟩ := Bool.and_eq_true_iff.mp h
  refine ⟨?_, He.eqO_ok h2, of_decide_eq_true h3, of_decide_eq_true h4, h5⟩
  split at h1
  · rename_i dd cd sl ho
    split at h1
    · rename_i C' bm k0 k1 k2 k3 n k5 hm hs
      simp only [Bool.and_eq_true, beq_iff_eq, Bool.not_eq_true'] at h1
      obtain ⟨⟨⟨⟨rfl, rfl⟩, hdel⟩, hd⟩, hv⟩ := h1
      obtain ⟨nm, bs, mro, ns, qn, hd', sn, sub, ab, col, del⟩ := cd
      dsimp only at hm hdel hd
      subst hm hdel hd
      have hsl : sl = #[k0, k1, k2, k3, some (.builtin "ValueError.__new__"), k5] := by
        obtain ⟨l⟩ := sl
        simp only at hs
        rw [hs]
      subst hsl
      exact ⟨nm, qn, ns, bs, bm, sn, sub, ab, col, dd, k0, k1, k2, k3, k5, ho, hv⟩
    · cases h1
  · cases h1
def excCB (K : PySem.W.Frag) (D : Addr) : Bool := He.eqO (PySem.W.findIn K (.ref D) "__getattribute__") (some (some (.builtin "BaseException.__getattribute__"))) && (He.eqO (PySem.W.findIn K (.ref D) "__getattr__") (some none) && (decide (PySem.W.subIn K (.ref D) (.type "BaseException") = some true) && (PySem.W.hasDictIn K D &&
  (He.eqO (PySem.W.findIn K (.ref D) "__class__") (some (some (.builtin "object.__class__"))) && (He.eqO (PySem.W.specialIn K (.builtin "object.__class__") "__get__") (some (some (.builtin "getset_descriptor.__get__"))) && (decide (PySem.W.takesIn K (.builtin "object.__class__") = some true) && decide (PySem.W.mroIn K D (.type "object") = some true)))))))
theorem excCB_ok {K : PySem.W.Frag} {D : Addr} (h : excCB K D = true) : ExcC K D := by
  obtain ⟨h1, h⟩ := Bool.and_eq_true_iff.mp h
  obtain ⟨h2, h⟩ := Bool.and_eq_true_iff.mp h
  obtain ⟨h3, h⟩ := Bool.and_eq_true_iff.mp h
  obtain ⟨h4, h⟩ := Bool.and_eq_true_iff.mp h
  obtain ⟨h5, h⟩ := Bool.and_eq_true_iff.mp h
  obtain ⟨h6, h⟩ := Bool.and_eq_true_iff.mp h
  obtain ⟨h7, h8⟩ := Bool.and_eq_true_iff.mp h
  exact ⟨He.eqO_ok h1, He.eqO_ok h2, of_decide_eq_true h3, h4, He.eqO_ok h5, He.eqO_ok h6, of_decide_eq_true h7, of_decide_eq_true h8⟩
def xsB (K : PySem.W.Frag) (p : Str × Option (List Str)) : Bool := (He.Fa.glo p.1).ok K && (excCB K (He.ga K p.1) && (match p.2 with
  | none => (He.Fa.exc p.1).ok K
  | some ns => oexB K (He.ga K p.1) && (He.eqO (PySem.W.findIn K (.ref (He.ga K p.1)) "__init__") (some (some (.ref (He.ma K (He.ga K p.1) "__init__")))) && (decide (PySem.W.typeIn K (.ref (He.ma K (He.ga K p.1) "__init__")) = some (.type "function")) && ns.all fun f => He.eqO (PySem.W.findIn K (.ref (He.ga K p.1)) f) (some none)))))
def xmB (K : PySem.W.Frag) (c h : Str) : Bool := decide (PySem.W.exmOne K (.ref (He.ga K c)) (clV K h) = some (subC c h)) && decide (PySem.W.kitOne K (.ref (He.ga K c)) (clV K h) = some (subC c h))
def hsB (K : PySem.W.Frag) (h : Str) : Bool := if h = "ValueError" ∨ h = "Exception" then He.eqO (nsB K h) (some none) else (He.Fa.glo h).ok K
/-- all that is asked of the written part beside the defs -/
def LwD.ex (d : LwD) (K : PySem.W.Frag) : Bool := (d.nmL.all fun p => nmB K p.1 p.2) && ((d.xsL.all fun p => xsB K p) && ((d.xsL.all fun p => d.hsL.all fun h => xmB K p.1 h) && d.hsL.all fun h => hsB K h))
section
variable {K : PySem.W.Frag} {h : Heap} {mg : Str → Option Value} {P : Program} {w : World} {base : Heap}
theorem mem_of_lookup' {α : Type} {x : Str} {n : α} : ∀ {l : List (Str × α)}, l.lookup x = some n → (x, n) ∈ l
  | [], e => by cases e
  | (y, m) :: l, e => by
    rw [List.lookup_cons] at e
    cases q : x == y with
    | true =>
      rw [q] at e
      have e' : m = n := Option.some.inj e
      have q' := beq_iff_eq.mp q
      subst e' q'
      exact List.mem_cons_self
    | false =>
      rw [q] at e
      exact List.mem_cons_of_mem _ (mem_of_lookup' e)
theorem nmB_ok (X : K.In h) (G : h.Ns mainGlobals mg) {xs : List Str} {x : Str} {n : Nm} (e : nmB K x n = true) : NmOk ⟨K, xs, none⟩ mg x n := by
  cases n with
  | free => exact PySem.W.mg_none_of X G (He.eqO_ok e)
  | bf id => exact PySem.W.mg_of X G (He.eqO_ok e)
  | fn f => cases e
  | cl => exact PySem.W.mg_of X G (He.eqO_ok e)
  | con d =>
    cases d <;> first | (cases e; done) | skip
    · rename_i i
      obtain ⟨t, e⟩ := He.int_ok (x := x) (i := i) X G e
      exact ⟨.int i, _, e, ⟨t, rfl⟩, fun _ _ => rfl⟩
    · rename_i z
      obtain ⟨t, e⟩ := He.str_ok (x := x) (z := z) X G e
      exact ⟨.str z, _, e, ⟨t, rfl⟩, fun _ _ => rfl⟩
/-- the fixed facts, once the __init__s keep their promises -/
theorem st0_of (d : LwD) (X : K.In h) (G : h.Ns mainGlobals mg) (e : d.ex K = true) (hI : ∀ c ns, (c, some ns) ∈ d.xsL → OexC K (He.ga K c) → ∃ (fd : FuncData) (ps : List Str), Binds K fd ps [] ∧ FnOk P w K mg base (L2.CX P w) 1 (He.ma K (He.ga K c) "__init__") fd ps (spX K (He.ga K c) ns)) :
    St0 d.lw ⟨K, d.xsL.map (·.1), none⟩ P w mg base := by
  obtain ⟨e1, e⟩ := Bool.and_eq_true_iff.mp e
  obtain ⟨e2, e⟩ := Bool.and_eq_true_iff.mp e
  obtain ⟨e3, e4⟩ := Bool.and_eq_true_iff.mp e
  have xs : ∀ p ∈ d.xsL, xsB K p = true := List.all_eq_true.mp e2
  have glo : ∀ p ∈ d.xsL, mg p.1 = some (.ref (He.ga K p.1)) := fun p hp => He.glo_ok X G (Bool.and_eq_true_iff.mp (xs p hp)).1
  refine ⟨rfl, fun x n hx => nmB_ok X G (List.all_eq_true.mp e1 _ (mem_of_lookup' hx)), fun c f hf => (Bool.false_ne_true hf).elim, rfl, glo, fun c hc => ?_, fun c ns hc => ?_, fun c hc h' hh => ?_, fun h' hh => ?_, fun c hc => ?_⟩
  · obtain ⟨_, q⟩ := Bool.and_eq_true_iff.mp (xs _ hc)
    obtain ⟨_, q⟩ := Bool.and_eq_true_iff.mp q
    obtain ⟨q1, q2, q3, q4⟩ := He.exc_ok (x := c) q
    exact ⟨q1, q2, q3, q4⟩
  · obtain ⟨_, q⟩ := Bool.and_eq_true_iff.mp (xs _ hc)
    obtain ⟨_, q⟩ := Bool.and_eq_true_iff.mp q
    obtain ⟨q1, q⟩ := Bool.and_eq_true_iff.mp (show (oexB K (He.ga K c) && _) = true from q)
    obtain ⟨q2, q⟩ := Bool.and_eq_true_iff.mp q
    obtain ⟨q3, q4⟩ := Bool.and_eq_true_iff.mp q
    obtain ⟨fd, ps, hb, hF⟩ := hI c ns hc (oexB_ok q1)
    exact ⟨oexB_ok q1, fun f hf => He.eqO_ok (List.all_eq_true.mp q4 f hf), _, fd, ps, He.eqO_ok q2, of_decide_eq_true q3, hb, hF⟩
  · obtain ⟨p, hp, rfl⟩ := List.mem_map.mp hc
    have q := List.all_eq_true.mp (List.all_eq_true.mp e3 p hp) h' hh
    obtain ⟨q1, q2⟩ := Bool.and_eq_true_iff.mp q
    exact ⟨of_decide_eq_true q1, of_decide_eq_true q2⟩
  · have q := List.all_eq_true.mp e4 h' hh
    unfold hsB at q
    by_cases z : h' = "ValueError" ∨ h' = "Exception"
    · rw [if_pos z] at q
      have q' := PySem.W.mg_none_of X G (He.eqO_ok q)
      refine .inr ⟨q', ?_, ?_⟩
      · rcases z with rfl | rfl
        · exact (by decide +kernel : bootBuiltins "ValueError" = some (.type "ValueError"))
        · exact (by decide +kernel : bootBuiltins "Exception" = some (.type "Exception"))
      · rcases z with rfl | rfl
        · decide +kernel
        · decide +kernel
    · rw [if_neg z] at q
      refine .inl ?_
      have e5 : clV K h' = .ref (He.ga K h') := by
        unfold clV
        rw [if_neg fun y => z (.inl y), if_neg fun y => z (.inr y)]
      show mg h' = some (clV K h')
      rw [e5]
      exact He.glo_ok X G q
  · obtain ⟨p, hp, rfl⟩ := List.mem_map.mp hc
    obtain ⟨_, q⟩ := Bool.and_eq_true_iff.mp (xs p hp)
    exact excCB_ok (Bool.and_eq_true_iff.mp q).1
end

/-- a scope, looked at -/
def scB (N ps : List Str) (sc : Scope) : Bool := decide (sc.kind = .function) && (!sc.isCoroutine && (!sc.isGenerator && (decide N.Nodup && (decide (N.take ps.length = ps) && ((ps.all fun x => decide (sc.names.lookup x = some .local) || decide (sc.names.lookup x = some .cell)) && sc.names.all fun y => !decide (y.2 = .free))))))
theorem scB_ok {N ps : List Str} {sc : Scope} (h : scB N ps sc = true) : FnScope N ps sc := by
  obtain ⟨h1, h⟩ := Bool.and_eq_true_iff.mp h
  obtain ⟨h2, h⟩ := Bool.and_eq_true_iff.mp h
  obtain ⟨h3, h⟩ := Bool.and_eq_true_iff.mp h
  obtain ⟨h4, h⟩ := Bool.and_eq_true_iff.mp h
  obtain ⟨h5, h⟩ := Bool.and_eq_true_iff.mp h
  obtain ⟨h6, h7⟩ := Bool.and_eq_true_iff.mp h
  refine ⟨of_decide_eq_true h1, by simpa using h2, by simpa using h3, of_decide_eq_true h4, of_decide_eq_true h5, fun x hx => ?_, fun y hy => ?_⟩
  · have q := List.all_eq_true.mp h6 x hx
    rcases Bool.or_eq_true_iff.mp q with q | q
    · exact .inl (of_decide_eq_true q)
    · exact .inr (of_decide_eq_true q)
  · have q := List.all_eq_true.mp h7 y hy
    simpa using q

/-! ### the end -/
/-- the law's promise -/
def spLw (K : PySem.W.Frag) (n : Nat) : Sp := fun vs H Q _ => ∃ (a : Addr) (ns : List Int), vs = [.ref a] ∧ ns.length ≤ n ∧ (∀ z ∈ ns, Builtin.Int.intBits z ≤ 1048576) ∧ SqL K H a (ns.map V.int) ∧ ∀ H', Q (.bl true) H'
theorem law_spc {T : Nat → Option FI} {k n : Nat} {B : Bs} {f : Nat} {fr : Bool} {vs : List V} {H : Hp} {Q : VK} {E : XK} (hl : ∀ ns : List Int, ns.length ≤ n → (∀ z ∈ ns, bt z ≤ 1048576) → run T k f [.lst (ns.map D.int)] = .ok (.bl true)) (h : spLw B.K n vs H Q E) : SpC T k B f fr vs H Q E := by
  obtain ⟨a, ns, rfl, h1, h2, h3, q⟩ := h
  refine ⟨fun _ => False, [.lst (ns.map D.int)], fun _ z => z.elim, ⟨.ref a, [], rfl, ⟨a, _, rfl, ?_, dens_ints ns⟩, rfl⟩, ?_⟩
  · rcases h3 with h3 | h3
    · exact .inl ⟨fun z => z, h3⟩
    · exact .inr h3
  · rw [hl ns h1 h2]
    rintro v H' _ ⟨p, _⟩
    cases p
    exact q H'
theorem walk_pv {l : PySem.W.OpenLaw} {n k : Nat} {q : Program} {loose : List Str} {XP : (Str → Option Value) → Heap → Prop} {YP : World → Heap → Prop} {d : DefRec} {x : Str} (hn : l.most = some n) (hn2 : n ≤ sizeLine) (hdf : d.params.defaults = []) (hr : Room k callerA)
    (F : ∀ (w : World) (mg : Str → Option Value) (fa : Addr) (h : Heap), YP w h → h.Ns mainGlobals mg → mg d.name = some (.ref fa) →
      ∃ (K : PySem.W.Frag) (fd : FuncData), K.In h ∧ (∀ (s : Shared) (u : Value), BindsTo s fd ⟨[u], []⟩ [(x, u)]) ∧
        ∀ base : Heap, K.In base → base.Ns mainGlobals mg → FnOk l.prog w K mg base (L2.CX l.prog w) k fa fd [x] (spLw K n)) :
    PySem.W.WalkO q loose XP YP l.row.toRowW d [] (fun f vs => PySem.call f vs) := by
  refine Att.attach_callB hn hdf fun w s₀ s₁ mg mb fa o pm cd doc a vs ns G Y ho hd hcd hmg hobj hints hlen hbits hg => ?_
  obtain ⟨K, fd, KX, hb, hF⟩ := F w mg fa _ Y G.T.g hmg
  refine law_call KX G.T.g G.T.b G.T.builtins G.T.nolimit hg hobj hints (Nat.le_trans hlen hn2) hr hF hb (fun H hO hS => ⟨a, ns, rfl, hlen, hbits, hS, fun _ => rfl⟩) fun H e s' h => ?_
  obtain ⟨_, _, _, _, _, _, _, _, _, _, _, _, z⟩ := h
  exact z
end Pv
set_option Elab.async false
set_option linter.all false
set_option maxRecDepth 100000
set_option maxHeartbeats 2000000
/-! Pv18: tools for the plain laws. -/
namespace Pv
open PySem

/-! ### the evaluator's equations -/
section
variable {cl : CallT} {ρ : Env}
@[simp] theorem evq_var (i : Nat) : ev cl (.var i) ρ = getV ρ i := by rw [ev]
@[simp] theorem evq_c (d : D) : ev cl (.c d) ρ = .ok d := by rw [ev]
@[simp] theorem evq_bin (o : Op) (a b : E) : ev cl (.bin o a b) ρ = (ev cl a ρ).bind fun x => (ev cl b ρ).bind fun y => binD o x y := by rw [ev]
@[simp] theorem evq_rep (a b : E) : ev cl (.rep a b) ρ = (ev cl a ρ).bind fun x => (ev cl b ρ).bind fun y => repD x y := by rw [ev]
@[simp] theorem evq_neg (a : E) : ev cl (.neg a) ρ = (ev cl a ρ).bind negD := by rw [ev]
@[simp] theorem evq_not (a : E) : ev cl (.not a) ρ = (ev cl a ρ).bind fun x => (tBool x).bind fun t => .ok (.bl (!t)) := by rw [ev]
@[simp] theorem evq_and (a b : E) : ev cl (.and a b) ρ = (ev cl a ρ).bind fun x => (tBool x).bind fun t => if t then ev cl b ρ else .ok (.bl false) := by rw [ev]
@[simp] theorem evq_or (a b : E) : ev cl (.or a b) ρ = (ev cl a ρ).bind fun x => (tBool x).bind fun t => if t then .ok (.bl true) else ev cl b ρ := by rw [ev]
@[simp] theorem evq_cmp (o : Cm) (a b : E) : ev cl (.cmp o a b) ρ = (ev cl a ρ).bind fun x => (ev cl b ρ).bind fun y => (cmpD o x y).bind fun t => .ok (.bl t) := by rw [ev]
@[simp] theorem evq_chain (o o' : Cm) (a b c : E) : ev cl (.chain o o' a b c) ρ = (ev cl a ρ).bind fun x => (ev cl b ρ).bind fun y => (cmpD o x y).bind fun t =>
      if t then (ev cl c ρ).bind fun z => (cmpD o' y z).bind fun t' => .ok (.bl t') else .ok (.bl false) := by rw [ev]
@[simp] theorem evq_ife (c a b : E) : ev cl (.ife c a b) ρ = (ev cl c ρ).bind fun x => (tBool x).bind fun t => if t then ev cl a ρ else ev cl b ρ := by rw [ev]
@[simp] theorem evq_ix (a i : E) : ev cl (.ix a i) ρ = (ev cl a ρ).bind fun x => (ev cl i ρ).bind fun y => ixD x y := by rw [ev]
@[simp] theorem evq_sl (a lo hi : E) : ev cl (.sl a lo hi) ρ = (ev cl a ρ).bind fun x => (ev cl lo ρ).bind fun p => (oR (partD p)).bind fun p' => (ev cl hi ρ).bind fun q => (oR (partD q)).bind fun q' => slV x p' q' := by rw [ev]
@[simp] theorem evq_tup (es : Es) : ev cl (.tup es) ρ = (evs cl es ρ).bind fun l => if lenOk l.length then .ok (.tup l) else .bad := by rw [ev]
@[simp] theorem evq_lst (es : Es) : ev cl (.lst es) ρ = (evs cl es ρ).bind fun l => if lenOk l.length then .ok (.lst l) else .bad := by rw [ev]
@[simp] theorem evq_call (f : Nat) (es : Es) : ev cl (.call f es) ρ = (evs cl es ρ).bind fun l => cl f l := by rw [ev]
@[simp] theorem evq_callB (f : Nat) (fr : Bool) (es : Es) : ev cl (.callB f fr es) ρ = (evs cl es ρ).bind fun l => safeR fr (cl f l) := by rw [ev]
@[simp] theorem evq_blt (b : Bl) (es : Es) : ev cl (.blt b es) ρ = (evs cl es ρ).bind fun l => blD b l := by rw [ev]
/-- a comprehension's turn, all of it -/
def lcF (cl : CallT) (elt : E) (t : Tg) (cs : Es) (own : List Nat) (ρ : Env) (d : D) : R (Option D) := lcOne (setT t d (wipeE ρ own)) (fun ρ1 => evAll cl cs ρ1) (fun ρ1 => ev cl elt ρ1)
def lcRes (f : D → R (Option D)) (l : List D) : R D := (lcGo f l).bind fun r => if lenOk (l.length + 1) then .ok (.lst r) else .bad
@[simp] theorem evq_lc (elt : E) (t : Tg) (it : It) (cs : Es) (own : List Nat) : ev cl (.lc elt t it cs own) ρ = (evIt cl it ρ).bind fun l => lcRes (lcF cl elt t cs own ρ) l := by
  rw [ev]
  rfl
@[simp] theorem evq_isi (a : E) (ts : List String) : ev cl (.isi a ts) ρ = (ev cl a ρ).bind fun x => isiD ts x := by rw [ev]
@[simp] theorem evsq_nil : evs cl .nil ρ = .ok [] := by rw [evs]
@[simp] theorem evsq_cons (e : E) (es : Es) : evs cl (.cons e es) ρ = (ev cl e ρ).bind fun x => (evs cl es ρ).bind fun r => .ok (x :: r) := by rw [evs]
@[simp] theorem evAllq_nil : evAll cl .nil ρ = .ok true := by rw [evAll]
@[simp] theorem evAllq_cons (e : E) (es : Es) : evAll cl (.cons e es) ρ = (ev cl e ρ).bind fun x => (tBool x).bind fun t => if t then evAll cl es ρ else .ok false := by rw [evAll]
/-- what is walked in a list, a tuple, a text -/
def seqIt : D → R (List D)
  | .lst l => .ok l
  | .tup l => .ok l
  | .str s => .ok (charsD s)
  | _ => .bad
def rngIt : D → D → R (List D)
  | .int i, .int j => if rngOk i j then .ok (rngD i j) else .bad
  | _, _ => .bad
@[simp] theorem evItq_seq (e : E) : evIt cl (.seq e) ρ = (ev cl e ρ).bind seqIt := by
  rw [evIt]
  cases ev cl e ρ with
  | ok x => cases x <;> rfl
  | exn x => rfl
  | bad => rfl
@[simp] theorem evItq_rng (a b : E) : evIt cl (.rng a b) ρ = (ev cl a ρ).bind fun x => (ev cl b ρ).bind fun y => rngIt x y := by
  rw [evIt]
  cases ev cl a ρ with
  | ok x =>
    cases ev cl b ρ with
    | ok y => cases x <;> cases y <;> rfl
    | exn x => rfl
    | bad => rfl
  | exn x => rfl
  | bad => rfl
/-- a branch -/
def brD (d : D) (x y : SR) : SR := match d with
  | .bl true => x
  | .bl false => y
  | _ => .bad
@[simp] theorem brD_bl (b : Bool) (x y : SR) : brD (.bl b) x y = if b then x else y := by cases b <;> rfl
@[simp] theorem evSq_set (t : Tg) (e : E) : evS cl (.set t e) ρ = SR.of (ev cl e ρ) ρ fun d => oS (setT t d ρ) := by rw [evS]
@[simp] theorem evSq_setO (i : Nat) (e : E) : evS cl (.setO i e) ρ = SR.of (ev cl e ρ) ρ fun d => if isO d then .nx (ρ.set i (some d)) else .bad := by rw [evS]
@[simp] theorem evSq_ex (e : E) : evS cl (.ex e) ρ = SR.of (ev cl e ρ) ρ fun _ => .nx ρ := by rw [evS]
@[simp] theorem evSq_ret (e : E) : evS cl (.ret e) ρ = SR.of (ev cl e ρ) ρ fun d => .rt d := by rw [evS]
@[simp] theorem evSq_ite (c : E) (a b : Ss) : evS cl (.ite c a b) ρ = SR.of (ev cl c ρ) ρ fun d => brD d (evSs cl a ρ) (evSs cl b ρ) := by
  rw [evS]
  cases ev cl c ρ with
  | ok d => cases d <;> rfl
  | exn x => rfl
  | bad => rfl
/-- a loop's turn -/
noncomputable def turn (cl : CallT) (t : Tg) (b : Ss) (d : D) (ρ : Env) : SR := match setT t d ρ with
  | some ρ2 => evSs cl b ρ2
  | none => .bad
def forR (r : R (List D)) (ρ : Env) (f : List D → SR) : SR := match r with
  | .ok l => f l
  | .exn x => .ex x ρ
  | .bad => .bad
@[simp] theorem forR_ok (l : List D) (f : List D → SR) : forR (.ok l) ρ f = f l := id rfl
@[simp] theorem evSq_for (t : Tg) (it : It) (b : Ss) : evS cl (.for_ t it b) ρ = forR (evIt cl it ρ) ρ fun l => forL (turn cl t b) l ρ := by
  rw [evS]
  cases evIt cl it ρ <;> rfl
@[simp] theorem evSq_whl (c : E) (b : Ss) : evS cl (.whl c b) ρ = wh (fun ρ => (ev cl c ρ).bind tBool) (fun ρ => evSs cl b ρ) ρ := by rw [evS]
@[simp] theorem evSq_brk : evS cl .brk ρ = .bk ρ := by rw [evS]
@[simp] theorem evSq_cnt : evS cl .cnt ρ = .ct ρ := by rw [evS]
@[simp] theorem evSq_pass : evS cl .pass ρ = .nx ρ := by rw [evS]
def appL (o : Option (Option D)) (r : R D) (ρ : Env) (i : Nat) : SR := match o with
  | some (some (.lst l)) => SR.of r ρ fun d => if lenOk (l.length + 1) then .nx (ρ.set i (some (.lst (l ++ [d])))) else .bad
  | _ => .bad
@[simp] theorem appL_some (l : List D) (r : R D) (i : Nat) : appL (some (some (.lst l))) r ρ i = SR.of r ρ fun d => if lenOk (l.length + 1) then .nx (ρ.set i (some (.lst (l ++ [d])))) else .bad := id rfl
@[simp] theorem evSq_app (i : Nat) (e : E) : evS cl (.app i e) ρ = appL ρ[i]? (ev cl e ρ) ρ i := by
  rw [evS]
  cases ρ[i]? with
  | none => rfl
  | some o =>
    cases o with
    | none => rfl
    | some d => cases d <;> rfl
def setIxL (o : Option (Option D)) (r r2 : R D) (ρ : Env) (i : Nat) : SR := match o with
  | some (some (.lst l)) => SR.of r ρ fun d => SR.of r2 ρ fun z => (match z with
        | .int j => (match L2.ixN l.length j with
          | some n => .nx (ρ.set i (some (.lst (l.set n d))))
          | none => .bad)
        | _ => .bad)
  | _ => .bad
@[simp] theorem setIxL_some (l : List D) (d : D) (j : Int) (i : Nat) : setIxL (some (some (.lst l))) (.ok d) (.ok (.int j)) ρ i = (match L2.ixN l.length j with
          | some n => .nx (ρ.set i (some (.lst (l.set n d))))
          | none => .bad) := rfl
@[simp] theorem evSq_setIx (i : Nat) (k e : E) : evS cl (.setIx i k e) ρ = setIxL ρ[i]? (ev cl e ρ) (ev cl k ρ) ρ i := by
  rw [evS]
  cases ρ[i]? with
  | none => rfl
  | some o =>
    cases o with
    | none => rfl
    | some d => cases d <;> rfl
def andS (r : SR) (f : Env → SR) : SR := match r with
  | .nx ρ' => f ρ'
  | r => r
@[simp] theorem andS_nx (ρ' : Env) (f : Env → SR) : andS (.nx ρ') f = f ρ' := id rfl
@[simp] theorem andS_rt (d : D) (f : Env → SR) : andS (.rt d) f = .rt d := id rfl
@[simp] theorem andS_bk (ρ' : Env) (f : Env → SR) : andS (.bk ρ') f = .bk ρ' := id rfl
@[simp] theorem andS_ct (ρ' : Env) (f : Env → SR) : andS (.ct ρ') f = .ct ρ' := id rfl
@[simp] theorem andS_ex (x : Exc) (ρ' : Env) (f : Env → SR) : andS (.ex x ρ') f = .ex x ρ' := id rfl
@[simp] theorem andS_bad (f : Env → SR) : andS .bad f = .bad := id rfl
@[simp] theorem andS_ite (c : Prop) [Decidable c] (x y : SR) (f : Env → SR) : andS (if c then x else y) f = if c then andS x f else andS y f := by split <;> rfl
@[simp] theorem evSsq_nil : evSs cl .nil ρ = .nx ρ := by rw [evSs]
@[simp] theorem evSsq_cons (s : S) (ss : Ss) : evSs cl (.cons s ss) ρ = andS (evS cl s ρ) fun ρ' => evSs cl ss ρ' := by
  rw [evSs]
  cases evS cl s ρ <;> rfl
@[simp] theorem getV_zero (d : D) (ρ : Env) : getV (some d :: ρ) 0 = .ok d := id rfl
@[simp] theorem getV_succ (o : Option D) (ρ : Env) (i : Nat) : getV (o :: ρ) (i + 1) = getV ρ i := id rfl
@[simp] theorem setT_nm (i : Nat) (d : D) (ρ : Env) : setT (.nm i) d ρ = some (ρ.set i (some d)) := by rw [setT]
@[simp] theorem turn_nm (i : Nat) (b : Ss) (d : D) (ρ : Env) : turn cl (.nm i) b d ρ = evSs cl b (ρ.set i (some d)) := by
  unfold turn
  rw [setT_nm]
@[simp] theorem SR.of_ite (c : Prop) [Decidable c] (x y : R D) (ρ : Env) (f : D → SR) : SR.of (if c then x else y) ρ f = if c then SR.of x ρ f else SR.of y ρ f := by split <;> rfl
@[simp] theorem R.bind_ite {α β : Type} (c : Prop) [Decidable c] (x y : R α) (f : α → R β) : (if c then x else y).bind f = if c then x.bind f else y.bind f := by split <;> rfl
@[simp] theorem tBool_bl (b : Bool) : tBool (.bl b) = .ok b := id rfl
@[simp] theorem partD_int (i : Int) : partD (.int i) = some (some i) := id rfl
@[simp] theorem partD_non : partD .non = some none := id rfl
@[simp] theorem seqIt_lst (l : List D) : seqIt (.lst l) = .ok l := id rfl
@[simp] theorem seqIt_tup (l : List D) : seqIt (.tup l) = .ok l := id rfl
@[simp] theorem finish_nx (ρ : Env) : finish (.nx ρ) = .ok .non := id rfl
@[simp] theorem finish_rt (d : D) : finish (.rt d) = .ok d := id rfl
@[simp] theorem finish_ex (x : Exc) (ρ : Env) : finish (.ex x ρ) = .exn x := id rfl
@[simp] theorem finish_ite (c : Prop) [Decidable c] (x y : SR) : finish (if c then x else y) = if c then finish x else finish y := by split <;> rfl
end

/-! ### operations -/
@[simp] theorem binD_add (i j : Int) : binD .add (.int i) (.int j) = .ok (.int (i + j)) := id rfl
@[simp] theorem binD_sub (i j : Int) : binD .sub (.int i) (.int j) = .ok (.int (i - j)) := id rfl
@[simp] theorem cmpD_lt (i j : Int) : cmpD .lt (.int i) (.int j) = .ok (decide (i < j)) := id rfl
@[simp] theorem cmpD_le (i j : Int) : cmpD .le (.int i) (.int j) = .ok (decide (i ≤ j)) := id rfl
@[simp] theorem cmpD_gt (i j : Int) : cmpD .gt (.int i) (.int j) = .ok (decide (j < i)) := id rfl
@[simp] theorem cmpD_ge (i j : Int) : cmpD .ge (.int i) (.int j) = .ok (decide (j ≤ i)) := id rfl
@[simp] theorem cmpD_eq (i j : Int) : cmpD .eq (.int i) (.int j) = .ok (decide (i = j)) := by
  show (if shp (.int i) && shp (.int j) then R.ok (eqP (.int i) (.int j)) else R.bad) = _
  have e : eqP (.int i) (.int j) = decide (i = j) := by
    show (i == j) = decide (i = j)
    by_cases h : i = j
    · subst h; simp
    · simp [h]
  rw [e]
  rfl
@[simp] theorem cmpD_ne (i j : Int) : cmpD .ne (.int i) (.int j) = .ok (!decide (i = j)) := by
  have e := cmpD_eq i j
  show ((eqD (.int i) (.int j)).bind fun t => R.ok (!t)) = _
  rw [show eqD (.int i) (.int j) = .ok (decide (i = j)) from e]
  rfl
theorem bt_le {i : Int} {n : Nat} (h : i.natAbs < 2 ^ n) : bt i ≤ n := by
  unfold bt Builtin.Int.intBits
  by_cases z : i = 0
  · subst z
    exact Nat.zero_le _
  · have z' : (i == 0) = false := by simpa using z
    rw [z', if_neg Bool.false_ne_true]
    exact (Nat.log2_lt (by omega)).mpr h
theorem bt_lt {i : Int} {n : Nat} (h : bt i ≤ n) : i.natAbs < 2 ^ n := by
  unfold bt Builtin.Int.intBits at h
  by_cases z : i = 0
  · subst z
    exact Nat.two_pow_pos n
  · have z' : (i == 0) = false := by simpa using z
    rw [z', if_neg Bool.false_ne_true] at h
    exact (Nat.log2_lt (by omega)).mp h
theorem mul_ok {i j : Int} (a b : Nat) (hi : i.natAbs < 2 ^ a) (hj : j.natAbs < 2 ^ b) (h : a + b ≤ 134217728 := by decide) : binD .mul (.int i) (.int j) = .ok (.int (i * j)) := by
  have e : mulOk i j = true := decide_eq_true (Nat.le_trans (Nat.add_le_add (bt_le hi) (bt_le hj)) h)
  show (if mulOk i j then _ else _) = _
  rw [if_pos e]
theorem mul_small {i j : Int} (hi : i.natAbs < 2 ^ 64) (hj : j.natAbs < 2 ^ 64) : binD .mul (.int i) (.int j) = .ok (.int (i * j)) := mul_ok 64 64 hi hj
theorem div_ok {i j : Int} (hj : 0 < j) (h : j.natAbs < 2 ^ 9000) : binD .fdiv (.int i) (.int j) = .ok (.int (i / j)) := by
  have e : divOk i j = true := by
    unfold divOk
    rw [decide_eq_true hj, decide_eq_true (bt_le h)]
    rfl
  show (if divOk i j then _ else _) = _
  rw [if_pos e]
theorem pow64 : (2 : Nat) ^ 64 ≤ 2 ^ 9000 := Nat.pow_le_pow_right (by decide) (by decide)
theorem div_small {i j : Int} (hj : 0 < j) (h : j < 18446744073709551616) : binD .fdiv (.int i) (.int j) = .ok (.int (i / j)) :=
  div_ok hj (Nat.lt_of_lt_of_le (show j.natAbs < 2 ^ 64 by omega) pow64)
theorem mod_ok {i j : Int} (hj : 0 < j) : binD .mod (.int i) (.int j) = .ok (.int (i % j)) := by
  show (if decide (0 < j) then _ else _) = _
  rw [decide_eq_true hj, if_pos rfl]

/-! ### loops -/
theorem forL_gen {f : D → Env → SR} {l : List D} (I : Nat → Env → Prop) (Q : SR → Prop) {ρ0 : Env} (h0 : I 0 ρ0)
    (step : ∀ i d ρ, l[i]? = some d → I i ρ → (∃ ρ', (f d ρ = .nx ρ' ∨ f d ρ = .ct ρ') ∧ I (i + 1) ρ') ∨ (∃ ρ', f d ρ = .bk ρ' ∧ Q (.nx ρ')) ∨ (∃ r, f d ρ = .rt r ∧ Q (.rt r))) (hend : ∀ ρ, I l.length ρ → Q (.nx ρ)) : Q (forL f l ρ0) := by
  have key : ∀ n i ρ, l.length - i = n → i ≤ l.length → I i ρ → Q (forL f (l.drop i) ρ) := by
    intro n
    induction n with
    | zero =>
      intro i ρ hn hi h
      have e : i = l.length := by omega
      subst e
      rw [List.drop_length]
      exact hend ρ h
    | succ n ih =>
      intro i ρ hn hi h
      have hlt : i < l.length := by omega
      rw [List.drop_eq_getElem_cons hlt]
      rcases step i l[i] ρ (List.getElem?_eq_getElem hlt) h with ⟨ρ', e | e, h'⟩ | ⟨ρ', e, q⟩ | ⟨r, e, q⟩
      · rw [forL, e]
        exact ih (i + 1) ρ' (by omega) (by omega) h'
      · rw [forL, e]
        exact ih (i + 1) ρ' (by omega) (by omega) h'
      · rw [forL, e]
        exact q
      · rw [forL, e]
        exact q
  exact key l.length 0 ρ0 rfl (Nat.zero_le _) h0
theorem forL_nx {f : D → Env → SR} {l : List D} (I : Nat → Env → Prop) {ρ0 : Env} (h0 : I 0 ρ0) (step : ∀ i d ρ, l[i]? = some d → I i ρ → ∃ ρ', f d ρ = .nx ρ' ∧ I (i + 1) ρ') : ∃ ρ', forL f l ρ0 = .nx ρ' ∧ I l.length ρ' :=
  forL_gen I (fun r => ∃ ρ', r = .nx ρ' ∧ I l.length ρ') h0 (fun i d ρ e h => by
    obtain ⟨ρ', e1, e2⟩ := step i d ρ e h
    exact .inl ⟨ρ', .inl e1, e2⟩) fun ρ h => ⟨ρ, rfl, h⟩
theorem whN_more {c : Env → R Bool} {b : Env → SR} : ∀ {n : Nat} {ρ : Env} {r : SR}, whN c b n ρ = r → r.isBad = false → ∀ m, whN c b (n + m) ρ = r
  | 0, ρ, r, e, h, m => by
    rw [whN] at e
    subst e
    cases h
  | n + 1, ρ, r, e, h, m => by
    rw [show n + 1 + m = (n + m) + 1 by omega]
    rw [whN] at e ⊢
    cases ec : c ρ with
    | bad => rw [ec] at e; subst e; cases h
    | exn x => rw [ec] at e; exact e
    | ok t =>
      rw [ec] at e
      cases t with
      | false => exact e
      | true =>
        cases eb : b ρ with
        | nx ρ' => simp only [eb] at e ⊢; exact whN_more e h m
        | ct ρ' => simp only [eb] at e ⊢; exact whN_more e h m
        | bk ρ' => simp only [eb] at e ⊢; exact e
        | rt d => simp only [eb] at e ⊢; exact e
        | ex x ρ' => simp only [eb] at e ⊢; exact e
        | bad => simp only [eb] at e ⊢; exact e
theorem wh_eq {c : Env → R Bool} {b : Env → SR} {n : Nat} {ρ : Env} {r : SR} (e : whN c b n ρ = r) (h : r.isBad = false) : wh c b ρ = r := by
  have ex : ∃ n, (whN c b n ρ).isBad = false := ⟨n, by rw [e]; exact h⟩
  unfold wh
  rw [dif_pos ex]
  have h2 := Classical.choose_spec ex
  have e1 := whN_more e h (Classical.choose ex)
  have e2 := whN_more (n := Classical.choose ex) rfl h2 n
  rw [Nat.add_comm] at e2
  rw [← e2, e1]
theorem wh_gen {c : Env → R Bool} {b : Env → SR} (I : Env → Prop) (m : Env → Nat) (Q : SR → Prop) {ρ0 : Env} (h0 : I ρ0)
    (step : ∀ ρ, I ρ → (c ρ = .ok false ∧ Q (.nx ρ)) ∨ (c ρ = .ok true ∧ ((∃ ρ', (b ρ = .nx ρ' ∨ b ρ = .ct ρ') ∧ I ρ' ∧ m ρ' < m ρ) ∨ (∃ ρ', b ρ = .bk ρ' ∧ Q (.nx ρ')) ∨ (∃ r, b ρ = .rt r ∧ Q (.rt r))))) : Q (wh c b ρ0) := by
  have key : ∀ k ρ, m ρ ≤ k → I ρ → ∃ n r, whN c b n ρ = r ∧ r.isBad = false ∧ Q r := by
    intro k
    induction k with
    | zero =>
      intro ρ hm h
      rcases step ρ h with ⟨e, q⟩ | ⟨e, ⟨ρ', _, _, hl⟩ | ⟨ρ', e2, q⟩ | ⟨r, e2, q⟩⟩
      · exact ⟨1, _, by rw [whN, e], rfl, q⟩
      · omega
      · exact ⟨1, _, by rw [whN, e]; simp only [e2], rfl, q⟩
      · exact ⟨1, _, by rw [whN, e]; simp only [e2], rfl, q⟩
    | succ k ih =>
      intro ρ hm h
      rcases step ρ h with ⟨e, q⟩ | ⟨e, ⟨ρ', e2, h', hl⟩ | ⟨ρ', e2, q⟩ | ⟨r, e2, q⟩⟩
      · exact ⟨1, _, by rw [whN, e], rfl, q⟩
      · obtain ⟨n, r, z1, z2, z3⟩ := ih ρ' (by omega) h'
        refine ⟨n + 1, r, ?_, z2, z3⟩
        rw [whN, e]
        rcases e2 with e2 | e2 <;> simp only [e2] <;> exact z1
      · exact ⟨1, _, by rw [whN, e]; simp only [e2], rfl, q⟩
      · exact ⟨1, _, by rw [whN, e]; simp only [e2], rfl, q⟩
  obtain ⟨n, r, z1, z2, z3⟩ := key _ ρ0 (Nat.le_refl _) h0
  rw [wh_eq z1 z2]
  exact z3
theorem lcGo_fm {f : D → R (Option D)} {g : D → Option D} : ∀ {l : List D}, (∀ d ∈ l, f d = .ok (g d)) → lcGo f l = .ok (l.filterMap g)
  | [], _ => rfl
  | d :: l, h => by
    have ih := lcGo_fm (g := g) (l := l) fun x hx => h x (List.mem_cons_of_mem _ hx)
    show (f d).nox.bind (fun o => (lcGo f l).bind fun r => .ok (match o with | some x => x :: r | none => r)) = _
    rw [h d List.mem_cons_self, ih, List.filterMap_cons]
    cases g d <;> rfl
theorem lcGo_map {f : D → R (Option D)} {g : D → D} {l : List D} (h : ∀ d ∈ l, f d = .ok (some (g d))) : lcGo f l = .ok (l.map g) := by
  rw [lcGo_fm (g := fun d => some (g d)) h]
  rw [List.filterMap_eq_map']
theorem lcF_nm {cl : CallT} {elt : E} {cs : Es} {i : Nat} {ρ : Env} {d : D} : lcF cl elt (.nm i) cs [i] ρ d = (evAll cl cs (ρ.set i (some d))).bind fun t => if t then (ev cl elt (ρ.set i (some d))).bind fun x => .ok (some x) else .ok none := by
  have e : (wipeE ρ [i]).set i (some d) = ρ.set i (some d) := by
    show (ρ.set i none).set i (some d) = _
    rw [List.set_set]
  unfold lcF
  rw [setT_nm, e]
  rfl
theorem lcRes_map {cl : CallT} {elt : E} {i : Nat} {ρ : Env} {l : List D} (g : D → D) (h : ∀ d ∈ l, ev cl elt (ρ.set i (some d)) = .ok (g d)) (hl : l.length < 16777216) : lcRes (lcF cl elt (.nm i) .nil [i] ρ) l = .ok (.lst (l.map g)) := by
  unfold lcRes
  rw [lcGo_map (g := g) fun d hd => by
    rw [lcF_nm, evAllq_nil, R.bind_ok, if_pos rfl, h d hd]
    rfl]
  have e : lenOk (l.length + 1) = true := decide_eq_true hl
  rw [R.bind_ok, if_pos e]
theorem lcRes_filter {cl : CallT} {elt c : E} {i : Nat} {ρ : Env} {l : List D} (p : D → Bool) (g : D → D) (hc : ∀ d ∈ l, ev cl c (ρ.set i (some d)) = .ok (.bl (p d))) (h : ∀ d ∈ l, p d = true → ev cl elt (ρ.set i (some d)) = .ok (g d)) (hl : l.length < 16777216) :
    lcRes (lcF cl elt (.nm i) (.cons c .nil) [i] ρ) l = .ok (.lst ((l.filter p).map g)) := by
  unfold lcRes
  rw [lcGo_fm (g := fun d => if p d then some (g d) else none) fun d hd => by
    rw [lcF_nm, evAllq_cons, hc d hd, R.bind_ok, tBool_bl, R.bind_ok]
    cases e : p d with
    | true => rw [if_pos rfl, evAllq_nil, R.bind_ok, if_pos rfl, h d hd e]; rfl
    | false => rw [if_neg Bool.false_ne_true]; rfl]
  have e : lenOk (l.length + 1) = true := decide_eq_true hl
  rw [R.bind_ok, if_pos e]
  congr 2
  induction l with
  | nil => rfl
  | cons d l ih =>
    have ih' := ih (fun x hx => hc x (List.mem_cons_of_mem _ hx)) (fun x hx => h x (List.mem_cons_of_mem _ hx)) (by rw [List.length_cons] at hl; omega) (decide_eq_true (by rw [List.length_cons] at hl; show l.length + 1 ≤ 16777216; omega))
    rw [List.filterMap_cons, List.filter_cons]
    cases p d with
    | true => simp only [if_true, List.map_cons, ih']
    | false => simp only [Bool.false_eq_true, if_false, ih']
theorem mem_rngD {a b : Int} {d : D} : d ∈ rngD a b ↔ ∃ i : Int, a ≤ i ∧ i < b ∧ d = .int i := by
  unfold rngD
  rw [List.mem_map]
  constructor
  · rintro ⟨i, hi, rfl⟩
    rw [List.mem_range] at hi
    exact ⟨a + i, by omega, by omega, rfl⟩
  · rintro ⟨i, h1, h2, rfl⟩
    exact ⟨(i - a).toNat, by rw [List.mem_range]; omega, by congr 1; omega⟩
theorem rngD_get {a b : Int} {i : Nat} {d : D} (h : (rngD a b)[i]? = some d) : d = .int (a + i) ∧ a + i < b := by
  unfold rngD at h
  rw [List.getElem?_map] at h
  cases e : (List.range (b - a).toNat)[i]? with
  | none => rw [e] at h; cases h
  | some j =>
    rw [e] at h
    obtain ⟨h1, h2⟩ := List.getElem?_eq_some_iff.mp e
    rw [List.getElem_range] at h2
    rw [List.length_range] at h1
    subst h2
    cases h
    exact ⟨rfl, by omega⟩
theorem rngD_len (a b : Int) : (rngD a b).length = (b - a).toNat := by
  unfold rngD
  rw [List.length_map, List.length_range]
theorem rngIt_ok {a b : Int} (h1 : -4611686018427387904 ≤ a) (h2 : a < 4611686018427387904) (h3 : -4611686018427387904 ≤ b) (h4 : b < 4611686018427387904) : rngIt (.int a) (.int b) = .ok (rngD a b) := by
  have e : rngOk a b = true := by
    unfold rngOk
    simp only [Bool.and_eq_true, decide_eq_true_eq]
    exact ⟨⟨⟨h1, h2⟩, h3⟩, h4⟩
  show (if rngOk a b then _ else _) = _
  rw [if_pos e]

/-! ### defs -/
theorem run_fn {T : Nat → Option FI} {f : Nat} {fi : FI} {k : Nat} {ds : List D} (hT : T f = some fi) (hl : ds.length = fi.arity) (hi : fi.init = none := by rfl) (hs : fi.self = none := by rfl) : run T (k + 1) f ds = finish (evSs (run T k) fi.body (startE fi.slots ds)) := by
  rw [run, hT]
  simp only [hi]
  rw [if_pos ⟨hl, by unfold selfOk; rw [hs]⟩]
end Pv
set_option Elab.async false
set_option linter.all false
set_option maxRecDepth 100000
set_option maxHeartbeats 2000000
/-! Pv19: the defs that every law has: _law_cell, _law_digits, _law_low. -/
namespace Pv
open PySem

def cellL : Ss := .cons (.set (.nm 2) (.bin .mod (.blt .int (.cons (.bin .add (.bin .mul (.var 2) (.c (.int 31))) (.bin .mod (.blt .int (.cons (.var 3) (.nil))) (.c (.int 1000003)))) (.nil))) (.c (.int 1000003)))) (.nil)
def lowL : Ss := .cons (.set (.nm 4) (.bin .mod (.blt .int (.cons (.var 2) (.nil))) (.var 3))) (.cons (.set (.nm 2) (.var 3)) (.cons (.set (.nm 3) (.var 4)) (.nil)))
def lowC : E := .cmp .ne (.var 3) (.c (.int 0))
def digL1 : Ss := .cons (.app 2 (.bin .mod (.blt .int (.cons (.var 3) (.nil))) (.var 4))) (.cons (.set (.nm 3) (.bin .fdiv (.blt .int (.cons (.var 3) (.nil))) (.var 4))) (.nil))
def digL2 : Ss := .cons (.set (.nm 5) (.bin .mod (.blt .int (.cons (.bin .add (.bin .add (.bin .mul (.var 5) (.c (.int 48271))) (.bin .mul (.c (.int 974711)) (.var 6))) (.c (.int 12345))) (.nil))) (.c (.int 2147483647)))) (.cons (.set (.nm 7) (.bin .mod (.blt .int (.cons (.bin .mul (.var 5) (.bin .add (.bin .fdiv (.var 5) (.c (.int 65537))) (.c (.int 3)))) (.nil))) (.c (.int 2147483629)))) (.cons (.app 2 (.bin .mod (.bin .fdiv (.var 7) (.c (.int 19))) (.ix (.var 1) (.var 6)))) (.nil)))
def cellB : Ss := .cons (.ite (.cmp .lt (.var 1) (.blt .len (.cons (.var 0) (.nil)))) (.cons (.ret (.ix (.var 0) (.var 1))) .nil) (.nil)) (.cons (.set (.nm 2) (.c (.int 17))) (.cons (.for_ (.nm 3) (.seq (.var 0)) cellL) (.cons (.ret (.bin .mod (.blt .int (.cons (.bin .mul (.bin .mul (.bin .add (.var 2) (.c (.int 7))) (.bin .add (.var 1) (.c (.int 3)))) (.c (.int 69621))) (.nil))) (.c (.int 2147483647)))) .nil)))
def digB : Ss := .cons (.setO 2 (.lst (.nil))) (.cons (.set (.nm 3) (.blt .int (.cons (.var 0) (.nil)))) (.cons (.ite (.cmp .ge (.var 3) (.bin .pow (.c (.int 10)) (.c (.int 18)))) (.cons (.set (.nm 3) (.bin .sub (.var 3) (.bin .pow (.c (.int 10)) (.c (.int 18))))) (.cons (.for_ (.nm 4) (.seq (.var 1)) digL1) (.cons (.ret (.var 2)) .nil))) (.nil)) (.cons (.set (.nm 5) (.bin .mod (.blt .int (.cons (.var 3) (.nil))) (.c (.int 2147483629)))) (.cons (.for_ (.nm 6) (.rng (.c (.int 0)) (.blt .len (.cons (.var 1) (.nil)))) digL2) (.cons (.ret (.var 2)) .nil)))))
def lowB : Ss := .cons (.set (.nm 2) (.blt .abs (.cons (.var 0) (.nil)))) (.cons (.set (.nm 3) (.var 1)) (.cons (.whl lowC lowL) (.cons (.ret (.tup (.cons (.bin .fdiv (.var 0) (.var 2)) (.cons (.bin .fdiv (.var 1) (.var 2)) (.nil))))) .nil)))

@[simp] theorem blD_len_lst (l : List D) : blD .len [.lst l] = .ok (.int l.length) := id rfl
@[simp] theorem blD_len_tup (l : List D) : blD .len [.tup l] = .ok (.int l.length) := id rfl
@[simp] theorem blD_int (i : Int) : blD .int [.int i] = .ok (.int i) := id rfl
@[simp] theorem blD_abs (i : Int) : blD .abs [.int i] = .ok (.int (if i < 0 then -i else i)) := id rfl
theorem ix_lst {l : List D} {i : Nat} {d : D} (h : l[i]? = some d) : ixD (.lst l) (.int i) = .ok d := by
  show (match L2.atI l i with | some d => R.ok d | none => .bad) = _
  rw [L2.atI_nat h]
theorem ix_tup {l : List D} {i : Nat} {d : D} (h : l[i]? = some d) : ixD (.tup l) (.int i) = .ok d := by
  show (match L2.atI l i with | some d => R.ok d | none => .bad) = _
  rw [L2.atI_nat h]
theorem startE2 (a b : D) (n : Nat) : startE (n + 2) [a, b] = some a :: some b :: List.replicate n none := rfl
section
variable {T : Nat → Option FI} {f : Nat} {fi : FI} {k : Nat}
/-- a number of the script, or a made one -/
theorem run_cell (hT : T f = some fi) (hb : fi.body = cellB) (ha : fi.arity = 2) (hs : fi.slots = 4) (ns : List Int) (j : Nat) (hj : j < 1000) (hl : ns.length ≤ 63) (hi : fi.init = none := by rfl) (hself : fi.self = none := by rfl) :
    ∃ c : Int, run T (k + 1) f [.lst (ns.map D.int), .int j] = .ok (.int c) := by
  rw [run_fn hT (by rw [ha]; rfl) hi hself, hb, hs, startE2]
  by_cases h : j < ns.length
  · obtain ⟨c, hc⟩ : ∃ c, ns[j]? = some c := ⟨ns[j], List.getElem?_eq_getElem h⟩
    have hd : (ns.map D.int)[j]? = some (.int c) := by rw [List.getElem?_map, hc]; rfl
    refine ⟨c, ?_⟩
    simp [cellB, h, ix_lst hd]
  · have hlt : ¬ ((j : Int) < (ns.length : Int)) := by omega
    simp only [cellB, evSsq_cons, evSq_ite, evq_cmp, evq_var, evq_blt, evsq_cons, evsq_nil, getV_zero, getV_succ, R.bind_ok, blD_len_lst, List.length_map, cmpD_lt, SR.of_ok, brD_bl, evSsq_nil, decide_eq_true_eq, if_neg hlt, andS_nx, evSq_set, evq_c, setT_nm, oS_some, List.set_cons_succ, List.set_cons_zero, evSq_for, evItq_seq, seqIt_lst, forR_ok]
    obtain ⟨ρ', e, s, o, rfl, h1, h2⟩ := forL_nx (f := turn (run T k) (.nm 3) cellL) (l := ns.map D.int)
      (fun _ ρ => ∃ (s : Int) (o : Option D), ρ = [some (.lst (ns.map D.int)), some (.int j), some (.int s), o] ∧ 0 ≤ s ∧ s < 1000003) (ρ0 := [some (.lst (ns.map D.int)), some (.int j), some (.int 17), none]) ⟨17, none, rfl, by omega, by omega⟩ (by
        rintro i d ρ hd ⟨s, o, rfl, h1, h2⟩
        rw [List.getElem?_map] at hd
        cases e : ns[i]? with
        | none => rw [e] at hd; cases hd
        | some c =>
          rw [e] at hd
          cases hd
          have hm : binD .mul (.int s) (.int 31) = .ok (.int (s * 31)) := mul_small (by omega) (by omega)
          have h3 := Int.emod_nonneg c (show (1000003 : Int) ≠ 0 by omega)
          refine ⟨_, ?_, (s * 31 + c % 1000003) % 1000003, some (.int c), rfl, Int.emod_nonneg _ (by omega), Int.emod_lt_of_pos _ (by omega)⟩
          simp only [cellL, turn_nm, List.set_cons_succ, List.set_cons_zero, evSsq_cons, evSq_set, evq_bin, evq_blt, evsq_cons, evsq_nil, evq_var, getV_succ, getV_zero, evq_c, R.bind_ok, hm, blD_int, mod_ok (show (0 : Int) < 1000003 by omega), binD_add, SR.of_ok, setT_nm, oS_some, andS_nx, evSsq_nil])
    rw [show List.replicate 2 (none : Option D) = [none, none] from rfl] 
    simp only [List.set_cons_zero, e, andS_nx, evSq_ret, evq_bin, evq_blt, evsq_cons, evsq_nil, evq_var, getV_succ, getV_zero, evq_c, R.bind_ok, binD_add]
    have hm1 : binD .mul (.int (s + 7)) (.int (j + 3)) = .ok (.int ((s + 7) * (j + 3))) := mul_small (by omega) (by omega)
    have hb1 : ((s + 7) * ((j : Int) + 3)).natAbs < 2 ^ 64 := by
      have : (s + 7) * ((j : Int) + 3) ≤ 1000010 * 1003 := Int.mul_le_mul (by omega) (by omega) (by omega) (by omega)
      have : 0 ≤ (s + 7) * ((j : Int) + 3) := Int.mul_nonneg (by omega) (by omega)
      omega
    have hm2 : binD .mul (.int ((s + 7) * (j + 3))) (.int 69621) = .ok (.int ((s + 7) * (j + 3) * 69621)) := mul_small hb1 (by omega)
    exact ⟨(s + 7) * (j + 3) * 69621 % 2147483647, by simp only [hm1, hm2, R.bind_ok, blD_int, mod_ok (show (0 : Int) < 2147483647 by omega), SR.of_ok, andS_rt, finish_rt]⟩
/-- the greatest common divisor by Euclid, both divided by it -/
theorem run_low (hT : T f = some fi) (hb : fi.body = lowB) (ha : fi.arity = 2) (hs : fi.slots = 5) (a b : Int) (hpos : 0 < b) (hbig : b.natAbs < 2 ^ 9000) (hi : fi.init = none := by rfl) (hself : fi.self = none := by rfl) :
    run T (k + 1) f [.int a, .int b] = .ok (.tup [.int (a / (Nat.gcd a.natAbs b.natAbs : Nat)), .int (b / (Nat.gcd a.natAbs b.natAbs : Nat))]) := by
  rw [run_fn hT (by rw [ha]; rfl) hi hself, hb, hs, startE2]
  rw [show List.replicate 3 (none : Option D) = [none, none, none] from rfl] 
  simp only [lowB, evSsq_cons, evSq_set, evq_blt, evsq_cons, evsq_nil, evq_var, getV_zero, getV_succ, R.bind_ok, blD_abs, SR.of_ok, setT_nm, oS_some, List.set_cons_succ, List.set_cons_zero, andS_nx, evSq_whl]
  have key := wh_gen (c := fun ρ => (ev (run T k) lowC ρ).bind tBool) (b := fun ρ => evSs (run T k) lowL ρ)
    (fun ρ => ∃ (x y : Int) (o : Option D), ρ = [some (.int a), some (.int b), some (.int x), some (.int y), o] ∧ 0 ≤ x ∧ 0 ≤ y ∧ (0 < x ∨ 0 < y) ∧ Nat.gcd x.natAbs y.natAbs = Nat.gcd a.natAbs b.natAbs)
    (fun ρ => match ρ with | [_, _, _, some (.int y), _] => y.natAbs | _ => 0)
    (fun r => ∃ o, r = .nx [some (.int a), some (.int b), some (.int (Nat.gcd a.natAbs b.natAbs : Nat)), some (.int 0), o])
    (ρ0 := [some (.int a), some (.int b), some (.int (if a < 0 then -a else a)), some (.int b), none])
    ⟨_, _, none, rfl, by split <;> omega, by omega, .inr hpos, by
      congr 1
      split <;> omega⟩
    (by
      rintro ρ ⟨x, y, o, rfl, hx, hy, hxy, hg⟩
      by_cases h0 : y = 0
      · subst h0
        refine .inl ⟨by simp [lowC], o, ?_⟩
        have e : (x : Int) = (Nat.gcd a.natAbs b.natAbs : Nat) := by
          rw [← hg]
          simp
          omega
        rw [← e]
      · refine .inr ⟨by simp [lowC, h0], .inl ⟨[some (.int a), some (.int b), some (.int y), some (.int (x % y)), some (.int (x % y))], .inl ?_, ⟨y, x % y, some (.int (x % y)), rfl, hy, Int.emod_nonneg _ h0, .inl (by omega), ?_⟩, ?_⟩⟩
        · simp only [lowL, evSsq_cons, evSq_set, evq_bin, evq_blt, evsq_cons, evsq_nil, evq_var, getV_succ, getV_zero, R.bind_ok, blD_int, mod_ok (show 0 < y by omega), SR.of_ok, setT_nm, oS_some, andS_nx, List.set_cons_succ, List.set_cons_zero, evSsq_nil]
        · rw [← hg]
          have e : (x % y).natAbs = x.natAbs % y.natAbs := by
            have h := Int.natAbs_emod_of_nonneg (b := y) hx
            exact h
          rw [e, Nat.gcd_comm, ← Nat.gcd_rec, Nat.gcd_comm]
        · show (x % y).natAbs < y.natAbs
          have h1 := Int.emod_lt_of_pos x (show 0 < y by omega)
          have h2 := Int.emod_nonneg x h0
          omega)
  obtain ⟨o, e⟩ := key
  have e' : wh (fun ρ => (ev (run T k) lowC ρ).bind tBool) (fun ρ => evSs (run T k) lowL ρ) [some (.int a), some (.int b), some (.int (if a < 0 then -a else a)), some (.int b), none] = .nx [some (.int a), some (.int b), some (.int (Nat.gcd a.natAbs b.natAbs : Nat)), some (.int 0), o] := e
  have hgp : 0 < Nat.gcd a.natAbs b.natAbs := Nat.gcd_pos_of_pos_right _ (by omega)
  have hgl : Nat.gcd a.natAbs b.natAbs ≤ b.natAbs := Nat.gcd_le_right _ (by omega)
  have hd : ∀ z : Int, binD .fdiv (.int z) (.int (Nat.gcd a.natAbs b.natAbs : Nat)) = .ok (.int (z / (Nat.gcd a.natAbs b.natAbs : Nat))) := fun z => div_ok (by omega) (Nat.lt_of_le_of_lt (by simpa using hgl) hbig)
  simp only [e', andS_nx, evSq_ret, evq_tup, evsq_cons, evsq_nil, evq_bin, evq_var, getV_succ, getV_zero, R.bind_ok, hd, SR.of_ok, andS_rt, finish_rt]
  rfl
theorem pow_18 : binD .pow (.int 10) (.int 18) = .ok (.int 1000000000000000000) := by rfl
/-- digits, each below its size -/
def DigOk (sizes ds : List Int) : Prop := ds.length ≤ sizes.length ∧ ∀ (i : Nat) (d s : Int), ds[i]? = some d → sizes[i]? = some s → 0 ≤ d ∧ d < s
theorem DigOk.snoc {sizes ds : List Int} {x s : Int} (h : DigOk sizes ds) (hs : sizes[ds.length]? = some s) (h1 : 0 ≤ x) (h2 : x < s) : DigOk sizes (ds ++ [x]) := by
  obtain ⟨hl, _⟩ := List.getElem?_eq_some_iff.mp hs
  refine ⟨by rw [List.length_append, List.length_singleton]; omega, fun i d s' e1 e2 => ?_⟩
  by_cases z : i < ds.length
  · rw [List.getElem?_append_left z] at e1
    exact h.2 i d s' e1 e2
  · rw [List.getElem?_append_right (by omega)] at e1
    have z2 : i = ds.length := by
      by_cases y : i = ds.length
      · exact y
      · rw [List.getElem?_eq_none (by rw [List.length_singleton]; omega)] at e1
        cases e1
    subst z2
    rw [Nat.sub_self] at e1
    cases e1
    rw [hs] at e2
    cases e2
    exact ⟨h1, h2⟩
theorem run_digits (hT : T f = some fi) (hb : fi.body = digB) (ha : fi.arity = 2) (hs : fi.slots = 8) (c : Int) (sizes : List Int) (hz : ∀ s ∈ sizes, 0 < s ∧ s < 18446744073709551616) (hl : sizes.length ≤ 1000) (hi : fi.init = none := by rfl) (hself : fi.self = none := by rfl) :
    ∃ ds : List Int, run T (k + 1) f [.int c, .lst (sizes.map D.int)] = .ok (.lst (ds.map D.int)) ∧ ds.length = sizes.length ∧ DigOk sizes ds := by
  rw [run_fn hT (by rw [ha]; rfl) hi hself, hb, hs, startE2]
  rw [show List.replicate 6 (none : Option D) = [none, none, none, none, none, none] from rfl]
  have len0 : (lenOk ([] : List D).length) = true := rfl
  simp only [digB, evSsq_cons, evSq_setO, evq_lst, evsq_nil, R.bind_ok, len0, if_true, SR.of_ok, isO, List.set_cons_succ, List.set_cons_zero, andS_nx, evSq_set, evq_blt, evsq_cons, evq_var, getV_zero, getV_succ, blD_int, setT_nm, oS_some, evSq_ite, evq_cmp, evq_bin, evq_c, pow_18, cmpD_ge, brD_bl]
  have lenA : ∀ ds : List Int, ds.length ≤ 1000 → lenOk ((ds.map D.int).length + 1) = true := fun ds h => decide_eq_true (by rw [List.length_map]; exact Nat.le_trans (Nat.succ_le_succ h) (by decide))
  by_cases h : (1000000000000000000 : Int) ≤ c
  · rw [decide_eq_true h, if_pos rfl]
    obtain ⟨ρ', e, ds, r, o, rfl, h1, h2⟩ := forL_nx (f := turn (run T k) (.nm 4) digL1) (l := sizes.map D.int)
      (fun i ρ => ∃ (ds : List Int) (r : Int) (o : Option D), ρ = [some (.int c), some (.lst (sizes.map D.int)), some (.lst (ds.map D.int)), some (.int r), o, none, none, none] ∧ ds.length = i ∧ DigOk sizes ds) (ρ0 := [some (.int c), some (.lst (sizes.map D.int)), some (.lst []), some (.int (c - 1000000000000000000)), none, none, none, none])
      ⟨[], _, none, rfl, rfl, by simp [DigOk]⟩ (by
        rintro i d ρ hd ⟨ds, r, o, rfl, h1, h2⟩
        rw [List.getElem?_map] at hd
        cases e : sizes[i]? with
        | none => rw [e] at hd; cases hd
        | some s =>
          rw [e] at hd
          cases hd
          obtain ⟨hp, hb⟩ := hz s (List.mem_of_getElem? e)
          obtain ⟨hil, _⟩ := List.getElem?_eq_some_iff.mp e
          refine ⟨_, ?_, ds ++ [r % s], r / s, some (.int s), rfl, by rw [List.length_append, List.length_singleton, h1], h2.snoc (by rw [h1]; exact e) (Int.emod_nonneg _ (by omega)) (Int.emod_lt_of_pos _ hp)⟩
          simp only [digL1, turn_nm, List.set_cons_succ, List.set_cons_zero, evSsq_cons, evSq_app, List.getElem?_cons_succ, List.getElem?_cons_zero, appL_some, evq_bin, evq_blt, evsq_cons, evsq_nil, evq_var, getV_succ, getV_zero, R.bind_ok, blD_int, mod_ok hp, SR.of_ok, lenA ds (by omega), if_true, andS_nx, evSq_set, div_small hp hb, setT_nm, oS_some, evSsq_nil, List.map_append, List.map_cons, List.map_nil])
    refine ⟨ds, ?_, by rw [h1, List.length_map], h2⟩
    simp only [evSsq_cons, evSq_set, evq_bin, evq_var, getV_succ, getV_zero, R.bind_ok, evq_c, pow_18, binD_sub, SR.of_ok, setT_nm, oS_some, andS_nx, List.set_cons_succ, List.set_cons_zero, evSq_for, evItq_seq, seqIt_lst, forR_ok, e, evSq_ret, andS_rt, finish_rt]
  · rw [decide_eq_false h, if_neg Bool.false_ne_true]
    have m1 : (0 : Int) < 2147483629 := by omega
    have m2 : (0 : Int) < 2147483647 := by omega
    obtain ⟨ρ', e, ds, sd, o, o2, rfl, h1, h2, _⟩ := forL_nx (f := turn (run T k) (.nm 6) digL2) (l := rngD 0 (sizes.map D.int).length)
      (fun i ρ => ∃ (ds : List Int) (sd : Int) (o o2 : Option D), ρ = [some (.int c), some (.lst (sizes.map D.int)), some (.lst (ds.map D.int)), some (.int c), none, some (.int sd), o, o2] ∧ ds.length = i ∧ DigOk sizes ds ∧ 0 ≤ sd ∧ sd < 2147483647) (ρ0 := [some (.int c), some (.lst (sizes.map D.int)), some (.lst []), some (.int c), none, some (.int (c % 2147483629)), none, none])
      ⟨[], _, none, none, rfl, rfl, by simp [DigOk], Int.emod_nonneg _ (by omega), by have := Int.emod_lt_of_pos c m1; omega⟩ (by
        rintro i d ρ hd ⟨ds, sd, o, o2, rfl, h1, h2, h3, h4⟩
        obtain ⟨rfl, hlt⟩ := rngD_get hd
        rw [List.length_map] at hlt
        have hil : i < sizes.length := by omega
        obtain ⟨s, e⟩ : ∃ s, sizes[i]? = some s := ⟨sizes[i], List.getElem?_eq_getElem hil⟩
        obtain ⟨hp, hb⟩ := hz s (List.mem_of_getElem? e)
        have hix : ixD (.lst (sizes.map D.int)) (.int (0 + (i : Int))) = .ok (.int s) := by
          rw [Int.zero_add]
          exact ix_lst (by rw [List.getElem?_map, e]; rfl)
        have q1 : binD .mul (.int sd) (.int 48271) = .ok (.int (sd * 48271)) := mul_small (by omega) (by omega)
        have q2 : binD .mul (.int 974711) (.int (0 + (i : Int))) = .ok (.int (974711 * (0 + (i : Int)))) := mul_small (by omega) (by omega)
        generalize hs2 : (sd * 48271 + 974711 * (0 + (i : Int)) + 12345) % 2147483647 = s2
        have b1 : 0 ≤ s2 := by rw [← hs2]; exact Int.emod_nonneg _ (by omega)
        have b2 : s2 < 2147483647 := by rw [← hs2]; exact Int.emod_lt_of_pos _ m2
        have b3 : 0 ≤ s2 / 65537 := Int.ediv_nonneg b1 (by omega)
        have b4 : s2 / 65537 ≤ 2147483647 := by omega
        have q3 : binD .mul (.int s2) (.int (s2 / 65537 + 3)) = .ok (.int (s2 * (s2 / 65537 + 3))) := mul_small (by omega) (by omega)
        refine ⟨_, ?_, ds ++ [s2 * (s2 / 65537 + 3) % 2147483629 / 19 % s], s2, some (.int (0 + i)), some (.int (s2 * (s2 / 65537 + 3) % 2147483629)), rfl, by rw [List.length_append, List.length_singleton, h1], h2.snoc (by rw [h1]; exact e) (Int.emod_nonneg _ (by omega)) (Int.emod_lt_of_pos _ hp), b1, b2⟩
        simp only [digL2, turn_nm, List.set_cons_succ, List.set_cons_zero, evSsq_cons, evSq_set, evq_bin, evq_blt, evsq_cons, evsq_nil, evq_var, getV_succ, getV_zero, evq_c, R.bind_ok, q1, q2, binD_add, blD_int, mod_ok m2, hs2, SR.of_ok, setT_nm, oS_some, andS_nx, div_small (show (0 : Int) < 65537 by omega) (by omega), q3, mod_ok m1, evSq_app, List.getElem?_cons_succ, List.getElem?_cons_zero, appL_some, div_small (show (0 : Int) < 19 by omega) (by omega), evq_ix, hix, mod_ok hp, lenA ds (by omega), if_true, evSsq_nil, List.map_append, List.map_cons, List.map_nil])
    refine ⟨ds, ?_, by rw [h1, rngD_len, List.length_map]; omega, h2⟩
    have hr : rngIt (.int 0) (.int ((sizes.map D.int).length : Nat)) = .ok (rngD 0 (sizes.map D.int).length) := rngIt_ok (by omega) (by omega) (by omega) (by rw [List.length_map]; omega)
    simp only [evSsq_nil, andS_nx, evSsq_cons, evSq_set, evq_bin, evq_blt, evsq_cons, evsq_nil, evq_var, getV_succ, getV_zero, R.bind_ok, blD_int, evq_c, mod_ok m1, SR.of_ok, setT_nm, oS_some, List.set_cons_succ, List.set_cons_zero, evSq_for, evItq_rng, blD_len_lst, hr, forR_ok, e, evSq_ret, andS_rt, finish_rt]
end
end Pv
set_option Elab.async false
set_option linter.all false
set_option maxRecDepth 100000
set_option maxHeartbeats 2000000
namespace K28a
open PySem PySem.Spec PyProof.Rows L2 Pv
def top (i : Nat) : Stmt := PySem.Challenge.pw_twicewaited_k28_greatest_spread.main.body.getD i (.Pass ⟨0, 0, 0, 0⟩)
abbrev n0 : List Str := ["numbers", "lot", "k"]
/-- lot_sum -/
def e0_1 : E := .ix (.var 0) (.var 2)
def t0 : Ss := .cons (.ret (.blt .sum (.cons (.lc e0_1 (.nm 2) (.seq (.var 1)) (.nil) [2]) (.nil)))) .nil
abbrev n1 : List Str := ["numbers", "lot", "k"]
/-- lot_squares -/
def e1_1 : E := .bin .mul (.ix (.var 0) (.var 2)) (.ix (.var 0) (.var 2))
def t1 : Ss := .cons (.ret (.blt .sum (.cons (.lc e1_1 (.nm 2) (.seq (.var 1)) (.nil) [2]) (.nil)))) .nil
abbrev n2 : List Str := ["top", "bottom", "divisor"]
/-- lowest -/
def t2 : Ss := .cons (.set (.nm 2) (.blt .gcd (.cons (.var 0) (.cons (.var 1) (.nil))))) (.cons (.ret (.tup (.cons (.bin .fdiv (.var 0) (.var 2)) (.cons (.bin .fdiv (.var 1) (.var 2)) (.nil))))) .nil)
abbrev n3 : List Str := ["top", "bottom"]
/-- ratio -/
def t3 : Ss := .cons (.ite (.cmp .eq (.var 1) (.c (.int 0))) (.cons (.rais "BadAmount" ["value"] (.cons (.tup (.cons (.var 0) (.cons (.var 1) (.nil)))) (.nil))) .nil) (.nil)) (.cons (.ite (.cmp .lt (.var 1) (.c (.int 0))) (.cons (.ret (.call 2 (.cons (.neg (.var 0)) (.cons (.neg (.var 1)) (.nil))))) .nil) (.nil)) (.cons (.ret (.call 2 (.cons (.var 0) (.cons (.var 1) (.nil))))) .nil))
abbrev n4 : List Str := ["one", "two"]
/-- less -/
def t4 : Ss := .cons (.ret (.cmp .lt (.bin .mul (.ix (.var 0) (.c (.int 0))) (.ix (.var 1) (.c (.int 1)))) (.bin .mul (.ix (.var 1) (.c (.int 0))) (.ix (.var 0) (.c (.int 1)))))) .nil
abbrev n5 : List Str := ["weights", "lot", "weight"]
/-- spread_of -/
def t5 : Ss := .cons (.set (.nm 2) (.call 0 (.cons (.var 0) (.cons (.var 1) (.nil))))) (.cons (.ret (.call 3 (.cons (.bin .mul (.var 2) (.var 2)) (.cons (.call 1 (.cons (.var 0) (.cons (.var 1) (.nil)))) (.nil))))) .nil)
abbrev n6 : List Str := ["weights", "chosen", "limit", "lot", "k"]
/-- best_lot -/
def e6_1 : E := .cmp .le (.ix (.var 0) (.var 4)) (.var 2)
def e6_2 : E := .var 4
def b6_3 : Ss := .cons (.set (.nm 3) (.blt .tuple (.cons (.lc e6_2 (.nm 4) (.rng (.c (.int 0)) (.blt .len (.cons (.var 0) (.nil)))) (.cons e6_1 .nil) [4]) (.nil)))) (.cons (.ite (.or (.cmp .isN (.var 1) (.c .non)) (.call 4 (.cons (.call 5 (.cons (.var 0) (.cons (.var 1) (.nil)))) (.cons (.call 5 (.cons (.var 0) (.cons (.var 3) (.nil)))) (.nil))))) (.cons (.set (.nm 1) (.var 3)) (.nil)) (.nil)) (.nil))
def t6 : Ss := .cons (.ite (.cmp .eq (.blt .len (.cons (.var 0) (.nil))) (.c (.int 0))) (.cons (.rais "NoJobs" [] .nil) .nil) (.nil)) (.cons (.set (.nm 1) (.c .non)) (.cons (.for_ (.nm 2) (.seq (.blt .sorted (.cons (.var 0) (.nil)))) b6_3) (.cons (.ret (.var 1)) .nil)))
abbrev n7 : List Str := ["weights"]
/-- greatest_spread -/
def t7 : Ss := .cons (.ret (.call 5 (.cons (.var 0) (.cons (.call 6 (.cons (.var 0) (.nil))) (.nil))))) .nil
abbrev n8 : List Str := ["weights", "top", "bottom"]
/-- least_factor -/
def t8 : Ss := .cons (.set (.tp (.cons (.nm 1) (.cons (.nm 2) (.nil)))) (.call 7 (.cons (.var 0) (.nil)))) (.cons (.ret (.call 3 (.cons (.bin .mul (.c (.int 2)) (.var 1)) (.cons (.bin .add (.var 1) (.var 2)) (.nil))))) .nil)
abbrev n9 : List Str := ["value"]
/-- _law_whole -/
def t9 : Ss := .cons (.ret (.and (.isi (.var 0) ["int"]) (.not (.isi (.var 0) ["bool"])))) .nil
abbrev n10 : List Str := ["script", "k", "seed", "cell"]
/-- _law_cell -/
def b10_1 : Ss := .cons (.set (.nm 2) (.bin .mod (.blt .int (.cons (.bin .add (.bin .mul (.var 2) (.c (.int 31))) (.bin .mod (.blt .int (.cons (.var 3) (.nil))) (.c (.int 1000003)))) (.nil))) (.c (.int 1000003)))) (.nil)
def t10 : Ss := .cons (.ite (.cmp .lt (.var 1) (.blt .len (.cons (.var 0) (.nil)))) (.cons (.ret (.ix (.var 0) (.var 1))) .nil) (.nil)) (.cons (.set (.nm 2) (.c (.int 17))) (.cons (.for_ (.nm 3) (.seq (.var 0)) b10_1) (.cons (.ret (.bin .mod (.blt .int (.cons (.bin .mul (.bin .mul (.bin .add (.var 2) (.c (.int 7))) (.bin .add (.var 1) (.c (.int 3)))) (.c (.int 69621))) (.nil))) (.c (.int 2147483647)))) .nil)))
abbrev n11 : List Str := ["cell", "sizes", "row", "rest", "size", "seed", "k", "twice"]
/-- _law_digits -/
def b11_1 : Ss := .cons (.app 2 (.bin .mod (.blt .int (.cons (.var 3) (.nil))) (.var 4))) (.cons (.set (.nm 3) (.bin .fdiv (.blt .int (.cons (.var 3) (.nil))) (.var 4))) (.nil))
def b11_2 : Ss := .cons (.set (.nm 5) (.bin .mod (.blt .int (.cons (.bin .add (.bin .add (.bin .mul (.var 5) (.c (.int 48271))) (.bin .mul (.c (.int 974711)) (.var 6))) (.c (.int 12345))) (.nil))) (.c (.int 2147483647)))) (.cons (.set (.nm 7) (.bin .mod (.blt .int (.cons (.bin .mul (.var 5) (.bin .add (.bin .fdiv (.var 5) (.c (.int 65537))) (.c (.int 3)))) (.nil))) (.c (.int 2147483629)))) (.cons (.app 2 (.bin .mod (.bin .fdiv (.var 7) (.c (.int 19))) (.ix (.var 1) (.var 6)))) (.nil)))
def t11 : Ss := .cons (.setO 2 (.lst (.nil))) (.cons (.set (.nm 3) (.blt .int (.cons (.var 0) (.nil)))) (.cons (.ite (.cmp .ge (.var 3) (.bin .pow (.c (.int 10)) (.c (.int 18)))) (.cons (.set (.nm 3) (.bin .sub (.var 3) (.bin .pow (.c (.int 10)) (.c (.int 18))))) (.cons (.for_ (.nm 4) (.seq (.var 1)) b11_1) (.cons (.ret (.var 2)) .nil))) (.nil)) (.cons (.set (.nm 5) (.bin .mod (.blt .int (.cons (.var 3) (.nil))) (.c (.int 2147483629)))) (.cons (.for_ (.nm 6) (.rng (.c (.int 0)) (.blt .len (.cons (.var 1) (.nil)))) b11_2) (.cons (.ret (.var 2)) .nil)))))
abbrev n12 : List Str := ["top", "bottom", "one", "other", "rest"]
/-- _law_low -/
def e12_1 : E := .cmp .ne (.var 3) (.c (.int 0))
def b12_2 : Ss := .cons (.set (.nm 4) (.bin .mod (.blt .int (.cons (.var 2) (.nil))) (.var 3))) (.cons (.set (.nm 2) (.var 3)) (.cons (.set (.nm 3) (.var 4)) (.nil)))
def t12 : Ss := .cons (.set (.nm 2) (.blt .abs (.cons (.var 0) (.nil)))) (.cons (.set (.nm 3) (.var 1)) (.cons (.whl e12_1 b12_2) (.cons (.ret (.tup (.cons (.bin .fdiv (.var 0) (.var 2)) (.cons (.bin .fdiv (.var 1) (.var 2)) (.nil))))) .nil)))
abbrev n13 : List Str := ["told", "due", "k"]
/-- _law_alike -/
def b13_1 : Ss := .cons (.ite (.not (.call 13 (.cons (.ix (.var 0) (.var 2)) (.cons (.ix (.var 1) (.var 2)) (.nil))))) (.cons (.ret (.c (.bl false))) .nil) (.nil)) (.nil)
def t13 : Ss := .cons (.ite (.cmp .isN (.var 1) (.c .non)) (.cons (.ret (.cmp .isN (.var 0) (.c .non))) .nil) (.nil)) (.cons (.ite (.isi (.var 1) ["tuple"]) (.cons (.ite (.or (.not (.isi (.var 0) ["tuple"])) (.cmp .ne (.blt .len (.cons (.var 0) (.nil))) (.blt .len (.cons (.var 1) (.nil))))) (.cons (.ret (.c (.bl false))) .nil) (.nil)) (.cons (.for_ (.nm 2) (.rng (.c (.int 0)) (.blt .len (.cons (.var 1) (.nil)))) b13_1) (.cons (.ret (.c (.bl true))) .nil))) (.nil)) (.cons (.ite (.isi (.var 1) ["str"]) (.cons (.ret (.and (.isi (.var 0) ["str"]) (.cmp .eq (.var 0) (.var 1)))) .nil) (.nil)) (.cons (.ret (.and (.call 9 (.cons (.var 0) (.nil))) (.cmp .eq (.var 0) (.var 1)))) .nil)))
abbrev n14 : List Str := ["row", "total", "squares", "weight"]
/-- _law_tie -/
def e14_1 : E := .bin .mul (.var 3) (.var 3)
def t14 : Ss := .cons (.set (.nm 1) (.blt .sum (.cons (.var 0) (.nil)))) (.cons (.set (.nm 2) (.blt .sum (.cons (.lc e14_1 (.nm 3) (.seq (.var 0)) (.nil) [3]) (.nil)))) (.cons (.ret (.call 12 (.cons (.bin .mul (.bin .mul (.c (.int 2)) (.var 1)) (.var 2)) (.cons (.bin .sub (.bin .mul (.var 1) (.var 1)) (.var 2)) (.nil))))) .nil))
abbrev n15 : List Str := ["digits", "row", "small", "scale", "k", "tie", "weight"]
/-- _law_planted -/
def e15_1 : E := .bin .mul (.bin .add (.c (.int 1)) (.ix (.var 0) (.c (.int 2)))) (.ix (.lst (.cons (.c (.int 1)) (.cons (.c (.int 1)) (.cons (.c (.int 3)) (.cons (.c (.int 2)) (.cons (.c (.int 5)) (.cons (.c (.int 3)) (.nil)))))))) (.ix (.var 0) (.c (.int 1))))
def e15_2 : E := .bin .add (.c (.int 1)) (.ix (.var 0) (.bin .add (.c (.int 3)) (.var 4)))
def e15_3 : E := .bin .mul (.var 6) (.var 3)
def b15_4 : Ss := .cons (.set (.nm 5) (.callB 14 false (.cons (.var 1) (.nil)))) (.cons (.ite (.or (.cmp .ge (.blt .len (.cons (.var 1) (.nil))) (.c (.int 12))) (.or (.cmp .ne (.ix (.var 5) (.c (.int 1))) (.c (.int 1))) (.cmp .gt (.ix (.var 5) (.c (.int 0))) (.c (.int 999))))) (.cons (.brk) .nil) (.nil)) (.cons (.app 1 (.ix (.var 5) (.c (.int 0)))) (.nil)))
def b15_5 : Ss := .cons (.ite (.cmp .lt (.blt .len (.cons (.var 1) (.nil))) (.c (.int 12))) (.cons (.app 1 (.bin .add (.c (.int 900)) (.ix (.var 0) (.bin .add (.c (.int 11)) (.var 4))))) (.nil)) (.nil)) (.nil)
def t15 : Ss := .cons (.setO 1 (.lc e15_1 (.nm 4) (.rng (.c (.int 0)) (.bin .add (.c (.int 2)) (.ix (.var 0) (.c (.int 1))))) (.nil) [4])) (.cons (.ite (.cmp .eq (.ix (.var 0) (.c (.int 0))) (.c (.int 1))) (.cons (.set (.nm 2) (.lc e15_2 (.nm 4) (.rng (.c (.int 0)) (.bin .add (.c (.int 2)) (.ix (.var 0) (.c (.int 7))))) (.nil) [4])) (.cons (.set (.nm 3) (.ix (.call 14 (.cons (.var 2) (.nil))) (.c (.int 1)))) (.cons (.ite (.cmp .le (.bin .mul (.c (.int 6)) (.var 3)) (.c (.int 999))) (.cons (.setO 1 (.lc e15_3 (.nm 6) (.seq (.var 2)) (.nil) [6])) (.nil)) (.nil)) (.nil)))) (.nil)) (.cons (.for_ (.nm 4) (.rng (.c (.int 0)) (.bin .add (.c (.int 1)) (.ix (.var 0) (.c (.int 8))))) b15_4) (.cons (.ite (.and (.cmp .ge (.ix (.var 0) (.c (.int 9))) (.c (.int 4))) (.chain .lt .lt (.c (.int 1)) (.ix (.var 1) (.neg (.c (.int 1)))) (.c (.int 999)))) (.cons (.setIx 1 (.neg (.c (.int 1))) (.bin .sub (.bin .add (.ix (.var 1) (.neg (.c (.int 1)))) (.bin .mul (.c (.int 2)) (.ix (.var 0) (.c (.int 9))))) (.c (.int 9)))) (.nil)) (.nil)) (.cons (.for_ (.nm 4) (.rng (.c (.int 0)) (.blt .max2 (.cons (.c (.int 0)) (.cons (.bin .sub (.ix (.var 0) (.c (.int 10))) (.c (.int 2))) (.nil))))) b15_5) (.cons (.ret (.var 1)) .nil)))))
abbrev n16 : List Str := ["digits", "count", "k"]
/-- _law_free -/
def e16_1 : E := .bin .add (.c (.int 1)) (.bin .mod (.blt .int (.cons (.ix (.var 0) (.bin .add (.c (.int 2)) (.bin .mul (.c (.int 2)) (.var 2)))) (.nil))) (.ix (.lst (.cons (.c (.int 9)) (.cons (.c (.int 60)) (.cons (.c (.int 999)) (.nil))))) (.ix (.var 0) (.bin .add (.c (.int 1)) (.bin .mul (.c (.int 2)) (.var 2))))))
def t16 : Ss := .cons (.set (.nm 1) (.ix (.lst (.cons (.c (.int 3)) (.cons (.c (.int 5)) (.cons (.c (.int 12)) (.cons (.c (.int 4)) (.cons (.c (.int 12)) (.cons (.c (.int 2)) (.cons (.c (.int 6)) (.cons (.c (.int 1)) (.cons (.c (.int 7)) (.cons (.c (.int 12)) (.cons (.c (.int 9)) (.cons (.c (.int 10)) (.cons (.c (.int 11)) (.cons (.c (.int 4)) (.cons (.c (.int 12)) (.cons (.c (.int 6)) (.cons (.c (.int 12)) (.cons (.c (.int 3)) (.cons (.c (.int 8)) (.cons (.c (.int 12)) (.cons (.c (.int 7)) (.cons (.c (.int 12)) (.cons (.c (.int 12)) (.cons (.c (.int 1)) (.nil)))))))))))))))))))))))))) (.ix (.var 0) (.c (.int 0))))) (.cons (.ret (.lc e16_1 (.nm 2) (.rng (.c (.int 0)) (.var 1)) (.nil) [2])) .nil)
abbrev n17 : List Str := ["row", "digits", "turned", "k", "place"]
/-- _law_turned -/
def b17_1 : Ss := .cons (.set (.nm 4) (.bin .mod (.blt .int (.cons (.ix (.var 1) (.var 3)) (.nil))) (.bin .add (.blt .len (.cons (.var 2) (.nil))) (.c (.int 1))))) (.cons (.set (.nm 2) (.bin .add (.bin .add (.sl (.var 2) (.c .non) (.var 4)) (.lst (.cons (.ix (.var 0) (.var 3)) (.nil)))) (.sl (.var 2) (.var 4) (.c .non)))) (.nil))
def t17 : Ss := .cons (.set (.nm 2) (.lst (.nil))) (.cons (.for_ (.nm 3) (.rng (.c (.int 0)) (.blt .len (.cons (.var 0) (.nil)))) b17_1) (.cons (.ret (.var 2)) .nil))
abbrev n18 : List Str := ["row", "totals", "squares", "counts", "weight", "chosen", "rank", "gap", "lot", "rest", "k", "top", "total", "square", "many"]
/-- _law_due -/
def e18_1 : E := .bin .add (.var 12) (.var 4)
def e18_2 : E := .bin .add (.var 13) (.bin .mul (.var 4) (.var 4))
def e18_3 : E := .bin .add (.var 14) (.c (.int 1))
def b18_4 : Ss := .cons (.set (.nm 1) (.bin .add (.var 1) (.lc e18_1 (.nm 12) (.seq (.var 1)) (.nil) [12]))) (.cons (.set (.nm 2) (.bin .add (.var 2) (.lc e18_2 (.nm 13) (.seq (.var 2)) (.nil) [13]))) (.cons (.set (.nm 3) (.bin .add (.var 3) (.lc e18_3 (.nm 14) (.seq (.var 3)) (.nil) [14]))) (.nil)))
def b18_5 : Ss := .cons (.set (.nm 7) (.bin .sub (.bin .mul (.bin .mul (.ix (.var 1) (.var 6)) (.ix (.var 1) (.var 6))) (.ix (.var 2) (.var 5))) (.bin .mul (.bin .mul (.ix (.var 1) (.var 5)) (.ix (.var 1) (.var 5))) (.ix (.var 2) (.var 6))))) (.cons (.ite (.or (.cmp .gt (.var 7) (.c (.int 0))) (.and (.cmp .eq (.var 7) (.c (.int 0))) (.cmp .lt (.ix (.var 3) (.var 6)) (.ix (.var 3) (.var 5))))) (.cons (.set (.nm 5) (.var 6)) (.nil)) (.nil)) (.nil))
def b18_6 : Ss := .cons (.ite (.cmp .eq (.bin .mod (.blt .int (.cons (.var 9) (.nil))) (.c (.int 2))) (.c (.int 1))) (.cons (.app 8 (.var 10)) (.nil)) (.nil)) (.cons (.set (.nm 9) (.bin .fdiv (.var 9) (.c (.int 2)))) (.nil))
def t18 : Ss := .cons (.set (.nm 1) (.lst (.cons (.c (.int 0)) (.nil)))) (.cons (.set (.nm 2) (.lst (.cons (.c (.int 0)) (.nil)))) (.cons (.set (.nm 3) (.lst (.cons (.c (.int 0)) (.nil)))) (.cons (.for_ (.nm 4) (.seq (.var 0)) b18_4) (.cons (.set (.nm 5) (.c (.int 1))) (.cons (.for_ (.nm 6) (.rng (.c (.int 2)) (.blt .len (.cons (.var 1) (.nil)))) b18_5) (.cons (.setO 8 (.lst (.nil))) (.cons (.set (.nm 9) (.var 5)) (.cons (.for_ (.nm 10) (.rng (.c (.int 0)) (.blt .len (.cons (.var 0) (.nil)))) b18_6) (.cons (.set (.nm 11) (.bin .mul (.ix (.var 1) (.var 5)) (.ix (.var 1) (.var 5)))) (.cons (.ret (.lst (.cons (.call 12 (.cons (.var 11) (.cons (.ix (.var 2) (.var 5)) (.nil)))) (.cons (.blt .tuple (.cons (.var 8) (.nil))) (.cons (.call 12 (.cons (.bin .mul (.c (.int 2)) (.var 11)) (.cons (.bin .add (.var 11) (.ix (.var 2) (.var 5))) (.nil)))) (.nil)))))) .nil))))))))))
abbrev n19 : List Str := ["row", "due", "as_list", "handed", "factor", "lot", "spread"]
/-- _law_right -/
def t19 : Ss := .cons (.set (.nm 3) (.blt .tuple (.cons (.var 0) (.nil)))) (.cons (.ite (.var 2) (.cons (.set (.nm 3) (.blt .list (.cons (.var 0) (.nil)))) (.nil)) (.nil)) (.cons (.set (.nm 4) (.call 8 (.cons (.var 3) (.nil)))) (.cons (.set (.nm 5) (.call 6 (.cons (.var 3) (.nil)))) (.cons (.set (.nm 6) (.call 7 (.cons (.var 3) (.nil)))) (.cons (.ite (.or (.not (.call 13 (.cons (.var 6) (.cons (.ix (.var 1) (.c (.int 0))) (.nil))))) (.or (.not (.call 13 (.cons (.var 5) (.cons (.ix (.var 1) (.c (.int 1))) (.nil))))) (.not (.call 13 (.cons (.var 4) (.cons (.ix (.var 1) (.c (.int 2))) (.nil))))))) (.cons (.ret (.c (.bl false))) .nil) (.nil)) (.cons (.ret (.and (.cmp .eq (.blt .len (.cons (.var 3) (.nil))) (.blt .len (.cons (.var 0) (.nil)))) (.cmp .eq (.blt .list (.cons (.var 3) (.nil))) (.var 0)))) .nil))))))
abbrev n20 : List Str := ["which", "handed", "e", "others"]
/-- _law_refused -/
def t20 : Ss := .cons (.try_ (.cons (.ite (.cmp .eq (.var 0) (.c (.int 0))) (.cons (.ex (.call 7 (.cons (.var 1) (.nil)))) (.nil)) (.cons (.ite (.cmp .eq (.var 0) (.c (.int 1))) (.cons (.ex (.call 6 (.cons (.var 1) (.nil)))) (.nil)) (.cons (.ex (.call 8 (.cons (.var 1) (.nil)))) (.nil))) (.nil))) (.nil)) (.cons "CounterError" (some 2) (.cons (.set (.nm 3) (.or (.xisi 2 [.c "BadAmount"]) (.or (.xisi 2 [.c "BadCount"]) (.or (.xisi 2 [.c "NotAtOnce"]) (.xisi 2 [.c "NotBelow"]))))) (.cons (.ret (.and (.xisi 2 [.c "NoJobs"]) (.and (.xisi 2 [.c "ValueError"]) (.not (.var 3))))) .nil)) .nil)) (.cons (.ret (.c (.bl false))) .nil)
abbrev n21 : List Str := ["script", "digits", "row", "moved", "shift", "place", "second", "due", "as_list", "which"]
/-- law -/
def b21_1 : Ss := .cons (.ite (.or (.not (.call 20 (.cons (.var 9) (.cons (.lst (.nil)) (.nil))))) (.not (.call 20 (.cons (.var 9) (.cons (.tup (.nil)) (.nil)))))) (.cons (.ret (.c (.bl false))) .nil) (.nil)) (.nil)
def t21 : Ss := .cons (.set (.nm 1) (.call 11 (.cons (.call 10 (.cons (.var 0) (.cons (.c (.int 0)) (.nil)))) (.cons (.lst (.cons (.c (.int 3)) (.cons (.c (.int 2)) (.cons (.c (.int 6)) (.cons (.c (.int 10)) (.cons (.c (.int 6)) (.cons (.c (.int 6)) (.cons (.c (.int 6)) (.cons (.c (.int 6)) (.cons (.c (.int 3)) (.cons (.c (.int 9)) (.cons (.c (.int 6)) (.cons (.c (.int 6)) (.cons (.c (.int 100)) (.cons (.c (.int 100)) (.cons (.c (.int 100)) (.nil))))))))))))))))) (.nil))))) (.cons (.set (.nm 2) (.call 16 (.cons (.call 11 (.cons (.call 10 (.cons (.var 0) (.cons (.c (.int 1)) (.nil)))) (.cons (.bin .add (.lst (.cons (.c (.int 24)) (.nil))) (.rep (.lst (.cons (.c (.int 3)) (.cons (.c (.int 999)) (.nil)))) (.c (.int 12)))) (.nil)))) (.nil)))) (.cons (.ite (.cmp .gt (.ix (.var 1) (.c (.int 0))) (.c (.int 0))) (.cons (.set (.nm 2) (.call 15 (.cons (.sl (.var 1) (.c (.int 1)) (.c .non)) (.nil)))) (.nil)) (.nil)) (.cons (.set (.nm 2) (.call 17 (.cons (.var 2) (.cons (.call 11 (.cons (.call 10 (.cons (.var 0) (.cons (.c (.int 2)) (.nil)))) (.cons (.rep (.lst (.cons (.c (.int 13)) (.nil))) (.c (.int 12))) (.nil)))) (.nil))))) (.cons (.set (.nm 3) (.call 11 (.cons (.call 10 (.cons (.var 0) (.cons (.c (.int 3)) (.nil)))) (.cons (.lst (.cons (.c (.int 2)) (.cons (.c (.int 12)) (.cons (.c (.int 2)) (.cons (.c (.int 998)) (.nil)))))) (.nil))))) (.cons (.set (.nm 4) (.bin .add (.c (.int 1)) (.ix (.var 3) (.c (.int 3))))) (.cons (.ite (.cmp .eq (.ix (.var 3) (.c (.int 2))) (.c (.int 1))) (.cons (.set (.nm 4) (.ix (.lst (.cons (.c (.int 1)) (.cons (.c (.int 998)) (.nil)))) (.bin .mod (.blt .int (.cons (.ix (.var 3) (.c (.int 3))) (.nil))) (.c (.int 2))))) (.nil)) (.nil)) (.cons (.set (.nm 5) (.bin .mod (.blt .int (.cons (.ix (.var 3) (.c (.int 1))) (.nil))) (.blt .len (.cons (.var 2) (.nil))))) (.cons (.setO 6 (.blt .list (.cons (.var 2) (.nil)))) (.cons (.setIx 6 (.var 5) (.bin .add (.c (.int 1)) (.bin .mod (.blt .int (.cons (.bin .add (.bin .sub (.ix (.var 2) (.var 5)) (.c (.int 1))) (.var 4)) (.nil))) (.c (.int 999))))) (.cons (.set (.nm 7) (.call 18 (.cons (.var 2) (.nil)))) (.cons (.set (.nm 8) (.cmp .eq (.ix (.var 3) (.c (.int 0))) (.c (.int 1)))) (.cons (.ite (.or (.not (.call 19 (.cons (.var 2) (.cons (.var 7) (.cons (.var 8) (.nil)))))) (.not (.call 19 (.cons (.var 6) (.cons (.call 18 (.cons (.var 6) (.nil))) (.cons (.not (.var 8)) (.nil))))))) (.cons (.ret (.c (.bl false))) .nil) (.nil)) (.cons (.ite (.not (.call 19 (.cons (.var 2) (.cons (.var 7) (.cons (.not (.var 8)) (.nil)))))) (.cons (.ret (.c (.bl false))) .nil) (.nil)) (.cons (.for_ (.nm 9) (.rng (.c (.int 0)) (.c (.int 3))) b21_1) (.cons (.ret (.c (.bl true))) .nil)))))))))))))))
def fi0 : FI := { name := "lot_sum", arity := 2, slots := 3, fr := false, body := t0 }
def fi1 : FI := { name := "lot_squares", arity := 2, slots := 3, fr := false, body := t1 }
def fi2 : FI := { name := "lowest", arity := 2, slots := 3, fr := false, body := t2 }
def fi3 : FI := { name := "ratio", arity := 2, slots := 2, fr := false, body := t3 }
def fi4 : FI := { name := "less", arity := 2, slots := 2, fr := false, body := t4 }
def fi5 : FI := { name := "spread_of", arity := 2, slots := 3, fr := false, body := t5 }
def fi6 : FI := { name := "best_lot", arity := 1, slots := 5, fr := false, body := t6 }
def fi7 : FI := { name := "greatest_spread", arity := 1, slots := 1, fr := false, body := t7 }
def fi8 : FI := { name := "least_factor", arity := 1, slots := 3, fr := false, body := t8 }
def fi9 : FI := { name := "_law_whole", arity := 1, slots := 1, fr := false, body := t9 }
def fi10 : FI := { name := "_law_cell", arity := 2, slots := 4, fr := false, body := t10 }
def fi11 : FI := { name := "_law_digits", arity := 2, slots := 8, fr := false, body := t11 }
def fi12 : FI := { name := "_law_low", arity := 2, slots := 5, fr := false, body := t12 }
def fi13 : FI := { name := "_law_alike", arity := 2, slots := 3, fr := false, body := t13 }
def fi14 : FI := { name := "_law_tie", arity := 1, slots := 4, fr := false, body := t14 }
def fi15 : FI := { name := "_law_planted", arity := 1, slots := 7, fr := false, body := t15 }
def fi16 : FI := { name := "_law_free", arity := 1, slots := 3, fr := false, body := t16 }
def fi17 : FI := { name := "_law_turned", arity := 2, slots := 5, fr := false, body := t17 }
def fi18 : FI := { name := "_law_due", arity := 1, slots := 15, fr := false, body := t18 }
def fi19 : FI := { name := "_law_right", arity := 3, slots := 7, fr := false, body := t19 }
def fi20 : FI := { name := "_law_refused", arity := 2, slots := 4, fr := false, body := t20 }
def fi21 : FI := { name := "law", arity := 1, slots := 10, fr := false, body := t21 }
def tab : List FI := [fi0, fi1, fi2, fi3, fi4, fi5, fi6, fi7, fi8, fi9, fi10, fi11, fi12, fi13, fi14, fi15, fi16, fi17, fi18, fi19, fi20, fi21]
def nmL : List (Str × Nm) := [("abs", .free), ("bool", .free), ("int", .free), ("isinstance", .free), ("len", .free), ("list", .free), ("max", .free), ("range", .free), ("sorted", .free), ("str", .free), ("sum", .free), ("tuple", .free), ("gcd", .bf "math.gcd")]
def xsL : List (Str × Option (List Str)) := [("CounterError", none), ("BadAmount", some ["value"]), ("BadCount", some ["count"]), ("NotAtOnce", none), ("NoJobs", none), ("NotBelow", some ["factor"])]
def hsL : List Str := ["BadAmount", "BadCount", "CounterError", "NoJobs", "NotAtOnce", "NotBelow", "ValueError"]
def LD : LwD := ⟨tab, nmL, xsL, hsL⟩
def LW : Lw := LD.lw
section
variable {k : Nat} {B : Bs} {X : Cx} {W : WX}
theorem b0 (C : Cn LW k B n0 (defScope (top 9)) (cellsOf (defScope (top 9))) none X W) (R : Fr X) : SsJ LW k B [] [] { fr := false } X W (defBody (top 9)) t0 :=
  ss_one (s_ret (e_blt C .sum (a_cons (e_lc C [("k", 2)] (i_seq C (e_var C 1)) (fun C => g_nm C 2) (fun C => q_nil) (fun C => e_ix C (b_var C 0) (b_var C 2))) (a_nil))))
theorem b1 (C : Cn LW k B n1 (defScope (top 10)) (cellsOf (defScope (top 10))) none X W) (R : Fr X) : SsJ LW k B [] [] { fr := false } X W (defBody (top 10)) t1 :=
  ss_one (s_ret (e_blt C .sum (a_cons (e_lc C [("k", 2)] (i_seq C (e_var C 1)) (fun C => g_nm C 2) (fun C => q_nil) (fun C => e_mul C (e_ix C (b_var C 0) (b_var C 2)) (e_ix C (b_var C 0) (b_var C 2)))) (a_nil))))
theorem b2 (C : Cn LW k B n2 (defScope (top 12)) (cellsOf (defScope (top 12))) none X W) (R : Fr X) : SsJ LW k B [] [] { fr := false } X W (defBody (top 12)) t2 :=
  ss_cons (s_set (e_bltm C .gcd (a_cons (b_var C 0) (a_cons (b_var C 1) (a_nil)))) (g_nm C 2)) (ss_one (s_ret (e_tup (a_cons (e_fdiv C (b_var C 0) (b_var C 2)) (a_cons (e_fdiv C (b_var C 1) (b_var C 2)) (a_nil))))))
theorem b3 (C : Cn LW k B n3 (defScope (top 13)) (cellsOf (defScope (top 13))) none X W) (R : Fr X) : SsJ LW k B [] [] { fr := false } X W (defBody (top 13)) t3 :=
  ss_cons (s_if (M' := []) (t_cmp C .eq (b_var C 1) (e_int)) (ss_one (s_rais (ns := ["value"]) C (a_cons (e_tup (a_cons (e_var C 0) (a_cons (e_var C 1) (a_nil)))) (a_nil)))) (ss_nil)) (ss_cons (s_if (M' := []) (t_cmp C .lt (b_var C 1) (e_int)) (ss_one (s_ret (EJ.fv (f_call C 2 (a_cons (e_neg C (b_var C 0)) (a_cons (e_neg C (b_var C 1)) (a_nil))))))) (ss_nil)) (ss_one (s_ret (EJ.fv (f_call C 2 (a_cons (e_var C 0) (a_cons (e_var C 1) (a_nil))))))))
theorem b4 (C : Cn LW k B n4 (defScope (top 14)) (cellsOf (defScope (top 14))) none X W) (R : Fr X) : SsJ LW k B [] [] { fr := false } X W (defBody (top 14)) t4 :=
  ss_one (s_ret (e_cmp C .lt (e_mul C (e_ix C (b_var C 0) (e_int)) (e_ix C (b_var C 1) (e_int))) (e_mul C (e_ix C (b_var C 1) (e_int)) (e_ix C (b_var C 0) (e_int)))))
theorem b5 (C : Cn LW k B n5 (defScope (top 16)) (cellsOf (defScope (top 16))) none X W) (R : Fr X) : SsJ LW k B [] [] { fr := false } X W (defBody (top 16)) t5 :=
  ss_cons (s_set (EJ.fv (f_call C 0 (a_cons (e_var C 0) (a_cons (e_var C 1) (a_nil))))) (g_nm C 2)) (ss_one (s_ret (EJ.fv (f_call C 3 (a_cons (e_mul C (b_var C 2) (b_var C 2)) (a_cons (EJ.fv (f_call C 1 (a_cons (e_var C 0) (a_cons (e_var C 1) (a_nil))))) (a_nil)))))))
theorem b6 (C : Cn LW k B n6 (defScope (top 17)) (cellsOf (defScope (top 17))) none X W) (R : Fr X) : SsJ LW k B [] [] { fr := false } X W (defBody (top 17)) t6 :=
  ss_cons (s_if (M' := []) (t_cmp C .eq (e_blt C .len (a_cons (b_var C 0) (a_nil))) (e_int)) (ss_one (s_rais0 C)) (ss_nil)) (ss_cons (s_set (e_non) (g_nm C 1)) (ss_cons (s_for C (i_seq C (e_blt C .sorted (a_cons (b_var C 0) (a_nil)))) (g_nm C 2) (ss_cons (s_set (e_blt C .tuple (a_cons (e_lc C [("k", 4)] (i_rng1 C (e_blt C .len (a_cons (b_var C 0) (a_nil)))) (fun C => g_nm C 4) (fun C => q_one (t_cmp C .le (e_ix C (b_var C 0) (b_var C 4)) (b_var C 2))) (fun C => e_var C 4)) (a_nil))) (g_nm C 3)) (ss_cons (s_if (M' := []) (TW.t (w_or (t_cmp C .isN (b_var C 1) (e_non)) (w_or1 (t_val (EJ.fb (f_call C 4 (a_cons (EJ.fv (f_call C 5 (a_cons (e_var C 0) (a_cons (e_var C 1) (a_nil))))) (a_cons (EJ.fv (f_call C 5 (a_cons (e_var C 0) (a_cons (e_var C 3) (a_nil))))) (a_nil))))))))) (ss_cons (s_set (e_var C 3) (g_nm C 1)) (ss_nil)) (ss_nil)) (ss_nil)))) (ss_one (s_ret (e_var C 1)))))
theorem b7 (C : Cn LW k B n7 (defScope (top 18)) (cellsOf (defScope (top 18))) none X W) (R : Fr X) : SsJ LW k B [] [] { fr := false } X W (defBody (top 18)) t7 :=
  ss_one (s_ret (EJ.fv (f_call C 5 (a_cons (e_var C 0) (a_cons (EJ.fv (f_call C 6 (a_cons (e_var C 0) (a_nil)))) (a_nil))))))
theorem b8 (C : Cn LW k B n8 (defScope (top 19)) (cellsOf (defScope (top 19))) none X W) (R : Fr X) : SsJ LW k B [] [] { fr := false } X W (defBody (top 19)) t8 :=
  ss_cons (s_set (EJ.fv (f_call C 7 (a_cons (e_var C 0) (a_nil)))) (g_tp C (gs_cons (g_nm C 1) (gs_cons (g_nm C 2) (gs_nil))))) (ss_one (s_ret (EJ.fv (f_call C 3 (a_cons (e_mul C (e_int) (b_var C 1)) (a_cons (e_add C (b_var C 1) (b_var C 2)) (a_nil)))))))
theorem b9 (C : Cn LW k B n9 (defScope (top 21)) (cellsOf (defScope (top 21))) none X W) (R : Fr X) : SsJ LW k B [] [] { fr := false } X W (defBody (top 21)) t9 :=
  ss_one (s_ret (e_and (e_isi C (b_var C 0)) (e_and1 (e_not (e_isi C (b_var C 0))))))
theorem b10 (C : Cn LW k B n10 (defScope (top 22)) (cellsOf (defScope (top 22))) none X W) (R : Fr X) : SsJ LW k B [] [] { fr := false } X W (defBody (top 22)) t10 :=
  ss_cons (s_if (M' := []) (t_cmp C .lt (b_var C 1) (e_blt C .len (a_cons (b_var C 0) (a_nil)))) (ss_one (s_ret (e_ix C (b_var C 0) (b_var C 1)))) (ss_nil)) (ss_cons (s_set (e_int) (g_nm C 2)) (ss_cons (s_for C (i_seq C (e_var C 0)) (g_nm C 3) (ss_cons (s_set (e_mod C (e_blt C .int (a_cons (e_add C (e_mul C (b_var C 2) (e_int)) (e_mod C (e_blt C .int (a_cons (b_var C 3) (a_nil))) (e_int))) (a_nil))) (e_int)) (g_nm C 2)) (ss_nil))) (ss_one (s_ret (e_mod C (e_blt C .int (a_cons (e_mul C (e_mul C (e_add C (b_var C 2) (e_int)) (e_add C (b_var C 1) (e_int))) (e_int)) (a_nil))) (e_int))))))
theorem b11 (C : Cn LW k B n11 (defScope (top 23)) (cellsOf (defScope (top 23))) none X W) (R : Fr X) : SsJ LW k B [] [] { fr := false } X W (defBody (top 23)) t11 :=
  ss_cons (s_setO C 2 (e_lst (a_nil))) (ss_cons (s_set (e_blt C .int (a_cons (b_var C 0) (a_nil))) (g_nm C 3)) (ss_cons (s_if (M' := [2]) (t_cmp C .ge (b_var C 3) (e_pow C (e_int) (e_int))) (ss_cons (s_set (e_sub C (b_var C 3) (e_pow C (e_int) (e_int))) (g_nm C 3)) (ss_cons (s_for C (i_seq C (e_var C 1)) (g_nm C 4) (ss_cons (s_app C 2 (a_cons (e_mod C (e_blt C .int (a_cons (b_var C 3) (a_nil))) (b_var C 4)) a_nil)) (ss_cons (s_set (e_fdiv C (e_blt C .int (a_cons (b_var C 3) (a_nil))) (b_var C 4)) (g_nm C 3)) (ss_nil)))) (ss_weak (M1 := []) (ss_one (s_ret (e_var C 2)))))) (ss_nil)) (ss_cons (s_set (e_mod C (e_blt C .int (a_cons (b_var C 3) (a_nil))) (e_int)) (g_nm C 5)) (ss_cons (s_for C (i_rng1 C (e_blt C .len (a_cons (b_var C 1) (a_nil)))) (g_nm C 6) (ss_cons (s_set (e_mod C (e_blt C .int (a_cons (e_add C (e_add C (e_mul C (b_var C 5) (e_int)) (e_mul C (e_int) (b_var C 6))) (e_int)) (a_nil))) (e_int)) (g_nm C 5)) (ss_cons (s_set (e_mod C (e_blt C .int (a_cons (e_mul C (b_var C 5) (e_add C (e_fdiv C (b_var C 5) (e_int)) (e_int))) (a_nil))) (e_int)) (g_nm C 7)) (ss_cons (s_app C 2 (a_cons (e_mod C (e_fdiv C (b_var C 7) (e_int)) (e_ix C (b_var C 1) (b_var C 6))) a_nil)) (ss_nil))))) (ss_weak (M1 := []) (ss_one (s_ret (e_var C 2))))))))
theorem b12 (C : Cn LW k B n12 (defScope (top 24)) (cellsOf (defScope (top 24))) none X W) (R : Fr X) : SsJ LW k B [] [] { fr := false } X W (defBody (top 24)) t12 :=
  ss_cons (s_set (e_blt C .abs (a_cons (b_var C 0) (a_nil))) (g_nm C 2)) (ss_cons (s_set (e_var C 1) (g_nm C 3)) (ss_cons (s_whl C (t_cmp C .ne (b_var C 3) (e_int)) (ss_cons (s_set (e_mod C (e_blt C .int (a_cons (b_var C 2) (a_nil))) (b_var C 3)) (g_nm C 4)) (ss_cons (s_set (e_var C 3) (g_nm C 2)) (ss_cons (s_set (e_var C 4) (g_nm C 3)) (ss_nil))))) (ss_one (s_ret (e_tup (a_cons (e_fdiv C (b_var C 0) (b_var C 2)) (a_cons (e_fdiv C (b_var C 1) (b_var C 2)) (a_nil))))))))
theorem b13 (C : Cn LW k B n13 (defScope (top 25)) (cellsOf (defScope (top 25))) none X W) (R : Fr X) : SsJ LW k B [] [] { fr := false } X W (defBody (top 25)) t13 :=
  ss_cons (s_if (M' := []) (t_cmp C .isN (b_var C 1) (e_non)) (ss_one (s_ret (e_cmp C .isN (b_var C 0) (e_non)))) (ss_nil)) (ss_cons (s_if (M' := []) (t_val (e_isi C (b_var C 1))) (ss_cons (s_if (M' := []) (TW.t (w_or (t_not (t_val (e_isi C (b_var C 0)))) (w_or1 (t_cmp C .ne (e_blt C .len (a_cons (b_var C 0) (a_nil))) (e_blt C .len (a_cons (b_var C 1) (a_nil))))))) (ss_one (s_ret (e_bl))) (ss_nil)) (ss_cons (s_for C (i_rng1 C (e_blt C .len (a_cons (b_var C 1) (a_nil)))) (g_nm C 2) (ss_cons (s_if (M' := []) (t_not (t_val (EJ.fb (f_call C 13 (a_cons (e_ix C (b_var C 0) (b_var C 2)) (a_cons (e_ix C (b_var C 1) (b_var C 2)) (a_nil))))))) (ss_one (s_ret (e_bl))) (ss_nil)) (ss_nil))) (ss_one (s_ret (e_bl))))) (ss_nil)) (ss_cons (s_if (M' := []) (t_val (e_isi C (b_var C 1))) (ss_one (s_ret (e_and (e_isi C (b_var C 0)) (e_and1 (e_cmp C .eq (b_var C 0) (b_var C 1)))))) (ss_nil)) (ss_one (s_ret (e_and (EJ.fb (f_call C 9 (a_cons (e_var C 0) (a_nil)))) (e_and1 (e_cmp C .eq (b_var C 0) (b_var C 1))))))))
theorem b14 (C : Cn LW k B n14 (defScope (top 26)) (cellsOf (defScope (top 26))) none X W) (R : Fr X) : SsJ LW k B [] [] { fr := false } X W (defBody (top 26)) t14 :=
  ss_cons (s_set (e_blt C .sum (a_cons (b_var C 0) (a_nil))) (g_nm C 1)) (ss_cons (s_set (e_blt C .sum (a_cons (e_lc C [("weight", 3)] (i_seq C (e_var C 0)) (fun C => g_nm C 3) (fun C => q_nil) (fun C => e_mul C (b_var C 3) (b_var C 3))) (a_nil))) (g_nm C 2)) (ss_one (s_ret (EJ.fv (f_call C 12 (a_cons (e_mul C (e_mul C (e_int) (b_var C 1)) (b_var C 2)) (a_cons (e_sub C (e_mul C (b_var C 1) (b_var C 1)) (b_var C 2)) (a_nil))))))))
theorem b15 (C : Cn LW k B n15 (defScope (top 27)) (cellsOf (defScope (top 27))) none X W) (R : Fr X) : SsJ LW k B [] [] { fr := false } X W (defBody (top 27)) t15 :=
  ss_cons (s_setOLc C 1 [("k", 4)] (i_rng1 C (e_add C (e_int) (e_ix C (b_var C 0) (e_int)))) (fun C => g_nm C 4) (fun C => q_nil) (fun C => e_mul C (e_add C (e_int) (e_ix C (b_var C 0) (e_int))) (e_ix C (e_lst (a_cons (e_int) (a_cons (e_int) (a_cons (e_int) (a_cons (e_int) (a_cons (e_int) (a_cons (e_int) (a_nil)))))))) (e_ix C (b_var C 0) (e_int))))) (ss_cons (s_if (M' := [1]) (t_cmp C .eq (e_ix C (b_var C 0) (e_int)) (e_int)) (ss_cons (s_setLc C 2 [("k", 4)] (i_rng1 C (e_add C (e_int) (e_ix C (b_var C 0) (e_int)))) (fun C => g_nm C 4) (fun C => q_nil) (fun C => e_add C (e_int) (e_ix C (b_var C 0) (e_add C (e_int) (b_var C 4))))) (ss_cons (s_set (e_ix C (EJ.fb (f_call C 14 (a_cons (e_var C 2) (a_nil)))) (e_int)) (g_nm C 3)) (ss_cons (s_if (M' := [1]) (t_cmp C .le (e_mul C (e_int) (b_var C 3)) (e_int)) (ss_weak (M1 := []) (ss_cons (s_setOLc C 1 [("weight", 6)] (i_seq C (e_var C 2)) (fun C => g_nm C 6) (fun C => q_nil) (fun C => e_mul C (b_var C 6) (b_var C 3))) (ss_nil))) (ss_nil)) (ss_nil)))) (ss_nil)) (ss_cons (s_for C (i_rng1 C (e_add C (e_int) (e_ix C (b_var C 0) (e_int)))) (g_nm C 4) (ss_cons (s_set (e_callB C 14 (a_cons (b_var C 1) (a_nil))) (g_nm C 5)) (ss_cons (s_if (M' := [1]) (TW.t (w_or (t_cmp C .ge (e_blt C .len (a_cons (b_var C 1) (a_nil))) (e_int)) (w_or (t_cmp C .ne (e_ix C (b_var C 5) (e_int)) (e_int)) (w_or1 (t_cmp C .gt (e_ix C (b_var C 5) (e_int)) (e_int)))))) (ss_one (s_brk)) (ss_nil)) (ss_cons (s_app C 1 (a_cons (e_ix C (b_var C 5) (e_int)) a_nil)) (ss_nil))))) (ss_cons (s_if (M' := [1]) (TW.t (w_and (t_cmp C .ge (e_ix C (b_var C 0) (e_int)) (e_int)) (w_and1 (t_chain C .lt .lt (e_int) (e_ix C (b_var C 1) (e_neg C (e_int))) (e_int))))) (ss_cons (s_setIx C 1 (e_sub C (e_add C (e_ix C (b_var C 1) (e_neg C (e_int))) (e_mul C (e_int) (e_ix C (b_var C 0) (e_int)))) (e_int)) (e_neg C (e_int))) (ss_nil)) (ss_nil)) (ss_cons (s_for C (i_rng1 C (e_blt C .max2 (a_cons (e_int) (a_cons (e_sub C (e_ix C (b_var C 0) (e_int)) (e_int)) (a_nil))))) (g_nm C 4) (ss_cons (s_if (M' := [1]) (t_cmp C .lt (e_blt C .len (a_cons (b_var C 1) (a_nil))) (e_int)) (ss_cons (s_app C 1 (a_cons (e_add C (e_int) (e_ix C (b_var C 0) (e_add C (e_int) (b_var C 4)))) a_nil)) (ss_nil)) (ss_nil)) (ss_nil))) (ss_weak (M1 := []) (ss_one (s_ret (e_var C 1))))))))
theorem b16 (C : Cn LW k B n16 (defScope (top 28)) (cellsOf (defScope (top 28))) none X W) (R : Fr X) : SsJ LW k B [] [] { fr := false } X W (defBody (top 28)) t16 :=
  ss_cons (s_set (e_ix C (e_lst (a_cons (e_int) (a_cons (e_int) (a_cons (e_int) (a_cons (e_int) (a_cons (e_int) (a_cons (e_int) (a_cons (e_int) (a_cons (e_int) (a_cons (e_int) (a_cons (e_int) (a_cons (e_int) (a_cons (e_int) (a_cons (e_int) (a_cons (e_int) (a_cons (e_int) (a_cons (e_int) (a_cons (e_int) (a_cons (e_int) (a_cons (e_int) (a_cons (e_int) (a_cons (e_int) (a_cons (e_int) (a_cons (e_int) (a_cons (e_int) (a_nil)))))))))))))))))))))))))) (e_ix C (b_var C 0) (e_int))) (g_nm C 1)) (ss_one (s_ret (e_lc C [("k", 2)] (i_rng1 C (b_var C 1)) (fun C => g_nm C 2) (fun C => q_nil) (fun C => e_add C (e_int) (e_mod C (e_blt C .int (a_cons (e_ix C (b_var C 0) (e_add C (e_int) (e_mul C (e_int) (b_var C 2)))) (a_nil))) (e_ix C (e_lst (a_cons (e_int) (a_cons (e_int) (a_cons (e_int) (a_nil))))) (e_ix C (b_var C 0) (e_add C (e_int) (e_mul C (e_int) (b_var C 2))))))))))
theorem b17 (C : Cn LW k B n17 (defScope (top 29)) (cellsOf (defScope (top 29))) none X W) (R : Fr X) : SsJ LW k B [] [] { fr := false } X W (defBody (top 29)) t17 :=
  ss_cons (s_set (e_lst (a_nil)) (g_nm C 2)) (ss_cons (s_for C (i_rng1 C (e_blt C .len (a_cons (b_var C 0) (a_nil)))) (g_nm C 3) (ss_cons (s_set (e_mod C (e_blt C .int (a_cons (e_ix C (b_var C 1) (b_var C 3)) (a_nil))) (e_add C (e_blt C .len (a_cons (b_var C 2) (a_nil))) (e_int))) (g_nm C 4)) (ss_cons (s_set (e_add C (e_add C (e_sl C (b_var C 2) (o_none) (o_some (b_var C 4))) (e_lst (a_cons (e_ix C (b_var C 0) (b_var C 3)) (a_nil)))) (e_sl C (b_var C 2) (o_some (b_var C 4)) (o_none))) (g_nm C 2)) (ss_nil)))) (ss_one (s_ret (e_var C 2))))
theorem b18 (C : Cn LW k B n18 (defScope (top 30)) (cellsOf (defScope (top 30))) none X W) (R : Fr X) : SsJ LW k B [] [] { fr := false } X W (defBody (top 30)) t18 :=
  ss_cons (s_set (e_lst (a_cons (e_int) (a_nil))) (g_nm C 1)) (ss_cons (s_set (e_lst (a_cons (e_int) (a_nil))) (g_nm C 2)) (ss_cons (s_set (e_lst (a_cons (e_int) (a_nil))) (g_nm C 3)) (ss_cons (s_for C (i_seq C (e_var C 0)) (g_nm C 4) (ss_cons (s_set (e_add C (b_var C 1) (e_lc C [("total", 12)] (i_seq C (e_var C 1)) (fun C => g_nm C 12) (fun C => q_nil) (fun C => e_add C (b_var C 12) (b_var C 4)))) (g_nm C 1)) (ss_cons (s_set (e_add C (b_var C 2) (e_lc C [("square", 13)] (i_seq C (e_var C 2)) (fun C => g_nm C 13) (fun C => q_nil) (fun C => e_add C (b_var C 13) (e_mul C (b_var C 4) (b_var C 4))))) (g_nm C 2)) (ss_cons (s_set (e_add C (b_var C 3) (e_lc C [("many", 14)] (i_seq C (e_var C 3)) (fun C => g_nm C 14) (fun C => q_nil) (fun C => e_add C (b_var C 14) (e_int)))) (g_nm C 3)) (ss_nil))))) (ss_cons (s_set (e_int) (g_nm C 5)) (ss_cons (s_for C (i_rng2 C (e_int) (e_blt C .len (a_cons (b_var C 1) (a_nil)))) (g_nm C 6) (ss_cons (s_set (e_sub C (e_mul C (e_mul C (e_ix C (b_var C 1) (b_var C 6)) (e_ix C (b_var C 1) (b_var C 6))) (e_ix C (b_var C 2) (b_var C 5))) (e_mul C (e_mul C (e_ix C (b_var C 1) (b_var C 5)) (e_ix C (b_var C 1) (b_var C 5))) (e_ix C (b_var C 2) (b_var C 6)))) (g_nm C 7)) (ss_cons (s_if (M' := []) (TW.t (w_or (t_cmp C .gt (b_var C 7) (e_int)) (w_or1 (TW.t (w_and (t_cmp C .eq (b_var C 7) (e_int)) (w_and1 (t_cmp C .lt (e_ix C (b_var C 3) (b_var C 6)) (e_ix C (b_var C 3) (b_var C 5))))))))) (ss_cons (s_set (e_var C 6) (g_nm C 5)) (ss_nil)) (ss_nil)) (ss_nil)))) (ss_cons (s_setO C 8 (e_lst (a_nil))) (ss_cons (s_set (e_var C 5) (g_nm C 9)) (ss_cons (s_for C (i_rng1 C (e_blt C .len (a_cons (b_var C 0) (a_nil)))) (g_nm C 10) (ss_cons (s_if (M' := [8]) (t_cmp C .eq (e_mod C (e_blt C .int (a_cons (b_var C 9) (a_nil))) (e_int)) (e_int)) (ss_cons (s_app C 8 (a_cons (e_var C 10) a_nil)) (ss_nil)) (ss_nil)) (ss_cons (s_set (e_fdiv C (b_var C 9) (e_int)) (g_nm C 9)) (ss_nil)))) (ss_weak (M1 := []) (ss_cons (s_set (e_mul C (e_ix C (b_var C 1) (b_var C 5)) (e_ix C (b_var C 1) (b_var C 5))) (g_nm C 11)) (ss_one (s_ret (e_lst (a_cons (EJ.fv (f_call C 12 (a_cons (e_var C 11) (a_cons (e_ix C (b_var C 2) (b_var C 5)) (a_nil))))) (a_cons (e_blt C .tuple (a_cons (b_var C 8) (a_nil))) (a_cons (EJ.fv (f_call C 12 (a_cons (e_mul C (e_int) (b_var C 11)) (a_cons (e_add C (b_var C 11) (e_ix C (b_var C 2) (b_var C 5))) (a_nil))))) (a_nil)))))))))))))))))
theorem b19 (C : Cn LW k B n19 (defScope (top 31)) (cellsOf (defScope (top 31))) none X W) (R : Fr X) : SsJ LW k B [] [] { fr := false } X W (defBody (top 31)) t19 :=
  ss_cons (s_set (e_blt C .tuple (a_cons (b_var C 0) (a_nil))) (g_nm C 3)) (ss_cons (s_if (M' := []) (t_val (b_var C 2)) (ss_cons (s_set (e_blt C .list (a_cons (b_var C 0) (a_nil))) (g_nm C 3)) (ss_nil)) (ss_nil)) (ss_cons (s_set (EJ.fv (f_call C 8 (a_cons (e_var C 3) (a_nil)))) (g_nm C 4)) (ss_cons (s_set (EJ.fv (f_call C 6 (a_cons (e_var C 3) (a_nil)))) (g_nm C 5)) (ss_cons (s_set (EJ.fv (f_call C 7 (a_cons (e_var C 3) (a_nil)))) (g_nm C 6)) (ss_cons (s_if (M' := []) (TW.t (w_or (t_not (t_val (EJ.fb (f_call C 13 (a_cons (e_var C 6) (a_cons (e_ix C (b_var C 1) (e_int)) (a_nil))))))) (w_or (t_not (t_val (EJ.fb (f_call C 13 (a_cons (e_var C 5) (a_cons (e_ix C (b_var C 1) (e_int)) (a_nil))))))) (w_or1 (t_not (t_val (EJ.fb (f_call C 13 (a_cons (e_var C 4) (a_cons (e_ix C (b_var C 1) (e_int)) (a_nil))))))))))) (ss_one (s_ret (e_bl))) (ss_nil)) (ss_one (s_ret (e_and (e_cmp C .eq (e_blt C .len (a_cons (b_var C 3) (a_nil))) (e_blt C .len (a_cons (b_var C 0) (a_nil)))) (e_and1 (e_cmp C .eq (e_blt C .list (a_cons (b_var C 3) (a_nil))) (b_var C 0)))))))))))
theorem b20 (C : Cn LW k B n20 (defScope (top 32)) (cellsOf (defScope (top 32))) none X W) (R : Fr X) : SsJ LW k B [] [] { fr := false } X W (defBody (top 32)) t20 :=
  ss_cons (s_try (M' := []) C R 2 [] (fun C R => ss_cons (s_if (M' := []) (t_cmp C .eq (b_var C 0) (e_int)) (ss_cons (s_ex (EJ.fb (f_call C 7 (a_cons (e_var C 1) (a_nil))))) (ss_nil)) (ss_cons (s_if (M' := []) (t_cmp C .eq (b_var C 0) (e_int)) (ss_cons (s_ex (EJ.fb (f_call C 6 (a_cons (e_var C 1) (a_nil))))) (ss_nil)) (ss_cons (s_ex (EJ.fb (f_call C 8 (a_cons (e_var C 1) (a_nil))))) (ss_nil))) (ss_nil))) (ss_nil)) (fun C => ss_cons (s_set (e_or (e_xisi C) (e_or (e_xisi C) (e_or (e_xisi C) (e_or1 (e_xisi C))))) (g_nm C 3)) (ss_one (s_ret (e_and (e_xisi C) (e_and (e_xisi C) (e_and1 (e_not (b_var C 3))))))))) (ss_one (s_ret (e_bl)))
theorem b21 (C : Cn LW k B n21 (defScope (top 33)) (cellsOf (defScope (top 33))) none X W) (R : Fr X) : SsJ LW k B [] [] { fr := false } X W (defBody (top 33)) t21 :=
  ss_cons (s_set (EJ.fv (f_call C 11 (a_cons (EJ.fv (f_call C 10 (a_cons (e_var C 0) (a_cons (e_int) (a_nil))))) (a_cons (e_lst (a_cons (e_int) (a_cons (e_int) (a_cons (e_int) (a_cons (e_int) (a_cons (e_int) (a_cons (e_int) (a_cons (e_int) (a_cons (e_int) (a_cons (e_int) (a_cons (e_int) (a_cons (e_int) (a_cons (e_int) (a_cons (e_int) (a_cons (e_int) (a_cons (e_int) (a_nil))))))))))))))))) (a_nil))))) (g_nm C 1)) (ss_cons (s_set (EJ.fv (f_call C 16 (a_cons (EJ.fv (f_call C 11 (a_cons (EJ.fv (f_call C 10 (a_cons (e_var C 0) (a_cons (e_int) (a_nil))))) (a_cons (e_add C (e_lst (a_cons (e_int) (a_nil))) (e_rep C (e_lst (a_cons (e_int) (a_cons (e_int) (a_nil)))) (e_int))) (a_nil))))) (a_nil)))) (g_nm C 2)) (ss_cons (s_if (M' := []) (t_cmp C .gt (e_ix C (b_var C 1) (e_int)) (e_int)) (ss_cons (s_set (EJ.fv (f_call C 15 (a_cons (e_sl C (b_var C 1) (o_some (e_int)) (o_none)) (a_nil)))) (g_nm C 2)) (ss_nil)) (ss_nil)) (ss_cons (s_set (EJ.fv (f_call C 17 (a_cons (e_var C 2) (a_cons (EJ.fv (f_call C 11 (a_cons (EJ.fv (f_call C 10 (a_cons (e_var C 0) (a_cons (e_int) (a_nil))))) (a_cons (e_rep C (e_lst (a_cons (e_int) (a_nil))) (e_int)) (a_nil))))) (a_nil))))) (g_nm C 2)) (ss_cons (s_set (EJ.fv (f_call C 11 (a_cons (EJ.fv (f_call C 10 (a_cons (e_var C 0) (a_cons (e_int) (a_nil))))) (a_cons (e_lst (a_cons (e_int) (a_cons (e_int) (a_cons (e_int) (a_cons (e_int) (a_nil)))))) (a_nil))))) (g_nm C 3)) (ss_cons (s_set (e_add C (e_int) (e_ix C (b_var C 3) (e_int))) (g_nm C 4)) (ss_cons (s_if (M' := []) (t_cmp C .eq (e_ix C (b_var C 3) (e_int)) (e_int)) (ss_cons (s_set (e_ix C (e_lst (a_cons (e_int) (a_cons (e_int) (a_nil)))) (e_mod C (e_blt C .int (a_cons (e_ix C (b_var C 3) (e_int)) (a_nil))) (e_int))) (g_nm C 4)) (ss_nil)) (ss_nil)) (ss_cons (s_set (e_mod C (e_blt C .int (a_cons (e_ix C (b_var C 3) (e_int)) (a_nil))) (e_blt C .len (a_cons (b_var C 2) (a_nil)))) (g_nm C 5)) (ss_cons (s_setO C 6 (e_blt C .list (a_cons (b_var C 2) (a_nil)))) (ss_cons (s_setIx C 6 (e_add C (e_int) (e_mod C (e_blt C .int (a_cons (e_add C (e_sub C (e_ix C (b_var C 2) (b_var C 5)) (e_int)) (b_var C 4)) (a_nil))) (e_int))) (e_var C 5)) (ss_weak (M1 := []) (ss_cons (s_set (EJ.fv (f_call C 18 (a_cons (e_var C 2) (a_nil)))) (g_nm C 7)) (ss_cons (s_set (e_cmp C .eq (e_ix C (b_var C 3) (e_int)) (e_int)) (g_nm C 8)) (ss_cons (s_if (M' := []) (TW.t (w_or (t_not (t_val (EJ.fb (f_call C 19 (a_cons (e_var C 2) (a_cons (e_var C 7) (a_cons (e_var C 8) (a_nil)))))))) (w_or1 (t_not (t_val (EJ.fb (f_call C 19 (a_cons (e_var C 6) (a_cons (EJ.fv (f_call C 18 (a_cons (e_var C 6) (a_nil)))) (a_cons (e_not (b_var C 8)) (a_nil))))))))))) (ss_one (s_ret (e_bl))) (ss_nil)) (ss_cons (s_if (M' := []) (t_not (t_val (EJ.fb (f_call C 19 (a_cons (e_var C 2) (a_cons (e_var C 7) (a_cons (e_not (b_var C 8)) (a_nil)))))))) (ss_one (s_ret (e_bl))) (ss_nil)) (ss_cons (s_for C (i_rng1 C (e_int)) (g_nm C 9) (ss_cons (s_if (M' := []) (TW.t (w_or (t_not (t_val (EJ.fb (f_call C 20 (a_cons (e_var C 9) (a_cons (e_lst (a_nil)) (a_nil))))))) (w_or1 (t_not (t_val (EJ.fb (f_call C 20 (a_cons (e_var C 9) (a_cons (e_tup (a_nil)) (a_nil)))))))))) (ss_one (s_ret (e_bl))) (ss_nil)) (ss_nil))) (ss_one (s_ret (e_bl))))))))))))))))))
end
def d0 : He.DefD := ⟨("lot_sum", none), "lot_sum", "lot_sum", defArgs (top 9), defBody (top 9), defScope (top 9), [], []⟩
def d1 : He.DefD := ⟨("lot_squares", none), "lot_squares", "lot_squares", defArgs (top 10), defBody (top 10), defScope (top 10), [], []⟩
def d2 : He.DefD := ⟨("lowest", none), "lowest", "lowest", defArgs (top 12), defBody (top 12), defScope (top 12), [], []⟩
def d3 : He.DefD := ⟨("ratio", none), "ratio", "ratio", defArgs (top 13), defBody (top 13), defScope (top 13), [], []⟩
def d4 : He.DefD := ⟨("less", none), "less", "less", defArgs (top 14), defBody (top 14), defScope (top 14), [], []⟩
def d5 : He.DefD := ⟨("spread_of", none), "spread_of", "spread_of", defArgs (top 16), defBody (top 16), defScope (top 16), [], []⟩
def d6 : He.DefD := ⟨("best_lot", none), "best_lot", "best_lot", defArgs (top 17), defBody (top 17), defScope (top 17), [], []⟩
def d7 : He.DefD := ⟨("greatest_spread", none), "greatest_spread", "greatest_spread", defArgs (top 18), defBody (top 18), defScope (top 18), [], []⟩
def d8 : He.DefD := ⟨("least_factor", none), "least_factor", "least_factor", defArgs (top 19), defBody (top 19), defScope (top 19), [], []⟩
def d9 : He.DefD := ⟨("_law_whole", none), "_law_whole", "_law_whole", defArgs (top 21), defBody (top 21), defScope (top 21), [], []⟩
def d10 : He.DefD := ⟨("_law_cell", none), "_law_cell", "_law_cell", defArgs (top 22), defBody (top 22), defScope (top 22), [], []⟩
def d11 : He.DefD := ⟨("_law_digits", none), "_law_digits", "_law_digits", defArgs (top 23), defBody (top 23), defScope (top 23), [], []⟩
def d12 : He.DefD := ⟨("_law_low", none), "_law_low", "_law_low", defArgs (top 24), defBody (top 24), defScope (top 24), [], []⟩
def d13 : He.DefD := ⟨("_law_alike", none), "_law_alike", "_law_alike", defArgs (top 25), defBody (top 25), defScope (top 25), [], []⟩
def d14 : He.DefD := ⟨("_law_tie", none), "_law_tie", "_law_tie", defArgs (top 26), defBody (top 26), defScope (top 26), [], []⟩
def d15 : He.DefD := ⟨("_law_planted", none), "_law_planted", "_law_planted", defArgs (top 27), defBody (top 27), defScope (top 27), [], []⟩
def d16 : He.DefD := ⟨("_law_free", none), "_law_free", "_law_free", defArgs (top 28), defBody (top 28), defScope (top 28), [], []⟩
def d17 : He.DefD := ⟨("_law_turned", none), "_law_turned", "_law_turned", defArgs (top 29), defBody (top 29), defScope (top 29), [], []⟩
def d18 : He.DefD := ⟨("_law_due", none), "_law_due", "_law_due", defArgs (top 30), defBody (top 30), defScope (top 30), [], []⟩
def d19 : He.DefD := ⟨("_law_right", none), "_law_right", "_law_right", defArgs (top 31), defBody (top 31), defScope (top 31), [], []⟩
def d20 : He.DefD := ⟨("_law_refused", none), "_law_refused", "_law_refused", defArgs (top 32), defBody (top 32), defScope (top 32), [], []⟩
def d21 : He.DefD := ⟨("law", none), "law", "law", defArgs (top 33), defBody (top 33), defScope (top 33), [], []⟩
abbrev sI0 : Stmt := inClass (top 3) 0
def dI0 : He.DefD := ⟨("BadAmount", some "__init__"), "__init__", "BadAmount.__init__", defArgs sI0, defBody sI0, defScope sI0, [], []⟩
abbrev sI1 : Stmt := inClass (top 4) 0
def dI1 : He.DefD := ⟨("BadCount", some "__init__"), "__init__", "BadCount.__init__", defArgs sI1, defBody sI1, defScope sI1, [], []⟩
abbrev sI2 : Stmt := inClass (top 7) 0
def dI2 : He.DefD := ⟨("NotBelow", some "__init__"), "__init__", "NotBelow.__init__", defArgs sI2, defBody sI2, defScope sI2, [], []⟩
def fnL : List He.DefD := [d0, d1, d2, d3, d4, d5, d6, d7, d8, d9, d10, d11, d12, d13, d14, d15, d16, d17, d18, d19, d20, d21, dI0, dI1, dI2]
def faL : List He.Fa := [.glo "lot_sum", .glo "lot_squares", .glo "lowest", .glo "ratio", .glo "less", .glo "spread_of", .glo "best_lot", .glo "greatest_spread", .glo "least_factor", .glo "_law_whole", .glo "_law_cell", .glo "_law_digits", .glo "_law_low", .glo "_law_alike", .glo "_law_tie", .glo "_law_planted", .glo "_law_free", .glo "_law_turned", .glo "_law_due", .glo "_law_right", .glo "_law_refused", .glo "law"]
def OkF (L : Lw) (B : Bs) (P : Program) (w : World) (mg : Str → Option Value) (base : Heap) (fi : FI) (f : Nat) : Prop := ∃ (a : Addr) (fd : FuncData) (ps : List Str), mg fi.name = some (.ref a) ∧ PySem.W.keepIn B.K (.ref a) = true ∧ Binds B.K fd ps [] ∧ ∀ k, AllF L k B P w mg base → FnOk P w B.K mg base (L2.CX P w) (k + 1 + 2) a fd ps (SpC L.T (k + 1) B f fi.fr)
section
variable {P : Program} {w : World} {K : PySem.W.Frag} {h : Heap} {mg : Str → Option Value} {base : Heap} {xs : List Str}
theorem sc0 : FnScope n0 ["numbers", "lot"] (defScope (top 9)) := scB_ok (by decide +kernel)
theorem ok0 (X : K.In h) (G : h.Ns mainGlobals mg) (c : He.SaysD faL fnL K) (Z : St0 LW ⟨K, xs, none⟩ P w mg base) : OkF LW ⟨K, xs, none⟩ P w mg base fi0 0 := by
  obtain ⟨fd, F⟩ := c.def_ 0 (d := d0) rfl
  exact ⟨_, fd, ["numbers", "lot"], He.glo_ok X G (c.fact 0 (f := .glo "lot_sum") rfl), F.kp, F.bindsN (fun _ _ _ _ _ _ us hl => match us, hl with | [_, _], _ => rfl), fun k IH => fn_ok Z IH F sc0 rfl rfl rfl rfl rfl fun C R => b0 C R⟩
theorem sc1 : FnScope n1 ["numbers", "lot"] (defScope (top 10)) := scB_ok (by decide +kernel)
theorem ok1 (X : K.In h) (G : h.Ns mainGlobals mg) (c : He.SaysD faL fnL K) (Z : St0 LW ⟨K, xs, none⟩ P w mg base) : OkF LW ⟨K, xs, none⟩ P w mg base fi1 1 := by
  obtain ⟨fd, F⟩ := c.def_ 1 (d := d1) rfl
  exact ⟨_, fd, ["numbers", "lot"], He.glo_ok X G (c.fact 1 (f := .glo "lot_squares") rfl), F.kp, F.bindsN (fun _ _ _ _ _ _ us hl => match us, hl with | [_, _], _ => rfl), fun k IH => fn_ok Z IH F sc1 rfl rfl rfl rfl rfl fun C R => b1 C R⟩
theorem sc2 : FnScope n2 ["top", "bottom"] (defScope (top 12)) := scB_ok (by decide +kernel)
theorem ok2 (X : K.In h) (G : h.Ns mainGlobals mg) (c : He.SaysD faL fnL K) (Z : St0 LW ⟨K, xs, none⟩ P w mg base) : OkF LW ⟨K, xs, none⟩ P w mg base fi2 2 := by
  obtain ⟨fd, F⟩ := c.def_ 2 (d := d2) rfl
  exact ⟨_, fd, ["top", "bottom"], He.glo_ok X G (c.fact 2 (f := .glo "lowest") rfl), F.kp, F.bindsN (fun _ _ _ _ _ _ us hl => match us, hl with | [_, _], _ => rfl), fun k IH => fn_ok Z IH F sc2 rfl rfl rfl rfl rfl fun C R => b2 C R⟩
theorem sc3 : FnScope n3 ["top", "bottom"] (defScope (top 13)) := scB_ok (by decide +kernel)
theorem ok3 (X : K.In h) (G : h.Ns mainGlobals mg) (c : He.SaysD faL fnL K) (Z : St0 LW ⟨K, xs, none⟩ P w mg base) : OkF LW ⟨K, xs, none⟩ P w mg base fi3 3 := by
  obtain ⟨fd, F⟩ := c.def_ 3 (d := d3) rfl
  exact ⟨_, fd, ["top", "bottom"], He.glo_ok X G (c.fact 3 (f := .glo "ratio") rfl), F.kp, F.bindsN (fun _ _ _ _ _ _ us hl => match us, hl with | [_, _], _ => rfl), fun k IH => fn_ok Z IH F sc3 rfl rfl rfl rfl rfl fun C R => b3 C R⟩
theorem sc4 : FnScope n4 ["one", "two"] (defScope (top 14)) := scB_ok (by decide +kernel)
theorem ok4 (X : K.In h) (G : h.Ns mainGlobals mg) (c : He.SaysD faL fnL K) (Z : St0 LW ⟨K, xs, none⟩ P w mg base) : OkF LW ⟨K, xs, none⟩ P w mg base fi4 4 := by
  obtain ⟨fd, F⟩ := c.def_ 4 (d := d4) rfl
  exact ⟨_, fd, ["one", "two"], He.glo_ok X G (c.fact 4 (f := .glo "less") rfl), F.kp, F.bindsN (fun _ _ _ _ _ _ us hl => match us, hl with | [_, _], _ => rfl), fun k IH => fn_ok Z IH F sc4 rfl rfl rfl rfl rfl fun C R => b4 C R⟩
theorem sc5 : FnScope n5 ["weights", "lot"] (defScope (top 16)) := scB_ok (by decide +kernel)
theorem ok5 (X : K.In h) (G : h.Ns mainGlobals mg) (c : He.SaysD faL fnL K) (Z : St0 LW ⟨K, xs, none⟩ P w mg base) : OkF LW ⟨K, xs, none⟩ P w mg base fi5 5 := by
  obtain ⟨fd, F⟩ := c.def_ 5 (d := d5) rfl
  exact ⟨_, fd, ["weights", "lot"], He.glo_ok X G (c.fact 5 (f := .glo "spread_of") rfl), F.kp, F.bindsN (fun _ _ _ _ _ _ us hl => match us, hl with | [_, _], _ => rfl), fun k IH => fn_ok Z IH F sc5 rfl rfl rfl rfl rfl fun C R => b5 C R⟩
theorem sc6 : FnScope n6 ["weights"] (defScope (top 17)) := scB_ok (by decide +kernel)
theorem ok6 (X : K.In h) (G : h.Ns mainGlobals mg) (c : He.SaysD faL fnL K) (Z : St0 LW ⟨K, xs, none⟩ P w mg base) : OkF LW ⟨K, xs, none⟩ P w mg base fi6 6 := by
  obtain ⟨fd, F⟩ := c.def_ 6 (d := d6) rfl
  exact ⟨_, fd, ["weights"], He.glo_ok X G (c.fact 6 (f := .glo "best_lot") rfl), F.kp, F.bindsN (fun _ _ _ _ _ _ us hl => match us, hl with | [_], _ => rfl), fun k IH => fn_ok Z IH F sc6 rfl rfl rfl rfl rfl fun C R => b6 C R⟩
theorem sc7 : FnScope n7 ["weights"] (defScope (top 18)) := scB_ok (by decide +kernel)
theorem ok7 (X : K.In h) (G : h.Ns mainGlobals mg) (c : He.SaysD faL fnL K) (Z : St0 LW ⟨K, xs, none⟩ P w mg base) : OkF LW ⟨K, xs, none⟩ P w mg base fi7 7 := by
  obtain ⟨fd, F⟩ := c.def_ 7 (d := d7) rfl
  exact ⟨_, fd, ["weights"], He.glo_ok X G (c.fact 7 (f := .glo "greatest_spread") rfl), F.kp, F.bindsN (fun _ _ _ _ _ _ us hl => match us, hl with | [_], _ => rfl), fun k IH => fn_ok Z IH F sc7 rfl rfl rfl rfl rfl fun C R => b7 C R⟩
theorem sc8 : FnScope n8 ["weights"] (defScope (top 19)) := scB_ok (by decide +kernel)
theorem ok8 (X : K.In h) (G : h.Ns mainGlobals mg) (c : He.SaysD faL fnL K) (Z : St0 LW ⟨K, xs, none⟩ P w mg base) : OkF LW ⟨K, xs, none⟩ P w mg base fi8 8 := by
  obtain ⟨fd, F⟩ := c.def_ 8 (d := d8) rfl
  exact ⟨_, fd, ["weights"], He.glo_ok X G (c.fact 8 (f := .glo "least_factor") rfl), F.kp, F.bindsN (fun _ _ _ _ _ _ us hl => match us, hl with | [_], _ => rfl), fun k IH => fn_ok Z IH F sc8 rfl rfl rfl rfl rfl fun C R => b8 C R⟩
theorem sc9 : FnScope n9 ["value"] (defScope (top 21)) := scB_ok (by decide +kernel)
theorem ok9 (X : K.In h) (G : h.Ns mainGlobals mg) (c : He.SaysD faL fnL K) (Z : St0 LW ⟨K, xs, none⟩ P w mg base) : OkF LW ⟨K, xs, none⟩ P w mg base fi9 9 := by
  obtain ⟨fd, F⟩ := c.def_ 9 (d := d9) rfl
  exact ⟨_, fd, ["value"], He.glo_ok X G (c.fact 9 (f := .glo "_law_whole") rfl), F.kp, F.bindsN (fun _ _ _ _ _ _ us hl => match us, hl with | [_], _ => rfl), fun k IH => fn_ok Z IH F sc9 rfl rfl rfl rfl rfl fun C R => b9 C R⟩
theorem sc10 : FnScope n10 ["script", "k"] (defScope (top 22)) := scB_ok (by decide +kernel)
theorem ok10 (X : K.In h) (G : h.Ns mainGlobals mg) (c : He.SaysD faL fnL K) (Z : St0 LW ⟨K, xs, none⟩ P w mg base) : OkF LW ⟨K, xs, none⟩ P w mg base fi10 10 := by
  obtain ⟨fd, F⟩ := c.def_ 10 (d := d10) rfl
  exact ⟨_, fd, ["script", "k"], He.glo_ok X G (c.fact 10 (f := .glo "_law_cell") rfl), F.kp, F.bindsN (fun _ _ _ _ _ _ us hl => match us, hl with | [_, _], _ => rfl), fun k IH => fn_ok Z IH F sc10 rfl rfl rfl rfl rfl fun C R => b10 C R⟩
theorem sc11 : FnScope n11 ["cell", "sizes"] (defScope (top 23)) := scB_ok (by decide +kernel)
theorem ok11 (X : K.In h) (G : h.Ns mainGlobals mg) (c : He.SaysD faL fnL K) (Z : St0 LW ⟨K, xs, none⟩ P w mg base) : OkF LW ⟨K, xs, none⟩ P w mg base fi11 11 := by
  obtain ⟨fd, F⟩ := c.def_ 11 (d := d11) rfl
  exact ⟨_, fd, ["cell", "sizes"], He.glo_ok X G (c.fact 11 (f := .glo "_law_digits") rfl), F.kp, F.bindsN (fun _ _ _ _ _ _ us hl => match us, hl with | [_, _], _ => rfl), fun k IH => fn_ok Z IH F sc11 rfl rfl rfl rfl rfl fun C R => b11 C R⟩
theorem sc12 : FnScope n12 ["top", "bottom"] (defScope (top 24)) := scB_ok (by decide +kernel)
theorem ok12 (X : K.In h) (G : h.Ns mainGlobals mg) (c : He.SaysD faL fnL K) (Z : St0 LW ⟨K, xs, none⟩ P w mg base) : OkF LW ⟨K, xs, none⟩ P w mg base fi12 12 := by
  obtain ⟨fd, F⟩ := c.def_ 12 (d := d12) rfl
  exact ⟨_, fd, ["top", "bottom"], He.glo_ok X G (c.fact 12 (f := .glo "_law_low") rfl), F.kp, F.bindsN (fun _ _ _ _ _ _ us hl => match us, hl with | [_, _], _ => rfl), fun k IH => fn_ok Z IH F sc12 rfl rfl rfl rfl rfl fun C R => b12 C R⟩
theorem sc13 : FnScope n13 ["told", "due"] (defScope (top 25)) := scB_ok (by decide +kernel)
theorem ok13 (X : K.In h) (G : h.Ns mainGlobals mg) (c : He.SaysD faL fnL K) (Z : St0 LW ⟨K, xs, none⟩ P w mg base) : OkF LW ⟨K, xs, none⟩ P w mg base fi13 13 := by
  obtain ⟨fd, F⟩ := c.def_ 13 (d := d13) rfl
  exact ⟨_, fd, ["told", "due"], He.glo_ok X G (c.fact 13 (f := .glo "_law_alike") rfl), F.kp, F.bindsN (fun _ _ _ _ _ _ us hl => match us, hl with | [_, _], _ => rfl), fun k IH => fn_ok Z IH F sc13 rfl rfl rfl rfl rfl fun C R => b13 C R⟩
theorem sc14 : FnScope n14 ["row"] (defScope (top 26)) := scB_ok (by decide +kernel)
theorem ok14 (X : K.In h) (G : h.Ns mainGlobals mg) (c : He.SaysD faL fnL K) (Z : St0 LW ⟨K, xs, none⟩ P w mg base) : OkF LW ⟨K, xs, none⟩ P w mg base fi14 14 := by
  obtain ⟨fd, F⟩ := c.def_ 14 (d := d14) rfl
  exact ⟨_, fd, ["row"], He.glo_ok X G (c.fact 14 (f := .glo "_law_tie") rfl), F.kp, F.bindsN (fun _ _ _ _ _ _ us hl => match us, hl with | [_], _ => rfl), fun k IH => fn_ok Z IH F sc14 rfl rfl rfl rfl rfl fun C R => b14 C R⟩
theorem sc15 : FnScope n15 ["digits"] (defScope (top 27)) := scB_ok (by decide +kernel)
theorem ok15 (X : K.In h) (G : h.Ns mainGlobals mg) (c : He.SaysD faL fnL K) (Z : St0 LW ⟨K, xs, none⟩ P w mg base) : OkF LW ⟨K, xs, none⟩ P w mg base fi15 15 := by
  obtain ⟨fd, F⟩ := c.def_ 15 (d := d15) rfl
  exact ⟨_, fd, ["digits"], He.glo_ok X G (c.fact 15 (f := .glo "_law_planted") rfl), F.kp, F.bindsN (fun _ _ _ _ _ _ us hl => match us, hl with | [_], _ => rfl), fun k IH => fn_ok Z IH F sc15 rfl rfl rfl rfl rfl fun C R => b15 C R⟩
theorem sc16 : FnScope n16 ["digits"] (defScope (top 28)) := scB_ok (by decide +kernel)
theorem ok16 (X : K.In h) (G : h.Ns mainGlobals mg) (c : He.SaysD faL fnL K) (Z : St0 LW ⟨K, xs, none⟩ P w mg base) : OkF LW ⟨K, xs, none⟩ P w mg base fi16 16 := by
  obtain ⟨fd, F⟩ := c.def_ 16 (d := d16) rfl
  exact ⟨_, fd, ["digits"], He.glo_ok X G (c.fact 16 (f := .glo "_law_free") rfl), F.kp, F.bindsN (fun _ _ _ _ _ _ us hl => match us, hl with | [_], _ => rfl), fun k IH => fn_ok Z IH F sc16 rfl rfl rfl rfl rfl fun C R => b16 C R⟩
theorem sc17 : FnScope n17 ["row", "digits"] (defScope (top 29)) := scB_ok (by decide +kernel)
theorem ok17 (X : K.In h) (G : h.Ns mainGlobals mg) (c : He.SaysD faL fnL K) (Z : St0 LW ⟨K, xs, none⟩ P w mg base) : OkF LW ⟨K, xs, none⟩ P w mg base fi17 17 := by
  obtain ⟨fd, F⟩ := c.def_ 17 (d := d17) rfl
  exact ⟨_, fd, ["row", "digits"], He.glo_ok X G (c.fact 17 (f := .glo "_law_turned") rfl), F.kp, F.bindsN (fun _ _ _ _ _ _ us hl => match us, hl with | [_, _], _ => rfl), fun k IH => fn_ok Z IH F sc17 rfl rfl rfl rfl rfl fun C R => b17 C R⟩
theorem sc18 : FnScope n18 ["row"] (defScope (top 30)) := scB_ok (by decide +kernel)
theorem ok18 (X : K.In h) (G : h.Ns mainGlobals mg) (c : He.SaysD faL fnL K) (Z : St0 LW ⟨K, xs, none⟩ P w mg base) : OkF LW ⟨K, xs, none⟩ P w mg base fi18 18 := by
  obtain ⟨fd, F⟩ := c.def_ 18 (d := d18) rfl
  exact ⟨_, fd, ["row"], He.glo_ok X G (c.fact 18 (f := .glo "_law_due") rfl), F.kp, F.bindsN (fun _ _ _ _ _ _ us hl => match us, hl with | [_], _ => rfl), fun k IH => fn_ok Z IH F sc18 rfl rfl rfl rfl rfl fun C R => b18 C R⟩
theorem sc19 : FnScope n19 ["row", "due", "as_list"] (defScope (top 31)) := scB_ok (by decide +kernel)
theorem ok19 (X : K.In h) (G : h.Ns mainGlobals mg) (c : He.SaysD faL fnL K) (Z : St0 LW ⟨K, xs, none⟩ P w mg base) : OkF LW ⟨K, xs, none⟩ P w mg base fi19 19 := by
  obtain ⟨fd, F⟩ := c.def_ 19 (d := d19) rfl
  exact ⟨_, fd, ["row", "due", "as_list"], He.glo_ok X G (c.fact 19 (f := .glo "_law_right") rfl), F.kp, F.bindsN (fun _ _ _ _ _ _ us hl => match us, hl with | [_, _, _], _ => rfl), fun k IH => fn_ok Z IH F sc19 rfl rfl rfl rfl rfl fun C R => b19 C R⟩
theorem sc20 : FnScope n20 ["which", "handed"] (defScope (top 32)) := scB_ok (by decide +kernel)
theorem ok20 (X : K.In h) (G : h.Ns mainGlobals mg) (c : He.SaysD faL fnL K) (Z : St0 LW ⟨K, xs, none⟩ P w mg base) : OkF LW ⟨K, xs, none⟩ P w mg base fi20 20 := by
  obtain ⟨fd, F⟩ := c.def_ 20 (d := d20) rfl
  exact ⟨_, fd, ["which", "handed"], He.glo_ok X G (c.fact 20 (f := .glo "_law_refused") rfl), F.kp, F.bindsN (fun _ _ _ _ _ _ us hl => match us, hl with | [_, _], _ => rfl), fun k IH => fn_ok Z IH F sc20 rfl rfl rfl rfl rfl fun C R => b20 C R⟩
theorem sc21 : FnScope n21 ["script"] (defScope (top 33)) := scB_ok (by decide +kernel)
theorem ok21 (X : K.In h) (G : h.Ns mainGlobals mg) (c : He.SaysD faL fnL K) (Z : St0 LW ⟨K, xs, none⟩ P w mg base) : OkF LW ⟨K, xs, none⟩ P w mg base fi21 21 := by
  obtain ⟨fd, F⟩ := c.def_ 21 (d := d21) rfl
  exact ⟨_, fd, ["script"], He.glo_ok X G (c.fact 21 (f := .glo "law") rfl), F.kp, F.bindsN (fun _ _ _ _ _ _ us hl => match us, hl with | [_], _ => rfl), fun k IH => fn_ok Z IH F sc21 rfl rfl rfl rfl rfl fun C R => b21 C R⟩
theorem hall (X : K.In h) (G : h.Ns mainGlobals mg) (c : He.SaysD faL fnL K) (Z : St0 LW ⟨K, xs, none⟩ P w mg base) : ∀ f fi, LW.T f = some fi → fi.self = none → fi.init = none → OkF LW ⟨K, xs, none⟩ P w mg base fi f := by
  intro f fi hT _ _
  match f, hT with
  | 0, hT =>
    obtain rfl : fi0 = fi := Option.some.inj (show some fi0 = some fi from hT)
    exact ok0 X G c Z
  | 1, hT =>
    obtain rfl : fi1 = fi := Option.some.inj (show some fi1 = some fi from hT)
    exact ok1 X G c Z
  | 2, hT =>
    obtain rfl : fi2 = fi := Option.some.inj (show some fi2 = some fi from hT)
    exact ok2 X G c Z
  | 3, hT =>
    obtain rfl : fi3 = fi := Option.some.inj (show some fi3 = some fi from hT)
    exact ok3 X G c Z
  | 4, hT =>
    obtain rfl : fi4 = fi := Option.some.inj (show some fi4 = some fi from hT)
    exact ok4 X G c Z
  | 5, hT =>
    obtain rfl : fi5 = fi := Option.some.inj (show some fi5 = some fi from hT)
    exact ok5 X G c Z
  | 6, hT =>
    obtain rfl : fi6 = fi := Option.some.inj (show some fi6 = some fi from hT)
    exact ok6 X G c Z
  | 7, hT =>
    obtain rfl : fi7 = fi := Option.some.inj (show some fi7 = some fi from hT)
    exact ok7 X G c Z
  | 8, hT =>
    obtain rfl : fi8 = fi := Option.some.inj (show some fi8 = some fi from hT)
    exact ok8 X G c Z
  | 9, hT =>
    obtain rfl : fi9 = fi := Option.some.inj (show some fi9 = some fi from hT)
    exact ok9 X G c Z
  | 10, hT =>
    obtain rfl : fi10 = fi := Option.some.inj (show some fi10 = some fi from hT)
    exact ok10 X G c Z
  | 11, hT =>
    obtain rfl : fi11 = fi := Option.some.inj (show some fi11 = some fi from hT)
    exact ok11 X G c Z
  | 12, hT =>
    obtain rfl : fi12 = fi := Option.some.inj (show some fi12 = some fi from hT)
    exact ok12 X G c Z
  | 13, hT =>
    obtain rfl : fi13 = fi := Option.some.inj (show some fi13 = some fi from hT)
    exact ok13 X G c Z
  | 14, hT =>
    obtain rfl : fi14 = fi := Option.some.inj (show some fi14 = some fi from hT)
    exact ok14 X G c Z
  | 15, hT =>
    obtain rfl : fi15 = fi := Option.some.inj (show some fi15 = some fi from hT)
    exact ok15 X G c Z
  | 16, hT =>
    obtain rfl : fi16 = fi := Option.some.inj (show some fi16 = some fi from hT)
    exact ok16 X G c Z
  | 17, hT =>
    obtain rfl : fi17 = fi := Option.some.inj (show some fi17 = some fi from hT)
    exact ok17 X G c Z
  | 18, hT =>
    obtain rfl : fi18 = fi := Option.some.inj (show some fi18 = some fi from hT)
    exact ok18 X G c Z
  | 19, hT =>
    obtain rfl : fi19 = fi := Option.some.inj (show some fi19 = some fi from hT)
    exact ok19 X G c Z
  | 20, hT =>
    obtain rfl : fi20 = fi := Option.some.inj (show some fi20 = some fi from hT)
    exact ok20 X G c Z
  | 21, hT =>
    obtain rfl : fi21 = fi := Option.some.inj (show some fi21 = some fi from hT)
    exact ok21 X G c Z
  | n + 22, hT =>
    have e : LW.T (n + 22) = none := List.getElem?_eq_none (show 22 ≤ n + 22 from Nat.le_add_left 22 n)
    rw [e] at hT
    cases hT
theorem ix0 (c : He.SaysD faL fnL K) {C : Addr} : ∃ (fd : FuncData) (ps : List Str), Binds K fd ps [] ∧ FnOk P w K mg base (L2.CX P w) 1 (He.ma K (He.ga K "BadAmount") "__init__") fd ps (spX K C ["value"]) := by
  obtain ⟨fd, F⟩ := c.def_ 22 (d := dI0) rfl
  exact ⟨fd, ["self", "value"], F.bindsN (fun _ _ _ _ _ _ us hl => match us, hl with | [_, _], _ => rfl), xi1 (B := ⟨K, [], none⟩) F rfl (scB_ok (by decide +kernel)) (Or.inl rfl) (Or.inl rfl) (by decide) (by decide) (fun _ _ => rfl)⟩
theorem ix1 (c : He.SaysD faL fnL K) {C : Addr} : ∃ (fd : FuncData) (ps : List Str), Binds K fd ps [] ∧ FnOk P w K mg base (L2.CX P w) 1 (He.ma K (He.ga K "BadCount") "__init__") fd ps (spX K C ["count"]) := by
  obtain ⟨fd, F⟩ := c.def_ 23 (d := dI1) rfl
  exact ⟨fd, ["self", "count"], F.bindsN (fun _ _ _ _ _ _ us hl => match us, hl with | [_, _], _ => rfl), xi1 (B := ⟨K, [], none⟩) F rfl (scB_ok (by decide +kernel)) (Or.inl rfl) (Or.inl rfl) (by decide) (by decide) (fun _ _ => rfl)⟩
theorem ix2 (c : He.SaysD faL fnL K) {C : Addr} : ∃ (fd : FuncData) (ps : List Str), Binds K fd ps [] ∧ FnOk P w K mg base (L2.CX P w) 1 (He.ma K (He.ga K "NotBelow") "__init__") fd ps (spX K C ["factor"]) := by
  obtain ⟨fd, F⟩ := c.def_ 24 (d := dI2) rfl
  exact ⟨fd, ["self", "factor"], F.bindsN (fun _ _ _ _ _ _ us hl => match us, hl with | [_, _], _ => rfl), xi1 (B := ⟨K, [], none⟩) F rfl (scB_ok (by decide +kernel)) (Or.inl rfl) (Or.inl rfl) (by decide) (by decide) (fun _ _ => rfl)⟩
theorem hinit (c : He.SaysD faL fnL K) : ∀ x ns, (x, some ns) ∈ LD.xsL → OexC K (He.ga K x) → ∃ (fd : FuncData) (ps : List Str), Binds K fd ps [] ∧ FnOk P w K mg base (L2.CX P w) 1 (He.ma K (He.ga K x) "__init__") fd ps (spX K (He.ga K x) ns) := by
  intro x ns hx _
  rcases List.mem_cons.mp hx with e | hx
  · cases e
  rcases List.mem_cons.mp hx with e | hx
  · cases e
    exact ix0 c
  rcases List.mem_cons.mp hx with e | hx
  · cases e
    exact ix1 c
  rcases List.mem_cons.mp hx with e | hx
  · cases e
  rcases List.mem_cons.mp hx with e | hx
  · cases e
  rcases List.mem_cons.mp hx with e | hx
  · cases e
    exact ix2 c
  cases hx
theorem law_fn {kk n : Nat} {f : Addr} (X : K.In h) (G : h.Ns mainGlobals mg) (hfa : mg ("law" : Str) = some (.ref f)) (c : He.SaysD faL fnL K) (ce : LD.ex K = true) (hl : ∀ ns : List Int, ns.length ≤ n → (∀ z ∈ ns, bt z ≤ 1048576) → run LW.T (kk + 1) 21 [.lst (ns.map D.int)] = .ok (.bl true)) :
    ∃ fd : FuncData, (∀ (s : Shared) (u : Value), BindsTo s fd ⟨[u], []⟩ [("script", u)]) ∧ ∀ base : Heap, K.In base → base.Ns mainGlobals mg → FnOk P w K mg base (L2.CX P w) (kk + 1 + 2) f fd ["script"] (spLw K n) := by
  obtain ⟨fd, F⟩ := c.def_ 21 (d := d21) rfl
  have e := hfa.symm.trans (He.glo_ok X G (c.fact 21 (f := .glo "law") rfl))
  cases e
  have b := FunD.bindsA (ps := ["script"]) F fun _ _ _ _ _ _ us hl => match us, hl with | [_], _ => rfl
  refine ⟨fd, fun s v => b s [v] rfl, fun base KX GX => ?_⟩
  have Z : St0 LW ⟨K, LD.xsL.map (·.1), none⟩ P w mg base := st0_of LD X G ce (hinit c)
  have F2 := fn_ok Z (all_f (hall X G c Z) kk) F sc21 (f := 21) (fi := fi21) rfl rfl rfl rfl rfl fun C R => b21 C R
  exact F2.imp fun vs H Q E q => law_spc hl q
end
end K28a
set_option Elab.async false
set_option linter.all false
set_option maxRecDepth 100000
set_option maxHeartbeats 2000000
namespace K28a
open PySem Pv

abbrev T : Nat → Option FI := LW.T
def sq (t : Bool) (ws : List Int) : D := if t then .tup (ws.map D.int) else .lst (ws.map D.int)
def nats (l : List Nat) : List D := l.map fun k : Nat => D.int (k : Int)
theorem sq_ix {t : Bool} {ws : List Int} {k : Nat} (h : k < ws.length) : ixD (sq t ws) (.int k) = .ok (.int (ws.getD k 0)) := by
  have e : (ws.map D.int)[k]? = some (.int (ws.getD k 0)) := by
    rw [List.getElem?_map, List.getElem?_eq_getElem h, List.getD_eq_getElem?_getD, List.getElem?_eq_getElem h]
    rfl
  cases t with
  | true => exact ix_tup e
  | false => exact ix_lst e
theorem intsOf_map (ns : List Int) : intsOf (ns.map D.int) = some ns := by
  induction ns with
  | nil => rfl
  | cons n ns ih =>
    show (intsOf (ns.map D.int)).map (n :: ·) = _
    rw [ih]
    rfl
theorem sum_ok (ns : List Int) : blD .sum [.lst (ns.map D.int)] = .ok (.int ns.sum) := by
  show (oR (intsOf (ns.map D.int))).bind (fun ns => R.ok (D.int ns.sum)) = _
  rw [intsOf_map]
  rfl
/-- the sum of f over the places l -/
def sm (f : Int → Int) (ws : List Int) (l : List Nat) : Int := (l.map fun k => f (ws.getD k 0)).sum
theorem seq_nats (l : List Nat) : seqIt (.tup (nats l)) = .ok (nats l) := rfl
variable {k : Nat}
theorem r_sum (t : Bool) (ws : List Int) (l : List Nat) (hl : ∀ i ∈ l, i < ws.length) (hn : l.length < 1000) : run T (k + 1) 0 [sq t ws, .tup (nats l)] = .ok (.int (sm id ws l)) := by
  rw [run_fn (fi := fi0) rfl rfl]
  have e : lcRes (lcF (run T k) e0_1 (.nm 2) .nil [2] [some (sq t ws), some (.tup (nats l)), none]) (nats l) = .ok (.lst ((nats l).map fun d => match d with | .int i => D.int (ws.getD i.toNat 0) | _ => .non)) := by
    refine lcRes_map _ (fun d hd => ?_) (by unfold nats; rw [List.length_map]; omega)
    obtain ⟨i, hi, rfl⟩ := List.mem_map.mp hd
    simp [e0_1, sq_ix (hl i hi)]
  have e2 : ((nats l).map fun d => match d with | .int i => D.int (ws.getD i.toNat 0) | _ => .non) = (l.map fun k => ws.getD k 0).map D.int := by
    unfold nats
    rw [List.map_map, List.map_map]
    rfl
  simp only [fi0, t0, show startE 3 [sq t ws, .tup (nats l)] = [some (sq t ws), some (.tup (nats l)), none] from rfl, evSsq_cons, evSq_ret, evq_blt, evsq_cons, evsq_nil, evq_lc, evItq_seq, evq_var, getV_zero, getV_succ, R.bind_ok, seq_nats, e, e2, sum_ok, SR.of_ok, andS_rt, finish_rt]
  rfl
theorem r_sqs (t : Bool) (ws : List Int) (l : List Nat) (hl : ∀ i ∈ l, i < ws.length) (hn : l.length < 1000) (hw : ∀ w ∈ ws, w.natAbs < 2 ^ 64) : run T (k + 1) 1 [sq t ws, .tup (nats l)] = .ok (.int (sm (fun w => w * w) ws l)) := by
  rw [run_fn (fi := fi1) rfl rfl]
  have e : lcRes (lcF (run T k) e1_1 (.nm 2) .nil [2] [some (sq t ws), some (.tup (nats l)), none]) (nats l) = .ok (.lst ((nats l).map fun d => match d with | .int i => D.int (ws.getD i.toNat 0 * ws.getD i.toNat 0) | _ => .non)) := by
    refine lcRes_map _ (fun d hd => ?_) (by unfold nats; rw [List.length_map]; omega)
    obtain ⟨i, hi, rfl⟩ := List.mem_map.mp hd
    have hb : (ws.getD i 0).natAbs < 2 ^ 64 := by
      rw [List.getD_eq_getElem?_getD, List.getElem?_eq_getElem (hl i hi)]
      exact hw _ (List.getElem_mem _)
    simp only [e1_1, evq_bin, evq_ix, evq_var, List.set_cons_succ, List.set_cons_zero, getV_zero, getV_succ, R.bind_ok, sq_ix (hl i hi), mul_small hb hb, Int.toNat_natCast]
  have e2 : ((nats l).map fun d => match d with | .int i => D.int (ws.getD i.toNat 0 * ws.getD i.toNat 0) | _ => .non) = (l.map fun k => ws.getD k 0 * ws.getD k 0).map D.int := by
    unfold nats
    rw [List.map_map, List.map_map]
    rfl
  simp only [fi1, t1, show startE 3 [sq t ws, .tup (nats l)] = [some (sq t ws), some (.tup (nats l)), none] from rfl, evSsq_cons, evSq_ret, evq_blt, evsq_cons, evsq_nil, evq_lc, evItq_seq, evq_var, getV_zero, getV_succ, R.bind_ok, seq_nats, e, e2, sum_ok, SR.of_ok, andS_rt, finish_rt]
  rfl
/-- both divided by their greatest common divisor -/
def red (a b : Int) : D := .tup [.int (a / (Nat.gcd a.natAbs b.natAbs : Nat)), .int (b / (Nat.gcd a.natAbs b.natAbs : Nat))]
theorem gcd_pos {a b : Int} (hb : 0 < b) : (0 : Int) < (Nat.gcd a.natAbs b.natAbs : Nat) := by
  have := Nat.gcd_pos_of_pos_right a.natAbs (show 0 < b.natAbs by omega)
  omega
theorem gcd_le {a b : Int} (hb : 0 < b) : ((Nat.gcd a.natAbs b.natAbs : Nat) : Int) ≤ b := by
  have := Nat.gcd_le_right a.natAbs (show 0 < b.natAbs by omega)
  omega
theorem r_lowest (a b : Int) (hb : 0 < b) (hs : b < 18446744073709551616) : run T (k + 1) 2 [.int a, .int b] = .ok (red a b) := by
  rw [run_fn (fi := fi2) rfl rfl]
  have hg : blD .gcd [.int a, .int b] = .ok (.int (Nat.gcd a.natAbs b.natAbs : Nat)) := rfl
  have h1 := gcd_pos (a := a) hb
  have h2 := gcd_le (a := a) hb
  have hd : ∀ z : Int, binD .fdiv (.int z) (.int (Nat.gcd a.natAbs b.natAbs : Nat)) = .ok (.int (z / (Nat.gcd a.natAbs b.natAbs : Nat))) := fun z => div_small h1 (by omega)
  simp only [fi2, t2, show startE 3 [.int a, .int b] = [some (.int a), some (.int b), none] from rfl, evSsq_cons, evSq_set, evq_blt, evsq_cons, evsq_nil, evq_var, getV_zero, getV_succ, R.bind_ok, hg, SR.of_ok, setT_nm, oS_some, List.set_cons_succ, List.set_cons_zero, andS_nx, evSq_ret, evq_tup, evq_bin, hd, andS_rt, finish_rt]
  rfl
theorem r_ratio (a b : Int) (hb : 0 < b) (hs : b < 18446744073709551616) : run T (k + 2) 3 [.int a, .int b] = .ok (red a b) := by
  rw [run_fn (fi := fi3) rfl rfl]
  have h1 : ¬ b = 0 := by omega
  have h2 : ¬ b < 0 := by omega
  simp [fi3, t3, startE, r_lowest a b hb hs, h1, h2]
theorem r_less (a b c d : Int) (h1 : a.natAbs < 2 ^ 64) (h2 : b.natAbs < 2 ^ 64) (h3 : c.natAbs < 2 ^ 64) (h4 : d.natAbs < 2 ^ 64) : run T (k + 1) 4 [.tup [.int a, .int b], .tup [.int c, .int d]] = .ok (.bl (decide (a * d < c * b))) := by
  rw [run_fn (fi := fi4) rfl rfl]
  have i0 : ∀ x y : D, ixD (.tup [x, y]) (.int 0) = .ok x := fun _ _ => rfl
  have i1 : ∀ x y : D, ixD (.tup [x, y]) (.int 1) = .ok y := fun _ _ => rfl
  simp [fi4, t4, startE, i0, i1, mul_small h1 h4, mul_small h3 h2]
end K28a
set_option Elab.async false
set_option linter.all false
set_option maxRecDepth 100000
set_option maxHeartbeats 2000000
namespace K28a
open PySem Pv
variable {k : Nat}

/-! ### sums -/
theorem sm_bd {f : Int → Int} {ws : List Int} {l : List Nat} {lo hi : Int} (hl : ∀ i ∈ l, i < ws.length) (h : ∀ w ∈ ws, lo ≤ f w ∧ f w ≤ hi) : lo * l.length ≤ sm f ws l ∧ sm f ws l ≤ hi * l.length := by
  unfold sm
  induction l with
  | nil => simp
  | cons i l ih =>
    obtain ⟨h1, h2⟩ := ih fun j hj => hl j (List.mem_cons_of_mem _ hj)
    have hi' := hl i List.mem_cons_self
    have hb : lo ≤ f (ws.getD i 0) ∧ f (ws.getD i 0) ≤ hi := by
      rw [List.getD_eq_getElem?_getD, List.getElem?_eq_getElem hi']
      exact h _ (List.getElem_mem _)
    rw [List.map_cons, List.sum_cons, List.length_cons]
    have e1 : lo * ((l.length + 1 : Nat) : Int) = lo * l.length + lo := by rw [Int.natCast_add, Int.mul_add]; simp
    have e2 : hi * ((l.length + 1 : Nat) : Int) = hi * l.length + hi := by rw [Int.natCast_add, Int.mul_add]; simp
    rw [e1, e2]
    omega
/-- weights as the law makes them -/
structure Row (ws : List Int) : Prop where
  pos : 0 < ws.length
  len : ws.length ≤ 12
  bd : ∀ w ∈ ws, 1 ≤ w ∧ w ≤ 999
/-- a lot that is not empty -/
structure Lot (ws : List Int) (l : List Nat) : Prop where
  ix : ∀ i ∈ l, i < ws.length
  ne : 0 < l.length
  le : l.length ≤ 12
def Wt (ws : List Int) (l : List Nat) : Int := sm id ws l
def Sq (ws : List Int) (l : List Nat) : Int := sm (fun w => w * w) ws l
theorem wt_bd {ws : List Int} {l : List Nat} (hR : Row ws) (L : Lot ws l) : 1 ≤ Wt ws l ∧ Wt ws l ≤ 11988 := by
  have h := sm_bd (f := id) (lo := 1) (hi := 999) L.ix fun w hw => hR.bd w hw
  have h1 := L.ne
  have h2 := L.le
  unfold Wt
  omega
theorem sq_bd {ws : List Int} {l : List Nat} (hR : Row ws) (L : Lot ws l) : 1 ≤ Sq ws l ∧ Sq ws l ≤ 11976012 := by
  have h := sm_bd (f := fun w => w * w) (lo := 1) (hi := 998001) L.ix fun w hw => by
    obtain ⟨h1, h2⟩ := hR.bd w hw
    have h3 : 1 * 1 ≤ w * w := Int.mul_le_mul h1 h1 (by omega) (by omega)
    have h4 : w * w ≤ 999 * 999 := Int.mul_le_mul h2 h2 (by omega) (by omega)
    exact ⟨by simpa using h3, by simpa using h4⟩
  have h1 := L.ne
  have h2 := L.le
  unfold Sq
  omega
theorem wt2_bd {ws : List Int} {l : List Nat} (hR : Row ws) (L : Lot ws l) : 1 ≤ Wt ws l * Wt ws l ∧ Wt ws l * Wt ws l ≤ 143712144 := by
  obtain ⟨h1, h2⟩ := wt_bd hR L
  have h3 : 1 * 1 ≤ Wt ws l * Wt ws l := Int.mul_le_mul h1 h1 (by omega) (by omega)
  have h4 : Wt ws l * Wt ws l ≤ 11988 * 11988 := Int.mul_le_mul h2 h2 (by omega) (by omega)
  exact ⟨by simpa using h3, by simpa using h4⟩
theorem r_spread (t : Bool) {ws : List Int} {l : List Nat} (hR : Row ws) (L : Lot ws l) : run T (k + 3) 5 [sq t ws, .tup (nats l)] = .ok (red (Wt ws l * Wt ws l) (Sq ws l)) := by
  rw [run_fn (fi := fi5) rfl rfl]
  have hn : l.length < 1000 := Nat.lt_of_le_of_lt L.le (by decide)
  have e0 : run T (k + 2) 0 [sq t ws, .tup (nats l)] = .ok (.int (Wt ws l)) := r_sum (k := k + 1) t ws l L.ix hn
  have e1 : run T (k + 2) 1 [sq t ws, .tup (nats l)] = .ok (.int (Sq ws l)) := r_sqs (k := k + 1) t ws l L.ix hn fun w hw => by
    obtain ⟨h1, h2⟩ := hR.bd w hw
    omega
  obtain ⟨h1, h2⟩ := wt_bd hR L
  obtain ⟨h3, h4⟩ := sq_bd hR L
  have hm : binD .mul (.int (Wt ws l)) (.int (Wt ws l)) = .ok (.int (Wt ws l * Wt ws l)) := mul_small (by omega) (by omega)
  have e2 : run T (k + 2) 3 [.int (Wt ws l * Wt ws l), .int (Sq ws l)] = .ok (red (Wt ws l * Wt ws l) (Sq ws l)) := r_ratio (k := k) _ _ (by omega) (by omega)
  simp only [fi5, t5, show startE 3 [sq t ws, .tup (nats l)] = [some (sq t ws), some (.tup (nats l)), none] from rfl, evSsq_cons, evSq_set, evq_call, evsq_cons, evsq_nil, evq_var, getV_zero, getV_succ, R.bind_ok, e0, SR.of_ok, setT_nm, oS_some, List.set_cons_succ, List.set_cons_zero, andS_nx, evSq_ret, evq_bin, hm, e1, e2, andS_rt, finish_rt]
/-! ### which of two is greater -/
/-- a/b < c/d -/
def bet (a b c d : Int) : Prop := a * d < c * b
theorem div_g {a b : Int} (hb : 0 < b) : ∃ g a' b' : Int, 0 < g ∧ a = a' * g ∧ b = b' * g ∧ a / (Nat.gcd a.natAbs b.natAbs : Nat) = a' ∧ b / (Nat.gcd a.natAbs b.natAbs : Nat) = b' ∧ g = (Nat.gcd a.natAbs b.natAbs : Nat) := by
  have hg := gcd_pos (a := a) hb
  have h1 : ((Nat.gcd a.natAbs b.natAbs : Nat) : Int) ∣ a := Int.dvd_natAbs.mp (Int.natCast_dvd_natCast.mpr (Nat.gcd_dvd_left _ _))
  have h2 : ((Nat.gcd a.natAbs b.natAbs : Nat) : Int) ∣ b := Int.dvd_natAbs.mp (Int.natCast_dvd_natCast.mpr (Nat.gcd_dvd_right _ _))
  exact ⟨_, _, _, hg, (Int.ediv_mul_cancel h1).symm, (Int.ediv_mul_cancel h2).symm, rfl, rfl, rfl⟩
theorem r_better {a b c d : Int} (hb : 0 < b) (hd : 0 < d) (b1 : 0 ≤ a ∧ a < 18446744073709551616) (b2 : b < 18446744073709551616) (b3 : 0 ≤ c ∧ c < 18446744073709551616) (b4 : d < 18446744073709551616) : run T (k + 1) 4 [red a b, red c d] = .ok (.bl (decide (a * d < c * b))) := by
  obtain ⟨g, a', b', hg, ea, eb, e1, e2, eg⟩ := div_g (a := a) hb
  obtain ⟨h, c', d', hh, ec, ed, e3, e4, eh⟩ := div_g (a := c) hd
  unfold red
  rw [e1, e2, e3, e4]
  have p1 : 0 ≤ a' := by rw [← e1]; exact Int.ediv_nonneg b1.1 (by omega)
  have p2 : 0 ≤ b' := by rw [← e2]; exact Int.ediv_nonneg (by omega) (by omega)
  have p3 : 0 ≤ c' := by rw [← e3]; exact Int.ediv_nonneg b3.1 (by omega)
  have p4 : 0 ≤ d' := by rw [← e4]; exact Int.ediv_nonneg (by omega) (by omega)
  have q1 : a' ≤ a := by rw [← e1]; exact Int.ediv_le_self _ b1.1
  have q2 : b' ≤ b := by rw [← e2]; exact Int.ediv_le_self _ (by omega)
  have q3 : c' ≤ c := by rw [← e3]; exact Int.ediv_le_self _ b3.1
  have q4 : d' ≤ d := by rw [← e4]; exact Int.ediv_le_self _ (by omega)
  rw [r_less _ _ _ _ (by omega) (by omega) (by omega) (by omega)]
  have e : (a' * d' < c' * b') ↔ a * d < c * b := by
    have x1 : a * d = a' * d' * (g * h) := by
      rw [ea, ed]; simp only [Int.mul_assoc, Int.mul_left_comm, Int.mul_comm]
    have x2 : c * b = c' * b' * (g * h) := by
      rw [ec, eb]; simp only [Int.mul_assoc, Int.mul_left_comm, Int.mul_comm]
    rw [x1, x2]
    exact (Int.mul_lt_mul_right (Int.mul_pos hg hh)).symm
  rw [decide_eq_decide.mpr e]
end K28a
set_option Elab.async false
set_option linter.all false
set_option maxRecDepth 100000
set_option maxHeartbeats 2000000
namespace K28a
open PySem Pv
variable {k : Nat}

theorem sorted_ok (t : Bool) (ws : List Int) : blD .sorted [sq t ws] = .ok (.lst ((sortI ws).map D.int)) := by
  cases t with
  | true =>
    show (oR (intsOf (ws.map D.int))).bind (fun ns => R.ok (D.lst ((sortI ns).map D.int))) = _
    rw [intsOf_map]
    rfl
  | false =>
    show (oR (intsOf (ws.map D.int))).bind (fun ns => R.ok (D.lst ((sortI ns).map D.int))) = _
    rw [intsOf_map]
    rfl
theorem mem_sortI {ws : List Int} {v : Int} : v ∈ sortI ws ↔ v ∈ ws := (List.mergeSort_perm ws _).mem_iff
theorem sortI_len {ws : List Int} : (sortI ws).length = ws.length := (List.mergeSort_perm ws _).length_eq
theorem sortI_le {ws : List Int} : (sortI ws).Pairwise (fun a b => a ≤ b) := by
  have h := List.pairwise_mergeSort (le := fun a b : Int => decide (a ≤ b)) (by intro a b c; simp; omega) (by intro a b; simp; omega) ws
  exact h.imp fun h => of_decide_eq_true h
def thr (ws : List Int) (v : Int) : List Nat := (List.range ws.length).filter fun k => decide (ws.getD k 0 ≤ v)
theorem lot_thr {ws : List Int} {v : Int} (hR : Row ws) (hv : v ∈ ws) : Lot ws (thr ws v) := by
  refine ⟨fun i hi => List.mem_range.mp (List.mem_filter.mp hi).1, ?_, Nat.le_trans (List.length_filter_le _ _) (by rw [List.length_range]; exact hR.len)⟩
  obtain ⟨i, hi, e⟩ := List.mem_iff_getElem.mp hv
  refine List.length_pos_of_mem (a := i) (List.mem_filter.mpr ⟨List.mem_range.mpr hi, ?_⟩)
  rw [List.getD_eq_getElem?_getD, List.getElem?_eq_getElem hi]
  simp [e]
theorem rng_nats (n : Nat) : rngD 0 (n : Int) = nats (List.range n) := by
  unfold rngD nats
  rw [show ((n : Int) - 0).toNat = n by omega]
  refine List.map_congr_left fun i _ => ?_
  rw [Int.zero_add]
theorem thr_ok (t : Bool) {ws : List Int} (hR : Row ws) (v : Int) (ch o : Option D) (cl : CallT) : (ev cl (.blt .tuple (.cons (.lc e6_2 (.nm 4) (.rng (.c (.int 0)) (.blt .len (.cons (.var 0) (.nil)))) (.cons e6_1 .nil) [4]) (.nil))) [some (sq t ws), ch, some (.int v), o, none]) = .ok (.tup (nats (thr ws v))) := by
  have hlen : blD .len [sq t ws] = .ok (.int ws.length) := by
    cases t <;> simp [sq]
  have h12 := hR.len
  have e : lcRes (lcF cl e6_2 (.nm 4) (.cons e6_1 .nil) [4] [some (sq t ws), ch, some (.int v), o, none]) (nats (List.range ws.length)) = .ok (.lst (((nats (List.range ws.length)).filter fun d => match d with | .int i => decide (ws.getD i.toNat 0 ≤ v) | _ => false).map id)) := by
    refine lcRes_filter _ _ (fun d hd => ?_) (fun d hd _ => ?_) (by unfold nats; rw [List.length_map, List.length_range]; omega)
    · obtain ⟨i, hi, rfl⟩ := List.mem_map.mp hd
      simp [e6_1, sq_ix (List.mem_range.mp hi)]
    · simp [e6_2]
  have e2 : ((nats (List.range ws.length)).filter fun d => match d with | .int i => decide (ws.getD i.toNat 0 ≤ v) | _ => false).map id = nats (thr ws v) := by
    rw [List.map_id]
    unfold nats thr
    rw [List.filter_map]
    rfl
  simp only [evq_blt, evsq_cons, evsq_nil, evq_lc, evItq_rng, evq_c, evq_var, getV_zero, getV_succ, R.bind_ok, hlen, rngIt_ok (show (-4611686018427387904 : Int) ≤ 0 by omega) (show (0 : Int) < 4611686018427387904 by omega) (show (-4611686018427387904 : Int) ≤ (ws.length : Int) by omega) (show (ws.length : Int) < 4611686018427387904 by omega), rng_nats, e, e2]
  rfl
/-- the spread of u's threshold is less than v's -/
def Less (ws : List Int) (u v : Int) : Prop := Wt ws (thr ws u) * Wt ws (thr ws u) * Sq ws (thr ws v) < Wt ws (thr ws v) * Wt ws (thr ws v) * Sq ws (thr ws u)
/-- a/b ≤ c/d < e/f -/
theorem cross {a b c d e f : Int} (hb : 0 < b) (hd : 0 < d) (hf : 0 < f) (h1 : a * d ≤ c * b) (h2 : c * f < e * d) : a * f < e * b := by
  have h3 : a * d * f ≤ c * b * f := Int.mul_le_mul_of_nonneg_right h1 (by omega)
  have h4 : c * f * b < e * d * b := Int.mul_lt_mul_of_pos_right h2 hb
  have e1 : a * d * f = a * f * d := Int.mul_right_comm a d f
  have e2 : c * b * f = c * f * b := Int.mul_right_comm c b f
  have e3 : e * d * b = e * b * d := Int.mul_right_comm e d b
  rw [e1, e2] at h3
  rw [e3] at h4
  exact Int.lt_of_mul_lt_mul_right (Int.lt_of_le_of_lt h3 h4) (by omega)
/-- v: the smallest of l whose threshold's spread is the greatest -/
structure Best (ws : List Int) (l : List Int) (v : Int) : Prop where
  mem : v ∈ l
  top : ∀ u ∈ l, ¬ Less ws v u
  first : ∀ u ∈ l, u < v → Less ws u v
theorem Best.snoc {ws l : List Int} {v u : Int} (hR : Row ws) (hl : ∀ x ∈ l, x ∈ ws) (hu : u ∈ ws) (h : Best ws l v) (hs : ∀ x ∈ l, x ≤ u) : (Less ws v u → Best ws (l ++ [u]) u) ∧ (¬ Less ws v u → Best ws (l ++ [u]) v) := by
  have bd : ∀ x, x ∈ ws → 0 < Sq ws (thr ws x) := fun x hx => by have := sq_bd hR (lot_thr hR hx); omega
  have bu := bd u hu
  have bv := bd v (hl v h.mem)
  refine ⟨fun c => ⟨List.mem_append_right _ List.mem_cons_self, fun x hx => ?_, fun x hx hlt => ?_⟩, fun c => ⟨List.mem_append_left _ h.mem, fun x hx => ?_, fun x hx hlt => ?_⟩⟩
  · rcases List.mem_append.mp hx with hx | hx
    · have h1 := h.top x hx
      have b1 := bd x (hl x hx)
      unfold Less at h1 c ⊢
      have := cross b1 bv bu (Int.not_lt.mp h1) c
      omega
    · cases List.mem_singleton.mp hx
      unfold Less
      omega
  · rcases List.mem_append.mp hx with hx | hx
    · have h1 := h.top x hx
      have b1 := bd x (hl x hx)
      unfold Less at h1 c ⊢
      exact cross b1 bv bu (Int.not_lt.mp h1) c
    · cases List.mem_singleton.mp hx
      omega
  · rcases List.mem_append.mp hx with hx | hx
    · exact h.top x hx
    · cases List.mem_singleton.mp hx
      exact c
  · rcases List.mem_append.mp hx with hx | hx
    · exact h.first x hx hlt
    · cases List.mem_singleton.mp hx
      have := hs v h.mem
      omega
theorem r_best (t : Bool) {ws : List Int} (hR : Row ws) : ∃ v, run T (k + 4) 6 [sq t ws] = .ok (.tup (nats (thr ws v))) ∧ v ∈ ws ∧ Best ws ws v := by
  rw [run_fn (fi := fi6) rfl rfl]
  have h0 := hR.pos
  have hlen : blD .len [sq t ws] = .ok (.int ws.length) := by
    cases t <;> simp [sq]
  have hne : ¬ ((ws.length : Int) = 0) := by omega
  obtain ⟨ρ', e, h⟩ := forL_nx (f := turn (run T (k + 3)) (.nm 2) b6_3) (l := (sortI ws).map D.int)
    (fun i ρ => (i = 0 ∧ ρ = [some (sq t ws), some .non, none, none, none]) ∨ ∃ v o o2, 0 < i ∧ ρ = [some (sq t ws), some (.tup (nats (thr ws v))), o, o2, none] ∧ Best ws ((sortI ws).take i) v)
    (ρ0 := [some (sq t ws), some .non, none, none, none]) (.inl ⟨rfl, rfl⟩) (by
      intro i d ρ hd hI
      rw [List.getElem?_map] at hd
      cases e : (sortI ws)[i]? with
      | none => rw [e] at hd; cases hd
      | some u =>
        rw [e] at hd
        cases hd
        have hu : u ∈ ws := mem_sortI.mp (List.mem_of_getElem? e)
        have hL := lot_thr hR hu
        have htake : (sortI ws).take (i + 1) = (sortI ws).take i ++ [u] := by rw [List.take_succ, e]; rfl
        rcases hI with ⟨rfl, rfl⟩ | ⟨v, o, o2, hi, rfl, hb⟩
        · refine ⟨[some (sq t ws), some (.tup (nats (thr ws u))), some (.int u), some (.tup (nats (thr ws u))), none], ?_, .inr ⟨u, _, _, by omega, rfl, ?_⟩⟩
          · have e1 := thr_ok t hR u (some .non) none (run T (k + 3))
            have ec : cmpD .isN .non .non = .ok true := rfl
            simp only [b6_3, turn_nm, List.set_cons_succ, List.set_cons_zero, evSsq_cons, evSq_set, e1, SR.of_ok, setT_nm, oS_some, andS_nx, evSq_ite, evq_or, evq_cmp, evq_var, getV_succ, getV_zero, R.bind_ok, evq_c, ec, tBool_bl, if_true, brD_bl, evSsq_nil]
          · rw [htake]
            exact ⟨List.mem_append_right _ List.mem_cons_self, fun x hx => by
              have : x = u := by simpa using hx
              subst this
              unfold Less
              omega, fun x hx hlt => by
              have : x = u := by simpa using hx
              omega⟩
        · have hsub : ∀ x ∈ (sortI ws).take i, x ∈ ws := fun x hx => mem_sortI.mp (List.mem_of_mem_take hx)
          have hv : v ∈ ws := hsub v hb.mem
          have hLv := lot_thr hR hv
          have hle : ∀ x ∈ (sortI ws).take i, x ≤ u := fun x hx => by
            obtain ⟨j, hj, ej⟩ := List.mem_iff_getElem.mp hx
            rw [List.length_take] at hj
            rw [List.getElem_take] at ej
            obtain ⟨hi', eu⟩ := List.getElem?_eq_some_iff.mp e
            have := List.pairwise_iff_getElem.mp (sortI_le (ws := ws)) j i (by omega) hi' (by omega)
            rw [ej, eu] at this
            exact this
          obtain ⟨s1, s2⟩ := hb.snoc hR hsub hu hle
          have ec : cmpD .isN (.tup (nats (thr ws v))) .non = .ok false := rfl
          have e1 := thr_ok t hR u (some (.tup (nats (thr ws v)))) o2 (run T (k + 3))
          have ev := r_spread (k := k) t hR hLv
          have eu := r_spread (k := k) t hR hL
          obtain ⟨b1, b2⟩ := wt2_bd hR hLv
          obtain ⟨b3, b4⟩ := sq_bd hR hLv
          obtain ⟨b5, b6⟩ := wt2_bd hR hL
          obtain ⟨b7, b8⟩ := sq_bd hR hL
          have el : run T (k + 3) 4 [red (Wt ws (thr ws v) * Wt ws (thr ws v)) (Sq ws (thr ws v)), red (Wt ws (thr ws u) * Wt ws (thr ws u)) (Sq ws (thr ws u))] = _ := r_better (k := k + 2) (show 0 < Sq ws (thr ws v) by omega) (show 0 < Sq ws (thr ws u) by omega) ⟨by omega, by omega⟩ (by omega) ⟨by omega, by omega⟩ (by omega)
          by_cases c : Less ws v u
          · refine ⟨[some (sq t ws), some (.tup (nats (thr ws u))), some (.int u), some (.tup (nats (thr ws u))), none], ?_, .inr ⟨u, _, _, by omega, rfl, by rw [htake]; exact s1 c⟩⟩
            have c0 := c
            unfold Less at c0
            have c' := decide_eq_true c0
            simp only [b6_3, turn_nm, List.set_cons_succ, List.set_cons_zero, evSsq_cons, evSq_set, e1, SR.of_ok, setT_nm, oS_some, andS_nx, evSq_ite, evq_or, evq_cmp, evq_var, getV_succ, getV_zero, R.bind_ok, evq_c, ec, tBool_bl, Bool.false_eq_true, if_false, evq_call, evsq_cons, evsq_nil, ev, eu, el, c', brD_bl, if_true, evSsq_nil]
          · refine ⟨[some (sq t ws), some (.tup (nats (thr ws v))), some (.int u), some (.tup (nats (thr ws u))), none], ?_, .inr ⟨v, _, _, by omega, rfl, by rw [htake]; exact s2 c⟩⟩
            have c0 := c
            unfold Less at c0
            have c' := decide_eq_false c0
            simp only [b6_3, turn_nm, List.set_cons_succ, List.set_cons_zero, evSsq_cons, evSq_set, e1, SR.of_ok, setT_nm, oS_some, andS_nx, evSq_ite, evq_or, evq_cmp, evq_var, getV_succ, getV_zero, R.bind_ok, evq_c, ec, tBool_bl, Bool.false_eq_true, if_false, evq_call, evsq_cons, evsq_nil, ev, eu, el, c', brD_bl, evSsq_nil])
  rw [List.length_map, sortI_len] at h
  rcases h with ⟨h, _⟩ | ⟨v, o, o2, _, rfl, hb⟩
  · omega
  · rw [List.take_of_length_le (by rw [sortI_len]; exact Nat.le_refl _)] at hb
    refine ⟨v, ?_, mem_sortI.mp hb.mem, ⟨mem_sortI.mp hb.mem, fun u hu => hb.top u (mem_sortI.mpr hu), fun u hu => hb.first u (mem_sortI.mpr hu)⟩⟩
    simp only [fi6, t6, show startE 5 [sq t ws] = [some (sq t ws), none, none, none, none] from rfl, evSsq_cons, evSq_ite, evq_cmp, evq_blt, evsq_cons, evsq_nil, evq_var, getV_zero, getV_succ, R.bind_ok, hlen, evq_c, cmpD_eq, decide_eq_false hne, SR.of_ok, brD_bl, Bool.false_eq_true, if_false, evSsq_nil, andS_nx, evSq_set, setT_nm, oS_some, List.set_cons_succ, List.set_cons_zero, evSq_for, evItq_seq, sorted_ok, seqIt_lst, forR_ok, e, evSq_ret, andS_rt, finish_rt]
end K28a
set_option Elab.async false
set_option linter.all false
set_option maxRecDepth 100000
set_option maxHeartbeats 2000000
namespace K28a
open PySem Pv
variable {k : Nat}

theorem isi_of {ts : List String} {d : D} {n : String} {b : Bool} (h : kindD d = some n) (e : (ts.any fun t => tyB n t) = b) : isiD ts d = .ok (.bl b) := by
  unfold isiD
  rw [h]
  show R.ok (D.bl (ts.any fun t => tyB n t)) = _
  rw [e]
theorem isi_tt (l : List D) : isiD ["tuple"] (.tup l) = .ok (.bl true) := isi_of rfl (by decide)
theorem isi_it (i : Int) : isiD ["tuple"] (.int i) = .ok (.bl false) := isi_of rfl (by decide)
theorem isi_is (i : Int) : isiD ["str"] (.int i) = .ok (.bl false) := isi_of rfl (by decide)
theorem isi_ii (i : Int) : isiD ["int"] (.int i) = .ok (.bl true) := isi_of rfl (by decide)
theorem isi_ib (i : Int) : isiD ["bool"] (.int i) = .ok (.bl false) := isi_of rfl (by decide)
theorem r_whole (i : Int) : run T (k + 1) 9 [.int i] = .ok (.bl true) := by
  rw [run_fn (fi := fi9) rfl rfl]
  simp [fi9, t9, startE, isi_ii, isi_ib]
theorem isN_int (i : Int) : cmpD .isN (.int i) .non = .ok false := rfl
theorem isN_tup (l : List D) : cmpD .isN (.tup l) .non = .ok false := rfl
theorem r_alikeI (i : Int) : run T (k + 2) 13 [.int i, .int i] = .ok (.bl true) := by
  rw [run_fn (fi := fi13) rfl rfl]
  simp [fi13, t13, startE, isi_it, isi_is, r_whole, isN_int]
theorem r_alike (l : List Int) (hl : l.length < 1000) : run T (k + 3) 13 [.tup (l.map D.int), .tup (l.map D.int)] = .ok (.bl true) := by
  rw [run_fn (fi := fi13) rfl rfl]
  obtain ⟨ρ', e, o, rfl⟩ := forL_nx (f := turn (run T (k + 2)) (.nm 2) b13_1) (l := rngD 0 (l.length : Int)) (fun _ ρ => ∃ o, ρ = [some (.tup (l.map D.int)), some (.tup (l.map D.int)), o]) (ρ0 := [some (.tup (l.map D.int)), some (.tup (l.map D.int)), none]) ⟨none, rfl⟩ (by
    rintro i d ρ hd ⟨o, rfl⟩
    obtain ⟨rfl, hlt⟩ := rngD_get hd
    have hil : i < l.length := by omega
    have hix : ixD (.tup (l.map D.int)) (.int (i : Int)) = .ok (.int l[i]) := by
      exact ix_tup (by rw [List.getElem?_map, List.getElem?_eq_getElem hil]; rfl)
    refine ⟨_, ?_, some (.int i), rfl⟩
    simp [b13_1, hix, r_alikeI])
  have hr := rngIt_ok (show (-4611686018427387904 : Int) ≤ 0 by omega) (show (0 : Int) < 4611686018427387904 by omega) (show (-4611686018427387904 : Int) ≤ (l.length : Int) by omega) (show (l.length : Int) < 4611686018427387904 by omega)
  simp only [fi13, t13, show startE 3 [.tup (l.map D.int), .tup (l.map D.int)] = [some (.tup (l.map D.int)), some (.tup (l.map D.int)), none] from rfl, evSsq_cons, evSq_ite, evq_cmp, evq_var, getV_zero, getV_succ, R.bind_ok, evq_c, isN_tup, SR.of_ok, brD_bl, Bool.false_eq_true, if_false, evSsq_nil, andS_nx, evq_isi, isi_tt, if_true, evq_or, evq_not, tBool_bl, Bool.not_true, evq_blt, evsq_cons, evsq_nil, blD_len_tup, List.length_map, cmpD_ne, decide_true, evSq_for, evItq_rng, hr, forR_ok, e, evSq_ret, andS_rt, finish_rt]
end K28a
set_option Elab.async false
set_option linter.all false
set_option maxRecDepth 100000
set_option maxHeartbeats 2000000
namespace K28a
open PySem Pv
variable {k : Nat}

theorem Best.uniq {ws l : List Int} {v v' : Int} (h : Best ws l v) (h' : Best ws l v') : v = v' := by
  by_cases c : v < v'
  · exact absurd (h'.first v h.mem c) (h.top v' h'.mem |> fun z y => z (by exact y))
  · by_cases c' : v' < v
    · exact absurd (h.first v' h'.mem c') (h'.top v h.mem)
    · omega
theorem r_best' (t : Bool) {ws : List Int} (hR : Row ws) {v : Int} (h : Best ws ws v) : run T (k + 4) 6 [sq t ws] = .ok (.tup (nats (thr ws v))) := by
  obtain ⟨v', e, _, h'⟩ := r_best (k := k) t hR
  rw [h.uniq h']
  exact e
theorem r_greatest (t : Bool) {ws : List Int} (hR : Row ws) {v : Int} (h : Best ws ws v) : run T (k + 5) 7 [sq t ws] = .ok (red (Wt ws (thr ws v) * Wt ws (thr ws v)) (Sq ws (thr ws v))) := by
  rw [run_fn (fi := fi7) rfl rfl]
  have e := r_spread (k := k + 1) t hR (lot_thr hR h.mem)
  simp only [fi7, t7, show startE 1 [sq t ws] = [some (sq t ws)] from rfl, evSsq_cons, evSq_ret, evq_call, evsq_cons, evsq_nil, evq_var, getV_zero, R.bind_ok, r_best' (k := k) t hR h, e, SR.of_ok, andS_rt, finish_rt]
theorem red_scale {a b c : Int} (hc : 0 < c) : red (a * c) (b * c) = red a b := by
  unfold red
  have e : ((Nat.gcd (a * c).natAbs (b * c).natAbs : Nat) : Int) = (Nat.gcd a.natAbs b.natAbs : Nat) * c := by
    rw [Int.natAbs_mul, Int.natAbs_mul, Nat.gcd_mul_right, Int.natCast_mul]
    congr 1
    omega
  rw [e, Int.mul_ediv_mul_of_pos_left _ _ hc, Int.mul_ediv_mul_of_pos_left _ _ hc]
theorem r_factor (t : Bool) {ws : List Int} (hR : Row ws) {v : Int} (h : Best ws ws v) : run T (k + 6) 8 [sq t ws] = .ok (red (2 * (Wt ws (thr ws v) * Wt ws (thr ws v))) (Wt ws (thr ws v) * Wt ws (thr ws v) + Sq ws (thr ws v))) := by
  rw [run_fn (fi := fi8) rfl rfl]
  have e := r_greatest (k := k) t hR h
  have hL := lot_thr hR h.mem
  obtain ⟨b1, b2⟩ := wt2_bd hR hL
  obtain ⟨b3, b4⟩ := sq_bd hR hL
  generalize Wt ws (thr ws v) * Wt ws (thr ws v) = a at *
  generalize Sq ws (thr ws v) = b at *
  obtain ⟨g, a', b', hg, ea, eb, e1, e2, eg⟩ := div_g (a := a) (show 0 < b by omega)
  have p1 : 0 ≤ a' := by rw [← e1]; exact Int.ediv_nonneg (by omega) (by omega)
  have p2 : 0 < b' := by
    rw [← e2]
    exact Int.ediv_pos_of_pos_of_dvd (by omega) (by omega) (by rw [← eg]; exact ⟨b', by rw [eb, Int.mul_comm]⟩)
  have q1 : a' ≤ a := by rw [← e1]; exact Int.ediv_le_self _ (by omega)
  have q2 : b' ≤ b := by rw [← e2]; exact Int.ediv_le_self _ (by omega)
  have er : red a b = .tup [.int a', .int b'] := by unfold red; rw [e1, e2]
  have hm : binD .mul (.int 2) (.int a') = .ok (.int (2 * a')) := mul_small (by omega) (by omega)
  have e3 := r_ratio (k := k + 3) (2 * a') (a' + b') (by omega) (by omega)
  have e4 : red (2 * a) (a + b) = red (2 * a') (a' + b') := by
    rw [← red_scale (a := 2 * a') (b := a' + b') hg]
    congr 1
    · rw [ea, Int.mul_assoc]
    · rw [ea, eb, Int.add_mul]
  rw [e4]
  rw [er] at e
  have es : ∀ x y z w u : D, setT (.tp (.cons (.nm 1) (.cons (.nm 2) .nil))) (.tup [x, y]) [some z, none, none] = some [some z, some x, some y] := fun _ _ _ _ _ => rfl
  simp only [fi8, t8, show startE 3 [sq t ws] = [some (sq t ws), none, none] from rfl, evSsq_cons, evSq_set, evq_call, evsq_cons, evsq_nil, evq_var, getV_zero, R.bind_ok, e, SR.of_ok, es (.int a') (.int b') (sq t ws) .non .non, oS_some, andS_nx, evSq_ret, evq_bin, evq_c, getV_succ, hm, binD_add, e3, andS_rt, finish_rt]
theorem r_low (a b : Int) (hb : 0 < b) (hs : b < 18446744073709551616) : run T (k + 1) 12 [.int a, .int b] = .ok (red a b) :=
  run_low (T := T) (f := 12) (fi := fi12) rfl rfl rfl rfl a b hb (Nat.lt_of_lt_of_le (show b.natAbs < 2 ^ 64 by omega) pow64)
end K28a
set_option Elab.async false
set_option linter.all false
set_option maxRecDepth 100000
set_option maxHeartbeats 2000000
namespace K28a
open PySem Pv
variable {k : Nat}

/-! ### subsets by their ranks -/
def bits (n r : Nat) : List Nat := (List.range n).filter fun k => r.testBit k
def ofP (p : Nat → Bool) : Nat → Nat
  | 0 => 0
  | n + 1 => if p n then 2 ^ n + ofP p n else ofP p n
theorem ofP_lt (p : Nat → Bool) : ∀ n, ofP p n < 2 ^ n
  | 0 => by show 0 < 1; omega
  | n + 1 => by
    have ih := ofP_lt p n
    unfold ofP
    rw [Nat.pow_succ]
    split <;> omega
theorem ofP_bit (p : Nat → Bool) : ∀ n k, k < n → (ofP p n).testBit k = p k
  | 0, k, h => absurd h (Nat.not_lt_zero k)
  | n + 1, k, h => by
    have hl := ofP_lt p n
    unfold ofP
    by_cases e : k = n
    · subst e
      cases q : p k with
      | true => rw [if_pos rfl, Nat.testBit_two_pow_add_eq, Nat.testBit_lt_two_pow hl]; rfl
      | false => rw [if_neg Bool.false_ne_true, Nat.testBit_lt_two_pow hl]
    · have hk : k < n := by omega
      cases q : p n with
      | true => rw [if_pos rfl, Nat.testBit_two_pow_add_gt hk, ofP_bit p n k hk]
      | false => rw [if_neg Bool.false_ne_true, ofP_bit p n k hk]
theorem bits_ofP (p : Nat → Bool) (n : Nat) : bits n (ofP p n) = (List.range n).filter p := by
  unfold bits
  refine List.filter_congr fun k hk => ?_
  rw [ofP_bit p n k (List.mem_range.mp hk)]
/-- a sum over the chosen places -/
def vl (f : Int → Int) (ws : List Int) (p : Nat → Bool) : Nat → Int
  | 0 => 0
  | n + 1 => vl f ws p n + if p n then f (ws.getD n 0) else 0
theorem sm_vl (f : Int → Int) (ws : List Int) (p : Nat → Bool) : ∀ n, sm f ws ((List.range n).filter p) = vl f ws p n
  | 0 => rfl
  | n + 1 => by
    have ih := sm_vl f ws p n
    unfold sm at ih ⊢
    unfold vl
    rw [List.range_succ, List.filter_append, List.map_append, List.sum_append, ih]
    cases e : p n <;> simp [e]
theorem vl_congr {f : Int → Int} {ws : List Int} {p q : Nat → Bool} : ∀ {n : Nat}, (∀ k, k < n → p k = q k) → vl f ws p n = vl f ws q n
  | 0, _ => rfl
  | n + 1, h => by
    unfold vl
    rw [vl_congr fun k hk => h k (by omega), h n (by omega)]
theorem vl_add {f : Int → Int} {ws : List Int} {p : Nat → Bool} {i : Nat} (hp : p i = false) : ∀ {n : Nat}, i < n → vl f ws (fun k => p k || decide (k = i)) n = vl f ws p n + f (ws.getD i 0)
  | 0, h => absurd h (Nat.not_lt_zero _)
  | n + 1, h => by
    unfold vl
    by_cases e : i = n
    · subst e
      rw [vl_congr (q := p) fun k hk => by rw [decide_eq_false (by omega), Bool.or_false]]
      simp [hp]
    · have h1 := vl_add (f := f) (ws := ws) hp (show i < n by omega)
      rw [h1, decide_eq_false (show ¬ n = i by omega), Bool.or_false]
      omega
theorem vl_del {f : Int → Int} {ws : List Int} {p : Nat → Bool} {i : Nat} (hp : p i = true) : ∀ {n : Nat}, i < n → vl f ws (fun k => p k && !decide (k = i)) n = vl f ws p n - f (ws.getD i 0)
  | 0, h => absurd h (Nat.not_lt_zero _)
  | n + 1, h => by
    unfold vl
    by_cases e : i = n
    · subst e
      rw [vl_congr (q := p) fun k hk => by rw [decide_eq_false (by omega)]; simp]
      simp [hp]
    · have h1 := vl_del (f := f) (ws := ws) hp (show i < n by omega)
      rw [h1, decide_eq_false (show ¬ n = i by omega)]
      simp only [Bool.not_false, Bool.and_true]
      omega
/-- r is better than c: greater, or as great with fewer jobs -/
def Beats (ws : List Int) (a b : List Nat) : Prop := Wt ws b * Wt ws b * Sq ws a < Wt ws a * Wt ws a * Sq ws b ∨ (Wt ws b * Wt ws b * Sq ws a = Wt ws a * Wt ws a * Sq ws b ∧ a.length < b.length)
theorem two_rank {n r : Nat} (h1 : 1 ≤ r) (h2 : r < 2 ^ n) : 0 < (bits n r).length := by
  by_cases h : 0 < (bits n r).length
  · exact h
  · exfalso
    have e : bits n r = [] := List.eq_nil_of_length_eq_zero (by omega)
    have z : r = 0 := Nat.eq_of_testBit_eq fun k => by
      rw [Nat.zero_testBit]
      by_cases hk : k < n
      · cases q : r.testBit k with
        | false => rfl
        | true =>
          have : k ∈ bits n r := List.mem_filter.mpr ⟨List.mem_range.mpr hk, q⟩
          rw [e] at this
          cases this
      · exact Nat.testBit_lt_two_pow (Nat.lt_of_lt_of_le h2 (Nat.pow_le_pow_right (by decide) (by omega)))
    omega
theorem lot_p {ws : List Int} (hR : Row ws) {p : Nat → Bool} {i : Nat} (hi : i < ws.length) (hp : p i = true) : Lot ws ((List.range ws.length).filter p) :=
  ⟨fun j hj => List.mem_range.mp (List.mem_filter.mp hj).1, List.length_pos_of_mem (List.mem_filter.mpr ⟨List.mem_range.mpr hi, hp⟩), Nat.le_trans (List.length_filter_le _ _) (by rw [List.length_range]; exact hR.len)⟩
theorem lot_bits {ws : List Int} (hR : Row ws) {r : Nat} (h1 : 1 ≤ r) (h2 : r < 2 ^ ws.length) : Lot ws (bits ws.length r) :=
  ⟨fun j hj => List.mem_range.mp (List.mem_filter.mp hj).1, two_rank h1 h2, Nat.le_trans (List.length_filter_le _ _) (by rw [List.length_range]; exact hR.len)⟩
theorem getD_bd {ws : List Int} (hR : Row ws) {i : Nat} (hi : i < ws.length) : 1 ≤ ws.getD i 0 ∧ ws.getD i 0 ≤ 999 := by
  rw [List.getD_eq_getElem?_getD, List.getElem?_eq_getElem hi]
  exact hR.bd _ (List.getElem_mem _)
/-- no subset is better than S -/
def Opt (ws : List Int) (S : List Nat) : Prop := ∀ p : Nat → Bool, (∃ i, i < ws.length ∧ p i = true) → ¬ Beats ws ((List.range ws.length).filter p) S
theorem arith1 {W Q a : Int} (hQ : 0 < Q) (h : (W + a) * (W + a) * Q ≤ W * W * (Q + a * a)) (ha : 0 < a) : 2 * (W * Q) ≤ a * (W * W - Q) := by
  have z1 : a * (2 * (W * Q) + a * Q) = 2 * (W * (Q * a)) + a * (a * Q) := by
    rw [Int.mul_add, Int.mul_left_comm a 2, Int.mul_comm a (W * Q), Int.mul_assoc W Q a]
  have z2 : (W + a) * (W + a) * Q = W * W * Q + (W * (Q * a) + W * (Q * a)) + a * (a * Q) := by
    simp only [Int.add_mul, Int.mul_add, Int.mul_assoc, Int.mul_left_comm, Int.mul_comm]
    omega
  have e2 : W * W * (Q + a * a) = W * W * Q + a * (a * (W * W)) := by
    simp only [Int.mul_add, Int.mul_assoc, Int.mul_left_comm, Int.mul_comm]
  rw [z2, e2] at h
  have h2 : 2 * (W * Q) + a * Q ≤ a * (W * W) := Int.le_of_mul_le_mul_left (by omega) ha
  rw [Int.mul_sub]
  omega
theorem arith2 {W Q b : Int} (h : (W - b) * (W - b) * Q ≤ W * W * (Q - b * b)) (hb : 0 < b) : b * (W * W + Q) ≤ 2 * (W * Q) := by
  have z1 : b * (b * Q - 2 * (W * Q)) = b * (b * Q) - 2 * (W * (Q * b)) := by
    rw [Int.mul_sub, Int.mul_left_comm b 2, Int.mul_comm b (W * Q), Int.mul_assoc W Q b]
  have z2 : (W - b) * (W - b) * Q = W * W * Q - (W * (Q * b) + W * (Q * b)) + b * (b * Q) := by
    simp only [Int.sub_mul, Int.mul_sub, Int.mul_assoc, Int.mul_left_comm, Int.mul_comm]
    omega
  have e2 : W * W * (Q - b * b) = W * W * Q - b * (b * (W * W)) := by
    simp only [Int.mul_sub, Int.mul_assoc, Int.mul_left_comm, Int.mul_comm]
  have e3 : b * -(b * (W * W)) = -(b * (b * (W * W))) := Int.mul_neg _ _
  rw [z2, e2] at h
  have h2 : b * Q - 2 * (W * Q) ≤ -(b * (W * W)) := Int.le_of_mul_le_mul_left (by omega) hb
  rw [Int.mul_add]
  omega
/-- the best subset holds every smaller weight with a greater one -/
theorem opt_down {ws : List Int} (hR : Row ws) {s : Nat → Bool} (ho : Opt ws ((List.range ws.length).filter s)) {i j : Nat} (hi : i < ws.length) (hj : j < ws.length) (si : s i = false) (sj : s j = true) : ws.getD j 0 < ws.getD i 0 := by
  by_cases hlt : ws.getD j 0 < ws.getD i 0
  · exact hlt
  · exfalso
    have hS := lot_p hR hj sj
    obtain ⟨a1, a2⟩ := getD_bd hR hi
    obtain ⟨b1, b2⟩ := getD_bd hR hj
    obtain ⟨W1, _⟩ := wt_bd hR hS
    obtain ⟨Q1, _⟩ := sq_bd hR hS
    have hadd := ho (fun k => s k || decide (k = i)) ⟨j, hj, by simp [sj]⟩
    unfold Beats at hadd
    have hA := Int.not_lt.mp fun z => hadd (.inl z)
    have eW : Wt ws ((List.range ws.length).filter fun k => s k || decide (k = i)) = Wt ws ((List.range ws.length).filter s) + ws.getD i 0 := by
      unfold Wt
      rw [sm_vl, sm_vl, vl_add si hi]
      rfl
    have eQ : Sq ws ((List.range ws.length).filter fun k => s k || decide (k = i)) = Sq ws ((List.range ws.length).filter s) + ws.getD i 0 * ws.getD i 0 := by
      unfold Sq
      rw [sm_vl, sm_vl, vl_add si hi]
    rw [eW, eQ] at hA
    generalize hW : Wt ws ((List.range ws.length).filter s) = W at *
    generalize hQ : Sq ws ((List.range ws.length).filter s) = Q at *
    generalize ha : ws.getD i 0 = a at *
    generalize hb : ws.getD j 0 = b at *
    have x1 := arith1 (show 0 < Q by omega) hA (by omega)
    by_cases hne : ∃ m, m < ws.length ∧ (s m && !decide (m = j)) = true
    · have hdel := ho (fun k => s k && !decide (k = j)) hne
      unfold Beats at hdel
      have hD := Int.not_lt.mp fun z => hdel (.inl z)
      have eW2 : Wt ws ((List.range ws.length).filter fun k => s k && !decide (k = j)) = W - b := by
        rw [← hW, ← hb]
        unfold Wt
        rw [sm_vl, sm_vl, vl_del sj hj]
        rfl
      have eQ2 : Sq ws ((List.range ws.length).filter fun k => s k && !decide (k = j)) = Q - b * b := by
        rw [← hQ, ← hb]
        unfold Sq
        rw [sm_vl, sm_vl, vl_del sj hj]
      rw [eW2, eQ2, hW, hQ] at hD
      have x2 := arith2 hD (by omega)
      have y1 : a * (W * W - Q) ≤ b * (W * W - Q) := by
        refine Int.mul_le_mul_of_nonneg_right (by omega) ?_
        have z1 : 0 < W * Q := Int.mul_pos (by omega) (by omega)
        have z2 : 0 < a * (W * W - Q) := by omega
        exact Int.le_of_lt (Int.pos_of_mul_pos_right z2 (by omega))
      have y2 : b * (W * W + Q) = b * (W * W - Q) + 2 * (b * Q) := by
        rw [Int.mul_add, Int.mul_sub]; omega
      have y3 : 0 < b * Q := Int.mul_pos (by omega) (by omega)
      omega
    · have hz : ∀ f : Int → Int, sm f ws ((List.range ws.length).filter s) = f (ws.getD j 0) := fun f => by
        have e := vl_del (f := f) (ws := ws) sj hj
        have z : ∀ n, n ≤ ws.length → vl f ws (fun k => s k && !decide (k = j)) n = 0 := by
          intro n
          induction n with
          | zero => intro _; rfl
          | succ n ih =>
            intro hn
            unfold vl
            rw [ih (by omega)]
            have q : (s n && !decide (n = j)) = false := by
              cases q : (s n && !decide (n = j)) with
              | false => rfl
              | true => exact absurd ⟨n, by omega, q⟩ hne
            simp only [q]
            rfl
        rw [z _ (Nat.le_refl _)] at e
        rw [sm_vl]
        omega
      have eW3 : W = b := by rw [← hW, ← hb]; exact hz id
      have eQ3 : Q = b * b := by rw [← hQ, ← hb]; exact hz _
      rw [eW3, eQ3, Int.sub_self, Int.mul_zero] at x1
      have : 0 < b * (b * b) := Int.mul_pos (by omega) (Int.mul_pos (by omega) (by omega))
      omega
end K28a
set_option Elab.async false
set_option linter.all false
set_option maxRecDepth 100000
set_option maxHeartbeats 2000000
namespace K28a
open PySem Pv
variable {k : Nat}

theorem max_in {ws : List Int} : ∀ {S : List Nat}, 0 < S.length → ∃ j ∈ S, ∀ i ∈ S, ws.getD i 0 ≤ ws.getD j 0
  | [], h => by cases h
  | [x], _ => ⟨x, List.mem_cons_self, fun i hi => by
    cases List.mem_singleton.mp hi
    omega⟩
  | x :: y :: S, _ => by
    obtain ⟨j, hj, h⟩ := max_in (ws := ws) (S := y :: S) (by simp)
    by_cases c : ws.getD x 0 ≤ ws.getD j 0
    · refine ⟨j, List.mem_cons_of_mem _ hj, fun i hi => ?_⟩
      rcases List.mem_cons.mp hi with e | hi
      · subst e; exact c
      · exact h i hi
    · refine ⟨x, List.mem_cons_self, fun i hi => ?_⟩
      rcases List.mem_cons.mp hi with e | hi
      · subst e; exact Int.le_refl _
      · have := h i hi; omega
theorem thr_of {ws : List Int} (hR : Row ws) {s : Nat → Bool} {j0 : Nat} (hj0 : j0 < ws.length) (sj0 : s j0 = true) (ho : Opt ws ((List.range ws.length).filter s)) : ∃ m ∈ ws, (List.range ws.length).filter s = thr ws m := by
  have hS := lot_p hR hj0 sj0
  obtain ⟨j, hj, hmax⟩ := max_in (ws := ws) hS.ne
  obtain ⟨hjn, hjs⟩ := List.mem_filter.mp hj
  have hjn := List.mem_range.mp hjn
  refine ⟨ws.getD j 0, ?_, ?_⟩
  · rw [List.getD_eq_getElem?_getD, List.getElem?_eq_getElem hjn]
    exact List.getElem_mem _
  · unfold thr
    refine List.filter_congr fun i hi => ?_
    have hin := List.mem_range.mp hi
    cases e : s i with
    | true =>
      have := hmax i (List.mem_filter.mpr ⟨hi, e⟩)
      rw [decide_eq_true this]
    | false =>
      have := opt_down hR ho hin hjn e hjs
      rw [decide_eq_false (by omega)]
/-- the best subset is the threshold that the program takes -/
theorem opt_best {ws : List Int} (hR : Row ws) {s : Nat → Bool} {j0 : Nat} (hj0 : j0 < ws.length) (sj0 : s j0 = true) (ho : Opt ws ((List.range ws.length).filter s)) {v : Int} (hb : Best ws ws v) : (List.range ws.length).filter s = thr ws v := by
  obtain ⟨m, hm, e⟩ := thr_of hR hj0 sj0 ho
  rw [e] at ho ⊢
  have hv := hb.mem
  have Lm := lot_thr hR hm
  have Lv := lot_thr hR hv
  have h1 := hb.top m hm
  have h2 : ¬ Beats ws (thr ws v) (thr ws m) := by
    have := ho (fun k => decide (ws.getD k 0 ≤ v)) (by
      obtain ⟨i, hi⟩ : ∃ i, i ∈ thr ws v := List.exists_mem_of_length_pos Lv.ne
      obtain ⟨h3, h4⟩ := List.mem_filter.mp hi
      exact ⟨i, List.mem_range.mp h3, h4⟩)
    exact this
  unfold Beats at h2
  unfold Less at h1
  have h3 := Int.not_lt.mp h1
  have h4 := Int.not_lt.mp fun z => h2 (.inl z)
  have heq : Wt ws (thr ws m) * Wt ws (thr ws m) * Sq ws (thr ws v) = Wt ws (thr ws v) * Wt ws (thr ws v) * Sq ws (thr ws m) := Int.le_antisymm h3 h4
  have h5 : (thr ws m).length ≤ (thr ws v).length := Nat.not_lt.mp fun z => h2 (.inr ⟨heq, z⟩)
  have hvm : v ≤ m := by
    by_cases c : m < v
    · have h6 := hb.first m hm c
      unfold Less at h6
      omega
    · omega
  have hsub : (thr ws v).Sublist (thr ws m) := by
    have e2 : thr ws v = (thr ws m).filter fun k => decide (ws.getD k 0 ≤ v) := by
      unfold thr
      rw [List.filter_filter]
      refine List.filter_congr fun i _ => ?_
      by_cases c : ws.getD i 0 ≤ v
      · rw [decide_eq_true c, decide_eq_true (show ws.getD i 0 ≤ m by omega)]
        rfl
      · rw [decide_eq_false c]
        rfl
    rw [e2]
    exact List.filter_sublist
  exact (hsub.eq_of_length_le h5).symm

/-! ### the sums over all subsets -/
def subs (f : Int → Int) (ws : List Int) : List Int := ws.foldl (fun acc w => acc ++ acc.map (· + f w)) [0]
theorem subs_snoc (f : Int → Int) (ws : List Int) (w : Int) : subs f (ws ++ [w]) = subs f ws ++ (subs f ws).map (· + f w) := by
  unfold subs
  rw [List.foldl_append]
  rfl
theorem snoc_ind {α : Type} {P : List α → Prop} (h0 : P []) (h1 : ∀ l a, P l → P (l ++ [a])) (l : List α) : P l := by
  rw [← List.reverse_reverse l]
  induction l.reverse with
  | nil => exact h0
  | cons a r ih =>
    rw [List.reverse_cons]
    exact h1 _ _ ih
theorem subs_len (f : Int → Int) (ws : List Int) : (subs f ws).length = 2 ^ ws.length := by
  refine snoc_ind (P := fun ws => (subs f ws).length = 2 ^ ws.length) rfl (fun l w ih => ?_) ws
  rw [subs_snoc, List.length_append, List.length_map, ih, List.length_append, List.length_singleton, Nat.pow_succ]
  omega
theorem sm_app {f : Int → Int} {ws : List Int} {w : Int} {l : List Nat} (h : ∀ i ∈ l, i < ws.length) : sm f (ws ++ [w]) l = sm f ws l := by
  unfold sm
  congr 1
  refine List.map_congr_left fun i hi => ?_
  rw [List.getD_eq_getElem?_getD, List.getD_eq_getElem?_getD, List.getElem?_append_left (h i hi)]
theorem bits_lt {n r : Nat} : ∀ i ∈ bits n r, i < n := fun i hi => List.mem_range.mp (List.mem_filter.mp hi).1
theorem subs_get (f : Int → Int) (ws : List Int) : ∀ r, r < 2 ^ ws.length → (subs f ws)[r]? = some (sm f ws (bits ws.length r)) := by
  refine snoc_ind (P := fun ws => ∀ r, r < 2 ^ ws.length → (subs f ws)[r]? = some (sm f ws (bits ws.length r))) (fun r hr => ?_) (fun l w ih r hr => ?_) ws
  · have : r = 0 := by simpa using hr
    subst this
    rfl
  · rw [subs_snoc]
    have hn : (l ++ [w]).length = l.length + 1 := by rw [List.length_append, List.length_singleton]
    rw [hn] at hr ⊢
    have hb : ∀ q : Nat, bits (l.length + 1) q = bits l.length q ++ if q.testBit l.length then [l.length] else [] := fun q => by
      unfold bits
      rw [List.range_succ, List.filter_append]
      congr 1
      cases e : q.testBit l.length <;> simp [e]
    by_cases h : r < 2 ^ l.length
    · rw [List.getElem?_append_left (by rw [subs_len]; exact h), ih r h, hb, Nat.testBit_lt_two_pow h, if_neg Bool.false_ne_true, List.append_nil, sm_app bits_lt]
    · obtain ⟨q, rfl⟩ : ∃ q, r = 2 ^ l.length + q := ⟨r - 2 ^ l.length, by omega⟩
      rw [Nat.pow_succ] at hr
      have hq : q < 2 ^ l.length := by omega
      rw [List.getElem?_append_right (by rw [subs_len]; omega), subs_len, Nat.add_sub_cancel_left, List.getElem?_map, ih q hq, hb, Nat.testBit_two_pow_add_eq, Nat.testBit_lt_two_pow hq]
      have e : bits l.length (2 ^ l.length + q) = bits l.length q := by
        unfold bits
        refine List.filter_congr fun k hk => ?_
        rw [Nat.testBit_two_pow_add_gt (List.mem_range.mp hk)]
      rw [e]
      show some (sm f l (bits l.length q) + f w) = some (sm f (l ++ [w]) (bits l.length q ++ [l.length]))
      congr 1
      unfold sm
      rw [List.map_append, List.sum_append]
      have e2 := sm_app (f := f) (w := w) (bits_lt (n := l.length) (r := q))
      unfold sm at e2
      rw [e2]
      simp
theorem sm_one (ws : List Int) (l : List Nat) : sm (fun _ => 1) ws l = l.length := by
  unfold sm
  induction l with
  | nil => rfl
  | cons i l ih =>
    rw [List.map_cons, List.sum_cons, ih, List.length_cons]
    show (1 : Int) + l.length = _
    omega
end K28a
set_option Elab.async false
set_option linter.all false
set_option maxRecDepth 100000
set_option maxHeartbeats 2000000
namespace K28a
open PySem Pv
variable {k : Nat}

def il (l : List Int) : D := .lst (l.map D.int)
theorem cat_ok {a b : List Int} (h : a.length + b.length ≤ 10000) : binD .add (il a) (il b) = .ok (il (a ++ b)) := by
  have e : lenOk ((a.map D.int).length + (b.map D.int).length) = true := decide_eq_true (by rw [List.length_map, List.length_map]; exact Nat.le_trans h (by decide))
  show (if lenOk ((a.map D.int).length + (b.map D.int).length) then R.ok (D.lst (a.map D.int ++ b.map D.int)) else R.bad) = _
  rw [if_pos e]
  unfold il
  rw [List.map_append]
theorem lc_int {cl : CallT} {elt : E} {i : Nat} {ρ : Pv.Env} {l : List Int} (g : Int → Int) (h : ∀ x ∈ l, ev cl elt (ρ.set i (some (.int x))) = .ok (.int (g x))) (hl : l.length < 16777216) : lcRes (lcF cl elt (.nm i) .nil [i] ρ) (l.map D.int) = .ok (il (l.map g)) := by
  rw [lcRes_map (fun d => match d with | .int x => D.int (g x) | _ => .non) (fun d hd => by
    obtain ⟨x, hx, rfl⟩ := List.mem_map.mp hd
    exact h x hx) (by rw [List.length_map]; exact hl)]
  unfold il
  rw [List.map_map, List.map_map]
  rfl
theorem seq_il (l : List Int) : seqIt (il l) = .ok (l.map D.int) := rfl
theorem il_ix {l : List Int} {i : Nat} {x : Int} (h : l[i]? = some x) : ixD (il l) (.int i) = .ok (.int x) := ix_lst (by rw [List.getElem?_map, h]; rfl)
theorem len_il (l : List Int) : blD .len [il l] = .ok (.int l.length) := by
  unfold il
  rw [blD_len_lst, List.length_map]
def sqr (w : Int) : Int := w * w
def one (_ : Int) : Int := 1
theorem due_loop1 {ws : List Int} (hR : Row ws) : ∃ o, forL (turn (run T k) (.nm 4) b18_4) (ws.map D.int) [some (il ws), some (il [0]), some (il [0]), some (il [0]), none, none, none, none, none, none, none, none, none, none, none] =
    .nx [some (il ws), some (il (subs id ws)), some (il (subs sqr ws)), some (il (subs one ws)), o, none, none, none, none, none, none, none, none, none, none] := by
  obtain ⟨ρ', e, o, rfl⟩ := forL_nx (f := turn (run T k) (.nm 4) b18_4) (l := ws.map D.int) (fun i ρ => ∃ o, ρ = [some (il ws), some (il (subs id (ws.take i))), some (il (subs sqr (ws.take i))), some (il (subs one (ws.take i))), o, none, none, none, none, none, none, none, none, none, none])
    (ρ0 := [some (il ws), some (il [0]), some (il [0]), some (il [0]), none, none, none, none, none, none, none, none, none, none, none]) ⟨none, rfl⟩ (by
      rintro i d ρ hd ⟨o, rfl⟩
      rw [List.getElem?_map] at hd
      cases e : ws[i]? with
      | none => rw [e] at hd; cases hd
      | some w =>
        rw [e] at hd
        cases hd
        obtain ⟨hil, _⟩ := List.getElem?_eq_some_iff.mp e
        have htk : ws.take (i + 1) = ws.take i ++ [w] := by rw [List.take_succ, e]; rfl
        have h12 := hR.len
        have hlen : ∀ f, (subs f (ws.take i)).length ≤ 4096 := fun f => by
          rw [subs_len, List.length_take]
          exact Nat.le_trans (Nat.pow_le_pow_right (by decide) (show min i ws.length ≤ 12 by omega)) (by decide)
        obtain ⟨w1, w2⟩ := hR.bd w (List.mem_of_getElem? e)
        have hm : binD .mul (.int w) (.int w) = .ok (.int (w * w)) := mul_small (by omega) (by omega)
        refine ⟨_, ?_, some (.int w), rfl⟩
        have c1 := lc_int (cl := run T k) (elt := e18_1) (i := 12) (ρ := [some (il ws), some (il (subs id (ws.take i))), some (il (subs sqr (ws.take i))), some (il (subs one (ws.take i))), some (.int w), none, none, none, none, none, none, none, none, none, none]) (l := subs id (ws.take i)) (· + id w) (fun x _ => by
          simp only [e18_1, evq_bin, evq_var, List.set_cons_succ, List.set_cons_zero, getV_succ, getV_zero, R.bind_ok, binD_add, id]) (by have := hlen id; omega)
        have c2 := lc_int (cl := run T k) (elt := e18_2) (i := 13) (ρ := [some (il ws), some (il (subs id (ws.take i ++ [w]))), some (il (subs sqr (ws.take i))), some (il (subs one (ws.take i))), some (.int w), none, none, none, none, none, none, none, none, none, none]) (l := subs sqr (ws.take i)) (· + sqr w) (fun x _ => by
          simp only [e18_2, evq_bin, evq_var, List.set_cons_succ, List.set_cons_zero, getV_succ, getV_zero, R.bind_ok, hm, binD_add, sqr]) (by have := hlen sqr; omega)
        have c3 := lc_int (cl := run T k) (elt := e18_3) (i := 14) (ρ := [some (il ws), some (il (subs id (ws.take i ++ [w]))), some (il (subs sqr (ws.take i ++ [w]))), some (il (subs one (ws.take i))), some (.int w), none, none, none, none, none, none, none, none, none, none]) (l := subs one (ws.take i)) (· + one w) (fun x _ => by
          simp only [e18_3, evq_bin, evq_var, evq_c, List.set_cons_succ, List.set_cons_zero, getV_succ, getV_zero, R.bind_ok, binD_add, one]) (by have := hlen one; omega)
        have a1 : binD .add (il (subs id (ws.take i))) (il ((subs id (ws.take i)).map (· + id w))) = .ok (il (subs id (ws.take i ++ [w]))) := by
          rw [subs_snoc]; exact cat_ok (by have := hlen id; rw [List.length_map]; omega)
        have a2 : binD .add (il (subs sqr (ws.take i))) (il ((subs sqr (ws.take i)).map (· + sqr w))) = .ok (il (subs sqr (ws.take i ++ [w]))) := by
          rw [subs_snoc]; exact cat_ok (by have := hlen sqr; rw [List.length_map]; omega)
        have a3 : binD .add (il (subs one (ws.take i))) (il ((subs one (ws.take i)).map (· + one w))) = .ok (il (subs one (ws.take i ++ [w]))) := by
          rw [subs_snoc]; exact cat_ok (by have := hlen one; rw [List.length_map]; omega)
        simp only [b18_4, turn_nm, List.set_cons_succ, List.set_cons_zero, evSsq_cons, evSq_set, evq_bin, evq_var, getV_succ, getV_zero, R.bind_ok, evq_lc, evItq_seq, seq_il, c1, a1, SR.of_ok, setT_nm, oS_some, andS_nx, c2, a2, c3, a3, evSsq_nil, htk])
  rw [List.length_map, List.take_length] at e
  exact ⟨o, e⟩
end K28a
set_option Elab.async false
set_option linter.all false
set_option maxRecDepth 100000
set_option maxHeartbeats 2000000
namespace K28a
open PySem Pv
variable {k : Nat}

theorem Beats.step {ws : List Int} {a b c : List Nat} (ha : 0 < Sq ws a) (hb : 0 < Sq ws b) (hc : 0 < Sq ws c) (h1 : ¬ Beats ws a c) (h2 : Beats ws b c) : ¬ Beats ws a b := by
  unfold Beats at *
  have h3 := Int.not_lt.mp fun z => h1 (.inl z)
  rcases h2 with h2 | ⟨h2, h4⟩
  · have h5 := cross ha hc hb h3 h2
    rintro (h6 | ⟨h6, _⟩) <;> omega
  · have key : ∀ {x y : Int}, 0 < x → y * x = y * x := fun _ => rfl
    rintro (h6 | ⟨h6, h7⟩)
    · -- b < a and a ≤ c and b = c
      have h8 := cross (a := Wt ws c * Wt ws c) (b := Sq ws c) (c := Wt ws b * Wt ws b) (d := Sq ws b) (e := Wt ws a * Wt ws a) (f := Sq ws a) hc hb ha (by omega) h6
      omega
    · have e : Wt ws c * Wt ws c * Sq ws a = Wt ws a * Wt ws a * Sq ws c := by
        have e1 : Wt ws c * Wt ws c * Sq ws a * Sq ws b = Wt ws a * Wt ws a * Sq ws c * Sq ws b := by
          rw [Int.mul_right_comm (Wt ws c * Wt ws c) (Sq ws a) (Sq ws b), h2, Int.mul_right_comm (Wt ws b * Wt ws b) (Sq ws c) (Sq ws a), h6, Int.mul_right_comm (Wt ws a * Wt ws a) (Sq ws b) (Sq ws c)]
        exact Int.eq_of_mul_eq_mul_right (by omega) e1
      exact h1 (.inr ⟨e, by omega⟩)
theorem Beats.irr {ws : List Int} {a : List Nat} : ¬ Beats ws a a := by
  unfold Beats
  rintro (h | ⟨_, h⟩) <;> omega
theorem due_loop2 {ws : List Int} (hR : Row ws) (o4 : Option D) : ∃ (c : Nat) (o6 o7 : Option D), forL (turn (run T k) (.nm 6) b18_5) (rngD 2 (2 ^ ws.length : Nat)) [some (il ws), some (il (subs id ws)), some (il (subs sqr ws)), some (il (subs one ws)), o4, some (.int 1), none, none, none, none, none, none, none, none, none] =
    .nx [some (il ws), some (il (subs id ws)), some (il (subs sqr ws)), some (il (subs one ws)), o4, some (.int c), o6, o7, none, none, none, none, none, none, none] ∧ 1 ≤ c ∧ c < 2 ^ ws.length ∧ ∀ r, 1 ≤ r → r < 2 ^ ws.length → ¬ Beats ws (bits ws.length r) (bits ws.length c) := by
  have hpos := hR.pos
  have h2 : 2 ≤ 2 ^ ws.length := Nat.le_trans (by decide) (Nat.pow_le_pow_right (show 0 < 2 by decide) (show 1 ≤ ws.length by omega))
  have gT : ∀ r : Nat, r < 2 ^ ws.length → ixD (il (subs id ws)) (.int r) = .ok (.int (Wt ws (bits ws.length r))) := fun r hr => il_ix (subs_get id ws r hr)
  have gS : ∀ r : Nat, r < 2 ^ ws.length → ixD (il (subs sqr ws)) (.int r) = .ok (.int (Sq ws (bits ws.length r))) := fun r hr => il_ix (subs_get sqr ws r hr)
  have gC : ∀ r : Nat, r < 2 ^ ws.length → ixD (il (subs one ws)) (.int r) = .ok (.int ((bits ws.length r).length : Nat)) := fun r hr => by
    rw [← sm_one ws]
    exact il_ix (subs_get one ws r hr)
  obtain ⟨ρ', e, c, o6, o7, rfl, c1, c2, c3⟩ := forL_nx (f := turn (run T k) (.nm 6) b18_5) (l := rngD 2 (2 ^ ws.length : Nat)) (fun i ρ => ∃ (c : Nat) (o6 o7 : Option D), ρ = [some (il ws), some (il (subs id ws)), some (il (subs sqr ws)), some (il (subs one ws)), o4, some (.int c), o6, o7, none, none, none, none, none, none, none] ∧
      1 ≤ c ∧ c < 2 ^ ws.length ∧ ∀ r, 1 ≤ r → r < 2 + i → ¬ Beats ws (bits ws.length r) (bits ws.length c))
    (ρ0 := [some (il ws), some (il (subs id ws)), some (il (subs sqr ws)), some (il (subs one ws)), o4, some (.int 1), none, none, none, none, none, none, none, none, none]) ⟨1, none, none, rfl, by omega, by omega, fun r r1 r2 => by
      have : r = 1 := by omega
      subst this
      exact Beats.irr⟩ (by
      rintro i d ρ hd ⟨c, o6, o7, rfl, c1, c2, c3⟩
      obtain ⟨rfl, hlt⟩ := rngD_get hd
      have er : (2 + (i : Int)) = ((2 + i : Nat) : Int) := by omega
      have hr : 2 + i < 2 ^ ws.length := by omega
      rw [er]
      have Lr := lot_bits hR (show 1 ≤ 2 + i by omega) hr
      have Lc := lot_bits hR c1 c2
      obtain ⟨b1, b2⟩ := wt_bd hR Lr
      obtain ⟨b3, b4⟩ := sq_bd hR Lr
      obtain ⟨b5, b6⟩ := wt2_bd hR Lr
      obtain ⟨d1, d2⟩ := wt_bd hR Lc
      obtain ⟨d3, d4⟩ := sq_bd hR Lc
      obtain ⟨d5, d6⟩ := wt2_bd hR Lc
      have m1 : binD .mul (.int (Wt ws (bits ws.length (2 + i)))) (.int (Wt ws (bits ws.length (2 + i)))) = .ok (.int (Wt ws (bits ws.length (2 + i)) * Wt ws (bits ws.length (2 + i)))) := mul_small (by omega) (by omega)
      have m2 : binD .mul (.int (Wt ws (bits ws.length (2 + i)) * Wt ws (bits ws.length (2 + i)))) (.int (Sq ws (bits ws.length c))) = .ok (.int (Wt ws (bits ws.length (2 + i)) * Wt ws (bits ws.length (2 + i)) * Sq ws (bits ws.length c))) := mul_small (by omega) (by omega)
      have m3 : binD .mul (.int (Wt ws (bits ws.length c))) (.int (Wt ws (bits ws.length c))) = .ok (.int (Wt ws (bits ws.length c) * Wt ws (bits ws.length c))) := mul_small (by omega) (by omega)
      have m4 : binD .mul (.int (Wt ws (bits ws.length c) * Wt ws (bits ws.length c))) (.int (Sq ws (bits ws.length (2 + i)))) = .ok (.int (Wt ws (bits ws.length c) * Wt ws (bits ws.length c) * Sq ws (bits ws.length (2 + i)))) := mul_small (by omega) (by omega)
      generalize hx : Wt ws (bits ws.length (2 + i)) * Wt ws (bits ws.length (2 + i)) * Sq ws (bits ws.length c) = x at *
      generalize hy : Wt ws (bits ws.length c) * Wt ws (bits ws.length c) * Sq ws (bits ws.length (2 + i)) = y at *
      have hbe : Beats ws (bits ws.length (2 + i)) (bits ws.length c) ↔ (0 < x - y ∨ (x - y = 0 ∧ ((bits ws.length (2 + i)).length : Int) < (bits ws.length c).length)) := by
        unfold Beats
        rw [hx, hy]
        constructor
        · rintro (h | ⟨h1, h2⟩)
          · exact .inl (by omega)
          · exact .inr ⟨by omega, by omega⟩
        · rintro (h | ⟨h1, h2⟩)
          · exact .inl (by omega)
          · exact .inr ⟨by omega, by omega⟩
      have hev : ∀ cl, evSs cl b18_5 (List.set [some (il ws), some (il (subs id ws)), some (il (subs sqr ws)), some (il (subs one ws)), o4, some (.int c), o6, o7, none, none, none, none, none, none, none] 6 (some (.int ((2 + i : Nat) : Int)))) = .nx [some (il ws), some (il (subs id ws)), some (il (subs sqr ws)), some (il (subs one ws)), o4, some (.int (if 0 < x - y ∨ (x - y = 0 ∧ ((bits ws.length (2 + i)).length : Int) < (bits ws.length c).length) then ((2 + i : Nat) : Int) else c)), some (.int ((2 + i : Nat) : Int)), some (.int (x - y)), none, none, none, none, none, none, none] := fun cl => by
        simp only [b18_5, List.set_cons_succ, List.set_cons_zero, evSsq_cons, evSq_set, evq_bin, evq_ix, evq_var, getV_succ, getV_zero, R.bind_ok, gT _ hr, gS _ c2, gT _ c2, gS _ hr, gC _ hr, gC _ c2, m1, m2, m3, m4, binD_sub, SR.of_ok, setT_nm, oS_some, andS_nx, evSq_ite, evq_or, evq_and, evq_cmp, evq_c, cmpD_gt, cmpD_eq, cmpD_lt, tBool_bl]
        by_cases h1 : 0 < x - y
        · simp only [decide_true, if_true, R.bind_ok, SR.of_ok, brD_bl, evSsq_cons, evSq_set, evq_var, getV_succ, getV_zero, setT_nm, oS_some, List.set_cons_succ, List.set_cons_zero, andS_nx, evSsq_nil, h1, true_or]
        · by_cases h2 : x - y = 0
          · by_cases h3 : ((bits ws.length (2 + i)).length : Int) < (bits ws.length c).length
            · simp only [h2, h3, decide_true, decide_false, Int.lt_irrefl, if_true, if_false, Bool.false_eq_true, R.bind_ok, tBool_bl, SR.of_ok, brD_bl, evSsq_cons, evSq_set, evq_var, getV_succ, getV_zero, setT_nm, oS_some, List.set_cons_succ, List.set_cons_zero, andS_nx, evSsq_nil, and_self, or_true]
            · simp only [h2, h3, decide_true, decide_false, Int.lt_irrefl, if_true, if_false, Bool.false_eq_true, R.bind_ok, tBool_bl, SR.of_ok, brD_bl, andS_nx, evSsq_nil, and_false, or_self]
          · simp only [h1, h2, decide_false, if_false, Bool.false_eq_true, R.bind_ok, tBool_bl, SR.of_ok, brD_bl, andS_nx, evSsq_nil, false_and, or_self]
      by_cases hb : Beats ws (bits ws.length (2 + i)) (bits ws.length c)
      · have hb' := hbe.mp hb
        refine ⟨_, by rw [turn_nm, hev, if_pos hb'], 2 + i, _, _, rfl, by omega, hr, fun r r1 r2 => ?_⟩
        by_cases z : r = 2 + i
        · subst z; exact Beats.irr
        · have Lq := lot_bits hR r1 (show r < 2 ^ ws.length by omega)
          exact Beats.step (by have := sq_bd hR Lq; omega) (by omega) (by omega) (c3 r r1 (by omega)) hb
      · have hb' := fun z => hb (hbe.mpr z)
        refine ⟨_, by rw [turn_nm, hev, if_neg hb'], c, _, _, rfl, c1, c2, fun r r1 r2 => ?_⟩
        by_cases z : r = 2 + i
        · subst z; exact hb
        · exact c3 r r1 (by omega))
  refine ⟨c, o6, o7, e, c1, c2, fun r r1 r2 => c3 r r1 ?_⟩
  rw [rngD_len]
  omega
end K28a
set_option Elab.async false
set_option linter.all false
set_option maxRecDepth 100000
set_option maxHeartbeats 2000000
namespace K28a
open PySem Pv
variable {k : Nat}

theorem nats_snoc (l : List Nat) (i : Nat) : nats (l ++ [i]) = nats l ++ [.int (i : Int)] := by
  unfold nats
  rw [List.map_append]
  rfl
theorem due_loop3 {n c : Nat} (hn : n ≤ 12) (x0 x1 x2 x3 x4 x5 x6 x7 : Option D) : ∃ (o9 o10 : Option D), forL (turn (run T k) (.nm 10) b18_6) (rngD 0 (n : Int)) [x0, x1, x2, x3, x4, x5, x6, x7, some (.lst []), some (.int c), none, none, none, none, none] =
    .nx [x0, x1, x2, x3, x4, x5, x6, x7, some (.lst (nats (bits n c))), o9, o10, none, none, none, none] := by
  obtain ⟨ρ', e, o10, rfl⟩ := forL_nx (f := turn (run T k) (.nm 10) b18_6) (l := rngD 0 (n : Int)) (fun i ρ => ∃ (o10 : Option D), ρ = [x0, x1, x2, x3, x4, x5, x6, x7, some (.lst (nats (bits i c))), some (.int ((c / 2 ^ i : Nat) : Int)), o10, none, none, none, none])
    (ρ0 := [x0, x1, x2, x3, x4, x5, x6, x7, some (.lst []), some (.int c), none, none, none, none, none]) ⟨none, by rw [Nat.pow_zero, Nat.div_one]; rfl⟩ (by
      rintro i d ρ hd ⟨o10, rfl⟩
      obtain ⟨rfl, hlt⟩ := rngD_get hd
      rw [Int.zero_add] at hlt ⊢
      have hi : i < n := by omega
      have hdiv : ((c / 2 ^ i : Nat) : Int) / 2 = ((c / 2 ^ (i + 1) : Nat) : Int) := by
        rw [Nat.pow_succ, ← Nat.div_div_eq_div_mul]
        omega
      have hbit : decide (((c / 2 ^ i : Nat) : Int) % 2 = 1) = c.testBit i := by
        rw [Nat.testBit_eq_decide_div_mod_eq]
        exact decide_eq_decide.mpr (by omega)
      have hsn : bits (i + 1) c = bits i c ++ if c.testBit i then [i] else [] := by
        unfold bits
        rw [List.range_succ, List.filter_append]
        congr 1
        cases e : c.testBit i <;> simp [e]
      have hll : (bits i c).length ≤ i := Nat.le_trans (List.length_filter_le _ _) (by rw [List.length_range]; exact Nat.le_refl _)
      have hlen : lenOk ((nats (bits i c)).length + 1) = true := decide_eq_true (by unfold nats; rw [List.length_map]; exact Nat.le_trans (Nat.succ_le_succ (Nat.le_trans hll (show i ≤ 12 by omega))) (by decide))
      refine ⟨_, ?_, some (.int (i : Int)), rfl⟩
      rw [turn_nm]
      simp only [b18_6, List.set_cons_succ, List.set_cons_zero, evSsq_cons, evSq_ite, evq_cmp, evq_bin, evq_blt, evsq_cons, evsq_nil, evq_var, getV_succ, getV_zero, R.bind_ok, blD_int, evq_c, mod_ok (show (0 : Int) < 2 by omega), cmpD_eq, hbit, SR.of_ok, brD_bl, hsn]
      cases q : c.testBit i with
      | true =>
        simp only [if_true, evSsq_cons, evSq_app, List.getElem?_cons_succ, List.getElem?_cons_zero, appL_some, evq_var, getV_succ, getV_zero, SR.of_ok, hlen, List.set_cons_succ, List.set_cons_zero, andS_nx, evSsq_nil, evSq_set, evq_bin, evq_c, R.bind_ok, div_small (show (0 : Int) < 2 by omega) (show (2 : Int) < 18446744073709551616 by omega), hdiv, setT_nm, oS_some, nats_snoc]
      | false =>
        simp only [Bool.false_eq_true, if_false, evSsq_nil, andS_nx, evSsq_cons, evSq_set, evq_bin, evq_var, getV_succ, getV_zero, R.bind_ok, evq_c, div_small (show (0 : Int) < 2 by omega) (show (2 : Int) < 18446744073709551616 by omega), hdiv, SR.of_ok, setT_nm, oS_some, List.set_cons_succ, List.set_cons_zero, List.append_nil])
  rw [rngD_len, show ((n : Int) - 0).toNat = n by omega] at e
  exact ⟨_, o10, e⟩
/-- what is due -/
def due (ws : List Int) (v : Int) : D := .lst [red (Wt ws (thr ws v) * Wt ws (thr ws v)) (Sq ws (thr ws v)), .tup (nats (thr ws v)), red (2 * (Wt ws (thr ws v) * Wt ws (thr ws v))) (Wt ws (thr ws v) * Wt ws (thr ws v) + Sq ws (thr ws v))]
theorem r_due {ws : List Int} (hR : Row ws) {v : Int} (hb : Best ws ws v) : run T (k + 2) 18 [il ws] = .ok (due ws v) := by
  rw [run_fn (fi := fi18) rfl rfl]
  obtain ⟨o4, e1⟩ := due_loop1 (k := k + 1) hR
  obtain ⟨c, o6, o7, e2, c1, c2, c3⟩ := due_loop2 (k := k + 1) hR o4
  obtain ⟨o9, o10, e3⟩ := due_loop3 (k := k + 1) (n := ws.length) (c := c) hR.len (some (il ws)) (some (il (subs id ws))) (some (il (subs sqr ws))) (some (il (subs one ws))) o4 (some (.int c)) o6 o7
  obtain ⟨j0, hj0⟩ := List.exists_mem_of_length_pos (two_rank c1 c2)
  obtain ⟨hj1, hj2⟩ := List.mem_filter.mp hj0
  have hopt : Opt ws ((List.range ws.length).filter fun k => c.testBit k) := fun p hp => by
    obtain ⟨i, hi, pi⟩ := hp
    have h1 := bits_ofP p ws.length
    rw [← h1]
    refine c3 (ofP p ws.length) ?_ (ofP_lt p _)
    by_cases z : ofP p ws.length = 0
    · have := ofP_bit p ws.length i hi
      rw [z, Nat.zero_testBit, pi] at this
      cases this
    · omega
  have hS : bits ws.length c = thr ws v := opt_best hR (List.mem_range.mp hj1) hj2 hopt hb
  have hL := lot_thr hR hb.mem
  have gT : ixD (il (subs id ws)) (.int c) = .ok (.int (Wt ws (thr ws v))) := by rw [← hS]; exact il_ix (subs_get id ws c c2)
  have gS : ixD (il (subs sqr ws)) (.int c) = .ok (.int (Sq ws (thr ws v))) := by rw [← hS]; exact il_ix (subs_get sqr ws c c2)
  obtain ⟨w1, w2⟩ := wt_bd hR hL
  obtain ⟨b1, b2⟩ := wt2_bd hR hL
  obtain ⟨b3, b4⟩ := sq_bd hR hL
  have hm : binD .mul (.int (Wt ws (thr ws v))) (.int (Wt ws (thr ws v))) = .ok (.int (Wt ws (thr ws v) * Wt ws (thr ws v))) := mul_small (by omega) (by omega)
  have hm2 : binD .mul (.int 2) (.int (Wt ws (thr ws v) * Wt ws (thr ws v))) = .ok (.int (2 * (Wt ws (thr ws v) * Wt ws (thr ws v)))) := mul_small (by omega) (by omega)
  have l1 := r_low (k := k) (Wt ws (thr ws v) * Wt ws (thr ws v)) (Sq ws (thr ws v)) (by omega) (by omega)
  have l2 := r_low (k := k) (2 * (Wt ws (thr ws v) * Wt ws (thr ws v))) (Wt ws (thr ws v) * Wt ws (thr ws v) + Sq ws (thr ws v)) (by omega) (by omega)
  have h12 := hR.len
  have hp : (2 : Nat) ^ ws.length ≤ 4096 := Nat.le_trans (Nat.pow_le_pow_right (by decide) h12) (by decide)
  have r1 : rngIt (.int 2) (.int ((2 ^ ws.length : Nat) : Int)) = .ok (rngD 2 ((2 ^ ws.length : Nat) : Int)) := rngIt_ok (by omega) (by omega) (by omega) (by omega)
  have r2 : rngIt (.int 0) (.int (ws.length : Int)) = .ok (rngD 0 (ws.length : Int)) := rngIt_ok (by omega) (by omega) (by omega) (by omega)
  have z0 : (lenOk ([] : List D).length) = true := rfl
  have z1 : ∀ x : D, (lenOk [x].length) = true := fun _ => rfl
  have z3 : ∀ x y z : D, (lenOk [x, y, z].length) = true := fun _ _ _ => rfl
  have i0 : D.lst [.int 0] = il [0] := rfl
  have tt : ∀ l : List D, blD .tuple [.lst l] = .ok (.tup l) := fun _ => rfl
  have hst : startE 15 [il ws] = [some (il ws), none, none, none, none, none, none, none, none, none, none, none, none, none, none] := rfl
  simp only [fi18, t18, hst, evSsq_cons, evSq_set, evq_lst, evsq_cons, evsq_nil, evq_c, R.bind_ok, z1, if_true, i0, SR.of_ok, setT_nm, oS_some, List.set_cons_succ, List.set_cons_zero, andS_nx, evSq_for, evItq_seq, evq_var, getV_zero, getV_succ, seq_il, forR_ok, e1, evItq_rng, evq_blt, len_il, subs_len, r1, e2, evSq_setO, z0, isO, e3, r2, evq_bin, evq_ix, gT, gS, hm, evSq_ret, evq_call, l1, hS, tt, hm2, binD_add, l2, z3, andS_rt, finish_rt, due]
end K28a
set_option Elab.async false
set_option linter.all false
set_option maxRecDepth 100000
set_option maxHeartbeats 2000000
namespace K28a
open PySem Pv
variable {k : Nat}

theorem shp_ints (ws : List Int) : shp (.lst (ws.map D.int)) = true := by
  have h1 : PyData.canLayAll0 (toPs (ws.map D.int)) = true ∧ PyData.depthAll (toPs (ws.map D.int)) = 0 := by
    induction ws with
    | nil => exact ⟨rfl, rfl⟩
    | cons w ws ih =>
      refine ⟨?_, ?_⟩
      · show (PyData.canLay0 (.int w) && PyData.canLayAll0 (toPs (ws.map D.int))) = true
        rw [ih.1]
        rfl
      · show max (PyData.depth (.int w)) (PyData.depthAll (toPs (ws.map D.int))) = 0
        rw [ih.2]
        rfl
  show (PyData.canLayAll0 (toPs (ws.map D.int)) && decide (PyData.depthAll (toPs (ws.map D.int)) + 1 ≤ 64)) = true
  rw [h1.1, h1.2]
  rfl
theorem eqv_ints (ws : List Int) : PyData.eqvAll (toPs (ws.map D.int)) (toPs (ws.map D.int)) = true := by
  induction ws with
  | nil => rfl
  | cons w ws ih =>
    show ((w == w) && PyData.eqvAll (toPs (ws.map D.int)) (toPs (ws.map D.int))) = true
    rw [ih]
    simp
theorem eq_il (ws : List Int) : cmpD .eq (il ws) (il ws) = .ok true := by
  show (if shp (.lst (ws.map D.int)) && shp (.lst (ws.map D.int)) then R.ok (eqP (.lst (ws.map D.int)) (.lst (ws.map D.int))) else R.bad) = _
  rw [shp_ints]
  show R.ok (PyData.eqvAll (toPs (ws.map D.int)) (toPs (ws.map D.int))) = _
  rw [eqv_ints]
theorem nats_ints (l : List Nat) : nats l = (l.map fun k : Nat => (k : Int)).map D.int := by
  unfold nats
  rw [List.map_map]
  rfl
theorem r_right {ws : List Int} (hR : Row ws) {v : Int} (hb : Best ws ws v) (b : Bool) : run T (k + 7) 19 [il ws, due ws v, .bl b] = .ok (.bl true) := by
  rw [run_fn (fi := fi19) rfl rfl]
  have hL := lot_thr hR hb.mem
  have ta : ∀ x y : Int, run T (k + 6) 13 [.tup [.int x, .int y], .tup [.int x, .int y]] = .ok (.bl true) := fun x y => r_alike (k := k + 3) [x, y] (by simp)
  have tr : ∀ x y : Int, run T (k + 6) 13 [red x y, red x y] = .ok (.bl true) := fun x y => ta _ _
  have tn : run T (k + 6) 13 [.tup (nats (thr ws v)), .tup (nats (thr ws v))] = .ok (.bl true) := by
    rw [nats_ints]
    exact r_alike (k := k + 3) _ (by rw [List.length_map]; have := hL.le; omega)
  have d0 : ixD (due ws v) (.int 0) = .ok (red (Wt ws (thr ws v) * Wt ws (thr ws v)) (Sq ws (thr ws v))) := rfl
  have d1 : ixD (due ws v) (.int 1) = .ok (.tup (nats (thr ws v))) := rfl
  have d2 : ixD (due ws v) (.int 2) = .ok (red (2 * (Wt ws (thr ws v) * Wt ws (thr ws v))) (Wt ws (thr ws v) * Wt ws (thr ws v) + Sq ws (thr ws v))) := rfl
  have c0 : blD .tuple [il ws] = .ok (sq true ws) := rfl
  have c1 : blD .list [il ws] = .ok (sq false ws) := rfl
  have lt : ∀ t, blD .len [sq t ws] = .ok (.int ws.length) := fun t => by cases t <;> simp [sq]
  have lst : ∀ t, blD .list [sq t ws] = .ok (il ws) := fun t => by cases t <;> rfl
  have f1 := fun t => r_factor (k := k) t hR hb
  have f2 := fun t => r_best' (k := k + 2) t hR hb
  have f3 := fun t => r_greatest (k := k + 1) t hR hb
  have hst : startE 7 [il ws, due ws v, .bl b] = [some (il ws), some (due ws v), some (.bl b), none, none, none, none] := rfl
  cases b with
  | true =>
    simp only [fi19, t19, hst, c0, c1, evq_blt, evSsq_cons, evSq_set, evq_call, evsq_cons, evsq_nil, evq_var, getV_succ, getV_zero, R.bind_ok, f1, f2, f3, SR.of_ok, setT_nm, oS_some, List.set_cons_succ, List.set_cons_zero, andS_nx, evSq_ite, evq_or, evq_not, evq_ix, evq_c, d0, d1, d2, tr, tn, tBool_bl, Bool.not_true, Bool.false_eq_true, if_false, brD_bl, evSsq_nil, evSq_ret, evq_and, evq_cmp, lt, len_il, cmpD_eq, decide_true, if_true, lst, eq_il, andS_rt, finish_rt]
  | false =>
    simp only [fi19, t19, hst, c0, c1, evq_blt, evSsq_cons, evSq_set, evq_call, evsq_cons, evsq_nil, evq_var, getV_succ, getV_zero, R.bind_ok, f1, f2, f3, SR.of_ok, setT_nm, oS_some, List.set_cons_succ, List.set_cons_zero, andS_nx, evSq_ite, evq_or, evq_not, evq_ix, evq_c, d0, d1, d2, tr, tn, tBool_bl, Bool.not_true, Bool.false_eq_true, if_false, brD_bl, evSsq_nil, evSq_ret, evq_and, evq_cmp, lt, len_il, cmpD_eq, decide_true, if_true, lst, eq_il, andS_rt, finish_rt]
end K28a
set_option Elab.async false
set_option linter.all false
set_option maxRecDepth 100000
set_option maxHeartbeats 2000000
namespace K28a
open PySem Pv
variable {k : Nat}

/-! ### nothing is refused but with NoJobs -/
def nj : Exc := ⟨"NoJobs", [], []⟩
theorem best_nil (t : Bool) : run T (k + 1) 6 [sq t []] = .exn nj := by
  rw [run_fn (fi := fi6) rfl rfl]
  have lt : blD .len [sq t []] = .ok (.int 0) := by cases t <;> rfl
  have hr : ∀ cl ρ, evS cl (.rais "NoJobs" [] .nil) ρ = .ex nj ρ := fun cl ρ => by
    rw [evS, evsq_nil]
    rfl
  simp only [fi6, t6, show startE 5 [sq t []] = [some (sq t []), none, none, none, none] from rfl, evSsq_cons, evSq_ite, evq_cmp, evq_blt, evsq_cons, evsq_nil, evq_var, getV_zero, R.bind_ok, lt, evq_c, cmpD_eq, decide_true, SR.of_ok, brD_bl, if_true, hr, andS_ex, finish_ex]
theorem greatest_nil (t : Bool) : run T (k + 2) 7 [sq t []] = .exn nj := by
  rw [run_fn (fi := fi7) rfl rfl]
  simp only [fi7, t7, show startE 1 [sq t []] = [some (sq t [])] from rfl, evSsq_cons, evSq_ret, evq_call, evsq_cons, evsq_nil, evq_var, getV_zero, R.bind_ok, best_nil, R.bind_exn, SR.of_exn, andS_ex, finish_ex]
theorem factor_nil (t : Bool) : run T (k + 3) 8 [sq t []] = .exn nj := by
  rw [run_fn (fi := fi8) rfl rfl]
  simp only [fi8, t8, show startE 3 [sq t []] = [some (sq t []), none, none] from rfl, evSsq_cons, evSq_set, evq_call, evsq_cons, evsq_nil, evq_var, getV_zero, R.bind_ok, greatest_nil, SR.of_exn, andS_ex, finish_ex]
theorem sub1 : subC "NoJobs" "CounterError" = true := by decide +kernel
theorem sub2 : (subC "NoJobs" "BadAmount" = false ∧ subC "NoJobs" "BadCount" = false ∧ subC "NoJobs" "NotAtOnce" = false ∧ subC "NoJobs" "NotBelow" = false) ∧ subC "NoJobs" "NoJobs" = true ∧ subC "NoJobs" "ValueError" = true := by decide +kernel
def trH : Ss := .cons (.set (.nm 3) (.or (.xisi 2 [.c "BadAmount"]) (.or (.xisi 2 [.c "BadCount"]) (.or (.xisi 2 [.c "NotAtOnce"]) (.xisi 2 [.c "NotBelow"]))))) (.cons (.ret (.and (.xisi 2 [.c "NoJobs"]) (.and (.xisi 2 [.c "ValueError"]) (.not (.var 3))))) .nil)
theorem trH_ok (cl : CallT) (a b : Option D) (o : Option D) : evSs cl trH [a, b, some (.exc "NoJobs" [] []), o] = .rt (.bl true) := by
  have x : ∀ (ρ : List (Option D)) (c : Str), getV ρ 2 = .ok (.exc "NoJobs" [] []) → ev cl (.xisi 2 [.c c]) ρ = .ok (.bl (subC "NoJobs" c)) := fun ρ c h => by
    rw [ev, h]
    show R.ok (D.bl (subC "NoJobs" c || false)) = _
    rw [Bool.or_false]
  obtain ⟨⟨s1, s2, s3, s4⟩, s5, s6⟩ := sub2
  have g : ∀ o', getV [a, b, some (.exc "NoJobs" [] []), o'] 2 = .ok (.exc "NoJobs" [] []) := fun _ => rfl
  simp only [trH, evSsq_cons, evSq_set, evq_or, x _ _ (g _), s1, s2, s3, s4, R.bind_ok, tBool_bl, Bool.false_eq_true, if_false, SR.of_ok, setT_nm, oS_some, List.set_cons_succ, List.set_cons_zero, andS_nx, evSq_ret, evq_and, s5, s6, if_true, evq_not, evq_var, getV_succ, getV_zero, Bool.not_false, andS_rt]
theorem r_refused (t : Bool) (w : Int) : run T (k + 4) 20 [.int w, sq t []] = .ok (.bl true) := by
  rw [run_fn (fi := fi20) rfl rfl]
  have hst : startE 4 [.int w, sq t []] = [some (.int w), some (sq t []), none, none] := rfl
  have hb : ∀ tb : Ss, evSs (run T (k + 3)) tb [some (.int w), some (sq t []), none, none] = .ex nj [some (.int w), some (sq t []), none, none] → evS (run T (k + 3)) (.try_ tb (.cons "CounterError" (some 2) trH .nil)) [some (.int w), some (sq t []), none, none] = .rt (.bl true) := fun tb e => by
    rw [evS, e]
    show evHs (run T (k + 3)) (.cons "CounterError" (some 2) trH .nil) nj [some (.int w), some (sq t []), none, none] = _
    rw [evHs]
    have e1 : subC nj.c "CounterError" = true := sub1
    rw [if_pos e1]
    show uncatch (some 2) (evSs (run T (k + 3)) trH [some (.int w), some (sq t []), some (.exc "NoJobs" [] []), none]) = _
    rw [trH_ok]
    rfl
  have ht : t20 = .cons (.try_ (.cons (.ite (.cmp .eq (.var 0) (.c (.int 0))) (.cons (.ex (.call 7 (.cons (.var 1) (.nil)))) (.nil)) (.cons (.ite (.cmp .eq (.var 0) (.c (.int 1))) (.cons (.ex (.call 6 (.cons (.var 1) (.nil)))) (.nil)) (.cons (.ex (.call 8 (.cons (.var 1) (.nil)))) (.nil))) (.nil))) (.nil)) (.cons "CounterError" (some 2) trH .nil)) (.cons (.ret (.c (.bl false))) .nil) := rfl
  simp only [fi20, ht, hst]
  rw [evSsq_cons, hb]
  · rfl
  · have g7 := greatest_nil (k := k + 1) t
    have g6 := best_nil (k := k + 2) t
    have g8 := factor_nil (k := k) t
    by_cases h0 : w = 0
    · simp only [evSsq_cons, evSq_ite, evq_cmp, evq_var, getV_zero, R.bind_ok, evq_c, cmpD_eq, decide_eq_true h0, SR.of_ok, brD_bl, if_true, evSq_ex, evq_call, evsq_cons, evsq_nil, getV_succ, g7, SR.of_exn, andS_ex]
    · by_cases h1 : w = 1
      · simp only [evSsq_cons, evSq_ite, evq_cmp, evq_var, getV_zero, R.bind_ok, evq_c, cmpD_eq, decide_eq_false h0, decide_eq_true h1, SR.of_ok, brD_bl, Bool.false_eq_true, if_false, if_true, evSq_ex, evq_call, evsq_cons, evsq_nil, getV_succ, g6, SR.of_exn, andS_ex]
      · simp only [evSsq_cons, evSq_ite, evq_cmp, evq_var, getV_zero, R.bind_ok, evq_c, cmpD_eq, decide_eq_false h0, decide_eq_false h1, SR.of_ok, brD_bl, Bool.false_eq_true, if_false, evSq_ex, evq_call, evsq_cons, evsq_nil, getV_succ, g8, SR.of_exn, andS_ex]
end K28a
set_option Elab.async false
set_option linter.all false
set_option maxRecDepth 100000
set_option maxHeartbeats 2000000
namespace K28a
open PySem Pv
variable {k : Nat}

/-! ### the rows that the law makes -/
/-- digits below their sizes -/
def Dg (sizes ds : List Int) : Prop := ds.length = sizes.length ∧ DigOk sizes ds
theorem Dg.get {sizes ds : List Int} (h : Dg sizes ds) {i : Nat} {s : Int} (hs : sizes[i]? = some s) : ∃ d, ds[i]? = some d ∧ 0 ≤ d ∧ d < s := by
  obtain ⟨hi, _⟩ := List.getElem?_eq_some_iff.mp hs
  have hi' : i < ds.length := by rw [h.1]; exact hi
  exact ⟨ds[i], List.getElem?_eq_getElem hi', h.2.2 i _ _ (List.getElem?_eq_getElem hi') hs⟩
theorem row_of {ws : List Int} (h1 : 0 < ws.length) (h2 : ws.length ≤ 12) (h3 : ∀ w ∈ ws, 1 ≤ w ∧ w ≤ 999) : Row ws := ⟨h1, h2, h3⟩
def szF : List Int := [24, 3, 999, 3, 999, 3, 999, 3, 999, 3, 999, 3, 999, 3, 999, 3, 999, 3, 999, 3, 999, 3, 999, 3, 999]
def cnts : List Int := [3, 5, 12, 4, 12, 2, 6, 1, 7, 12, 9, 10, 11, 4, 12, 6, 12, 3, 8, 12, 7, 12, 12, 1]
theorem r_free {ds : List Int} (h : Dg szF ds) : ∃ ws, run T (k + 1) 16 [il ds] = .ok (il ws) ∧ Row ws := by
  rw [run_fn (fi := fi16) rfl rfl]
  obtain ⟨d0, e0, d1, d2⟩ := h.get (i := 0) (s := 24) rfl
  obtain ⟨n, hn⟩ := Int.eq_ofNat_of_zero_le d1
  subst hn
  have hc : ∃ c : Int, cnts[n]? = some c ∧ 1 ≤ c ∧ c ≤ 12 := by
    have hl : n < cnts.length := by show n < 24; omega
    have hall : ∀ c ∈ cnts, 1 ≤ c ∧ c ≤ 12 := by decide
    exact ⟨cnts[n], List.getElem?_eq_getElem hl, hall _ (List.getElem_mem _)⟩
  obtain ⟨c, ec, c1, c2⟩ := hc
  obtain ⟨m, hm⟩ := Int.eq_ofNat_of_zero_le (show 0 ≤ c by omega)
  subst hm
  have i0 : ixD (il ds) (.int 0) = .ok (.int n) := il_ix (i := 0) e0
  have i1 : ixD (il cnts) (.int n) = .ok (.int m) := il_ix ec
  have hs1 : ∀ j : Nat, j < 12 → szF[1 + 2 * j]? = some 3 ∧ szF[2 + 2 * j]? = some 999 := by decide
  have key : ∀ x ∈ rngD 0 (m : Int), ∃ z : Int, ev (run T k) e16_1 (List.set [some (il ds), some (.int m), none] 2 (some x)) = .ok (.int z) ∧ 1 ≤ z ∧ z ≤ 999 := by
    intro x hx
    obtain ⟨i, h0, h1, rfl⟩ := mem_rngD.mp hx
    obtain ⟨j, hj⟩ := Int.eq_ofNat_of_zero_le h0
    subst hj
    have hj12 : j < 12 := by omega
    obtain ⟨a, ea, a1, a2⟩ := h.get (hs1 j hj12).1
    obtain ⟨b, eb, b1, b2⟩ := h.get (hs1 j hj12).2
    have ja : ixD (il ds) (.int (1 + 2 * (j : Int))) = .ok (.int a) := by
      have := il_ix ea
      rw [show ((1 + 2 * j : Nat) : Int) = 1 + 2 * (j : Int) by omega] at this
      exact this
    have jb : ixD (il ds) (.int (2 + 2 * (j : Int))) = .ok (.int b) := by
      have := il_ix eb
      rw [show ((2 + 2 * j : Nat) : Int) = 2 + 2 * (j : Int) by omega] at this
      exact this
    have m2 : binD .mul (.int 2) (.int (j : Int)) = .ok (.int (2 * (j : Int))) := mul_small (by omega) (by omega)
    obtain ⟨s, es, s1, s2⟩ : ∃ s : Int, ixD (.lst [.int 9, .int 60, .int 999]) (.int a) = .ok (.int s) ∧ 1 ≤ s ∧ s ≤ 999 := by
      have : a = 0 ∨ a = 1 ∨ a = 2 := by omega
      rcases this with rfl | rfl | rfl
      · exact ⟨9, rfl, by omega, by omega⟩
      · exact ⟨60, rfl, by omega, by omega⟩
      · exact ⟨999, rfl, by omega, by omega⟩
    have z3 : ∀ x y z : D, (lenOk [x, y, z].length) = true := fun _ _ _ => rfl
    have q1 := Int.emod_nonneg b (show s ≠ 0 by omega)
    have q2 := Int.emod_lt_of_pos b (show 0 < s by omega)
    refine ⟨1 + b % s, ?_, by omega, by omega⟩
    simp only [e16_1, evq_bin, evq_c, evq_blt, evsq_cons, evsq_nil, evq_ix, evq_var, List.set_cons_succ, List.set_cons_zero, getV_succ, getV_zero, R.bind_ok, m2, binD_add, ja, jb, blD_int, evq_lst, z3, if_true, es, mod_ok (show 0 < s by omega)]
  have ⟨g, hg⟩ : ∃ g : D → Int, ∀ x ∈ rngD 0 (m : Int), ev (run T k) e16_1 (List.set [some (il ds), some (.int m), none] 2 (some x)) = .ok (.int (g x)) ∧ 1 ≤ g x ∧ g x ≤ 999 := by
    classical
    exact ⟨fun x => if h : x ∈ rngD 0 (m : Int) then Classical.choose (key x h) else 0, fun x hx => by
      simp only [hx, dite_true]
      exact Classical.choose_spec (key x hx)⟩
  refine ⟨(rngD 0 (m : Int)).map g, ?_, ?_⟩
  · have e : lcRes (lcF (run T k) e16_1 (.nm 2) .nil [2] [some (il ds), some (.int m), none]) (rngD 0 (m : Int)) = .ok (il ((rngD 0 (m : Int)).map g)) := by
      rw [lcRes_map (fun x => D.int (g x)) (fun x hx => (hg x hx).1) (by rw [rngD_len]; omega)]
      unfold il
      rw [List.map_map]
      rfl
    have hr : rngIt (.int 0) (.int (m : Int)) = .ok (rngD 0 (m : Int)) := rngIt_ok (by omega) (by omega) (by omega) (by omega)
    have hst : startE 3 [il ds] = [some (il ds), none, none] := rfl
    have z24 : lenOk (cnts.map D.int).length = true := rfl
    have hcl : ∀ cl ρ, ev cl (.lst (.cons (.c (.int 3)) (.cons (.c (.int 5)) (.cons (.c (.int 12)) (.cons (.c (.int 4)) (.cons (.c (.int 12)) (.cons (.c (.int 2)) (.cons (.c (.int 6)) (.cons (.c (.int 1)) (.cons (.c (.int 7)) (.cons (.c (.int 12)) (.cons (.c (.int 9)) (.cons (.c (.int 10)) (.cons (.c (.int 11)) (.cons (.c (.int 4)) (.cons (.c (.int 12)) (.cons (.c (.int 6)) (.cons (.c (.int 12)) (.cons (.c (.int 3)) (.cons (.c (.int 8)) (.cons (.c (.int 12)) (.cons (.c (.int 7)) (.cons (.c (.int 12)) (.cons (.c (.int 12)) (.cons (.c (.int 1)) (.nil)))))))))))))))))))))))))) ρ = .ok (il cnts) := fun cl ρ => by
      simp only [evq_lst, evsq_cons, evsq_nil, evq_c, R.bind_ok]
      rfl
    simp only [fi16, t16, hst, evSsq_cons, evSq_set, evq_ix, hcl, evq_var, getV_zero, getV_succ, R.bind_ok, evq_c, i0, i1, SR.of_ok, setT_nm, oS_some, List.set_cons_succ, List.set_cons_zero, andS_nx, evSq_ret, evq_lc, evItq_rng, hr, e, andS_rt, finish_rt]
  · refine ⟨by rw [List.length_map, rngD_len]; omega, by rw [List.length_map, rngD_len]; omega, fun w hw => ?_⟩
    obtain ⟨x, hx, rfl⟩ := List.mem_map.mp hw
    exact (hg x hx).2
end K28a
set_option Elab.async false
set_option linter.all false
set_option maxRecDepth 100000
set_option maxHeartbeats 2000000
namespace K28a
open PySem Pv
variable {k : Nat}

/-- a row of at least two -/
structure Row2 (ws : List Int) : Prop where
  pos : 2 ≤ ws.length
  len : ws.length ≤ 12
  bd : ∀ w ∈ ws, 1 ≤ w ∧ w ≤ 999
theorem Row2.row {ws : List Int} (h : Row2 ws) : Row ws := ⟨by have := h.pos; omega, h.len, h.bd⟩
theorem sums_bd : ∀ {ws : List Int}, (∀ w ∈ ws, 1 ≤ w ∧ w ≤ 999) → (ws.length : Int) ≤ ws.sum ∧ ws.sum ≤ 999 * ws.length ∧ (ws.length : Int) ≤ (ws.map fun w => w * w).sum ∧ (ws.map fun w => w * w).sum ≤ 998001 * ws.length ∧ (ws.map fun w => w * w).sum ≤ ws.sum * ws.sum
  | [], _ => by simp
  | w :: ws, h => by
    obtain ⟨i1, i2, i3, i4, i5⟩ := sums_bd (ws := ws) fun x hx => h x (List.mem_cons_of_mem _ hx)
    obtain ⟨h1, h2⟩ := h w List.mem_cons_self
    have h3 : 1 * 1 ≤ w * w := Int.mul_le_mul h1 h1 (by omega) (by omega)
    have h4 : w * w ≤ 999 * 999 := Int.mul_le_mul h2 h2 (by omega) (by omega)
    have h5 : 0 ≤ w * ws.sum := Int.mul_nonneg (by omega) (by omega)
    have e : (w + ws.sum) * (w + ws.sum) = w * w + (w * ws.sum + w * ws.sum) + ws.sum * ws.sum := by
      rw [Int.add_mul, Int.mul_add, Int.mul_add, Int.mul_comm ws.sum w]; omega
    simp only [List.sum_cons, List.map_cons, List.length_cons]
    rw [e]
    generalize w * w = ww at *
    generalize w * ws.sum = wW at *
    generalize ws.sum * ws.sum = WW at *
    omega
theorem sums_lt {ws : List Int} (hl : 2 ≤ ws.length) (h : ∀ w ∈ ws, 1 ≤ w ∧ w ≤ 999) : (ws.map fun w => w * w).sum < ws.sum * ws.sum := by
  match ws, hl with
  | w :: u :: ws, _ =>
    obtain ⟨i1, i2, i3, i4, i5⟩ := sums_bd (ws := u :: ws) fun x hx => h x (List.mem_cons_of_mem _ hx)
    obtain ⟨h1, h2⟩ := h w List.mem_cons_self
    have h6 : 1 ≤ (u :: ws).sum := by rw [List.length_cons] at i1; omega
    have h5 : 0 < w * (u :: ws).sum := Int.mul_pos (by omega) (by omega)
    rw [List.map_cons, List.sum_cons, List.sum_cons (l := u :: ws)]
    generalize (u :: ws).sum = W at *
    generalize (List.map (fun w => w * w) (u :: ws)).sum = Q at *
    have e : (w + W) * (w + W) = w * w + (w * W + w * W) + W * W := by
      rw [Int.add_mul, Int.mul_add, Int.mul_add, Int.mul_comm W w]; omega
    rw [e]
    omega
theorem r_tie {ws : List Int} (hR : Row2 ws) : ∃ a b : Int, run T (k + 2) 14 [il ws] = .ok (.tup [.int a, .int b]) ∧ 1 ≤ a ∧ a ≤ 287137863712 ∧ 1 ≤ b ∧ b ≤ 143712144 := by
  rw [run_fn (fi := fi14) rfl rfl]
  obtain ⟨i1, i2, i3, i4, i5⟩ := sums_bd hR.bd
  have i6 := sums_lt hR.pos hR.bd
  have hl := hR.len
  have hp := hR.pos
  have e1 : lcRes (lcF (run T (k + 1)) e14_1 (.nm 3) .nil [3] [some (il ws), some (.int ws.sum), none, none]) (ws.map D.int) = .ok (il (ws.map fun w => w * w)) := lc_int (fun w => w * w) (fun x hx => by
    obtain ⟨h1, h2⟩ := hR.bd x hx
    have hm : binD .mul (.int x) (.int x) = .ok (.int (x * x)) := mul_small (by omega) (by omega)
    simp only [e14_1, evq_bin, evq_var, List.set_cons_succ, List.set_cons_zero, getV_succ, getV_zero, R.bind_ok, hm]) (by omega)
  generalize hW : ws.sum = W at *
  generalize hQ : (ws.map fun w => w * w).sum = Q at *
  have s1 : blD .sum [il ws] = .ok (.int W) := by rw [← hW]; exact sum_ok ws
  have s2 : blD .sum [il (ws.map fun w => w * w)] = .ok (.int Q) := by rw [← hQ]; exact sum_ok _
  have w1 : 1 ≤ W := by omega
  have w2 : W ≤ 11988 := by omega
  have q1 : 1 ≤ Q := by omega
  have q2 : Q ≤ 11976012 := by omega
  have ww : W * W ≤ 11988 * 11988 := Int.mul_le_mul w2 w2 (by omega) (by omega)
  have wq : 2 * W * Q ≤ 23976 * 11976012 := Int.mul_le_mul (by omega) q2 (by omega) (by omega)
  have wq1 : 0 < 2 * W * Q := Int.mul_pos (by omega) (by omega)
  have m1 : binD .mul (.int 2) (.int W) = .ok (.int (2 * W)) := mul_small (by omega) (by omega)
  have m2 : binD .mul (.int (2 * W)) (.int Q) = .ok (.int (2 * W * Q)) := mul_small (by omega) (by omega)
  have m3 : binD .mul (.int W) (.int W) = .ok (.int (W * W)) := mul_small (by omega) (by omega)
  have hb : 0 < W * W - Q := by omega
  have l1 := r_low (k := k) (2 * W * Q) (W * W - Q) hb (by omega)
  obtain ⟨g, a', b', hg, ea, eb, e3, e4, _⟩ := div_g (a := 2 * W * Q) hb
  have p1 : 0 < a' := by
    have : 0 < a' * g := by rw [← ea]; exact wq1
    exact Int.pos_of_mul_pos_left this hg
  have p2 : 0 < b' := by
    have : 0 < b' * g := by rw [← eb]; exact hb
    exact Int.pos_of_mul_pos_left this hg
  have p3 : a' ≤ 2 * W * Q := by rw [← e3]; exact Int.ediv_le_self _ (by omega)
  have p4 : b' ≤ W * W - Q := by rw [← e4]; exact Int.ediv_le_self _ (by omega)
  refine ⟨a', b', ?_, by omega, by omega, by omega, by omega⟩
  have er : red (2 * W * Q) (W * W - Q) = .tup [.int a', .int b'] := by unfold red; rw [e3, e4]
  rw [er] at l1
  have hst : startE 4 [il ws] = [some (il ws), none, none, none] := rfl
  simp only [fi14, t14, hst, evSsq_cons, evSq_set, evq_blt, evsq_cons, evsq_nil, evq_var, getV_zero, getV_succ, R.bind_ok, s1, SR.of_ok, setT_nm, oS_some, List.set_cons_succ, List.set_cons_zero, andS_nx, evq_lc, evItq_seq, seq_il, e1, s2, evSq_ret, evq_call, evq_bin, evq_c, m1, m2, m3, binD_sub, l1, andS_rt, finish_rt]
end K28a
set_option Elab.async false
set_option linter.all false
set_option maxRecDepth 100000
set_option maxHeartbeats 2000000
namespace K28a
open PySem Pv
variable {k : Nat}

theorem il_app {l : List Int} {x : Int} (h : l.length ≤ 1000) : lenOk ((l.map D.int).length + 1) = true := decide_eq_true (by rw [List.length_map]; exact Nat.le_trans (Nat.succ_le_succ h) (by decide))
theorem il_snoc (l : List Int) (x : Int) : D.lst (l.map D.int ++ [.int x]) = il (l ++ [x]) := by
  unfold il
  rw [List.map_append]
  rfl
theorem appL_il (l : List Int) (r : R D) (ρ : Pv.Env) (i : Nat) : appL (some (some (il l))) r ρ i = SR.of r ρ fun d => if lenOk ((l.map D.int).length + 1) then .nx (ρ.set i (some (.lst (l.map D.int ++ [d])))) else .bad := id rfl
theorem Row2.snoc {ws : List Int} {x : Int} (h : Row2 ws) (hl : ws.length < 12) (h1 : 1 ≤ x) (h2 : x ≤ 999) : Row2 (ws ++ [x]) := by
  refine ⟨by rw [List.length_append]; have := h.pos; omega, by rw [List.length_append, List.length_singleton]; omega, fun w hw => ?_⟩
  rcases List.mem_append.mp hw with hw | hw
  · exact h.bd w hw
  · cases List.mem_singleton.mp hw
    exact ⟨h1, h2⟩
/-- a comprehension over a range, of ints within bounds -/
theorem lc_rng {cl : CallT} {elt : E} {i : Nat} {ρ : Pv.Env} {n : Nat} {lo hi : Int} (h : ∀ j : Nat, j < n → ∃ z : Int, ev cl elt (ρ.set i (some (.int (j : Int)))) = .ok (.int z) ∧ lo ≤ z ∧ z ≤ hi) (hn : n < 10000) :
    ∃ ws : List Int, lcRes (lcF cl elt (.nm i) .nil [i] ρ) (rngD 0 (n : Int)) = .ok (il ws) ∧ ws.length = n ∧ ∀ w ∈ ws, lo ≤ w ∧ w ≤ hi := by
  have ⟨g, hg⟩ : ∃ g : D → Int, ∀ x ∈ rngD 0 (n : Int), ev cl elt (ρ.set i (some x)) = .ok (.int (g x)) ∧ lo ≤ g x ∧ g x ≤ hi := by
    have key : ∀ x ∈ rngD 0 (n : Int), ∃ z : Int, ev cl elt (ρ.set i (some x)) = .ok (.int z) ∧ lo ≤ z ∧ z ≤ hi := fun x hx => by
      obtain ⟨j, h0, h1, rfl⟩ := mem_rngD.mp hx
      obtain ⟨j', hj⟩ := Int.eq_ofNat_of_zero_le h0
      subst hj
      exact h j' (by omega)
    classical
    exact ⟨fun x => if h : x ∈ rngD 0 (n : Int) then Classical.choose (key x h) else 0, fun x hx => by
      simp only [hx, dite_true]
      exact Classical.choose_spec (key x hx)⟩
  refine ⟨(rngD 0 (n : Int)).map g, ?_, by rw [List.length_map, rngD_len]; omega, fun w hw => ?_⟩
  · rw [lcRes_map (fun x => D.int (g x)) (fun x hx => (hg x hx).1) (by rw [rngD_len]; omega)]
    unfold il
    rw [List.map_map]
    rfl
  · obtain ⟨x, hx, rfl⟩ := List.mem_map.mp hw
    exact (hg x hx).2
def szP : List Int := [2, 6, 10, 6, 6, 6, 6, 3, 9, 6, 6, 100, 100, 100]
theorem tie_ix0 (a b : Int) : ixD (.tup [.int a, .int b]) (.int 0) = .ok (.int a) := rfl
theorem tie_ix1 (a b : Int) : ixD (.tup [.int a, .int b]) (.int 1) = .ok (.int b) := rfl
/-- the third stage -/
theorem pl_loop1 {ds : List Int} {o2 o3 o4 o5 o6 : Option D} (L : List D) {ws : List Int} (h : Row2 ws) : ∃ ws' o4' o5', forL (turn (run T (k + 2)) (.nm 4) b15_4) L [some (il ds), some (il ws), o2, o3, o4, o5, o6] = .nx [some (il ds), some (il ws'), o2, o3, o4', o5', o6] ∧ Row2 ws' := by
  refine forL_gen (f := turn (run T (k + 2)) (.nm 4) b15_4) (l := L) (fun _ ρ => ∃ ws o4 o5, ρ = [some (il ds), some (il ws), o2, o3, o4, o5, o6] ∧ Row2 ws) (fun r => ∃ ws' o4' o5', r = .nx [some (il ds), some (il ws'), o2, o3, o4', o5', o6] ∧ Row2 ws') ⟨ws, o4, o5, rfl, h⟩ ?_ (fun ρ ⟨ws, o4, o5, e, h⟩ => ⟨ws, o4, o5, by rw [e], h⟩)
  rintro i d ρ _ ⟨ws, o4, o5, rfl, h⟩
  obtain ⟨a, b, et, a1, a2, b1, b2⟩ := r_tie (k := k) h
  have hs : safeR false (R.ok (D.tup [.int a, .int b])) = .ok (.tup [.int a, .int b]) := rfl
  have hln := len_il ws
  by_cases c1 : (12 : Int) ≤ ws.length
  · refine .inr (.inl ⟨[some (il ds), some (il ws), o2, o3, some d, some (.tup [.int a, .int b]), o6], ?_, ws, _, _, rfl, h⟩)
    simp only [b15_4, turn_nm, List.set_cons_succ, List.set_cons_zero, evSsq_cons, evSq_set, evq_callB, evsq_cons, evsq_nil, evq_var, getV_succ, getV_zero, R.bind_ok, et, hs, SR.of_ok, setT_nm, oS_some, andS_nx, evSq_ite, evq_or, evq_cmp, evq_blt, hln, evq_c, cmpD_ge, c1, decide_true, tBool_bl, if_true, brD_bl, evSq_brk, andS_bk]
  · by_cases c2 : b = 1
    · subst c2
      by_cases c3 : (999 : Int) < a
      · refine .inr (.inl ⟨[some (il ds), some (il ws), o2, o3, some d, some (.tup [.int a, .int 1]), o6], ?_, ws, _, _, rfl, h⟩)
        simp only [b15_4, turn_nm, List.set_cons_succ, List.set_cons_zero, evSsq_cons, evSq_set, evq_callB, evsq_cons, evsq_nil, evq_var, getV_succ, getV_zero, R.bind_ok, et, hs, SR.of_ok, setT_nm, oS_some, andS_nx, evSq_ite, evq_or, evq_cmp, evq_blt, hln, evq_c, cmpD_ge, c1, decide_false, tBool_bl, Bool.false_eq_true, if_false, evq_ix, tie_ix0, tie_ix1, cmpD_ne, eq_self, decide_true, Bool.not_true, cmpD_gt, c3, brD_bl, if_true, evSq_brk, andS_bk]
      · refine .inl ⟨[some (il ds), some (il (ws ++ [a])), o2, o3, some d, some (.tup [.int a, .int 1]), o6], .inl ?_, ws ++ [a], _, _, rfl, h.snoc (by omega) (by omega) (by omega)⟩
        have hl := il_app (l := ws) (x := a) (by omega)
        simp only [b15_4, turn_nm, List.set_cons_succ, List.set_cons_zero, evSsq_cons, evSq_set, evq_callB, evsq_cons, evsq_nil, evq_var, getV_succ, getV_zero, R.bind_ok, et, hs, SR.of_ok, setT_nm, oS_some, andS_nx, evSq_ite, evq_or, evq_cmp, evq_blt, hln, evq_c, cmpD_ge, c1, decide_false, tBool_bl, Bool.false_eq_true, if_false, evq_ix, tie_ix0, tie_ix1, cmpD_ne, eq_self, decide_true, Bool.not_true, cmpD_gt, c3, brD_bl, evSsq_nil, evSq_app, List.getElem?_cons_succ, List.getElem?_cons_zero, appL_il, hl, if_true, il_snoc]
    · refine .inr (.inl ⟨[some (il ds), some (il ws), o2, o3, some d, some (.tup [.int a, .int b]), o6], ?_, ws, _, _, rfl, h⟩)
      simp only [b15_4, turn_nm, List.set_cons_succ, List.set_cons_zero, evSsq_cons, evSq_set, evq_callB, evsq_cons, evsq_nil, evq_var, getV_succ, getV_zero, R.bind_ok, et, hs, SR.of_ok, setT_nm, oS_some, andS_nx, evSq_ite, evq_or, evq_cmp, evq_blt, hln, evq_c, cmpD_ge, c1, decide_false, tBool_bl, Bool.false_eq_true, if_false, evq_ix, tie_ix0, tie_ix1, cmpD_ne, c2, Bool.not_false, if_true, brD_bl, evSq_brk, andS_bk]
end K28a
set_option Elab.async false
set_option linter.all false
set_option maxRecDepth 100000
set_option maxHeartbeats 2000000
namespace K28a
open PySem Pv
variable {k : Nat}

theorem pl_loop2 {ds : List Int} {o2 o3 o4 o5 o6 : Option D} {n : Nat} (hds : Dg szP ds) (hn : n ≤ 3) {ws : List Int} (h : Row2 ws) : ∃ ws' o4', forL (turn (run T k) (.nm 4) b15_5) (rngD 0 (n : Int)) [some (il ds), some (il ws), o2, o3, o4, o5, o6] = .nx [some (il ds), some (il ws'), o2, o3, o4', o5, o6] ∧ Row2 ws' := by
  obtain ⟨ρ', e, ws', o4', rfl, h'⟩ := forL_nx (f := turn (run T k) (.nm 4) b15_5) (l := rngD 0 (n : Int)) (fun _ ρ => ∃ ws o4, ρ = [some (il ds), some (il ws), o2, o3, o4, o5, o6] ∧ Row2 ws) (ρ0 := [some (il ds), some (il ws), o2, o3, o4, o5, o6]) ⟨ws, o4, rfl, h⟩ (by
    rintro i d ρ hd ⟨ws, o4, rfl, h⟩
    obtain ⟨rfl, hlt⟩ := rngD_get hd
    rw [Int.zero_add] at hlt ⊢
    have hs : szP[11 + i]? = some 100 := by
      have : i = 0 ∨ i = 1 ∨ i = 2 := by omega
      rcases this with rfl | rfl | rfl <;> rfl
    obtain ⟨a, ea, a1, a2⟩ := hds.get hs
    have ja : ixD (il ds) (.int (11 + (i : Int))) = .ok (.int a) := by
      have := il_ix ea
      rw [show ((11 + i : Nat) : Int) = 11 + (i : Int) by omega] at this
      exact this
    have hln := len_il ws
    by_cases c : (ws.length : Int) < 12
    · refine ⟨[some (il ds), some (il (ws ++ [900 + a])), o2, o3, some (.int i), o5, o6], ?_, ws ++ [900 + a], _, rfl, h.snoc (by omega) (by omega) (by omega)⟩
      have hl := il_app (l := ws) (x := a) (by omega)
      simp only [b15_5, turn_nm, List.set_cons_succ, List.set_cons_zero, evSsq_cons, evSq_ite, evq_cmp, evq_blt, evsq_cons, evsq_nil, evq_var, getV_succ, getV_zero, R.bind_ok, hln, evq_c, cmpD_lt, c, decide_true, SR.of_ok, brD_bl, if_true, evSq_app, List.getElem?_cons_succ, List.getElem?_cons_zero, appL_il, evq_bin, evq_ix, binD_add, ja, hl, il_snoc, andS_nx, evSsq_nil]
    · refine ⟨[some (il ds), some (il ws), o2, o3, some (.int i), o5, o6], ?_, ws, _, rfl, h⟩
      simp only [b15_5, turn_nm, List.set_cons_succ, List.set_cons_zero, evSsq_cons, evSq_ite, evq_cmp, evq_blt, evsq_cons, evsq_nil, evq_var, getV_succ, getV_zero, R.bind_ok, hln, evq_c, cmpD_lt, c, decide_false, SR.of_ok, brD_bl, Bool.false_eq_true, if_false, evSsq_nil, andS_nx])
  exact ⟨ws', o4', e, h'⟩
theorem last_ix {ws : List Int} (h : 0 < ws.length) : ∃ x, ixD (il ws) (.int (-1)) = .ok (.int x) ∧ x ∈ ws ∧ L2.ixN (ws.map D.int).length (-1) = some (ws.length - 1) := by
  have hi : ws.length - 1 < ws.length := by omega
  have e2 : L2.ixN (ws.map D.int).length (-1) = some (ws.length - 1) := by
    unfold L2.ixN
    rw [List.length_map, if_neg (by omega), if_pos (by omega)]
    congr 1
    omega
  refine ⟨ws[ws.length - 1], ?_, List.getElem_mem _, e2⟩
  show (match L2.atI (ws.map D.int) (-1) with | some d => R.ok d | none => .bad) = _
  have e : L2.atI (ws.map D.int) (-1) = some (.int ws[ws.length - 1]) := by
    unfold L2.atI
    rw [e2, Option.bind_some, List.getElem?_map, List.getElem?_eq_getElem hi]
    rfl
  rw [e]
theorem Row2.set {ws : List Int} {x : Int} {i : Nat} (h : Row2 ws) (h1 : 1 ≤ x) (h2 : x ≤ 999) : Row2 (ws.set i x) := by
  refine ⟨by rw [List.length_set]; exact h.pos, by rw [List.length_set]; exact h.len, fun w hw => ?_⟩
  rcases List.mem_or_eq_of_mem_set hw with hw | rfl
  · exact h.bd w hw
  · exact ⟨h1, h2⟩
theorem il_set (l : List Int) (i : Nat) (x : Int) : D.lst ((l.map D.int).set i (.int x)) = il (l.set i x) := by
  unfold il
  rw [List.map_set]
theorem r_planted {ds : List Int} (hds : Dg szP ds) : ∃ ws, run T (k + 3) 15 [il ds] = .ok (il ws) ∧ Row ws := by
  rw [run_fn (fi := fi15) rfl rfl]
  obtain ⟨d0, g0, a0, z0⟩ := hds.get (i := 0) (s := 2) rfl
  obtain ⟨d1, g1, a1, z1⟩ := hds.get (i := 1) (s := 6) rfl
  obtain ⟨d2, g2, a2, z2⟩ := hds.get (i := 2) (s := 10) rfl
  obtain ⟨d7, g7, a7, z7⟩ := hds.get (i := 7) (s := 3) rfl
  obtain ⟨d8, g8, a8, z8⟩ := hds.get (i := 8) (s := 9) rfl
  obtain ⟨d9, g9, a9, z9⟩ := hds.get (i := 9) (s := 6) rfl
  obtain ⟨dT, gT, aT, zT⟩ := hds.get (i := 10) (s := 6) rfl
  have i0 : ixD (il ds) (.int 0) = .ok (.int d0) := il_ix (i := 0) g0
  have i1 : ixD (il ds) (.int 1) = .ok (.int d1) := il_ix (i := 1) g1
  have i2 : ixD (il ds) (.int 2) = .ok (.int d2) := il_ix (i := 2) g2
  have i7 : ixD (il ds) (.int 7) = .ok (.int d7) := il_ix (i := 7) g7
  have i8 : ixD (il ds) (.int 8) = .ok (.int d8) := il_ix (i := 8) g8
  have i9 : ixD (il ds) (.int 9) = .ok (.int d9) := il_ix (i := 9) g9
  have iT : ixD (il ds) (.int 10) = .ok (.int dT) := il_ix (i := 10) gT
  obtain ⟨n1, rfl⟩ := Int.eq_ofNat_of_zero_le a1
  obtain ⟨n7, rfl⟩ := Int.eq_ofNat_of_zero_le a7
  obtain ⟨n8, rfl⟩ := Int.eq_ofNat_of_zero_le a8
  have z6 : ∀ a b c d e f : D, (lenOk [a, b, c, d, e, f].length) = true := fun _ _ _ _ _ _ => rfl
  obtain ⟨s, es, s1, s2⟩ : ∃ s : Int, ixD (.lst [.int 1, .int 1, .int 3, .int 2, .int 5, .int 3]) (.int (n1 : Int)) = .ok (.int s) ∧ 1 ≤ s ∧ s ≤ 5 := by
    have : n1 = 0 ∨ n1 = 1 ∨ n1 = 2 ∨ n1 = 3 ∨ n1 = 4 ∨ n1 = 5 := by omega
    rcases this with rfl | rfl | rfl | rfl | rfl | rfl
    · exact ⟨1, rfl, by omega, by omega⟩
    · exact ⟨1, rfl, by omega, by omega⟩
    · exact ⟨3, rfl, by omega, by omega⟩
    · exact ⟨2, rfl, by omega, by omega⟩
    · exact ⟨5, rfl, by omega, by omega⟩
    · exact ⟨3, rfl, by omega, by omega⟩
  have hm : binD .mul (.int (1 + d2)) (.int s) = .ok (.int ((1 + d2) * s)) := mul_small (by omega) (by omega)
  have hb1 : 1 * 1 ≤ (1 + d2) * s := Int.mul_le_mul (by omega) s1 (by omega) (by omega)
  have hb2 : (1 + d2) * s ≤ 10 * 5 := Int.mul_le_mul (by omega) s2 (by omega) (by omega)
  -- the first row
  obtain ⟨w1, c1, l1, b1⟩ := lc_rng (cl := run T (k + 2)) (elt := e15_1) (i := 4) (ρ := [some (il ds), none, none, none, none, none, none]) (n := 2 + n1) (lo := 1) (hi := 999) (fun j _ => ⟨(1 + d2) * s, by
    simp only [e15_1, evq_bin, evq_c, evq_ix, evq_lst, evsq_cons, evsq_nil, evq_var, List.set_cons_succ, List.set_cons_zero, getV_zero, R.bind_ok, i1, i2, binD_add, z6, if_true, es, hm], by omega, by omega⟩) (by omega)
  have R1 : Row2 w1 := ⟨by omega, by omega, b1⟩
  have r1 : rngIt (.int 0) (.int (2 + (n1 : Int))) = .ok (rngD 0 ((2 + n1 : Nat) : Int)) := by
    rw [show (2 + (n1 : Int)) = ((2 + n1 : Nat) : Int) by omega]
    exact rngIt_ok (by omega) (by omega) (by omega) (by omega)
  -- the second
  have st2 : ∃ w2 o2 o3 o4 o6, evS (run T (k + 2)) (.ite (.cmp .eq (.ix (.var 0) (.c (.int 0))) (.c (.int 1))) (.cons (.set (.nm 2) (.lc e15_2 (.nm 4) (.rng (.c (.int 0)) (.bin .add (.c (.int 2)) (.ix (.var 0) (.c (.int 7))))) (.nil) [4])) (.cons (.set (.nm 3) (.ix (.call 14 (.cons (.var 2) (.nil))) (.c (.int 1)))) (.cons (.ite (.cmp .le (.bin .mul (.c (.int 6)) (.var 3)) (.c (.int 999))) (.cons (.setO 1 (.lc e15_3 (.nm 6) (.seq (.var 2)) (.nil) [6])) (.nil)) (.nil)) (.nil)))) (.nil)) [some (il ds), some (il w1), none, none, none, none, none] = .nx [some (il ds), some (il w2), o2, o3, o4, none, o6] ∧ Row2 w2 := by
    by_cases c : d0 = 1
    · obtain ⟨sm, cs, ls, bs⟩ := lc_rng (cl := run T (k + 2)) (elt := e15_2) (i := 4) (ρ := [some (il ds), some (il w1), none, none, none, none, none]) (n := 2 + n7) (lo := 1) (hi := 6) (fun j hj => by
        have hs : szP[3 + j]? = some 6 := by
          have : j = 0 ∨ j = 1 ∨ j = 2 ∨ j = 3 := by omega
          rcases this with rfl | rfl | rfl | rfl <;> rfl
        obtain ⟨x, ex, x1, x2⟩ := hds.get hs
        have jx : ixD (il ds) (.int (3 + (j : Int))) = .ok (.int x) := by
          have := il_ix ex
          rw [show ((3 + j : Nat) : Int) = 3 + (j : Int) by omega] at this
          exact this
        refine ⟨1 + x, ?_, by omega, by omega⟩
        simp only [e15_2, evq_bin, evq_c, evq_ix, evq_var, List.set_cons_succ, List.set_cons_zero, getV_succ, getV_zero, R.bind_ok, binD_add, jx]) (by omega)
      have Rs : Row2 sm := ⟨by omega, by omega, fun w hw => by obtain ⟨x, y⟩ := bs w hw; omega⟩
      obtain ⟨ta, tb, et, _, _, tb1, tb2⟩ := r_tie (k := k) Rs
      have r7 : rngIt (.int 0) (.int (2 + (n7 : Int))) = .ok (rngD 0 ((2 + n7 : Nat) : Int)) := by
        rw [show (2 + (n7 : Int)) = ((2 + n7 : Nat) : Int) by omega]
        exact rngIt_ok (by omega) (by omega) (by omega) (by omega)
      have m6 : binD .mul (.int 6) (.int tb) = .ok (.int (6 * tb)) := mul_small (by omega) (by omega)
      by_cases c6 : 6 * tb ≤ 999
      · have e3 := lc_int (cl := run T (k + 2)) (elt := e15_3) (i := 6) (ρ := [some (il ds), some (il w1), some (il sm), some (.int tb), none, none, none]) (l := sm) (fun w => w * tb) (fun x hx => by
          obtain ⟨x1, x2⟩ := bs x hx
          have hx : binD .mul (.int x) (.int tb) = .ok (.int (x * tb)) := mul_small (by omega) (by omega)
          simp only [e15_3, evq_bin, evq_var, List.set_cons_succ, List.set_cons_zero, getV_succ, getV_zero, R.bind_ok, hx]) (by omega)
        refine ⟨sm.map fun w => w * tb, some (il sm), some (.int tb), none, none, ?_, by rw [List.length_map]; omega, by rw [List.length_map]; omega, fun w hw => ?_⟩
        · have ho : isO (il (sm.map fun w => w * tb)) = true := rfl
          simp only [evSq_ite, evq_cmp, evq_ix, evq_var, getV_zero, R.bind_ok, evq_c, i0, cmpD_eq, c, decide_true, SR.of_ok, brD_bl, if_true, evSsq_cons, evSq_set, evq_lc, evItq_rng, evq_bin, i7, binD_add, r7, cs, setT_nm, oS_some, List.set_cons_succ, List.set_cons_zero, andS_nx, evq_call, evsq_cons, evsq_nil, getV_succ, et, tie_ix1, m6, cmpD_le, c6, evSq_setO, evItq_seq, seq_il, e3, ho, evSsq_nil]
        · obtain ⟨x, hx, rfl⟩ := List.mem_map.mp hw
          obtain ⟨x1, x2⟩ := bs x hx
          have y1 : 1 * 1 ≤ x * tb := Int.mul_le_mul x1 tb1 (by omega) (by omega)
          have y2 : x * tb ≤ 6 * tb := Int.mul_le_mul_of_nonneg_right x2 (by omega)
          exact ⟨by omega, by omega⟩
      · refine ⟨w1, some (il sm), some (.int tb), none, none, ?_, R1⟩
        simp only [evSq_ite, evq_cmp, evq_ix, evq_var, getV_zero, R.bind_ok, evq_c, i0, cmpD_eq, c, decide_true, SR.of_ok, brD_bl, if_true, evSsq_cons, evSq_set, evq_lc, evItq_rng, evq_bin, i7, binD_add, r7, cs, setT_nm, oS_some, List.set_cons_succ, List.set_cons_zero, andS_nx, evq_call, evsq_cons, evsq_nil, getV_succ, et, tie_ix1, m6, cmpD_le, c6, decide_false, Bool.false_eq_true, if_false, evSsq_nil]
    · refine ⟨w1, none, none, none, none, ?_, R1⟩
      simp only [evSq_ite, evq_cmp, evq_ix, evq_var, getV_zero, R.bind_ok, evq_c, i0, cmpD_eq, c, decide_false, SR.of_ok, brD_bl, Bool.false_eq_true, if_false, evSsq_nil]
  obtain ⟨w2, o2, o3, o4, o6, e2, R2⟩ := st2
  -- the third
  obtain ⟨w3, o4', o5', e3, R3⟩ := pl_loop1 (k := k) (ds := ds) (o2 := o2) (o3 := o3) (o4 := o4) (o5 := none) (o6 := o6) (rngD 0 ((1 + n8 : Nat) : Int)) R2
  have r8 : rngIt (.int 0) (.int (1 + (n8 : Int))) = .ok (rngD 0 ((1 + n8 : Nat) : Int)) := by
    rw [show (1 + (n8 : Int)) = ((1 + n8 : Nat) : Int) by omega]
    exact rngIt_ok (by omega) (by omega) (by omega) (by omega)
  -- the fourth
  have st4 : ∃ w4, evS (run T (k + 2)) (.ite (.and (.cmp .ge (.ix (.var 0) (.c (.int 9))) (.c (.int 4))) (.chain .lt .lt (.c (.int 1)) (.ix (.var 1) (.neg (.c (.int 1)))) (.c (.int 999)))) (.cons (.setIx 1 (.neg (.c (.int 1))) (.bin .sub (.bin .add (.ix (.var 1) (.neg (.c (.int 1)))) (.bin .mul (.c (.int 2)) (.ix (.var 0) (.c (.int 9))))) (.c (.int 9)))) (.nil)) (.nil)) [some (il ds), some (il w3), o2, o3, o4', o5', o6] = .nx [some (il ds), some (il w4), o2, o3, o4', o5', o6] ∧ Row2 w4 := by
    obtain ⟨x, ex, hx, en⟩ := last_ix (ws := w3) (by have := R3.pos; omega)
    have ng : negD (.int 1) = .ok (.int (-1)) := rfl
    have m9 : binD .mul (.int 2) (.int d9) = .ok (.int (2 * d9)) := mul_small (by omega) (by omega)
    by_cases c9 : (4 : Int) ≤ d9
    · by_cases cx : 1 < x
      · by_cases cy : x < 999
        · refine ⟨w3.set (w3.length - 1) (x + 2 * d9 - 9), ?_, R3.set (by omega) (by omega)⟩
          have es : setIxL (some (some (il w3))) (.ok (.int (x + 2 * d9 - 9))) (.ok (.int (-1))) [some (il ds), some (il w3), o2, o3, o4', o5', o6] 1 = .nx [some (il ds), some (il (w3.set (w3.length - 1) (x + 2 * d9 - 9))), o2, o3, o4', o5', o6] := by
            show (match L2.ixN (w3.map D.int).length (-1) with
              | some n => SR.nx (List.set [some (il ds), some (il w3), o2, o3, o4', o5', o6] 1 (some (.lst ((w3.map D.int).set n (.int (x + 2 * d9 - 9))))))
              | none => .bad) = _
            rw [en]
            show SR.nx [some (il ds), some (D.lst ((w3.map D.int).set (w3.length - 1) (.int (x + 2 * d9 - 9)))), o2, o3, o4', o5', o6] = _
            rw [il_set]
          simp only [evSq_ite, evq_and, evq_cmp, evq_ix, evq_var, getV_zero, getV_succ, R.bind_ok, evq_c, i9, cmpD_ge, c9, decide_true, tBool_bl, if_true, evq_chain, evq_neg, ng, ex, cmpD_lt, cx, cy, SR.of_ok, brD_bl, evSsq_cons, evSq_setIx, List.getElem?_cons_succ, List.getElem?_cons_zero, evq_bin, m9, binD_add, binD_sub, es, andS_nx, evSsq_nil]
        · refine ⟨w3, ?_, R3⟩
          simp only [evSq_ite, evq_and, evq_cmp, evq_ix, evq_var, getV_zero, getV_succ, R.bind_ok, evq_c, i9, cmpD_ge, c9, decide_true, tBool_bl, if_true, evq_chain, evq_neg, ng, ex, cmpD_lt, cx, cy, decide_false, SR.of_ok, brD_bl, Bool.false_eq_true, if_false, evSsq_nil]
      · refine ⟨w3, ?_, R3⟩
        simp only [evSq_ite, evq_and, evq_cmp, evq_ix, evq_var, getV_zero, getV_succ, R.bind_ok, evq_c, i9, cmpD_ge, c9, decide_true, tBool_bl, if_true, evq_chain, evq_neg, ng, ex, cmpD_lt, cx, decide_false, SR.of_ok, brD_bl, Bool.false_eq_true, if_false, evSsq_nil]
    · refine ⟨w3, ?_, R3⟩
      simp only [evSq_ite, evq_and, evq_cmp, evq_ix, evq_var, getV_zero, getV_succ, R.bind_ok, evq_c, i9, cmpD_ge, c9, decide_false, tBool_bl, Bool.false_eq_true, if_false, SR.of_ok, brD_bl, evSsq_nil]
  obtain ⟨w4, e4, R4⟩ := st4
  -- the last
  have hmx : blD .max2 [.int 0, .int (dT - 2)] = .ok (.int ((dT - 2).toNat : Nat)) := by
    show R.ok (D.int (if dT - 2 > 0 then dT - 2 else 0)) = _
    have e : (if dT - 2 > 0 then dT - 2 else 0) = (((dT - 2).toNat : Nat) : Int) := by
      split <;> omega
    rw [e]
  obtain ⟨w5, o4'', e5, R5⟩ := pl_loop2 (k := k + 2) (o2 := o2) (o3 := o3) (o4 := o4') (o5 := o5') (o6 := o6) (n := (dT - 2).toNat) hds (by omega) R4
  have rT : rngIt (.int 0) (.int ((dT - 2).toNat : Nat)) = .ok (rngD 0 (((dT - 2).toNat : Nat) : Int)) := rngIt_ok (by omega) (by omega) (by omega) (by omega)
  refine ⟨w5, ?_, R5.row⟩
  have hst : startE 7 [il ds] = [some (il ds), none, none, none, none, none, none] := rfl
  have ho : isO (il w1) = true := rfl
  have hcl : evS (run T (k + 2)) (.setO 1 (.lc e15_1 (.nm 4) (.rng (.c (.int 0)) (.bin .add (.c (.int 2)) (.ix (.var 0) (.c (.int 1))))) (.nil) [4])) [some (il ds), none, none, none, none, none, none] = .nx [some (il ds), some (il w1), none, none, none, none, none] := by
    simp only [evSq_setO, evq_lc, evItq_rng, evq_c, evq_bin, evq_ix, evq_var, getV_zero, R.bind_ok, i1, binD_add, r1, c1, SR.of_ok, ho, if_true, List.set_cons_succ, List.set_cons_zero]
  have f3 : evS (run T (k + 2)) (.for_ (.nm 4) (.rng (.c (.int 0)) (.bin .add (.c (.int 1)) (.ix (.var 0) (.c (.int 8))))) b15_4) [some (il ds), some (il w2), o2, o3, o4, none, o6] = .nx [some (il ds), some (il w3), o2, o3, o4', o5', o6] := by
    simp only [evSq_for, evItq_rng, evq_c, evq_bin, evq_ix, evq_var, getV_zero, R.bind_ok, i8, binD_add, r8, forR_ok, e3]
  have f5 : evS (run T (k + 2)) (.for_ (.nm 4) (.rng (.c (.int 0)) (.blt .max2 (.cons (.c (.int 0)) (.cons (.bin .sub (.ix (.var 0) (.c (.int 10))) (.c (.int 2))) (.nil))))) b15_5) [some (il ds), some (il w4), o2, o3, o4', o5', o6] = .nx [some (il ds), some (il w5), o2, o3, o4'', o5', o6] := by
    simp only [evSq_for, evItq_rng, evq_c, evq_blt, evsq_cons, evsq_nil, evq_bin, evq_ix, evq_var, getV_zero, R.bind_ok, iT, binD_sub, hmx, rT, forR_ok, e5]
  show finish (evSs (run T (k + 2)) t15 (startE 7 [il ds])) = _
  rw [hst, t15, evSsq_cons, hcl, andS_nx, evSsq_cons, e2, andS_nx, evSsq_cons, f3, andS_nx, evSsq_cons, e4, andS_nx, evSsq_cons, f5, andS_nx]
  simp only [evSsq_cons, evSq_ret, evq_var, getV_succ, getV_zero, SR.of_ok, andS_rt, finish_rt]
end K28a
set_option Elab.async false
set_option linter.all false
set_option maxRecDepth 100000
set_option maxHeartbeats 2000000
namespace K28a
open PySem Pv
variable {k : Nat}

theorem cut_lo {l : List Int} {p : Nat} (hp : p ≤ l.length) : slV (il l) none (some (p : Int)) = .ok (il (l.take p)) := by
  show R.ok (D.lst (((l.map D.int).drop (HT.sIx (l.map D.int).length 0 none)).take (HT.sIx (l.map D.int).length (l.map D.int).length (some (p : Int)) - HT.sIx (l.map D.int).length 0 none))) = _
  have e1 : HT.sIx (l.map D.int).length 0 none = 0 := rfl
  have e2 : HT.sIx (l.map D.int).length (l.map D.int).length (some (p : Int)) = p := by
    rw [HT.sIx_nat, List.length_map]
    omega
  rw [e1, e2]
  unfold il
  rw [List.drop_zero, Nat.sub_zero, List.map_take]
theorem cut_hi {l : List Int} {p : Nat} (hp : p ≤ l.length) : slV (il l) (some (p : Int)) none = .ok (il (l.drop p)) := by
  show R.ok (D.lst (((l.map D.int).drop (HT.sIx (l.map D.int).length 0 (some (p : Int)))).take (HT.sIx (l.map D.int).length (l.map D.int).length none - HT.sIx (l.map D.int).length 0 (some (p : Int))))) = _
  have e1 : HT.sIx (l.map D.int).length (l.map D.int).length none = (l.map D.int).length := rfl
  have e2 : HT.sIx (l.map D.int).length 0 (some (p : Int)) = p := by
    rw [HT.sIx_nat, List.length_map]
    omega
  rw [e1, e2]
  unfold il
  rw [List.map_drop, List.take_of_length_le (by rw [List.length_drop]; omega)]
theorem r_turned {ws ds : List Int} (hR : Row ws) (hd : ds.length = 12) (hp : ∀ d ∈ ds, 0 ≤ d) : ∃ tl, run T (k + 1) 17 [il ws, il ds] = .ok (il tl) ∧ Row tl := by
  rw [run_fn (fi := fi17) rfl rfl]
  have h12 := hR.len
  obtain ⟨ρ', e, tl, o3, o4, rfl, t1, t2⟩ := forL_nx (f := turn (run T k) (.nm 3) b17_1) (l := rngD 0 (ws.length : Int)) (fun i ρ => ∃ (tl : List Int) (o3 o4 : Option D), ρ = [some (il ws), some (il ds), some (il tl), o3, o4] ∧ tl.length = i ∧ ∀ w ∈ tl, w ∈ ws)
    (ρ0 := [some (il ws), some (il ds), some (il []), none, none]) ⟨[], none, none, rfl, rfl, by simp⟩ (by
      rintro i d ρ hd' ⟨tl, o3, o4, rfl, t1, t2⟩
      obtain ⟨rfl, hlt⟩ := rngD_get hd'
      rw [Int.zero_add] at hlt ⊢
      have hi : i < ws.length := by omega
      have hid : i < ds.length := by omega
      have jw : ixD (il ws) (.int (i : Int)) = .ok (.int ws[i]) := il_ix (List.getElem?_eq_getElem hi)
      have jd : ixD (il ds) (.int (i : Int)) = .ok (.int ds[i]) := il_ix (List.getElem?_eq_getElem hid)
      have d0 := hp ds[i] (List.getElem_mem _)
      have m0 := Int.emod_nonneg ds[i] (show ((tl.length : Int) + 1) ≠ 0 by omega)
      have m1 := Int.emod_lt_of_pos ds[i] (show (0 : Int) < (tl.length : Int) + 1 by omega)
      obtain ⟨p, hpp⟩ := Int.eq_ofNat_of_zero_le m0
      have mo : binD .mod (.int ds[i]) (.int ((tl.length : Int) + 1)) = .ok (.int (p : Int)) := by rw [mod_ok (by omega), hpp]
      have hpl : p ≤ tl.length := by
        have : (p : Int) < (tl.length : Int) + 1 := by
          have := m1; rw [hpp] at this; exact this
        omega
      have z1 : ∀ x : D, (lenOk [x].length) = true := fun _ => rfl
      have one1 : D.lst [.int ws[i]] = il [ws[i]] := rfl
      have a1 : binD .add (il (tl.take p)) (il [ws[i]]) = .ok (il (tl.take p ++ [ws[i]])) := cat_ok (by rw [List.length_take, List.length_singleton]; omega)
      have a2 : binD .add (il (tl.take p ++ [ws[i]])) (il (tl.drop p)) = .ok (il (tl.take p ++ [ws[i]] ++ tl.drop p)) := cat_ok (by rw [List.length_append, List.length_take, List.length_singleton, List.length_drop]; omega)
      refine ⟨[some (il ws), some (il ds), some (il (tl.take p ++ [ws[i]] ++ tl.drop p)), some (.int i), some (.int (p : Int))], ?_, _, _, _, rfl, ?_, fun w hw => ?_⟩
      · simp only [b17_1, turn_nm, List.set_cons_succ, List.set_cons_zero, evSsq_cons, evSq_set, evq_bin, evq_blt, evsq_cons, evsq_nil, evq_ix, evq_var, getV_succ, getV_zero, R.bind_ok, jd, blD_int, len_il, evq_c, binD_add, mo, SR.of_ok, setT_nm, oS_some, andS_nx, evq_sl, partD_non, partD_int, oR_some, cut_lo hpl, evq_lst, jw, z1, if_true, one1, a1, cut_hi hpl, a2, evSsq_nil]
      · rw [List.length_append, List.length_append, List.length_take, List.length_singleton, List.length_drop]; omega
      · rcases List.mem_append.mp hw with hw | hw
        · rcases List.mem_append.mp hw with hw | hw
          · exact t2 w (List.mem_of_mem_take hw)
          · cases List.mem_singleton.mp hw
            exact List.getElem_mem _
        · exact t2 w (List.mem_of_mem_drop hw))
  rw [rngD_len] at t1
  have hr : rngIt (.int 0) (.int (ws.length : Int)) = .ok (rngD 0 (ws.length : Int)) := rngIt_ok (by omega) (by omega) (by omega) (by omega)
  have hst : startE 5 [il ws, il ds] = [some (il ws), some (il ds), none, none, none] := rfl
  have z0 : (lenOk ([] : List D).length) = true := rfl
  have n0 : D.lst [] = il [] := rfl
  have h0 := hR.pos
  refine ⟨tl, ?_, by omega, by omega, fun w hw => hR.bd w (t2 w hw)⟩
  simp only [fi17, t17, hst, evSsq_cons, evSq_set, evq_lst, evsq_nil, R.bind_ok, z0, if_true, n0, SR.of_ok, setT_nm, oS_some, List.set_cons_succ, List.set_cons_zero, andS_nx, evSq_for, evItq_rng, evq_c, evq_blt, evsq_cons, evq_var, getV_zero, getV_succ, len_il, hr, forR_ok, e, evSq_ret, andS_rt, finish_rt]
end K28a
set_option Elab.async false
set_option linter.all false
set_option maxRecDepth 100000
set_option maxHeartbeats 4000000
namespace K28a
open PySem Pv
variable {k : Nat}

theorem rep_il {l : List Int} {n : Nat} (h : l.length * n ≤ 1000) (hn : n ≤ 1000) : repD (il l) (.int (n : Int)) = .ok (il (List.replicate n l).flatten) := by
  have e1 : ((n : Int)).toNat = n := Int.toNat_natCast n
  have hlen : lenOk ((l.map D.int).length * ((n : Int)).toNat) = true := decide_eq_true (by rw [e1, List.length_map]; exact Nat.le_trans h (by decide))
  show (if lenOk ((l.map D.int).length * ((n : Int)).toNat) && (decide (-(2 ^ 63) ≤ (n : Int)) && decide ((n : Int) < 2 ^ 63)) then R.ok (D.lst (List.replicate ((n : Int)).toNat (l.map D.int)).flatten) else R.bad) = _
  rw [if_pos (by
    rw [hlen, Bool.true_and, Bool.and_eq_true]
    exact ⟨decide_eq_true (by omega), decide_eq_true (by omega)⟩), e1]
  unfold il
  rw [List.map_flatten, List.map_replicate]
def szD : List Int := [3, 2, 6, 10, 6, 6, 6, 6, 3, 9, 6, 6, 100, 100, 100]
def szT : List Int := [13, 13, 13, 13, 13, 13, 13, 13, 13, 13, 13, 13]
def szM : List Int := [2, 12, 2, 998]
theorem dig {c : Int} {sizes : List Int} (hz : ∀ s ∈ sizes, 0 < s ∧ s < 18446744073709551616) (hl : sizes.length ≤ 1000) : ∃ ds, run T (k + 1) 11 [.int c, il sizes] = .ok (il ds) ∧ Dg sizes ds := by
  obtain ⟨ds, e, h1, h2⟩ := run_digits (T := T) (f := 11) (fi := fi11) (k := k) rfl rfl rfl rfl c sizes hz hl
  exact ⟨ds, e, h1, h2⟩
theorem Row.set {ws : List Int} {x : Int} {i : Nat} (h : Row ws) (h1 : 1 ≤ x) (h2 : x ≤ 999) : Row (ws.set i x) := ⟨by rw [List.length_set]; exact h.pos, by rw [List.length_set]; exact h.len, fun w hw => by
  rcases List.mem_or_eq_of_mem_set hw with z | rfl
  · exact h.bd w z
  · exact ⟨h1, h2⟩⟩
theorem Dg.tail {sizes ds : List Int} {a s : Int} (h : Dg (s :: sizes) (a :: ds)) : Dg sizes ds := ⟨by have := h.1; simp only [List.length_cons] at this; omega, by have := h.1; simp only [List.length_cons] at this; omega, fun i d z h1 h2 => h.2.2 (i + 1) d z (by rw [List.getElem?_cons_succ]; exact h1) (by rw [List.getElem?_cons_succ]; exact h2)⟩
theorem set_ix {ws : List Int} {i : Nat} {x : Int} {ρ : Pv.Env} {n : Nat} (hi : i < ws.length) : setIxL (some (some (il ws))) (.ok (.int x)) (.ok (.int (i : Int))) ρ n = .nx (ρ.set n (some (il (ws.set i x)))) := by
  have hh : ixD (il ws) (.int (i : Int)) = .ok (.int ws[i]) := il_ix (List.getElem?_eq_getElem hi)
  show (match L2.ixN (ws.map D.int).length (i : Int) with
    | some n' => SR.nx (ρ.set n (some (.lst ((ws.map D.int).set n' (.int x)))))
    | none => .bad) = _
  have en : L2.ixN (ws.map D.int).length (i : Int) = some i := by
    unfold L2.ixN
    rw [List.length_map, if_pos (by omega), if_pos (by omega), Int.toNat_natCast]
  rw [en]
  show SR.nx (ρ.set n (some (D.lst ((ws.map D.int).set i (.int x))))) = _
  rw [il_set]
theorem pure0 (ns : List Int) (hn : ns.length ≤ 63) : run T 41 21 [.lst (ns.map D.int)] = .ok (.bl true) := by
  have cell : ∀ j : Nat, j < 1000 → ∃ c : Int, run T 40 10 [il ns, .int (j : Int)] = .ok (.int c) := fun j hj => run_cell (T := T) (f := 10) (fi := fi10) (k := 39) rfl rfl rfl rfl ns j hj hn
  obtain ⟨c0, ec0⟩ := cell 0 (by omega)
  obtain ⟨c1, ec1⟩ := cell 1 (by omega)
  obtain ⟨c2, ec2⟩ := cell 2 (by omega)
  obtain ⟨c3, ec3⟩ := cell 3 (by omega)
  obtain ⟨d0, ed0, hd0⟩ := dig (k := 39) (c := c0) (sizes := szD) (by decide) (by decide)
  obtain ⟨d1, ed1, hd1⟩ := dig (k := 39) (c := c1) (sizes := szF) (by decide) (by decide)
  obtain ⟨d2, ed2, hd2⟩ := dig (k := 39) (c := c2) (sizes := szT) (by decide) (by decide)
  obtain ⟨d3, ed3, hd3⟩ := dig (k := 39) (c := c3) (sizes := szM) (by decide) (by decide)
  obtain ⟨w0, ew0, hw0⟩ := r_free (k := 39) hd1
  obtain ⟨a, ds, rfl⟩ : ∃ a ds, d0 = a :: ds := by
    cases d0 with
    | nil => exact absurd hd0.1 (by decide)
    | cons a ds => exact ⟨a, ds, rfl⟩
  have hds : Dg szP ds := Dg.tail hd0
  obtain ⟨w1, ew1, hw1⟩ := r_planted (k := 37) hds
  -- the row
  obtain ⟨w2, hw2, st2⟩ : ∃ w2, Row w2 ∧ evS (run T 40) (.ite (.cmp .gt (.ix (.var 1) (.c (.int 0))) (.c (.int 0))) (.cons (.set (.nm 2) (.call 15 (.cons (.sl (.var 1) (.c (.int 1)) (.c .non)) (.nil)))) (.nil)) (.nil)) [some (il ns), some (il (a :: ds)), some (il w0), none, none, none, none, none, none, none] = .nx [some (il ns), some (il (a :: ds)), some (il w2), none, none, none, none, none, none, none] := by
    have i0 : ixD (il (a :: ds)) (.int 0) = .ok (.int a) := il_ix (i := 0) rfl
    have sl : slV (il (a :: ds)) (some 1) none = .ok (il ds) := cut_hi (l := a :: ds) (p := 1) (by rw [List.length_cons]; omega)
    by_cases h : 0 < a
    · refine ⟨w1, hw1, ?_⟩
      simp only [evSq_ite, evq_cmp, evq_ix, evq_var, evq_c, getV_zero, getV_succ, R.bind_ok, i0, cmpD_gt, h, decide_true, SR.of_ok, brD_bl, if_true, evSsq_cons, evSq_set, evq_call, evsq_cons, evsq_nil, evq_sl, partD_int, partD_non, oR_some, sl, ew1, setT_nm, oS_some, List.set_cons_succ, List.set_cons_zero, andS_nx, evSsq_nil]
    · refine ⟨w0, hw0, ?_⟩
      simp only [evSq_ite, evq_cmp, evq_ix, evq_var, evq_c, getV_zero, getV_succ, R.bind_ok, i0, cmpD_gt, h, decide_false, SR.of_ok, brD_bl, Bool.false_eq_true, if_false, evSsq_nil]
  obtain ⟨w3, ew3, hw3⟩ := r_turned (k := 39) (ws := w2) (ds := d2) hw2 (by rw [hd2.1]; rfl) (fun d hd => by
    obtain ⟨i, hi, rfl⟩ := List.getElem_of_mem hd
    have hi' : i < szT.length := by rw [← hd2.1]; exact hi
    exact (hd2.2.2 i _ _ (List.getElem?_eq_getElem hi) (List.getElem?_eq_getElem hi')).1)
  -- the other row
  obtain ⟨m0, em0, lm0, um0⟩ := hd3.get (i := 0) (s := 2) rfl
  obtain ⟨m1, em1, lm1, um1⟩ := hd3.get (i := 1) (s := 12) rfl
  obtain ⟨m2, em2, lm2, um2⟩ := hd3.get (i := 2) (s := 2) rfl
  obtain ⟨m3, em3, lm3, um3⟩ := hd3.get (i := 3) (s := 998) rfl
  have jm0 : ixD (il d3) (.int 0) = .ok (.int m0) := il_ix (i := 0) em0
  have jm1 : ixD (il d3) (.int 1) = .ok (.int m1) := il_ix (i := 1) em1
  have jm2 : ixD (il d3) (.int 2) = .ok (.int m2) := il_ix (i := 2) em2
  have jm3 : ixD (il d3) (.int 3) = .ok (.int m3) := il_ix (i := 3) em3
  have z2 : ∀ x y : D, lenOk [x, y].length = true := fun _ _ => rfl
  have mo2 : ∀ x : Int, binD .mod (.int x) (.int 2) = .ok (.int (x % 2)) := fun x => mod_ok (by omega)
  have mo9 : ∀ x : Int, binD .mod (.int x) (.int 999) = .ok (.int (x % 999)) := fun x => mod_ok (by omega)
  obtain ⟨sh, st6⟩ : ∃ sh : Int, evS (run T 40) (.ite (.cmp .eq (.ix (.var 3) (.c (.int 2))) (.c (.int 1))) (.cons (.set (.nm 4) (.ix (.lst (.cons (.c (.int 1)) (.cons (.c (.int 998)) (.nil)))) (.bin .mod (.blt .int (.cons (.ix (.var 3) (.c (.int 3))) (.nil))) (.c (.int 2))))) (.nil)) (.nil)) [some (il ns), some (il (a :: ds)), some (il w3), some (il d3), some (.int (1 + m3)), none, none, none, none, none] = .nx [some (il ns), some (il (a :: ds)), some (il w3), some (il d3), some (.int sh), none, none, none, none, none] := by
    by_cases h : m2 = 1
    · have e : ∃ s : Int, ixD (.lst [.int 1, .int 998]) (.int (m3 % 2)) = .ok (.int s) := by
        rcases Int.emod_two_eq m3 with e | e <;> rw [e]
        · exact ⟨1, rfl⟩
        · exact ⟨998, rfl⟩
      obtain ⟨s, es⟩ := e
      refine ⟨s, ?_⟩
      simp only [evSq_ite, evq_cmp, evq_ix, evq_var, evq_c, getV_zero, getV_succ, R.bind_ok, jm2, cmpD_eq, h, decide_true, SR.of_ok, brD_bl, if_true, evSsq_cons, evSq_set, evq_lst, evsq_cons, evsq_nil, z2, evq_bin, evq_blt, jm3, blD_int, mo2, es, setT_nm, oS_some, List.set_cons_succ, List.set_cons_zero, andS_nx, evSsq_nil]
    · refine ⟨1 + m3, ?_⟩
      simp only [evSq_ite, evq_cmp, evq_ix, evq_var, evq_c, getV_zero, getV_succ, R.bind_ok, jm2, cmpD_eq, h, decide_false, SR.of_ok, brD_bl, Bool.false_eq_true, if_false, evSsq_nil]
  have hl3 := hw3.pos
  have p0 := Int.emod_nonneg m1 (show (w3.length : Int) ≠ 0 by omega)
  have p1 := Int.emod_lt_of_pos m1 (show (0 : Int) < (w3.length : Int) by omega)
  obtain ⟨p, hp⟩ := Int.eq_ofNat_of_zero_le p0
  have hpl : p < w3.length := by rw [hp] at p1; exact Int.ofNat_lt.mp p1
  have mop : binD .mod (.int m1) (.int (w3.length : Int)) = .ok (.int (p : Int)) := by rw [mod_ok (by omega), hp]
  have jw : ixD (il w3) (.int (p : Int)) = .ok (.int w3[p]) := il_ix (List.getElem?_eq_getElem hpl)
  have q0 := Int.emod_nonneg (w3[p] - 1 + sh) (show (999 : Int) ≠ 0 by omega)
  have q1 := Int.emod_lt_of_pos (w3[p] - 1 + sh) (show (0 : Int) < 999 by omega)
  have hw4 : Row (w3.set p (1 + (w3[p] - 1 + sh) % 999)) := hw3.set (by omega) (by omega)
  generalize hw4e : w3.set p (1 + (w3[p] - 1 + sh) % 999) = w4 at hw4
  obtain ⟨v3, _, _, b3⟩ := r_best (k := 0) false hw3
  obtain ⟨v4, _, _, b4⟩ := r_best (k := 0) false hw4
  have u3 : run T 40 18 [il w3] = .ok (due w3 v3) := r_due (k := 38) hw3 b3
  have u4 : run T 40 18 [il w4] = .ok (due w4 v4) := r_due (k := 38) hw4 b4
  have g3 : ∀ b, run T 40 19 [il w3, due w3 v3, .bl b] = .ok (.bl true) := fun b => r_right (k := 33) hw3 b3 b
  have g4 : ∀ b, run T 40 19 [il w4, due w4 v4, .bl b] = .ok (.bl true) := fun b => r_right (k := 33) hw4 b4 b
  have ls : blD .list [il w3] = .ok (il w3) := rfl
  have ho : isO (il w3) = true := rfl
  have r24 : repD (il [3, 999]) (.int 12) = .ok (il (List.replicate 12 [3, 999]).flatten) := rep_il (l := [3, 999]) (n := 12) (by decide) (by decide)
  have r13 : repD (il [13]) (.int 12) = .ok (il szT) := rep_il (l := [13]) (n := 12) (by decide) (by decide)
  have c24 : binD .add (il [24]) (il (List.replicate 12 [3, 999]).flatten) = .ok (il szF) := cat_ok (a := [24]) (by decide)
  have f24 : D.lst [D.int 24] = il [24] := rfl
  have f399 : D.lst [D.int 3, D.int 999] = il [3, 999] := rfl
  have f13 : D.lst [D.int 13] = il [13] := rfl
  have fD : D.lst [D.int 3, D.int 2, D.int 6, D.int 10, D.int 6, D.int 6, D.int 6, D.int 6, D.int 3, D.int 9, D.int 6, D.int 6, D.int 100, D.int 100, D.int 100] = il szD := rfl
  have fM : D.lst [D.int 2, D.int 12, D.int 2, D.int 998] = il szM := rfl
  have z : ∀ x : Bool, x = true → x = true := fun _ h => h
  have l1 : lenOk [D.int 24].length = true := rfl
  have l2 : lenOk [D.int 3, D.int 999].length = true := rfl
  have l3 : lenOk [D.int 13].length = true := rfl
  have l4 : lenOk [D.int 3, D.int 2, D.int 6, D.int 10, D.int 6, D.int 6, D.int 6, D.int 6, D.int 3, D.int 9, D.int 6, D.int 6, D.int 100, D.int 100, D.int 100].length = true := rfl
  have l5 : lenOk [D.int 2, D.int 12, D.int 2, D.int 998].length = true := rfl
  have l0 : lenOk ([] : List D).length = true := rfl
  -- the last loop
  have lp : ∀ o9 : Option D, ∃ o9', forL (turn (run T 40) (.nm 9) b21_1) (rngD 0 3) [some (il ns), some (il (a :: ds)), some (il w3), some (il d3), some (.int sh), some (.int (p : Int)), some (il w4), some (due w3 v3), some (.bl (decide (m0 = 1))), o9] = .nx [some (il ns), some (il (a :: ds)), some (il w3), some (il d3), some (.int sh), some (.int (p : Int)), some (il w4), some (due w3 v3), some (.bl (decide (m0 = 1))), o9'] := by
    intro o9
    obtain ⟨ρ', e, o, rfl⟩ := forL_nx (f := turn (run T 40) (.nm 9) b21_1) (l := rngD 0 3) (fun _ ρ => ∃ o, ρ = [some (il ns), some (il (a :: ds)), some (il w3), some (il d3), some (.int sh), some (.int (p : Int)), some (il w4), some (due w3 v3), some (.bl (decide (m0 = 1))), o]) ⟨o9, rfl⟩ (by
      rintro i d ρ hd ⟨o, rfl⟩
      obtain ⟨rfl, _⟩ := rngD_get hd
      refine ⟨_, ?_, some (.int (0 + (i : Int))), rfl⟩
      have r1 : run T 40 20 [.int (0 + (i : Int)), .lst []] = .ok (.bl true) := r_refused (k := 36) false _
      have r2 : run T 40 20 [.int (0 + (i : Int)), .tup []] = .ok (.bl true) := r_refused (k := 36) true _
      simp only [b21_1, turn_nm, List.set_cons_succ, List.set_cons_zero, evSsq_cons, evSq_ite, evq_or, evq_not, evq_call, evsq_cons, evsq_nil, evq_var, getV_succ, getV_zero, R.bind_ok, evq_lst, evq_tup, l0, if_true, r1, r2, tBool_bl, Bool.not_true, Bool.false_eq_true, if_false, SR.of_ok, brD_bl, andS_nx, evSsq_nil])
    exact ⟨o, e⟩
  obtain ⟨o9, e9⟩ := lp none
  have r03 : rngIt (.int 0) (.int 3) = .ok (rngD 0 3) := rngIt_ok (by omega) (by omega) (by omega) (by omega)
  have hst : startE 10 [il ns] = [some (il ns), none, none, none, none, none, none, none, none, none] := rfl
  show run T 41 21 [il ns] = _
  rw [run_fn (fi := fi21) rfl rfl]
  show finish (evSs (run T 40) t21 (startE 10 [il ns])) = _
  rw [hst, t21]
  have ec0' : run T 40 10 [il ns, .int 0] = .ok (.int c0) := ec0
  have ec1' : run T 40 10 [il ns, .int 1] = .ok (.int c1) := ec1
  have ec2' : run T 40 10 [il ns, .int 2] = .ok (.int c2) := ec2
  have ec3' : run T 40 10 [il ns, .int 3] = .ok (.int c3) := ec3
  rw [evSsq_cons]
  simp only [evSq_set, evq_call, evsq_cons, evsq_nil, evq_var, evq_c, getV_zero, R.bind_ok, ec0', evq_lst, l4, if_true, fD, ed0, SR.of_ok, setT_nm, oS_some, List.set_cons_succ, List.set_cons_zero, andS_nx]
  rw [evSsq_cons]
  simp only [evSq_set, evq_call, evsq_cons, evsq_nil, evq_var, evq_c, getV_zero, R.bind_ok, ec1', evq_bin, evq_rep, evq_lst, l1, l2, if_true, f24, f399, r24, c24, ed1, ew0, SR.of_ok, setT_nm, oS_some, List.set_cons_succ, List.set_cons_zero, andS_nx]
  rw [evSsq_cons, st2, andS_nx, evSsq_cons]
  simp only [evSq_set, evq_call, evsq_cons, evsq_nil, evq_var, evq_c, getV_zero, getV_succ, R.bind_ok, ec2', evq_rep, evq_lst, l3, if_true, f13, r13, ed2, ew3, SR.of_ok, setT_nm, oS_some, List.set_cons_succ, List.set_cons_zero, andS_nx]
  rw [evSsq_cons]
  simp only [evSq_set, evq_call, evsq_cons, evsq_nil, evq_var, evq_c, getV_zero, getV_succ, R.bind_ok, ec3', evq_lst, l5, if_true, fM, ed3, SR.of_ok, setT_nm, oS_some, List.set_cons_succ, List.set_cons_zero, andS_nx]
  rw [evSsq_cons]
  simp only [evSq_set, evq_bin, evq_ix, evq_var, evq_c, getV_zero, getV_succ, R.bind_ok, jm3, binD_add, SR.of_ok, setT_nm, oS_some, List.set_cons_succ, List.set_cons_zero, andS_nx]
  rw [evSsq_cons, st6, andS_nx, evSsq_cons]
  simp only [evSq_set, evq_bin, evq_blt, evsq_cons, evsq_nil, evq_ix, evq_var, evq_c, getV_zero, getV_succ, R.bind_ok, jm1, blD_int, len_il, mop, SR.of_ok, setT_nm, oS_some, List.set_cons_succ, List.set_cons_zero, andS_nx]
  rw [evSsq_cons]
  simp only [evSq_setO, evq_blt, evsq_cons, evsq_nil, evq_var, getV_zero, getV_succ, R.bind_ok, ls, SR.of_ok, ho, if_true, List.set_cons_succ, List.set_cons_zero, andS_nx]
  rw [evSsq_cons]
  simp only [evSq_setIx, List.getElem?_cons_succ, List.getElem?_cons_zero, evq_bin, evq_blt, evsq_cons, evsq_nil, evq_ix, evq_var, evq_c, getV_zero, getV_succ, R.bind_ok, jw, binD_sub, binD_add, blD_int, mo9, set_ix hpl, hw4e, List.set_cons_succ, List.set_cons_zero, andS_nx]
  rw [evSsq_cons]
  simp only [evSq_set, evq_call, evsq_cons, evsq_nil, evq_var, getV_zero, getV_succ, R.bind_ok, u3, SR.of_ok, setT_nm, oS_some, List.set_cons_succ, List.set_cons_zero, andS_nx]
  rw [evSsq_cons]
  simp only [evSq_set, evq_cmp, evq_ix, evq_var, evq_c, getV_zero, getV_succ, R.bind_ok, jm0, cmpD_eq, SR.of_ok, setT_nm, oS_some, List.set_cons_succ, List.set_cons_zero, andS_nx]
  rw [evSsq_cons]
  simp only [evSq_ite, evq_or, evq_not, evq_call, evsq_cons, evsq_nil, evq_var, getV_zero, getV_succ, R.bind_ok, g3, u4, g4, tBool_bl, Bool.not_true, Bool.false_eq_true, if_false, SR.of_ok, brD_bl, evSsq_nil, andS_nx]
  rw [evSsq_cons]
  simp only [evSq_ite, evq_not, evq_call, evsq_cons, evsq_nil, evq_var, getV_zero, getV_succ, R.bind_ok, g3, tBool_bl, Bool.not_true, Bool.false_eq_true, if_false, SR.of_ok, brD_bl, evSsq_nil, andS_nx]
  rw [evSsq_cons]
  simp only [evSq_for, evItq_rng, evq_c, R.bind_ok, r03, forR_ok, e9, andS_nx, evSsq_cons, evSq_ret, SR.of_ok, andS_rt, finish_rt]
theorem pure : ∀ ns : List Int, ns.length ≤ 63 → (∀ z ∈ ns, bt z ≤ 1048576) → run LW.T (40 + 1) 21 [.lst (ns.map D.int)] = .ok (.bl true) := fun ns hn _ => pure0 ns hn
end K28a
set_option Elab.async false
set_option linter.all false
set_option maxRecDepth 100000
set_option maxHeartbeats 0
open PySem PySem.Spec PyProof.Rows L2 Pv
namespace K28a
abbrev RR : PySem.W.OpenRow := PySem.W.OpenLaw.row PySem.Challenge.rw_twicewaited_k28_greatest_spread
abbrev hk : PySem.W.Hook := He.hookX 4 faL fnL [] [] LD.ex
def ob (s : PySem.W.SharedT) : He.AlX := He.obsX 4 faL fnL [] [] LD.ex (HandSHeadRun.getT s)
theorem ob_eq (s : PySem.W.SharedT) : ob s = hk.obs s.abs := He.obsX_eq (HandSHeadRun.getT_eq s)
def looseL : List Str := ["lot_sum", "lot_squares", "lowest", "ratio", "less", "spread_of", "best_lot", "greatest_spread", "least_factor", "_law_whole", "_law_cell", "_law_digits", "_law_low", "_law_alike", "_law_tie", "_law_planted", "_law_free", "_law_turned", "_law_due", "_law_right", "_law_refused", "CounterError", "BadAmount", "BadCount", "NotAtOnce", "NoJobs", "NotBelow", "gcd"]
theorem runs (w : World) : HandSHeadRun.RunEqI RR (PySem.W.view RR.prog [0, 33]) hk ob 20000 looseL w := by
  unfold HandSHeadRun.RunEqI
  kernel_rfl
end K28a
open PySem PySem.W PySem.Calls PyProof.Rows
theorem PySem.Challenge.cw_twicewaited_k28_greatest_spread_holds : PySem.Challenge.rw_twicewaited_k28_greatest_spread.Holds := by
  w_on; o_law
  refine HandSHeadRun.head_imp (r := OpenLaw.row PySem.Challenge.rw_twicewaited_k28_greatest_spread) (q := view (OpenLaw.row PySem.Challenge.rw_twicewaited_k28_greatest_spread).prog [0, 33]) (H := K28a.hk) (ob := K28a.ob) (M := 20000) (loose := K28a.looseL) (d := HandSHeadRun.topDef (OpenLaw.row PySem.Challenge.rw_twicewaited_k28_greatest_spread).prog 33) (kwd := []) K28a.ob_eq
    K28a.runs (by kernel_rfl) (by kernel_rfl) (by kernel_rfl) (by rfl) (by first | assumption | decide +kernel) (by decide +kernel) ⟨rfl, rfl, rfl, rfl, rfl, by decide +kernel⟩ ?hw ?hc
  case hw => w_witness2
  case hc =>
    refine Pv.walk_pv (l := PySem.Challenge.rw_twicewaited_k28_greatest_spread) (n := 63) (k := 43) (x := "script") rfl (by decide) (by kernel_rfl) ⟨rfl, by decide, by decide⟩ ?F
    intro w mg fa h Y G hmg0
    obtain ⟨K, KX, c⟩ := Y
    have hmg : mg ("law" : PySem.Str) = some (.ref fa) := by
      have e : (HandSHeadRun.topDef (OpenLaw.row PySem.Challenge.rw_twicewaited_k28_greatest_spread).prog 33).name = ("law" : PySem.Str) := by kernel_rfl
      rw [← e]
      exact hmg0
    obtain ⟨fd, hb, hF⟩ := K28a.law_fn (P := (PySem.Challenge.rw_twicewaited_k28_greatest_spread).prog) (w := w) KX G hmg (congrArg (fun z : He.AlT => z.1) c.t) c.more K28a.pure
    exact ⟨K, fd, KX, hb, hF⟩
