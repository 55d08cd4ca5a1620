import PyProof.Rows.All
import Wide.All
import OpenK.AllK
import Wide.FinOn
import HandS.ForExc
import HandS.TupAny
import HandS.TupMul
import HandS.IsInst
import HandS.Style
import HandS.ForMost
import HandS.Zip
import HandS.Iter
import HandS.Exc
import HandS.Dict
import HandS.Defaults
import HandS.Head0
import HandS.Head1
import HandS.Head2
import HandS.HeadHook1
import HandS.HeadHook2
import PySem.Challenge.RW_anylaces_k01_plans_recognized
import KE.KStateDown
import HandS.Codes
import HandS.HeadEnd
import HandS.HeadHook3
import HandS.HeadHook4
set_option Elab.async false
set_option linter.all false
set_option maxRecDepth 100000
/-! Rf1: a small language of pure values, its meaning. Own work. -/
namespace Rf
open PySem
abbrev St_ := PySem.Str

/-- a value: lists are taken as values; fn: a function of the module, by its name; scr: the script -/
inductive D where
  | non | bl (b : Bool) | int (i : Int) | str (s : Str) | tup (xs : List D) | lst (xs : List D) | fn (x : Str) | scr (ns : List Int)
  deriving Inhabited

/-- an error of the package: its class's name, its field -/
structure Ex where
  cls : Str
  val : Option (Str × Int)
inductive R (α : Type) where
  | ok (a : α) | err (x : Ex) | no
def R.bind {α β : Type} : R α → (α → R β) → R β
  | .ok a, f => f a
  | .err x, _ => .err x
  | .no, _ => .no
@[simp] theorem R.bind_ok {α β : Type} (a : α) (f : α → R β) : (R.ok a).bind f = f a := rfl
@[simp] theorem R.bind_err {α β : Type} (x : Ex) (f : α → R β) : (R.err x : R α).bind f = .err x := rfl
@[simp] theorem R.bind_no {α β : Type} (f : α → R β) : (R.no : R α).bind f = .no := rfl

def noErr {α : Type} : R α → R α
  | .ok a => .ok a
  | _ => .no
@[simp] theorem noErr_ok {α : Type} (a : α) : noErr (R.ok a) = .ok a := rfl
@[simp] theorem noErr_no {α : Type} : noErr (R.no : R α) = .no := rfl

/-- what a slot holds: nothing, a value, a list of its own that may be changed, the deck -/
inductive Sl where
  | u | p (d : D) | b (xs : List D) | k

inductive Bin where | add | sub | mul | mod | fdiv | pow
inductive Cmp where | lt | le | gt | ge | eq | ne | in_ | nin
inductive Bi where | len | tuple | list | int | abs | sum | all | any
inductive Ty where | int | bool | str | tuple | list
  deriving DecidableEq
inductive Tg where | n (i : Nat) | t (ts : List Tg)

mutual
inductive E where
  | var (i : Nat) | bvar (i : Nat) | glob (x : Str) | lit (d : D)
  | tup (es : List E) | lst (es : List E)
  | bin (o : Bin) (a b : E) | cmp (o : Cmp) (a b : E) | chn (o o' : Cmp) (a b c : E)
  | isN (a : E) | notN (a : E)
  | neg (a : E) | not (a : E) | and (a b : E) | or (a b : E) | ite (c a b : E)
  | ix (a b : E) | sl (a : E) (lo hi : Option E) | rev (a : E)
  | dk (i j : Nat)
  | call (f : Str) (es : List E) | callD (i : Nat) (f : Str) (es : List E)
  | bi (b : Bi) (a : E) | isi (a : E) (ts : List Ty)
  | dget (kvs : List (Str × Int)) (a : E) (d : Int)
  | comp (tg : Tg) (it : It) (c : Option E) (elt : E) (own : List (Str × Nat))
inductive It where
  | seq (e : E) | range (es : List E) | enum (e : E) | zip (a b : E)
end

inductive S where
  | set (i : Nat) (e : E) | setB (i : Nat) (e : E) | setT (tg : Tg) (e : E) | par (is : List Nat) (es : List E) | setD (i : Nat) (e : E)
  | app (i : Nat) (e : E) | sti (i : Nat) (ix e : E) | std (i j : Nat) (e : E)
  | aug (i : Nat) (o : Bin) (e : E) | sta (i : Nat) (ix : E) (o : Bin) (e : E)
  | ex (e : E) | ite (c : E) (a b : List S) | whl (c : E) (b : List S) | for_ (tg : Tg) (it : It) (b : List S)
  | ret (e : E) | retB (i : Nat) | retN | frz (i : Nat) | raise_ (cls : Str) (arg : Option (Str × E))

def SZ : Nat := 16777216

/-! ### what the operators do -/
def mulOk (i j : Int) : Bool := decide ((-(2 ^ 64) < i ∧ i < 2 ^ 64) ∨ (-(2 ^ 64) < j ∧ j < 2 ^ 64))
def rep {α : Type} (xs : List α) : Nat → List α
  | 0 => []
  | n + 1 => xs ++ rep xs n
def binD : Bin → D → D → R D
  | .add, .int i, .int j => .ok (.int (i + j))
  | .add, .tup a, .tup b => if a.length + b.length ≤ SZ then .ok (.tup (a ++ b)) else .no
  | .add, .lst a, .lst b => if a.length + b.length ≤ SZ then .ok (.lst (a ++ b)) else .no
  | .add, .lst a, .scr b => if a.length + b.length ≤ SZ then .ok (.lst (a ++ b.map .int)) else .no
  | .sub, .int i, .int j => .ok (.int (i - j))
  | .mul, .int i, .int j => if mulOk i j then .ok (.int (i * j)) else .no
  | .mul, .lst a, .int j => if a.length * j.toNat ≤ SZ ∧ -(2 ^ 63) ≤ j ∧ j < 2 ^ 63 then .ok (.lst (rep a j.toNat)) else .no
  | .mul, .tup a, .int j => if 1 ≤ a.length ∧ a.length ≤ 1000 ∧ 2 ≤ j ∧ j ≤ 1000 then .ok (.tup (rep a j.toNat)) else .no
  | .mod, .int i, .int j => if j = 0 then .no else .ok (.int (i.fmod j))
  | .fdiv, .int i, .int j => if j ≠ 0 ∧ j.natAbs < 1073741824 then .ok (.int (i.fdiv j)) else .no
  | .pow, .int i, .int j => if 0 ≤ j ∧ j ≤ 1000000 ∧ i.natAbs < 2 ^ 64 then .ok (.int (i ^ j.toNat)) else .no
  | _, _, _ => .no

mutual
/-- == -/
def eqD : D → D → Bool
  | .non, .non => true
  | .bl a, .bl b => a == b
  | .bl a, .int j => (if a then 1 else 0) == j
  | .int i, .bl b => i == (if b then 1 else 0)
  | .int i, .int j => i == j
  | .str x, .str y => x == y
  | .lst xs, .lst ys => eqDs xs ys
  | .tup xs, .tup ys => eqDs xs ys
  | _, _ => false
def eqDs : List D → List D → Bool
  | [], [] => true
  | x :: xs, y :: ys => eqD x y && eqDs xs ys
  | _, _ => false
end
mutual
def depth : D → Nat
  | .lst xs => depths xs + 1
  | .tup xs => depths xs + 1
  | _ => 0
def depths : List D → Nat
  | [] => 0
  | x :: xs => max (depth x) (depths xs)
end
mutual
/-- plain data: no functions in it -/
def plain : D → Bool
  | .fn _ => false
  | .scr _ => false
  | .lst xs => plains xs
  | .tup xs => plains xs
  | _ => true
def plains : List D → Bool
  | [] => true
  | x :: xs => plain x && plains xs
end
/-- may two values be compared -/
def eqOk (a b : D) : Bool := plain a && plain b && decide (min (depth a) (depth b) ≤ 64)
def flatD : D → Bool
  | .non => true | .bl _ => true | .int _ => true | .str _ => true | _ => false
def inD (x : D) (ys : List D) : Bool := ys.any fun y => eqD y x

def cmpD : Cmp → D → D → R D
  | .lt, .int i, .int j => .ok (.bl (decide (i < j)))
  | .le, .int i, .int j => .ok (.bl (decide (i ≤ j)))
  | .gt, .int i, .int j => .ok (.bl (decide (j < i)))
  | .ge, .int i, .int j => .ok (.bl (decide (j ≤ i)))
  | .eq, a, b => if eqOk a b then .ok (.bl (eqD a b)) else .no
  | .ne, a, b => if eqOk a b then .ok (.bl (!eqD a b)) else .no
  | .in_, a, .tup b => if flatD a && b.all flatD then .ok (.bl (inD a b)) else .no
  | .in_, a, .lst b => if flatD a && b.all flatD then .ok (.bl (inD a b)) else .no
  | .nin, a, .tup b => if flatD a && b.all flatD then .ok (.bl (!inD a b)) else .no
  | .nin, a, .lst b => if flatD a && b.all flatD then .ok (.bl (!inD a b)) else .no
  | _, _, _ => .no

/-- the place that an index names -/
def place (n : Nat) (i : Int) : Option Nat := if 0 ≤ i then (if i < n then some i.toNat else none) else if 0 ≤ i + n then some (i + n).toNat else none
def ixL (xs : List D) (i : Int) : R D := match place xs.length i with
  | some j => (match xs[j]? with | some d => .ok d | none => .no)
  | none => .no
def ixD : D → D → R D
  | .tup xs, .int i => ixL xs i
  | .lst xs, .int i => ixL xs i
  | .str s, .int i => (match place s.cps.size i with
    | some j => (match s.cps[j]? with | some c => if s.cps.size ≤ SZ then .ok (.str ⟨#[c]⟩) else .no | none => .no)
    | none => .no)
  | _, _ => .no
/-- the end of a slice -/
def sEnd (n d : Nat) : Option Int → Nat
  | none => d
  | some v => if v < 0 then (v + (n : Int)).toNat else min v.toNat n
def cut {α : Type} (xs : List α) (lo hi : Option Int) : List α := (xs.drop (sEnd xs.length 0 lo)).take (sEnd xs.length xs.length hi - sEnd xs.length 0 lo)
def slD : D → Option Int → Option Int → R D
  | .tup xs, lo, hi => .ok (.tup (cut xs lo hi))
  | .lst xs, lo, hi => .ok (.lst (cut xs lo hi))
  | _, _, _ => .no
def revD : D → R D
  | .tup xs => .ok (.tup xs.reverse)
  | .lst xs => .ok (.lst xs.reverse)
  | _ => .no
def intsD : List D → Option (List Int)
  | [] => some []
  | .int i :: r => (intsD r).map (i :: ·)
  | _ :: _ => none
def boolsD : List D → Option (List Bool)
  | [] => some []
  | .bl i :: r => (boolsD r).map (i :: ·)
  | _ :: _ => none
def biD : Bi → D → R D
  | .len, .tup xs => .ok (.int xs.length)
  | .len, .lst xs => .ok (.int xs.length)
  | .len, .str s => if s.length ≤ SZ then .ok (.int s.length) else .no
  | .tuple, .tup xs => .ok (.tup xs)
  | .tuple, .lst xs => .ok (.tup xs)
  | .list, .tup xs => .ok (.lst xs)
  | .list, .lst xs => .ok (.lst xs)
  | .int, .int i => .ok (.int i)
  | .int, .bl b => .ok (.int (if b then 1 else 0))
  | .abs, .int i => .ok (.int (if i < 0 then -i else i))
  | .sum, .lst xs => (match intsD xs with | some ns => .ok (.int ns.sum) | none => .no)
  | .all, .lst xs => (match boolsD xs with | some bs => .ok (.bl (bs.all id)) | none => .no)
  | .any, .lst xs => (match boolsD xs with | some bs => .ok (.bl (bs.any id)) | none => .no)
  | _, _ => .no
def isTy : D → Ty → Bool
  | .bl _, .int => true
  | .bl _, .bool => true
  | .int _, .int => true
  | .str _, .str => true
  | .tup _, .tuple => true
  | .lst _, .list => true
  | _, _ => false
def plainTy : D → Bool
  | .fn _ => false
  | .scr _ => false
  | _ => true
def isNon : D → Bool
  | .non => true
  | _ => false
def dgetD (kvs : List (Str × Int)) (a : D) (d : Int) : R D := match a with
  | .str s => .ok (.int ((kvs.lookup s).getD d))
  | _ => .no

/-! ### targets -/
mutual
def bindT : Tg → D → List Sl → R (List Sl)
  | .n i, d, ρ => if i < ρ.length then .ok (ρ.set i (.p d)) else .no
  | .t ts, .tup xs, ρ => bindTs ts xs ρ
  | .t _, _, _ => .no
def bindTs : List Tg → List D → List Sl → R (List Sl)
  | [], [], ρ => .ok ρ
  | t :: ts, x :: xs, ρ => (bindT t x ρ).bind fun ρ' => bindTs ts xs ρ'
  | _, _, _ => .no
end
mutual
def tgS : Tg → List Nat
  | .n i => [i]
  | .t ts => tgsS ts
def tgsS : List Tg → List Nat
  | [] => []
  | t :: ts => tgS t ++ tgsS ts
end
def wipeS (ρ : List Sl) : List (Str × Nat) → List Sl
  | [] => ρ
  | v :: vs => (wipeS ρ vs).set v.2 .u

/-! ### expressions. cl: a function's call: the deck (if it takes one), the other arguments -/
abbrev Dk := List D
/-- the deck stands there -/
def isK (ρ : List Sl) (i : Nat) : Bool := match ρ[i]? with
  | some .k => true
  | _ => false
def dropK : Sl → Sl
  | .k => .u
  | s => s
structure CL where
  call : Str → Dk → List D → R (D × Dk)
  glob : Str → Option D
def rangeL (lo : Int) (step : Int) : Nat → List D
  | 0 => []
  | n + 1 => .int lo :: rangeL (lo + step) step n
def smallI (i : Int) : Bool := decide (-(2 ^ 62) ≤ i ∧ i < 2 ^ 62)
def rangeD : List D → R (List D)
  | [.int b] => if smallI b then .ok (rangeL 0 1 b.toNat) else .no
  | [.int a, .int b] => if smallI a && smallI b then .ok (rangeL a 1 (b - a).toNat) else .no
  | _ => .no
def enumL : Int → List D → List D
  | _, [] => []
  | i, x :: xs => .tup [.int i, x] :: enumL (i + 1) xs
def seqOf : D → R (List D)
  | .tup xs => .ok xs
  | .lst xs => .ok xs
  | _ => .no
def zipL (xs ys : List D) : List D := (xs.zip ys).map fun p => .tup [p.1, p.2]
def consO (o : Option D) (xs : List D) : List D := match o with
  | some d => d :: xs
  | none => xs
/-- the comprehension's loop: f an item's test and element -/
def compL (f : D → Dk → R (Option D × Dk)) : List D → Dk → R (List D × Dk)
  | [], k => .ok ([], k)
  | x :: xs, k => (f x k).bind fun r => (compL f xs r.2).bind fun q => .ok (consO r.1 q.1, q.2)
mutual
def evE (cl : CL) (ρ : List Sl) : E → Dk → R (D × Dk)
  | .var i, k => (match ρ[i]? with | some (.p d) => .ok (d, k) | _ => .no)
  | .bvar i, k => (match ρ[i]? with | some (.b xs) => .ok (.lst xs, k) | _ => .no)
  | .glob x, k => (match cl.glob x with | some d => .ok (d, k) | none => .no)
  | .lit d, k => .ok (d, k)
  | .tup es, k => (evL cl ρ es k).bind fun r => if r.1.length ≤ SZ then .ok (.tup r.1, r.2) else .no
  | .lst es, k => (evL cl ρ es k).bind fun r => if r.1.length ≤ SZ then .ok (.lst r.1, r.2) else .no
  | .bin o a b, k => (evE cl ρ a k).bind fun x => (evE cl ρ b x.2).bind fun y => (noErr (binD o x.1 y.1)).bind fun d => .ok (d, y.2)
  | .cmp o a b, k => (evE cl ρ a k).bind fun x => (evE cl ρ b x.2).bind fun y => (noErr (cmpD o x.1 y.1)).bind fun d => .ok (d, y.2)
  | .chn o o' a b c, k => (evE cl ρ a k).bind fun x => (evE cl ρ b x.2).bind fun y => (noErr (cmpD o x.1 y.1)).bind fun d => match d with
    | .bl true => (evE cl ρ c y.2).bind fun z => (noErr (cmpD o' y.1 z.1)).bind fun d => .ok (d, z.2)
    | .bl false => .ok (.bl false, y.2)
    | _ => .no
  | .isN a, k => (evE cl ρ a k).bind fun x => .ok (.bl (isNon x.1), x.2)
  | .notN a, k => (evE cl ρ a k).bind fun x => .ok (.bl (!isNon x.1), x.2)
  | .neg a, k => (evE cl ρ a k).bind fun x => match x.1 with
    | .int i => .ok (.int (-i), x.2)
    | _ => .no
  | .not a, k => (evE cl ρ a k).bind fun x => match x.1 with
    | .bl b => .ok (.bl (!b), x.2)
    | _ => .no
  | .and a b, k => (evE cl ρ a k).bind fun x => match x.1 with
    | .bl true => evE cl ρ b x.2
    | .bl false => .ok (.bl false, x.2)
    | _ => .no
  | .or a b, k => (evE cl ρ a k).bind fun x => match x.1 with
    | .bl false => evE cl ρ b x.2
    | .bl true => .ok (.bl true, x.2)
    | _ => .no
  | .ite c a b, k => (evE cl ρ c k).bind fun x => match x.1 with
    | .bl true => evE cl ρ a x.2
    | .bl false => evE cl ρ b x.2
    | _ => .no
  | .ix a b, k => (evE cl ρ a k).bind fun x => (evE cl ρ b x.2).bind fun y => (noErr (ixD x.1 y.1)).bind fun d => .ok (d, y.2)
  | .sl a lo hi, k => (evE cl ρ a k).bind fun x => (evO cl ρ lo x.2).bind fun y => (evO cl ρ hi y.2).bind fun z => (noErr (slD x.1 y.1 z.1)).bind fun d => .ok (d, z.2)
  | .rev a, k => (evE cl ρ a k).bind fun x => (noErr (revD x.1)).bind fun d => .ok (d, x.2)
  | .dk i j, k => (match isK ρ i, k[j]? with | true, some d => .ok (d, k) | _, _ => .no)
  | .call f es, k => (evL cl ρ es k).bind fun r => (cl.call f [] r.1).bind fun q => .ok (q.1, r.2)
  | .callD i f es, k => if isK ρ i then (evL cl ρ es k).bind fun r => cl.call f r.2 r.1 else .no
  | .bi b a, k => (evE cl ρ a k).bind fun x => (noErr (biD b x.1)).bind fun d => .ok (d, x.2)
  | .isi a ts, k => (evE cl ρ a k).bind fun x => if plainTy x.1 then .ok (.bl (ts.any (isTy x.1)), x.2) else .no
  | .dget kvs a d, k => (evE cl ρ a k).bind fun x => (noErr (dgetD kvs x.1 d)).bind fun y => .ok (y, x.2)
  | .comp tg it c elt own, k => (evI cl ρ it k).bind fun r =>
      (compL (fun x k => noErr ((bindT tg x (wipeS ρ own)).bind fun ρ' => (evC cl ρ' c k).bind fun t => match t.1 with
        | true => (evE cl ρ' elt t.2).bind fun y => .ok (some y.1, y.2)
        | false => .ok (none, t.2))) r.1 r.2).bind fun q => if q.1.length ≤ SZ then .ok (.lst q.1, q.2) else .no
def evL (cl : CL) (ρ : List Sl) : List E → Dk → R (List D × Dk)
  | [], k => .ok ([], k)
  | e :: es, k => (evE cl ρ e k).bind fun x => (evL cl ρ es x.2).bind fun r => .ok (x.1 :: r.1, r.2)
def evO (cl : CL) (ρ : List Sl) : Option E → Dk → R (Option Int × Dk)
  | none, k => .ok (none, k)
  | some e, k => (evE cl ρ e k).bind fun x => match x.1 with
    | .int i => .ok (some i, x.2)
    | _ => .no
def evC (cl : CL) (ρ : List Sl) : Option E → Dk → R (Bool × Dk)
  | none, k => .ok (true, k)
  | some e, k => (evE cl ρ e k).bind fun x => match x.1 with
    | .bl b => .ok (b, x.2)
    | _ => .no
def evI (cl : CL) (ρ : List Sl) : It → Dk → R (List D × Dk)
  | .seq e, k => (evE cl ρ e k).bind fun x => (noErr (seqOf x.1)).bind fun l => .ok (l, x.2)
  | .range es, k => (evL cl ρ es k).bind fun r => (noErr (rangeD r.1)).bind fun l => .ok (l, r.2)
  | .enum e, k => (evE cl ρ e k).bind fun x => match x.1 with
    | .lst xs => .ok (enumL 0 xs, x.2)
    | _ => .no
  | .zip a b, k => (evE cl ρ a k).bind fun x => (evE cl ρ b x.2).bind fun y => match x.1, y.1 with
    | .lst xs, .lst ys => .ok (zipL xs ys, y.2)
    | .tup xs, .tup ys => .ok (zipL xs ys, y.2)
    | _, _ => .no
end

/-! ### statements -/
structure Stt where
  ρ : List Sl
  k : Dk
inductive Out where
  | nx (s : Stt) | rt (d : D) (k : Dk) | er (x : Ex) | no
def setP (ρ : List Sl) (i : Nat) (s : Sl) : R (List Sl) := if i < ρ.length then .ok (ρ.set i s) else .no
def outR : R (List Sl × Dk) → Out
  | .ok r => .nx ⟨r.1, r.2⟩
  | .err x => .er x
  | .no => .no
def setMany : List Nat → List D → List Sl → R (List Sl)
  | [], [], ρ => .ok ρ
  | i :: is, d :: ds, ρ => (setP ρ i (.p d)).bind fun ρ' => setMany is ds ρ'
  | _, _, _ => .no
def forL (body : Stt → Out) (bnd : D → List Sl → R (List Sl)) : List D → Stt → Out
  | [], s => .nx s
  | x :: xs, s => match bnd x s.ρ with
    | .ok ρ' => (match body ⟨ρ', s.k⟩ with
      | .nx s' => forL body bnd xs s'
      | o => o)
    | .err x => .er x
    | .no => .no
def whlL (test : Stt → R (Bool × Dk)) (body : Stt → Out) : Nat → Stt → Out
  | 0, _ => .no
  | n + 1, s => match test s with
    | .ok (true, k) => (match body ⟨s.ρ, k⟩ with
      | .nx s' => whlL test body n s'
      | o => o)
    | .ok (false, k) => .nx ⟨s.ρ, k⟩
    | .err x => .er x
    | .no => .no
/-- a op= b, of ints -/
def augD : Bin → Int → D → R Int
  | .add, i, .int j => .ok (i + j)
  | .sub, i, .int j => .ok (i - j)
  | _, _, _ => .no
mutual
def evS (cl : CL) (fu : Nat) : S → Stt → Out
  | .set i e, s => outR ((evE cl s.ρ e s.k).bind fun x => (setP s.ρ i (.p x.1)).bind fun ρ => .ok (ρ, x.2))
  | .setB i e, s => outR ((evE cl s.ρ e s.k).bind fun x => match x.1 with
    | .lst xs => if x.2.all flatD then (setP s.ρ i (.b xs)).bind fun ρ => .ok (ρ, x.2) else .no
    | _ => .no)
  | .setD i e, s => outR ((evE cl s.ρ e s.k).bind fun x => match x.1 with
    | .lst xs => (setP (s.ρ.map dropK) i .k).bind fun ρ => .ok (ρ, xs)
    | _ => .no)
  | .setT tg e, s => outR ((evE cl s.ρ e s.k).bind fun x => (noErr (bindT tg x.1 s.ρ)).bind fun ρ => .ok (ρ, x.2))
  | .par is es, s => outR ((evL cl s.ρ es s.k).bind fun x => (noErr (setMany is x.1 s.ρ)).bind fun ρ => .ok (ρ, x.2))
  | .app i e, s => outR (match s.ρ[i]? with
    | some (.b xs) => (evE cl s.ρ e s.k).bind fun x => if xs.length < SZ then .ok (s.ρ.set i (.b (xs ++ [x.1])), x.2) else .no
    | _ => .no)
  | .sti i ix e, s => outR (match s.ρ[i]? with
    | some (.b xs) => (evE cl s.ρ e s.k).bind fun x => (evE cl s.ρ ix x.2).bind fun y => (match y.1 with
      | .int j => (match place xs.length j with
        | some p => .ok (s.ρ.set i (.b (xs.set p x.1)), y.2)
        | none => .no)
      | _ => .no)
    | _ => .no)
  | .std i j e, s => if isK s.ρ i then outR ((evE cl s.ρ e s.k).bind fun x => if j < x.2.length then .ok (s.ρ, x.2.set j x.1) else .no) else .no
  | .aug i o e, s => outR (match s.ρ[i]? with
    | some (.p (.int d)) => (evE cl s.ρ e s.k).bind fun x => (noErr (augD o d x.1)).bind fun z => .ok (s.ρ.set i (.p (.int z)), x.2)
    | _ => .no)
  | .sta i ix o e, s => outR (match s.ρ[i]? with
    | some (.b xs) => (evE cl s.ρ ix s.k).bind fun y => (match y.1 with
      | .int j => (match place xs.length j with
        | some p => (match xs[p]? with
          | some (.int old) => (evE cl s.ρ e y.2).bind fun x => (noErr (augD o old x.1)).bind fun z => .ok (s.ρ.set i (.b (xs.set p (.int z))), x.2)
          | _ => .no)
        | none => .no)
      | _ => .no)
    | _ => .no)
  | .ex e, s => outR ((evE cl s.ρ e s.k).bind fun x => .ok (s.ρ, x.2))
  | .ite c a b, s => (match evE cl s.ρ c s.k with
    | .ok (.bl true, k) => evB cl fu a ⟨s.ρ, k⟩
    | .ok (.bl false, k) => evB cl fu b ⟨s.ρ, k⟩
    | .err x => .er x
    | _ => .no)
  | .whl c b, s => whlL (fun s => evC cl s.ρ (some c) s.k) (evB cl fu b) fu s
  | .for_ tg it b, s => (match evI cl s.ρ it s.k with
    | .ok (l, k) => forL (evB cl fu b) (bindT tg) l ⟨s.ρ, k⟩
    | .err x => .er x
    | .no => .no)
  | .ret e, s => (match evE cl s.ρ e s.k with
    | .ok (d, k) => .rt d k
    | .err x => .er x
    | .no => .no)
  | .retB i, s => (match s.ρ[i]? with
    | some (.b xs) => .rt (.lst xs) s.k
    | _ => .no)
  | .retN, s => .rt .non s.k
  | .frz i, s => (match s.ρ[i]? with
    | some (.b xs) => .nx ⟨s.ρ.set i (.p (.lst xs)), s.k⟩
    | _ => .no)
  | .raise_ cls none, s => .er ⟨cls, none⟩
  | .raise_ cls (some (f, e)), s => (match evE cl s.ρ e s.k with
      | .ok (.int i, _) => .er ⟨cls, some (f, i)⟩
      | .err x => .er x
      | _ => .no)
def evB (cl : CL) (fu : Nat) : List S → Stt → Out
  | [], s => .nx s
  | x :: xs, s => match evS cl fu x s with
    | .nx s' => evB cl fu xs s'
    | o => o
end

/-! ### functions -/
structure FDef where
  /-- the deck is the first parameter -/
  dk : Bool
  /-- the number of the other parameters -/
  np : Nat
  /-- all names -/
  N : List Str
  body : List S
  /-- it hands back a list that is new -/
  fresh : Bool := false
inductive Gd where
  | fn (d : FDef) | con (d : D)
def gF (x : Str) (d : FDef) : Str × Gd := (x, .fn d)
def gC (x : Str) (d : D) : Str × Gd := (x, .con d)
abbrev Tab := Str → Option Gd
def enter (fd : FDef) (args : List D) : List Sl :=
  let a := (if fd.dk then [Sl.k] else []) ++ args.map Sl.p
  a ++ List.replicate (fd.N.length - a.length) Sl.u
def globT (T : Tab) (x : Str) : Option D := match T x with
  | some (.con d) => some d
  | some (.fn _) => some (.fn x)
  | none => none
/-- calls, n deep; fu bounds the turns of a while -/
def callN (T : Tab) (fu : Nat) : Nat → Str → Dk → List D → R (D × Dk)
  | 0, _, _, _ => .no
  | n + 1, x, k, args => match T x with
    | some (.fn fd) => if args.length = fd.np then
        (match evB ⟨callN T fu n, globT T⟩ fu fd.body ⟨enter fd args, k⟩ with
          | .nx s => .ok (.non, s.k)
          | .rt d k => .ok (d, k)
          | .er x => .err x
          | .no => .no)
      else .no
    | _ => .no
abbrev clN (T : Tab) (fu n : Nat) : CL := ⟨callN T fu n, globT T⟩
end Rf
set_option Elab.async false
set_option linter.all false
set_option maxRecDepth 100000
set_option maxHeartbeats 1000000
/-! Rf2: how the small language's values lie in the heap. Own work. -/
namespace Rf
open PySem PySem.Spec PyProof.Rows L2

/-- where all is written: the written part, the module's names -/
structure Wr where
  K : PySem.W.Frag
  mg : Str → Option Value

mutual
/-- the value v is d in H; no list in it stands at an address of ow -/
inductive FR (G : Wr) (ow : Addr → Prop) (H : Hp) : D → V → Prop
  | non : FR G ow H .non .non
  | bl (b : Bool) : FR G ow H (.bl b) (.bl b)
  | int (i : Int) : FR G ow H (.int i) (.int i)
  | str (x : Str) : PyData.strOk x = true → FR G ow H (.str x) (.str x)
  | tup {a : Addr} {vs : List V} {ds : List D} : SqT G.K H a vs → FRs G ow H ds vs → FR G ow H (.tup ds) (.ref a)
  | lst {a : Addr} {vs : List V} {ds : List D} : H a = some (.lst vs) → ¬ ow a → FRs G ow H ds vs → FR G ow H (.lst ds) (.ref a)
  | scr {a : Addr} {ns : List Int} : ((∃ o, H a = some (.frz o (.lst (ns.map V.int)))) ∨ ∀ H', SqL G.K H' a (ns.map V.int)) → FR G ow H (.scr ns) (.ref a)
  | fn {x : Str} {f : Addr} : G.mg x = some (.ref f) → FR G ow H (.fn x) (.ref f)
inductive FRs (G : Wr) (ow : Addr → Prop) (H : Hp) : List D → List V → Prop
  | nil : FRs G ow H [] []
  | cons {d : D} {v : V} {ds : List D} {vs : List V} : FR G ow H d v → FRs G ow H ds vs → FRs G ow H (d :: ds) (v :: vs)
end
section
variable {G : Wr} {ow ow' : Addr → Prop} {H H' : Hp}

theorem FRs.length : ∀ {ds : List D} {vs : List V}, FRs G ow H ds vs → ds.length = vs.length
  | _, _, .nil => rfl
  | _, _, .cons _ t => congrArg (· + 1) (FRs.length t)
theorem FRs.get : ∀ {ds : List D} {vs : List V} {i : Nat} {d : D}, FRs G ow H ds vs → ds[i]? = some d → ∃ v, vs[i]? = some v ∧ FR G ow H d v
  | _, _, _, _, .nil, e => by simp at e
  | _, _, 0, _, .cons r _, e => by simp at e; subst e; exact ⟨_, rfl, r⟩
  | _, _, i + 1, d, .cons _ t, e => by
    obtain ⟨v, h1, h2⟩ := FRs.get (i := i) (d := d) t (by simpa using e)
    exact ⟨v, by simpa using h1, h2⟩
theorem FRs.getV : ∀ {ds : List D} {vs : List V} {i : Nat} {v : V}, FRs G ow H ds vs → vs[i]? = some v → ∃ d, ds[i]? = some d ∧ FR G ow H d v
  | _, _, _, _, .nil, e => by simp at e
  | _, _, 0, _, .cons r _, e => by simp at e; subst e; exact ⟨_, rfl, r⟩
  | _, _, i + 1, d, .cons _ t, e => by
    obtain ⟨v, h1, h2⟩ := FRs.getV (i := i) (v := d) t (by simpa using e)
    exact ⟨v, by simpa using h1, h2⟩
theorem FRs.append : ∀ {ds es : List D} {vs us : List V}, FRs G ow H ds vs → FRs G ow H es us → FRs G ow H (ds ++ es) (vs ++ us)
  | _, _, _, _, .nil, s => s
  | _, _, _, _, .cons r t, s => .cons r (FRs.append t s)
theorem FRs.take : ∀ {ds : List D} {vs : List V} (n : Nat), FRs G ow H ds vs → FRs G ow H (ds.take n) (vs.take n)
  | _, _, 0, _ => .nil
  | _, _, _ + 1, .nil => .nil
  | _, _, n + 1, .cons r t => .cons r (FRs.take n t)
theorem FRs.drop : ∀ {ds : List D} {vs : List V} (n : Nat), FRs G ow H ds vs → FRs G ow H (ds.drop n) (vs.drop n)
  | _, _, 0, r => r
  | _, _, _ + 1, .nil => .nil
  | _, _, n + 1, .cons _ t => FRs.drop n t
theorem FRs.set {d : D} {v : V} (r : FR G ow H d v) : ∀ {ds : List D} {vs : List V} (i : Nat), FRs G ow H ds vs → FRs G ow H (ds.set i d) (vs.set i v)
  | _, _, _, .nil => .nil
  | _, _, 0, .cons _ t => .cons r t
  | _, _, i + 1, .cons q t => .cons q (FRs.set r i t)
theorem FRs.reverse : ∀ {ds : List D} {vs : List V}, FRs G ow H ds vs → FRs G ow H ds.reverse vs.reverse
  | _, _, .nil => .nil
  | _, _, .cons r t => by
    rw [List.reverse_cons, List.reverse_cons]
    exact (FRs.reverse t).append (.cons r .nil)
theorem FRs.rep {ds : List D} {vs : List V} (r : FRs G ow H ds vs) : ∀ n : Nat, FRs G ow H (rep ds n) (rep vs n)
  | 0 => .nil
  | n + 1 => r.append (FRs.rep r n)
theorem FRs.snoc {ds : List D} {vs : List V} {d : D} {v : V} (r : FRs G ow H ds vs) (q : FR G ow H d v) : FRs G ow H (ds ++ [d]) (vs ++ [v]) := r.append (.cons q .nil)

mutual
/-- fewer addresses are barred -/
theorem FR.mono (h : ∀ a, ow' a → ow a) : ∀ {d : D} {v : V}, FR G ow H d v → FR G ow' H d v
  | _, _, .non => .non
  | _, _, .bl b => .bl b
  | _, _, .int i => .int i
  | _, _, .str x e => .str x e
  | _, _, .tup s r => .tup s (FRs.mono h r)
  | _, _, .lst s n r => .lst s (fun z => n (h _ z)) (FRs.mono h r)
  | _, _, .scr s => .scr s
  | _, _, .fn e => .fn e
theorem FRs.mono (h : ∀ a, ow' a → ow a) : ∀ {ds : List D} {vs : List V}, FRs G ow H ds vs → FRs G ow' H ds vs
  | _, _, .nil => .nil
  | _, _, .cons r t => .cons (FR.mono h r) (FRs.mono h t)
end

/-- what is barred are lists that are tracked -/
def Own (ow : Addr → Prop) (H : Hp) : Prop := ∀ a, ow a → ∃ xs, H a = some (.lst xs)
/-- .. if they are tracked -/
def OwnW (ow : Addr → Prop) (H : Hp) : Prop := ∀ a, ow a → ∀ o, H a = some o → ∃ xs, o = .lst xs
theorem Own.w (h : Own ow H) : OwnW ow H := fun a z o e => by
  obtain ⟨xs, q⟩ := h a z
  rw [e] at q
  exact ⟨xs, Option.some.inj q⟩
/-- all but what is barred stays -/
def Stay (ow : Addr → Prop) (H H' : Hp) : Prop := ∀ b o, H b = some o → ¬ ow b → H' b = some o
theorem Stay.refl (ow : Addr → Prop) (H : Hp) : Stay ow H H := fun _ _ e _ => e
theorem Stay.trans {H1 H2 : Hp} (a : Stay ow H H1) (b : Stay ow H1 H2) : Stay ow H H2 := fun c o e n => b c o (a c o e n) n
theorem Stay.of (h : Same H H') : Stay ow H H' := fun b o e _ => h b o e
theorem Stay.mono (a : Stay ow H H') (h : ∀ a, ow a → ow' a) : Stay ow' H H' := fun b o e n => a b o e fun z => n (h b z)

theorem SqT.stay {K : PySem.W.Frag} {a : Addr} {xs : List V} (ho : OwnW ow H) (hs : Stay ow H H') (r : SqT K H a xs) : SqT K H' a xs := by
  rcases r with (r | ⟨ob, r⟩) | r
  · refine .inl (.inl (hs _ _ r fun z => ?_))
    obtain ⟨ys, e⟩ := ho a z _ r
    cases e
  · refine .inl (.inr ⟨ob, hs _ _ r fun z => ?_⟩)
    obtain ⟨ys, e⟩ := ho a z _ r
    cases e
  · exact .inr r
mutual
theorem FR.stay (ho : OwnW ow H) (hs : Stay ow H H') : ∀ {d : D} {v : V}, FR G ow H d v → FR G ow H' d v
  | _, _, .non => .non
  | _, _, .bl b => .bl b
  | _, _, .int i => .int i
  | _, _, .str x e => .str x e
  | _, _, .tup s r => .tup (SqT.stay ho hs s) (FRs.stay ho hs r)
  | _, _, .lst s n r => .lst (hs _ _ s n) n (FRs.stay ho hs r)
  | _, _, .scr s => .scr (by
      rcases s with ⟨o, s⟩ | s
      · exact .inl ⟨o, hs _ _ s fun z => by
          obtain ⟨xs, e⟩ := ho _ z _ s
          cases e⟩
      · exact .inr s)
  | _, _, .fn e => .fn e
theorem FRs.stay (ho : OwnW ow H) (hs : Stay ow H H') : ∀ {ds : List D} {vs : List V}, FRs G ow H ds vs → FRs G ow H' ds vs
  | _, _, .nil => .nil
  | _, _, .cons r t => .cons (FR.stay ho hs r) (FRs.stay ho hs t)
end
theorem OwnW.of_none {p : Addr} (ho : OwnW ow H) (hp : H p = none) : OwnW (fun a => ow a ∨ a = p) H := fun a z o e => by
  rcases z with z | z
  · exact ho a z o e
  · subst z
    rw [hp] at e
    cases e
/-- one more address barred -/
def orA (ow : Addr → Prop) (p : Addr) : Addr → Prop := fun a => ow a ∨ a = p
mutual
theorem FR.bar {p : Addr} (hp : H p = none) : ∀ {d : D} {v : V}, FR G ow H d v → FR G (orA ow p) H d v
  | _, _, .non => .non
  | _, _, .bl b => .bl b
  | _, _, .int i => .int i
  | _, _, .str x e => .str x e
  | _, _, .tup s r => .tup s (FRs.bar hp r)
  | _, _, .lst s n r => .lst s (fun z => by
      rcases z with z | z
      · exact n z
      · rw [z] at s
        rw [hp] at s
        cases s) (FRs.bar hp r)
  | _, _, .scr s => .scr s
  | _, _, .fn e => .fn e
theorem FRs.bar {p : Addr} (hp : H p = none) : ∀ {ds : List D} {vs : List V}, FRs G ow H ds vs → FRs G (orA ow p) H ds vs
  | _, _, .nil => .nil
  | _, _, .cons r t => .cons (FR.bar hp r) (FRs.bar hp t)
end
theorem same_new {p : Addr} {o : HO} (hp : H p = none) : Same H (upd H p o) := fun b x e => by
  rw [upd_ne (ne_of_none e hp)]
  exact e

/-- read now: the list itself may be barred, what is in it not -/
inductive FL (G : Wr) (ow : Addr → Prop) (ka : Option Addr) (H : Hp) : D → V → Prop
  | of {d : D} {v : V} : FR G ow H d v → FL G ow ka H d v
  | lst {a : Addr} {vs : List V} {ds : List D} : H a = some (.lst vs) → ka ≠ some a → FRs G ow H ds vs → FL G ow ka H (.lst ds) (.ref a)
theorem FL.non {ka : Option Addr} {v : V} (h : FL G ow ka H .non v) : v = .non := by
  cases h with
  | of h => cases h; rfl
theorem FL.bl {ka : Option Addr} {v : V} {b : Bool} (h : FL G ow ka H (.bl b) v) : v = .bl b := by
  cases h with
  | of h => cases h; rfl
theorem FL.int {ka : Option Addr} {v : V} {i : Int} (h : FL G ow ka H (.int i) v) : v = .int i := by
  cases h with
  | of h => cases h; rfl
theorem FL.str {ka : Option Addr} {v : V} {x : Str} (h : FL G ow ka H (.str x) v) : v = .str x ∧ PyData.strOk x = true := by
  cases h with
  | of h =>
    cases h with
    | str _ e => exact ⟨rfl, e⟩
theorem FL.tup {ka : Option Addr} {v : V} {ds : List D} (h : FL G ow ka H (.tup ds) v) : ∃ a vs, v = .ref a ∧ SqT G.K H a vs ∧ FRs G ow H ds vs := by
  cases h with
  | of h =>
    cases h with
    | tup s r => exact ⟨_, _, rfl, s, r⟩
theorem FL.lstx {ka : Option Addr} {v : V} {ds : List D} (h : FL G ow ka H (.lst ds) v) : ∃ a vs, v = .ref a ∧ H a = some (.lst vs) ∧ FRs G ow H ds vs := by
  cases h with
  | of h =>
    cases h with
    | lst s n r => exact ⟨_, _, rfl, s, r⟩
  | lst s _ r => exact ⟨_, _, rfl, s, r⟩
theorem FL.scrx {ka : Option Addr} {v : V} {ns : List Int} (h : FL G ow ka H (.scr ns) v) : ∃ a, v = .ref a ∧ SqL G.K H a (ns.map V.int) := by
  cases h with
  | of h =>
    cases h with
    | scr s =>
      rcases s with ⟨o, s⟩ | s
      · exact ⟨_, rfl, .inl (.inr ⟨o, s⟩)⟩
      · exact ⟨_, rfl, s H⟩
theorem FRs.ints : ∀ ns : List Int, FRs G ow H (ns.map D.int) (ns.map V.int)
  | [] => .nil
  | n :: ns => .cons (.int n) (FRs.ints ns)
theorem FR.lstx {v : V} {ds : List D} (h : FR G ow H (.lst ds) v) : ∃ a vs, v = .ref a ∧ H a = some (.lst vs) ∧ FRs G ow H ds vs := (FL.of (ka := none) h).lstx
theorem FR.tupx {v : V} {ds : List D} (h : FR G ow H (.tup ds) v) : ∃ a vs, v = .ref a ∧ SqT G.K H a vs ∧ FRs G ow H ds vs := (FL.of (ka := none) h).tup

/-! ### the state -/
/-- a slot -/
def SlotR (G : Wr) (H0 : Hp) (ow : Addr → Prop) (ka : Option Addr) (H : Hp) : Sl → Option V → Prop
  | .u, _ => True
  | .p d, o => ∃ v, o = some v ∧ FR G ow H d v
  | .b xs, o => ∃ a vs, o = some (.ref a) ∧ ow a ∧ ka ≠ some a ∧ H0 a = none ∧ H a = some (.lst vs) ∧ FRs G ow H xs vs
  | .k, o => ∃ a, o = some (.ref a) ∧ ka = some a
/-- what stood at the entry stands -/
def Kp (H0 : Hp) (ka : Option Addr) (H : Hp) : Prop := ∀ b o, H0 b = some o → ka ≠ some b → H b = some o
/-- the deck's list -/
def DkR (G : Wr) (ow : Addr → Prop) (ka : Option Addr) (k : Dk) (H : Hp) : Prop := ∀ a, ka = some a → ∃ vs, H a = some (.lst vs) ∧ FRs G ow H k vs
structure SR (G : Wr) (H0 : Hp) (ow0 ow : Addr → Prop) (ka : Option Addr) (st : Stt) (σ : L2.St) (H : Hp) : Prop where
  len : σ.length = st.ρ.length
  keep : Kp H0 ka H
  sl : ∀ (i : Nat) (s : Sl), st.ρ[i]? = some s → SlotR G H0 ow ka H s (σ[i]?.join)
  inj : ∀ (i j : Nat) (xs ys : List D) (a : Addr), st.ρ[i]? = some (.b xs) → st.ρ[j]? = some (.b ys) → σ[i]? = some (some (.ref a)) → σ[j]? = some (some (.ref a)) → i = j
  dk : DkR G ow ka st.k H
  dkow : ∀ a, ka = some a → ow a
  own : Own ow H
  sub : ∀ a, ow0 a → ow a

/-- behind an expression: all stays but the deck, which is k -/
structure XS (G : Wr) (ow : Addr → Prop) (ka : Option Addr) (k : Dk) (H H' : Hp) : Prop where
  keep : ∀ b o, H b = some o → ka ≠ some b → H' b = some o
  dk : DkR G ow ka k H'
theorem XS.stay (x : XS G ow ka k H H') (h : ∀ a, ka = some a → ow a) : Stay ow H H' := fun b o e n => x.keep b o e fun z => n (h b z)
theorem XS.own {ka : Option Addr} {k : Dk} (x : XS G ow ka k H H') (ho : Own ow H) : Own ow H' := fun a ha => by
  by_cases z : ka = some a
  · obtain ⟨vs, e, _⟩ := x.dk a z
    exact ⟨vs, e⟩
  · obtain ⟨xs, e⟩ := ho a ha
    exact ⟨xs, x.keep a _ e z⟩
theorem SR.step {H0 : Hp} {ow0 : Addr → Prop} {ka : Option Addr} {st : Stt} {σ : L2.St} {k : Dk} (s : SR G H0 ow0 ow ka st σ H) (x : XS G ow ka k H H') : SR G H0 ow0 ow ka ⟨st.ρ, k⟩ σ H' := by
  have hk : ∀ a, ka = some a → ow a := s.dkow
  have hst := x.stay hk
  refine ⟨s.len, fun b o e n => x.keep b o (s.keep b o e n) n, fun i sl e => ?_, s.inj, x.dk, s.dkow, x.own s.own, s.sub⟩
  have q := s.sl i sl e
  cases sl with
  | u => exact True.intro
  | p d =>
    obtain ⟨v, e1, r⟩ := q
    exact ⟨v, e1, r.stay s.own.w hst⟩
  | b xs =>
    obtain ⟨a, vs, e1, h1, h2, h3, h4, r⟩ := q
    exact ⟨a, vs, e1, h1, h2, h3, x.keep a _ h4 h2, r.stay s.own.w hst⟩
  | k => exact q
theorem XS.refl {ka : Option Addr} {k : Dk} (h : DkR G ow ka k H) : XS G ow ka k H H := ⟨fun _ _ e _ => e, h⟩
theorem XS.trans {ka : Option Addr} {k1 k2 : Dk} {H1 H2 : Hp} (a : XS G ow ka k1 H H1) (b : XS G ow ka k2 H1 H2) : XS G ow ka k2 H H2 :=
  ⟨fun c o e n => b.keep c o (a.keep c o e n) n, b.dk⟩
/-- behind something that keeps all -/
theorem XS.same {ka : Option Addr} {k : Dk} (a : XS G ow ka k H H1) (b : Same H1 H2) (ho : Own ow H1) : XS G ow ka k H H2 :=
  ⟨fun c o e n => b c o (a.keep c o e n), fun p e => by
    obtain ⟨vs, h1, h2⟩ := a.dk p e
    exact ⟨vs, b p _ h1, h2.stay ho.w (Stay.of b)⟩⟩
theorem FL.xs {ka : Option Addr} {k : Dk} {d : D} {v : V} (x : XS G ow ka k H H') (hk : ∀ a, ka = some a → ow a) (ho : Own ow H) : FL G ow ka H d v → FL G ow ka H' d v
  | .of r => .of (r.stay ho.w (x.stay hk))
  | .lst e n r => .lst (x.keep _ _ e n) n (r.stay ho.w (x.stay hk))
end
end Rf
set_option Elab.async false
set_option linter.all false
set_option maxRecDepth 100000
set_option maxHeartbeats 2000000
/-! Rf3: the operators on values, over the layer. Own work. -/
namespace Rf
open PySem PySem.Spec PyProof.Rows L2

theorem sz_eq : SZ = sizeLine := by rw [sizeLine_eq]; rfl

/-! ### + of any two lists -/
theorem list_addX (l b : Addr) (items items2 : Array Value) (n n2 : Nat) (sl sl2 : Array (Option Value)) (hc0 : items.size + items2.size ≤ sizeLine) :
    Meets (Builtin.«list.__add__» ⟨[.ref l, .ref b], []⟩) (fun _ R s => s.heap.get? l = some ⟨.type "list", none, .seq items n, sl⟩ ∧ s.heap.get? b = some ⟨.type "list", none, .seq items2 n2, sl2⟩ ∧
      R (.ok (.ret (Value.ref s.heap.objs.size))) { s with heap := s.heap.push { cls := Value.type "list", data := .seq (items ++ items2) }, toks := s.toks }) :=
  .of_wp fun prog w A R s h => by
    obtain ⟨hp, g, d, tk, os⟩ := s
    obtain ⟨hl, hb, h⟩ := h
    have f3 := AutoSeq1.sub_list_list
    wp_walk using AutoSeq1.wpAny_loadPart' hl, AutoSeq1.wpAny_loadPart' hb
    exact ⟨_, rfl, h⟩
theorem add_listX {prog : Program} {w : World} {A : Around} {E : Value → Shared → Prop} {s : Shared} {l b : Addr} {items items2 : Array Value} {Q : Value → Shared → Prop} (hl : PlainL s.heap l items) (hb : PlainL s.heap b items2)
    (h : Q (.ref s.heap.objs.size) { s with heap := s.heap.push { cls := .type "list", data := .seq (items ++ items2) } }) (hsz : items.size + items2.size ≤ sizeLine) : wpAny (model prog w) A (binaryOp .Add (.ref l) (.ref b)) Q E s := by
  obtain ⟨⟨c1, d1, t1, s1⟩, n1, e1, h1, h2, h3⟩ := hl
  obtain ⟨⟨c2, d2, t2, s2⟩, n2, e2, h4, h5, h6⟩ := hb
  simp only at h1 h2 h3 h4 h5 h6
  subst h1 h2 h3 h4 h5 h6
  exact concat_meets ⟨_, e1, rfl⟩ ⟨_, e2, rfl⟩ noFill_list_add seq_list_add F.slot_list_add F.entry_list_add (F.args_list_add_2 _ _) (list_addX l b items items2 n1 n2 s1 s2 hsz) ⟨e1, e2, h⟩
section
variable {X : Cx}
def rCatL (K : PySem.W.Frag) : R2 := fun x y H Q => ∃ l b xs zs, x = .ref l ∧ y = .ref b ∧ SqL K H l xs ∧ SqL K H b zs ∧ xs.length + zs.length ≤ sizeLine ∧ ∀ p, H p = none → Q (.ref p) (upd H p (.lst (xs ++ zs)))
theorem op_catL : OpR X (binaryOp .Add) (rCatL X.K) := by
  intro pins s σ H x y v u Q I rx ry h
  obtain ⟨l, b, xs, zs, rfl, rfl, hH, hB, hz, q⟩ := h
  cases rx
  cases ry
  obtain ⟨its, r, pl, z⟩ := I.list hH
  obtain ⟨its2, r2, pl2, z2⟩ := I.list hB
  have e1 := r.length
  have e2 := r2.length
  refine add_listX pl pl2 ?_ (by rw [List.size_toArray, List.size_toArray]; omega)
  have ea : its.toArray ++ its2.toArray = (its ++ its2).toArray := by simp
  rw [ea]
  exact ⟨.ref _, _, I.lnew (t' := s.toks) (r.append r2) (by rw [List.length_append]; omega), rfl, q _ I.fresh⟩
end

/-- what comes of an operation: a list is a new one -/
inductive FN (G : Wr) (ow : Addr → Prop) (H H' : Hp) : D → V → Prop
  | of {d : D} {v : V} : (∀ xs, d ≠ .lst xs) → FR G ow H' d v → FN G ow H H' d v
  | new {p : Addr} {vs : List V} {xs : List D} : H p = none → H' p = some (.lst vs) → FRs G (orA ow p) H' xs vs → FN G ow H H' (.lst xs) (.ref p)
section
variable {G : Wr} {ow : Addr → Prop} {H H' H1 : Hp} {d : D} {v : V}
theorem FN.fr (ho : Own ow H) : FN G ow H H' d v → FR G ow H' d v
  | .of _ r => r
  | .new hp e r => .lst e (fun z => by
      obtain ⟨xs, q⟩ := ho _ z
      rw [hp] at q
      cases q) (r.mono fun a z => .inl z)
theorem FN.back (h : ∀ b, H1 b = none → H b = none) : FN G ow H1 H' d v → FN G ow H H' d v
  | .of n r => .of n r
  | .new hp e r => .new (h _ hp) e r
theorem XS.free {ka : Option Addr} {k : Dk} (x : XS G ow ka k H H') (hk : ∀ a, ka = some a → ow a) (ho : Own ow H) : ∀ b, H' b = none → H b = none := fun b e => by
  cases q : H b with
  | none => rfl
  | some o =>
    by_cases z : ka = some b
    · obtain ⟨vs, e2, _⟩ := x.dk b z
      rw [e] at e2
      cases e2
    · rw [x.keep b o q z] at e
      cases e
/-- a new list with such items -/
theorem FN.mk {p : Addr} {vs : List V} {xs : List D} (ho : Own ow H) (hp : H p = none) (r : FRs G ow H xs vs) : FN G ow H (upd H p (.lst vs)) (.lst xs) (.ref p) :=
  .new hp upd_same ((r.bar hp).stay (ho.w.of_none hp) (Stay.of (same_new hp)))
end

/-! ### the operators -/
def opB : Bin → Operator
  | .add => .Add | .sub => .Sub | .mul => .Mult | .mod => .Mod | .fdiv => .FloorDiv | .pow => .Pow
/-- an operation of two values, by its meaning -/
def rB (G : Wr) (sem : D → D → R D) : R2 := fun x y H Q => ∃ (ow : Addr → Prop) (ka : Option Addr) (d e z : D), Own ow H ∧ FL G ow ka H d x ∧ FL G ow ka H e y ∧ sem d e = .ok z ∧ ∀ H' v, Same H H' → FN G ow H H' z v → Q v H'
theorem mulOk_ok {i j : Int} (h : mulOk i j = true) : CMul i j := by
  unfold mulOk at h
  exact (decide_eq_true_eq.mp h : _)
theorem ok_inj {a b : D} (h : (R.ok a : R D) = .ok b) : a = b := by
  cases h
  rfl
theorem ite_ok {c : Prop} [Decidable c] {a b : D} (h : (if c then R.ok a else R.no) = .ok b) : c ∧ a = b := by
  by_cases q : c
  · rw [if_pos q] at h
    cases h
    exact ⟨q, rfl⟩
  · rw [if_neg q] at h
    cases h
theorem ite_ok' {c : Prop} [Decidable c] {a b : D} (h : (if c then R.no else R.ok a) = .ok b) : ¬ c ∧ a = b := by
  by_cases q : c
  · rw [if_pos q] at h
    cases h
  · rw [if_neg q] at h
    cases h
    exact ⟨q, rfl⟩
theorem rep_flat {α : Type} (xs : List α) : ∀ n : Nat, (List.replicate n xs).flatten = rep xs n
  | 0 => rfl
  | n + 1 => by
    rw [List.replicate_succ, List.flatten_cons, rep_flat xs n]
    rfl
theorem rep_length {α : Type} (xs : List α) : ∀ n : Nat, (rep xs n).length = n * xs.length
  | 0 => by simp [rep]
  | n + 1 => by
    show (xs ++ rep xs n).length = _
    rw [List.length_append, rep_length xs n, Nat.succ_mul]
    omega
theorem FN.int {G : Wr} {ow : Addr → Prop} {H H' : Hp} (i : Int) : FN G ow H H' (.int i) (.int i) := .of (fun _ => by intro h; cases h) (.int i)
theorem FN.bl {G : Wr} {ow : Addr → Prop} {H H' : Hp} (i : Bool) : FN G ow H H' (.bl i) (.bl i) := .of (fun _ => by intro h; cases h) (.bl i)
section
variable {X : Cx}
abbrev gx (X : Cx) : Wr := ⟨X.K, X.mg⟩
theorem rBne {G : Wr} {ow : Addr → Prop} {H H' : Hp} {ds : List D} {v : V} (h : FR G ow H' (.tup ds) v) : FN G ow H H' (.tup ds) v := .of (fun _ => by intro h; cases h) h
theorem op_binD (o : Bin) : OpR X (binaryOp (opB o)) (rB (gx X) (binD o)) := by
  intro pins s σ H x y v u Q I rx ry ⟨ow, ka, d, e, z, ho, hd, he, hz, q⟩
  cases o with
  | add =>
    cases d with
    | int i =>
      cases e with
      | int j =>
        cases hd.int
        cases he.int
        cases ok_inj hz
        exact op_add pins s σ H _ _ v u Q I rx ry ⟨i, j, rfl, rfl, q _ _ (Same.refl H) (.int _)⟩
      | _ => cases hz
    | tup a =>
      cases e with
      | tup b =>
        obtain ⟨a1, vs, rfl, s1, r1⟩ := hd.tup
        obtain ⟨a2, us, rfl, s2, r2⟩ := he.tup
        obtain ⟨hl, rfl⟩ := ite_ok hz
        have l1 := r1.length
        have l2 := r2.length
        refine op_catA pins s σ H _ _ v u Q I rx ry ⟨a1, a2, vs, us, rfl, rfl, s1, s2, by rw [← sz_eq]; omega, fun e => ?_, fun _ e => ?_, fun _ _ p hp => ?_⟩
        · subst e
          cases r1
          exact q _ _ (Same.refl H) (rBne (.tup s2 r2))
        · subst e
          cases r2
          rw [List.append_nil] at q
          exact q _ _ (Same.refl H) (rBne (.tup s1 r1))
        · exact q _ _ (same_new hp) (rBne (.tup (.inl (.inl upd_same)) ((r1.append r2).stay ho.w (Stay.of (same_new hp)))))
      | _ => cases hz
    | lst a =>
      cases e with
      | lst b =>
        obtain ⟨a1, vs, rfl, s1, r1⟩ := hd.lstx
        obtain ⟨a2, us, rfl, s2, r2⟩ := he.lstx
        obtain ⟨hl, rfl⟩ := ite_ok hz
        have l1 := r1.length
        have l2 := r2.length
        exact op_catL pins s σ H _ _ v u Q I rx ry ⟨a1, a2, vs, us, rfl, rfl, .of s1, .of s2, by rw [← sz_eq]; omega, fun p hp => q _ _ (same_new hp) (FN.mk ho hp (r1.append r2))⟩
      | scr b =>
        obtain ⟨a1, vs, rfl, s1, r1⟩ := hd.lstx
        obtain ⟨a2, rfl, s2⟩ := he.scrx
        obtain ⟨hl, rfl⟩ := ite_ok hz
        have l1 := r1.length
        exact op_catL pins s σ H _ _ v u Q I rx ry ⟨a1, a2, vs, _, rfl, rfl, .of s1, s2, by rw [← sz_eq, List.length_map]; omega, fun p hp => q _ _ (same_new hp) (FN.mk ho hp (r1.append (FRs.ints b)))⟩
      | _ => cases hz
    | _ => cases hz
  | sub =>
    cases d with
    | int i =>
      cases e with
      | int j =>
        cases hd.int
        cases he.int
        cases ok_inj hz
        exact op_sub pins s σ H _ _ v u Q I rx ry ⟨i, j, rfl, rfl, q _ _ (Same.refl H) (.int _)⟩
      | _ => cases hz
    | _ => cases hz
  | mul =>
    cases d with
    | int i =>
      cases e with
      | int j =>
        cases hd.int
        cases he.int
        obtain ⟨hc, rfl⟩ := ite_ok hz
        have hc : mulOk i j = true := hc
        exact op_mul pins s σ H _ _ v u Q I rx ry ⟨i, j, rfl, rfl, mulOk_ok hc, q _ _ (Same.refl H) (.int _)⟩
      | _ => cases hz
    | lst a =>
      cases e with
      | int j =>
        cases he.int
        obtain ⟨hc, rfl⟩ := ite_ok hz
        obtain ⟨a1, vs, rfl, s1, r1⟩ := hd.lstx
        have l1 := r1.length
        refine op_rep pins s σ H _ _ v u Q I rx ry ⟨_, j, _, rfl, rfl, s1, hc.2.1, hc.2.2, by rw [← sz_eq, ← l1]; exact hc.1, fun p hp => ?_⟩
        rw [rep_flat]
        exact q _ _ (same_new hp) (FN.mk ho hp (r1.rep _))
      | _ => cases hz
    | tup a =>
      cases e with
      | int j =>
        cases he.int
        obtain ⟨a1, vs, rfl, s1, r1⟩ := hd.tup
        obtain ⟨⟨c1, c2, c3, c4⟩, rfl⟩ := ite_ok hz
        have l1 := r1.length
        refine op_repT pins s σ H _ _ v u Q I rx ry ⟨_, j, _, rfl, rfl, s1, fun e => ?_, c3, c4, by omega, fun p hp => ?_⟩
        · subst e
          simp only [List.length_nil] at l1
          omega
        · rw [rep_flat]
          exact q _ _ (same_new hp) (rBne (.tup (.inl (.inl upd_same)) ((r1.rep _).stay ho.w (Stay.of (same_new hp)))))
      | _ => cases hz
    | _ => cases hz
  | mod =>
    cases d with
    | int i =>
      cases e with
      | int j =>
        cases hd.int
        cases he.int
        obtain ⟨hc, rfl⟩ := ite_ok' hz
        exact op_modN pins s σ H _ _ v u Q I rx ry ⟨i, j, rfl, rfl, hc, q _ _ (Same.refl H) (.int _)⟩
      | _ => cases hz
    | _ => cases hz
  | fdiv =>
    cases d with
    | int i =>
      cases e with
      | int j =>
        cases hd.int
        cases he.int
        obtain ⟨hc, rfl⟩ := ite_ok hz
        exact op_fdivN pins s σ H _ _ v u Q I rx ry ⟨i, j, rfl, rfl, hc, q _ _ (Same.refl H) (.int _)⟩
      | _ => cases hz
    | _ => cases hz
  | pow =>
    cases d with
    | int i =>
      cases e with
      | int j =>
        cases hd.int
        cases he.int
        obtain ⟨hc, rfl⟩ := ite_ok hz
        exact op_pow pins s σ H _ _ v u Q I rx ry ⟨i, j, rfl, rfl, hc, q _ _ (Same.refl H) (.int _)⟩
      | _ => cases hz
    | _ => cases hz
end
end Rf
set_option Elab.async false
set_option linter.all false
set_option maxRecDepth 100000
set_option maxHeartbeats 2000000
/-! Rf4: comparisons, items, slices, built-ins on values, over the layer. Own work. -/
namespace Rf
open PySem PySem.Spec PyProof.Rows L2

/-! ### == -/
mutual
def toPy : D → PyData
  | .non => .none
  | .bl b => .bool b
  | .int i => .int i
  | .str x => .str x
  | .tup xs => .tuple (toPys xs)
  | .lst xs => .list (toPys xs)
  | .fn _ => .none
  | .scr _ => .none
def toPys : List D → List PyData
  | [] => []
  | x :: xs => toPy x :: toPys xs
end
mutual
theorem eqD_py : ∀ a b : D, plain a = true → plain b = true → eqD a b = PyData.eqv (toPy a) (toPy b)
  | .lst xs, .lst ys, h, k => by
    simp only [eqD, toPy, PyData.eqv]
    exact eqDs_py xs ys h k
  | .tup xs, .tup ys, h, k => by
    simp only [eqD, toPy, PyData.eqv]
    exact eqDs_py xs ys h k
  | .fn _, _, h, _ => by cases h
  | .scr _, _, h, _ => by cases h
  | .non, b, _, k => by cases b <;> first | rfl | cases k
  | .bl _, b, _, k => by cases b <;> first | rfl | cases k
  | .int _, b, _, k => by cases b <;> first | rfl | cases k
  | .str _, b, _, k => by cases b <;> first | rfl | cases k
  | .lst _, .non, _, _ | .lst _, .bl _, _, _ | .lst _, .int _, _, _ | .lst _, .str _, _, _ | .lst _, .tup _, _, _ => rfl
  | .lst _, .fn _, _, k => by cases k
  | .lst _, .scr _, _, k => by cases k
  | .tup _, .non, _, _ | .tup _, .bl _, _, _ | .tup _, .int _, _, _ | .tup _, .str _, _, _ | .tup _, .lst _, _, _ => rfl
  | .tup _, .fn _, _, k => by cases k
  | .tup _, .scr _, _, k => by cases k
theorem eqDs_py : ∀ a b : List D, plains a = true → plains b = true → eqDs a b = PyData.eqvAll (toPys a) (toPys b)
  | [], [], _, _ => rfl
  | [], _ :: _, _, _ => rfl
  | _ :: _, [], _, _ => rfl
  | x :: xs, y :: ys, h, k => by
    have h1 := Bool.and_eq_true_iff.mp (show (plain x && plains xs) = true from h)
    have k1 := Bool.and_eq_true_iff.mp (show (plain y && plains ys) = true from k)
    simp only [eqDs, toPys, PyData.eqvAll, eqD_py x y h1.1 k1.1, eqDs_py xs ys h1.2 k1.2]
end
mutual
theorem depth_py : ∀ a : D, (toPy a).depth = depth a
  | .lst xs => by simp only [toPy, PyData.depth, depth, depths_py xs]
  | .tup xs => by simp only [toPy, PyData.depth, depth, depths_py xs]
  | .non | .bl _ | .int _ | .str _ | .fn _ | .scr _ => by simp only [toPy, PyData.depth, depth]
theorem depths_py : ∀ a : List D, PyData.depthAll (toPys a) = depths a
  | [] => by simp only [toPys, PyData.depthAll, depths]
  | x :: xs => by simp only [toPys, PyData.depthAll, depths, depth_py x, depths_py xs]
end
section
variable {G : Wr} {ow : Addr → Prop} {H : Hp}
mutual
theorem FR.dp : ∀ {d : D} {v : V}, FR G ow H d v → plain d = true → Dp G.K H v (toPy d) ∧ (toPy d).canLay0 = true
  | _, _, .non, _ => ⟨.non, by simp only [toPy, PyData.canLay0]⟩
  | _, _, .bl b, _ => ⟨.bl b, by simp only [toPy, PyData.canLay0]⟩
  | _, _, .int i, _ => ⟨.int i, by simp only [toPy, PyData.canLay0]⟩
  | _, _, .str x e, _ => ⟨.str x, by simp only [toPy, PyData.canLay0]; exact e⟩
  | .tup ds, _, .tup s r, h => by
    obtain ⟨h1, h2⟩ := FRs.dp r h
    exact ⟨by simp only [toPy]; exact .tup s h1, by simp only [toPy, PyData.canLay0]; exact h2⟩
  | .lst ds, _, .lst s n r, h => by
    obtain ⟨h1, h2⟩ := FRs.dp r h
    exact ⟨by simp only [toPy]; exact .lst (.of s) h1, by simp only [toPy, PyData.canLay0]; exact h2⟩
  | _, _, .scr s, h => by cases h
  | _, _, .fn e, h => by cases h
theorem FRs.dp : ∀ {ds : List D} {vs : List V}, FRs G ow H ds vs → plains ds = true → DpAll G.K H vs (toPys ds) ∧ PyData.canLayAll0 (toPys ds) = true
  | _, _, .nil, _ => ⟨.nil, by simp only [toPys, PyData.canLayAll0]⟩
  | x :: xs, _, .cons r t, h => by
    have h1 := Bool.and_eq_true_iff.mp (show (plain x && plains xs) = true from h)
    obtain ⟨a1, a2⟩ := FR.dp r h1.1
    obtain ⟨b1, b2⟩ := FRs.dp t h1.2
    exact ⟨by simp only [toPys]; exact .cons a1 b1, by simp only [toPys, PyData.canLayAll0, a2, b2, Bool.and_self]⟩
end
theorem FL.dp {ka : Option Addr} {d : D} {v : V} (h : FL G ow ka H d v) (p : plain d = true) : Dp G.K H v (toPy d) ∧ (toPy d).canLay0 = true := by
  cases h with
  | of r => exact r.dp p
  | lst s n r =>
    obtain ⟨h1, h2⟩ := FRs.dp r p
    exact ⟨by simp only [toPy]; exact .lst (.of s) h1, by simp only [toPy, PyData.canLay0]; exact h2⟩
theorem FL.flat {ka : Option Addr} {d : D} {v : V} (h : FL G ow ka H d v) (p : flatD d = true) : flatV v = true ∧ FR G ow H d v := by
  cases h with
  | of r =>
    refine ⟨?_, r⟩
    cases r <;> first | rfl | cases p
  | lst s n r => cases p
theorem FRs.flat : ∀ {ds : List D} {vs : List V}, FRs G ow H ds vs → ds.all flatD = true → vs.all flatV = true
  | _, _, .nil, _ => rfl
  | x :: xs, _, .cons r t, h => by
    rw [List.all_cons, Bool.and_eq_true] at h ⊢
    exact ⟨((FL.of (ka := none) r).flat h.1).1, FRs.flat t h.2⟩
theorem eqV_eqD {d e : D} {v u : V} (h : FR G ow H d v) (k : FR G ow H e u) (p : flatD d = true) (q : flatD e = true) : eqV v u = eqD d e := by
  cases h <;> first | (cases p; done) | (cases k <;> first | (cases q; done) | (simp only [eqV, eqD]))
theorem inV_inD {x : D} {v : V} (h : FR G ow H x v) (p : flatD x = true) : ∀ {ds : List D} {vs : List V}, FRs G ow H ds vs → ds.all flatD = true → inV v vs = inD x ds
  | _, _, .nil, _ => rfl
  | d :: ds, _, .cons r t, q => by
    rw [List.all_cons, Bool.and_eq_true] at q
    have ih := inV_inD h p t q.2
    unfold inV inD at ih ⊢
    rw [List.any_cons, List.any_cons, ih, eqV_eqD r h q.1 p]
end

def opC : Cmp → CmpOp
  | .lt => .Lt | .le => .LtE | .gt => .Gt | .ge => .GtE | .eq => .Eq | .ne => .NotEq | .in_ => .In | .nin => .NotIn
section
variable {X : Cx}
theorem op_cmpD (hu : X.A.units + 64 < cLine) (o : Cmp) : OpR X (compareOp (opC o)) (rB (gx X) (cmpD o)) := by
  intro pins s σ H x y v u Q I rx ry ⟨ow, ka, d, e, z, ho, hd, he, hz, q⟩
  have ord : ∀ {op : CmpOp} {f : Int → Int → Bool}, OpR X (compareOp op) (rI0 fun i j => .bl (f i j)) → (∀ i j, d = .int i → e = .int j → z = .bl (f i j)) → (∃ i j, d = .int i ∧ e = .int j) →
      wpAny (model X.prog X.w) X.A (compareOp op v u) (EP X pins σ Q) X.xe s := fun {op f} r hz' ⟨i, j, ed, ee⟩ => by
    have ez := hz' i j ed ee
    subst ed ee ez
    cases hd.int
    cases he.int
    exact r pins s σ H _ _ v u Q I rx ry ⟨i, j, rfl, rfl, q _ _ (Same.refl H) (.bl _)⟩
  have two : ∀ {o : Cmp}, cmpD o d e = .ok z → (o = .lt ∨ o = .le ∨ o = .gt ∨ o = .ge) → ∃ i j, d = .int i ∧ e = .int j := fun {o} h ho => by
    cases d with
    | int i =>
      cases e with
      | int j => exact ⟨i, j, rfl, rfl⟩
      | _ => rcases ho with rfl | rfl | rfl | rfl <;> cases h
    | _ => rcases ho with rfl | rfl | rfl | rfl <;> cases h
  cases o with
  | lt => exact ord op_lt (fun i j a b => by subst a b; exact (ok_inj hz).symm) (two hz (by simp))
  | le => exact ord op_le (fun i j a b => by subst a b; exact (ok_inj hz).symm) (two hz (by simp))
  | gt => exact ord op_gt (fun i j a b => by subst a b; exact (ok_inj hz).symm) (two hz (by simp))
  | ge => exact ord op_ge (fun i j a b => by subst a b; exact (ok_inj hz).symm) (two hz (by simp))
  | eq =>
    have hz' : (if eqOk d e = true then R.ok (D.bl (eqD d e)) else R.no) = .ok z := hz
    obtain ⟨hc, rfl⟩ := ite_ok hz'
    unfold eqOk at hc
    simp only [Bool.and_eq_true, decide_eq_true_eq] at hc
    obtain ⟨d1, d2⟩ := hd.dp hc.1.1
    obtain ⟨e1, e2⟩ := he.dp hc.1.2
    obtain ⟨as, a1⟩ := Dp.reads I _ x v d1 rx
    obtain ⟨bs, b1⟩ := Dp.reads I _ y u e1 ry
    refine SeqAt.compareEq_reads a1 b1 d2 e2 (by rw [depth_py, depth_py]; omega) ⟨.bl _, H, I, rfl, ?_⟩
    rw [← eqD_py d e hc.1.1 hc.1.2]
    exact q _ _ (Same.refl H) (.bl _)
  | ne =>
    have hz' : (if eqOk d e = true then R.ok (D.bl (!eqD d e)) else R.no) = .ok z := hz
    obtain ⟨hc, rfl⟩ := ite_ok hz'
    unfold eqOk at hc
    simp only [Bool.and_eq_true, decide_eq_true_eq] at hc
    obtain ⟨d1, d2⟩ := hd.dp hc.1.1
    obtain ⟨e1, e2⟩ := he.dp hc.1.2
    obtain ⟨as, a1⟩ := Dp.reads I _ x v d1 rx
    obtain ⟨bs, b1⟩ := Dp.reads I _ y u e1 ry
    refine SeqAt.compareNe_reads a1 b1 d2 e2 (by rw [depth_py, depth_py]; omega) ⟨.bl _, H, I, rfl, ?_⟩
    rw [← eqD_py d e hc.1.1 hc.1.2]
    exact q _ _ (Same.refl H) (.bl _)
  | in_ =>
    cases e with
    | tup b =>
      obtain ⟨hc, rfl⟩ := ite_ok hz
      rw [Bool.and_eq_true] at hc
      obtain ⟨f1, f2⟩ := hd.flat hc.1
      obtain ⟨a, vs, rfl, s1, r1⟩ := he.tup
      refine op_in_seq pins s σ H _ _ v u Q I rx ry ⟨a, vs, rfl, .inr s1, f1, r1.flat hc.2, ?_⟩
      rw [inV_inD f2 hc.1 r1 hc.2]
      exact q _ _ (Same.refl H) (.bl _)
    | lst b =>
      obtain ⟨hc, rfl⟩ := ite_ok hz
      rw [Bool.and_eq_true] at hc
      obtain ⟨f1, f2⟩ := hd.flat hc.1
      obtain ⟨a, vs, rfl, s1, r1⟩ := he.lstx
      refine op_in_seq pins s σ H _ _ v u Q I rx ry ⟨a, vs, rfl, .inl (.of s1), f1, r1.flat hc.2, ?_⟩
      rw [inV_inD f2 hc.1 r1 hc.2]
      exact q _ _ (Same.refl H) (.bl _)
    | _ => cases hz
  | nin =>
    cases e with
    | tup b =>
      obtain ⟨hc, rfl⟩ := ite_ok hz
      rw [Bool.and_eq_true] at hc
      obtain ⟨f1, f2⟩ := hd.flat hc.1
      obtain ⟨a, vs, rfl, s1, r1⟩ := he.tup
      refine op_notIn_seq pins s σ H _ _ v u Q I rx ry ⟨a, vs, rfl, .inr s1, f1, r1.flat hc.2, ?_⟩
      rw [inV_inD f2 hc.1 r1 hc.2]
      exact q _ _ (Same.refl H) (.bl _)
    | lst b =>
      obtain ⟨hc, rfl⟩ := ite_ok hz
      rw [Bool.and_eq_true] at hc
      obtain ⟨f1, f2⟩ := hd.flat hc.1
      obtain ⟨a, vs, rfl, s1, r1⟩ := he.lstx
      refine op_notIn_seq pins s σ H _ _ v u Q I rx ry ⟨a, vs, rfl, .inl (.of s1), f1, r1.flat hc.2, ?_⟩
      rw [inV_inD f2 hc.1 r1 hc.2]
      exact q _ _ (Same.refl H) (.bl _)
    | _ => cases hz
end
end Rf
set_option Elab.async false
set_option linter.all false
set_option maxRecDepth 100000
set_option maxHeartbeats 2000000
/-! Rf5: items, slices, built-ins on values, over the layer. Own work. -/
namespace Rf
open PySem PySem.Spec PyProof.Rows L2

/-! ### t[::-1] of a tuple -/
theorem places_rev (n : Nat) : Builtin.Slice.slicePlaces ((n : Int) - 1) (-1) (-1) = n := by
  unfold Builtin.Slice.slicePlaces
  by_cases h : n = 0
  · subst h
    rfl
  · rw [if_neg (by decide), if_pos (by omega)]
    have e : ((n : Int) - 1 - -1 - 1) / (- -1) + 1 = n := by
      rw [show (- -1 : Int) = 1 by decide, Int.ediv_one]
      omega
    rw [e]
    exact Int.toNat_natCast n
theorem rev_range (xs : List Value) : ∀ n : Nat, n ≤ xs.length → (List.range n).filterMap (fun (k : Nat) => xs.toArray[(((xs.length : Int) - 1) + (k : Int) * (-1)).toNat]?) = (xs.drop (xs.length - n)).reverse
  | 0, _ => by simp
  | n + 1, h => by
    rw [List.range_succ, List.filterMap_append, rev_range xs n (by omega)]
    have e1 : (((xs.length : Int) - 1) + (n : Int) * (-1)).toNat = xs.length - (n + 1) := by omega
    have e2 : xs.drop (xs.length - (n + 1)) = xs[xs.length - (n + 1)] :: xs.drop (xs.length - n) := by
      rw [List.drop_eq_getElem_cons (by omega)]
      congr 2
      omega
    rw [e2, List.reverse_cons]
    congr 1
    simp only [List.filterMap_cons, List.filterMap_nil, e1, List.getElem?_toArray]
    rw [List.getElem?_eq_getElem (by omega)]
theorem pick_rev (xs : List Value) : ((List.range xs.length).filterMap fun (k : Nat) => xs.toArray[(((xs.length : Int) - 1) + (k : Int) * (-1)).toNat]?).toArray = xs.reverse.toArray := by
  rw [rev_range xs xs.length (Nat.le_refl _), Nat.sub_self]
  rfl
section
variable {prog : Program} {w : World} {A : Around} {E : Value → Shared → Prop} {s : Shared}
theorem applied_rev {sl : Addr} {vl vu vs : Value} {n : Nat} {Q : Int × Int × Nat → Shared → Prop} (hs : s.heap.IsSliceOf sl vl vu vs) (pl : IsPart vl none) (pu : IsPart vu none) (ps : IsPart vs (some (-1)))
    (h : Q ((n : Int) - 1, -1, n) s) : wpAny (model prog w) A (Builtin.Slice.sliceApplied (.ref sl) (pure (n : Int))) Q E s := by
  obtain ⟨os, hos, hcs, hds⟩ := id hs
  unfold Builtin.Slice.sliceApplied Builtin.Slice.sliceFields
  refine wpAny_bind (wpAny_bind (wpAny_field hos hds (x := vl) rfl (wpAny_bind (wpAny_field hos hds (x := vu) rfl (wpAny_bind (wpAny_field hos hds (x := vs) rfl (wpAny_pure ?_)))))))
  refine wpAny_bind (HT.slicePart_ ps ?_)
  show wpAny _ _ (if ((-1 : Int) == 0) = true then _ else _) _ _ s
  rw [if_neg (by decide)]
  refine wpAny_bind (HT.slicePart_ pl ?_)
  refine wpAny_bind (HT.slicePart_ pu ?_)
  refine wpAny_bind (wpAny_pure ?_)
  show wpAny _ _ (pure ((n : Int) - 1, (-1 : Int), Builtin.Slice.slicePlaces ((n : Int) - 1) (-1) (-1))) _ _ s
  rw [places_rev]
  exact wpAny_pure h
theorem getItem_tuple_rev {t sl : Addr} {items : List Value} {vl vu vs : Value} {Q : Value → Shared → Prop} (ht : IsTup s.heap t items.toArray) (hs : s.heap.IsSliceOf sl vl vu vs) (pl : IsPart vl none) (pu : IsPart vu none)
    (ps : IsPart vs (some (-1))) (h : Q (.ref s.heap.objs.size) { s with heap := s.heap.push { cls := .type "tuple", data := .seq items.reverse.toArray } }) (hsz : items.length ≤ sizeLine) :
    wpAny (model prog w) A (getItem (.ref t) (.ref sl)) Q E s := by
  have hok : sizeOk (.seq items.reverse.toArray) := by
    show items.reverse.toArray.size ≤ sizeLine
    rw [List.size_toArray, List.length_reverse]
    exact hsz
  obtain ⟨os, hos, hcs, hds⟩ := id hs
  have hTs : s.TypeIs (.ref sl) "slice" := ⟨os, hos, hcs⟩
  unfold getItem
  try with_reducible refine wpAny_holding ?_
  first | refine wpAny_bind (wpAny_pure ?_) | skip
  refine wpAny_bind (wpAny_sequenceKey ht.typeIs (by decide) ?_)
  refine wpAny_bind (wpAny_callSpecial?_slot (name := Str.ofString "__getitem__") ht.typeIs PyProof.Rows.slot_tuple_getitem (wpAny_call_entry PyProof.Rows.slot_tuple_getitem ht.typeIs entry_tuple_getitem ?_ (args_tuple_getitem _ _)))
  show wpAny _ _ (Builtin.Tuple.tupleItemsOf (.ref t) >>= _) _ _ s
  refine wpAny_bind (tupleItemsOf_ ht ?_)
  refine wpAny_bind (wpAny_typeOf hTs ?_)
  rw [if_pos (by decide)]
  rw [List.size_toArray]
  refine wpAny_bind (applied_rev hs pl pu ps ?_)
  have hno : ¬ (((items.length : Int) - 1 == 0 && (-1 : Int) == 1 && items.length == items.length) = true) := by
    intro q
    rw [Bool.and_eq_true, Bool.and_eq_true] at q
    exact absurd q.1.2 (by decide)
  show wpAny _ _ (if ((items.length : Int) - 1 == 0 && (-1 : Int) == 1 && items.length == items.length) = true then _ else _) _ _ s
  rw [if_neg hno, pick_rev]
  first
    | exact wpAny_bind (m := Builtin.Tuple.tupleExact _) (wpAny_newObj_type (wpAny_pure ⟨_, rfl, wpAny_pure h⟩) hok)
    | exact wpAny_bind (m := Builtin.Tuple.tupleExact _) (wpAny_newObj_type (wpAny_bind (wpAny_pure (wpAny_pure ⟨_, rfl, wpAny_pure h⟩))) hok)
    | exact wpAny_bind (wpAny_bind (m := Builtin.Tuple.tupleExact _) (wpAny_newObj_type (wpAny_pure (wpAny_pure ⟨_, rfl, wpAny_pure h⟩)) hok))
end

/-! ### a[i] -/
/-- as rB, what comes may be an elder list -/
def rF (G : Wr) (sem : D → D → R D) : R2 := fun x y H Q => ∃ (ow : Addr → Prop) (ka : Option Addr) (d e z : D), Own ow H ∧ FL G ow ka H d x ∧ FL G ow ka H e y ∧ sem d e = .ok z ∧ ∀ v, FR G ow H z v → Q v H
theorem place_ixN (n : Nat) (i : Int) : ixN n i = place n i := by
  unfold ixN place
  by_cases h : 0 ≤ i
  · rw [if_pos h, if_pos h]
  · rw [if_neg h, if_neg h]
    by_cases k : -(n : Int) ≤ i
    · rw [if_pos k, if_pos (by omega)]
    · rw [if_neg k, if_neg (by omega)]
theorem ixL_at {G : Wr} {ow : Addr → Prop} {H : Hp} {ds : List D} {vs : List V} {i : Int} {z : D} (r : FRs G ow H ds vs) (h : ixL ds i = .ok z) : ∃ v, atI vs i = some v ∧ FR G ow H z v := by
  unfold ixL at h
  unfold atI
  rw [place_ixN, ← r.length]
  cases e : place ds.length i with
  | none =>
    rw [e] at h
    cases h
  | some j =>
    rw [e] at h
    cases e2 : ds[j]? with
    | none =>
      simp only [e2] at h
      cases h
    | some d =>
      simp only [e2] at h
      cases h
      obtain ⟨v, h1, h2⟩ := r.get e2
      exact ⟨v, h1, h2⟩
section
variable {X : Cx}
theorem ix_D : IxR X (rF (gx X) ixD) := by
  intro value slice pins s σ H x y v u Q I rx ry ⟨ow, ka, d, e, z, ho, hd, he, hz, q⟩ hs
  cases d with
  | tup xs =>
    cases e with
    | int i =>
      cases he.int
      obtain ⟨a, vs, rfl, s1, r1⟩ := hd.tup
      obtain ⟨w, h1, h2⟩ := ixL_at r1 hz
      exact ix_tup value slice pins s σ H _ _ v u Q I rx ry ⟨a, vs, i, w, rfl, rfl, s1, h1, q _ h2⟩ hs
    | _ => cases hz
  | lst xs =>
    cases e with
    | int i =>
      cases he.int
      obtain ⟨a, vs, rfl, s1, r1⟩ := hd.lstx
      obtain ⟨w, h1, h2⟩ := ixL_at r1 hz
      exact ix_list value slice pins s σ H _ _ v u Q I rx ry ⟨a, vs, i, w, rfl, rfl, .of s1, h1, q _ h2⟩ hs
    | _ => cases hz
  | str t =>
    cases e with
    | int i =>
      cases he.int
      obtain ⟨rfl, ok⟩ := hd.str
      unfold ixD at hz
      cases e1 : place t.cps.size i with
      | none =>
        simp only [e1] at hz
        cases hz
      | some j =>
        cases e2 : t.cps[j]? with
        | none =>
          simp only [e1, e2] at hz
          cases hz
        | some c =>
          simp only [e1, e2] at hz
          obtain ⟨hl, rfl⟩ := ite_ok hz
          refine ix_str value slice pins s σ H _ _ v u Q I rx ry ⟨t, i, c, rfl, rfl, by rw [← sz_eq]; exact hl, ?_, q _ (.str _ ?_)⟩ hs
          · unfold atI
            rw [place_ixN, Array.length_toList, e1]
            show t.cps.toList[j]? = some c
            rw [Array.getElem?_toList]
            exact e2
          · unfold PyData.strOk at ok ⊢
            rw [Array.all_eq_true] at ok ⊢
            intro k hk
            have hk0 : k = 0 := by simpa using hk
            subst hk0
            obtain ⟨hj, e3⟩ := Array.getElem?_eq_some_iff.mp e2
            have := ok j hj
            rw [e3] at this
            exact this
    | _ => cases hz
  | _ => cases e <;> cases hz
end

/-! ### a[lo:hi] -/
theorem sEnd_sIx (n d : Nat) (o : Option Int) : HT.sIx n d o = sEnd n d o := by
  cases o <;> rfl
theorem FRs.cut {G : Wr} {ow : Addr → Prop} {H : Hp} {ds : List D} {vs : List V} (r : FRs G ow H ds vs) (lo hi : Option Int) : FRs G ow H (cut ds lo hi) (cutV vs lo hi) := by
  unfold Rf.cut cutV
  rw [sEnd_sIx, sEnd_sIx, ← r.length]
  exact (r.drop _).take _
def rS (G : Wr) : V → Option Int → Option Int → Hp → VK → Prop := fun x lo hi H Q => ∃ (ow : Addr → Prop) (ka : Option Addr) (d z : D), Own ow H ∧ FL G ow ka H d x ∧ slD d lo hi = .ok z ∧ ∀ H' v, Same H H' → FN G ow H H' z v → Q v H'
theorem cut_whole {α : Type} (xs : List α) {lo hi : Option Int} (h : sEnd xs.length 0 lo = 0 ∧ sEnd xs.length xs.length hi = xs.length) : cut xs lo hi = xs := by
  unfold cut
  rw [h.1, h.2]
  simp
section
variable {X : Cx}
theorem sl_D : SlR X (rS (gx X)) := by
  intro pins s σ H x v vl vu lo hi sl Q I rx hs pl pu ⟨ow, ka, d, z, ho, hd, hz, q⟩
  cases d with
  | tup xs =>
    cases ok_inj hz
    obtain ⟨a, vs, rfl, s1, r1⟩ := hd.tup
    refine sl_tupA pins s σ H _ v vl vu lo hi sl Q I rx hs pl pu ⟨a, vs, rfl, s1, fun hw => ?_, fun hw p hp => ?_⟩
    · rw [sEnd_sIx, sEnd_sIx, ← r1.length] at hw
      rw [cut_whole xs hw] at q
      exact q _ _ (Same.refl H) (rBne (.tup s1 r1))
    · exact q _ _ (same_new hp) (rBne (.tup (.inl (.inl upd_same)) ((r1.cut lo hi).stay ho.w (Stay.of (same_new hp)))))
  | lst xs =>
    cases ok_inj hz
    obtain ⟨a, vs, rfl, s1, r1⟩ := hd.lstx
    exact sl_list pins s σ H _ v vl vu lo hi sl Q I rx hs pl pu ⟨a, vs, rfl, .of s1, fun p hp => q _ _ (same_new hp) (FN.mk ho hp (r1.cut lo hi))⟩
  | _ => cases hz
/-- a[::-1] -/
def tRv (G : Wr) (te : TE) : TE := fun σ H Q => te σ H fun x H1 => ∃ (ow : Addr → Prop) (ka : Option Addr) (d z : D), Own ow H1 ∧ FL G ow ka H1 d x ∧ revD d = .ok z ∧ ∀ H' v, Same H1 H' → FN G ow H1 H' z v → Q v H'
theorem pe_rev {e : Expr} {te : TE} {k : Nat} {p1 p2 p3 pos : Pos} (he : PE X e te) : PE X (.Subscript e (.Slice none none (some (.UnaryOp .USub (.Constant (.int 1) k p1) p2)) p3) pos) (tRv (gx X) te) := by
  refine ⟨fun pins s σ H Q I h => ?_⟩
  refine Subscript_ (thn (he.run pins s σ H _ I h) fun v s1 ⟨x, H1, I1, r1, q1⟩ => ?_)
  obtain ⟨ow, ka, d, z, ho, hd, hz, q⟩ := q1
  have hst : PO X (some (.UnaryOp .USub (.Constant (.int 1) k p1) p2)) (tPart (tUn (rU fun i => .int (-i)) (tC (.int 1)))) := po_some (pe_un un_neg pe_int)
  refine wpAny_Slice (thn (po_none.run pins s1 σ H1 (fun o H2 => o = none ∧ H2 = H1) I1 ⟨rfl, rfl⟩) fun vl s2 hh => ?_)
  obtain ⟨l, H2, I2, pl, el, e2⟩ := hh
  subst el e2
  refine thn (po_none.run pins s2 σ H2 (fun o H3 => o = none ∧ H3 = H2) I2 ⟨rfl, rfl⟩) fun vu s3 hh => ?_
  obtain ⟨u, H3, I3, pu, eu, e3⟩ := hh
  subst eu e3
  refine thn (hst.run pins s3 σ H3 (fun o H4 => o = some (-1) ∧ H4 = H3) I3 ⟨1, rfl, -1, rfl, rfl, rfl⟩) fun vs s4 hh => ?_
  obtain ⟨o, H4, I4, ps, eo, e4⟩ := hh
  subst eo e4
  have I5 : Inv X pins σ H4 { s4 with heap := s4.heap.push { cls := .type "slice", data := .fields #[vl, vu, vs] } } := I4.kept (t' := s4.toks) fun b ob q => Heap.get?_push_of_some _ q
  have fr : H4 (s4.heap.objs.size + 1) = none := I4.hok.fresh (Nat.le_succ _)
  have sz5 : (s4.heap.push { cls := .type "slice", data := .fields #[vl, vu, vs] }).objs.size = s4.heap.objs.size + 1 := Heap.size_push ..
  cases d with
  | lst xs =>
    cases ok_inj hz
    obtain ⟨a, ws, rfl, hx, rr⟩ := hd.lstx
    cases r1
    obtain ⟨its, r, ht, hzl⟩ := I5.list (.of hx)
    have hlen := r.length
    show wpAny _ _ (subscriptTail e (.Slice none none (some (.UnaryOp .USub (.Constant (.int 1) k p1) p2)) p3) (.ref a) (.ref s4.heap.objs.size)) _ _ _
    refine tail_any (ops := [.ref a, .ref s4.heap.objs.size]) ht.isList.typeIs (PySem.slot_list_getitem.lookup) ?_ (by with_unfolding_all rfl)
    refine wpAny_getItem_list_slice ht.isList (Heap.IsSliceOf.new _ vl vu vs) pl pu ps (by decide) ?_ (by rw [List.size_toArray]; omega)
    rw [PySem.W.krv_pick]
    refine ⟨.ref _, _, I5.laid (t' := s4.toks) (o := .lst ws.reverse) (fun b ob q => Heap.get?_push_of_some _ q) (Nat.le_refl _) ?_, rfl, q _ _ (same_new (by rw [sz5]; exact fr)) (FN.mk ho (by rw [sz5]; exact fr) rr.reverse)⟩
    exact ⟨by rw [List.length_reverse]; exact hzl, _, 0, r.reverse, Heap.get?_push_size _ rfl⟩
  | tup xs =>
    cases ok_inj hz
    obtain ⟨a, ws, rfl, hx, rr⟩ := hd.tup
    cases r1
    obtain ⟨its, r, ht, hzl⟩ := I5.tuple hx
    have hlen := r.length
    show wpAny _ _ (subscriptTail e (.Slice none none (some (.UnaryOp .USub (.Constant (.int 1) k p1) p2)) p3) (.ref a) (.ref s4.heap.objs.size)) _ _ _
    refine tail_any (ops := [.ref a, .ref s4.heap.objs.size]) ht.typeIs (PyProof.Rows.slot_tuple_getitem.lookup) ?_ (by with_unfolding_all rfl)
    refine getItem_tuple_rev ht (Heap.IsSliceOf.new _ vl vu vs) pl pu ps ?_ (by omega)
    have hs5 := same_new (H := H4) (p := (s4.heap.push { cls := .type "slice", data := .fields #[vl, vu, vs] }).objs.size) (o := .tup ws.reverse) (by rw [sz5]; exact fr)
    refine ⟨.ref _, _, I5.laid (t' := s4.toks) (o := .tup ws.reverse) (fun b ob q => Heap.get?_push_of_some _ q) (Nat.le_refl _) ?_, rfl, q _ _ hs5 (rBne (.tup (.inl (.inl upd_same)) (rr.reverse.stay ho.w (Stay.of hs5))))⟩
    exact ⟨by rw [List.length_reverse]; exact hzl, _, r.reverse, IsTup.new _ _⟩
  | _ => cases hz
end

/-! ### built-ins of one argument -/
def rU1 (G : Wr) (sem : D → R D) : List V → Hp → VK → Prop := fun xs H Q => ∃ (ow : Addr → Prop) (ka : Option Addr) (d z : D) (x : V), xs = [x] ∧ Own ow H ∧ FL G ow ka H d x ∧ sem d = .ok z ∧ ∀ H' v, Same H H' → FN G ow H H' z v → Q v H'
theorem intsD_of {G : Wr} {ow : Addr → Prop} {H : Hp} : ∀ {ds : List D} {vs : List V} {ns : List Int}, FRs G ow H ds vs → intsD ds = some ns → vs = ns.map V.int
  | _, _, ns, .nil, h => by
    cases h
    rfl
  | .int i :: ds, _, ns, .cons r t, h => by
    cases r
    unfold intsD at h
    cases e : intsD ds with
    | none =>
      rw [e] at h
      cases h
    | some ms =>
      rw [e] at h
      cases h
      rw [intsD_of t e]
      rfl
  | .non :: _, _, _, .cons _ _, h | .bl _ :: _, _, _, .cons _ _, h | .str _ :: _, _, _, .cons _ _, h | .tup _ :: _, _, _, .cons _ _, h | .lst _ :: _, _, _, .cons _ _, h | .fn _ :: _, _, _, .cons _ _, h | .scr _ :: _, _, _, .cons _ _, h => by cases h
theorem boolsD_of {G : Wr} {ow : Addr → Prop} {H : Hp} : ∀ {ds : List D} {vs : List V} {ns : List Bool}, FRs G ow H ds vs → boolsD ds = some ns → vs = ns.map V.bl
  | _, _, ns, .nil, h => by
    cases h
    rfl
  | .bl i :: ds, _, ns, .cons r t, h => by
    cases r
    unfold boolsD at h
    cases e : boolsD ds with
    | none =>
      rw [e] at h
      cases h
    | some ms =>
      rw [e] at h
      cases h
      rw [boolsD_of t e]
      rfl
  | .non :: _, _, _, .cons _ _, h | .int _ :: _, _, _, .cons _ _, h | .str _ :: _, _, _, .cons _ _, h | .tup _ :: _, _, _, .cons _ _, h | .lst _ :: _, _, _, .cons _ _, h | .fn _ :: _, _, _, .cons _ _, h | .scr _ :: _, _, _, .cons _ _, h => by cases h
/-- where a built-in stands: a function or a type -/
def biV : Bi → Value
  | .len => .builtin "len" | .tuple => .type "tuple" | .list => .type "list" | .int => .type "int" | .abs => .builtin "abs" | .sum => .builtin "sum" | .all => .builtin "all" | .any => .builtin "any"
section
variable {X : Cx}
theorem call_bi (hc : X.calm = true) (b : Bi) : CallR X (biV b) (rU1 (gx X) (biD b)) := by
  intro pins s σ H xs us Q I rs h
  obtain ⟨ow, ka, d, z, x, rfl, ho, hd, hz, q⟩ := h
  cases b with
  | len =>
    cases d with
    | tup xs =>
      cases ok_inj hz
      obtain ⟨a, vs, rfl, s1, r1⟩ := hd.tup
      refine call_len_seq pins s σ H _ us Q I rs ⟨a, vs, rfl, .inr s1, ?_⟩
      rw [← r1.length]
      exact q _ _ (Same.refl H) (.int _)
    | lst xs =>
      cases ok_inj hz
      obtain ⟨a, vs, rfl, s1, r1⟩ := hd.lstx
      refine call_len_seq pins s σ H _ us Q I rs ⟨a, vs, rfl, .inl (.of s1), ?_⟩
      rw [← r1.length]
      exact q _ _ (Same.refl H) (.int _)
    | str t =>
      obtain ⟨rfl, _⟩ := hd.str
      obtain ⟨hl, rfl⟩ := ite_ok hz
      exact call_len_str pins s σ H _ us Q I rs ⟨t, rfl, by rw [← sz_eq]; exact hl, q _ _ (Same.refl H) (.int _)⟩
    | _ => cases hz
  | tuple =>
    cases d with
    | tup xs =>
      cases ok_inj hz
      obtain ⟨a, vs, rfl, s1, r1⟩ := hd.tup
      exact call_tuple_of pins s σ H _ us Q I rs ⟨a, vs, rfl, .inr ⟨s1, q _ _ (Same.refl H) (rBne (.tup s1 r1))⟩⟩
    | lst xs =>
      cases ok_inj hz
      obtain ⟨a, vs, rfl, s1, r1⟩ := hd.lstx
      exact call_tuple_of pins s σ H _ us Q I rs ⟨a, vs, rfl, .inl ⟨.of s1, fun p hp => q _ _ (same_new hp) (rBne (.tup (.inl (.inl upd_same)) (r1.stay ho.w (Stay.of (same_new hp)))))⟩⟩
    | _ => cases hz
  | list =>
    cases d with
    | tup xs =>
      cases ok_inj hz
      obtain ⟨a, vs, rfl, s1, r1⟩ := hd.tup
      exact call_list_of pins s σ H _ us Q I rs ⟨a, vs, rfl, .inr s1, fun p hp => q _ _ (same_new hp) (FN.mk ho hp r1)⟩
    | lst xs =>
      cases ok_inj hz
      obtain ⟨a, vs, rfl, s1, r1⟩ := hd.lstx
      exact call_list_of pins s σ H _ us Q I rs ⟨a, vs, rfl, .inl (.of s1), fun p hp => q _ _ (same_new hp) (FN.mk ho hp r1)⟩
    | _ => cases hz
  | int =>
    cases d with
    | int i =>
      cases ok_inj hz
      cases hd.int
      exact call_int1 pins s σ H _ us Q I rs (.inl ⟨i, rfl, q _ _ (Same.refl H) (.int _)⟩)
    | bl b =>
      cases ok_inj hz
      cases hd.bl
      exact call_int1 pins s σ H _ us Q I rs (.inr ⟨b, rfl, q _ _ (Same.refl H) (.int _)⟩)
    | _ => cases hz
  | abs =>
    cases d with
    | int i =>
      cases ok_inj hz
      cases hd.int
      exact call_abs pins s σ H _ us Q I rs ⟨i, rfl, q _ _ (Same.refl H) (.int _)⟩
    | _ => cases hz
  | sum =>
    cases d with
    | lst xs =>
      obtain ⟨a, vs, rfl, s1, r1⟩ := hd.lstx
      have hz' : (match intsD xs with | some ns => R.ok (D.int ns.sum) | none => R.no) = .ok z := hz
      cases e : intsD xs with
      | none =>
        rw [e] at hz'
        cases hz'
      | some ns =>
        rw [e] at hz'
        cases hz'
        have ev := intsD_of r1 e
        subst ev
        exact cr_sum hc pins s σ H _ us Q I rs ⟨a, ns, rfl, .of s1, q _ _ (Same.refl H) (.int _)⟩
    | _ => cases hz
  | all =>
    cases d with
    | lst xs =>
      obtain ⟨a, vs, rfl, s1, r1⟩ := hd.lstx
      have hz' : (match boolsD xs with | some bs => R.ok (D.bl (bs.all id)) | none => R.no) = .ok z := hz
      cases e : boolsD xs with
      | none =>
        rw [e] at hz'
        cases hz'
      | some ns =>
        rw [e] at hz'
        cases hz'
        have ev := boolsD_of r1 e
        subst ev
        exact cr_all hc pins s σ H _ us Q I rs ⟨a, ns, rfl, .of s1, q _ _ (Same.refl H) (.bl _)⟩
    | _ => cases hz
  | any =>
    cases d with
    | lst xs =>
      obtain ⟨a, vs, rfl, s1, r1⟩ := hd.lstx
      have hz' : (match boolsD xs with | some bs => R.ok (D.bl (bs.any id)) | none => R.no) = .ok z := hz
      cases e : boolsD xs with
      | none =>
        rw [e] at hz'
        cases hz'
      | some ns =>
        rw [e] at hz'
        cases hz'
        have ev := boolsD_of r1 e
        subst ev
        exact cr_any hc pins s σ H _ us Q I rs ⟨a, ns, rfl, .of s1, q _ _ (Same.refl H) (.bl _)⟩
    | _ => cases hz
end
end Rf
set_option Elab.async false
set_option linter.all false
set_option maxRecDepth 100000
set_option maxHeartbeats 2000000
/-! Rf6: expressions: what a node of the small language asks is what the layer's rule asks. Own work. -/
namespace Rf
open PySem PySem.Spec PyProof.Rows L2

/-! ### readings -/
def Rs {α : Type} (r : R (α × Dk)) (ok : α → Dk → Prop) (er : Ex → Prop) : Prop := match r with
  | .ok a => ok a.1 a.2
  | .err x => er x
  | .no => False
theorem Rs_bind {α β : Type} {r : R (α × Dk)} {f : α × Dk → R (β × Dk)} {ok : β → Dk → Prop} {er : Ex → Prop} (h : Rs (r.bind f) ok er) : Rs r (fun a k => Rs (f (a, k)) ok er) er := by
  cases r with
  | ok a => exact h
  | err x => exact h
  | no => exact h
theorem Rs_pure {α β : Type} {r : R α} {f : α → R (β × Dk)} {ok : β → Dk → Prop} {er : Ex → Prop} (h : Rs ((noErr r).bind f) ok er) : ∃ a, r = .ok a ∧ Rs (f a) ok er := by
  cases r with
  | ok a => exact ⟨a, rfl, h⟩
  | err x => exact False.elim h
  | no => exact False.elim h
theorem Rs.mono {α : Type} {r : R (α × Dk)} {ok ok' : α → Dk → Prop} {er : Ex → Prop} (h : Rs r ok er) (f : ∀ a k, ok a k → ok' a k) : Rs r ok' er := by
  cases r with
  | ok a => exact f _ _ h
  | err x => exact h
  | no => exact h
/-- the error x of the package lies so: of its class, its field in its own dict -/
def ExR (G : Wr) (x : Ex) (c : Value) (dd : Option Addr) (H' : Hp) : Prop := ∃ C, c = .ref C ∧ G.mg x.cls = some (.ref C) ∧ match x.val with
  | none => True
  | some (f, i) => ∃ d, dd = some d ∧ H' d = some (.xd [(f, .int i)])
def Erw (G : Wr) (H0 : Hp) (ka : Option Addr) (W : XK) : Ex → Prop := fun x => ∀ c dd H', ExR G x c dd H' → Kp H0 ka H' → W c dd H'
abbrev PostT := Wr → (Addr → Prop) → Option Addr → Hp → Hp → D → V → Prop
def PL : PostT := fun G ow ka _ H' d v => FL G ow ka H' d v
def PF : PostT := fun G ow _ _ H' d v => FR G ow H' d v
def PN : PostT := fun G ow _ H H' d v => FN G ow H H' d v
def TEp (P : PostT) (G : Wr) (cl : CL) (W : XK) (e : E) : TE := fun σ H Q => ∃ H0 ow0 ow ka st, SR G H0 ow0 ow ka st σ H ∧ Rs (evE cl st.ρ e st.k) (fun d k' => ∀ H' v, XS G ow ka k' H H' → P G ow ka H H' d v → Q v H') (Erw G H0 ka W)
def TTp (G : Wr) (cl : CL) (W : XK) (e : E) : TT := fun σ H Q => ∃ H0 ow0 ow ka st, SR G H0 ow0 ow ka st σ H ∧ Rs (evE cl st.ρ e st.k) (fun d k' => ∃ b, d = .bl b ∧ ∀ H', XS G ow ka k' H H' → Q b H') (Erw G H0 ka W)
def TAp (G : Wr) (cl : CL) (W : XK) (es : List E) : TA := fun σ H Q => ∃ H0 ow0 ow ka st, SR G H0 ow0 ow ka st σ H ∧ Rs (evL cl st.ρ es st.k) (fun ds k' => ∀ H' vs, XS G ow ka k' H H' → FRs G ow H' ds vs → Q vs H') (Erw G H0 ka W)
theorem PEi {X : Cx} {e : Expr} {t t' : TE} (h : PE X e t) (f : ∀ σ H Q, t' σ H Q → t σ H Q) : PE X e t' := ⟨fun pins s σ H Q I w => h.run pins s σ H Q I (f σ H Q w)⟩
theorem PTi {X : Cx} {e : Expr} {t t' : TT} (h : PT X e t) (f : ∀ σ H Q, t' σ H Q → t σ H Q) : PT X e t' := ⟨fun pins s σ H Q I w => h.run pins s σ H Q I (f σ H Q w)⟩
theorem PAi {X : Cx} {e : List Expr} {t t' : TA} (h : PA X e t) (f : ∀ σ H Q, t' σ H Q → t σ H Q) : PA X e t' := ⟨fun pos pins s σ H Q I w => h.run pos pins s σ H Q I (f σ H Q w)⟩
section
variable {G : Wr} {cl : CL} {W : XK} {e : E} {σ : L2.St} {H : Hp} {Q : VK}
theorem TEp.n_f (h : TEp PF G cl W e σ H Q) : TEp PN G cl W e σ H Q := by
  obtain ⟨H0, ow0, ow, ka, st, S, h⟩ := h
  exact ⟨H0, ow0, ow, ka, st, S, h.mono fun d k q H' v x r => q H' v x (r.fr S.own)⟩
theorem TEp.f_l (h : TEp PL G cl W e σ H Q) : TEp PF G cl W e σ H Q := by
  obtain ⟨H0, ow0, ow, ka, st, S, h⟩ := h
  exact ⟨H0, ow0, ow, ka, st, S, h.mono fun d k q H' v x r => q H' v x (.of r)⟩
theorem SR.kow {H0 : Hp} {ow0 ow : Addr → Prop} {ka : Option Addr} {st : Stt} (S : SR G H0 ow0 ow ka st σ H) : ∀ a, ka = some a → ow a := S.dkow
/-- behind an operation that keeps all: from the expressions' step to the whole -/
theorem fin_n {H0 : Hp} {ow0 ow : Addr → Prop} {ka : Option Addr} {st : Stt} {k : Dk} {H1 H2 : Hp} {d : D} {v : V} (S : SR G H0 ow0 ow ka st σ H) (x : XS G ow ka k H H1) (s : Same H1 H2) (r : FN G ow H1 H2 d v) : XS G ow ka k H H2 ∧ FN G ow H H2 d v :=
  ⟨x.same s (x.own S.own), r.back (x.free S.kow S.own)⟩
end

section
variable {X : Cx} {G : Wr} {cl : CL} {W : XK}
/-! ### names, constants -/
theorem sn_var {i : Nat} {ex : Expr} (h : PE X ex (tVar i)) : PE X ex (TEp PF G cl W (.var i)) := by
  refine PEi h fun σ H Q ⟨H0, ow0, ow, ka, st, S, h⟩ => ?_
  simp only [evE] at h
  cases e : st.ρ[i]? with
  | none =>
    simp only [e] at h
    exact False.elim h
  | some s =>
    cases s with
    | p d =>
      simp only [e] at h
      obtain ⟨v, e1, r⟩ := S.sl i _ e
      refine ⟨v, ?_, h H v (XS.refl S.dk) r⟩
      cases q : σ[i]? with
      | none =>
        rw [q] at e1
        cases e1
      | some o =>
        rw [q] at e1
        exact congrArg some e1
    | _ =>
      simp only [e] at h
      exact False.elim h
theorem slot_of {σ : L2.St} {i : Nat} {v : V} (h : (σ[i]?).join = some v) : σ[i]? = some (some v) := by
  cases q : σ[i]? with
  | none =>
    rw [q] at h
    cases h
  | some o =>
    rw [q] at h
    exact congrArg some h
theorem sn_bvar {i : Nat} {ex : Expr} (h : PE X ex (tVar i)) : PE X ex (TEp PL G cl W (.bvar i)) := by
  refine PEi h fun σ H Q ⟨H0, ow0, ow, ka, st, S, h⟩ => ?_
  simp only [evE] at h
  cases e : st.ρ[i]? with
  | none =>
    simp only [e] at h
    exact False.elim h
  | some s =>
    cases s with
    | b xs =>
      simp only [e] at h
      obtain ⟨a, vs, e1, h1, h2, h3, h4, r⟩ := S.sl i _ e
      exact ⟨_, slot_of e1, h H _ (XS.refl S.dk) (.lst h4 h2 r)⟩
    | _ =>
      simp only [e] at h
      exact False.elim h
theorem sn_con {d : D} {v : V} {ex : Expr} {e : E} (h : PE X ex (tC v)) (he : ∀ ρ k, evE cl ρ e k = .ok (d, k)) (r : ∀ ow H, FR G ow H d v) : PE X ex (TEp PF G cl W e) := by
  refine PEi h fun σ H Q ⟨H0, ow0, ow, ka, st, S, h⟩ => ?_
  rw [he] at h
  exact h H v (XS.refl S.dk) (r ow H)
theorem sn_conN {d : D} {v : V} {ex : Expr} {e : E} (h : PE X ex (tC v)) (he : ∀ ρ k, evE cl ρ e k = .ok (d, k)) (hn : ∀ xs, d ≠ .lst xs) (r : ∀ ow H, FR G ow H d v) : PE X ex (TEp PN G cl W e) := by
  refine PEi h fun σ H Q ⟨H0, ow0, ow, ka, st, S, h⟩ => ?_
  rw [he] at h
  exact h H v (XS.refl S.dk) (.of hn (r ow H))

/-! ### two operands -/
theorem two_t {a b : E} {f : D → D → R D} {rd : (D → D → R D) → R2} {e : E} {P : PostT}
    (he : ∀ ρ k, evE cl ρ e k = (evE cl ρ a k).bind fun x => (evE cl ρ b x.2).bind fun y => (noErr (f x.1 y.1)).bind fun d => .ok (d, y.2))
    (hf : ∀ (H0 : Hp) (ow0 ow : Addr → Prop) (ka : Option Addr) (st : Stt) (σ : L2.St) (H H2 : Hp) (k : Dk) (d1 d2 z : D) (x y : V) (Q : VK), SR G H0 ow0 ow ka st σ H → XS G ow ka k H H2 → FL G ow ka H2 d1 x → FL G ow ka H2 d2 y → f d1 d2 = .ok z →
      (∀ H' v, XS G ow ka k H H' → P G ow ka H H' z v → Q v H') → rd f x y H2 Q) (σ : L2.St) (H : Hp) (Q : VK) (h : TEp P G cl W e σ H Q) : tOp (rd f) (TEp PL G cl W a) (TEp PL G cl W b) σ H Q := by
  obtain ⟨H0, ow0, ow, ka, st, S, h⟩ := h
  rw [he] at h
  refine ⟨H0, ow0, ow, ka, st, S, (Rs_bind h).mono fun d1 k1 h H1 x x1 r1 => ?_⟩
  refine ⟨H0, ow0, ow, ka, _, S.step x1, (Rs_bind h).mono fun d2 k2 h H2 y x2 r2 => ?_⟩
  obtain ⟨z, hz, h⟩ := Rs_pure h
  exact hf H0 ow0 ow ka st σ H H2 k2 d1 d2 z x y Q S (x1.trans x2) (r1.xs x2 S.kow (x1.own S.own)) r2 hz h
theorem sn_op {a b : E} {ea eb : Expr} {pos : Pos} (ha : PE X ea (TEp PL (gx X) cl W a)) (hb : PE X eb (TEp PL (gx X) cl W b)) (o : Bin) : PE X (.BinOp ea (opB o) eb pos) (TEp PN (gx X) cl W (.bin o a b)) :=
  PEi (pe_op (op_binD o) ha hb) (two_t (rd := rB (gx X)) (fun _ _ => by simp only [evE]) fun H0 ow0 ow ka st σ H H2 k d1 d2 z x y Q S xs r1 r2 hz q => ⟨ow, ka, d1, d2, z, xs.own S.own, r1, r2, hz, fun H' v s r => by
    obtain ⟨h1, h2⟩ := fin_n S xs s r
    exact q H' v h1 h2⟩)
theorem rB_mono {sem : D → D → R D} {x y : V} {H : Hp} {Q Q' : VK} (h : rB (gx X) sem x y H Q) (f : ∀ v H', Q v H' → Q' v H') : rB (gx X) sem x y H Q' := by
  obtain ⟨ow, ka, d, e, z, h1, h2, h3, h4, h5⟩ := h
  exact ⟨ow, ka, d, e, z, h1, h2, h3, h4, fun H' v s r => f _ _ (h5 H' v s r)⟩
theorem cmp_two {a b : E} {o : Cmp} (σ : L2.St) (H : Hp) (Q : VK) (h : TEp PN (gx X) cl W (.cmp o a b) σ H Q) : tOp (rB (gx X) (cmpD o)) (TEp PL (gx X) cl W a) (TEp PL (gx X) cl W b) σ H Q :=
  two_t (rd := rB (gx X)) (fun _ _ => by simp only [evE]) (fun H0 ow0 ow ka st σ H H2 k d1 d2 z x y Q S xs r1 r2 hz q => ⟨ow, ka, d1, d2, z, xs.own S.own, r1, r2, hz, fun H' v s r => by
    obtain ⟨h1, h2⟩ := fin_n S xs s r
    exact q H' v h1 h2⟩) σ H Q h
theorem sn_cmp {a b : E} {ea eb : Expr} {pos : Pos} (hu : X.A.units + 64 < cLine) (ha : PE X ea (TEp PL (gx X) cl W a)) (hb : PE X eb (TEp PL (gx X) cl W b)) (o : Cmp) (hm : behindInMarks (opC o) eb = false) :
    PE X (.Compare ea [opC o] [eb] pos) (TEp PN (gx X) cl W (.cmp o a b)) :=
  PEi (pe_cmpR (op_cmpD hu o) ha hb hm) cmp_two
/-- a test from the value's reading -/
theorem tt_of {e : E} {σ : L2.St} {H : Hp} {Q : Bool → Hp → Prop} (h : TTp G cl W e σ H Q) : TEp PN G cl W e σ H (fun v H' => ∃ b, v = .bl b ∧ Q b H') := by
  obtain ⟨H0, ow0, ow, ka, st, S, h⟩ := h
  refine ⟨H0, ow0, ow, ka, st, S, h.mono fun d k ⟨b, e, q⟩ H' v x r => ?_⟩
  subst e
  exact ⟨b, (FL.of (ka := none) (r.fr S.own)).bl, q H' x⟩
theorem tt_ofF {e : E} {σ : L2.St} {H : Hp} {Q : Bool → Hp → Prop} (h : TTp G cl W e σ H Q) : TEp PL G cl W e σ H (fun v H' => ∃ b, v = .bl b ∧ Q b H') := by
  obtain ⟨H0, ow0, ow, ka, st, S, h⟩ := h
  refine ⟨H0, ow0, ow, ka, st, S, h.mono fun d k ⟨b, e, q⟩ H' v x r => ?_⟩
  subst e
  exact ⟨b, r.bl, q H' x⟩
theorem st_cmp {a b : E} {ea eb : Expr} {pos : Pos} (hu : X.A.units + 64 < cLine) (ha : PE X ea (TEp PL (gx X) cl W a)) (hb : PE X eb (TEp PL (gx X) cl W b)) (o : Cmp) (hm : behindInMarks (opC o) eb = false) :
    PT X (.Compare ea [opC o] [eb] pos) (TTp (gx X) cl W (.cmp o a b)) :=
  PTi (pt_cmpR (op_cmpD hu o) ha hb hm) fun σ H Q h => cmp_two σ H _ (tt_of h)
theorem sn_ix {a b : E} {ea eb : Expr} {pos : Pos} (ha : PE X ea (TEp PL (gx X) cl W a)) (hb : PE X eb (TEp PL (gx X) cl W b)) (hs : PlainIx eb) : PE X (.Subscript ea eb pos) (TEp PF (gx X) cl W (.ix a b)) :=
  PEi (pe_ix ix_D ha hb hs) (two_t (rd := rF (gx X)) (fun _ _ => by simp only [evE]) fun H0 ow0 ow ka st σ H H2 k d1 d2 z x y Q S xs r1 r2 hz q => ⟨ow, ka, d1, d2, z, xs.own S.own, r1, r2, hz, fun v r => q H2 v xs r⟩)

/-! ### a chain -/
theorem rB_bl {G : Wr} {o : Cmp} {d e z : D} (h : cmpD o d e = .ok z) : ∃ b, z = .bl b := by
  cases o with
  | lt => cases d <;> first | (cases h; done) | (cases e <;> first | (cases h; done) | (cases h; exact ⟨_, rfl⟩))
  | le => cases d <;> first | (cases h; done) | (cases e <;> first | (cases h; done) | (cases h; exact ⟨_, rfl⟩))
  | gt => cases d <;> first | (cases h; done) | (cases e <;> first | (cases h; done) | (cases h; exact ⟨_, rfl⟩))
  | ge => cases d <;> first | (cases h; done) | (cases e <;> first | (cases h; done) | (cases h; exact ⟨_, rfl⟩))
  | eq =>
    have h' : (if eqOk d e = true then R.ok (D.bl (eqD d e)) else R.no) = .ok z := h
    exact ⟨_, (ite_ok h').2.symm⟩
  | ne =>
    have h' : (if eqOk d e = true then R.ok (D.bl (!eqD d e)) else R.no) = .ok z := h
    exact ⟨_, (ite_ok h').2.symm⟩
  | in_ => cases e <;> first | (cases h; done) | exact ⟨_, (ite_ok h).2.symm⟩
  | nin => cases e <;> first | (cases h; done) | exact ⟨_, (ite_ok h).2.symm⟩
theorem chn_t {a b c : E} {o o' : Cmp} (σ : L2.St) (H : Hp) (Q : VK) (h : TEp PN (gx X) cl W (.chn o o' a b c) σ H Q) :
    tChain (rB (gx X) (cmpD o)) (rB (gx X) (cmpD o')) (TEp PL (gx X) cl W a) (TEp PL (gx X) cl W b) (TEp PL (gx X) cl W c) σ H Q := by
  obtain ⟨H0, ow0, ow, ka, st, S, h⟩ := h
  simp only [evE] at h
  refine ⟨H0, ow0, ow, ka, st, S, (Rs_bind h).mono fun d1 k1 h H1 x x1 r1 => ?_⟩
  refine ⟨H0, ow0, ow, ka, _, S.step x1, (Rs_bind h).mono fun d2 k2 h H2 y x2 r2 => ?_⟩
  obtain ⟨z, hz, h⟩ := Rs_pure h
  obtain ⟨b, rfl⟩ := rB_bl (G := gx X) hz
  have xs := x1.trans x2
  refine ⟨ow, ka, d1, d2, _, xs.own S.own, r1.xs x2 S.kow (x1.own S.own), r2, hz, fun H3 v s r => ?_⟩
  obtain ⟨x3, r3⟩ := fin_n S xs s r
  refine ⟨b, (FL.of (ka := none) (r3.fr S.own)).bl, ?_⟩
  cases b with
  | false => exact iteF (h H3 _ x3 (FN.bl false))
  | true =>
    refine iteT ⟨H0, ow0, ow, ka, _, S.step x3, (Rs_bind h).mono fun d3 k3 h H4 w' x4 r4 => ?_⟩
    obtain ⟨z', hz', h⟩ := Rs_pure h
    have x5 := x3.trans x4
    have x23 : XS (gx X) ow ka k2 H2 H3 := (XS.refl x2.dk).same s (xs.own S.own)
    refine ⟨ow, ka, d2, d3, _, x5.own S.own, (r2.xs x23 S.kow (xs.own S.own)).xs x4 S.kow (x3.own S.own), r4, hz', fun H5 v5 s5 r5 => ?_⟩
    obtain ⟨h1, h2⟩ := fin_n S x5 s5 r5
    exact h H5 v5 h1 h2
theorem sn_chn {a b c : E} {ea eb ec : Expr} {pos : Pos} (hu : X.A.units + 64 < cLine) (ha : PE X ea (TEp PL (gx X) cl W a)) (hb : PE X eb (TEp PL (gx X) cl W b)) (hc : PE X ec (TEp PL (gx X) cl W c)) (o o' : Cmp)
    (hm : lastMarks [opC o, opC o'] [eb, ec] = false) : PE X (.Compare ea [opC o, opC o'] [eb, ec] pos) (TEp PN (gx X) cl W (.chn o o' a b c)) :=
  PEi (pe_chain (op_cmpD hu o) (op_cmpD hu o') ha hb hc hm) chn_t
theorem st_chn {a b c : E} {ea eb ec : Expr} {pos : Pos} (hu : X.A.units + 64 < cLine) (ha : PE X ea (TEp PL (gx X) cl W a)) (hb : PE X eb (TEp PL (gx X) cl W b)) (hc : PE X ec (TEp PL (gx X) cl W c)) (o o' : Cmp)
    (hm : lastMarks [opC o, opC o'] [eb, ec] = false) : PT X (.Compare ea [opC o, opC o'] [eb, ec] pos) (TTp (gx X) cl W (.chn o o' a b c)) :=
  PTi (pt_chain (op_cmpD hu o) (op_cmpD hu o') ha hb hc hm) fun σ H Q h => chn_t σ H _ (tt_of h)

/-! ### is None -/
theorem FR.non_iff {ow : Addr → Prop} {ka : Option Addr} {H : Hp} {d : D} {v : V} (r : FL G ow ka H d v) : isNon d = decide (v = .non) := by
  cases r with
  | of r => cases r <;> rfl
  | lst _ _ _ => rfl
theorem isN_t {a : E} (σ : L2.St) (H : Hp) (Q : VK) (h : TEp PN G cl W (.isN a) σ H Q) : tIsN (TEp PL G cl W a) σ H Q := by
  obtain ⟨H0, ow0, ow, ka, st, S, h⟩ := h
  simp only [evE] at h
  refine ⟨H0, ow0, ow, ka, st, S, (Rs_bind h).mono fun d1 k1 h H1 x x1 r1 => ?_⟩
  have q := h H1 (.bl (isNon d1)) x1 (FN.bl (isNon d1))
  rw [FR.non_iff r1] at q
  exact q
theorem notN_t {a : E} (σ : L2.St) (H : Hp) (Q : VK) (h : TEp PN G cl W (.notN a) σ H Q) : tNotN (TEp PL G cl W a) σ H Q := by
  obtain ⟨H0, ow0, ow, ka, st, S, h⟩ := h
  simp only [evE] at h
  refine ⟨H0, ow0, ow, ka, st, S, (Rs_bind h).mono fun d1 k1 h H1 x x1 r1 => ?_⟩
  have q := h H1 (.bl (!isNon d1)) x1 (FN.bl (!isNon d1))
  rw [FR.non_iff r1] at q
  exact q
theorem sn_isN {a : E} {ea : Expr} {j : Nat} {p pos : Pos} (ha : PE X ea (TEp PL G cl W a)) : PE X (.Compare ea [.Is] [.Constant .none j p] pos) (TEp PN G cl W (.isN a)) := PEi (pe_cmp (pc_isN ha)) isN_t
theorem sn_notN {a : E} {ea : Expr} {j : Nat} {p pos : Pos} (ha : PE X ea (TEp PL G cl W a)) : PE X (.Compare ea [.IsNot] [.Constant .none j p] pos) (TEp PN G cl W (.notN a)) := PEi (pe_cmp (pc_notN ha)) notN_t
theorem st_isN {a : E} {ea : Expr} {j : Nat} {p pos : Pos} (ha : PE X ea (TEp PL G cl W a)) : PT X (.Compare ea [.Is] [.Constant .none j p] pos) (TTp G cl W (.isN a)) := PTi (pt_cmp (pc_isN ha)) fun σ H Q h => isN_t σ H _ (tt_of h)
theorem st_notN {a : E} {ea : Expr} {j : Nat} {p pos : Pos} (ha : PE X ea (TEp PL G cl W a)) : PT X (.Compare ea [.IsNot] [.Constant .none j p] pos) (TTp G cl W (.notN a)) := PTi (pt_cmp (pc_notN ha)) fun σ H Q h => notN_t σ H _ (tt_of h)

/-! ### -a, not, and, or, if -/
theorem sn_neg {a : E} {ea : Expr} {pos : Pos} (ha : PE X ea (TEp PL G cl W a)) : PE X (.UnaryOp .USub ea pos) (TEp PN G cl W (.neg a)) := by
  refine PEi (pe_un un_neg ha) fun σ H Q ⟨H0, ow0, ow, ka, st, S, h⟩ => ?_
  simp only [evE] at h
  refine ⟨H0, ow0, ow, ka, st, S, (Rs_bind h).mono fun d1 k1 h H1 x x1 r1 => ?_⟩
  cases d1 with
  | int i =>
    cases r1.int
    exact ⟨i, rfl, h H1 _ x1 (FN.int _)⟩
  | _ => exact False.elim h
theorem sn_not {a : E} {ea : Expr} {pos : Pos} (ha : PE X ea (TEp PL G cl W a)) : PE X (.UnaryOp .Not ea pos) (TEp PN G cl W (.not a)) := by
  refine PEi (pe_not ha) fun σ H Q ⟨H0, ow0, ow, ka, st, S, h⟩ => ?_
  simp only [evE] at h
  refine ⟨H0, ow0, ow, ka, st, S, (Rs_bind h).mono fun d1 k1 h H1 x x1 r1 => ?_⟩
  cases d1 with
  | bl b =>
    cases r1.bl
    exact ⟨b, rfl, h H1 _ x1 (FN.bl _)⟩
  | _ => exact False.elim h
theorem st_not {a : E} {ea : Expr} {pos : Pos} (ha : PT X ea (TTp G cl W a)) : PT X (.UnaryOp .Not ea pos) (TTp G cl W (.not a)) := by
  refine PTi (pt_not ha) fun σ H Q ⟨H0, ow0, ow, ka, st, S, h⟩ => ?_
  simp only [evE] at h
  refine ⟨H0, ow0, ow, ka, st, S, (Rs_bind h).mono fun d1 k1 h => ?_⟩
  cases d1 with
  | bl b =>
    obtain ⟨b', e, q⟩ := h
    cases e
    exact ⟨b, rfl, q⟩
  | _ => exact False.elim h
theorem and_t {a b : E} {P : PostT} (hP : ∀ ow ka H H' b, P G ow ka H H' (.bl b) (.bl b)) (hb : ∀ ow ka k H H1 H' d v, XS G ow ka k H H1 → (∀ a, ka = some a → ow a) → Own ow H → P G ow ka H1 H' d v → P G ow ka H H' d v) (σ : L2.St) (H : Hp) (Q : VK)
    (h : TEp P G cl W (.and a b) σ H Q) : tAndV (TEp PL G cl W a) (TEp P G cl W b) σ H Q := by
  obtain ⟨H0, ow0, ow, ka, st, S, h⟩ := h
  simp only [evE] at h
  refine ⟨H0, ow0, ow, ka, st, S, (Rs_bind h).mono fun d1 k1 h H1 x x1 r1 => ?_⟩
  cases d1 with
  | bl c =>
    cases r1.bl
    refine ⟨c, rfl, ?_⟩
    cases c with
    | true => exact iteT ⟨H0, ow0, ow, ka, _, S.step x1, h.mono fun d k q H' v x2 r2 => q H' v (x1.trans x2) (hb ow ka k1 H H1 H' d v x1 S.kow S.own r2)⟩
    | false => exact iteF (h H1 _ x1 (hP _ _ _ _ _))
  | _ => exact False.elim h
theorem or_t {a b : E} {P : PostT} (hP : ∀ ow ka H H' b, P G ow ka H H' (.bl b) (.bl b)) (hb : ∀ ow ka k H H1 H' d v, XS G ow ka k H H1 → (∀ a, ka = some a → ow a) → Own ow H → P G ow ka H1 H' d v → P G ow ka H H' d v) (σ : L2.St) (H : Hp) (Q : VK)
    (h : TEp P G cl W (.or a b) σ H Q) : tOrV (TEp PL G cl W a) (TEp P G cl W b) σ H Q := by
  obtain ⟨H0, ow0, ow, ka, st, S, h⟩ := h
  simp only [evE] at h
  refine ⟨H0, ow0, ow, ka, st, S, (Rs_bind h).mono fun d1 k1 h H1 x x1 r1 => ?_⟩
  cases d1 with
  | bl c =>
    cases r1.bl
    refine ⟨c, rfl, ?_⟩
    cases c with
    | false => exact iteF ⟨H0, ow0, ow, ka, _, S.step x1, h.mono fun d k q H' v x2 r2 => q H' v (x1.trans x2) (hb ow ka k1 H H1 H' d v x1 S.kow S.own r2)⟩
    | true => exact iteT (h H1 _ x1 (hP _ _ _ _ _))
  | _ => exact False.elim h
theorem sn_and {a b : E} {ea eb : Expr} {rest : List Expr} {pos : Pos} (ha : PE X ea (TEp PL G cl W a)) (hb : PE X (.BoolOp .And (eb :: rest) pos) (TEp PF G cl W b)) : PE X (.BoolOp .And (ea :: eb :: rest) pos) (TEp PF G cl W (.and a b)) :=
  PEi (pe_and ha hb) (and_t (P := PF) (fun _ _ _ _ b => .bl b) fun _ _ _ _ _ _ _ _ _ _ _ r => r)
theorem sn_or {a b : E} {ea eb : Expr} {rest : List Expr} {pos : Pos} (ha : PE X ea (TEp PL G cl W a)) (hb : PE X (.BoolOp .Or (eb :: rest) pos) (TEp PF G cl W b)) : PE X (.BoolOp .Or (ea :: eb :: rest) pos) (TEp PF G cl W (.or a b)) :=
  PEi (pe_or ha hb) (or_t (P := PF) (fun _ _ _ _ b => .bl b) fun _ _ _ _ _ _ _ _ _ _ _ r => r)
theorem st_and {a b : E} {ea eb : Expr} {rest : List Expr} {pos : Pos} (ha : PT X ea (TTp G cl W a)) (hb : PW X (.BoolOp .And (eb :: rest) pos) (TTp G cl W b)) : PW X (.BoolOp .And (ea :: eb :: rest) pos) (TTp G cl W (.and a b)) := by
  refine ⟨fun whole pins s σ H Q I w => (pw_and ha hb).run whole pins s σ H Q I ?_⟩
  obtain ⟨H0, ow0, ow, ka, st, S, h⟩ := w
  simp only [evE] at h
  refine ⟨H0, ow0, ow, ka, st, S, (Rs_bind h).mono fun d1 k1 h => ?_⟩
  cases d1 with
  | bl c =>
    refine ⟨c, rfl, fun H1 x1 => ?_⟩
    cases c with
    | true => exact iteT ⟨H0, ow0, ow, ka, _, S.step x1, h.mono fun d k ⟨b, e, q⟩ => ⟨b, e, fun H' x2 => q H' (x1.trans x2)⟩⟩
    | false =>
      obtain ⟨b, e, q⟩ := h
      cases e
      exact iteF (q H1 x1)
  | _ => exact False.elim h
theorem st_or {a b : E} {ea eb : Expr} {rest : List Expr} {pos : Pos} (ha : PT X ea (TTp G cl W a)) (hb : PW X (.BoolOp .Or (eb :: rest) pos) (TTp G cl W b)) : PW X (.BoolOp .Or (ea :: eb :: rest) pos) (TTp G cl W (.or a b)) := by
  refine ⟨fun whole pins s σ H Q I w => (pw_or ha hb).run whole pins s σ H Q I ?_⟩
  obtain ⟨H0, ow0, ow, ka, st, S, h⟩ := w
  simp only [evE] at h
  refine ⟨H0, ow0, ow, ka, st, S, (Rs_bind h).mono fun d1 k1 h => ?_⟩
  cases d1 with
  | bl c =>
    refine ⟨c, rfl, fun H1 x1 => ?_⟩
    cases c with
    | false => exact iteF ⟨H0, ow0, ow, ka, _, S.step x1, h.mono fun d k ⟨b, e, q⟩ => ⟨b, e, fun H' x2 => q H' (x1.trans x2)⟩⟩
    | true =>
      obtain ⟨b, e, q⟩ := h
      cases e
      exact iteT (q H1 x1)
  | _ => exact False.elim h
theorem ite_t {c a b : E} {P : PostT} (hb : ∀ ow ka k H H1 H' d v, XS G ow ka k H H1 → (∀ a, ka = some a → ow a) → Own ow H → P G ow ka H1 H' d v → P G ow ka H H' d v) (σ : L2.St) (H : Hp) (Q : VK)
    (h : TEp P G cl W (.ite c a b) σ H Q) : tIf (TTp G cl W c) (TEp P G cl W a) (TEp P G cl W b) σ H Q := by
  obtain ⟨H0, ow0, ow, ka, st, S, h⟩ := h
  simp only [evE] at h
  refine ⟨H0, ow0, ow, ka, st, S, (Rs_bind h).mono fun d1 k1 h => ?_⟩
  cases d1 with
  | bl c =>
    refine ⟨c, rfl, fun H1 x1 => ?_⟩
    cases c with
    | true => exact iteT ⟨H0, ow0, ow, ka, _, S.step x1, h.mono fun d k q H' v x2 r2 => q H' v (x1.trans x2) (hb ow ka k1 H H1 H' d v x1 S.kow S.own r2)⟩
    | false => exact iteF ⟨H0, ow0, ow, ka, _, S.step x1, h.mono fun d k q H' v x2 r2 => q H' v (x1.trans x2) (hb ow ka k1 H H1 H' d v x1 S.kow S.own r2)⟩
  | _ => exact False.elim h
theorem sn_ite {c a b : E} {ec ea eb : Expr} {pos : Pos} (hc : PT X ec (TTp G cl W c)) (ha : PE X ea (TEp PF G cl W a)) (hb : PE X eb (TEp PF G cl W b)) : PE X (.IfExp ec ea eb pos) (TEp PF G cl W (.ite c a b)) :=
  PEi (pe_ifExp hc ha hb) (ite_t (P := PF) fun _ _ _ _ _ _ _ _ _ _ _ r => r)
theorem sn_iteN {c a b : E} {ec ea eb : Expr} {pos : Pos} (hc : PT X ec (TTp G cl W c)) (ha : PE X ea (TEp PN G cl W a)) (hb : PE X eb (TEp PN G cl W b)) : PE X (.IfExp ec ea eb pos) (TEp PN G cl W (.ite c a b)) :=
  PEi (pe_ifExp hc ha hb) (ite_t (P := PN) fun _ _ _ _ _ _ _ _ x hk ho r => r.back (x.free hk ho))
/-- an expression that is a test by its value -/
theorem st_val {e : E} {ex : Expr} (h : PE X ex (TEp PL G cl W e)) (he : ∀ whole, isTrue ex X.env whole = (do let v ← whole; standAt ex.pos; holding [v] (truthy v))) : PT X ex (TTp G cl W e) :=
  PTi (pt_val h he) fun σ H Q h => tt_ofF h

/-! ### slices -/
def TOp (G : Wr) (cl : CL) (W : XK) (o : Option E) : TO := fun σ H Q => ∃ H0 ow0 ow ka st, SR G H0 ow0 ow ka st σ H ∧ Rs (evO cl st.ρ o st.k) (fun d k' => ∀ H', XS G ow ka k' H H' → Q d H') (Erw G H0 ka W)
theorem so_none : PO X none (TOp G cl W none) := ⟨fun pins s σ H Q I ⟨H0, ow0, ow, ka, st, S, h⟩ => po_none.run pins s σ H Q I (h H (XS.refl S.dk))⟩
theorem so_some {e : E} {ex : Expr} (h : PE X ex (TEp PL G cl W e)) : PO X (some ex) (TOp G cl W (some e)) := ⟨fun pins s σ H Q I ⟨H0, ow0, ow, ka, st, S, q⟩ => (po_some h).run pins s σ H Q I (by
  simp only [evO] at q
  refine ⟨H0, ow0, ow, ka, st, S, (Rs_bind q).mono fun d1 k1 h H1 x x1 r1 => ?_⟩
  cases d1 with
  | int i => exact ⟨i, r1.int, h H1 x1⟩
  | _ => exact False.elim h)⟩
theorem sn_sl {a : E} {lo hi : Option E} {ea : Expr} {xl xh : Option Expr} {p2 pos : Pos} (ha : PE X ea (TEp PL (gx X) cl W a)) (hl : PO X xl (TOp (gx X) cl W lo)) (hh : PO X xh (TOp (gx X) cl W hi)) :
    PE X (.Subscript ea (.Slice xl xh none p2) pos) (TEp PN (gx X) cl W (.sl a lo hi)) := by
  refine PEi (pe_slice sl_D ha hl hh) fun σ H Q ⟨H0, ow0, ow, ka, st, S, h⟩ => ?_
  simp only [evE] at h
  refine ⟨H0, ow0, ow, ka, st, S, (Rs_bind h).mono fun d1 k1 h H1 x x1 r1 => ?_⟩
  refine ⟨H0, ow0, ow, ka, _, S.step x1, (Rs_bind h).mono fun l k2 h H2 x2 => ?_⟩
  refine ⟨H0, ow0, ow, ka, _, S.step (x1.trans x2), (Rs_bind h).mono fun u k3 h H3 x3 => ?_⟩
  obtain ⟨z, hz, h⟩ := Rs_pure h
  have x4 := (x1.trans x2).trans x3
  refine ⟨ow, ka, d1, z, x4.own S.own, (r1.xs x2 S.kow (x1.own S.own)).xs x3 S.kow ((x1.trans x2).own S.own), hz, fun H' v s r => ?_⟩
  obtain ⟨h1, h2⟩ := fin_n S x4 s r
  exact h H' v h1 h2
theorem sn_rev {a : E} {ea : Expr} {k : Nat} {p1 p2 p3 pos : Pos} (ha : PE X ea (TEp PL (gx X) cl W a)) : PE X (.Subscript ea (.Slice none none (some (.UnaryOp .USub (.Constant (.int 1) k p1) p2)) p3) pos) (TEp PN (gx X) cl W (.rev a)) := by
  refine PEi (pe_rev ha) fun σ H Q ⟨H0, ow0, ow, ka, st, S, h⟩ => ?_
  simp only [evE] at h
  refine ⟨H0, ow0, ow, ka, st, S, (Rs_bind h).mono fun d1 k1 h H1 x x1 r1 => ?_⟩
  obtain ⟨z, hz, h⟩ := Rs_pure h
  refine ⟨ow, ka, d1, z, x1.own S.own, r1, hz, fun H' v s r => ?_⟩
  obtain ⟨h1, h2⟩ := fin_n S x1 s r
  exact h H' v h1 h2

/-! ### lists of expressions, displays -/
theorem sa_nil : PA X [] (TAp G cl W []) := PAi pa_nil fun σ H Q ⟨H0, ow0, ow, ka, st, S, h⟩ => h H [] (XS.refl S.dk) .nil
theorem sa_cons {e : E} {es : List E} {ex : Expr} {exs : List Expr} (h : PE X ex (TEp PF G cl W e)) (t : PA X exs (TAp G cl W es)) (hs : starEach (ex :: exs) X.env = (false, eval ex X.env) :: starEach exs X.env) : PA X (ex :: exs) (TAp G cl W (e :: es)) := by
  refine PAi (pa_cons h t hs) fun σ H Q ⟨H0, ow0, ow, ka, st, S, h⟩ => ?_
  simp only [evL] at h
  refine ⟨H0, ow0, ow, ka, st, S, (Rs_bind h).mono fun d1 k1 h H1 x x1 r1 => ?_⟩
  refine ⟨H0, ow0, ow, ka, _, S.step x1, (Rs_bind h).mono fun ds k2 h H2 xs x2 r2 => ?_⟩
  exact h H2 _ (x1.trans x2) (.cons (r1.stay (x1.own S.own).w (x2.stay S.kow)) r2)
theorem Rs_ite {α : Type} {c : Prop} [Decidable c] {r : R (α × Dk)} {ok : α → Dk → Prop} {er : Ex → Prop} (h : Rs (if c then r else .no) ok er) : c ∧ Rs r ok er := by
  by_cases q : c
  · rw [if_pos q] at h
    exact ⟨q, h⟩
  · rw [if_neg q] at h
    exact False.elim h
theorem sn_tup {es : List E} {exs : List Expr} {x1 : Nat} {pos : Pos} (h : PA X exs (TAp G cl W es)) : PE X (.Tuple exs x1 pos) (TEp PN G cl W (.tup es)) := by
  refine PEi (pe_tup h) fun σ H Q ⟨H0, ow0, ow, ka, st, S, h⟩ => ?_
  simp only [evE] at h
  refine ⟨H0, ow0, ow, ka, st, S, (Rs_bind h).mono fun ds k1 h H1 vs x1 r1 => ?_⟩
  obtain ⟨hl, h⟩ := Rs_ite h
  refine ⟨by rw [← sz_eq, ← r1.length]; exact hl, fun p hp => ?_⟩
  have hs := same_new (H := H1) (o := .tup vs) hp
  obtain ⟨h1, h2⟩ := fin_n S x1 hs (rBne (.tup (.inl (.inl upd_same)) (r1.stay (x1.own S.own).w (Stay.of hs))))
  exact h _ _ h1 h2
theorem sn_lst {es : List E} {exs : List Expr} {pos : Pos} (h : PA X exs (TAp G cl W es)) : PE X (.List exs pos) (TEp PN G cl W (.lst es)) := by
  refine PEi (pe_lst h) fun σ H Q ⟨H0, ow0, ow, ka, st, S, h⟩ => ?_
  simp only [evE] at h
  refine ⟨H0, ow0, ow, ka, st, S, (Rs_bind h).mono fun ds k1 h H1 vs x1 r1 => ?_⟩
  obtain ⟨hl, h⟩ := Rs_ite h
  refine ⟨by rw [← sz_eq, ← r1.length]; exact hl, fun p hp => ?_⟩
  obtain ⟨h1, h2⟩ := fin_n S x1 (same_new hp) (FN.mk (x1.own S.own) hp r1)
  exact h _ _ h1 h2
/-! ### a built-in of one argument -/
def TA1 (G : Wr) (cl : CL) (W : XK) (e : E) : TA := fun σ H Q => TEp PL G cl W e σ H fun v H' => Q [v] H'
theorem sa_one {e : E} {ex : Expr} (h : PE X ex (TEp PL G cl W e)) (hs : starEach [ex] X.env = (false, eval ex X.env) :: starEach [] X.env) : PA X [ex] (TA1 G cl W e) := pa_cons h pa_nil hs
theorem bi_t {b : Bi} {a : E} (σ : L2.St) (H : Hp) (Q : VK) (h : TEp PN (gx X) cl W (.bi b a) σ H Q) : tCB (rU1 (gx X) (biD b)) (TA1 (gx X) cl W a) σ H Q := by
  obtain ⟨H0, ow0, ow, ka, st, S, h⟩ := h
  simp only [evE] at h
  refine ⟨H0, ow0, ow, ka, st, S, (Rs_bind h).mono fun d1 k1 h H1 x x1 r1 => ?_⟩
  obtain ⟨z, hz, h⟩ := Rs_pure h
  refine ⟨ow, ka, d1, z, x, rfl, x1.own S.own, r1, hz, fun H' v s r => ?_⟩
  obtain ⟨h1, h2⟩ := fin_n S x1 s r
  exact h H' v h1 h2
end
end Rf
set_option Elab.async false
set_option linter.all false
set_option maxRecDepth 100000
set_option maxHeartbeats 2000000
/-! Rf7: targets, what is walked, comprehensions, calls. Own work. -/
namespace Rf
open PySem PySem.Spec PyProof.Rows L2

/-! ### a slot is set -/
theorem getS_ne {α : Type} {xs : List α} {i j : Nat} {x : α} (h : i ≠ j) : (xs.set i x)[j]? = xs[j]? := List.getElem?_set_ne h
section
variable {G : Wr} {H0 H : Hp} {ow0 ow : Addr → Prop} {ka : Option Addr} {st : Stt} {σ : L2.St}
theorem SR.setP (S : SR G H0 ow0 ow ka st σ H) {i : Nat} {d : D} {v : V} (hi : i < st.ρ.length) (r : FR G ow H d v) : SR G H0 ow0 ow ka ⟨st.ρ.set i (.p d), st.k⟩ (σ.set i (some v)) H := by
  have hl : i < σ.length := by rw [S.len]; exact hi
  refine ⟨by rw [List.length_set, List.length_set]; exact S.len, S.keep, fun j s e => ?_, fun j l xs ys a e1 e2 e3 e4 => ?_, S.dk, S.dkow, S.own, S.sub⟩
  · have e' : (st.ρ.set i (.p d))[j]? = some s := e
    by_cases hj : i = j
    · subst hj
      rw [List.getElem?_set_self hi] at e'
      cases e'
      rw [List.getElem?_set_self hl]
      exact ⟨v, rfl, r⟩
    · rw [getS_ne hj] at e'
      rw [getS_ne hj]
      exact S.sl j s e'
  · have e1' : (st.ρ.set i (.p d))[j]? = some (.b xs) := e1
    have e2' : (st.ρ.set i (.p d))[l]? = some (.b ys) := e2
    have n1 : i ≠ j := fun z => by
      subst z
      rw [List.getElem?_set_self hi] at e1'
      cases e1'
    have n2 : i ≠ l := fun z => by
      subst z
      rw [List.getElem?_set_self hi] at e2'
      cases e2'
    rw [getS_ne n1] at e1' e3
    rw [getS_ne n2] at e2' e4
    exact S.inj j l xs ys a e1' e2' e3 e4
theorem SR.unset (S : SR G H0 ow0 ow ka st σ H) (i : Nat) : SR G H0 ow0 ow ka ⟨st.ρ.set i .u, st.k⟩ (σ.set i none) H := by
  refine ⟨by rw [List.length_set, List.length_set]; exact S.len, S.keep, fun j s e => ?_, fun j l xs ys a e1 e2 e3 e4 => ?_, S.dk, S.dkow, S.own, S.sub⟩
  · have e' : (st.ρ.set i .u)[j]? = some s := e
    by_cases hj : i = j
    · subst hj
      by_cases hi : i < st.ρ.length
      · rw [List.getElem?_set_self hi] at e'
        cases e'
        exact True.intro
      · rw [List.getElem?_eq_none (by rw [List.length_set]; omega)] at e'
        cases e'
    · rw [getS_ne hj] at e'
      rw [getS_ne hj]
      exact S.sl j s e'
  · have e1' : (st.ρ.set i .u)[j]? = some (.b xs) := e1
    have e2' : (st.ρ.set i .u)[l]? = some (.b ys) := e2
    have nu : ∀ {k : Nat} {zs : List D}, (st.ρ.set i .u)[k]? = some (.b zs) → i ≠ k := fun {k zs} e z => by
      subst z
      by_cases hi : i < st.ρ.length
      · rw [List.getElem?_set_self hi] at e
        cases e
      · rw [List.getElem?_eq_none (by rw [List.length_set]; omega)] at e
        cases e
    have n1 := nu e1'
    have n2 := nu e2'
    rw [getS_ne n1] at e1' e3
    rw [getS_ne n2] at e2' e4
    exact S.inj j l xs ys a e1' e2' e3 e4
theorem SR.wipe (S : SR G H0 ow0 ow ka st σ H) : ∀ own : List (Str × Nat), SR G H0 ow0 ow ka ⟨wipeS st.ρ own, st.k⟩ (wipe σ (own.map (·.2))) H
  | [] => S
  | v :: vs => SR.unset (SR.wipe S vs) v.2
end
theorem wipe_get {σ : L2.St} {i : Nat} : ∀ {vs : List Nat}, i ∉ vs → (wipe σ vs)[i]? = σ[i]?
  | [], _ => rfl
  | v :: vs, h => by
    unfold wipe
    rw [getS_ne (fun z => h (by simp [z]))]
    exact wipe_get fun z => h (List.mem_cons_of_mem _ z)
theorem wipe_in {σ : L2.St} {i : Nat} (hi : i < σ.length) : ∀ {vs : List Nat}, i ∈ vs → (wipe σ vs)[i]? = some none
  | [], h => by cases h
  | v :: vs, h => by
    unfold wipe
    by_cases e : v = i
    · subst e
      rw [List.getElem?_set_self (by rw [wipe_length]; exact hi)]
    · rw [getS_ne e]
      refine wipe_in hi ?_
      rcases List.mem_cons.mp h with z | z
      · exact absurd z.symm e
      · exact z
theorem wipe_same {σ σ' : L2.St} {vs : List Nat} (hl : σ'.length = σ.length) (h : ∀ i, i ∉ vs → σ'[i]? = (wipe σ vs)[i]?) : wipe σ' vs = wipe σ vs := by
  apply List.ext_getElem?
  intro i
  by_cases hi : i ∈ vs
  · by_cases hb : i < σ.length
    · rw [wipe_in (by rw [hl]; exact hb) hi, wipe_in hb hi]
    · rw [List.getElem?_eq_none (by rw [wipe_length, hl]; omega), List.getElem?_eq_none (by rw [wipe_length]; omega)]
  · rw [wipe_get hi, h i hi]

/-! ### targets -/
def TGp (G : Wr) (tg : Tg) : TG := fun v σ H Q => ∃ H0 ow0 ow ka st d ρ', SR G H0 ow0 ow ka st σ H ∧ FR G ow H d v ∧ bindT tg d st.ρ = .ok ρ' ∧
  ∀ σ', SR G H0 ow0 ow ka ⟨ρ', st.k⟩ σ' H → σ'.length = σ.length → (∀ i, i ∉ tgS tg → σ'[i]? = σ[i]?) → Q σ' H
def TGsp (G : Wr) (ts : List Tg) : TGs := fun vs σ H Q => ∃ H0 ow0 ow ka st ds ρ', SR G H0 ow0 ow ka st σ H ∧ FRs G ow H ds vs ∧ bindTs ts ds st.ρ = .ok ρ' ∧
  ∀ σ', SR G H0 ow0 ow ka ⟨ρ', st.k⟩ σ' H → σ'.length = σ.length → (∀ i, i ∉ tgsS ts → σ'[i]? = σ[i]?) → Q σ' H
section
variable {X : Cx}
theorem sg_name {i : Nat} {ex : Expr} (h : PG X ex (gName i)) : PG X ex (TGp (gx X) (.n i)) := by
  refine ⟨fun pins s σ H v u Q I r w => h.run pins s σ H v u Q I r ?_⟩
  obtain ⟨H0, ow0, ow, ka, st, d, ρ', S, r1, e, q⟩ := w
  have e' : (if i < st.ρ.length then R.ok (st.ρ.set i (.p d)) else .no) = .ok ρ' := e
  by_cases hi : i < st.ρ.length
  · rw [if_pos hi] at e'
    cases e'
    exact q _ (S.setP hi r1) (by rw [List.length_set]) fun j hj => getS_ne (fun z => hj (by simp [tgS, z]))
  · rw [if_neg hi] at e'
    cases e'
theorem sg_nil : PGs X [] (TGsp (gx X) []) := by
  refine ⟨fun pins s σ H vs us Q I r w => pgs_nil.run pins s σ H vs us Q I r ?_⟩
  obtain ⟨H0, ow0, ow, ka, st, ds, ρ', S, r1, e, q⟩ := w
  cases ds with
  | nil =>
    cases r1
    cases e
    exact ⟨rfl, q σ S rfl fun _ _ => rfl⟩
  | cons d ds => cases e
theorem sg_cons {t : Tg} {ts : List Tg} {ex : Expr} {exs : List Expr} (h1 : PG X ex (TGp (gx X) t)) (h2 : PGs X exs (TGsp (gx X) ts)) (hs : (assignEach (ex :: exs) X.env).map (·.2) = assign ex X.env :: (assignEach exs X.env).map (·.2)) :
    PGs X (ex :: exs) (TGsp (gx X) (t :: ts)) := by
  refine ⟨fun pins s σ H vs us Q I r w => (pgs_cons h1 h2 hs).run pins s σ H vs us Q I r ?_⟩
  obtain ⟨H0, ow0, ow, ka, st, ds, ρ', S, r1, e, q⟩ := w
  cases ds with
  | nil => cases e
  | cons d ds =>
    cases r1 with
    | cons ra rb =>
      rename_i v vs
      have e' : ((bindT t d st.ρ).bind fun ρ1 => bindTs ts ds ρ1) = .ok ρ' := e
      cases e1 : bindT t d st.ρ with
      | ok ρ1 =>
        rw [e1] at e'
        refine ⟨v, vs, rfl, H0, ow0, ow, ka, st, d, ρ1, S, ra, e1, fun σ1 S1 l1 k1 => ?_⟩
        refine ⟨H0, ow0, ow, ka, _, ds, ρ', S1, rb, e', fun σ2 S2 l2 k2 => q σ2 S2 (l2.trans l1) fun i hi => ?_⟩
        have hi' : i ∉ tgS t ++ tgsS ts := hi
        rw [List.mem_append] at hi'
        exact (k2 i fun z => hi' (.inr z)).trans (k1 i fun z => hi' (.inl z))
      | err x =>
        rw [e1] at e'
        cases e'
      | no =>
        rw [e1] at e'
        cases e'
theorem bindTs_len : ∀ {ts : List Tg} {ds : List D} {ρ ρ' : List Sl}, bindTs ts ds ρ = .ok ρ' → ds.length = ts.length
  | [], [], _, _, _ => rfl
  | [], _ :: _, _, _, h => by cases h
  | _ :: _, [], _, _, h => by cases h
  | t :: ts, d :: ds, ρ, ρ', h => by
    have h' : ((bindT t d ρ).bind fun ρ1 => bindTs ts ds ρ1) = .ok ρ' := h
    cases e1 : bindT t d ρ with
    | ok ρ1 =>
      rw [e1] at h'
      have := bindTs_len (show bindTs ts ds ρ1 = .ok ρ' from h')
      rw [List.length_cons, List.length_cons, this]
    | err x =>
      rw [e1] at h'
      cases h'
    | no =>
      rw [e1] at h'
      cases h'
theorem sg_tup {ts : List Tg} {exs : List Expr} {k : Nat} {pos : Pos} (hc : X.calm = true) (h : PGs X exs (TGsp (gx X) ts)) (hn : (assignEach exs X.env).length = ts.length) (hst : (assignEach exs X.env).findIdx? (·.1) = none) :
    PG X (.Tuple exs k pos) (TGp (gx X) (.t ts)) := by
  refine ⟨fun pins s σ H v u Q I r w => (pg_tup hc h hn hst).run pins s σ H v u Q I r ?_⟩
  obtain ⟨H0, ow0, ow, ka, st, d, ρ', S, r1, e, q⟩ := w
  cases d with
  | tup ds =>
    obtain ⟨a, vs, rfl, s1, r2⟩ := r1.tupx
    have e' : bindTs ts ds st.ρ = .ok ρ' := e
    exact ⟨a, vs, rfl, s1, by rw [← r2.length]; exact bindTs_len e', H0, ow0, ow, ka, st, ds, ρ', S, r2, e', q⟩
  | _ => cases e
end

/-! ### what is walked -/
/-- J yields the items l, in every heap of P -/
def ItOk (G : Wr) (l : List D) (P : (Addr → Prop) → Hp → Prop) (J : L2.It) : Prop := ∀ ow H, P ow H → (∀ (i : Nat) (d : D), l[i]? = some d → J.go i H ∧ ∀ x H', J.yld i H x H' → Same H H' ∧ FR G ow H' d x) ∧ ∀ i, l.length ≤ i → J.stop i H
/-- a statement's step: what isn't owned stays, and is not owned then -/
def SS (ow ow' : Addr → Prop) (H H' : Hp) : Prop := ∀ b o, H b = some o → ¬ ow b → H' b = some o ∧ ¬ ow' b
theorem SS.refl (ow : Addr → Prop) (H : Hp) : SS ow ow H H := fun _ _ e n => ⟨e, n⟩
theorem SS.trans {ow ow1 ow2 : Addr → Prop} {H H1 H2 : Hp} (a : SS ow ow1 H H1) (b : SS ow1 ow2 H1 H2) : SS ow ow2 H H2 := fun c o e n => by
  obtain ⟨e1, n1⟩ := a c o e n
  exact b c o e1 n1
section
variable {G : Wr} {ow ow' : Addr → Prop} {H H' : Hp}
mutual
theorem FR.ss (ho : OwnW ow H) (s : SS ow ow' H H') : ∀ {d : D} {v : V}, FR G ow H d v → FR G ow' H' d v
  | _, _, .non => .non
  | _, _, .bl b => .bl b
  | _, _, .int i => .int i
  | _, _, .str x e => .str x e
  | _, _, .tup t r => .tup (SqT.stay ho (fun b o e n => (s b o e n).1) t) (FRs.ss ho s r)
  | _, _, .lst t n r => .lst (s _ _ t n).1 (s _ _ t n).2 (FRs.ss ho s r)
  | _, _, .scr t => .scr (by
      rcases t with ⟨o, t⟩ | t
      · refine .inl ⟨o, (s _ _ t fun z => ?_).1⟩
        obtain ⟨xs, e⟩ := ho _ z _ t
        cases e
      · exact .inr t)
  | _, _, .fn e => .fn e
theorem FRs.ss (ho : OwnW ow H) (s : SS ow ow' H H') : ∀ {ds : List D} {vs : List V}, FRs G ow H ds vs → FRs G ow' H' ds vs
  | _, _, .nil => .nil
  | _, _, .cons r t => .cons (FR.ss ho s r) (FRs.ss ho s t)
end
theorem same_ss (h : Same H H') : SS ow ow H H' := fun b o e n => ⟨h b o e, n⟩
theorem itl_ok {K : PySem.W.Frag} {a : Addr} {l : List D} {vs : List V} {P : (Addr → Prop) → Hp → Prop} (hP : ∀ ow H, P ow H → SqL K H a vs ∧ FRs G ow H l vs) : ItOk G l P (Itl K a) := fun ow H p => by
  obtain ⟨h1, h2⟩ := hP ow H p
  refine ⟨fun i d e => ?_, fun i hi => ⟨vs, h1, by rw [← h2.length]; exact hi⟩⟩
  obtain ⟨v, e1, r⟩ := h2.get e
  refine ⟨⟨vs, v, h1, e1⟩, fun x H' y => ?_⟩
  obtain ⟨eH, y⟩ := y
  subst eH
  have := y vs h1
  rw [e1] at this
  cases this
  exact ⟨Same.refl _, r⟩
theorem itt_ok {K : PySem.W.Frag} {a : Addr} {l : List D} {vs : List V} {P : (Addr → Prop) → Hp → Prop} (hP : ∀ ow H, P ow H → SqT K H a vs ∧ FRs G ow H l vs) : ItOk G l P (Itt K a) := fun ow H p => by
  obtain ⟨h1, h2⟩ := hP ow H p
  refine ⟨fun i d e => ?_, fun i hi => ⟨vs, h1, by rw [← h2.length]; exact hi⟩⟩
  obtain ⟨v, e1, r⟩ := h2.get e
  refine ⟨⟨vs, v, h1, e1⟩, fun x H' y => ?_⟩
  obtain ⟨eH, y⟩ := y
  subst eH
  have := y vs h1
  rw [e1] at this
  cases this
  exact ⟨Same.refl _, r⟩
theorem rangeL_get : ∀ (n : Nat) (lo : Int) (i : Nat), (rangeL lo 1 n)[i]? = if i < n then some (.int (lo + i)) else none
  | 0, lo, i => by simp [rangeL]
  | n + 1, lo, 0 => by simp [rangeL]
  | n + 1, lo, i + 1 => by
    show (rangeL (lo + 1) 1 n)[i]? = _
    rw [rangeL_get n (lo + 1) i]
    by_cases h : i < n
    · rw [if_pos h, if_pos (by omega)]
      congr 2
      omega
    · rw [if_neg h, if_neg (by omega)]
theorem rangeL_length : ∀ (n : Nat) (lo : Int), (rangeL lo 1 n).length = n
  | 0, _ => rfl
  | n + 1, lo => congrArg (· + 1) (rangeL_length n (lo + 1))
theorem itr_ok {lo : Int} {n : Nat} {P : (Addr → Prop) → Hp → Prop} : ItOk G (rangeL lo 1 n) P (Itr lo n) := fun ow H p => by
  refine ⟨fun i d e => ?_, fun i hi => by rw [rangeL_length] at hi; exact hi⟩
  rw [rangeL_get] at e
  by_cases h : i < n
  · rw [if_pos h] at e
    cases e
    refine ⟨h, fun x H' y => ?_⟩
    obtain ⟨eH, ex⟩ := y
    subst eH ex
    exact ⟨Same.refl _, .int _⟩
  · rw [if_neg h] at e
    cases e
theorem enumL_get : ∀ (l : List D) (k : Int) (i : Nat), (enumL k l)[i]? = (l[i]?).map fun d => .tup [.int (k + i), d]
  | [], _, i => by simp [enumL]
  | x :: xs, k, 0 => by simp [enumL]
  | x :: xs, k, i + 1 => by
    show (enumL (k + 1) xs)[i]? = (xs[i]?).map _
    rw [enumL_get xs (k + 1) i]
    have e : k + 1 + (i : Int) = k + ((i + 1 : Nat) : Int) := by omega
    rw [e]
theorem enumL_length : ∀ (l : List D) (k : Int), (enumL k l).length = l.length
  | [], _ => rfl
  | x :: xs, k => congrArg (· + 1) (enumL_length xs (k + 1))
theorem enum_ok {K : PySem.W.Frag} {a : Addr} {l : List D} {vs : List V} {P : (Addr → Prop) → Hp → Prop} (hP : ∀ ow H, P ow H → OwnW ow H ∧ SqL K H a vs ∧ FRs G ow H l vs) : ItOk G (enumL 0 l) P (Ite K a) := fun ow H p => by
  obtain ⟨h0, h1, h2⟩ := hP ow H p
  refine ⟨fun i d e => ?_, fun i hi => ⟨vs, h1, by rw [enumL_length] at hi; rw [← h2.length]; exact hi⟩⟩
  rw [enumL_get] at e
  obtain ⟨d0, e0, rfl⟩ := Option.map_eq_some_iff.mp e
  obtain ⟨v, e1, r⟩ := h2.get e0
  refine ⟨⟨vs, v, h1, e1⟩, fun x H' y => ?_⟩
  obtain ⟨T, x0, ex, hT, eH, y⟩ := y
  have := y vs h1
  rw [e1] at this
  cases this
  subst ex eH
  have hs := same_new (H := H) (o := .tup [V.int (i : Nat), v]) hT
  refine ⟨hs, .tup (.inl (.inl upd_same)) (.cons ?_ (.cons (r.stay h0 (Stay.of hs)) .nil))⟩
  rw [Int.zero_add]
  exact .int _
theorem zipL_get : ∀ (l m : List D) (i : Nat), (zipL l m)[i]? = (l[i]?).bind fun d => (m[i]?).map fun e => .tup [d, e]
  | [], m, i => by simp [zipL]
  | x :: l, [], i => by
    show (zipL (x :: l) [])[i]? = _
    cases (x :: l)[i]? <;> simp [zipL]
  | x :: l, y :: m, 0 => by simp [zipL]
  | x :: l, y :: m, i + 1 => by
    show (zipL l m)[i]? = (l[i]?).bind fun d => (m[i]?).map _
    exact zipL_get l m i
theorem zipL_length (l m : List D) : (zipL l m).length = min l.length m.length := by
  unfold zipL
  rw [List.length_map, List.length_zip]
theorem zip_ok {J : L2.It} {l m : List D} {vs us : List V} {Sq : Hp → List V → Prop} {Sr : Hp → List V → Prop} {P : (Addr → Prop) → Hp → Prop} (hP : ∀ ow H, P ow H → OwnW ow H ∧ Sq H vs ∧ Sr H us ∧ FRs G ow H l vs ∧ FRs G ow H m us)
    (hg : ∀ i H x y, Sq H vs → Sr H us → vs[i]? = some x → us[i]? = some y → J.go i H) (hy : ∀ i H v H', Sq H vs → Sr H us → J.yld i H v H' → ∃ T x y, v = .ref T ∧ H T = none ∧ H' = upd H T (.tup [x, y]) ∧ vs[i]? = some x ∧ us[i]? = some y)
    (hs : ∀ i H, Sq H vs → Sr H us → (vs.length ≤ i ∨ us.length ≤ i) → J.stop i H) : ItOk G (zipL l m) P J := fun ow H p => by
  obtain ⟨h0, h1, h2, r1, r2⟩ := hP ow H p
  refine ⟨fun i d e => ?_, fun i hi => hs i H h1 h2 ?_⟩
  · rw [zipL_get] at e
    obtain ⟨d1, e1, e⟩ := Option.bind_eq_some_iff.mp e
    obtain ⟨d2, e2, rfl⟩ := Option.map_eq_some_iff.mp e
    obtain ⟨v1, f1, q1⟩ := r1.get e1
    obtain ⟨v2, f2, q2⟩ := r2.get e2
    refine ⟨hg i H v1 v2 h1 h2 f1 f2, fun x H' y => ?_⟩
    obtain ⟨T, x0, y0, ex, hT, eH, g1, g2⟩ := hy i H x H' h1 h2 y
    rw [f1] at g1
    rw [f2] at g2
    cases g1
    cases g2
    subst ex eH
    have hs := same_new (H := H) (o := .tup [v1, v2]) hT
    exact ⟨hs, .tup (.inl (.inl upd_same)) (.cons (q1.stay h0 (Stay.of hs)) (.cons (q2.stay h0 (Stay.of hs)) .nil))⟩
  · rw [zipL_length] at hi
    rw [← r1.length, ← r2.length]
    omega
/-- a later state as an iterator sees it: lk: what may have changed -/
structure Pw (G : Wr) (H1 : Hp) (ow1 lk : Addr → Prop) (ow : Addr → Prop) (H : Hp) : Prop where
  own : OwnW ow H
  fr : ∀ ds vs, FRs G ow1 H1 ds vs → FRs G ow H ds vs
  keep : ∀ b o, H1 b = some o → ¬ lk b → H b = some o
theorem Pw.tup {H1 : Hp} {ow1 lk ow : Addr → Prop} {H : Hp} {a : Addr} {vs : List V} (p : Pw G H1 ow1 lk ow H) (hl : ∀ b, lk b → ∃ xs, H1 b = some (.lst xs)) (h : SqT G.K H1 a vs) : SqT G.K H a vs := by
  have n : ∀ o, H1 a = some o → (∀ xs, o ≠ .lst xs) → ¬ lk a := fun o e d z => by
    obtain ⟨xs, q⟩ := hl a z
    rw [e] at q
    exact d xs (Option.some.inj q)
  rcases h with (h | ⟨ob, h⟩) | h
  · exact .inl (.inl (p.keep _ _ h (n _ h fun xs z => by cases z)))
  · exact .inl (.inr ⟨ob, p.keep _ _ h (n _ h fun xs z => by cases z)⟩)
  · exact .inr h
end

/-- s: nothing that is owned is walked (a for loop); else: nothing but the deck may change (a comprehension) -/
def lkOf (s : Bool) (ow : Addr → Prop) (ka : Option Addr) : Addr → Prop := fun b => if s = true then ow b else ka = some b
def TIp (s : Bool) (G : Wr) (cl : CL) (W : XK) (it : It) : TI := fun σ H R => ∃ H0 ow0 ow ka st, SR G H0 ow0 ow ka st σ H ∧
  Rs (evI cl st.ρ it st.k) (fun l k' => ∀ H1 J, XS G ow ka k' H H1 → ItOk G l (Pw G H1 ow (lkOf s ow ka)) J → R J H1) (Erw G H0 ka W)
/-- what the source's reading is to be -/
def Pso (s : Bool) : PostT := if s = true then PF else PL
section
variable {G : Wr} {ow : Addr → Prop} {ka : Option Addr} {H : Hp}
theorem lk_own {s : Bool} {k : Dk} {H1 : Hp} (x : XS G ow ka k H H1) (ho : Own ow H1) : ∀ b, lkOf s ow ka b → ∃ xs, H1 b = some (.lst xs) := fun b z => by
  unfold lkOf at z
  cases s with
  | true =>
    rw [if_pos rfl] at z
    exact ho b z
  | false =>
    rw [if_neg (by decide)] at z
    obtain ⟨vs, e, _⟩ := x.dk b z
    exact ⟨vs, e⟩
theorem src_lst {s : Bool} {ds : List D} {v : V} {H' : Hp} (hk : ∀ a, ka = some a → ow a) (r : Pso s G ow ka H H' (.lst ds) v) : ∃ a vs, v = .ref a ∧ H' a = some (.lst vs) ∧ ¬ lkOf s ow ka a ∧ FRs G ow H' ds vs := by
  unfold lkOf
  cases s with
  | true =>
    have r' : FR G ow H' (.lst ds) v := r
    cases r' with
    | lst e n q => exact ⟨_, _, rfl, e, by rw [if_pos rfl]; exact n, q⟩
  | false =>
    have r' : FL G ow ka H' (.lst ds) v := r
    cases r' with
    | of r' =>
      cases r' with
      | lst e n q => exact ⟨_, _, rfl, e, by rw [if_neg (by decide)]; exact fun z => n (hk _ z), q⟩
    | lst e n q => exact ⟨_, _, rfl, e, by rw [if_neg (by decide)]; exact n, q⟩
theorem src_tup {s : Bool} {ds : List D} {v : V} {H' : Hp} (r : Pso s G ow ka H H' (.tup ds) v) : ∃ a vs, v = .ref a ∧ SqT G.K H' a vs ∧ FRs G ow H' ds vs := by
  cases s with
  | true =>
    have r' : FR G ow H' (.tup ds) v := r
    exact r'.tupx
  | false =>
    have r' : FL G ow ka H' (.tup ds) v := r
    exact r'.tup
theorem src_int {s : Bool} {i : Int} {v : V} {H' : Hp} (r : Pso s G ow ka H H' (.int i) v) : v = .int i := by
  cases s with
  | true =>
    have r' : FR G ow H' (.int i) v := r
    cases r'
    rfl
  | false =>
    have r' : FL G ow ka H' (.int i) v := r
    exact r'.int
end
section
variable {X : Cx} {cl : CL} {W : XK}
theorem Rs_ok {α : Type} {a : α × Dk} {ok : α → Dk → Prop} {er : Ex → Prop} (h : Rs (R.ok a) ok er) : ok a.1 a.2 := h
theorem si_seq {s : Bool} {e : E} {ex tg : Expr} (h : PE X ex (TEp (Pso s) (gx X) cl W e)) : PI X tg ex (TIp s (gx X) cl W (.seq e)) := by
  refine ⟨fun pins sh σ H Rg I w => ?_⟩
  obtain ⟨H0, ow0, ow, ka, st, S, w⟩ := w
  simp only [evI] at w
  have w := Rs_bind w
  -- a list, or a tuple
  have run_l : TEp (Pso s) (gx X) cl W e σ H (fun x H1 => ∃ a, x = .ref a ∧ (∃ xs, SqL X.K H1 a xs) ∧ Rg (Itl X.K a) H1) → wpAny (model X.prog X.w) X.A (eval ex X.env) (fun v s1 => wpAny (model X.prog X.w) X.A (pyIter v) (PIE X pins σ tg Rg) X.xe s1) X.xe sh := fun q =>
    (pi_list h).run pins sh σ H Rg I q
  have run_t : TEp (Pso s) (gx X) cl W e σ H (fun x H1 => ∃ a, x = .ref a ∧ (∃ xs, SqT X.K H1 a xs) ∧ Rg (Itt X.K a) H1) → wpAny (model X.prog X.w) X.A (eval ex X.env) (fun v s1 => wpAny (model X.prog X.w) X.A (pyIter v) (PIE X pins σ tg Rg) X.xe s1) X.xe sh := fun q =>
    (pi_tup h).run pins sh σ H Rg I q
  cases ev : evE cl st.ρ e st.k with
  | no =>
    rw [ev] at w
    exact False.elim w
  | err x =>
    rw [ev] at w
    exact run_l ⟨H0, ow0, ow, ka, st, S, by rw [ev]; exact w⟩
  | ok r =>
    obtain ⟨d, k1⟩ := r
    rw [ev] at w
    obtain ⟨l, hl, w⟩ := Rs_pure (Rs_ok w)
    cases d with
    | lst xs =>
      cases hl
      refine run_l ⟨H0, ow0, ow, ka, st, S, by
        rw [ev]
        intro H1 v x1 r1
        obtain ⟨a, vs, rfl, e1, n1, q1⟩ := src_lst S.kow r1
        exact ⟨a, rfl, ⟨vs, .of e1⟩, w H1 _ x1 (itl_ok fun ow' H' p => ⟨.of (p.keep _ _ e1 n1), p.fr _ _ q1⟩)⟩⟩
    | tup xs =>
      cases hl
      refine run_t ⟨H0, ow0, ow, ka, st, S, by
        rw [ev]
        intro H1 v x1 r1
        obtain ⟨a, vs, rfl, e1, q1⟩ := src_tup r1
        exact ⟨a, rfl, ⟨vs, e1⟩, w H1 _ x1 (itt_ok fun ow' H' p => ⟨p.tup (lk_own x1 (x1.own S.own)) e1, p.fr _ _ q1⟩)⟩⟩
    | _ => cases hl
theorem small_ok {i : Int} (h : smallI i = true) : -(2 ^ 62) ≤ i ∧ i < 2 ^ 62 := by
  unfold smallI at h
  exact of_decide_eq_true h
theorem evL1 {a : E} {ρ : List Sl} {k : Dk} {α : Type} {f : List D × Dk → R (α × Dk)} {ok : α → Dk → Prop} {er : Ex → Prop} (h : Rs ((evL cl ρ [a] k).bind f) ok er) : Rs (evE cl ρ a k) (fun d k1 => Rs (f ([d], k1)) ok er) er := by
  have h2 := Rs_bind h
  simp only [evL] at h2
  have h3 := Rs_bind h2
  exact h3.mono fun d k1 q => Rs_bind q
theorem si_range1 {s : Bool} {a : E} {ea tg : Expr} {p pos : Pos} (hg : Gl X "range") (hm : X.mg "range" = none) (ha : PE X ea (TEp PL (gx X) cl W a)) (hs : starEach [ea] X.env = [(false, eval ea X.env)]) :
    PI X tg (.Call (.Name "range" p) [ea] [] pos) (TIp s (gx X) cl W (.range [a])) := by
  refine ⟨fun pins sh σ H Rg I w => (pi_range1 hg hm (sa_one ha hs) hs).run pins sh σ H Rg I ?_⟩
  obtain ⟨H0, ow0, ow, ka, st, S, w⟩ := w
  simp only [evI] at w
  have w := evL1 w
  refine ⟨H0, ow0, ow, ka, st, S, w.mono fun d1 k1 q H1 x x1 r1 => ?_⟩
  obtain ⟨l, hl, q⟩ := Rs_pure q
  cases d1 with
  | int j =>
    cases r1.int
    have hl' : (if smallI j = true then R.ok (rangeL 0 1 j.toNat) else .no) = .ok l := hl
    by_cases hj : smallI j = true
    · rw [if_pos hj] at hl'
      cases hl'
      obtain ⟨b1, b2⟩ := small_ok hj
      exact ⟨j, rfl, b1, b2, q H1 _ x1 itr_ok⟩
    · rw [if_neg hj] at hl'
      cases hl'
  | _ => cases hl
def TA2 (G : Wr) (cl : CL) (W : XK) (a b : E) : TA := fun σ H Q => TEp PL G cl W a σ H fun v H1 => TEp PL G cl W b σ H1 fun u H2 => Q [v, u] H2
theorem sa_two {a b : E} {ea eb : Expr} (ha : PE X ea (TEp PL G cl W a)) (hb : PE X eb (TEp PL G cl W b)) (hs : starEach [ea, eb] X.env = (false, eval ea X.env) :: starEach [eb] X.env) (hs2 : starEach [eb] X.env = (false, eval eb X.env) :: starEach [] X.env) : PA X [ea, eb] (TA2 G cl W a b) :=
  pa_cons ha (pa_cons hb pa_nil hs2) hs
theorem si_range2 {s : Bool} {a b : E} {ea eb tg : Expr} {p pos : Pos} (hg : Gl X "range") (hm : X.mg "range" = none) (ha : PE X ea (TEp PL (gx X) cl W a)) (hb : PE X eb (TEp PL (gx X) cl W b))
    (hs : starEach [ea, eb] X.env = [(false, eval ea X.env), (false, eval eb X.env)]) (hs2 : starEach [eb] X.env = [(false, eval eb X.env)]) : PI X tg (.Call (.Name "range" p) [ea, eb] [] pos) (TIp s (gx X) cl W (.range [a, b])) := by
  refine ⟨fun pins sh σ H Rg I w => (pi_range2 hg hm (sa_two ha hb (by rw [hs, hs2]) hs2) hs hs2).run pins sh σ H Rg I ?_⟩
  obtain ⟨H0, ow0, ow, ka, st, S, w⟩ := w
  simp only [evI, evL] at w
  have w := Rs_bind w
  have w := Rs_bind w
  refine ⟨H0, ow0, ow, ka, st, S, w.mono fun d1 k1 q H1 x x1 r1 => ?_⟩
  have q := Rs_bind q
  have q := Rs_bind q
  refine ⟨H0, ow0, ow, ka, _, S.step x1, q.mono fun d2 k2 q H2 y x2 r2 => ?_⟩
  have q : Rs ((noErr (rangeD [d1, d2])).bind fun l => R.ok (l, k2)) (fun l k' => ∀ H1 J, XS (gx X) ow ka k' H H1 → ItOk (gx X) l (Pw (gx X) H1 ow (lkOf s ow ka)) J → Rg J H1) (Erw (gx X) H0 ka W) := q
  obtain ⟨l, hl, q⟩ := Rs_pure q
  cases d1 with
  | int i =>
    cases d2 with
    | int j =>
      cases r1.int
      cases r2.int
      have hl' : (if (smallI i && smallI j) = true then R.ok (rangeL i 1 (j - i).toNat) else .no) = .ok l := hl
      by_cases hj : (smallI i && smallI j) = true
      · rw [if_pos hj] at hl'
        cases hl'
        rw [Bool.and_eq_true] at hj
        obtain ⟨a1, a2⟩ := small_ok hj.1
        obtain ⟨b1, b2⟩ := small_ok hj.2
        exact ⟨i, j, rfl, ⟨a1, a2, b1, b2⟩, q H2 _ (x1.trans x2) itr_ok⟩
      · rw [if_neg hj] at hl'
        cases hl'
    | _ => cases hl
  | _ => cases hl
theorem si_enum {s : Bool} {a : E} {ea : Expr} {p pos tpos : Pos} {elts : List Expr} {kk : Nat} (hg : Gl X "enumerate") (hm : X.mg "enumerate" = none) (ha : PE X ea (TEp (Pso s) (gx X) cl W a)) (hs : starEach [ea] X.env = [(false, eval ea X.env)]) :
    PI X (.Tuple elts kk tpos) (.Call (.Name "enumerate" p) [ea] [] pos) (TIp s (gx X) cl W (.enum a)) := by
  refine ⟨fun pins sh σ H Rg I w => (pi_enum hg hm (pa_cons ha pa_nil (by rw [hs]; rfl)) hs).run pins sh σ H Rg I ?_⟩
  obtain ⟨H0, ow0, ow, ka, st, S, w⟩ := w
  simp only [evI] at w
  have w := Rs_bind w
  refine ⟨H0, ow0, ow, ka, st, S, w.mono fun d1 k1 q H1 x x1 r1 => ?_⟩
  cases d1 with
  | lst xs =>
    obtain ⟨a0, vs, rfl, e1, n1, q1⟩ := src_lst S.kow r1
    exact ⟨a0, vs, rfl, .of e1, q H1 _ x1 (enum_ok fun ow' H' p => ⟨p.own, .of (p.keep _ _ e1 n1), p.fr _ _ q1⟩)⟩
  | _ => exact False.elim q
theorem si_zip {s : Bool} {a b : E} {ea eb : Expr} {p pos tpos : Pos} {elts : List Expr} {kk : Nat} (hg : Gl X "zip") (hm : X.mg "zip" = none) (ha : PE X ea (TEp (Pso s) (gx X) cl W a)) (hb : PE X eb (TEp (Pso s) (gx X) cl W b))
    (hs : starEach [ea, eb] X.env = (false, eval ea X.env) :: starEach [eb] X.env) (hs2 : starEach [eb] X.env = (false, eval eb X.env) :: starEach [] X.env) (hpl : (backTo pos (starEach [eb] X.env)).any (·.1) = false) :
    PI X (.Tuple elts kk tpos) (.Call (.Name "zip" p) [ea, eb] [] pos) (TIp s (gx X) cl W (.zip a b)) := by
  refine ⟨fun pins sh σ H Rg I w => (RZ.pi_zipA hg hm (pa_cons ha (pa_cons hb pa_nil hs2) hs) hs hpl).run pins sh σ H Rg I ?_⟩
  obtain ⟨H0, ow0, ow, ka, st, S, w⟩ := w
  simp only [evI] at w
  have w := Rs_bind w
  refine ⟨H0, ow0, ow, ka, st, S, w.mono fun d1 k1 q H1 x x1 r1 => ?_⟩
  have q := Rs_bind q
  refine ⟨H0, ow0, ow, ka, _, S.step x1, q.mono fun d2 k2 q H2 y x2 r2 => ?_⟩
  have hst := x2.stay S.kow
  cases d1 with
  | lst xs =>
    cases d2 with
    | lst ys =>
      obtain ⟨a0, vs, rfl, e1, n1, q1⟩ := src_lst S.kow r1
      obtain ⟨b0, us, rfl, e2, n2, q2⟩ := src_lst S.kow r2
      have na : ka ≠ some a0 := fun z => n1 (by
        unfold lkOf
        cases s with
        | true => rw [if_pos rfl]; exact S.kow _ z
        | false => rw [if_neg (by decide)]; exact z)
      have e1' := x2.keep _ _ e1 na
      have q1' := q1.stay (x1.own S.own).w hst
      refine ⟨a0, b0, vs, us, rfl, .inl ⟨.of e1', .of e2, q H2 _ (x1.trans x2) (zip_ok (Sq := fun H vs => SqL X.K H a0 vs) (Sr := fun H us => SqL X.K H b0 us)
        (fun ow' H' p => ⟨p.own, .of (p.keep _ _ e1' n1), .of (p.keep _ _ e2 n2), p.fr _ _ q1', p.fr _ _ q2⟩)
        (fun i H x y h1 h2 f1 f2 => ⟨vs, us, x, y, h1, h2, f1, f2⟩) (fun i H v H' h1 h2 hy => by
          obtain ⟨T, x, y, g1, g2, g3, g4, g5⟩ := hy
          exact ⟨T, x, y, g1, g2, g3, g4 vs h1, g5 us h2⟩) fun i H h1 h2 hi => ⟨vs, us, h1, h2, hi⟩)⟩⟩
    | _ => exact False.elim q
  | tup xs =>
    cases d2 with
    | tup ys =>
      obtain ⟨a0, vs, rfl, e1, q1⟩ := src_tup r1
      obtain ⟨b0, us, rfl, e2, q2⟩ := src_tup r2
      have e1' := SqT.stay (x1.own S.own).w hst e1
      have q1' := q1.stay (x1.own S.own).w hst
      have x12 := x1.trans x2
      refine ⟨a0, b0, vs, us, rfl, .inr ⟨e1', e2, q H2 _ x12 (zip_ok (Sq := fun H vs => SqT X.K H a0 vs) (Sr := fun H us => SqT X.K H b0 us)
        (fun ow' H' p => ⟨p.own, p.tup (lk_own x12 (x12.own S.own)) e1', p.tup (lk_own x12 (x12.own S.own)) e2, p.fr _ _ q1', p.fr _ _ q2⟩)
        (fun i H x y h1 h2 f1 f2 => ⟨vs, us, x, y, h1, h2, f1, f2⟩) (fun i H v H' h1 h2 hy => by
          obtain ⟨T, x, y, g1, g2, g3, g4, g5⟩ := hy
          exact ⟨T, x, y, g1, g2, g3, g4 vs h1, g5 us h2⟩) fun i H h1 h2 hi => ⟨vs, us, h1, h2, hi⟩)⟩⟩
    | _ => exact False.elim q
  | _ => cases d2 <;> exact False.elim q
end
end Rf
set_option Elab.async false
set_option linter.all false
set_option maxRecDepth 100000
set_option maxHeartbeats 2000000
/-! Rf8: comprehensions, calls. Own work. -/
namespace Rf
open PySem PySem.Spec PyProof.Rows L2

/-! ### comprehensions -/
def WF : XK := fun _ _ _ => False
def TCp (G : Wr) (cl : CL) (W : XK) (c : Option E) : TT := fun σ H Q => ∃ H0 ow0 ow ka st, SR G H0 ow0 ow ka st σ H ∧ Rs (evC cl st.ρ c st.k) (fun b k' => ∀ H', XS G ow ka k' H H' → Q b H') (Erw G H0 ka W)
section
variable {X : Cx} {G : Wr} {cl : CL} {W : XK}
theorem sc_none : PTs X [] (TCp G cl W none) := ⟨fun pins s σ H Q I ⟨H0, ow0, ow, ka, st, S, h⟩ => pts_nil.run pins s σ H Q I (h H (XS.refl S.dk))⟩
theorem tc_of {e : E} {σ : L2.St} {H : Hp} {Q : Bool → Hp → Prop} (q : TCp G cl W (some e) σ H Q) : TTp G cl W e σ H Q := by
  obtain ⟨H0, ow0, ow, ka, st, S, q⟩ := q
  simp only [evC] at q
  refine ⟨H0, ow0, ow, ka, st, S, (Rs_bind q).mono fun d1 k1 h => ?_⟩
  cases d1 with
  | bl b => exact ⟨b, rfl, h⟩
  | _ => exact False.elim h
theorem sc_some {e : E} {ex : Expr} (h : PT X ex (TTp G cl W e)) : PTs X [ex] (TCp G cl W (some e)) := ⟨fun pins s σ H Q I q => (pts_one h).run pins s σ H Q I (tc_of q)⟩
theorem sc_testP {e : E} {ex : Expr} (h : PT X ex (TTp G cl W e)) : PT X ex (TCp G cl W (some e)) := PTi h fun σ H Q q => tc_of q
/-- a state with a new list barred: from the one ahead of it -/
theorem SR.reb {H0 : Hp} {ow0 ow : Addr → Prop} {ka : Option Addr} {st : Stt} {σ : L2.St} {H1 H : Hp} {D : Addr} {k : Dk} {vs : List V} (S : SR G H0 ow0 ow ka st σ H1) (hD : H1 D = none) (kp : Kp H1 ka H) (hl : H D = some (.lst vs)) (hk : DkR G (orA ow D) ka k H) :
    SR G H0 ow0 (orA ow D) ka ⟨st.ρ, k⟩ σ H := by
  have hst : Stay ow H1 H := fun b o e n => kp b o e fun z => n (S.kow b z)
  have hst2 : Stay (orA ow D) H1 H := hst.mono fun a z => .inl z
  have hw : OwnW (orA ow D) H1 := S.own.w.of_none hD
  refine ⟨S.len, fun b o e n => kp b o (S.keep b o e n) n, fun i s e => ?_, S.inj, hk, fun a z => .inl (S.dkow a z), fun a z => ?_, fun a z => .inl (S.sub a z)⟩
  · have q := S.sl i s e
    cases s with
    | u => exact True.intro
    | p d =>
      obtain ⟨v, e1, r⟩ := q
      exact ⟨v, e1, (r.bar hD).stay hw hst2⟩
    | b xs =>
      obtain ⟨a, ws, e1, h1, h2, h3, h4, r⟩ := q
      exact ⟨a, ws, e1, .inl h1, h2, h3, kp a _ h4 h2, (r.bar hD).stay hw hst2⟩
    | k => exact q
  · rcases z with z | z
    · obtain ⟨xs, e⟩ := S.own a z
      by_cases hka : ka = some a
      · obtain ⟨ws, e2, _⟩ := hk a hka
        exact ⟨ws, e2⟩
      · exact ⟨xs, kp a _ e hka⟩
    · exact ⟨vs, by rw [z]; exact hl⟩
theorem bind_ok {α β : Type} {r : R α} {f : α → R β} {b : β} (h : r.bind f = .ok b) : ∃ a, r = .ok a ∧ f a = .ok b := by
  cases r with
  | ok a => exact ⟨a, rfl, h⟩
  | err x => cases h
  | no => cases h
theorem noErr_ok' {α : Type} {r : R α} {b : α} (h : noErr r = .ok b) : r = .ok b := by
  cases r with
  | ok a => exact h
  | err x => cases h
  | no => cases h
theorem Rs_noErr {α : Type} {r : R (α × Dk)} {ok : α → Dk → Prop} {er : Ex → Prop} (h : Rs (noErr r) ok er) : ∃ a k, r = .ok (a, k) ∧ ok a k := by
  cases r with
  | ok a => exact ⟨a.1, a.2, rfl, h⟩
  | err x => exact False.elim h
  | no => exact False.elim h
/-- the reading of a comprehension, from the small language's -/
theorem comp_t {tg : Tg} {it : It} {c : Option E} {elt : E} {own : List (Str × Nat)} (htg : ∀ i ∈ tgS tg, i ∈ own.map (·.2)) (σ : L2.St) (H : Hp) (Q : VK) (h : TEp PN G cl W (.comp tg it c elt own) σ H Q) :
    tLc (TIp false G cl W it) (TGp G tg) (TCp G cl WF c) (TEp PF G cl WF elt) (own.map (·.2)) σ H Q := by
  obtain ⟨H0, ow0, ow, ka, st, S, h⟩ := h
  simp only [evE] at h
  refine ⟨H0, ow0, ow, ka, st, S, (Rs_bind h).mono fun l k1 h H1 J x1 hJ D hD => ?_⟩
  have S1 := S.step x1
  have SW := S1.wipe own
  have hDka : ka ≠ some D := fun z => by
    obtain ⟨vs, e, _⟩ := x1.dk D z
    rw [hD] at e
    cases e
  let f : Rf.D → Dk → R (Option Rf.D × Dk) := fun x k => noErr ((bindT tg x (wipeS st.ρ own)).bind fun ρ' => (evC cl ρ' c k).bind fun t => match t.1 with
        | true => (evE cl ρ' elt t.2).bind fun y => .ok (some y.1, y.2)
        | false => .ok (none, t.2))
  have h : Rs ((compL f l k1).bind fun q => if q.1.length ≤ SZ then R.ok (Rf.D.lst q.1, q.2) else .no) (fun d k' => ∀ H' v, XS G ow ka k' H H' → FN G ow H H' d v → Q v H') (Erw G H0 ka W) := h
  -- behind i items
  refine ⟨fun i m H' => m = l.length - i ∧ i ≤ l.length ∧ ∃ (acc : List Rf.D) (vacc : List V) (k : Dk), Kp H1 ka H' ∧ DkR G (orA ow D) ka k H' ∧ H' D = some (.lst vacc) ∧ FRs G (orA ow D) H' acc vacc ∧
      Rs (compL f (l.drop i) k) (fun ds k' => (acc ++ ds).length ≤ SZ ∧ ∀ H' v, XS G ow ka k' H H' → FN G ow H H' (.lst (acc ++ ds)) v → Q v H') (fun _ => False), ⟨l.length, by simp, Nat.zero_le _, [], [], k1, ?_⟩, ?_⟩
  · refine ⟨fun b o e n => by rw [upd_ne (ne_of_none e hD)]; exact e, fun a e => ?_, upd_same, .nil, ?_⟩
    · obtain ⟨vs, e1, r⟩ := x1.dk a e
      have hs := same_new (H := H1) (o := .lst []) hD
      exact ⟨vs, hs _ _ e1, (r.bar hD).stay (S1.own.w.of_none hD) (Stay.of hs)⟩
    · have h2 := Rs_bind h
      have e0 : ∀ xs k, ∀ x, compL f xs k ≠ .err x := by
        intro xs
        induction xs with
        | nil =>
          intro k x z
          cases z
        | cons y ys ih =>
          intro k x z
          have z' : ((f y k).bind fun r => (compL f ys r.2).bind fun q => .ok (consO r.1 q.1, q.2)) = .err x := z
          cases q : f y k with
          | ok r =>
            rw [q] at z'
            cases q2 : compL f ys r.2 with
            | ok r2 =>
              have z2 : ((compL f ys r.2).bind fun q => R.ok (consO r.1 q.1, q.2)) = .err x := z'
              rw [q2] at z2
              cases z2
            | err x2 => exact ih _ _ q2
            | no =>
              have z2 : ((compL f ys r.2).bind fun q => R.ok (consO r.1 q.1, q.2)) = .err x := z'
              rw [q2] at z2
              cases z2
          | err x2 =>
            have q' : noErr _ = R.err x2 := q
            unfold noErr at q'
            split at q' <;> cases q'
          | no =>
            rw [q] at z'
            cases z'
      cases q : compL f l k1 with
      | ok r =>
        rw [q] at h2
        rw [List.drop_zero, q]
        obtain ⟨hl, h3⟩ := Rs_ite (Rs_ok h2)
        exact ⟨hl, h3⟩
      | err x => exact absurd q (e0 l k1 x)
      | no =>
        rw [q] at h2
        exact False.elim h2
  · rintro i m H' ⟨rfl, hi, acc, vacc, k, kp, hdk, hDl, hacc, hr⟩
    have SB : SR G H0 ow0 (orA ow D) ka ⟨wipeS st.ρ own, k⟩ (wipe σ (own.map (·.2))) H' := SW.reb hD kp hDl hdk
    have hP : Pw G H1 ow (lkOf false ow ka) (orA ow D) H' := ⟨SB.own.w, fun ds vs r => (r.bar hD).stay (S1.own.w.of_none hD) fun b o e n => kp b o e fun z => n (.inl (S.kow b z)), fun b o e n => kp b o e fun z => n (by
      unfold lkOf
      rw [if_neg (by decide)]
      exact z)⟩
    obtain ⟨j1, j2⟩ := hJ _ _ hP
    by_cases hlt : i < l.length
    · have e1 : l[i]? = some l[i] := List.getElem?_eq_getElem hlt
      obtain ⟨go, yl⟩ := j1 i _ e1
      rw [List.drop_eq_getElem_cons hlt] at hr
      have hr2 := Rs_bind (show Rs ((f l[i] k).bind fun r => (compL f (l.drop (i + 1)) r.2).bind fun q => .ok (consO r.1 q.1, q.2)) _ _ from hr)
      obtain ⟨o, k2, hf, hr3⟩ := Rs_noErr hr2
      obtain ⟨ρ', hb, hf⟩ := bind_ok hf
      obtain ⟨t, hc, hf⟩ := bind_ok hf
      have hr4 := Rs_bind hr3
      refine .inr ⟨go, fun H2 => i + 1 ≤ l.length ∧ ∃ (acc : List Rf.D) (vacc : List V) (k : Dk), Kp H1 ka H2 ∧ DkR G (orA ow D) ka k H2 ∧ H2 D = some (.lst vacc) ∧ FRs G (orA ow D) H2 acc vacc ∧
        Rs (compL f (l.drop (i + 1)) k) (fun ds k' => (acc ++ ds).length ≤ SZ ∧ ∀ H' v, XS G ow ka k' H H' → FN G ow H H' (.lst (acc ++ ds)) v → Q v H') (fun _ => False), fun H2 w => ⟨l.length - (i + 1), by omega, rfl, w.1, w.2⟩, fun x H2 y => ?_⟩
      obtain ⟨sm, rx⟩ := yl x H2 y
      have x2 : XS G (orA ow D) ka k H' H2 := (XS.refl SB.dk).same sm SB.own
      have S2 := SB.step x2
      refine ⟨H0, ow0, orA ow D, ka, _, l[i], ρ', S2, rx, hb, fun σ' S3 l3 k3 => ⟨wipe_same (by rw [l3, wipe_length]) fun j hj => k3 j fun z => hj (htg j z), ?_⟩⟩
      refine ⟨H0, ow0, orA ow D, ka, _, S3, ?_⟩
      rw [hc]
      intro H3 x3
      have S4 := S3.step x3
      have x23 := x2.trans x3
      have hD3 : H3 D = some (.lst vacc) := x23.keep D _ hDl hDka
      have kp3 : Kp H1 ka H3 := fun b o e n => x23.keep b o (kp b o e n) n
      have acc3 : FRs G (orA ow D) H3 acc vacc := hacc.stay SB.own.w (x23.stay SB.kow)
      obtain ⟨tb, tk⟩ := t
      cases tb with
      | false =>
        cases hf
        refine iteF ⟨hlt, acc, vacc, tk, kp3, x3.dk, hD3, acc3, ?_⟩
        refine hr4.mono fun ds k' q => ?_
        exact q
      | true =>
        obtain ⟨y0, he, hf⟩ := bind_ok hf
        cases hf
        refine iteT ⟨H0, ow0, orA ow D, ka, _, S4, ?_⟩
        rw [he]
        intro H4 v x4 r4
        have hD4 : H4 D = some (.lst vacc) := x4.keep D _ hD3 hDka
        have own4 := x4.own S4.own
        have acc4 := (acc3.stay S4.own.w (x4.stay S4.kow)).snoc r4
        have lacc : acc.length = vacc.length := hacc.length
        have size : acc.length + 1 ≤ SZ := by
          cases q : compL f (l.drop (i + 1)) y0.2 with
          | ok r =>
            rw [q] at hr4
            have hl := (Rs_ok hr4).1
            rw [List.length_append] at hl
            have hl2 : acc.length + (r.1.length + 1) ≤ SZ := hl
            omega
          | err x =>
            rw [q] at hr4
            exact False.elim hr4
          | no =>
            rw [q] at hr4
            exact False.elim hr4
        refine ⟨vacc, hD4, by rw [← sz_eq]; omega, hlt, acc ++ [y0.1], vacc ++ [v], y0.2, fun b o e n => ?_, fun a e => ?_, upd_same, ?_, ?_⟩
        · have : b ≠ D := fun z => by
            rw [z] at e
            rw [hD] at e
            cases e
          rw [upd_ne this]
          exact x4.keep b o (kp3 b o e n) n
        · obtain ⟨vs, e1, r⟩ := x4.dk a e
          have : a ≠ D := fun z => hDka (z ▸ e)
          refine ⟨vs, by rw [upd_ne this]; exact e1, r.stay own4.w fun b o e n => ?_⟩
          rw [upd_ne (fun z => n (.inr z))]
          exact e
        · exact acc4.stay own4.w fun b o e n => by
            rw [upd_ne (fun z => n (.inr z))]
            exact e
        · refine hr4.mono fun ds k' q => ?_
          rw [List.append_assoc]
          exact q
    · have e : i = l.length := by omega
      refine .inl ⟨j2 i (by omega), ?_⟩
      rw [e, List.drop_length] at hr
      obtain ⟨_, q⟩ := Rs_ok hr
      rw [List.append_nil] at q
      have kpH : ∀ b o, H b = some o → ka ≠ some b → H' b = some o := fun b o e n => kp b o (x1.keep b o e n) n
      have dkH : DkR G ow ka k H' := fun a e => by
        obtain ⟨vs, e1, r⟩ := hdk a e
        exact ⟨vs, e1, r.mono fun b z => .inl z⟩
      exact q H' _ ⟨kpH, dkH⟩ (.new (x1.free S.kow S.own D hD) hDl hacc)
end
section
variable {X : Cx} {cl : CL} {W : XK}
theorem sn_comp {tg : Tg} {it : It} {c : Option E} {elt : E} {own : List (Str × Nat)} {tgx iterx eltx : Expr} {ifs : List Expr} {scope : Scope} {pos : Pos} (htg : ∀ i ∈ tgS tg, i ∈ own.map (·.2)) (hc : X.calm = true) (hN : X.N.Nodup)
    (hi : PI X tgx iterx (TIp false (gx X) cl W it)) (ok : BlkOk X.N X.env.scope scope own)
    (hg : ∀ (s : Shared) (H : Hp) (C : Addr) (l : List (Str × Addr)) (fp : List Addr), PG (X.blk s H scope (compEnvC scope l C X.env) fp) tgx (TGp (gx X) tg))
    (ht : ∀ (s : Shared) (H : Hp) (C : Addr) (l : List (Str × Addr)) (fp : List Addr), PTs (X.blk s H scope (compEnvC scope l C X.env) fp) ifs (TCp (gx X) cl WF c))
    (he : ∀ (s : Shared) (H : Hp) (C : Addr) (l : List (Str × Addr)) (fp : List Addr), PE (X.blk s H scope (compEnvC scope l C X.env) fp) eltx (TEp PF (gx X) cl WF elt)) (hs : ∀ x, foldedSetIterable iterx X.env x = pure x) :
    PE X (.ListComp eltx [⟨tgx, iterx, ifs, 0⟩] scope pos) (TEp PN (gx X) cl W (.comp tg it c elt own)) := PEi (pe_lc hc hN hi ok hg ht he hs) (comp_t htg)
end
end Rf
set_option Elab.async false
set_option linter.all false
set_option maxRecDepth 100000
set_option maxHeartbeats 2000000
/-! Rf9: calls, the deck, isinstance, dict displays that are asked at once. Own work. -/
namespace Rf
open PySem PySem.Spec PyProof.Rows L2

/-! ### the promise of a def -/
def PR (f : Bool) (G : Wr) (ow : Addr → Prop) (H H' : Hp) (d : D) (v : V) : Prop := if f = true then FN G ow H H' d v else FR G ow H' d v
def kaV : Option Addr → List V
  | some a => [.ref a]
  | none => []
def spF (G : Wr) (T : Tab) (fu n : Nat) (x : Str) (fd : FDef) : Sp := fun vs H Q E => ∃ (ow : Addr → Prop) (ka : Option Addr) (k : Dk) (ds : List D) (ws : List V),
  vs = kaV ka ++ ws ∧ ka.isSome = fd.dk ∧ FRs G ow H ds ws ∧ Own ow H ∧ DkR G ow ka k H ∧ (∀ a, ka = some a → ow a) ∧ ds.length = fd.np ∧
  Rs (callN T fu n x k ds) (fun d k' => ∀ H' v, XS G ow ka k' H H' → PR fd.fresh G ow H H' d v → Q v H') (fun x => ∀ c dd H', ExR G x c dd H' → Kp H ka H' → E c dd H')
def FDef.ar (fd : FDef) : Nat := (if fd.dk then 1 else 0) + fd.np
theorem spF_len {G : Wr} {T : Tab} {fu n : Nat} {x : Str} {fd : FDef} {vs : List V} {H : Hp} {Q : VK} {E : XK} (h : spF G T fu n x fd vs H Q E) : vs.length = fd.ar := by
  obtain ⟨ow, ka, k, ds, ws, rfl, h1, h2, _, _, _, h3, _⟩ := h
  have l := h2.length
  unfold FDef.ar
  cases ka with
  | none =>
    have e : fd.dk = false := h1.symm
    rw [e]
    show ws.length = _
    simp
    omega
  | some a =>
    have e : fd.dk = true := h1.symm
    rw [e]
    show ws.length + 1 = _
    simp
    omega
/-- a def of the text under its name, n deep -/
structure FnAt (P : Program) (w : World) (K : PySem.W.Frag) (mg : Str → Option Value) (base : Heap) (T : Tab) (fu n : Nat) (x : Str) (fd : FDef) : Prop where
  ex : ∃ (f : Addr) (fdt : FuncData) (ps : List Str), mg x = some (.ref f) ∧ PySem.W.keepIn K (.ref f) = true ∧ Binds K fdt ps [] ∧ FnOk P w K mg base (L2.CX P w) n f fdt ps (spF ⟨K, mg⟩ T fu n x fd)
section
variable {X : Cx} {T : Tab} {fu n : Nat} {W : XK}
theorem Rs_bind2 {α β : Type} {r : R (α × Dk)} {f : α × Dk → R (β × Dk)} {ok : β → Dk → Prop} {er : Ex → Prop} (h : Rs (r.bind f) ok er) : Rs r (fun a k => Rs (f (a, k)) ok er) er := Rs_bind h
theorem Rs.mono2 {α : Type} {r : R (α × Dk)} {ok ok' : α → Dk → Prop} {er er' : Ex → Prop} (h : Rs r ok er) (f : ∀ a k, ok a k → ok' a k) (g : ∀ x, er x → er' x) : Rs r ok' er' := by
  cases r with
  | ok a => exact f _ _ h
  | err x => exact g _ h
  | no => exact h
/-- what the call's value is: as the callee says -/
def PC (f : Bool) : PostT := if f = true then PN else PF
theorem PC_of {f : Bool} {G : Wr} {ow : Addr → Prop} {ka : Option Addr} {H H1 H' : Hp} {d : D} {v : V} (hb : ∀ b, H1 b = none → H b = none) (r : PR f G ow H1 H' d v) : PC f G ow ka H H' d v := by
  unfold PR at r
  unfold PC
  cases f with
  | true =>
    rw [if_pos rfl] at r ⊢
    exact r.back hb
  | false =>
    rw [if_neg (by decide)] at r ⊢
    exact r
/-- the arguments are there: the callee's promise is what is asked -/
theorem call_t {x : Str} {fd : FDef} {es : List E} (hd : fd.dk = false) (hnp : es.length = fd.np) (σ : L2.St) (H : Hp) (Q : VK) (h : TEp (PC fd.fresh) (gx X) (clN T fu n) W (.call x es) σ H Q) :
    tCall (spF (gx X) T fu n x fd) [] W (TAp (gx X) (clN T fu n) W es) σ H Q := by
  obtain ⟨H0, ow0, ow, ka, st, S, h⟩ := h
  simp only [evE] at h
  refine ⟨H0, ow0, ow, ka, st, S, ?_⟩
  have hl : ∀ ds k, evL (clN T fu n) st.ρ es st.k = .ok (ds, k) → ds.length = es.length := by
    have g : ∀ (es : List E) (k0 : Dk) (ds : List Rf.D) (k : Dk), evL (clN T fu n) st.ρ es k0 = .ok (ds, k) → ds.length = es.length := by
      intro es
      induction es with
      | nil =>
        intro k0 ds k e
        simp only [evL] at e
        cases e
        rfl
      | cons a es ih =>
        intro k0 ds k e
        simp only [evL] at e
        obtain ⟨u, h1, e⟩ := bind_ok e
        obtain ⟨us, h2, e⟩ := bind_ok e
        cases e
        exact congrArg (· + 1) (ih _ _ _ h2)
    exact fun ds k e => g es st.k ds k e
  have h1 := Rs_bind h
  cases ev : evL (clN T fu n) st.ρ es st.k with
  | no =>
    rw [ev] at h1
    exact False.elim h1
  | err e =>
    rw [ev] at h1
    exact h1
  | ok r =>
    rw [ev] at h1
    have hlen := hl r.1 r.2 ev
    intro H1 vs x1 r1
    have h2 := Rs_bind (Rs_ok h1)
    have own1 := x1.own S.own
    refine ⟨ow, none, [], r.1, vs, by simp [kaV], hd.symm ▸ rfl, r1, own1, fun a e => (nomatch e), fun a e => (nomatch e), by rw [hlen]; exact hnp, h2.mono2 (fun d k' q H' v x2 p => ?_) fun e q c dd H' ex kp => ?_⟩
    · have sm : Same H1 H' := fun b o e => x2.keep b o e (fun z => nomatch z)
      exact q H' v (x1.same sm own1) (PC_of (x1.free S.kow S.own) p)
    · exact q c dd H' ex fun b o e nk => kp b o (x1.keep b o (S.keep b o e nk) nk) fun z => nomatch z
theorem Rs_iteB {α : Type} {c : Bool} {r : R (α × Dk)} {ok : α → Dk → Prop} {er : Ex → Prop} (h : Rs (if c = true then r else .no) ok er) : c = true ∧ Rs r ok er := Rs_ite h
theorem isK_of {ρ : List Sl} {i : Nat} (h : isK ρ i = true) : ρ[i]? = some .k := by
  unfold isK at h
  cases e : ρ[i]? with
  | none =>
    rw [e] at h
    cases h
  | some s =>
    rw [e] at h
    cases s with
    | k => rfl
    | _ => cases h
def TAk (G : Wr) (cl : CL) (W : XK) (i : Nat) (es : List E) : TA := tCons (tVar i) (TAp G cl W es)
theorem callD_t {x : Str} {fd : FDef} {i : Nat} {es : List E} (hd : fd.dk = true) (hnp : es.length = fd.np) (σ : L2.St) (H : Hp) (Q : VK) (h : TEp (PC fd.fresh) (gx X) (clN T fu n) W (.callD i x es) σ H Q) :
    tCall (spF (gx X) T fu n x fd) [] W (TAk (gx X) (clN T fu n) W i es) σ H Q := by
  obtain ⟨H0, ow0, ow, ka, st, S, h⟩ := h
  simp only [evE] at h
  obtain ⟨hk, h⟩ := Rs_iteB h
  obtain ⟨a, e1, e2⟩ := S.sl i _ (isK_of hk)
  subst e2
  refine ⟨.ref a, slot_of e1, ?_⟩
  refine ⟨H0, ow0, ow, some a, st, S, ?_⟩
  have g : ∀ (es : List E) (k0 : Dk) (ds : List Rf.D) (k : Dk), evL (clN T fu n) st.ρ es k0 = .ok (ds, k) → ds.length = es.length := by
    intro es
    induction es with
    | nil =>
      intro k0 ds k e
      simp only [evL] at e
      cases e
      rfl
    | cons a es ih =>
      intro k0 ds k e
      simp only [evL] at e
      obtain ⟨u, h1, e⟩ := bind_ok e
      obtain ⟨us, h2, e⟩ := bind_ok e
      cases e
      exact congrArg (· + 1) (ih _ _ _ h2)
  have h1 := Rs_bind h
  cases ev : evL (clN T fu n) st.ρ es st.k with
  | no =>
    rw [ev] at h1
    exact False.elim h1
  | err e =>
    rw [ev] at h1
    exact h1
  | ok r =>
    rw [ev] at h1
    have hlen := g es st.k r.1 r.2 ev
    intro H1 vs x1 r1
    have h2 := Rs_ok h1
    have own1 := x1.own S.own
    refine ⟨ow, some a, r.2, r.1, vs, by simp [kaV], hd.symm ▸ rfl, r1, own1, x1.dk, S.kow, by rw [hlen]; exact hnp, h2.mono2 (fun d k' q H' v x2 p => ?_) fun e q c dd H' ex kp => ?_⟩
    · exact q H' v (x1.trans x2) (PC_of (x1.free S.kow S.own) p)
    · exact q c dd H' ex fun b o e nk => kp b o (x1.keep b o (S.keep b o e nk) nk) nk
variable {x : Str} {fd : FDef} {es : List E} {p pos : Pos}
theorem sn_call {e : Expr} {exs : List Expr} (F : FnAt X.prog X.w X.K X.mg X.base T fu n x fd) (hd : fd.dk = false) (hnp : es.length = fd.np) (hr : Room n X.A) (hg : Gl X x) (hx : Passes (L2.CX X.prog X.w) X W) (ha : PA X (e :: exs) (TAp (gx X) (clN T fu n) W es))
    (hdb : (x == ("__debug__" : Str)) = false) (he : starEach (e :: exs) X.env = (false, eval e X.env) :: starEach exs X.env) (hpl : (backTo pos (starEach exs X.env)).any (·.1) = false) :
    PE X (.Call (.Name x p) (e :: exs) [] pos) (TEp (PC fd.fresh) (gx X) (clN T fu n) W (.call x es)) := by
  obtain ⟨f, fdt, ps, hm, hk, hb, F⟩ := F.ex
  exact PEi (pe_call F hr hg hm hk hb .nil hx ha hdb he hpl) (call_t hd hnp)
theorem sn_call0 (F : FnAt X.prog X.w X.K X.mg X.base T fu n x fd) (hd : fd.dk = false) (hnp : 0 = fd.np) (hr : Room n X.A) (hg : Gl X x) (hx : Passes (L2.CX X.prog X.w) X W) (hdb : (x == ("__debug__" : Str)) = false) :
    PE X (.Call (.Name x p) [] [] pos) (TEp (PC fd.fresh) (gx X) (clN T fu n) W (.call x [])) := by
  obtain ⟨f, fdt, ps, hm, hk, hb, F⟩ := F.ex
  refine PEi (pe_call0 F hr hg hm hk hb .nil hx hdb) fun σ H Q h => ?_
  obtain ⟨H0, ow0, ow, ka, st, S, h⟩ := call_t (es := []) hd hnp σ H Q h
  exact h H [] (XS.refl S.dk) .nil
theorem sn_callD {i : Nat} {y : Str} {exs : List Expr} {py : Pos} (F : FnAt X.prog X.w X.K X.mg X.base T fu n x fd) (hd : fd.dk = true) (hnp : es.length = fd.np) (hr : Room n X.A) (hg : Gl X x) (hx : Passes (L2.CX X.prog X.w) X W) (hv : PE X (.Name y py) (tVar i))
    (ha : PA X exs (TAp (gx X) (clN T fu n) W es)) (hdb : (x == ("__debug__" : Str)) = false) (hpl : (backTo pos (starEach exs X.env)).any (·.1) = false) :
    PE X (.Call (.Name x p) (.Name y py :: exs) [] pos) (TEp (PC fd.fresh) (gx X) (clN T fu n) W (.callD i x es)) := by
  obtain ⟨f, fdt, ps, hm, hk, hb, F⟩ := F.ex
  exact PEi (pe_call F hr hg hm hk hb .nil hx (pa_cons hv ha rfl) hdb rfl hpl) (callD_t hd hnp)
end

/-! ### the deck's cells -/
section
variable {X : Cx} {cl : CL} {W : XK}
def rDk (G : Wr) : R2 := fun x y H Q => ∃ (ow : Addr → Prop) (a : Addr) (k : Dk) (j : Nat) (d : D), x = .ref a ∧ y = .int j ∧ DkR G ow (some a) k H ∧ k[j]? = some d ∧ ∀ v, FR G ow H d v → Q v H
theorem ix_Dk : IxR X (rDk (gx X)) := by
  intro value slice pins s σ H x y v u Q I rx ry ⟨ow, a, k, j, d, ex, ey, hk, hj, q⟩ hs
  obtain ⟨vs, e, r⟩ := hk a rfl
  obtain ⟨w', e1, r1⟩ := r.get hj
  have hl : j < vs.length := (List.getElem?_eq_some_iff.mp e1).1
  exact ix_list value slice pins s σ H _ _ v u Q I rx ry ⟨a, vs, j, w', ex, ey, .of e, by
    unfold atI
    have : ixN vs.length (j : Int) = some j := by
      rw [place_ixN]
      unfold place
      rw [if_pos (by omega), if_pos (by omega), Int.toNat_natCast]
    rw [this]
    exact e1, q _ r1⟩ hs
theorem sn_dk {i j : Nat} {y : Str} {py p1 pos : Pos} {kk : Nat} (hv : PE X (.Name y py) (tVar i)) (hs : PlainIx (.Constant (.int j) kk p1)) : PE X (.Subscript (.Name y py) (.Constant (.int j) kk p1) pos) (TEp PF (gx X) cl W (.dk i j)) := by
  refine PEi (pe_ix ix_Dk hv pe_int hs) fun σ H Q ⟨H0, ow0, ow, ka, st, S, h⟩ => ?_
  simp only [evE] at h
  cases e1 : isK st.ρ i with
  | false =>
    rw [e1] at h
    exact False.elim h
  | true =>
    rw [e1] at h
    cases e2 : st.k[j]? with
    | none =>
      rw [e2] at h
      exact False.elim h
    | some d =>
      rw [e2] at h
      obtain ⟨a, e3, e4⟩ := S.sl i _ (isK_of e1)
      subst e4
      exact ⟨.ref a, slot_of e3, ow, a, st.k, j, d, rfl, rfl, S.dk, e2, fun v r => h H v (XS.refl S.dk) r⟩

/-! ### names of the module -/
theorem sn_glob {x : Str} {d : D} {u : Value} {v : V} {pos : Pos} (hg : Gl X x) (hm : X.mg x = some u) (rv : RelV v u) (hc : cl.glob x = some d) (r : ∀ ow H, FR (gx X) ow H d v) (hdb : (x == ("__debug__" : Str)) = false) : PE X (.Name x pos) (TEp PF (gx X) cl W (.glob x)) :=
  sn_con (d := d) (pe_glob hg hm rv hdb) (fun ρ k => by simp only [evE, hc]) r

/-! ### isinstance -/
inductive K6 where | non | bl | int | str | tup | lst
  deriving DecidableEq
def K6.nm : K6 → String
  | .non => "NoneType" | .bl => "bool" | .int => "int" | .str => "str" | .tup => "tuple" | .lst => "list"
def Ty.nm : Ty → String
  | .int => "int" | .bool => "bool" | .str => "str" | .tuple => "tuple" | .list => "list"
def k6 : D → Option K6
  | .non => some .non | .bl _ => some .bl | .int _ => some .int | .str _ => some .str | .tup _ => some .tup | .lst _ => some .lst
  | _ => none
def is6 : K6 → Ty → Bool
  | .bl, .int => true | .bl, .bool => true | .int, .int => true | .str, .str => true | .tup, .tuple => true | .lst, .list => true
  | _, _ => false
theorem kit6 (a : K6) (b : Ty) : kitB a.nm b.nm = some (is6 a b) := by
  cases a <;> cases b <;> decide +kernel
theorem is6_of {d : D} {k : K6} (h : k6 d = some k) (t : Ty) : is6 k t = isTy d t := by
  cases d <;> first | (cases h; done) | (cases h; cases t <;> rfl)
theorem k6_plain {d : D} (h : plainTy d = true) : ∃ k, k6 d = some k := by
  cases d <;> first | exact ⟨_, rfl⟩ | cases h
theorem tyx_of {G : Wr} {ow : Addr → Prop} {ka : Option Addr} {H : Hp} {d : D} {v : V} {k : K6} (r : FL G ow ka H d v) (h : k6 d = some k) : TyX G.K H v (.type k.nm) := by
  cases r with
  | lst e _ _ =>
    cases h
    exact .base (.lst e)
  | of r =>
    cases r with
    | non => cases h; exact .base .non
    | bl b => cases h; exact .base (.bl b)
    | int i => cases h; exact .base (.int i)
    | str x e => cases h; exact .base (.str x)
    | tup s _ =>
      cases h
      rcases s with (s | ⟨o, s⟩) | ⟨o, its, m, s1, s2, _⟩
      · exact .base (.tup s)
      · exact .fTuple s
      · exact .kTuple s1 s2
    | lst s _ _ => cases h; exact .base (.lst s)
    | scr _ => cases h
    | fn _ => cases h
theorem kitAny6 {K : PySem.W.Frag} {a : K6} : ∀ ts : List Ty, PySem.W.kitAny K (.type a.nm) (ts.map fun t => Value.type t.nm) = some (ts.any (is6 a))
  | [] => rfl
  | t :: ts => by
    rw [List.map_cons, List.any_cons]
    refine kitAny_cons (b := is6 a t) (kit_ty (kit6 a t)) (fun e => ?_) fun e => ?_
    · rw [e, Bool.false_or]
      exact kitAny6 ts
    · rw [e, Bool.true_or]
theorem boot_ty (t : Ty) : bootBuiltins (⟨t.nm.toList.map (·.toNat) |>.toArray⟩ : Str) = some (.type t.nm) := by
  cases t <;> decide +kernel
end
end Rf
set_option Elab.async false
set_option linter.all false
set_option maxRecDepth 100000
set_option maxHeartbeats 2000000
/-! Rf10: isinstance, dict displays asked at once, built-ins by name. Own work. -/
namespace Rf
open PySem PySem.Spec PyProof.Rows L2
def Ty.st : Ty → Str
  | .int => "int" | .bool => "bool" | .str => "str" | .tuple => "tuple" | .list => "list"
theorem boot_tyS (t : Ty) : bootBuiltins t.st = some (.type t.nm) := by cases t <;> decide +kernel
theorem ty_ne (t : Ty) : t.st ≠ "__name__" ∧ (t.st == ("__debug__" : Str)) = false := by cases t <;> decide
def Bi.st : Bi → Str
  | .len => "len" | .tuple => "tuple" | .list => "list" | .int => "int" | .abs => "abs" | .sum => "sum" | .all => "all" | .any => "any"
theorem boot_bi (b : Bi) : bootBuiltins b.st = some (biV b) := by cases b <;> decide +kernel
theorem bi_ne (b : Bi) : b.st ≠ "__name__" ∧ (b.st == ("__debug__" : Str)) = false := by cases b <;> decide
section
variable {X : Cx} {cl : CL} {W : XK}
theorem sn_bi {b : Bi} {a : E} {ea : Expr} {p pos : Pos} (hc : X.calm = true) (hg : Gl X b.st) (hm : X.mg b.st = none) (ha : PE X ea (TEp PL (gx X) cl W a)) (hs : starEach [ea] X.env = (false, eval ea X.env) :: starEach [] X.env) (hpl : (backTo pos (starEach ([] : List Expr) X.env)).any (·.1) = false) :
    PE X (.Call (.Name b.st p) [ea] [] pos) (TEp PN (gx X) cl W (.bi b a)) := by
  have hp := sa_one ha hs
  have hv := boot_bi b
  have hn := bi_ne b
  have hcall := call_bi (X := X) hc b
  cases b with
  | len => exact PEi (pe_callB hcall hg hm hv hp hn.1 hn.2 hs hpl) bi_t
  | abs => exact PEi (pe_callB hcall hg hm hv hp hn.1 hn.2 hs hpl) bi_t
  | sum => exact PEi (pe_callB hcall hg hm hv hp hn.1 hn.2 hs hpl) bi_t
  | all => exact PEi (pe_callB hcall hg hm hv hp hn.1 hn.2 hs hpl) bi_t
  | any => exact PEi (pe_callB hcall hg hm hv hp hn.1 hn.2 hs hpl) bi_t
  | tuple => exact PEi (pe_callTy hcall hg hm hv hp hn.1 hn.2 hs hpl) bi_t
  | list => exact PEi (pe_callTy hcall hg hm hv hp hn.1 hn.2 hs hpl) bi_t
  | int => exact PEi (pe_callTy hcall hg hm hv hp hn.1 hn.2 hs hpl) bi_t
theorem pe_tyn {t : Ty} {p : Pos} (hg : Gl X t.st) (hm : X.mg t.st = none) : PE X (.Name t.st p) (tC (.ty t.nm)) := pe_bltn hg hm (boot_tyS t) rfl (ty_ne t).1 (ty_ne t).2
theorem sn_isi1 {t : Ty} {a : E} {ea : Expr} {p p2 pos : Pos} (hgi : Gl X "isinstance") (hmi : X.mg "isinstance" = none) (hg : Gl X t.st) (hm : X.mg t.st = none) (ha : PE X ea (TEp PL (gx X) cl W a)) (hs : starEach [ea, .Name t.st p2] X.env = (false, eval ea X.env) :: starEach [.Name t.st p2] X.env) :
    PE X (.Call (.Name "isinstance" p) [ea, .Name t.st p2] [] pos) (TEp PN (gx X) cl W (.isi a [t])) := by
  refine PEi (pe_callB call_isi hgi hmi (by decide +kernel) (pa_cons ha (pa_cons (pe_tyn hg hm) pa_nil rfl) hs) (by decide) (by decide) hs rfl) fun σ H Q ⟨H0, ow0, ow, ka, st, S, h⟩ => ?_
  simp only [evE] at h
  refine ⟨H0, ow0, ow, ka, st, S, (Rs_bind h).mono fun d1 k1 h H1 x x1 r1 => ?_⟩
  obtain ⟨hp, h⟩ := Rs_iteB h
  obtain ⟨k, hk⟩ := k6_plain hp
  refine ⟨x, .ty t.nm, .type k.nm, .type t.nm, isTy d1 t, rfl, .ty _, tyx_of r1 hk, ?_, ?_⟩
  · rw [← is6_of hk t]
    exact kit_ty (kit6 k t)
  · have q := h H1 (.bl (isTy d1 t)) x1
    simp only [List.any_cons, List.any_nil, Bool.or_false] at q
    exact q (FN.bl _)
/-- the classes' names in a tuple -/
def tyNames : List Ty → List Pos → List Expr
  | t :: ts, p :: ps => .Name t.st p :: tyNames ts ps
  | _, _ => []
def tTys : List Ty → TA
  | [] => tNil
  | t :: ts => tCons (tC (.ty t.nm)) (tTys ts)
theorem tTys_run : ∀ (ts : List Ty) (σ : L2.St) (H : Hp) (Q : List V → Hp → Prop), Q (ts.map fun t => V.ty t.nm) H → tTys ts σ H Q
  | [], _, _, _, h => h
  | t :: ts, σ, H, Q, h => tTys_run ts σ H (fun vs H' => Q (V.ty t.nm :: vs) H') h
theorem cls_all : ∀ ts : List Ty, Paired ClsV (ts.map fun t => V.ty t.nm) (ts.map fun t => Value.type t.nm)
  | [] => .nil
  | t :: ts => .cons (.ty _) (cls_all ts)
theorem sn_isiT {ts : List Ty} {a : E} {ea : Expr} {exs : List Expr} {kk : Nat} {p p2 pos : Pos} (hgi : Gl X "isinstance") (hmi : X.mg "isinstance" = none) (hl : ts.length ≤ 100) (ht : PA X exs (tTys ts)) (ha : PE X ea (TEp PL (gx X) cl W a))
    (hs : starEach [ea, .Tuple exs kk p2] X.env = (false, eval ea X.env) :: starEach [.Tuple exs kk p2] X.env) :
    PE X (.Call (.Name "isinstance" p) [ea, .Tuple exs kk p2] [] pos) (TEp PN (gx X) cl W (.isi a ts)) := by
  refine PEi (pe_callB call_isiT hgi hmi (by decide +kernel) (pa_cons ha (pa_cons (pe_tup ht) pa_nil rfl) hs) (by decide) (by decide) hs rfl) fun σ H Q ⟨H0, ow0, ow, ka, st, S, h⟩ => ?_
  simp only [evE] at h
  refine ⟨H0, ow0, ow, ka, st, S, (Rs_bind h).mono fun d1 k1 h H1 x x1 r1 => ?_⟩
  obtain ⟨hp, h⟩ := Rs_iteB h
  obtain ⟨k, hk⟩ := k6_plain hp
  refine tTys_run ts σ H1 _ ⟨?_, fun tp hT => ?_⟩
  · rw [List.length_map, sizeLine_eq]
    omega
  · have hs := same_new (H := H1) (o := .tup (ts.map fun t => V.ty t.nm)) hT
    have x2 := x1.same hs (x1.own S.own)
    have x12 : XS (gx X) ow ka k1 H1 _ := (XS.refl x1.dk).same hs (x1.own S.own)
    have r2 := r1.xs x12 S.kow (x1.own S.own)
    refine ⟨x, tp, _, .type k.nm, _, ts.any (is6 k), rfl, upd_same, cls_all ts, tyx_of r2 hk, kitAny6 ts, ?_⟩
    have e : ts.any (is6 k) = ts.any (isTy d1) := by
      congr 1
      funext t
      exact is6_of hk t
    rw [e]
    exact h _ _ x2 (FN.bl _)

/-! ### {..}.get(e, n) -/
def kvV (kvs : List (Str × Int)) : List (Key × V) := kvs.map fun p => (Sum.inr p.1, V.int p.2)
theorem valV_kv (x : Str) : ∀ kvs : List (Str × Int), valV (kvV kvs) (.inr x) = (kvs.lookup x).map V.int
  | [] => rfl
  | (y, i) :: kvs => by
    have ih := valV_kv x kvs
    unfold valV kvV at ih ⊢
    rw [List.map_cons, List.find?_cons]
    by_cases e : y = x
    · subst e
      have h1 : decide ((Sum.inr y : Key) = Sum.inr y) = true := by simp
      have h2 : (y == y) = true := by simp
      simp only [h1, List.lookup, h2]
      rfl
    · have h1 : decide ((Sum.inr y : Key) = Sum.inr x) = false := by simp [e]
      have h2 : (x == y) = false := beq_eq_false_iff_ne.mpr fun z => e z.symm
      simp only [h1, List.lookup, h2]
      exact ih
/-- the display's reading: constants -/
def tKvs (kvs : List (Str × Int)) : List (TE × TE) := kvs.map fun p => (tC (.str p.1), tC (.int p.2))
theorem tKvs_run : ∀ (kvs : List (Str × Int)) (σ : L2.St) (H : Hp) (Q : List (V × V) → Hp → Prop), Q (kvs.map fun p => (V.str p.1, V.int p.2)) H → tPairs (tKvs kvs) σ H Q
  | [], _, _, _, h => h
  | p :: kvs, σ, H, Q, h => tKvs_run kvs σ H (fun ps H' => Q ((V.str p.1, V.int p.2) :: ps) H') h
theorem sn_dget {kvs : List (Str × Int)} {a : E} {d : Int} {ea : Expr} {ks : List (Option Expr)} {vs : List Expr} {kk : Nat} {pd p2 apos pos : Pos} (hu : X.A.units + 1 < cLine) (hd : PPs X pd ks vs (tKvs kvs)) (hall : ks.all (·.isSome) = true) (hl : ks.length = vs.length) (h0 : ks ≠ [])
    (h15 : ks.length ≤ 15) (hk15 : kvs.length ≤ 15) (hmg : mergeK [] (kvV kvs) = kvV kvs) (ha : PE X ea (TEp PL (gx X) cl W a)) (m : M2 X (.Dict ks vs pd) "get" apos ea (.Constant (.int d) kk p2) pos) :
    PE X (.Call (.Attribute (.Dict ks vs pd) "get" apos) [ea, .Constant (.int d) kk p2] [] pos) (TEp PN (gx X) cl W (.dget kvs a d)) := by
  refine PEi (pe_dget2 hu (pe_disp hd hall hl h0 h15) ha pe_int m) fun σ H Q ⟨H0, ow0, ow, ka, st, S, h⟩ => ?_
  simp only [evE] at h
  intro p hp
  refine tKvs_run kvs σ _ _ ⟨upd_same, kvV kvs, ?_, by unfold kvV; rw [List.length_map]; exact hk15, ?_⟩
  · unfold kvV
    rw [List.map_map]
    rfl
  · rw [hmg]
    refine ⟨p, rfl, .inl ⟨_, .inl upd_same⟩, ?_⟩
    have hs : Same H (upd (upd H p (.dK [])) p (.dK (kvV kvs))) := by
      rw [upd_upd]
      exact same_new hp
    have x0 := (XS.refl S.dk).same hs S.own
    refine ⟨H0, ow0, ow, ka, _, S.step x0, (Rs_bind h).mono fun d1 k1 h H1 x x1 r1 => ?_⟩
    obtain ⟨z, hz, h⟩ := Rs_pure h
    have hka : ka ≠ some p := fun e => by
      obtain ⟨us, e1, _⟩ := S.dk p e
      rw [hp] at e1
      cases e1
    have e1 : H1 p = some (.dK (kvV kvs)) := x1.keep p _ upd_same hka
    cases d1 with
    | str t =>
      obtain ⟨rfl, _⟩ := r1.str
      cases hz
      refine ⟨valV (kvV kvs) (.inr t), DGet.k (k := .inr t) e1, ?_⟩
      rw [valV_kv]
      have q := h H1 (.int ((kvs.lookup t).getD d)) (x0.trans x1) (FN.int _)
      cases e2 : kvs.lookup t with
      | none =>
        rw [e2] at q
        exact q
      | some i =>
        rw [e2] at q
        exact q
    | _ => cases hz
end
end Rf
set_option Elab.async false
set_option linter.all false
set_option maxRecDepth 100000
set_option maxHeartbeats 4000000
/-! Rf11: the look whether an expression of the small language is the model's: it decides, and it is sound. Own work. -/
namespace Rf
open PySem PySem.Spec PyProof.Rows L2
structure Ck where
  N : List Str
  sc : Scope
  fn : Str → Bool
  T : Tab
  free : List Str
inductive Mo where | L | F | N
  deriving DecidableEq
def pst : Mo → PostT
  | .L => PL | .F => PF | .N => PN
def freshB (T : Tab) (x : Str) : Bool := match T x with
  | some (.fn fd) => fd.fresh
  | _ => false
def clE (T : Tab) : E → Mo
  | .var _ => .F | .bvar _ => .L | .glob _ => .F | .and _ _ => .F | .or _ _ => .F | .ix _ _ => .F | .dk _ _ => .F
  | .ite _ a b => if clE T a = .N ∧ clE T b = .N then .N else .F
  | .call f _ => if freshB T f then .N else .F
  | .callD _ f _ => if freshB T f then .N else .F
  | _ => .N
def visB (c : Ck) (x : Str) : Bool := match c.sc.names.lookup x with
  | some .local => true | some .cell => true | some .free => true | _ => false
def locB (c : Ck) (x : Str) : Bool := match c.sc.names.lookup x with
  | some .local => true | some .cell => c.fn x | _ => false
def glB (c : Ck) (x : Str) : Bool := decide (c.sc.names.lookup x = some .globalImplicit) && !(x == ("__debug__" : Str))
def nmB (c : Ck) (i : Nat) (x : Str) : Bool := decide (c.N[i]? = some x) && visB c x && !(x == ("__debug__" : Str)) && !(x == ("__classdict__" : Str))
def nlB (c : Ck) (i : Nat) (x : Str) : Bool := decide (c.N[i]? = some x) && locB c x
def freeB (c : Ck) (x : Str) : Bool := decide (x ∈ c.free) && glB c x
def nstar : Expr → Bool
  | .Starred .. => false
  | _ => true
def nset : Expr → Bool
  | .Set .. => false
  | _ => true
def nslice : Expr → Bool
  | .Slice .. => false
  | _ => true
def plainT : Expr → Bool
  | .UnaryOp .Not _ _ => false
  | .BoolOp .. => false
  | .IfExp .. => false
  | .Compare .. => false
  | _ => true
def tOk (t : Bool) (ex : Expr) : Bool := !t || plainT ex
def litB (d : D) (k : Const) : Bool := match d, k with
  | .non, .none => true
  | .bl a, .bool b => a == b
  | .int i, .int j => decide (i = j)
  | .str x, .str y => decide (x = y) && PyData.strOk x
  | _, _ => false
def fnB (c : Ck) (x : Str) (dk : Bool) (n : Nat) : Bool := match c.T x with
  | some (.fn fd) => (fd.dk == dk) && decide (n = fd.np)
  | _ => false
def ckTy (c : Ck) : List Ty → Expr → Bool := fun ts ex => match ex with
  | .Name x _ => (match ts with | [t] => decide (x = t.st) && freeB c x | _ => false)
  | _ => false
def ckTys (c : Ck) : List Ty → List Expr → Bool
  | [], [] => true
  | t :: ts, .Name x _ :: exs => decide (x = t.st) && freeB c x && ckTys c ts exs
  | _, _ => false
def ckKv : List (Str × Int) → List (Option Expr) → List Expr → Bool
  | [], [], [] => true
  | (x, i) :: r, some (.Constant (.str y) _ _) :: ks, .Constant (.int j) _ _ :: vs => decide (x = y) && decide (i = j) && ckKv r ks vs
  | _, _, _ => false
mutual
def ckG (c : Ck) : Tg → Expr → Bool
  | .n i, ex => (match ex with | .Name x _ => nlB c i x | _ => false)
  | .t ts, ex => (match ex with | .Tuple exs _ _ => ckGs c ts exs | _ => false)
def ckGs (c : Ck) : List Tg → List Expr → Bool
  | [], exs => (match exs with | [] => true | _ => false)
  | t :: ts, exs => (match exs with | ex :: exs => nstar ex && ckG c t ex && ckGs c ts exs | _ => false)
end
def isTupX : Expr → Bool
  | .Tuple .. => true
  | _ => false
def Ck.blk (c : Ck) (scope : Scope) : Ck := { c with sc := relS scope c.sc, fn := fun x => scope.names.lookup x == some .cell }
mutual
def ckE (c : Ck) (t : Bool) : E → Expr → Bool
  | .var i, ex => tOk t ex && (match ex with | .Name x _ => nmB c i x | _ => false)
  | .bvar i, ex => tOk t ex && (match ex with | .Name x _ => nmB c i x | _ => false)
  | .glob x, ex => tOk t ex && (match ex with | .Name y _ => decide (x = y) && glB c x && (c.T x).isSome | _ => false)
  | .lit d, ex => tOk t ex && (match ex with | .Constant k _ _ => litB d k | _ => false)
  | .tup es, ex => tOk t ex && (match ex with | .Tuple exs _ _ => ckL c es exs | _ => false)
  | .lst es, ex => tOk t ex && (match ex with | .List exs _ => ckL c es exs | _ => false)
  | .bin o a b, ex => tOk t ex && (match ex with | .BinOp ea o' eb _ => decide (opB o = o') && ckE c false a ea && ckE c false b eb | _ => false)
  | .cmp o a b, ex => (match ex with | .Compare ea [o'] [eb] _ => decide (opC o = o') && nset eb && ckE c false a ea && ckE c false b eb | _ => false)
  | .chn o1 o2 a b d, ex => (match ex with | .Compare ea [p1, p2] [eb, ed] _ => decide (opC o1 = p1) && decide (opC o2 = p2) && nset ed && ckE c false a ea && ckE c false b eb && ckE c false d ed | _ => false)
  | .isN a, ex => (match ex with | .Compare ea [.Is] [.Constant .none _ _] _ => ckE c false a ea | _ => false)
  | .notN a, ex => (match ex with | .Compare ea [.IsNot] [.Constant .none _ _] _ => ckE c false a ea | _ => false)
  | .neg a, ex => tOk t ex && (match ex with | .UnaryOp .USub ea _ => ckE c false a ea | _ => false)
  | .not a, ex => (match ex with | .UnaryOp .Not ea _ => ckE c t a ea | _ => false)
  | .and a b, ex => (match ex with
    | .BoolOp .And [ea, eb] _ => ckE c t a ea && decide (clE c.T b ≠ .L) && ckE c t b eb
    | .BoolOp .And (ea :: eb :: rest) pos => ckE c t a ea && decide (clE c.T b ≠ .L) && ckE c t b (.BoolOp .And (eb :: rest) pos)
    | _ => false)
  | .or a b, ex => (match ex with
    | .BoolOp .Or [ea, eb] _ => ckE c t a ea && decide (clE c.T b ≠ .L) && ckE c t b eb
    | .BoolOp .Or (ea :: eb :: rest) pos => ckE c t a ea && decide (clE c.T b ≠ .L) && ckE c t b (.BoolOp .Or (eb :: rest) pos)
    | _ => false)
  | .ite q a b, ex => tOk t ex && (match ex with | .IfExp eq ea eb _ => ckE c true q eq && ckE c false a ea && ckE c false b eb && decide (clE c.T a ≠ .L) && decide (clE c.T b ≠ .L) | _ => false)
  | .ix a b, ex => tOk t ex && (match ex with | .Subscript ea eb _ => nslice eb && ckE c false a ea && ckE c false b eb | _ => false)
  | .sl a lo hi, ex => tOk t ex && (match ex with | .Subscript ea (.Slice xl xh none _) _ => ckE c false a ea && ckO c lo xl && ckO c hi xh | _ => false)
  | .rev a, ex => tOk t ex && (match ex with | .Subscript ea (.Slice none none (some (.UnaryOp .USub (.Constant (.int 1) _ _) _)) _) _ => ckE c false a ea | _ => false)
  | .dk i j, ex => tOk t ex && (match ex with | .Subscript (.Name x _) (.Constant (.int k) _ _) _ => nmB c i x && decide (k = j) | _ => false)
  | .call f es, ex => tOk t ex && (match ex with | .Call (.Name g _) exs [] _ => decide (f = g) && glB c f && fnB c f false es.length && ckL c es exs | _ => false)
  | .callD i f es, ex => tOk t ex && (match ex with | .Call (.Name g _) (.Name y _ :: exs) [] _ => decide (f = g) && glB c f && fnB c f true es.length && nmB c i y && ckL c es exs | _ => false)
  | .bi b a, ex => tOk t ex && (match ex with | .Call (.Name g _) [ea] [] _ => decide (g = b.st) && freeB c g && nstar ea && ckE c false a ea | _ => false)
  | .isi a ts, ex => tOk t ex && (match ex with
    | .Call (.Name g _) [ea, .Tuple exs _ _] [] _ => decide (g = ("isinstance" : Str)) && freeB c g && nstar ea && ckE c false a ea && ckTys c ts exs && decide (ts.length ≤ 100)
    | .Call (.Name g _) [ea, et] [] _ => decide (g = ("isinstance" : Str)) && freeB c g && nstar ea && ckE c false a ea && ckTy c ts et
    | _ => false)
  | .dget kvs a d, ex => tOk t ex && (match ex with
    | .Call (.Attribute (.Dict ks vs _) g apos) [ea, .Constant (.int d') _ _] [] pos => decide (g = ("get" : Str)) && decide (d' = d) && nstar ea && ckE c false a ea && ckKv kvs ks vs && decide (0 < kvs.length ∧ kvs.length ≤ 15) && decide (mergeK [] (kvV kvs) = kvV kvs) && (apos.endLine == pos.line)
    | _ => false)
  | .comp tg it q elt own, ex => tOk t ex && (match ex with
    | .ListComp eltx [⟨tgx, iterx, ifs, 0⟩] scope _ => nset iterx && blkC c.N c.sc scope own && (tgS tg).all (fun i => decide (i ∈ own.map (·.2))) && ckI c false tgx it iterx && ckG (c.blk scope) tg tgx && ckC (c.blk scope) q ifs && ckE (c.blk scope) false elt eltx && decide (clE c.T elt ≠ .L)
    | _ => false)
def ckL (c : Ck) : List E → List Expr → Bool
  | [], exs => (match exs with | [] => true | _ => false)
  | e :: es, exs => (match exs with | ex :: exs => nstar ex && ckE c false e ex && decide (clE c.T e ≠ .L) && ckL c es exs | _ => false)
def ckO (c : Ck) : Option E → Option Expr → Bool
  | none, ex => (match ex with | none => true | _ => false)
  | some e, ex => (match ex with | some ex => ckE c false e ex | _ => false)
def ckC (c : Ck) : Option E → List Expr → Bool
  | none, exs => (match exs with | [] => true | _ => false)
  | some e, exs => (match exs with | [ex] => ckE c true e ex | _ => false)
def ckI (c : Ck) (s : Bool) (tgx : Expr) : It → Expr → Bool
  | .seq e, ex => ckE c false e ex && (!s || decide (clE c.T e ≠ .L))
  | .range es, ex => (match ex with
    | .Call (.Name g _) exs [] _ => decide (g = ("range" : Str)) && freeB c g && (match es with
      | [a] => (match exs with | [ea] => nstar ea && ckE c false a ea | _ => false)
      | [a, b] => (match exs with | [ea, eb] => nstar ea && nstar eb && ckE c false a ea && ckE c false b eb | _ => false)
      | _ => false)
    | _ => false)
  | .enum e, ex => (match ex with
    | .Call (.Name g _) [ea] [] _ => decide (g = ("enumerate" : Str)) && freeB c g && isTupX tgx && nstar ea && ckE c false e ea && (!s || decide (clE c.T e ≠ .L))
    | _ => false)
  | .zip a b, ex => (match ex with
    | .Call (.Name g _) [ea, eb] [] _ => decide (g = ("zip" : Str)) && freeB c g && isTupX tgx && nstar ea && nstar eb && ckE c false a ea && ckE c false b eb && (!s || (decide (clE c.T a ≠ .L) && decide (clE c.T b ≠ .L)))
    | _ => false)
end
end Rf
set_option Elab.async false
set_option linter.all false
set_option maxRecDepth 100000
set_option maxHeartbeats 8000000
/-! Rf12: what the look says holds. Own work. -/
namespace Rf
open PySem PySem.Spec PyProof.Rows L2
structure Ctx (c : Ck) (fu n : Nat) (X : Cx) (W : XK) : Prop where
  calm : X.calm = true
  nd : X.N.Nodup
  hN : X.N = c.N
  hsc : X.env.scope = c.sc
  hfn : X.fn = c.fn
  fns : ∀ x fd, c.T x = some (.fn fd) → FnAt X.prog X.w X.K X.mg X.base c.T fu n x fd
  cons : ∀ x d, c.T x = some (.con d) → ∃ u v, X.mg x = some u ∧ RelV v u ∧ ∀ ow H, FR (gx X) ow H d v
  free : ∀ x ∈ c.free, X.mg x = none
  room : Room n X.A
  pass : Passes (L2.CX X.prog X.w) X W
section
variable {c : Ck} {fu n : Nat} {X : Cx} {W : XK}
theorem Ctx.vis (h : Ctx c fu n X W) {x : Str} (e : visB c x = true) : Vis X.env.scope x := by
  rw [h.hsc]
  unfold visB at e
  split at e <;> first | exact .inl (by assumption) | exact .inr (.inl (by assumption)) | exact .inr (.inr (by assumption)) | cases e
theorem Ctx.gl (h : Ctx c fu n X W) {x : Str} (e : glB c x = true) : Gl X x ∧ (x == ("__debug__" : Str)) = false := by
  unfold glB at e
  simp only [Bool.and_eq_true, decide_eq_true_eq, Bool.not_eq_true'] at e
  exact ⟨show X.env.scope.names.lookup x = _ by rw [h.hsc]; exact e.1, e.2⟩
theorem Ctx.fr (h : Ctx c fu n X W) {x : Str} (e : freeB c x = true) : Gl X x ∧ X.mg x = none := by
  unfold freeB at e
  simp only [Bool.and_eq_true, decide_eq_true_eq] at e
  exact ⟨(h.gl e.2).1, h.free x e.1⟩
theorem Ctx.var (h : Ctx c fu n X W) {i : Nat} {x : Str} {pos : Pos} (e : nmB c i x = true) : PE X (.Name x pos) (tVar i) := by
  unfold nmB at e
  simp only [Bool.and_eq_true, decide_eq_true_eq, Bool.not_eq_true'] at e
  exact pe_var (by rw [h.hN]; exact e.1.1.1) (h.vis e.1.1.2) e.1.2 e.2
theorem Ctx.loc (h : Ctx c fu n X W) {i : Nat} {x : Str} (e : nlB c i x = true) : X.N[i]? = some x ∧ Loc X.env.scope x ∧ (X.fn x = true ∨ X.env.scope.names.lookup x = some .local) := by
  unfold nlB at e
  simp only [Bool.and_eq_true, decide_eq_true_eq] at e
  obtain ⟨e1, e2⟩ := e
  rw [h.hN, h.hsc, h.hfn]
  unfold locB at e2
  split at e2
  · rename_i q
    exact ⟨e1, .inl q, .inr q⟩
  · rename_i q
    exact ⟨e1, .inr q, .inl e2⟩
  · cases e2
theorem star_of {ex : Expr} {exs : List Expr} {env : Env} (h : nstar ex = true) : starEach (ex :: exs) env = (false, eval ex env) :: starEach exs env := by
  cases ex <;> first | rfl | cases h
theorem asg_of {ex : Expr} {exs : List Expr} {env : Env} (h : nstar ex = true) : assignEach (ex :: exs) env = (false, assign ex env) :: assignEach exs env := by
  cases ex <;> first | rfl | cases h
theorem plain_ix {ex : Expr} (h : nslice ex = true) : PlainIx ex := by
  intro o i
  cases ex <;> first | rfl | cases h
theorem nset_m {ex : Expr} {op : CmpOp} (h : nset ex = true) : behindInMarks op ex = false := by
  cases ex <;> first | rfl | cases h
theorem nset_f {ex : Expr} {env : Env} (h : nset ex = true) : ∀ x, foldedSetIterable ex env x = pure x := by
  intro x
  cases ex <;> first | rfl | cases h
theorem plain_t {ex : Expr} {env : Env} (h : plainT ex = true) : ∀ whole, isTrue ex env whole = (do let v ← whole; standAt ex.pos; holding [v] (truthy v)) := by
  intro whole
  cases ex with
  | UnaryOp op _ _ => cases op <;> first | rfl | cases h
  | BoolOp _ _ _ => cases h
  | IfExp _ _ _ _ => cases h
  | Compare _ _ _ _ => cases h
  | _ => rfl
abbrev clX (c : Ck) (fu n : Nat) : CL := clN c.T fu n
/-- what is shown of an expression: as a value, as a test -/
def Jd (c : Ck) (fu n : Nat) (W : XK) (X : Cx) (t : Bool) (ex : Expr) (e : E) : Prop := if t = true then PT X ex (TTp (gx X) (clX c fu n) W e) else PE X ex (TEp (pst (clE c.T e)) (gx X) (clX c fu n) W e)
theorem Jd.pe {ex : Expr} {e : E} (h : Jd c fu n W X false ex e) : PE X ex (TEp (pst (clE c.T e)) (gx X) (clX c fu n) W e) := by
  unfold Jd at h
  rw [if_neg (by decide)] at h
  exact h
theorem Jd.pt {ex : Expr} {e : E} (h : Jd c fu n W X true ex e) : PT X ex (TTp (gx X) (clX c fu n) W e) := by
  unfold Jd at h
  rw [if_pos rfl] at h
  exact h
theorem Jd.v {ex : Expr} {e : E} (h : PE X ex (TEp (pst (clE c.T e)) (gx X) (clX c fu n) W e)) : Jd c fu n W X false ex e := by
  unfold Jd
  rw [if_neg (by decide)]
  exact h
theorem Jd.t {ex : Expr} {e : E} (h : PT X ex (TTp (gx X) (clX c fu n) W e)) : Jd c fu n W X true ex e := by
  unfold Jd
  rw [if_pos rfl]
  exact h
theorem pst_f {G : Wr} {cl : CL} {m : Mo} (hm : m ≠ .L) {e : E} {σ : L2.St} {H : Hp} {Q : VK} (h : TEp PF G cl W e σ H Q) : TEp (pst m) G cl W e σ H Q := by
  cases m with
  | L => exact absurd rfl hm
  | F => exact h
  | N => exact TEp.n_f h
theorem pst_l {G : Wr} {cl : CL} {m : Mo} {e : E} {σ : L2.St} {H : Hp} {Q : VK} (h : TEp PL G cl W e σ H Q) : TEp (pst m) G cl W e σ H Q := by
  cases m with
  | L => exact h
  | F => exact TEp.f_l h
  | N => exact TEp.n_f (TEp.f_l h)
theorem Jd.l {ex : Expr} {e : E} (h : Jd c fu n W X false ex e) : PE X ex (TEp PL (gx X) (clX c fu n) W e) := PEi h.pe fun _ _ _ q => pst_l q
theorem Jd.f {ex : Expr} {e : E} (h : Jd c fu n W X false ex e) (hm : clE c.T e ≠ .L) : PE X ex (TEp PF (gx X) (clX c fu n) W e) := PEi h.pe fun _ _ _ q => pst_f hm q
theorem Jd.nn {ex : Expr} {e : E} (h : Jd c fu n W X false ex e) (hm : clE c.T e = .N) : PE X ex (TEp PN (gx X) (clX c fu n) W e) := by
  have q := h.pe
  rw [hm] at q
  exact q
/-- a plain one: the value's reading is enough -/
theorem Jd.fin {t : Bool} {ex : Expr} {e : E} (ht : tOk t ex = true) (h : PE X ex (TEp (pst (clE c.T e)) (gx X) (clX c fu n) W e)) : Jd c fu n W X t ex e := by
  cases t with
  | false => exact .v h
  | true => exact .t (st_val (Jd.l (c := c) (.v h)) (plain_t ht))
theorem star_all {c : Ck} : ∀ {es : List E} {exs : List Expr} {pos : Pos} {env : Env}, ckL c es exs = true → (backTo pos (starEach exs env)).any (·.1) = false
  | [], [], _, _, _ => rfl
  | [], _ :: _, _, _, h => by simp only [ckL] at h; cases h
  | _ :: _, [], _, _, h => by simp only [ckL] at h; cases h
  | e :: es, ex :: exs, pos, env, h => by
    simp only [ckL, Bool.and_eq_true] at h
    rw [star_of h.1.1.1]
    exact star_all (es := es) (pos := pos) (env := env) h.2
theorem PC_pst {T : Tab} {x : Str} {fd : FDef} (h : T x = some (.fn fd)) : PC fd.fresh = pst (if freshB T x then .N else .F) := by
  have e : freshB T x = fd.fresh := by
    unfold freshB
    rw [h]
  rw [e]
  cases fd.fresh <;> rfl
theorem pwOf {op : BoolOp} {vs : List Expr} {pos : Pos} {t : TT} (h : PT X (.BoolOp op vs pos) t) : PW X (.BoolOp op vs pos) t := ⟨fun _ pins s σ H Q I w => h.run pins s σ H Q I w⟩
theorem ckTys_ok (h : Ctx c fu n X W) : ∀ (ts : List Ty) (exs : List Expr), ckTys c ts exs = true → PA X exs (tTys ts)
  | [], [], _ => pa_nil
  | [], _ :: _, e => by simp [ckTys] at e
  | _ :: _, [], e => by simp [ckTys] at e
  | t :: ts, ex :: exs, e => by
    cases ex with
    | Name x p =>
      simp only [ckTys, Bool.and_eq_true, decide_eq_true_eq] at e
      obtain ⟨⟨rfl, e2⟩, e3⟩ := e
      obtain ⟨hg, hm⟩ := h.fr e2
      exact pa_cons (pe_tyn hg hm) (ckTys_ok h ts exs e3) rfl
    | _ => simp [ckTys] at e
theorem ckKv_ok {pos : Pos} : ∀ (kvs : List (Str × Int)) (ks : List (Option Expr)) (vs : List Expr), ckKv kvs ks vs = true → PPs X pos ks vs (tKvs kvs) ∧ ks.all (·.isSome) = true ∧ ks.length = vs.length ∧ ks.length = kvs.length
  | [], [], [], _ => ⟨pps_nil, rfl, rfl, rfl⟩
  | [], [], _ :: _, e => by simp [ckKv] at e
  | [], _ :: _, _, e => by simp [ckKv] at e
  | _ :: _, [], _, e => by simp [ckKv] at e
  | _ :: _, _ :: _, [], e => by simp [ckKv] at e
  | (x, i) :: r, k :: ks, v :: vs, e => by
    unfold ckKv at e
    split at e
    · rename_i a1 a2 a3
      cases a1
    · rename_i x' i' r' y k1 p1 ks' j k2 p2 vs' a1 a2 a3
      cases a1
      cases a2
      cases a3
      simp only [Bool.and_eq_true, decide_eq_true_eq] at e
      obtain ⟨⟨rfl, rfl⟩, e3⟩ := e
      obtain ⟨h1, h2, h3, h4⟩ := ckKv_ok (pos := pos) r ks vs e3
      exact ⟨pps_cons pe_str pe_int h1, by simpa using h2, by simp [h3], by simp [h4]⟩
    · cases e
/-- within a comprehension's block -/
theorem Ctx.blk (h : Ctx c fu n X W) {scope : Scope} (s : Shared) (H : Hp) (C : Addr) (l : List (Str × Addr)) (fp : List Addr) : Ctx (c.blk scope) fu n (X.blk s H scope (compEnvC scope l C X.env) fp) WF where
  calm := h.calm
  nd := h.nd
  hN := h.hN
  hsc := by
    show relS scope X.env.scope = relS scope c.sc
    rw [h.hsc]
  hfn := rfl
  fns := h.fns
  cons := h.cons
  free := h.free
  room := h.room
  pass := fun _ _ _ _ _ _ _ ⟨_, _, _, _, _, _, _, _, _, _, _, _, z⟩ => z.elim

mutual
theorem ckG_ok : ∀ (tg : Tg) {c : Ck} {X : Cx} {W : XK} (h : Ctx c fu n X W) (ex : Expr), ckG c tg ex = true → PG X ex (TGp (gx X) tg)
  | .n i, c, X, W, h, ex, e => by
    simp only [ckG] at e
    split at e
    · obtain ⟨h1, h2, h3⟩ := h.loc e
      exact sg_name (pg_name h.nd h1 h2 h3)
    · cases e
  | .t ts, c, X, W, h, ex, e => by
    simp only [ckG] at e
    split at e
    · obtain ⟨h1, h2, h3⟩ := ckGs_ok ts h _ e
      exact sg_tup h.calm h1 h2 h3
    · cases e
theorem ckGs_ok : ∀ (ts : List Tg) {c : Ck} {X : Cx} {W : XK} (h : Ctx c fu n X W) (exs : List Expr), ckGs c ts exs = true → PGs X exs (TGsp (gx X) ts) ∧ (assignEach exs X.env).length = ts.length ∧ (assignEach exs X.env).findIdx? (·.1) = none
  | [], c, X, W, h, exs, e => by
    simp only [ckGs] at e
    split at e
    · exact ⟨sg_nil, rfl, rfl⟩
    · cases e
  | t :: ts, c, X, W, h, exs, e => by
    simp only [ckGs] at e
    split at e
    · simp only [Bool.and_eq_true] at e
      obtain ⟨⟨e1, e2⟩, e3⟩ := e
      obtain ⟨h1, h2, h3⟩ := ckGs_ok ts h _ e3
      refine ⟨sg_cons (ckG_ok t h _ e2) h1 ?_, ?_, ?_⟩
      · rw [asg_of e1]
        rfl
      · rw [asg_of e1, List.length_cons, h2, List.length_cons]
      · rw [asg_of e1, List.findIdx?_cons, h3]
        rfl
    · cases e
end
mutual
theorem ckE_ok : ∀ (e : E) {c : Ck} {X : Cx} {W : XK} (h : Ctx c fu n X W) (t : Bool) (ex : Expr), ckE c t e ex = true → Jd c fu n W X t ex e
  | .var i, c, X, W, h, t, ex, e => by
    simp only [ckE, Bool.and_eq_true] at e
    obtain ⟨ht, e⟩ := e
    split at e
    · exact .fin ht (sn_var (h.var e))
    · cases e
  | .bvar i, c, X, W, h, t, ex, e => by
    simp only [ckE, Bool.and_eq_true] at e
    obtain ⟨ht, e⟩ := e
    split at e
    · exact .fin ht (sn_bvar (h.var e))
    · cases e
  | .glob x, c, X, W, h, t, ex, e => by
    simp only [ckE, Bool.and_eq_true] at e
    obtain ⟨ht, e⟩ := e
    split at e
    · simp only [Bool.and_eq_true, decide_eq_true_eq] at e
      obtain ⟨⟨rfl, e2⟩, e3⟩ := e
      obtain ⟨hg, hd⟩ := h.gl e2
      obtain ⟨g, hgd⟩ := Option.isSome_iff_exists.mp e3
      cases g with
      | fn fd =>
        obtain ⟨f, fdt, ps, hm, _⟩ := (h.fns _ _ hgd).ex
        refine .fin ht (sn_glob (d := .fn x) hg hm (show RelV (.ref f) (.ref f) from rfl) ?_ (fun ow H => .fn hm) hd)
        show globT c.T x = _
        unfold globT
        rw [hgd]
      | con d =>
        obtain ⟨u, v, hm, rv, r⟩ := h.cons _ _ hgd
        refine .fin ht (sn_glob (d := d) hg hm rv ?_ r hd)
        show globT c.T x = _
        unfold globT
        rw [hgd]
    · cases e
  | .lit d, c, X, W, h, t, ex, e => by
    simp only [ckE, Bool.and_eq_true] at e
    obtain ⟨ht, e⟩ := e
    split at e
    · unfold litB at e
      split at e
      · exact .fin ht (sn_conN pe_non (fun _ _ => by simp only [evE]) (fun _ z => by cases z) fun _ _ => .non)
      · cases beq_iff_eq.mp e
        exact .fin ht (sn_conN pe_bl (fun _ _ => by simp only [evE]) (fun _ z => by cases z) fun _ _ => .bl _)
      · cases of_decide_eq_true e
        exact .fin ht (sn_conN pe_int (fun _ _ => by simp only [evE]) (fun _ z => by cases z) fun _ _ => .int _)
      · simp only [Bool.and_eq_true, decide_eq_true_eq] at e
        obtain ⟨rfl, e2⟩ := e
        exact .fin ht (sn_conN pe_str (fun _ _ => by simp only [evE]) (fun _ z => by cases z) fun _ _ => .str _ e2)
      · cases e
    · cases e
  | .tup es, c, X, W, h, t, ex, e => by
    simp only [ckE, Bool.and_eq_true] at e
    obtain ⟨ht, e⟩ := e
    split at e
    · exact .fin ht (sn_tup (ckL_ok es h _ e))
    · cases e
  | .lst es, c, X, W, h, t, ex, e => by
    simp only [ckE, Bool.and_eq_true] at e
    obtain ⟨ht, e⟩ := e
    split at e
    · exact .fin ht (sn_lst (ckL_ok es h _ e))
    · cases e
  | .bin o a b, c, X, W, h, t, ex, e => by
    simp only [ckE, Bool.and_eq_true] at e
    obtain ⟨ht, e⟩ := e
    split at e
    · simp only [Bool.and_eq_true, decide_eq_true_eq] at e
      obtain ⟨⟨rfl, e1⟩, e2⟩ := e
      exact .fin ht (sn_op (ckE_ok a h false _ e1).l (ckE_ok b h false _ e2).l o)
    · cases e
  | .cmp o a b, c, X, W, h, t, ex, e => by
    simp only [ckE] at e
    split at e
    · simp only [Bool.and_eq_true, decide_eq_true_eq] at e
      obtain ⟨⟨⟨rfl, e0⟩, e1⟩, e2⟩ := e
      have ha := (ckE_ok a h false _ e1).l
      have hb := (ckE_ok b h false _ e2).l
      cases t with
      | false => exact .v (sn_cmp h.room.units ha hb o (nset_m e0))
      | true => exact .t (st_cmp h.room.units ha hb o (nset_m e0))
    · cases e
  | .chn o1 o2 a b d, c, X, W, h, t, ex, e => by
    simp only [ckE] at e
    split at e
    · simp only [Bool.and_eq_true, decide_eq_true_eq] at e
      obtain ⟨⟨⟨⟨⟨rfl, rfl⟩, e0⟩, e1⟩, e2⟩, e3⟩ := e
      have ha := (ckE_ok a h false _ e1).l
      have hb := (ckE_ok b h false _ e2).l
      have hd := (ckE_ok d h false _ e3).l
      cases t with
      | false => exact .v (sn_chn h.room.units ha hb hd o1 o2 (nset_m e0))
      | true => exact .t (st_chn h.room.units ha hb hd o1 o2 (nset_m e0))
    · cases e
  | .isN a, c, X, W, h, t, ex, e => by
    simp only [ckE] at e
    split at e
    · have ha := (ckE_ok a h false _ e).l
      cases t with
      | false => exact .v (sn_isN ha)
      | true => exact .t (st_isN ha)
    · cases e
  | .notN a, c, X, W, h, t, ex, e => by
    simp only [ckE] at e
    split at e
    · have ha := (ckE_ok a h false _ e).l
      cases t with
      | false => exact .v (sn_notN ha)
      | true => exact .t (st_notN ha)
    · cases e
  | .neg a, c, X, W, h, t, ex, e => by
    simp only [ckE, Bool.and_eq_true] at e
    obtain ⟨ht, e⟩ := e
    split at e
    · exact .fin ht (sn_neg (ckE_ok a h false _ e).l)
    · cases e
  | .not a, c, X, W, h, t, ex, e => by
    simp only [ckE] at e
    split at e
    · cases t with
      | false => exact .v (sn_not (ckE_ok a h false _ e).l)
      | true => exact .t (st_not (ckE_ok a h true _ e).pt)
    · cases e
  | .and a b, c, X, W, h, t, ex, e => by
    simp only [ckE] at e
    split at e
    · simp only [Bool.and_eq_true, decide_eq_true_eq] at e
      obtain ⟨⟨e1, e2⟩, e3⟩ := e
      cases t with
      | false => exact .v (sn_and (ckE_ok a h false _ e1).l (pe_one ((ckE_ok b h false _ e3).f e2)))
      | true => exact .t (st_and (ckE_ok a h true _ e1).pt (pw_and1 (ckE_ok b h true _ e3).pt)).pt
    · simp only [Bool.and_eq_true, decide_eq_true_eq] at e
      obtain ⟨⟨e1, e2⟩, e3⟩ := e
      cases t with
      | false => exact .v (sn_and (ckE_ok a h false _ e1).l ((ckE_ok b h false _ e3).f e2))
      | true => exact .t (st_and (ckE_ok a h true _ e1).pt (pwOf (ckE_ok b h true _ e3).pt)).pt
    · cases e
  | .or a b, c, X, W, h, t, ex, e => by
    simp only [ckE] at e
    split at e
    · simp only [Bool.and_eq_true, decide_eq_true_eq] at e
      obtain ⟨⟨e1, e2⟩, e3⟩ := e
      cases t with
      | false => exact .v (sn_or (ckE_ok a h false _ e1).l (pe_one ((ckE_ok b h false _ e3).f e2)))
      | true => exact .t (st_or (ckE_ok a h true _ e1).pt (pw_or1 (ckE_ok b h true _ e3).pt)).pt
    · simp only [Bool.and_eq_true, decide_eq_true_eq] at e
      obtain ⟨⟨e1, e2⟩, e3⟩ := e
      cases t with
      | false => exact .v (sn_or (ckE_ok a h false _ e1).l ((ckE_ok b h false _ e3).f e2))
      | true => exact .t (st_or (ckE_ok a h true _ e1).pt (pwOf (ckE_ok b h true _ e3).pt)).pt
    · cases e
  | .ite q a b, c, X, W, h, t, ex, e => by
    simp only [ckE, Bool.and_eq_true] at e
    obtain ⟨ht, e⟩ := e
    split at e
    · simp only [Bool.and_eq_true, decide_eq_true_eq] at e
      obtain ⟨⟨⟨⟨e1, e2⟩, e3⟩, e4⟩, e5⟩ := e
      refine .fin ht ?_
      have hq := (ckE_ok q h true _ e1).pt
      have ha := ckE_ok a h false _ e2
      have hb := ckE_ok b h false _ e3
      unfold clE
      by_cases z : clE c.T a = .N ∧ clE c.T b = .N
      · rw [if_pos z]
        exact sn_iteN hq (ha.nn z.1) (hb.nn z.2)
      · rw [if_neg z]
        exact sn_ite hq (ha.f e4) (hb.f e5)
    · cases e
  | .ix a b, c, X, W, h, t, ex, e => by
    simp only [ckE, Bool.and_eq_true] at e
    obtain ⟨ht, e⟩ := e
    split at e
    · simp only [Bool.and_eq_true] at e
      obtain ⟨⟨e1, e2⟩, e3⟩ := e
      exact .fin ht (sn_ix (ckE_ok a h false _ e2).l (ckE_ok b h false _ e3).l (plain_ix e1))
    · cases e
  | .sl a lo hi, c, X, W, h, t, ex, e => by
    simp only [ckE, Bool.and_eq_true] at e
    obtain ⟨ht, e⟩ := e
    split at e
    · simp only [Bool.and_eq_true] at e
      obtain ⟨⟨e1, e2⟩, e3⟩ := e
      exact .fin ht (sn_sl (ckE_ok a h false _ e1).l (ckO_ok lo h _ e2) (ckO_ok hi h _ e3))
    · cases e
  | .rev a, c, X, W, h, t, ex, e => by
    simp only [ckE, Bool.and_eq_true] at e
    obtain ⟨ht, e⟩ := e
    split at e
    · exact .fin ht (sn_rev (ckE_ok a h false _ e).l)
    · cases e
  | .dk i j, c, X, W, h, t, ex, e => by
    simp only [ckE, Bool.and_eq_true] at e
    obtain ⟨ht, e⟩ := e
    split at e
    · simp only [Bool.and_eq_true, decide_eq_true_eq] at e
      obtain ⟨e1, rfl⟩ := e
      exact .fin ht (sn_dk (h.var e1) (plain_ix rfl))
    · cases e
  | .call f es, c, X, W, h, t, ex, e => by
    simp only [ckE, Bool.and_eq_true] at e
    obtain ⟨ht, e⟩ := e
    split at e
    · rename_i g pg exs pp
      simp only [Bool.and_eq_true, decide_eq_true_eq] at e
      obtain ⟨⟨⟨rfl, e2⟩, e3⟩, e4⟩ := e
      obtain ⟨hg, hd⟩ := h.gl e2
      unfold fnB at e3
      split at e3
      · rename_i fd hfd
        simp only [Bool.and_eq_true, decide_eq_true_eq, beq_iff_eq] at e3
        refine .fin ht ?_
        have hp := PC_pst hfd
        have ha := ckL_ok es h _ e4
        have q := h.fns _ _ hfd
        show PE X _ (TEp (pst (if freshB c.T f then .N else .F)) _ _ _ _)
        rw [← hp]
        cases es with
        | nil =>
          cases exs with
          | nil => exact sn_call0 q e3.1 e3.2 h.room hg h.pass hd
          | cons _ _ => simp only [ckL] at e4; cases e4
        | cons a es =>
          cases exs with
          | nil => simp only [ckL] at e4; cases e4
          | cons ea exs =>
            have e5 := e4
            simp only [ckL, Bool.and_eq_true] at e5
            exact sn_call q e3.1 e3.2 h.room hg h.pass ha hd (star_of e5.1.1.1) (star_all e5.2)
      · cases e3
    · cases e
  | .callD i f es, c, X, W, h, t, ex, e => by
    simp only [ckE, Bool.and_eq_true] at e
    obtain ⟨ht, e⟩ := e
    split at e
    · simp only [Bool.and_eq_true, decide_eq_true_eq] at e
      obtain ⟨⟨⟨⟨rfl, e2⟩, e3⟩, e6⟩, e4⟩ := e
      obtain ⟨hg, hd⟩ := h.gl e2
      unfold fnB at e3
      split at e3
      · rename_i fd hfd
        simp only [Bool.and_eq_true, decide_eq_true_eq, beq_iff_eq] at e3
        refine .fin ht ?_
        have hp := PC_pst hfd
        show PE X _ (TEp (pst (if freshB c.T f then .N else .F)) _ _ _ _)
        rw [← hp]
        exact sn_callD (h.fns _ _ hfd) e3.1 e3.2 h.room hg h.pass (h.var e6) (ckL_ok es h _ e4) hd (star_all e4)
      · cases e3
    · cases e
  | .bi b a, c, X, W, h, t, ex, e => by
    simp only [ckE, Bool.and_eq_true] at e
    obtain ⟨ht, e⟩ := e
    split at e
    · simp only [Bool.and_eq_true, decide_eq_true_eq] at e
      obtain ⟨⟨⟨rfl, e2⟩, e3⟩, e4⟩ := e
      obtain ⟨hg, hm⟩ := h.fr e2
      exact .fin ht (sn_bi h.calm hg hm (ckE_ok a h false _ e4).l (star_of e3) rfl)
    · cases e
  | .isi a ts, c, X, W, h, t, ex, e => by
    simp only [ckE, Bool.and_eq_true] at e
    obtain ⟨ht, e⟩ := e
    split at e
    · simp only [Bool.and_eq_true, decide_eq_true_eq] at e
      obtain ⟨⟨⟨⟨⟨rfl, e2⟩, e3⟩, e4⟩, e5⟩, e6⟩ := e
      obtain ⟨hg, hm⟩ := h.fr e2
      exact .fin ht (sn_isiT hg hm e6 (ckTys_ok h _ _ e5) (ckE_ok a h false _ e4).l (star_of e3))
    · simp only [Bool.and_eq_true, decide_eq_true_eq] at e
      obtain ⟨⟨⟨⟨rfl, e2⟩, e3⟩, e4⟩, e5⟩ := e
      obtain ⟨hg, hm⟩ := h.fr e2
      unfold ckTy at e5
      split at e5
      · split at e5
        · simp only [Bool.and_eq_true, decide_eq_true_eq] at e5
          obtain ⟨rfl, e7⟩ := e5
          obtain ⟨hg2, hm2⟩ := h.fr e7
          exact .fin ht (sn_isi1 hg hm hg2 hm2 (ckE_ok a h false _ e4).l (star_of e3))
        · cases e5
      · cases e5
    · cases e
  | .dget kvs a d, c, X, W, h, t, ex, e => by
    simp only [ckE, Bool.and_eq_true] at e
    obtain ⟨ht, e⟩ := e
    split at e
    · simp only [Bool.and_eq_true, decide_eq_true_eq] at e
      obtain ⟨⟨⟨⟨⟨⟨⟨rfl, rfl⟩, e3⟩, e4⟩, e5⟩, e6⟩, e7⟩, e8⟩ := e
      obtain ⟨h1, h2, h3, h4⟩ := ckKv_ok kvs _ _ e5
      refine .fin ht (sn_dget (by have := h.room.units; omega) h1 h2 h3 (fun z => ?_) (by omega) (by omega) e7 (ckE_ok a h false _ e4).l ⟨rfl, ?_, e8, ?_⟩)
      · rw [z] at h4
        simp only [List.length_nil] at h4
        omega
      · rw [star_of e3]
        rfl
      · rw [star_of e3]
        rfl
    · cases e
  | .comp tg it q elt own, c, X, W, h, t, ex, e => by
    simp only [ckE, Bool.and_eq_true] at e
    obtain ⟨ht, e⟩ := e
    split at e
    · simp only [Bool.and_eq_true, decide_eq_true_eq, List.all_eq_true] at e
      obtain ⟨⟨⟨⟨⟨⟨⟨e1, e2⟩, e3⟩, e4⟩, e5⟩, e6⟩, e7⟩, e8⟩ := e
      have ok := blkOk_by e2
      rw [← h.hN, ← h.hsc] at ok
      exact .fin ht (sn_comp e3 h.calm h.nd (ckI_ok it h false _ _ e4) ok (fun s H C l fp => ckG_ok tg (h.blk s H C l fp) _ e5) (fun s H C l fp => ckC_ok q (h.blk s H C l fp) _ e6) (fun s H C l fp => (ckE_ok elt (h.blk s H C l fp) false _ e7).f e8) (nset_f e1))
    · cases e
theorem ckL_ok : ∀ (es : List E) {c : Ck} {X : Cx} {W : XK} (h : Ctx c fu n X W) (exs : List Expr), ckL c es exs = true → PA X exs (TAp (gx X) (clX c fu n) W es)
  | [], c, X, W, h, exs, e => by
    simp only [ckL] at e
    split at e
    · exact sa_nil
    · cases e
  | a :: es, c, X, W, h, exs, e => by
    simp only [ckL] at e
    split at e
    · simp only [Bool.and_eq_true, decide_eq_true_eq] at e
      obtain ⟨⟨⟨e1, e2⟩, e3⟩, e4⟩ := e
      exact sa_cons ((ckE_ok a h false _ e2).f e3) (ckL_ok es h _ e4) (star_of e1)
    · cases e
theorem ckO_ok : ∀ (o : Option E) {c : Ck} {X : Cx} {W : XK} (h : Ctx c fu n X W) (ex : Option Expr), ckO c o ex = true → PO X ex (TOp (gx X) (clX c fu n) W o)
  | none, c, X, W, h, ex, e => by
    simp only [ckO] at e
    split at e
    · exact so_none
    · cases e
  | some a, c, X, W, h, ex, e => by
    simp only [ckO] at e
    split at e
    · exact so_some (ckE_ok a h false _ e).l
    · cases e
theorem ckC_ok : ∀ (o : Option E) {c : Ck} {X : Cx} {W : XK} (h : Ctx c fu n X W) (exs : List Expr), ckC c o exs = true → PTs X exs (TCp (gx X) (clX c fu n) W o)
  | none, c, X, W, h, exs, e => by
    simp only [ckC] at e
    split at e
    · exact sc_none
    · cases e
  | some a, c, X, W, h, exs, e => by
    simp only [ckC] at e
    split at e
    · exact sc_some (ckE_ok a h true _ e).pt
    · cases e
theorem ckI_ok : ∀ (it : It) {c : Ck} {X : Cx} {W : XK} (h : Ctx c fu n X W) (s : Bool) (tgx ex : Expr), ckI c s tgx it ex = true → PI X tgx ex (TIp s (gx X) (clX c fu n) W it)
  | .seq a, c, X, W, h, s, tgx, ex, e => by
    simp only [ckI, Bool.and_eq_true] at e
    refine si_seq ?_
    cases s with
    | false => exact (ckE_ok a h false _ e.1).l
    | true => exact (ckE_ok a h false _ e.1).f (by simpa using e.2)
  | .range [], c, X, W, h, s, tgx, ex, e => by
    simp only [ckI] at e
    split at e
    · simp at e
    · cases e
  | .range [a], c, X, W, h, s, tgx, ex, e => by
    simp only [ckI] at e
    split at e
    · simp only [Bool.and_eq_true, decide_eq_true_eq] at e
      obtain ⟨⟨rfl, e2⟩, e3⟩ := e
      obtain ⟨hg, hm⟩ := h.fr e2
      split at e3
      · simp only [Bool.and_eq_true] at e3
        exact si_range1 hg hm (ckE_ok a h false _ e3.2).l (star_of e3.1)
      · cases e3
    · cases e
  | .range [a, b], c, X, W, h, s, tgx, ex, e => by
    simp only [ckI] at e
    split at e
    · simp only [Bool.and_eq_true, decide_eq_true_eq] at e
      obtain ⟨⟨rfl, e2⟩, e3⟩ := e
      obtain ⟨hg, hm⟩ := h.fr e2
      split at e3
      · simp only [Bool.and_eq_true] at e3
        obtain ⟨⟨⟨e4, e5⟩, e6⟩, e7⟩ := e3
        exact si_range2 hg hm (ckE_ok a h false _ e6).l (ckE_ok b h false _ e7).l (by rw [star_of e4, star_of e5]; rfl) (star_of e5)
      · cases e3
    · cases e
  | .range (_ :: _ :: _ :: _), c, X, W, h, s, tgx, ex, e => by
    simp only [ckI] at e
    split at e
    · simp at e
    · cases e
  | .enum a, c, X, W, h, s, tgx, ex, e => by
    simp only [ckI] at e
    split at e
    · simp only [Bool.and_eq_true, decide_eq_true_eq] at e
      obtain ⟨⟨⟨⟨⟨rfl, e2⟩, e3⟩, e4⟩, e5⟩, e6⟩ := e
      obtain ⟨hg, hm⟩ := h.fr e2
      cases tgx with
      | Tuple elts kk p =>
        refine si_enum hg hm ?_ (star_of e4)
        cases s with
        | false => exact (ckE_ok a h false _ e5).l
        | true => exact (ckE_ok a h false _ e5).f (by simpa using e6)
      | _ => cases e3
    · cases e
  | .zip a b, c, X, W, h, s, tgx, ex, e => by
    simp only [ckI] at e
    split at e
    · simp only [Bool.and_eq_true, decide_eq_true_eq] at e
      obtain ⟨⟨⟨⟨⟨⟨⟨rfl, e2⟩, e3⟩, e4⟩, e5⟩, e6⟩, e7⟩, e8⟩ := e
      obtain ⟨hg, hm⟩ := h.fr e2
      have ha := ckE_ok a h false _ e6
      have hb := ckE_ok b h false _ e7
      cases tgx with
      | Tuple elts kk p =>
        refine si_zip hg hm ?_ ?_ (star_of e4) (star_of e5) ?_
        · cases s with
          | false => exact ha.l
          | true =>
            simp at e8
            exact ha.f e8.1
        · cases s with
          | false => exact hb.l
          | true =>
            simp at e8
            exact hb.f e8.2
        · rw [star_of e5]
          rfl
      | _ => cases e3
    · cases e
end
end
end Rf
set_option Elab.async false
set_option linter.all false
set_option maxRecDepth 100000
set_option maxHeartbeats 4000000
/-! Rf13: statements. Own work. -/
namespace Rf
open PySem PySem.Spec PyProof.Rows L2

/-! ### the state's changes -/
/-- the deck that stands in: the entry's, or one that was made since -/
def KO (dkf : Bool) (H0 : Hp) (ka : Option Addr) : Prop := dkf = false → ∀ a, ka = some a → H0 a = none
structure RtP (G : Wr) (fr : Bool) (H0 : Hp) (ow0 : Addr → Prop) (ka : Option Addr) (d : D) (k' : Dk) (v : V) (H' : Hp) : Prop where
  kp : Kp H0 ka H'
  dk : DkR G ow0 ka k' H'
  val : PR fr G ow0 H0 H' d v
/-- what is wanted of an outcome. dkf: the def has a deck; fr: what it hands back is new -/
def OutP (G : Wr) (fr dkf : Bool) (W : XK) (H0 : Hp) (ow0 ow : Addr → Prop) (ka : Option Addr) (H : Hp) (D : Ends) : Out → Prop
  | .nx s => ∀ ow' ka' σ' H', SR G H0 ow0 ow' ka' s σ' H' → KO dkf H0 ka' → (dkf = true → ka' = ka) → SS ow ow' H H' → D.nx σ' H'
  | .rt d k => ∀ ka' v H', KO dkf H0 ka' → (dkf = true → ka' = ka) → RtP G fr H0 ow0 ka' d k v H' → D.rt v H'
  | .er x => ∀ ka', KO dkf H0 ka' → (dkf = true → ka' = ka) → Erw G H0 ka' W x
  | .no => False
/-- the entry -/
structure EnR (G : Wr) (dkf : Bool) (H0 : Hp) (ow0 ow : Addr → Prop) (ka : Option Addr) (st : Stt) (σ : L2.St) (H : Hp) : Prop where
  s : SR G H0 ow0 ow ka st σ H
  ko : KO dkf H0 ka
  o0 : Own ow0 H0
def TSp (G : Wr) (cl : CL) (fu : Nat) (fr dkf : Bool) (W : XK) (ss : List S) : TS := fun D σ H => ∃ H0 ow0 ow ka st, EnR G dkf H0 ow0 ow ka st σ H ∧ OutP G fr dkf W H0 ow0 ow ka H D (evB cl fu ss st)
def TS1 (G : Wr) (cl : CL) (fu : Nat) (fr dkf : Bool) (W : XK) (s : S) : TS := fun D σ H => ∃ H0 ow0 ow ka st, EnR G dkf H0 ow0 ow ka st σ H ∧ OutP G fr dkf W H0 ow0 ow ka H D (evS cl fu s st)
theorem PSi {X : Cx} {st : Stmt} {t t' : TS} (h : PS X st t) (f : ∀ D σ H, t' D σ H → t D σ H) : PS X st t' := ⟨fun pins s σ H D I w => h.run pins s σ H D I (f D σ H w)⟩
theorem PSsi {X : Cx} {st : List Stmt} {t t' : TS} (h : PSs X st t) (f : ∀ D σ H, t' D σ H → t D σ H) : PSs X st t' := ⟨fun pins s σ H D I w => h.run pins s σ H D I (f D σ H w)⟩
section
variable {G : Wr} {fr dkf : Bool} {W : XK} {H0 H H1 : Hp} {ow0 ow ow1 : Addr → Prop} {ka ka1 : Option Addr} {D : Ends} {st : Stt} {σ : L2.St}
theorem OutP.step {o : Out} (h : OutP G fr dkf W H0 ow0 ow ka H D o) (hs : SS ow ow1 H H1) (hk : dkf = true → ka1 = ka) : OutP G fr dkf W H0 ow0 ow1 ka1 H1 D o := by
  cases o with
  | nx s => exact fun ow' ka' σ' H' S ko e ss => h ow' ka' σ' H' S ko (fun z => (e z).trans (hk z)) (hs.trans ss)
  | rt d k => exact fun ka' v H' ko e r => h ka' v H' ko (fun z => (e z).trans (hk z)) r
  | er x => exact fun ka' ko e => h ka' ko fun z => (e z).trans (hk z)
  | no => exact h
theorem OutP.bind {r : R (α × Dk)} {f : α × Dk → R (List Sl × Dk)} (ko : KO dkf H0 ka) (h : OutP G fr dkf W H0 ow0 ow ka H D (outR (r.bind f))) : Rs r (fun a k => OutP G fr dkf W H0 ow0 ow ka H D (outR (f (a, k)))) (Erw G H0 ka W) := by
  cases r with
  | ok a => exact h
  | err x => exact h ka ko fun _ => rfl
  | no => exact h
theorem XS.ss {k : Dk} (x : XS G ow ka k H H1) (hk : ∀ a, ka = some a → ow a) : SS ow ow H H1 := fun b o e n => ⟨x.keep b o e fun z => n (hk b z), n⟩
/-- an expression is past -/
theorem EnR.step {k : Dk} (E : EnR G dkf H0 ow0 ow ka st σ H) (x : XS G ow ka k H H1) : EnR G dkf H0 ow0 ow ka ⟨st.ρ, k⟩ σ H1 := ⟨E.s.step x, E.ko, E.o0⟩
/-- go on behind an expression -/
theorem OutP.nxt {ρ : List Sl} {k k1 : Dk} {σ' : L2.St} (E : EnR G dkf H0 ow0 ow ka st σ H) (x : XS G ow ka k1 H H1) (h : OutP G fr dkf W H0 ow0 ow ka H D (outR (.ok (ρ, k)))) (S : SR G H0 ow0 ow1 ka ⟨ρ, k⟩ σ' H2) (ss : SS ow ow1 H1 H2) : D.nx σ' H2 :=
  h ow1 ka σ' H2 S E.ko (fun _ => rfl) ((x.ss E.s.kow).trans ss)
theorem setP_ok {ρ : List Sl} {i : Nat} {s : Sl} {k : Dk} (h : OutP G fr dkf W H0 ow0 ow ka H D (outR ((setP ρ i s).bind fun ρ => .ok (ρ, k)))) : i < ρ.length ∧ OutP G fr dkf W H0 ow0 ow ka H D (outR (.ok (ρ.set i s, k))) := by
  unfold setP at h
  by_cases q : i < ρ.length
  · rw [if_pos q] at h
    exact ⟨q, h⟩
  · rw [if_neg q] at h
    exact False.elim h

/-! ### owned lists -/
/-- a slot of its own list: where it stands -/
theorem SR.own_at (S : SR G H0 ow0 ow ka st σ H) {i : Nat} {xs : List Rf.D} (e : st.ρ[i]? = some (.b xs)) : ∃ a vs, σ[i]? = some (some (.ref a)) ∧ ow a ∧ ka ≠ some a ∧ H0 a = none ∧ H a = some (.lst vs) ∧ FRs G ow H xs vs := by
  obtain ⟨a, vs, e1, h1, h2, h3, h4, r⟩ := S.sl i _ e
  exact ⟨a, vs, slot_of e1, h1, h2, h3, h4, r⟩
theorem stay_put {a : Addr} {o : HO} (h : ow a) : Stay ow H (upd H a o) := fun b u e n => by
  have : b ≠ a := fun z => n (by rw [z]; exact h)
  rw [upd_ne this]
  exact e
/-- an owned list is written -/
theorem SR.put (S : SR G H0 ow0 ow ka st σ H) {i : Nat} {xs ys : List Rf.D} {a : Addr} {vs us : List V} (e : st.ρ[i]? = some (.b xs)) (e1 : σ[i]? = some (some (.ref a))) (h1 : ow a) (h2 : ka ≠ some a) (h3 : H0 a = none) (h4 : H a = some (.lst vs)) (r : FRs G ow H ys us) :
    SR G H0 ow0 ow ka ⟨st.ρ.set i (.b ys), st.k⟩ σ (upd H a (.lst us)) := by
  have hst : Stay ow H (upd H a (.lst us)) := stay_put h1
  have hi : i < st.ρ.length := (List.getElem?_eq_some_iff.mp e).1
  refine ⟨by rw [List.length_set]; exact S.len, fun b o q n => ?_, fun j s q => ?_, fun j l zs ws b q1 q2 q3 q4 => ?_, fun b q => ?_, S.dkow, fun b z => ?_, S.sub⟩
  · have : b ≠ a := fun z => by
      rw [z, h3] at q
      cases q
    rw [upd_ne this]
    exact S.keep b o q n
  · have q' : (st.ρ.set i (.b ys))[j]? = some s := q
    by_cases hj : i = j
    · subst hj
      rw [List.getElem?_set_self hi] at q'
      cases q'
      exact ⟨a, us, by rw [e1]; rfl, h1, h2, h3, upd_same, r.stay S.own.w hst⟩
    · rw [getS_ne hj] at q'
      have w := S.sl j s q'
      cases s with
      | u => exact True.intro
      | p d =>
        obtain ⟨v, g1, g2⟩ := w
        exact ⟨v, g1, g2.stay S.own.w hst⟩
      | b zs =>
        obtain ⟨b, ws, g1, g2, g3, g4, g5, g6⟩ := w
        have nb : b ≠ a := fun z => by
          subst z
          exact hj (S.inj i j xs zs b e q' e1 (slot_of g1))
        exact ⟨b, ws, g1, g2, g3, g4, by rw [upd_ne nb]; exact g5, g6.stay S.own.w hst⟩
      | k => exact w
  · have q1' : (st.ρ.set i (.b ys))[j]? = some (.b zs) := q1
    have q2' : (st.ρ.set i (.b ys))[l]? = some (.b ws) := q2
    have g : ∀ (m : Nat) (us : List Rf.D), (st.ρ.set i (.b ys))[m]? = some (.b us) → ∃ us', st.ρ[m]? = some (.b us') := fun m us q => by
      by_cases hm : i = m
      · subst hm
        exact ⟨xs, e⟩
      · rw [getS_ne hm] at q
        exact ⟨us, q⟩
    obtain ⟨z1, p1⟩ := g j zs q1'
    obtain ⟨z2, p2⟩ := g l ws q2'
    exact S.inj j l z1 z2 b p1 p2 q3 q4
  · obtain ⟨ws, g1, g2⟩ := S.dk b q
    have nb : b ≠ a := fun z => h2 (z ▸ q)
    exact ⟨ws, by rw [upd_ne nb]; exact g1, g2.stay S.own.w hst⟩
  · by_cases nb : b = a
    · subst nb
      exact ⟨us, upd_same⟩
    · obtain ⟨ws, g⟩ := S.own b z
      exact ⟨ws, by rw [upd_ne nb]; exact g⟩
/-- the deck is written -/
theorem SR.putK (S : SR G H0 ow0 ow ka st σ H) {a : Addr} {us : List V} {k' : Dk} (hka : ka = some a) (r : FRs G ow H k' us) : SR G H0 ow0 ow ka ⟨st.ρ, k'⟩ σ (upd H a (.lst us)) := by
  have h1 := S.dkow a hka
  have hst : Stay ow H (upd H a (.lst us)) := stay_put h1
  refine ⟨S.len, fun b o q n => ?_, fun j s q => ?_, S.inj, fun b q => ?_, S.dkow, fun b z => ?_, S.sub⟩
  · have : b ≠ a := fun z => n (z ▸ hka)
    rw [upd_ne this]
    exact S.keep b o q n
  · have w := S.sl j s q
    cases s with
    | u => exact True.intro
    | p d =>
      obtain ⟨v, g1, g2⟩ := w
      exact ⟨v, g1, g2.stay S.own.w hst⟩
    | b zs =>
      obtain ⟨b, ws, g1, g2, g3, g4, g5, g6⟩ := w
      have nb : b ≠ a := fun z => g3 (z ▸ hka)
      exact ⟨b, ws, g1, g2, g3, g4, by rw [upd_ne nb]; exact g5, g6.stay S.own.w hst⟩
    | k => exact w
  · rw [hka] at q
    cases q
    exact ⟨us, upd_same, r.stay S.own.w hst⟩
  · by_cases nb : b = a
    · subst nb
      exact ⟨us, upd_same⟩
    · obtain ⟨ws, g⟩ := S.own b z
      exact ⟨ws, by rw [upd_ne nb]; exact g⟩
theorem ss_put {a : Addr} {o : HO} (h : ow a) : SS ow ow H (upd H a o) := fun b u e n => ⟨stay_put h b u e n, n⟩
theorem flat_any : ∀ {d : Rf.D} {v : V} {ow' : Addr → Prop}, flatD d = true → FR G ow H d v → FR G ow' H d v := by
  intro d v ow' h r
  cases r with
  | non => exact .non
  | bl b => exact .bl b
  | int i => exact .int i
  | str x e => exact .str x e
  | tup _ _ => cases h
  | lst _ _ _ => cases h
  | scr _ => cases h
  | fn _ => cases h
theorem flats_any {ow' : Addr → Prop} : ∀ {ds : List Rf.D} {vs : List V}, ds.all flatD = true → FRs G ow H ds vs → FRs G ow' H ds vs
  | _, _, _, .nil => .nil
  | _, _, h, .cons r t => by
    rw [List.all_cons, Bool.and_eq_true] at h
    exact .cons (flat_any h.1 r) (flats_any h.2 t)
/-- a new list is taken as its own -/
theorem SR.take (S : SR G H0 ow0 ow ka st σ H) {k : Dk} (x : XS G ow ka k H H1) {i : Nat} {p : Addr} {xs : List Rf.D} {vs : List V} (hi : i < st.ρ.length) (hp : H p = none) (hl : H1 p = some (.lst vs)) (r : FRs G (orA ow p) H1 xs vs) (hf : k.all flatD = true) :
    SR G H0 ow0 (orA ow p) ka ⟨st.ρ.set i (.b xs), k⟩ (σ.set i (some (.ref p))) H1 ∧ SS ow (orA ow p) H H1 := by
  have kp : Kp H ka H1 := x.keep
  have S1 := S.reb hp kp hl (fun a e => by
    obtain ⟨us, e1, r1⟩ := x.dk a e
    exact ⟨us, e1, flats_any hf r1⟩)
  have hkp : ka ≠ some p := fun e => by
    obtain ⟨us, e1, _⟩ := S.dk p e
    rw [hp] at e1
    cases e1
  have hl' : i < σ.length := by rw [S.len]; exact hi
  have h0 : H0 p = none := by
    cases q : H0 p with
    | none => rfl
    | some o =>
      rw [S.keep p o q hkp] at hp
      cases hp
  have old : ∀ (j : Nat) (zs : List Rf.D) (b : Addr), st.ρ[j]? = some (.b zs) → σ[j]? = some (some (.ref b)) → b ≠ p := fun j zs b e e1 z => by
    obtain ⟨a, us, g1, _, _, _, g5, _⟩ := S.sl j _ e
    rw [e1] at g1
    have g1' : (some (V.ref b)) = some (V.ref a) := g1
    cases g1'
    rw [z, hp] at g5
    cases g5
  refine ⟨⟨by rw [List.length_set, List.length_set]; exact S.len, S1.keep, fun j s q => ?_, fun j l zs ws b q1 q2 q3 q4 => ?_, S1.dk, S1.dkow, S1.own, S1.sub⟩, fun b o e n => ⟨kp b o e fun z => n (S.kow b z), fun z => ?_⟩⟩
  · have q' : (st.ρ.set i (.b xs))[j]? = some s := q
    by_cases hj : i = j
    · subst hj
      rw [List.getElem?_set_self hi] at q'
      cases q'
      rw [List.getElem?_set_self hl']
      exact ⟨p, vs, rfl, .inr rfl, hkp, h0, hl, r⟩
    · rw [getS_ne hj] at q'
      rw [getS_ne hj]
      exact S1.sl j s q'
  · have q1' : (st.ρ.set i (.b xs))[j]? = some (.b zs) := q1
    have q2' : (st.ρ.set i (.b xs))[l]? = some (.b ws) := q2
    by_cases hj : i = j
    · subst hj
      by_cases hlj : i = l
      · exact hlj
      · rw [getS_ne hlj] at q2' q4
        rw [List.getElem?_set_self hl'] at q3
        cases q3
        exact absurd rfl (old l ws _ q2' q4)
    · rw [getS_ne hj] at q1' q3
      by_cases hlj : i = l
      · subst hlj
        rw [List.getElem?_set_self hl'] at q4
        cases q4
        exact absurd rfl (old j zs _ q1' q3)
      · rw [getS_ne hlj] at q2' q4
        exact S.inj j l zs ws b q1' q2' q3 q4
  · rcases z with z | z
    · exact n z
    · rw [z, hp] at e
      cases e
/-- a new list is taken as the deck -/
theorem dropK_get {ρ : List Sl} {i : Nat} {s : Sl} (h : (ρ.map dropK)[i]? = some s) : ∃ s0, ρ[i]? = some s0 ∧ s = dropK s0 := by
  rw [List.getElem?_map] at h
  obtain ⟨s0, e, q⟩ := Option.map_eq_some_iff.mp h
  exact ⟨s0, e, q.symm⟩
theorem SR.takeK (S : SR G H0 ow0 ow ka st σ H) {k : Dk} (x : XS G ow ka k H H1) {i : Nat} {p : Addr} {xs : List Rf.D} {vs : List V} (hi : i < st.ρ.length) (hp : H p = none) (hl : H1 p = some (.lst vs)) (r : FRs G (orA ow p) H1 xs vs) (hn : ∀ a, ka = some a → H0 a = none) :
    SR G H0 ow0 (orA ow p) (some p) ⟨(st.ρ.map dropK).set i .k, xs⟩ (σ.set i (some (.ref p))) H1 ∧ SS ow (orA ow p) H H1 ∧ H0 p = none := by
  have hkp : ka ≠ some p := fun e => by
    obtain ⟨us, e1, _⟩ := S.dk p e
    rw [hp] at e1
    cases e1
  have hl' : i < σ.length := by rw [S.len]; exact hi
  have hi' : i < (st.ρ.map dropK).length := by rw [List.length_map]; exact hi
  have h0 : H0 p = none := by
    cases q : H0 p with
    | none => rfl
    | some o =>
      rw [S.keep p o q hkp] at hp
      cases hp
  have hst : Stay ow H H1 := x.stay S.kow
  have hst2 : Stay (orA ow p) H H1 := hst.mono fun a z => .inl z
  have hw : OwnW (orA ow p) H := S.own.w.of_none hp
  have slot : ∀ (j : Nat) (s : Sl), i ≠ j → ((st.ρ.map dropK).set i .k)[j]? = some s → ∃ s0, st.ρ[j]? = some s0 ∧ s = dropK s0 := fun j s hj q => by
    rw [getS_ne hj] at q
    exact dropK_get q
  refine ⟨⟨by rw [List.length_set, List.length_set, List.length_map]; exact S.len, fun b o e n => ?_, fun j s q => ?_, fun j l zs ws b q1 q2 q3 q4 => ?_, fun a e => ?_, fun a e => .inr (Option.some.inj e).symm, fun a z => ?_, fun a z => .inl (S.sub a z)⟩, fun b o e n => ⟨x.keep b o e fun z => n (S.kow b z), fun z => ?_⟩, h0⟩
  · have nk : ka ≠ some b := fun z => by
      rw [hn b z] at e
      cases e
    exact x.keep b o (S.keep b o e nk) nk
  · by_cases hj : i = j
    · subst hj
      have q' : ((st.ρ.map dropK).set i .k)[i]? = some s := q
      rw [List.getElem?_set_self hi'] at q'
      cases q'
      rw [List.getElem?_set_self hl']
      exact ⟨p, rfl, rfl⟩
    · obtain ⟨s0, e0, rfl⟩ := slot j s hj q
      rw [getS_ne hj]
      have w := S.sl j s0 e0
      cases s0 with
      | u => exact True.intro
      | p d =>
        obtain ⟨v, g1, g2⟩ := w
        exact ⟨v, g1, (g2.bar hp).stay hw hst2⟩
      | b zs =>
        obtain ⟨b, us, g1, g2, g3, g4, g5, g6⟩ := w
        have np : (some p : Option Addr) ≠ some b := fun z => by
          cases z
          rw [hp] at g5
          cases g5
        exact ⟨b, us, g1, .inl g2, np, g4, x.keep b _ g5 g3, (g6.bar hp).stay hw hst2⟩
      | k => exact True.intro
  · have nk : ∀ (m : Nat) (us : List Rf.D), ((st.ρ.map dropK).set i .k)[m]? = some (.b us) → i ≠ m ∧ st.ρ[m]? = some (.b us) := fun m us q => by
      by_cases hm : i = m
      · subst hm
        rw [List.getElem?_set_self hi'] at q
        cases q
      · obtain ⟨s0, e0, e1⟩ := slot m _ hm q
        refine ⟨hm, ?_⟩
        cases s0 with
        | b zs =>
          cases e1
          exact e0
        | _ => cases e1
    obtain ⟨n1, p1⟩ := nk j zs q1
    obtain ⟨n2, p2⟩ := nk l ws q2
    rw [getS_ne n1] at q3
    rw [getS_ne n2] at q4
    exact S.inj j l zs ws b p1 p2 q3 q4
  · cases e
    exact ⟨vs, hl, r⟩
  · rcases z with z | z
    · obtain ⟨us, e⟩ := x.own S.own a z
      exact ⟨us, e⟩
    · exact ⟨vs, by rw [z]; exact hl⟩
  · rcases z with z | z
    · exact n z
    · rw [z, hp] at e
      cases e
/-- a list of its own is one no longer -/
theorem EnR.thaw (E : EnR G dkf H0 ow0 ow ka st σ H) {i : Nat} {xs : List Rf.D} (e : st.ρ[i]? = some (.b xs)) : ∃ ow', EnR G dkf H0 ow0 ow' ka ⟨st.ρ.set i (.p (.lst xs)), st.k⟩ σ H ∧ SS ow ow' H H := by
  have S := E.s
  obtain ⟨a, vs, e1, h1, h2, h3, h4, r⟩ := S.own_at e
  have hm : ∀ b, (ow b ∧ b ≠ a) → ow b := fun b z => z.1
  have hi : i < st.ρ.length := (List.getElem?_eq_some_iff.mp e).1
  refine ⟨fun b => ow b ∧ b ≠ a, ⟨⟨by rw [List.length_set]; exact S.len, S.keep, fun j s q => ?_, fun j l zs ws b q1 q2 q3 q4 => ?_, fun b q => ?_, fun b q => ⟨S.dkow b q, fun z => h2 (z ▸ q)⟩, fun b z => S.own b z.1, fun b z => ⟨S.sub b z, fun q => ?_⟩⟩, E.ko, E.o0⟩, fun b o q n => ⟨q, fun z => n z.1⟩⟩
  · have q' : (st.ρ.set i (.p (.lst xs)))[j]? = some s := q
    by_cases hj : i = j
    · subst hj
      rw [List.getElem?_set_self hi] at q'
      cases q'
      exact ⟨.ref a, by rw [e1]; rfl, .lst h4 (fun z => z.2 rfl) (r.mono hm)⟩
    · rw [getS_ne hj] at q'
      have w := S.sl j s q'
      cases s with
      | u => exact True.intro
      | p d =>
        obtain ⟨v, g1, g2⟩ := w
        exact ⟨v, g1, g2.mono hm⟩
      | b zs =>
        obtain ⟨b, us, g1, g2, g3, g4, g5, g6⟩ := w
        exact ⟨b, us, g1, ⟨g2, fun z => by
          subst z
          exact hj (S.inj i j xs zs b e q' e1 (slot_of g1))⟩, g3, g4, g5, g6.mono hm⟩
      | k => exact w
  · have q1' : (st.ρ.set i (.p (.lst xs)))[j]? = some (.b zs) := q1
    have q2' : (st.ρ.set i (.p (.lst xs)))[l]? = some (.b ws) := q2
    have n : ∀ (m : Nat) (us : List Rf.D), (st.ρ.set i (.p (.lst xs)))[m]? = some (.b us) → st.ρ[m]? = some (.b us) := fun m us q => by
      by_cases hm : i = m
      · subst hm
        rw [List.getElem?_set_self hi] at q
        cases q
      · rw [getS_ne hm] at q
        exact q
    exact S.inj j l zs ws b (n _ _ q1') (n _ _ q2') q3 q4
  · obtain ⟨us, g1, g2⟩ := S.dk b q
    exact ⟨us, g1, g2.mono hm⟩
  · rw [q] at z
    obtain ⟨us, g⟩ := E.o0 a z
    rw [h3] at g
    cases g
end
end Rf
set_option Elab.async false
set_option linter.all false
set_option maxRecDepth 100000
set_option maxHeartbeats 4000000
/-! Rf14: statements: what a node asks is what the layer's rule asks. Own work. -/
namespace Rf
open PySem PySem.Spec PyProof.Rows L2
def swNm (look : Str → Option NameKind) (ts : List Expr) : List Str := List.filterMap (fun x => match x with
  | .Name id pos => if (look id == some NameKind.local && pos.line == (Option.map (fun (x : Expr) => x.pos.line) ts.head?).getD 0) = true then some id else none
  | _ => none) ts
/-- which names are stored from the right -/
def swC (look : Str → Option NameKind) (ts vs : List Expr) : Option (Option (List Str)) :=
  if (!(ts.length == 2 || ts.length == 3) || vs.length != ts.length) = true then some none
  else if (vs.any fun x => match x with | .Starred _ _ => true | _ => false) = true then some none
  else if ((swNm look ts).length != ts.length || (swNm look ts).eraseDups.length != (swNm look ts).length) = true then some none
  else if vs.all (foldedForSure 8) = true then some none
  else if vs.all (constantsAlone 8) = true then none
  else some (some (swNm look ts))
theorem sw_eq {ts vs : List Expr} {k k2 : Nat} {p p2 : Pos} {env : Env} {r : Option (List Str)} (hb : env.blockKind = .function) (h : swC (fun x => env.kindOf x) ts vs = some r) : swappedStores [.Tuple ts k p] (.Tuple vs k2 p2) env = pure r := by
  unfold swC at h
  unfold swappedStores
  rw [hb]
  dsimp only
  have e0 : ((!(ts.length == 2 || ts.length == 3) || vs.length != ts.length || ScopeKind.function != ScopeKind.function) : Bool) = (!(ts.length == 2 || ts.length == 3) || vs.length != ts.length) := by
    have : (ScopeKind.function != ScopeKind.function) = false := by decide
    rw [this, Bool.or_false]
  rw [e0]
  by_cases c1 : (!(ts.length == 2 || ts.length == 3) || vs.length != ts.length) = true
  · rw [if_pos c1] at h ⊢
    cases h
    rfl
  · rw [if_neg c1] at h ⊢
    by_cases c2 : (vs.any fun x => match x with | .Starred _ _ => true | _ => false) = true
    · rw [if_pos c2] at h
      cases h
      exact if_pos c2
    · rw [if_neg c2] at h
      refine (if_neg c2).trans ?_
      by_cases c3 : ((swNm (fun x => env.kindOf x) ts).length != ts.length || (swNm (fun x => env.kindOf x) ts).eraseDups.length != (swNm (fun x => env.kindOf x) ts).length) = true
      · rw [if_pos c3] at h
        cases h
        exact if_pos c3
      · rw [if_neg c3] at h
        refine (if_neg c3).trans ?_
        by_cases c4 : vs.all (foldedForSure 8) = true
        · rw [if_pos c4] at h ⊢
          cases h
          rfl
        · rw [if_neg c4] at h ⊢
          by_cases c5 : vs.all (constantsAlone 8) = true
          · rw [if_pos c5] at h
            cases h
          · rw [if_neg c5] at h ⊢
            cases h
            rfl
def isComp : Expr → Bool
  | .ListComp .. => true | .SetComp .. => true | .DictComp .. => true | _ => false
theorem sw_no {v : Expr} {tgt : Option Expr} {l : Nat} {env : Env} (h : isComp v = false) : swapsWith v tgt l env = pure false := by
  cases v <;> first | rfl | cases h
theorem sw_other {v tg : Expr} {l : Nat} {env : Env} (h : ∀ x p, tg ≠ .Name x p) : swapsWithSole [tg] v l env = pure false := by
  have g : swapsWith v (some tg) l env = pure false := by
    cases tg with
    | Name x p => exact absurd rfl (h x p)
    | _ => cases v <;> rfl
  exact g
def swL (look : Str → Option NameKind) (scope : Scope) (t : Str) (pl vl : Nat) : Bool := look t == some .local && pl == vl && !(scope.names.any fun (n, k) => n == t && (k == .local || k == .cell))
theorem sw_lc {elt : Expr} {gens : List Comprehension} {scope : Scope} {vp p : Pos} {t : Str} {l : Nat} {env : Env} (hb : env.blockKind = .function) : swapsWith (.ListComp elt gens scope vp) (some (.Name t p)) l env = pure (swL (fun x => env.kindOf x) scope t p.line vp.line) := by
  have e : swapsWith (.ListComp elt gens scope vp) (some (.Name t p)) l env = pure (env.blockKind == .function && env.kindOf t == some .local && p.line == vp.line
      && !(scope.names.any fun (n, k) => n == t && (k == .local || k == .cell))) := rfl
  rw [e, hb]
  rfl

structure Ctx2 (c : Ck) (fu n : Nat) (X : Cx) (W : XK) : Prop extends Ctx c fu n X W where
  kind : c.sc.kind = .function
  po : PassesOwn (model X.prog X.w) X.A X.env X.xe
section
variable {c : Ck} {fu n : Nat} {X : Cx} {W : XK}
theorem Ctx2.bk (h : Ctx2 c fu n X W) : X.env.blockKind = .function := by
  unfold Env.blockKind
  rw [h.hsc, h.kind]
  rfl
theorem Ctx2.look (h : Ctx2 c fu n X W) : (fun x => X.env.kindOf x) = fun x => c.sc.names.lookup x := by
  funext x
  show X.env.scope.names.lookup x = _
  rw [h.hsc]
/-- name = e -/
def setB1 (c : Ck) (i : Nat) (e : E) : Stmt → Bool
  | .Assign [.Name x _] v _ => nlB c i x && ckE c false e v && (match e with | .comp .. => true | _ => !isComp v)
  | _ => false
theorem set_ok (h : Ctx2 c fu n X W) {i : Nat} {e : E} {st : Stmt} (hb : setB1 c i e st = true) : PS X st (tAsg (TEp (pst (clE c.T e)) (gx X) (clX c fu n) W e) (gName i)) := by
  unfold setB1 at hb
  split at hb
  · rename_i x px v pos
    simp only [Bool.and_eq_true] at hb
    obtain ⟨⟨h1, h2⟩, h3⟩ := hb
    obtain ⟨l1, l2, l3⟩ := h.loc h1
    have pe := (ckE_ok e h.toCtx false _ h2).pe
    have plain : isComp v = false → PS X (.Assign [.Name x px] v pos) (tAsg (TEp (pst (clE c.T e)) (gx X) (clX c fu n) W e) (gName i)) := fun hv => ps_set h.nd l1 l2 pe (sw_no hv) l3
    cases e with
    | comp tg it q elt own =>
      cases v with
      | ListComp eltx gens scope vp =>
        have sw := sw_lc (elt := eltx) (gens := gens) (scope := scope) (vp := vp) (p := px) (t := x) (l := pos.line) (env := X.env) h.bk
        cases hs : swL (fun x => X.env.kindOf x) scope x px.line vp.line with
        | false =>
          rw [hs] at sw
          exact ps_set h.nd l1 l2 pe sw l3
        | true =>
          rw [hs] at sw
          have hl : X.env.scope.names.lookup x = some .local := by
            unfold swL at hs
            simp only [Bool.and_eq_true, beq_iff_eq] at hs
            exact hs.1.1
          simp only [ckE, Bool.and_eq_true] at h2
          obtain ⟨ht, h2⟩ := h2
          split at h2
          · rename_i a1 a2 a3 a4 a5 a6 heq
            cases heq
            simp only [Bool.and_eq_true, decide_eq_true_eq, List.all_eq_true] at h2
            obtain ⟨⟨⟨⟨⟨⟨⟨e1, e2⟩, e3⟩, e4⟩, e5⟩, e6⟩, e7⟩, e8⟩ := h2
            have ok := blkOk_by e2
            rw [← h.hN, ← h.hsc] at ok
            have hc := h.toCtx
            exact PSi (ps_setLc h.calm h.nd l1 hl sw (ckI_ok it hc false _ _ e4) ok (fun s H C l fp => ckG_ok tg (hc.blk s H C l fp) _ e5) (fun s H C l fp => ckC_ok q (hc.blk s H C l fp) _ e6) (fun s H C l fp => (ckE_ok elt (hc.blk s H C l fp) false _ e7).f e8) (nset_f e1)) fun D σ H w => comp_t e3 σ H _ w
          · cases h2
      | _ => first | exact plain rfl | (simp [ckE] at h2; done)
    | _ => exact plain (by simpa using h3)
  · cases hb
end
section
variable {X : Cx} {G : Wr} {cl : CL} {fu : Nat} {fr dkf : Bool} {W : XK}
theorem PL_of {m : Mo} {G : Wr} {ow : Addr → Prop} {ka : Option Addr} {H H' : Hp} {d : D} {v : V} (hm : m ≠ .L) (ho : Own ow H) (r : pst m G ow ka H H' d v) : FR G ow H' d v := by
  cases m with
  | L => exact absurd rfl hm
  | F => exact r
  | N => exact FN.fr ho r
theorem t_set {i : Nat} {e : E} {m : Mo} (hm : m ≠ .L) (D : Ends) (σ : L2.St) (H : Hp) (h : TS1 G cl fu fr dkf W (.set i e) D σ H) : tAsg (TEp (pst m) G cl W e) (gName i) D σ H := by
  obtain ⟨H0, ow0, ow, ka, st, E, h⟩ := h
  simp only [evS] at h
  refine ⟨H0, ow0, ow, ka, st, E.s, (h.bind E.ko).mono fun d k h H1 v x1 r1 => ?_⟩
  obtain ⟨hi, h⟩ := setP_ok h
  exact OutP.nxt E x1 h ((E.s.step x1).setP hi (PL_of hm E.s.own r1)) (SS.refl _ _)
theorem FN.lstx {ow : Addr → Prop} {H H' : Hp} {xs : List D} {v : V} (r : FN G ow H H' (.lst xs) v) : ∃ p vs, v = .ref p ∧ H p = none ∧ H' p = some (.lst vs) ∧ FRs G (orA ow p) H' xs vs := by
  cases r with
  | of n _ => exact absurd rfl (n xs)
  | new h1 h2 h3 => exact ⟨_, _, rfl, h1, h2, h3⟩
theorem t_setB {i : Nat} {e : E} (D : Ends) (σ : L2.St) (H : Hp) (h : TS1 G cl fu fr dkf W (.setB i e) D σ H) : tAsg (TEp PN G cl W e) (gName i) D σ H := by
  obtain ⟨H0, ow0, ow, ka, st, E, h⟩ := h
  simp only [evS] at h
  refine ⟨H0, ow0, ow, ka, st, E.s, (h.bind E.ko).mono fun d k h H1 v x1 r1 => ?_⟩
  cases d with
  | lst xs =>
    dsimp only at h
    by_cases hf : k.all flatD = true
    · rw [if_pos hf] at h
      obtain ⟨hi, h⟩ := setP_ok h
      obtain ⟨p, vs, rfl, h1, h2, h3⟩ := FN.lstx r1
      obtain ⟨S', ss⟩ := E.s.take x1 hi h1 h2 h3 hf
      exact h _ ka _ H1 S' E.ko (fun _ => rfl) ss
    · rw [if_neg hf] at h
      exact False.elim h
  | _ => exact False.elim h
theorem t_setD {i : Nat} {e : E} (hd : dkf = false) (D : Ends) (σ : L2.St) (H : Hp) (h : TS1 G cl fu fr dkf W (.setD i e) D σ H) : tAsg (TEp PN G cl W e) (gName i) D σ H := by
  obtain ⟨H0, ow0, ow, ka, st, E, h⟩ := h
  simp only [evS] at h
  refine ⟨H0, ow0, ow, ka, st, E.s, (h.bind E.ko).mono fun d k h H1 v x1 r1 => ?_⟩
  cases d with
  | lst xs =>
    obtain ⟨hi, h⟩ := setP_ok h
    rw [List.length_map] at hi
    obtain ⟨p, vs, rfl, h1, h2, h3⟩ := FN.lstx r1
    obtain ⟨S', ss, h0⟩ := E.s.takeK x1 hi h1 h2 h3 (E.ko hd)
    exact h _ (some p) _ H1 S' (fun _ a e => by cases e; exact h0) (fun z => by rw [hd] at z; cases z) ss
  | _ => exact False.elim h
theorem t_setT {tg : Tg} {e : E} (D : Ends) (σ : L2.St) (H : Hp) (h : TS1 G cl fu fr dkf W (.setT tg e) D σ H) : tAsg (TEp PF G cl W e) (TGp G tg) D σ H := by
  obtain ⟨H0, ow0, ow, ka, st, E, h⟩ := h
  simp only [evS] at h
  refine ⟨H0, ow0, ow, ka, st, E.s, (h.bind E.ko).mono fun d k h H1 v x1 r1 => ?_⟩
  dsimp only at h
  cases hb : bindT tg d st.ρ with
  | ok ρ =>
    rw [hb] at h
    exact ⟨H0, ow0, ow, ka, _, d, ρ, E.s.step x1, r1, hb, fun σ' S' _ _ => OutP.nxt E x1 h S' (SS.refl _ _)⟩
  | err x =>
    rw [hb] at h
    exact False.elim h
  | no =>
    rw [hb] at h
    exact False.elim h
theorem setP_ok2 {ρ ρ' : List Sl} {i : Nat} {s : Sl} (h : setP ρ i s = .ok ρ') : i < ρ.length ∧ ρ' = ρ.set i s := by
  unfold setP at h
  by_cases q : i < ρ.length
  · rw [if_pos q] at h
    cases h
    exact ⟨q, rfl⟩
  · rw [if_neg q] at h
    cases h
theorem t_par2 {i j : Nat} {es : List E} (D : Ends) (σ : L2.St) (H : Hp) (h : TS1 G cl fu fr dkf W (.par [i, j] es) D σ H) : tPar i j (TAp G cl W es) D σ H := by
  obtain ⟨H0, ow0, ow, ka, st, E, h⟩ := h
  simp only [evS] at h
  refine ⟨H0, ow0, ow, ka, st, E.s, (h.bind E.ko).mono fun ds k h H1 vs x1 r1 => ?_⟩
  dsimp only at h
  cases hb : setMany [i, j] ds st.ρ with
  | ok ρ =>
    rw [hb] at h
    cases ds with
    | nil => cases hb
    | cons d1 ds =>
      obtain ⟨ρ1, b1, hb⟩ := bind_ok (show ((setP st.ρ i (.p d1)).bind fun ρ' => setMany [j] ds ρ') = .ok ρ from hb)
      cases ds with
      | nil => cases hb
      | cons d2 ds =>
        obtain ⟨ρ2, b2, hb⟩ := bind_ok (show ((setP ρ1 j (.p d2)).bind fun ρ' => setMany [] ds ρ') = .ok ρ from hb)
        cases ds with
        | cons _ _ => cases hb
        | nil =>
          cases hb
          obtain ⟨l1, rfl⟩ := setP_ok2 b1
          obtain ⟨l2, rfl⟩ := setP_ok2 b2
          cases r1 with
          | cons q1 r1 =>
            cases r1 with
            | cons q2 r1 =>
              cases r1
              exact ⟨_, _, rfl, OutP.nxt E x1 h (((E.s.step x1).setP l1 q1).setP l2 q2) (SS.refl _ _)⟩
  | err x =>
    rw [hb] at h
    exact False.elim h
  | no =>
    rw [hb] at h
    exact False.elim h
theorem t_par3 {i j l : Nat} {es : List E} (D : Ends) (σ : L2.St) (H : Hp) (h : TS1 G cl fu fr dkf W (.par [i, j, l] es) D σ H) : tPar3 i j l (TAp G cl W es) D σ H := by
  obtain ⟨H0, ow0, ow, ka, st, E, h⟩ := h
  simp only [evS] at h
  refine ⟨H0, ow0, ow, ka, st, E.s, (h.bind E.ko).mono fun ds k h H1 vs x1 r1 => ?_⟩
  dsimp only at h
  cases hb : setMany [i, j, l] ds st.ρ with
  | ok ρ =>
    rw [hb] at h
    cases ds with
    | nil => cases hb
    | cons d1 ds =>
      obtain ⟨ρ1, b1, hb⟩ := bind_ok (show ((setP st.ρ i (.p d1)).bind fun ρ' => setMany [j, l] ds ρ') = .ok ρ from hb)
      cases ds with
      | nil => cases hb
      | cons d2 ds =>
        obtain ⟨ρ2, b2, hb⟩ := bind_ok (show ((setP ρ1 j (.p d2)).bind fun ρ' => setMany [l] ds ρ') = .ok ρ from hb)
        cases ds with
        | nil => cases hb
        | cons d3 ds =>
          obtain ⟨ρ3, b3, hb⟩ := bind_ok (show ((setP ρ2 l (.p d3)).bind fun ρ' => setMany [] ds ρ') = .ok ρ from hb)
          cases ds with
          | cons _ _ => cases hb
          | nil =>
            cases hb
            obtain ⟨l1, rfl⟩ := setP_ok2 b1
            obtain ⟨l2, rfl⟩ := setP_ok2 b2
            obtain ⟨l3, rfl⟩ := setP_ok2 b3
            cases r1 with
            | cons q1 r1 =>
              cases r1 with
              | cons q2 r1 =>
                cases r1 with
                | cons q3 r1 =>
                  cases r1
                  exact ⟨_, _, _, rfl, OutP.nxt E x1 h ((((E.s.step x1).setP l1 q1).setP l2 q2).setP l3 q3) (SS.refl _ _)⟩
  | err x =>
    rw [hb] at h
    exact False.elim h
  | no =>
    rw [hb] at h
    exact False.elim h
/-- xs.append(e) -/
theorem t_app {i : Nat} {e : E} (D : Ends) (σ : L2.St) (H : Hp) (h : TS1 G cl fu fr dkf W (.app i e) D σ H) : tDrop (tBM G.K "list" rAppend (tVar i) (tCons (TEp PF G cl W e) tNil)) D σ H := by
  obtain ⟨H0, ow0, ow, ka, st, E, h⟩ := h
  simp only [evS] at h
  cases e0 : st.ρ[i]? with
  | none =>
    rw [e0] at h
    exact False.elim h
  | some s =>
    rw [e0] at h
    cases s with
    | b xs =>
      have h := OutP.bind E.ko h
      obtain ⟨a, vs, e1, h1, h2, h3, h4, r⟩ := E.s.own_at e0
      refine ⟨.ref a, e1, .inl ⟨rfl, vs, .of h4⟩, H0, ow0, ow, ka, st, E.s, h.mono fun d k h H1 v x1 r1 => ?_⟩
      dsimp only at h
      by_cases hl : xs.length < SZ
      · rw [if_pos hl] at h
        have S1 := E.s.step x1
        obtain ⟨a', us, g1, g2, g3, g4, g5, g6⟩ := S1.own_at (i := i) e0
        rw [e1] at g1
        cases g1
        refine ⟨a, us, v, rfl, rfl, g5, by rw [← g6.length, ← sz_eq]; exact hl, ?_⟩
        exact OutP.nxt E x1 h (S1.put e0 e1 g2 g3 g4 g5 (g6.snoc r1)) (ss_put g2)
      · rw [if_neg hl] at h
        exact False.elim h
    | _ => exact False.elim h
theorem place_lt {n p : Nat} {j : Int} (h : place n j = some p) : p < n := by
  unfold place at h
  by_cases h0 : 0 ≤ j
  · rw [if_pos h0] at h
    by_cases h1 : j < n
    · rw [if_pos h1] at h
      cases h
      omega
    · rw [if_neg h1] at h
      cases h
  · rw [if_neg h0] at h
    by_cases h1 : 0 ≤ j + n
    · rw [if_pos h1] at h
      cases h
      omega
    · rw [if_neg h1] at h
      cases h
/-- xs[j] = e -/
theorem t_sti {i : Nat} {ix e : E} {m : Mo} (hm : m ≠ .L) (D : Ends) (σ : L2.St) (H : Hp) (h : TS1 G cl fu fr dkf W (.sti i ix e) D σ H) : tAsg (TEp (pst m) G cl W e) (gSub (tVar i) (TEp PL G cl W ix) rSetL) D σ H := by
  obtain ⟨H0, ow0, ow, ka, st, E, h⟩ := h
  simp only [evS] at h
  cases e0 : st.ρ[i]? with
  | none =>
    rw [e0] at h
    exact False.elim h
  | some s =>
    rw [e0] at h
    cases s with
    | b xs =>
      have h := OutP.bind E.ko h
      obtain ⟨a, vs, e1, h1, h2, h3, h4, r⟩ := E.s.own_at e0
      refine ⟨H0, ow0, ow, ka, st, E.s, h.mono fun d k h H1 v x1 r1 => ?_⟩
      have h := OutP.bind E.ko h
      refine ⟨.ref a, e1, H0, ow0, ow, ka, _, E.s.step x1, h.mono fun d2 k2 h H2 u x2 r2 => ?_⟩
      dsimp only at h
      cases d2 with
      | int j =>
        cases r2.int
        dsimp only at h
        cases hp : place xs.length j with
        | none =>
          rw [hp] at h
          exact False.elim h
        | some p =>
          rw [hp] at h
          have S2 := (E.s.step x1).step x2
          obtain ⟨a', us, g1, g2, g3, g4, g5, g6⟩ := S2.own_at (i := i) e0
          rw [e1] at g1
          cases g1
          refine ⟨a, us, j, p, rfl, rfl, g5, by rw [place_ixN, ← g6.length]; exact hp, ?_⟩
          have rv : FR G ow H2 d v := (PL_of hm E.s.own r1).stay (x1.own E.s.own).w (x2.stay E.s.kow)
          exact OutP.nxt E (x1.trans x2) h (S2.put e0 e1 g2 g3 g4 g5 (g6.set rv p)) (ss_put g2)
      | _ => exact False.elim h
    | _ => exact False.elim h
/-- deck[j] = e -/
theorem t_std {i j : Nat} {e : E} {m : Mo} (hm : m ≠ .L) (D : Ends) (σ : L2.St) (H : Hp) (h : TS1 G cl fu fr dkf W (.std i j e) D σ H) : tAsg (TEp (pst m) G cl W e) (gSub (tVar i) (tC (.int j)) rSetL) D σ H := by
  obtain ⟨H0, ow0, ow, ka, st, E, h⟩ := h
  simp only [evS] at h
  cases e0 : isK st.ρ i with
  | false =>
    rw [e0] at h
    exact False.elim h
  | true =>
    rw [e0, if_pos rfl] at h
    have h := OutP.bind E.ko h
    obtain ⟨a, e1, e2⟩ := E.s.sl i _ (isK_of e0)
    subst e2
    refine ⟨H0, ow0, ow, _, st, E.s, h.mono fun d k h H1 v x1 r1 => ?_⟩
    refine ⟨.ref a, slot_of e1, ?_⟩
    dsimp only at h
    by_cases hl : j < k.length
    · rw [if_pos hl] at h
      obtain ⟨us, g1, g2⟩ := x1.dk a rfl
      refine ⟨a, us, j, j, rfl, rfl, g1, ?_, ?_⟩
      · rw [place_ixN, ← g2.length]
        unfold place
        rw [if_pos (by omega), if_pos (by omega), Int.toNat_natCast]
      · have rv := PL_of hm E.s.own r1
        exact OutP.nxt E x1 h ((E.s.step x1).putK rfl (g2.set rv j)) (ss_put (E.s.kow a rfl))
    · rw [if_neg hl] at h
      exact False.elim h
/-- x += e, x -= e: ints -/
def augV : Bin → L2.TIp
  | .add => ipI fun i j => i + j
  | _ => ipI fun i j => i - j
theorem t_aug {i : Nat} {o : Bin} {e : E} (D : Ends) (σ : L2.St) (H : Hp) (h : TS1 G cl fu fr dkf W (.aug i o e) D σ H) : tAug i (TEp PL G cl W e) (augV o) D σ H := by
  obtain ⟨H0, ow0, ow, ka, st, E, h⟩ := h
  simp only [evS] at h
  cases e0 : st.ρ[i]? with
  | none =>
    rw [e0] at h
    exact False.elim h
  | some s =>
    rw [e0] at h
    cases s with
    | p d =>
      cases d with
      | int n =>
        have h := OutP.bind E.ko h
        obtain ⟨v, e1, r⟩ := E.s.sl i _ e0
        cases r
        have hi : i < st.ρ.length := (List.getElem?_eq_some_iff.mp e0).1
        refine ⟨.int n, slot_of e1, H0, ow0, ow, ka, st, E.s, h.mono fun d2 k h H1 u x1 r1 => ?_⟩
        dsimp only at h
        have fin : ∀ z : Int, OutP G fr dkf W H0 ow0 ow ka H D (outR (.ok (st.ρ.set i (.p (.int z)), k))) → D.nx (σ.set i (some (.int z))) H1 := fun z h => OutP.nxt E x1 h ((E.s.step x1).setP hi (.int z)) (SS.refl _ _)
        cases d2 with
        | int j =>
          cases r1.int
          cases o with
          | add => exact ⟨n, j, rfl, rfl, fin _ h⟩
          | sub => exact ⟨n, j, rfl, rfl, fin _ h⟩
          | _ => exact False.elim h
        | _ => cases o <;> exact False.elim h
      | _ => exact False.elim h
    | _ => exact False.elim h
theorem t_ex {e : E} {m : Mo} (D : Ends) (σ : L2.St) (H : Hp) (h : TS1 G cl fu fr dkf W (.ex e) D σ H) : tDrop (TEp (pst m) G cl W e) D σ H := by
  obtain ⟨H0, ow0, ow, ka, st, E, h⟩ := h
  simp only [evS] at h
  exact ⟨H0, ow0, ow, ka, st, E.s, (h.bind E.ko).mono fun d k h H1 v x1 r1 => OutP.nxt E x1 h (E.s.step x1) (SS.refl _ _)⟩
theorem t_ite {e : E} {a b : List S} (D : Ends) (σ : L2.St) (H : Hp) (h : TS1 G cl fu fr dkf W (.ite e a b) D σ H) : tIfS (TTp G cl W e) (TSp G cl fu fr dkf W a) (TSp G cl fu fr dkf W b) D σ H := by
  obtain ⟨H0, ow0, ow, ka, st, E, h⟩ := h
  simp only [evS] at h
  refine ⟨H0, ow0, ow, ka, st, E.s, ?_⟩
  cases ev : evE cl st.ρ e st.k with
  | no =>
    rw [ev] at h
    exact False.elim h
  | err x =>
    rw [ev] at h
    exact h ka E.ko fun _ => rfl
  | ok r =>
    obtain ⟨d, k⟩ := r
    rw [ev] at h
    cases d with
    | bl q =>
      refine ⟨q, rfl, fun H1 x1 => ?_⟩
      cases q with
      | true => exact iteT ⟨H0, ow0, ow, ka, _, E.step x1, OutP.step h (x1.ss E.s.kow) fun _ => rfl⟩
      | false => exact iteF ⟨H0, ow0, ow, ka, _, E.step x1, OutP.step h (x1.ss E.s.kow) fun _ => rfl⟩
    | _ => exact False.elim h
/-! ### return -/
variable {H0 H H1 : Hp} {ow0 ow : Addr → Prop} {ka : Option Addr} {st : Stt} {σ : L2.St}
theorem EnR.back {k : Dk} (E : EnR G dkf H0 ow0 ow ka st σ H) (x : XS G ow ka k H H1) : ∀ b, H b = none → H0 b = none := fun b e => by
  cases q : H0 b with
  | none => rfl
  | some o =>
    by_cases z : ka = some b
    · obtain ⟨vs, e2, _⟩ := E.s.dk b z
      rw [e] at e2
      cases e2
    · rw [E.s.keep b o q z] at e
      cases e
theorem EnR.kp {k : Dk} (E : EnR G dkf H0 ow0 ow ka st σ H) (x : XS G ow ka k H H1) : Kp H0 ka H1 := fun b o e n => x.keep b o (E.s.keep b o e n) n
theorem EnR.dk0 {k : Dk} (E : EnR G dkf H0 ow0 ow ka st σ H) (x : XS G ow ka k H H1) : DkR G ow0 ka k H1 := fun a e => by
  obtain ⟨vs, g1, g2⟩ := x.dk a e
  exact ⟨vs, g1, g2.mono E.s.sub⟩
theorem FN.up {ow1 : Addr → Prop} {d : Rf.D} {v : V} (h : ∀ a, ow0 a → ow1 a) (hb : ∀ b, H b = none → H0 b = none) (r : FN G ow1 H H1 d v) : FN G ow0 H0 H1 d v := by
  cases r with
  | of n r => exact .of n (r.mono h)
  | new hp e r => exact .new (hb _ hp) e (r.mono fun a z => z.elim (fun z => .inl (h a z)) .inr)
theorem t_ret {e : E} {m : Mo} (hm : if fr = true then m = .N else m ≠ .L) (D : Ends) (σ : L2.St) (H : Hp) (h : TS1 G cl fu fr dkf W (.ret e) D σ H) : tRet (TEp (pst m) G cl W e) D σ H := by
  obtain ⟨H0, ow0, ow, ka, st, E, h⟩ := h
  simp only [evS] at h
  refine ⟨H0, ow0, ow, ka, st, E.s, ?_⟩
  cases ev : evE cl st.ρ e st.k with
  | no =>
    rw [ev] at h
    exact False.elim h
  | err x =>
    rw [ev] at h
    exact h ka E.ko fun _ => rfl
  | ok r =>
    obtain ⟨d, k⟩ := r
    rw [ev] at h
    intro H1 v x1 r1
    refine h ka v H1 E.ko (fun _ => rfl) ⟨E.kp x1, E.dk0 x1, ?_⟩
    unfold PR
    cases fr with
    | true =>
      rw [if_pos rfl] at hm ⊢
      subst hm
      exact FN.up E.s.sub (E.back x1) r1
    | false =>
      rw [if_neg (by decide)] at hm ⊢
      exact (PL_of hm E.s.own r1).mono E.s.sub
theorem t_retB {i : Nat} (D : Ends) (σ : L2.St) (H : Hp) (h : TS1 G cl fu fr dkf W (.retB i) D σ H) : tRet (tVar i) D σ H := by
  obtain ⟨H0, ow0, ow, ka, st, E, h⟩ := h
  simp only [evS] at h
  cases e0 : st.ρ[i]? with
  | none =>
    rw [e0] at h
    exact False.elim h
  | some s =>
    rw [e0] at h
    cases s with
    | b xs =>
      obtain ⟨a, vs, e1, h1, h2, h3, h4, r⟩ := E.s.own_at e0
      have x := XS.refl E.s.dk
      refine ⟨.ref a, e1, h ka _ H E.ko (fun _ => rfl) ⟨E.kp x, E.dk0 x, ?_⟩⟩
      unfold PR
      cases fr with
      | true =>
        rw [if_pos rfl]
        exact .new h3 h4 (r.mono fun b z => z.elim (E.s.sub b) fun z => z ▸ h1)
      | false =>
        rw [if_neg (by decide)]
        exact .lst h4 (fun z => by
          obtain ⟨us, g⟩ := E.o0 a z
          rw [h3] at g
          cases g) (r.mono E.s.sub)
    | _ => exact False.elim h
theorem t_retN (D : Ends) (σ : L2.St) (H : Hp) (h : TS1 G cl fu fr dkf W .retN D σ H) : tRetN D σ H := by
  obtain ⟨H0, ow0, ow, ka, st, E, h⟩ := h
  simp only [evS] at h
  have x := XS.refl E.s.dk
  refine h ka _ H E.ko (fun _ => rfl) ⟨E.kp x, E.dk0 x, ?_⟩
  unfold PR
  cases fr with
  | true => exact .of (fun _ z => by cases z) .non
  | false => exact .non
/-! ### blocks, loops -/
theorem t_nil (D : Ends) (σ : L2.St) (H : Hp) (h : TSp G cl fu fr dkf W [] D σ H) : tNext D σ H := by
  obtain ⟨H0, ow0, ow, ka, st, E, h⟩ := h
  simp only [evB] at h
  exact h ow ka σ H E.s E.ko (fun _ => rfl) (SS.refl _ _)
/-- an outcome in which what follows is asked -/
theorem OutP.seq {o : Out} {f : Stt → Out} {D D' : Ends} (E : EnR G dkf H0 ow0 ow ka st σ H) (h : OutP G fr dkf W H0 ow0 ow ka H D (match o with | .nx s' => f s' | o => o)) (hr : D'.rt = D.rt)
    (hn : ∀ s' ow' ka' σ' H', EnR G dkf H0 ow0 ow' ka' s' σ' H' → OutP G fr dkf W H0 ow0 ow' ka' H' D (f s') → SS ow ow' H H' → (dkf = true → ka' = ka) → o = .nx s' → D'.nx σ' H') : OutP G fr dkf W H0 ow0 ow ka H D' o := by
  cases o with
  | nx s' => exact fun ow' ka' σ' H' S ko e ss => hn s' ow' ka' σ' H' ⟨S, ko, E.o0⟩ (OutP.step h ss e) ss e rfl
  | rt d k =>
    intro ka' v H' ko e r
    rw [hr]
    exact h ka' v H' ko e r
  | er x => exact h
  | no => exact h
theorem t_cons {s : S} {ss : List S} (D : Ends) (σ : L2.St) (H : Hp) (h : TSp G cl fu fr dkf W (s :: ss) D σ H) : tSeq (TS1 G cl fu fr dkf W s) (TSp G cl fu fr dkf W ss) D σ H := by
  obtain ⟨H0, ow0, ow, ka, st, E, h⟩ := h
  simp only [evB] at h
  exact ⟨H0, ow0, ow, ka, st, E, OutP.seq E h rfl fun s' ow' ka' σ' H' E' h' _ _ _ => ⟨H0, ow0, ow', ka', s', E', h'⟩⟩
theorem t_frz {i : Nat} {ss : List S} (D : Ends) (σ : L2.St) (H : Hp) (h : TSp G cl fu fr dkf W (.frz i :: ss) D σ H) : TSp G cl fu fr dkf W ss D σ H := by
  obtain ⟨H0, ow0, ow, ka, st, E, h⟩ := h
  simp only [evB, evS] at h
  cases e0 : st.ρ[i]? with
  | none =>
    rw [e0] at h
    exact False.elim h
  | some s =>
    rw [e0] at h
    cases s with
    | b xs =>
      obtain ⟨ow', E', s'⟩ := E.thaw e0
      exact ⟨H0, ow0, ow', ka, _, E', OutP.step h s' fun _ => rfl⟩
    | _ => exact False.elim h
theorem t_whl {e : E} {b : List S} (D : Ends) (σ : L2.St) (H : Hp) (h : TS1 G cl fu fr dkf W (.whl e b) D σ H) : tWhile (TCp G cl W (some e)) (TSp G cl fu fr dkf W b) D σ H := by
  obtain ⟨H0, ow0, ow, ka, st, E, h⟩ := h
  simp only [evS] at h
  refine ⟨fun m σ H => ∃ ow ka st, EnR G dkf H0 ow0 ow ka st σ H ∧ OutP G fr dkf W H0 ow0 ow ka H D (whlL (fun s => evC cl s.ρ (some e) s.k) (evB cl fu b) m st), ⟨fu, ow, ka, st, E, h⟩, ?_⟩
  rintro m σ1 H1 ⟨ow1, ka1, st1, E1, h1⟩
  refine ⟨H0, ow0, ow1, ka1, st1, E1.s, ?_⟩
  cases m with
  | zero => exact False.elim h1
  | succ m =>
    unfold whlL at h1
    cases ev : evC cl st1.ρ (some e) st1.k with
    | no =>
      rw [ev] at h1
      exact False.elim h1
    | err x =>
      rw [ev] at h1
      exact h1 ka1 E1.ko fun _ => rfl
    | ok r =>
      obtain ⟨q, k⟩ := r
      rw [ev] at h1
      intro H2 x2
      cases q with
      | true =>
        refine iteT ⟨fun σ' H' => ∃ ow ka st, EnR G dkf H0 ow0 ow ka st σ' H' ∧ OutP G fr dkf W H0 ow0 ow ka H' D (whlL (fun s => evC cl s.ρ (some e) s.k) (evB cl fu b) m st), fun σ' H' w => ⟨m, by omega, w⟩, ?_⟩
        exact ⟨H0, ow0, ow1, ka1, _, E1.step x2, OutP.seq (E1.step x2) (OutP.step h1 (x2.ss E1.s.kow) fun _ => rfl) rfl fun s' ow' ka' σ' H' E' h' _ _ _ => ⟨ow', ka', s', E', h'⟩⟩
      | false => exact iteF (OutP.step h1 (x2.ss E1.s.kow) (fun _ => rfl) ow1 ka1 σ1 H2 (E1.s.step x2) E1.ko (fun _ => rfl) (SS.refl _ _))
mutual
theorem no_err : ∀ {tg : Tg} {d : Rf.D} {ρ : List Sl} {x : Ex}, bindT tg d ρ = .err x → False
  | .n i, d, ρ, x, h => by
    have h : (if i < ρ.length then R.ok (ρ.set i (.p d)) else .no) = .err x := h
    by_cases q : i < ρ.length
    · rw [if_pos q] at h
      cases h
    · rw [if_neg q] at h
      cases h
  | .t ts, .tup xs, ρ, x, h => no_errs (ts := ts) (ds := xs) (ρ := ρ) (x := x) h
  | .t ts, .non, ρ, x, h => by cases h
  | .t ts, .bl _, ρ, x, h => by cases h
  | .t ts, .int _, ρ, x, h => by cases h
  | .t ts, .str _, ρ, x, h => by cases h
  | .t ts, .lst _, ρ, x, h => by cases h
  | .t ts, .fn _, ρ, x, h => by cases h
  | .t ts, .scr _, ρ, x, h => by cases h
theorem no_errs : ∀ {ts : List Tg} {ds : List Rf.D} {ρ : List Sl} {x : Ex}, bindTs ts ds ρ = .err x → False
  | [], [], ρ, x, h => by cases h
  | [], _ :: _, ρ, x, h => by cases h
  | _ :: _, [], ρ, x, h => by cases h
  | t :: ts, d :: ds, ρ, x, h => by
    have h : ((bindT t d ρ).bind fun ρ' => bindTs ts ds ρ') = .err x := h
    cases q : bindT t d ρ with
    | ok ρ1 =>
      rw [q] at h
      exact no_errs (ts := ts) (ds := ds) (ρ := ρ1) (x := x) h
    | err y => exact no_err q
    | no =>
      rw [q] at h
      cases h
end
theorem t_for {tg : Tg} {it : It} {b : List S} (D : Ends) (σ : L2.St) (H : Hp) (h : TS1 G cl fu fr dkf W (.for_ tg it b) D σ H) : tFor (TIp true G cl W it) (TGp G tg) (TSp G cl fu fr dkf W b) D σ H := by
  obtain ⟨H0, ow0, ow, ka, st, E, h⟩ := h
  simp only [evS] at h
  refine ⟨H0, ow0, ow, ka, st, E.s, ?_⟩
  cases ev : evI cl st.ρ it st.k with
  | no =>
    rw [ev] at h
    exact False.elim h
  | err x =>
    rw [ev] at h
    exact h ka E.ko fun _ => rfl
  | ok r =>
    obtain ⟨l, k⟩ := r
    rw [ev] at h
    intro H1 J x1 hJ
    have own1 := (x1.own E.s.own).w
    refine ⟨fun i m σ' H' => m = l.length - i ∧ i ≤ l.length ∧ ∃ ow' ka' st', EnR G dkf H0 ow0 ow' ka' st' σ' H' ∧ SS ow ow' H1 H' ∧ OutP G fr dkf W H0 ow0 ow' ka' H' D (forL (evB cl fu b) (bindT tg) (l.drop i) st'),
      ⟨l.length, rfl, Nat.zero_le _, ow, ka, _, E.step x1, SS.refl _ _, OutP.step h (x1.ss E.s.kow) fun _ => rfl⟩, ?_⟩
    rintro i m σ' H' ⟨rfl, hi, ow', ka', st', E', ss, h'⟩
    have hP : Pw G H1 ow (lkOf true ow ka) ow' H' := ⟨E'.s.own.w, fun ds vs r => r.ss own1 ss, fun b o e n => (ss b o e (by
      unfold lkOf at n
      rw [if_pos rfl] at n
      exact n)).1⟩
    obtain ⟨j1, j2⟩ := hJ ow' H' hP
    by_cases hlt : i < l.length
    · have e1 : l[i]? = some l[i] := List.getElem?_eq_getElem hlt
      obtain ⟨go, yl⟩ := j1 i _ e1
      rw [List.drop_eq_getElem_cons hlt] at h'
      have h' : OutP G fr dkf W H0 ow0 ow' ka' H' D (match bindT tg l[i] st'.ρ with
        | .ok ρ' => (match evB cl fu b ⟨ρ', st'.k⟩ with
          | .nx s' => forL (evB cl fu b) (bindT tg) (l.drop (i + 1)) s'
          | o => o)
        | .err x => .er x
        | .no => .no) := h'
      refine .inr ⟨go, fun σ' H' => i + 1 ≤ l.length ∧ ∃ ow' ka' st', EnR G dkf H0 ow0 ow' ka' st' σ' H' ∧ SS ow ow' H1 H' ∧ OutP G fr dkf W H0 ow0 ow' ka' H' D (forL (evB cl fu b) (bindT tg) (l.drop (i + 1)) st'), fun σ' H' w => ⟨l.length - (i + 1), by omega, rfl, w.1, w.2⟩, fun x H2 y => ?_⟩
      obtain ⟨sm, rx⟩ := yl x H2 y
      have x2 : XS G ow' ka' st'.k H' H2 := (XS.refl E'.s.dk).same sm E'.s.own
      have E2 := E'.step x2
      cases hb : bindT tg l[i] st'.ρ with
      | err x =>
        exact False.elim (no_err hb)
      | no =>
        rw [hb] at h'
        exact False.elim h'
      | ok ρ' =>
        rw [hb] at h'
        refine ⟨H0, ow0, ow', ka', _, l[i], ρ', E2.s, rx, hb, fun σ3 S3 _ _ => ?_⟩
        have E3 : EnR G dkf H0 ow0 ow' ka' ⟨ρ', st'.k⟩ σ3 H2 := ⟨S3, E'.ko, E'.o0⟩
        have s2 := x2.ss E'.s.kow
        exact ⟨H0, ow0, ow', ka', _, E3, OutP.seq E3 (OutP.step h' s2 fun _ => rfl) rfl fun s4 ow4 ka4 σ4 H4 E4 h4 ss4 _ _ => ⟨hlt, ow4, ka4, s4, E4, ss.trans (s2.trans ss4), h4⟩⟩
    · have e : i = l.length := by omega
      refine .inl ⟨j2 i (by show l.length ≤ i; omega), ?_⟩
      rw [e, List.drop_length] at h'
      exact h' ow' ka' σ' H' E'.s E'.ko (fun _ => rfl) (SS.refl _ _)
end
end Rf
set_option Elab.async false
set_option linter.all false
set_option maxRecDepth 100000
set_option maxHeartbeats 4000000
/-! Rf15: the look at statements, and at a def; what it says holds. Own work. -/
namespace Rf
open PySem PySem.Spec PyProof.Rows L2
def swNo (c : Ck) (ts : List Expr) : Expr → Bool
  | .Tuple vs _ _ => decide (swC (fun x => c.sc.names.lookup x) ts vs = some none)
  | _ => true
def lcB (c : Ck) (i : Nat) (x : Str) : Bool := decide (c.N[i]? = some x) && decide (c.sc.names.lookup x = some .local)
def ckP (c : Ck) (is : List Nat) (es : List E) : Stmt → Bool
  | .Assign [.Tuple [.Name x _, .Name y _] _ _] (.Tuple [v1, v2] _ _) _ => (match is with
    | [i, j] => lcB c i x && lcB c j y && decide (i ≠ j) && ckL c es [v1, v2]
    | _ => false)
  | .Assign [.Tuple [.Name x _, .Name y _, .Name z _] _ _] (.Tuple [v1, v2, v3] _ _) _ => (match is with
    | [i, j, l] => lcB c i x && lcB c j y && lcB c l z && decide (i ≠ j ∧ i ≠ l ∧ j ≠ l) && ckL c es [v1, v2, v3]
    | _ => false)
  | _ => false
def swYes (c : Ck) : Stmt → Bool
  | .Assign [.Tuple [.Name x p, .Name y q] _ _] (.Tuple vs _ _) _ => decide (swC (fun x => c.sc.names.lookup x) [.Name x p, .Name y q] vs = some (some [x, y]))
  | .Assign [.Tuple [.Name x p, .Name y q, .Name z r] _ _] (.Tuple vs _ _) _ => decide (swC (fun x => c.sc.names.lookup x) [.Name x p, .Name y q, .Name z r] vs = some (some [x, y, z]))
  | _ => false
def augB : Bin → Operator → Bool
  | .add, .Add => true
  | .sub, .Sub => true
  | _, _ => false
mutual
def ckS (c : Ck) (fr dkf : Bool) : S → Stmt → Bool
  | .set i e, st => setB1 c i e st && decide (clE c.T e ≠ .L)
  | .setB i e, st => setB1 c i e st && decide (clE c.T e = .N)
  | .setD i e, st => !dkf && setB1 c i e st && decide (clE c.T e = .N)
  | .setT tg e, st => (match st with | .Assign [.Tuple ts k p] v _ => ckG c tg (.Tuple ts k p) && ckE c false e v && decide (clE c.T e ≠ .L) && swNo c ts v | _ => false)
  | .par is es, st => ckP c is es st && swYes c st
  | .app i e, st => (match st with
    | .Expr (.Call (.Attribute (.Name y _) m apos) [ea] [] cpos) _ => decide (m = ("append" : Str)) && nmB c i y && nstar ea && ckE c false e ea && decide (clE c.T e ≠ .L) && (apos.endLine == cpos.line)
    | _ => false)
  | .sti i ix e, st => (match st with
    | .Assign [.Subscript (.Name y _) ixx _] v _ => nmB c i y && nslice ixx && ckE c false ix ixx && ckE c false e v && decide (clE c.T e ≠ .L)
    | _ => false)
  | .std i j e, st => (match st with
    | .Assign [.Subscript (.Name y _) (.Constant (.int k) _ _) _] v _ => nmB c i y && decide (k = j) && ckE c false e v && decide (clE c.T e ≠ .L)
    | _ => false)
  | .aug i o e, st => (match st with | .AugAssign (.Name x _) op v _ => nlB c i x && augB o op && ckE c false e v | _ => false)
  | .sta _ _ _ _, _ => false
  | .ex e, st => (match st with | .Expr v _ => ckE c false e v && !isComp v | _ => false)
  | .ite e a b, st => (match st with | .If ec as bs _ => ckE c true e ec && ckB c fr dkf a as && ckB c fr dkf b bs | _ => false)
  | .whl e b, st => (match st with | .While ec bs [] _ => ckE c true e ec && ckB c fr dkf b bs | _ => false)
  | .for_ tg it b, st => (match st with | .For tgx iterx bs [] _ => nset iterx && ckG c tg tgx && ckI c true tgx it iterx && ckB c fr dkf b bs | _ => false)
  | .ret e, st => (match st with | .Return (some v) _ => ckE c false e v && (if fr then decide (clE c.T e = .N) else decide (clE c.T e ≠ .L)) | _ => false)
  | .retB i, st => (match st with | .Return (some (.Name y _)) _ => nmB c i y | _ => false)
  | .retN, st => (match st with | .Return none _ => true | _ => false)
  | .frz _, _ => false
  | .raise_ _ _, _ => false
def ckB (c : Ck) (fr dkf : Bool) : List S → List Stmt → Bool
  | [], sts => (match sts with | [] => true | _ => false)
  | .frz _ :: ss, sts => ckB c fr dkf ss sts
  | s :: ss, sts => (match sts with | st :: sts => ckS c fr dkf s st && ckB c fr dkf ss sts | _ => false)
end
section
variable {c : Ck} {fu n : Nat} {X : Cx} {W : XK}
theorem Ctx2.lc (h : Ctx2 c fu n X W) {i : Nat} {x : Str} (e : lcB c i x = true) : X.N[i]? = some x ∧ X.env.scope.names.lookup x = some .local := by
  unfold lcB at e
  simp only [Bool.and_eq_true, decide_eq_true_eq] at e
  rw [h.hN, h.hsc]
  exact e
theorem sw_none {ts : List Expr} {k : Nat} {p : Pos} {v : Expr} (h : Ctx2 c fu n X W) (e : swNo c ts v = true) : swappedStores [.Tuple ts k p] v X.env = pure none := by
  cases v with
  | Tuple vs k2 p2 =>
    unfold swNo at e
    exact sw_eq h.bk (by rw [h.look]; exact of_decide_eq_true e)
  | _ => rfl
theorem ne_tn {ts : List Expr} {k : Nat} {p : Pos} : ∀ x q, (Expr.Tuple ts k p) ≠ .Name x q := fun _ _ z => by cases z
theorem ne_sn {a b : Expr} {p : Pos} : ∀ x q, (Expr.Subscript a b p) ≠ .Name x q := fun _ _ z => by cases z
theorem sw_sub {a b v : Expr} {p : Pos} {env : Env} : swappedStores [.Subscript a b p] v env = pure none := by cases v <;> rfl
theorem asg_sub {o i : Expr} {pos : Pos} {env : Env} (h : nslice i = true) : ∀ v, assign (.Subscript o i pos) env v = (do
      let ov ← holding [v] (eval o env)
      let iv ← holding [v, ov] (eval i env)
      standAt pos
      holding [v, ov, iv] (setItem ov iv v)
      release [v, ov, iv] []) := by
  intro v
  cases i <;> first | rfl | cases h
abbrev TSx (c : Ck) (fu n : Nat) (fr dkf : Bool) (W : XK) (X : Cx) (ss : List S) : TS := TSp (gx X) (clX c fu n) fu fr dkf W ss
theorem par_ok {fr dkf : Bool} (h : Ctx2 c fu n X W) {is : List Nat} {es : List E} {st : Stmt} (e1 : ckP c is es st = true) (e2 : swYes c st = true) : PS X st (TS1 (gx X) (clX c fu n) fu fr dkf W (.par is es)) := by
  unfold ckP at e1
  split at e1
  · split at e1
    · simp only [Bool.and_eq_true, decide_eq_true_eq] at e1
      obtain ⟨⟨⟨a1, a2⟩, a3⟩, a4⟩ := e1
      obtain ⟨b1, b2⟩ := h.lc a1
      obtain ⟨b3, b4⟩ := h.lc a2
      simp only [swYes, decide_eq_true_eq] at e2
      exact PSi (ps_par h.calm h.nd b1 b3 a3 b2 b4 (ckL_ok es h.toCtx _ a4) (sw_eq h.bk (by rw [h.look]; exact e2)) (sw_other ne_tn)) t_par2
    · cases e1
  · split at e1
    · simp only [Bool.and_eq_true, decide_eq_true_eq] at e1
      obtain ⟨⟨⟨⟨a1, a2⟩, a3⟩, a4⟩, a5⟩ := e1
      obtain ⟨b1, b2⟩ := h.lc a1
      obtain ⟨b3, b4⟩ := h.lc a2
      obtain ⟨b5, b6⟩ := h.lc a3
      simp only [swYes, decide_eq_true_eq] at e2
      exact PSi (ps_par3 h.calm h.nd b1 b3 b5 a4.1 a4.2.1 a4.2.2 b2 b4 b6 (ckL_ok es h.toCtx _ a5) (sw_eq h.bk (by rw [h.look]; exact e2)) (sw_other ne_tn)) t_par3
    · cases e1
  · cases e1
theorem aug_ip {X : Cx} {o : Bin} {op : Operator} (h : augB o op = true) : PIp X op (augV o) := by
  unfold augB at h
  split at h
  · exact ip_add
  · exact ip_sub
  · cases h
theorem ckB_cons {c : Ck} {fr dkf : Bool} {s : S} {ss : List S} {sts : List Stmt} (hf : ∀ i, s ≠ .frz i) (h : ckB c fr dkf (s :: ss) sts = true) : ∃ st sts', sts = st :: sts' ∧ ckS c fr dkf s st = true ∧ ckB c fr dkf ss sts' = true := by
  cases s with
  | frz i => exact absurd rfl (hf i)
  | _ =>
    cases sts with
    | nil => simp [ckB] at h
    | cons st sts' =>
      simp only [ckB, Bool.and_eq_true] at h
      exact ⟨st, sts', rfl, h.1, h.2⟩
mutual
theorem ckS_ok {fr dkf : Bool} : ∀ (s : S) (h : Ctx2 c fu n X W) (st : Stmt), ckS c fr dkf s st = true → PS X st (TS1 (gx X) (clX c fu n) fu fr dkf W s)
  | .set i e, h, st, hb => by
    simp only [ckS, Bool.and_eq_true, decide_eq_true_eq] at hb
    exact PSi (set_ok h hb.1) (t_set hb.2)
  | .setB i e, h, st, hb => by
    simp only [ckS, Bool.and_eq_true, decide_eq_true_eq] at hb
    have q := set_ok h hb.1
    rw [hb.2] at q
    exact PSi q t_setB
  | .setD i e, h, st, hb => by
    simp only [ckS, Bool.and_eq_true, decide_eq_true_eq, Bool.not_eq_true'] at hb
    have q := set_ok h hb.1.2
    rw [hb.2] at q
    exact PSi q (t_setD hb.1.1)
  | .setT tg e, h, st, hb => by
    simp only [ckS] at hb
    split at hb
    · simp only [Bool.and_eq_true, decide_eq_true_eq] at hb
      obtain ⟨⟨⟨e1, e2⟩, e3⟩, e4⟩ := hb
      exact PSi (ps_asg ((ckE_ok e h.toCtx false _ e2).f e3) (ckG_ok tg h.toCtx _ e1) (sw_other ne_tn) (sw_none h e4) rfl) t_setT
    · cases hb
  | .par is es, h, st, hb => by
    simp only [ckS, Bool.and_eq_true] at hb
    exact par_ok h hb.1 hb.2
  | .app i e, h, st, hb => by
    simp only [ckS] at hb
    split at hb
    · simp only [Bool.and_eq_true, decide_eq_true_eq] at hb
      obtain ⟨⟨⟨⟨⟨rfl, e2⟩, e3⟩, e4⟩, e5⟩, e6⟩ := hb
      refine PSi (ps_expr (pe_bm PySem.F.plainAttrs_list PySem.F.slot_list_append PySem.F.type_list_append mt_append (h.toCtx.var e2) (pa_cons ((ckE_ok e h.toCtx false _ e4).f e5) pa_nil (star_of e3)) rfl ?_ e6 (star_of e3) rfl) rfl) t_app
      rw [star_of e3]
      rfl
    · cases hb
  | .sti i ix e, h, st, hb => by
    simp only [ckS] at hb
    split at hb
    · simp only [Bool.and_eq_true, decide_eq_true_eq] at hb
      obtain ⟨⟨⟨⟨e1, e2⟩, e3⟩, e4⟩, e5⟩ := hb
      exact PSi (ps_asg (ckE_ok e h.toCtx false _ e4).pe (pg_sub (h.toCtx.var e1) (ckE_ok ix h.toCtx false _ e3).l set_list (asg_sub e2)) (sw_other ne_sn) sw_sub rfl) (t_sti e5)
    · cases hb
  | .std i j e, h, st, hb => by
    simp only [ckS] at hb
    split at hb
    · simp only [Bool.and_eq_true, decide_eq_true_eq] at hb
      obtain ⟨⟨⟨e1, rfl⟩, e3⟩, e4⟩ := hb
      exact PSi (ps_asg (ckE_ok e h.toCtx false _ e3).pe (pg_sub (h.toCtx.var e1) pe_int set_list (asg_sub rfl)) (sw_other ne_sn) sw_sub rfl) (t_std e4)
    · cases hb
  | .aug i o e, h, st, hb => by
    simp only [ckS] at hb
    split at hb
    · simp only [Bool.and_eq_true] at hb
      obtain ⟨⟨e1, e2⟩, e3⟩ := hb
      obtain ⟨l1, l2, l3⟩ := h.toCtx.loc e1
      exact PSi (ps_aug h.nd l1 l2 (ckE_ok e h.toCtx false _ e3).l (aug_ip e2) l3) t_aug
    · cases hb
  | .sta _ _ _ _, h, st, hb => by
    simp [ckS] at hb
  | .ex e, h, st, hb => by
    simp only [ckS] at hb
    split at hb
    · simp only [Bool.and_eq_true, Bool.not_eq_true'] at hb
      exact PSi (ps_expr (ckE_ok e h.toCtx false _ hb.1).pe (sw_no hb.2)) t_ex
    · cases hb
  | .ite e a b, h, st, hb => by
    simp only [ckS] at hb
    split at hb
    · simp only [Bool.and_eq_true] at hb
      exact PSi (ps_if (ckE_ok e h.toCtx true _ hb.1.1).pt (ckB_ok a h _ hb.1.2) (ckB_ok b h _ hb.2)) t_ite
    · cases hb
  | .whl e b, h, st, hb => by
    simp only [ckS] at hb
    split at hb
    · simp only [Bool.and_eq_true] at hb
      exact PSi (ps_while h.po (sc_testP (ckE_ok e h.toCtx true _ hb.1).pt) (ckB_ok b h _ hb.2)) t_whl
    · cases hb
  | .for_ tg it b, h, st, hb => by
    simp only [ckS] at hb
    split at hb
    · simp only [Bool.and_eq_true] at hb
      obtain ⟨⟨⟨e1, e2⟩, e3⟩, e4⟩ := hb
      exact PSi (ps_for h.po h.calm (ckI_ok it h.toCtx true _ _ e3) (ckG_ok tg h.toCtx _ e2) (ckB_ok b h _ e4) (nset_f e1)) t_for
    · cases hb
  | .ret e, h, st, hb => by
    simp only [ckS] at hb
    split at hb
    · simp only [Bool.and_eq_true] at hb
      refine PSi (ps_ret (ckE_ok e h.toCtx false _ hb.1).pe) (t_ret ?_)
      cases fr with
      | true =>
        rw [if_pos rfl]
        exact of_decide_eq_true (by simpa using hb.2)
      | false =>
        rw [if_neg (by decide)]
        have := hb.2
        rw [if_neg (by decide)] at this
        exact of_decide_eq_true this
    · cases hb
  | .retB i, h, st, hb => by
    simp only [ckS] at hb
    split at hb
    · exact PSi (ps_ret (h.toCtx.var hb)) t_retB
    · cases hb
  | .retN, h, st, hb => by
    simp only [ckS] at hb
    split at hb
    · exact PSi ps_retN t_retN
    · cases hb
  | .frz _, h, st, hb => by
    simp [ckS] at hb
  | .raise_ _ _, h, st, hb => by
    simp [ckS] at hb
theorem ckB_ok {fr dkf : Bool} : ∀ (ss : List S) (h : Ctx2 c fu n X W) (sts : List Stmt), ckB c fr dkf ss sts = true → PSs X sts (TSx c fu n fr dkf W X ss)
  | [], h, sts, hb => by
    cases sts with
    | nil => exact PSsi pss_nil t_nil
    | cons _ _ => simp [ckB] at hb
  | s :: ss, h, sts, hb => by
    by_cases hf : ∃ i, s = .frz i
    · obtain ⟨i, rfl⟩ := hf
      simp only [ckB] at hb
      exact PSsi (ckB_ok ss h sts hb) t_frz
    · obtain ⟨st, sts', rfl, h1, h2⟩ := ckB_cons (fun i e => hf ⟨i, e⟩) hb
      exact PSsi (pss_cons (ckS_ok s h st h1) (ckB_ok ss h sts' h2)) t_cons
end
end

/-! ### a def -/
/-- a def of the text, and the small language's of it -/
structure DefAt (K : PySem.W.Frag) (mg : Str → Option Value) (T : Tab) (free : List Str) (x : Str) (fd : FDef) : Prop where
  ex : ∃ (qual : Str) (params : Arguments) (body : List Stmt) (scope : Scope) (kws : List (Str × V)) (f : Addr) (fdt : FuncData) (ps : List Str),
    FunD K x qual params body scope [] kws f fdt ∧ mg x = some (.ref f) ∧ Binds K fdt ps [] ∧ FnScope fd.N ps scope ∧ ps.length = fd.ar ∧ ckB ⟨fd.N, scope, fun _ => true, T, free⟩ fd.fresh fd.dk fd.body body = true
theorem start_get {N : List Str} {vs : List V} {i : Nat} : ((L2.start N vs)[i]?).join = vs[i]? := by
  unfold L2.start
  by_cases h : i < vs.length
  · rw [List.getElem?_append_left (by rw [List.length_map]; exact h), List.getElem?_map, List.getElem?_eq_getElem h]
    rfl
  · rw [List.getElem?_append_right (by rw [List.length_map]; omega), (List.getElem?_eq_none (by omega) : vs[i]? = none)]
    cases q : (List.replicate (N.length - vs.length) (none : Option V))[i - (vs.map some).length]? with
    | none => rfl
    | some o =>
      have := List.mem_of_getElem? q
      rw [List.mem_replicate] at this
      rw [this.2]
      rfl
/-- the entry -/
theorem enter_ok {G : Wr} {H : Hp} {ow : Addr → Prop} {ka : Option Addr} {k : Dk} {ds : List D} {ws : List V} {fd : FDef} (h1 : ka.isSome = fd.dk) (h2 : FRs G ow H ds ws) (h3 : Own ow H) (h4 : DkR G ow ka k H) (h5 : ∀ a, ka = some a → ow a) (h6 : ds.length = fd.np) (h7 : fd.ar ≤ fd.N.length) :
    EnR G fd.dk H ow ow ka ⟨enter fd ds, k⟩ (L2.start fd.N (kaV ka ++ ws)) H := by
  have la : ((if fd.dk then [Sl.k] else []) ++ ds.map Sl.p).length = fd.ar := by
    rw [List.length_append, List.length_map, h6]
    unfold FDef.ar
    cases fd.dk <;> rfl
  have lv : (kaV ka ++ ws).length = fd.ar := by
    rw [List.length_append, ← h2.length, h6]
    unfold FDef.ar
    rw [← h1]
    cases ka <;> rfl
  have get : ∀ (i : Nat) (s : Sl), (enter fd ds)[i]? = some s → s = .u ∨ ((if fd.dk then [Sl.k] else []) ++ ds.map Sl.p)[i]? = some s := fun i s e => by
    have e' : (((if fd.dk then [Sl.k] else []) ++ ds.map Sl.p) ++ List.replicate (fd.N.length - ((if fd.dk then [Sl.k] else []) ++ ds.map Sl.p).length) Sl.u)[i]? = some s := e
    by_cases hi : i < ((if fd.dk then [Sl.k] else []) ++ ds.map Sl.p).length
    · rw [List.getElem?_append_left hi] at e'
      exact .inr e'
    · rw [List.getElem?_append_right (by omega)] at e'
      have := List.mem_of_getElem? e'
      rw [List.mem_replicate] at this
      exact .inl this.2
  have nob : ∀ (i : Nat) (xs : List D), (enter fd ds)[i]? = some (.b xs) → False := fun i xs e => by
    rcases get i _ e with e | e
    · cases e
    · have := List.mem_of_getElem? e
      rw [List.mem_append] at this
      rcases this with z | z
      · cases fd.dk <;> simp at z
      · simp at z
  refine ⟨⟨?_, fun _ _ e _ => e, fun i s e => ?_, fun i j xs ys a e => (nob i xs e).elim, h4, h5, h3, fun _ z => z⟩, fun e a z => ?_, h3⟩
  · show (L2.start fd.N (kaV ka ++ ws)).length = (((if fd.dk then [Sl.k] else []) ++ ds.map Sl.p) ++ List.replicate (fd.N.length - ((if fd.dk then [Sl.k] else []) ++ ds.map Sl.p).length) Sl.u).length
    unfold L2.start
    simp only [List.length_append, List.length_map, List.length_replicate] at la lv ⊢
    omega
  · rw [start_get]
    rcases get i s e with e | e
    · subst e
      exact True.intro
    · cases ka with
      | none =>
        have hk : fd.dk = false := h1.symm
        rw [hk] at e
        have e' : (ds.map Sl.p)[i]? = some s := e
        rw [List.getElem?_map] at e'
        obtain ⟨d, e1, rfl⟩ := Option.map_eq_some_iff.mp e'
        obtain ⟨v, e2, r⟩ := h2.get e1
        exact ⟨v, e2, r⟩
      | some a =>
        have hk : fd.dk = true := h1.symm
        rw [hk] at e
        cases i with
        | zero =>
          have e' : some Sl.k = some s := e
          cases e'
          exact ⟨a, rfl, rfl⟩
        | succ i =>
          have e' : (ds.map Sl.p)[i]? = some s := e
          rw [List.getElem?_map] at e'
          obtain ⟨d, e1, rfl⟩ := Option.map_eq_some_iff.mp e'
          obtain ⟨v, e2, r⟩ := h2.get e1
          exact ⟨v, e2, r⟩
  · rw [z] at h1
    rw [e] at h1
    cases h1
theorem fin_xs {G : Wr} {H H' : Hp} {ow : Addr → Prop} {ka ka' : Option Addr} {dk : Bool} {k' : Dk} (h1 : ka.isSome = dk) (ko : KO dk H ka') (e : dk = true → ka' = ka) (kp : Kp H ka' H') (hd : DkR G ow ka' k' H') : XS G ow ka k' H H' := by
  cases dk with
  | true =>
    have := e rfl
    subst this
    exact ⟨kp, hd⟩
  | false =>
    cases ka with
    | some a => cases h1
    | none =>
      refine ⟨fun b o q _ => kp b o q fun z => ?_, fun a z => nomatch z⟩
      have := ko rfl b z
      rw [q] at this
      cases this
/-- a def by its body, the others one step less deep -/
theorem fn_one {P : Program} {w : World} {K : PySem.W.Frag} {mg : Str → Option Value} {base : Heap} {T : Tab} {free : List Str} {fu n : Nat} {x x0 : Str} {fd : FDef} {qual : Str} {params : Arguments} {body : List Stmt} {scope : Scope} {kws : List (Str × V)} {f : Addr} {fdt : FuncData} {ps : List Str}
    (ih : ∀ x fd, T x = some (.fn fd) → FnAt P w K mg base T fu n x fd) (hc : ∀ x d, T x = some (.con d) → ∃ u v, mg x = some u ∧ RelV v u ∧ ∀ ow H, FR ⟨K, mg⟩ ow H d v) (hf : ∀ x ∈ free, mg x = none) (h : T x = some (.fn fd))
    (F : FunD K x0 qual params body scope [] kws f fdt) (S : FnScope fd.N ps scope) (hl : ps.length = fd.ar) (ck : ckB ⟨fd.N, scope, fun _ => true, T, free⟩ fd.fresh fd.dk fd.body body = true) : FnOk P w K mg base (L2.CX P w) (n + 1) f fdt ps (spF ⟨K, mg⟩ T fu (n + 1) x fd) := by
  refine F.ok S (fun vs H Q E q => (spF_len q).trans hl.symm) fun cdv A outer s H vs Q E hr q => ?_
  refine ⟨_, ckB_ok (n := n) (W := E) fd.body ⟨⟨rfl, S.nd, rfl, rfl, rfl, ih, hc, hf, hr, passes_call (takes_of rfl rfl rfl rfl) fun _ _ _ _ z => z⟩, S.kind, passes_of rfl⟩ body ck, ?_⟩
  obtain ⟨ow, ka, k, ds, ws, rfl, h1, h2, h3, h4, h5, h6, q⟩ := q
  have hN : fd.ar ≤ fd.N.length := by
    rw [← hl]
    have := congrArg List.length S.pre
    rw [List.length_take] at this
    omega
  have E0 := enter_ok h1 h2 h3 h4 h5 h6 hN
  refine ⟨H, ow, ow, ka, _, E0, ?_⟩
  unfold callN at q
  rw [h] at q
  dsimp only at q
  rw [if_pos h6] at q
  show OutP ⟨K, mg⟩ fd.fresh fd.dk E H ow ow ka H _ (evB (clN T fu n) fu fd.body ⟨enter fd ds, k⟩)
  have q : Rs (match evB (clN T fu n) fu fd.body ⟨enter fd ds, k⟩ with
        | .nx s => R.ok (D.non, s.k)
        | .rt d k => .ok (d, k)
        | .er x => .err x
        | .no => .no) _ _ := q
  revert q
  cases evB (clN T fu n) fu fd.body ⟨enter fd ds, k⟩ with
  | nx st =>
    intro q ow' ka' σ' H' S' ko e ss
    refine q H' .non (fin_xs h1 ko e S'.keep fun a z => ?_) ?_
    · obtain ⟨us, g1, g2⟩ := S'.dk a z
      exact ⟨us, g1, g2.mono S'.sub⟩
    · unfold PR
      cases fd.fresh with
      | true => exact .of (fun _ z => by cases z) .non
      | false => exact .non
  | rt d k' =>
    intro q ka' v H' ko e r
    exact q H' v (fin_xs h1 ko e r.kp r.dk) r.val
  | er x =>
    intro q ka' ko e c dd H' ex kp
    refine q c dd H' ex fun b o z nk => kp b o z fun y => ?_
    cases hk : fd.dk with
    | true => exact nk ((e hk).symm ▸ y)
    | false =>
      have := ko hk b y
      rw [z] at this
      cases this
  | no => exact fun q => q
theorem fn_all {P : Program} {w : World} {K : PySem.W.Frag} {mg : Str → Option Value} {base : Heap} {T : Tab} {free : List Str} (fu : Nat) (hd : ∀ x fd, T x = some (.fn fd) → DefAt K mg T free x fd)
    (hc : ∀ x d, T x = some (.con d) → ∃ u v, mg x = some u ∧ RelV v u ∧ ∀ ow H, FR ⟨K, mg⟩ ow H d v) (hf : ∀ x ∈ free, mg x = none) : ∀ (n : Nat) (x : Str) (fd : FDef), T x = some (.fn fd) → FnAt P w K mg base T fu n x fd
  | 0, x, fd, h => by
    obtain ⟨qual, params, body, scope, kws, f, fdt, ps, F, hm, hb, S, hl, _⟩ := (hd x fd h).ex
    refine ⟨f, fdt, ps, hm, F.kp, hb, ⟨fun vs H Q E q => (spF_len q).trans hl.symm, fun A outer s H args us vs Q E _ _ _ _ q => ?_⟩⟩
    obtain ⟨ow, ka, k, ds, ws, _, _, _, _, _, _, _, q⟩ := q
    exact False.elim q
  | n + 1, x, fd, h => by
    obtain ⟨qual, params, body, scope, kws, f, fdt, ps, F, hm, hb, S, hl, ck⟩ := (hd x fd h).ex
    exact ⟨f, fdt, ps, hm, F.kp, hb, fn_one (fn_all fu hd hc hf n) hc hf h F S hl ck⟩
theorem pr_bl {f : Bool} {G : Wr} {ow : Addr → Prop} {H H' : Hp} {b : Bool} {v : V} (h : PR f G ow H H' (.bl b) v) : v = .bl b := by
  unfold PR at h
  cases f with
  | true =>
    cases h with
    | of _ r =>
      cases r
      rfl
  | false =>
    cases h
    rfl
end Rf
set_option Elab.async false
set_option linter.all false
set_option maxRecDepth 100000
set_option maxHeartbeats 4000000
/-! Rf16: what the small language computes, in plain Lean: rules for rewriting. Own work. -/
namespace Rf
open PySem
def fin : Out → R (D × Dk)
  | .nx s => .ok (.non, s.k)
  | .rt d k => .ok (d, k)
  | .er x => .err x
  | .no => .no
theorem call_eq {T : Tab} {fu n : Nat} {x : Str} {fd : FDef} {k : Dk} {args : List D} (h : T x = some (.fn fd)) (hl : args.length = fd.np) : callN T fu (n + 1) x k args = fin (evB (clN T fu n) fu fd.body ⟨enter fd args, k⟩) := by
  unfold callN
  rw [h]
  dsimp only
  rw [if_pos hl]
  cases evB (clN T fu n) fu fd.body ⟨enter fd args, k⟩ <;> rfl
@[simp] theorem fin_rt (d : D) (k : Dk) : fin (.rt d k) = .ok (d, k) := rfl
@[simp] theorem fin_nx (s : Stt) : fin (.nx s) = .ok (.non, s.k) := rfl
@[simp] theorem outR_ok (ρ : List Sl) (k : Dk) : outR (.ok (ρ, k)) = .nx ⟨ρ, k⟩ := rfl
/-- a result that is there, with this -/
def W {α : Type} (r : R (α × Dk)) (P : α → Dk → Prop) : Prop := ∃ a k, r = .ok (a, k) ∧ P a k
@[simp] theorem W_ok {α : Type} {a : α} {k : Dk} {P : α → Dk → Prop} : W (R.ok (a, k)) P ↔ P a k := ⟨fun ⟨_, _, e, p⟩ => by cases e; exact p, fun p => ⟨a, k, rfl, p⟩⟩
theorem W_bind {α β : Type} {r : R (α × Dk)} {f : α × Dk → R (β × Dk)} {P : β → Dk → Prop} : W (r.bind f) P ↔ W r fun a k => W (f (a, k)) P := by
  constructor
  · rintro ⟨b, k, e, p⟩
    cases r with
    | ok a => exact ⟨a.1, a.2, rfl, b, k, e, p⟩
    | err x => cases e
    | no => cases e
  · rintro ⟨a, k, rfl, b, k2, e, p⟩
    exact ⟨b, k2, e, p⟩
theorem W.mono {α : Type} {r : R (α × Dk)} {P Q : α → Dk → Prop} (h : W r P) (f : ∀ a k, P a k → Q a k) : W r Q := by
  obtain ⟨a, k, e, p⟩ := h
  exact ⟨a, k, e, f a k p⟩
/-- an outcome: it goes on, or it hands back -/
def WO (o : Out) (N : Stt → Prop) (P : D → Dk → Prop) : Prop := match o with
  | .nx s => N s
  | .rt d k => P d k
  | _ => False
@[simp] theorem WO_nx {s : Stt} {N : Stt → Prop} {P : D → Dk → Prop} : WO (.nx s) N P ↔ N s := Iff.rfl
@[simp] theorem WO_rt {d : D} {k : Dk} {N : Stt → Prop} {P : D → Dk → Prop} : WO (.rt d k) N P ↔ P d k := Iff.rfl
theorem W_fin {o : Out} {P : D → Dk → Prop} : W (fin o) P ↔ WO o (fun s => P .non s.k) P := by
  cases o with
  | nx s => exact W_ok
  | rt d k => exact W_ok
  | er x => exact ⟨fun ⟨_, _, e, _⟩ => (by cases e), fun z => False.elim z⟩
  | no => exact ⟨fun ⟨_, _, e, _⟩ => (by cases e), fun z => False.elim z⟩
theorem WO_outR {r : R (List Sl × Dk)} {N : Stt → Prop} {P : D → Dk → Prop} : WO (outR r) N P ↔ W r fun ρ k => N ⟨ρ, k⟩ := by
  cases r with
  | ok a => exact (show N ⟨a.1, a.2⟩ ↔ _ from (W_ok (P := fun ρ k => N ⟨ρ, k⟩)).symm)
  | err x => exact ⟨fun z => False.elim z, fun ⟨_, _, e, _⟩ => (by cases e)⟩
  | no => exact ⟨fun z => False.elim z, fun ⟨_, _, e, _⟩ => (by cases e)⟩
theorem WO.mono {o : Out} {N N' : Stt → Prop} {P P' : D → Dk → Prop} (h : WO o N P) (f : ∀ s, N s → N' s) (g : ∀ d k, P d k → P' d k) : WO o N' P' := by
  cases o with
  | nx s => exact f s h
  | rt d k => exact g d k h
  | er x => exact h
  | no => exact h
theorem WO_cons {cl : CL} {fu : Nat} {x : S} {xs : List S} {s : Stt} {N : Stt → Prop} {P : D → Dk → Prop} : WO (evB cl fu (x :: xs) s) N P ↔ WO (evS cl fu x s) (fun s' => WO (evB cl fu xs s') N P) P := by
  simp only [evB]
  cases evS cl fu x s <;> exact Iff.rfl
@[simp] theorem WO_nil {cl : CL} {fu : Nat} {s : Stt} {N : Stt → Prop} {P : D → Dk → Prop} : WO (evB cl fu [] s) N P ↔ N s := by simp only [evB]; exact Iff.rfl
/-- a comprehension whose element changes no deck -/
theorem compL_pure {f : D → Dk → R (Option D × Dk)} {k : Dk} (c : D → Bool) (g : D → D) : ∀ {xs : List D}, (∀ x ∈ xs, f x k = .ok (if c x then some (g x) else none, k)) → compL f xs k = .ok ((xs.filter c).map g, k)
  | [], _ => rfl
  | x :: xs, h => by
    have h1 := h x (by simp)
    have h2 := compL_pure c g (xs := xs) fun y hy => h y (by simp [hy])
    show ((f x k).bind fun r => (compL f xs r.2).bind fun q => .ok (consO r.1 q.1, q.2)) = _
    rw [h1]
    show ((compL f xs k).bind fun q => .ok (consO (if c x then some (g x) else none) q.1, q.2)) = _
    rw [h2]
    by_cases e : c x = true
    · simp [e, consO]
    · have e' : c x = false := by simpa using e
      simp [e', consO]
theorem compL_map {f : D → Dk → R (Option D × Dk)} {k : Dk} (g : D → D) {xs : List D} (h : ∀ x ∈ xs, f x k = .ok (some (g x), k)) : compL f xs k = .ok (xs.map g, k) := by
  have := compL_pure (fun _ => true) g (xs := xs) (k := k) (f := f) (by simpa using h)
  rw [List.filter_eq_self.mpr (fun _ _ => rfl)] at this
  exact this
/-- one that changes the deck: a bound that grows by c -/
theorem compL_W {f : D → Dk → R (Option D × Dk)} {I : Nat → Dk → Prop} {P : D → Prop} {c : Nat} : ∀ {xs : List D} {B : Nat} {k : Dk}, (∀ x ∈ xs, ∀ B' k, B' + c ≤ B + c * xs.length → I B' k → W (f x k) fun o k' => ∃ d, o = some d ∧ P d ∧ I (B' + c) k') → I B k →
    W (compL f xs k) fun ds k' => ds.length = xs.length ∧ (∀ d ∈ ds, P d) ∧ I (B + c * xs.length) k'
  | [], B, k, _, hk => ⟨[], k, rfl, rfl, by simp, by simpa using hk⟩
  | x :: xs, B, k, h, hk => by
    obtain ⟨o, k1, e1, d, rfl, p1, i1⟩ := h x (by simp) B k (by simp [Nat.mul_add]) hk
    obtain ⟨ds, k2, e2, l2, p2, i2⟩ := compL_W (xs := xs) (B := B + c) (k := k1) (f := f) (I := I) (P := P) (c := c) (fun y hy B' k' hB => h y (by simp [hy]) B' k' (by
      simp only [List.length_cons, Nat.mul_add, Nat.mul_one] at hB ⊢
      omega)) i1
    refine ⟨d :: ds, k2, ?_, by simp [l2], by simpa using ⟨p1, p2⟩, by simpa [Nat.mul_add, Nat.add_assoc, Nat.add_comm c] using i2⟩
    show ((f x k).bind fun r => (compL f xs r.2).bind fun q => .ok (consO r.1 q.1, q.2)) = _
    rw [e1]
    show ((compL f xs k1).bind fun q => .ok (consO (some d) q.1, q.2)) = _
    rw [e2]
    rfl
/-- an item of a comprehension -/
def itF (cl : CL) (ρ : List Sl) (tg : Tg) (c : Option E) (elt : E) (own : List (Str × Nat)) (x : D) (k : Dk) : R (Option D × Dk) :=
  noErr ((bindT tg x (wipeS ρ own)).bind fun ρ' => (evC cl ρ' c k).bind fun t => match t.1 with
        | true => (evE cl ρ' elt t.2).bind fun y => .ok (some y.1, y.2)
        | false => .ok (none, t.2))
theorem ev_comp {cl : CL} {ρ : List Sl} {tg : Tg} {it : It} {c : Option E} {elt : E} {own : List (Str × Nat)} {k : Dk} : evE cl ρ (.comp tg it c elt own) k = (evI cl ρ it k).bind fun r => (compL (itF cl ρ tg c elt own) r.1 r.2).bind fun q => if q.1.length ≤ SZ then .ok (.lst q.1, q.2) else .no := by
  simp only [evE]
  rfl
/-- a comprehension that changes no deck: a filter, a map -/
theorem comp_pure {cl : CL} {ρ : List Sl} {tg : Tg} {it : It} {c : Option E} {elt : E} {own : List (Str × Nat)} {k k1 : Dk} {l : List D} (p : D → Bool) (g : D → D) (hI : evI cl ρ it k = .ok (l, k1)) (hs : l.length ≤ SZ)
    (h : ∀ x ∈ l, itF cl ρ tg c elt own x k1 = .ok (if p x then some (g x) else none, k1)) : evE cl ρ (.comp tg it c elt own) k = .ok (.lst ((l.filter p).map g), k1) := by
  rw [ev_comp, hI]
  show ((compL (itF cl ρ tg c elt own) l k1).bind fun q => if q.1.length ≤ SZ then R.ok (D.lst q.1, q.2) else .no) = _
  rw [compL_pure p g h]
  show (if ((l.filter p).map g).length ≤ SZ then R.ok (D.lst ((l.filter p).map g), k1) else .no) = _
  rw [if_pos]
  rw [List.length_map]
  exact Nat.le_trans (List.length_filter_le _ _) hs
theorem comp_map {cl : CL} {ρ : List Sl} {tg : Tg} {it : It} {c : Option E} {elt : E} {own : List (Str × Nat)} {k k1 : Dk} {l : List D} (g : D → D) (hI : evI cl ρ it k = .ok (l, k1)) (hs : l.length ≤ SZ)
    (h : ∀ x ∈ l, itF cl ρ tg c elt own x k1 = .ok (some (g x), k1)) : evE cl ρ (.comp tg it c elt own) k = .ok (.lst (l.map g), k1) := by
  have := comp_pure (fun _ => true) g hI hs (by simpa using h)
  rw [List.filter_eq_self.mpr (fun _ _ => rfl)] at this
  exact this
/-- one that does -/
theorem comp_W {cl : CL} {ρ : List Sl} {tg : Tg} {it : It} {c : Option E} {elt : E} {own : List (Str × Nat)} {k k1 : Dk} {l : List D} {I : Nat → Dk → Prop} {P : D → Prop} (q B : Nat) (hI : evI cl ρ it k = .ok (l, k1)) (hs : l.length ≤ SZ) (hk : I B k1)
    (h : ∀ x ∈ l, ∀ B' k, B' + q ≤ B + q * l.length → I B' k → W (itF cl ρ tg c elt own x k) fun o k' => ∃ d, o = some d ∧ P d ∧ I (B' + q) k') :
    W (evE cl ρ (.comp tg it c elt own) k) fun d k' => ∃ ds, d = .lst ds ∧ ds.length = l.length ∧ (∀ d ∈ ds, P d) ∧ I (B + q * l.length) k' := by
  rw [ev_comp, hI]
  show W ((compL (itF cl ρ tg c elt own) l k1).bind fun q => if q.1.length ≤ SZ then R.ok (D.lst q.1, q.2) else .no) _
  rw [W_bind]
  refine (compL_W (c := q) (B := B) h hk).mono fun ds k' hh => ?_
  dsimp only
  rw [if_pos (by rw [hh.1]; exact hs), W_ok]
  exact ⟨ds, rfl, hh⟩
/-- a loop, by what holds ahead of each turn -/
theorem forL_inv {body : Stt → Out} {bnd : D → List Sl → R (List Sl)} {P : D → Dk → Prop} (I : Nat → Stt → Prop) : ∀ (xs : List D) (i : Nat) (s : Stt), (∀ j (x : D), xs[j]? = some x → ∀ s, I (i + j) s → ∃ ρ, bnd x s.ρ = .ok ρ ∧ WO (body ⟨ρ, s.k⟩) (I (i + j + 1)) P) → I i s → WO (forL body bnd xs s) (I (i + xs.length)) P
  | [], i, s, _, h => h
  | x :: xs, i, s, hb, h => by
    obtain ⟨ρ, e, w⟩ := hb 0 x rfl s h
    unfold forL
    rw [e]
    dsimp only
    cases q : body ⟨ρ, s.k⟩ with
    | nx s' =>
      rw [q] at w
      have := forL_inv I xs (i + 1) s' (fun j y hy s hs => by
        have e : i + 1 + j = i + (j + 1) := by omega
        rw [e] at hs ⊢
        exact hb (j + 1) y (by simpa using hy) s hs) w
      have e : i + 1 + xs.length = i + (x :: xs).length := by simp; omega
      rw [e] at this
      exact this
    | rt d k =>
      rw [q] at w
      exact w
    | er x =>
      rw [q] at w
      exact w
    | no =>
      rw [q] at w
      exact w
end Rf
set_option Elab.async false
set_option linter.all false
set_option maxRecDepth 100000
set_option maxHeartbeats 4000000
/-! Rf17: rules for rewriting, by constructors. Own work. -/
namespace Rf
open PySem
section
variable {cl : CL} {ρ : List Sl} {k : Dk} {fu : Nat}
@[simp] theorem ev_var {i : Nat} : evE cl ρ (.var i) k = (match ρ[i]? with | some (.p d) => .ok (d, k) | _ => .no) := by simp only [evE] <;> rfl
@[simp] theorem ev_bvar {i : Nat} : evE cl ρ (.bvar i) k = (match ρ[i]? with | some (.b xs) => .ok (.lst xs, k) | _ => .no) := by simp only [evE] <;> rfl
@[simp] theorem ev_glob {x : Str} : evE cl ρ (.glob x) k = (match cl.glob x with | some d => .ok (d, k) | none => .no) := by simp only [evE] <;> rfl
@[simp] theorem ev_lit {d : D} : evE cl ρ (.lit d) k = .ok (d, k) := by simp only [evE] <;> rfl
@[simp] theorem ev_tup {es : List E} : evE cl ρ (.tup es) k = (evL cl ρ es k).bind fun r => if r.1.length ≤ SZ then .ok (.tup r.1, r.2) else .no := by simp only [evE] <;> rfl
@[simp] theorem ev_lst {es : List E} : evE cl ρ (.lst es) k = (evL cl ρ es k).bind fun r => if r.1.length ≤ SZ then .ok (.lst r.1, r.2) else .no := by simp only [evE] <;> rfl
@[simp] theorem ev_bin {o : Bin} {a b : E} : evE cl ρ (.bin o a b) k = (evE cl ρ a k).bind fun x => (evE cl ρ b x.2).bind fun y => (noErr (binD o x.1 y.1)).bind fun d => .ok (d, y.2) := by simp only [evE] <;> rfl
@[simp] theorem ev_cmp {o : Cmp} {a b : E} : evE cl ρ (.cmp o a b) k = (evE cl ρ a k).bind fun x => (evE cl ρ b x.2).bind fun y => (noErr (cmpD o x.1 y.1)).bind fun d => .ok (d, y.2) := by simp only [evE] <;> rfl
/-- a test's value, used -/
def onB (d : D) (t f : R (D × Dk)) : R (D × Dk) := match d with
  | .bl true => t
  | .bl false => f
  | _ => .no
@[simp] theorem onB_t {t f : R (D × Dk)} : onB (.bl true) t f = t := rfl
@[simp] theorem onB_f {t f : R (D × Dk)} : onB (.bl false) t f = f := rfl
theorem onB_b {b : Bool} {t f : R (D × Dk)} : onB (.bl b) t f = if b = true then t else f := by cases b <;> rfl
@[simp] theorem ev_chn {o o2 : Cmp} {a b c : E} : evE cl ρ (.chn o o2 a b c) k = (evE cl ρ a k).bind fun x => (evE cl ρ b x.2).bind fun y => (noErr (cmpD o x.1 y.1)).bind fun d => onB d ((evE cl ρ c y.2).bind fun z => (noErr (cmpD o2 y.1 z.1)).bind fun d => .ok (d, z.2)) (.ok (.bl false, y.2)) := by simp only [evE]; rfl
@[simp] theorem ev_isN {a : E} : evE cl ρ (.isN a) k = (evE cl ρ a k).bind fun x => .ok (.bl (isNon x.1), x.2) := by simp only [evE] <;> rfl
@[simp] theorem ev_notN {a : E} : evE cl ρ (.notN a) k = (evE cl ρ a k).bind fun x => .ok (.bl (!isNon x.1), x.2) := by simp only [evE] <;> rfl
@[simp] theorem ev_neg {a : E} : evE cl ρ (.neg a) k = (evE cl ρ a k).bind fun x => match x.1 with | .int i => .ok (.int (-i), x.2) | _ => .no := by simp only [evE] <;> rfl
@[simp] theorem ev_not {a : E} : evE cl ρ (.not a) k = (evE cl ρ a k).bind fun x => onB x.1 (.ok (.bl false, x.2)) (.ok (.bl true, x.2)) := by
  simp only [evE]
  refine congrArg _ (funext fun x => ?_)
  obtain ⟨d, k⟩ := x
  cases d with
  | bl b => cases b <;> rfl
  | _ => rfl
@[simp] theorem ev_and {a b : E} : evE cl ρ (.and a b) k = (evE cl ρ a k).bind fun x => onB x.1 (evE cl ρ b x.2) (.ok (.bl false, x.2)) := by
  simp only [evE]
  refine congrArg _ (funext fun x => ?_)
  obtain ⟨d, k⟩ := x
  cases d with
  | bl b => cases b <;> rfl
  | _ => rfl
@[simp] theorem ev_or {a b : E} : evE cl ρ (.or a b) k = (evE cl ρ a k).bind fun x => onB x.1 (.ok (.bl true, x.2)) (evE cl ρ b x.2) := by
  simp only [evE]
  refine congrArg _ (funext fun x => ?_)
  obtain ⟨d, k⟩ := x
  cases d with
  | bl b => cases b <;> rfl
  | _ => rfl
@[simp] theorem ev_ite {c a b : E} : evE cl ρ (.ite c a b) k = (evE cl ρ c k).bind fun x => onB x.1 (evE cl ρ a x.2) (evE cl ρ b x.2) := by simp only [evE]; rfl
@[simp] theorem ev_ix {a b : E} : evE cl ρ (.ix a b) k = (evE cl ρ a k).bind fun x => (evE cl ρ b x.2).bind fun y => (noErr (ixD x.1 y.1)).bind fun d => .ok (d, y.2) := by simp only [evE] <;> rfl
@[simp] theorem ev_sl {a : E} {lo hi : Option E} : evE cl ρ (.sl a lo hi) k = (evE cl ρ a k).bind fun x => (evO cl ρ lo x.2).bind fun y => (evO cl ρ hi y.2).bind fun z => (noErr (slD x.1 y.1 z.1)).bind fun d => .ok (d, z.2) := by simp only [evE] <;> rfl
@[simp] theorem ev_rev {a : E} : evE cl ρ (.rev a) k = (evE cl ρ a k).bind fun x => (noErr (revD x.1)).bind fun d => .ok (d, x.2) := by simp only [evE] <;> rfl
@[simp] theorem ev_dk {i j : Nat} : evE cl ρ (.dk i j) k = (match isK ρ i, k[j]? with | true, some d => .ok (d, k) | _, _ => .no) := by simp only [evE] <;> rfl
@[simp] theorem ev_call {f : Str} {es : List E} : evE cl ρ (.call f es) k = (evL cl ρ es k).bind fun r => (cl.call f [] r.1).bind fun q => .ok (q.1, r.2) := by simp only [evE] <;> rfl
@[simp] theorem ev_callD {i : Nat} {f : Str} {es : List E} : evE cl ρ (.callD i f es) k = if isK ρ i then (evL cl ρ es k).bind fun r => cl.call f r.2 r.1 else .no := by simp only [evE] <;> rfl
@[simp] theorem ev_bi {b : Bi} {a : E} : evE cl ρ (.bi b a) k = (evE cl ρ a k).bind fun x => (noErr (biD b x.1)).bind fun d => .ok (d, x.2) := by simp only [evE] <;> rfl
@[simp] theorem ev_isi {a : E} {ts : List Ty} : evE cl ρ (.isi a ts) k = (evE cl ρ a k).bind fun x => if plainTy x.1 then .ok (.bl (ts.any (isTy x.1)), x.2) else .no := by simp only [evE] <;> rfl
@[simp] theorem ev_dget {kvs : List (Str × Int)} {a : E} {d : Int} : evE cl ρ (.dget kvs a d) k = (evE cl ρ a k).bind fun x => (noErr (dgetD kvs x.1 d)).bind fun y => .ok (y, x.2) := by simp only [evE] <;> rfl
@[simp] theorem evL_nil : evL cl ρ [] k = .ok ([], k) := by simp only [evL] <;> rfl
@[simp] theorem evL_cons {e : E} {es : List E} : evL cl ρ (e :: es) k = (evE cl ρ e k).bind fun x => (evL cl ρ es x.2).bind fun r => .ok (x.1 :: r.1, r.2) := by simp only [evL] <;> rfl
@[simp] theorem evO_n : evO cl ρ none k = .ok (none, k) := by simp only [evO] <;> rfl
@[simp] theorem evO_s {e : E} : evO cl ρ (some e) k = (evE cl ρ e k).bind fun x => match x.1 with | .int i => .ok (some i, x.2) | _ => .no := by simp only [evO] <;> rfl
@[simp] theorem evC_n : evC cl ρ none k = .ok (true, k) := by simp only [evC] <;> rfl
@[simp] theorem evC_s {e : E} : evC cl ρ (some e) k = (evE cl ρ e k).bind fun x => match x.1 with | .bl b => .ok (b, x.2) | _ => .no := by simp only [evC] <;> rfl
@[simp] theorem evI_seq {e : E} : evI cl ρ (.seq e) k = (evE cl ρ e k).bind fun x => (noErr (seqOf x.1)).bind fun l => .ok (l, x.2) := by simp only [evI] <;> rfl
@[simp] theorem evI_rng {es : List E} : evI cl ρ (.range es) k = (evL cl ρ es k).bind fun r => (noErr (rangeD r.1)).bind fun l => .ok (l, r.2) := by simp only [evI] <;> rfl
@[simp] theorem add_ii {i j : Int} : binD .add (.int i) (.int j) = .ok (.int (i + j)) := rfl
@[simp] theorem add_tt {a b : List D} : binD .add (.tup a) (.tup b) = if a.length + b.length ≤ SZ then .ok (.tup (a ++ b)) else .no := rfl
@[simp] theorem add_ll {a b : List D} : binD .add (.lst a) (.lst b) = if a.length + b.length ≤ SZ then .ok (.lst (a ++ b)) else .no := rfl
@[simp] theorem add_ls {a : List D} {b : List Int} : binD .add (.lst a) (.scr b) = if a.length + b.length ≤ SZ then .ok (.lst (a ++ b.map .int)) else .no := rfl
@[simp] theorem sub_ii {i j : Int} : binD .sub (.int i) (.int j) = .ok (.int (i - j)) := rfl
@[simp] theorem mul_ii {i j : Int} : binD .mul (.int i) (.int j) = if mulOk i j then .ok (.int (i * j)) else .no := rfl
@[simp] theorem mul_li {a : List D} {j : Int} : binD .mul (.lst a) (.int j) = if a.length * j.toNat ≤ SZ ∧ -(2 ^ 63) ≤ j ∧ j < 2 ^ 63 then .ok (.lst (rep a j.toNat)) else .no := rfl
@[simp] theorem mul_ti {a : List D} {j : Int} : binD .mul (.tup a) (.int j) = if 1 ≤ a.length ∧ a.length ≤ 1000 ∧ 2 ≤ j ∧ j ≤ 1000 then .ok (.tup (rep a j.toNat)) else .no := rfl
@[simp] theorem mod_ii {i j : Int} : binD .mod (.int i) (.int j) = if j = 0 then .no else .ok (.int (i.fmod j)) := rfl
@[simp] theorem fdiv_ii {i j : Int} : binD .fdiv (.int i) (.int j) = if j ≠ 0 ∧ j.natAbs < 1073741824 then .ok (.int (i.fdiv j)) else .no := rfl
@[simp] theorem pow_ii {i j : Int} : binD .pow (.int i) (.int j) = if 0 ≤ j ∧ j ≤ 1000000 ∧ i.natAbs < 2 ^ 64 then .ok (.int (i ^ j.toNat)) else .no := rfl
@[simp] theorem lt_ii {i j : Int} : cmpD .lt (.int i) (.int j) = .ok (.bl (decide (i < j))) := rfl
@[simp] theorem le_ii {i j : Int} : cmpD .le (.int i) (.int j) = .ok (.bl (decide (i ≤ j))) := rfl
@[simp] theorem gt_ii {i j : Int} : cmpD .gt (.int i) (.int j) = .ok (.bl (decide (j < i))) := rfl
@[simp] theorem ge_ii {i j : Int} : cmpD .ge (.int i) (.int j) = .ok (.bl (decide (j ≤ i))) := rfl
@[simp] theorem in_t {a : D} {b : List D} : cmpD .in_ a (.tup b) = if flatD a && b.all flatD then .ok (.bl (inD a b)) else .no := rfl
@[simp] theorem in_l {a : D} {b : List D} : cmpD .in_ a (.lst b) = if flatD a && b.all flatD then .ok (.bl (inD a b)) else .no := rfl
@[simp] theorem nin_t {a : D} {b : List D} : cmpD .nin a (.tup b) = if flatD a && b.all flatD then .ok (.bl (!inD a b)) else .no := rfl
@[simp] theorem nin_l {a : D} {b : List D} : cmpD .nin a (.lst b) = if flatD a && b.all flatD then .ok (.bl (!inD a b)) else .no := rfl
@[simp] theorem ix_t {a : List D} {i : Int} : ixD (.tup a) (.int i) = ixL a i := rfl
@[simp] theorem ix_l {a : List D} {i : Int} : ixD (.lst a) (.int i) = ixL a i := rfl
@[simp] theorem sl_t {a : List D} {i j : Option Int} : slD (.tup a) i j = .ok (.tup (cut a i j)) := rfl
@[simp] theorem sl_l {a : List D} {i j : Option Int} : slD (.lst a) i j = .ok (.lst (cut a i j)) := rfl
@[simp] theorem rev_t {a : List D} : revD (.tup a) = .ok (.tup a.reverse) := rfl
@[simp] theorem rev_l {a : List D} : revD (.lst a) = .ok (.lst a.reverse) := rfl
@[simp] theorem len_t {a : List D} : biD .len (.tup a) = .ok (.int a.length) := rfl
@[simp] theorem len_l {a : List D} : biD .len (.lst a) = .ok (.int a.length) := rfl
@[simp] theorem tuple_t {a : List D} : biD .tuple (.tup a) = .ok (.tup a) := rfl
@[simp] theorem tuple_l {a : List D} : biD .tuple (.lst a) = .ok (.tup a) := rfl
@[simp] theorem list_t {a : List D} : biD .list (.tup a) = .ok (.lst a) := rfl
@[simp] theorem list_l {a : List D} : biD .list (.lst a) = .ok (.lst a) := rfl
@[simp] theorem int_i {i : Int} : biD .int (.int i) = .ok (.int i) := rfl
@[simp] theorem abs_i {i : Int} : biD .abs (.int i) = .ok (.int (if i < 0 then -i else i)) := rfl
@[simp] theorem sum_l {a : List D} : biD .sum (.lst a) = (match intsD a with | some ns => .ok (.int ns.sum) | none => .no) := rfl
@[simp] theorem all_l {a : List D} : biD .all (.lst a) = (match boolsD a with | some ns => .ok (.bl (ns.all id)) | none => .no) := rfl
@[simp] theorem any_l {a : List D} : biD .any (.lst a) = (match boolsD a with | some ns => .ok (.bl (ns.any id)) | none => .no) := rfl
@[simp] theorem seq_t {a : List D} : seqOf (.tup a) = .ok a := rfl
@[simp] theorem seq_l {a : List D} : seqOf (.lst a) = .ok a := rfl
@[simp] theorem dget_s {kvs : List (Str × Int)} {s : Str} {d : Int} : dgetD kvs (.str s) d = .ok (.int ((kvs.lookup s).getD d)) := rfl
theorem eq_c {a b : D} : cmpD .eq a b = if eqOk a b then .ok (.bl (eqD a b)) else .no := rfl
theorem ne_c {a b : D} : cmpD .ne a b = if eqOk a b then .ok (.bl (!eqD a b)) else .no := rfl
@[simp] theorem is_non_int  : isTy .non .int = false := rfl
@[simp] theorem is_non_bool  : isTy .non .bool = false := rfl
@[simp] theorem is_non_str  : isTy .non .str = false := rfl
@[simp] theorem is_non_tuple  : isTy .non .tuple = false := rfl
@[simp] theorem is_non_list  : isTy .non .list = false := rfl
@[simp] theorem pty_non  : plainTy .non = true := rfl
@[simp] theorem flat_non  : flatD .non = true := rfl
@[simp] theorem isNon_non  : isNon .non = true := rfl
@[simp] theorem is_bl_int {b : Bool} : isTy (.bl b) .int = true := rfl
@[simp] theorem is_bl_bool {b : Bool} : isTy (.bl b) .bool = true := rfl
@[simp] theorem is_bl_str {b : Bool} : isTy (.bl b) .str = false := rfl
@[simp] theorem is_bl_tuple {b : Bool} : isTy (.bl b) .tuple = false := rfl
@[simp] theorem is_bl_list {b : Bool} : isTy (.bl b) .list = false := rfl
@[simp] theorem pty_bl {b : Bool} : plainTy (.bl b) = true := rfl
@[simp] theorem flat_bl {b : Bool} : flatD (.bl b) = true := rfl
@[simp] theorem isNon_bl {b : Bool} : isNon (.bl b) = false := rfl
@[simp] theorem is_int_int {i : Int} : isTy (.int i) .int = true := rfl
@[simp] theorem is_int_bool {i : Int} : isTy (.int i) .bool = false := rfl
@[simp] theorem is_int_str {i : Int} : isTy (.int i) .str = false := rfl
@[simp] theorem is_int_tuple {i : Int} : isTy (.int i) .tuple = false := rfl
@[simp] theorem is_int_list {i : Int} : isTy (.int i) .list = false := rfl
@[simp] theorem pty_int {i : Int} : plainTy (.int i) = true := rfl
@[simp] theorem flat_int {i : Int} : flatD (.int i) = true := rfl
@[simp] theorem isNon_int {i : Int} : isNon (.int i) = false := rfl
@[simp] theorem is_str_int {s : Str} : isTy (.str s) .int = false := rfl
@[simp] theorem is_str_bool {s : Str} : isTy (.str s) .bool = false := rfl
@[simp] theorem is_str_str {s : Str} : isTy (.str s) .str = true := rfl
@[simp] theorem is_str_tuple {s : Str} : isTy (.str s) .tuple = false := rfl
@[simp] theorem is_str_list {s : Str} : isTy (.str s) .list = false := rfl
@[simp] theorem pty_str {s : Str} : plainTy (.str s) = true := rfl
@[simp] theorem flat_str {s : Str} : flatD (.str s) = true := rfl
@[simp] theorem isNon_str {s : Str} : isNon (.str s) = false := rfl
@[simp] theorem is_tup_int {xs : List D} : isTy (.tup xs) .int = false := rfl
@[simp] theorem is_tup_bool {xs : List D} : isTy (.tup xs) .bool = false := rfl
@[simp] theorem is_tup_str {xs : List D} : isTy (.tup xs) .str = false := rfl
@[simp] theorem is_tup_tuple {xs : List D} : isTy (.tup xs) .tuple = true := rfl
@[simp] theorem is_tup_list {xs : List D} : isTy (.tup xs) .list = false := rfl
@[simp] theorem pty_tup {xs : List D} : plainTy (.tup xs) = true := rfl
@[simp] theorem isNon_tup {xs : List D} : isNon (.tup xs) = false := rfl
@[simp] theorem is_lst_int {xs : List D} : isTy (.lst xs) .int = false := rfl
@[simp] theorem is_lst_bool {xs : List D} : isTy (.lst xs) .bool = false := rfl
@[simp] theorem is_lst_str {xs : List D} : isTy (.lst xs) .str = false := rfl
@[simp] theorem is_lst_tuple {xs : List D} : isTy (.lst xs) .tuple = false := rfl
@[simp] theorem is_lst_list {xs : List D} : isTy (.lst xs) .list = true := rfl
@[simp] theorem pty_lst {xs : List D} : plainTy (.lst xs) = true := rfl
@[simp] theorem isNon_lst {xs : List D} : isNon (.lst xs) = false := rfl
@[simp] theorem enter_f {np : Nat} {N : List Str} {b : List S} {f : Bool} {args : List D} : enter ⟨false, np, N, b, f⟩ args = args.map Sl.p ++ List.replicate (N.length - args.length) .u := by
  simp [enter]
@[simp] theorem enter_t {np : Nat} {N : List Str} {b : List S} {f : Bool} {args : List D} : enter ⟨true, np, N, b, f⟩ args = Sl.k :: args.map Sl.p ++ List.replicate (N.length - (args.length + 1)) .u := by
  simp [enter]
/-! statements: what follows is asked of an outcome -/
def thenO (o : Out) (f : Stt → Out) : Out := match o with
  | .nx s => f s
  | o => o
@[simp] theorem then_nx {s : Stt} {f : Stt → Out} : thenO (.nx s) f = f s := rfl
@[simp] theorem then_rt {d : D} {k : Dk} {f : Stt → Out} : thenO (.rt d k) f = .rt d k := rfl
@[simp] theorem evB_nil {s : Stt} : evB cl fu [] s = .nx s := by simp only [evB] <;> rfl
@[simp] theorem evB_cons {x : S} {xs : List S} {s : Stt} : evB cl fu (x :: xs) s = thenO (evS cl fu x s) fun s' => evB cl fu xs s' := by
  simp only [evB]
  cases evS cl fu x s <;> rfl
/-- a test of an if -/
def iteO (r : R (D × Dk)) (a b : Dk → Out) : Out := match r with
  | .ok (.bl true, k) => a k
  | .ok (.bl false, k) => b k
  | .err x => .er x
  | _ => .no
@[simp] theorem iteO_t {k : Dk} {a b : Dk → Out} : iteO (.ok (.bl true, k)) a b = a k := rfl
@[simp] theorem iteO_f {k : Dk} {a b : Dk → Out} : iteO (.ok (.bl false, k)) a b = b k := rfl
theorem iteO_b {k : Dk} {q : Bool} {a b : Dk → Out} : iteO (.ok (.bl q, k)) a b = if q = true then a k else b k := by cases q <;> rfl
@[simp] theorem evS_ite {c : E} {a b : List S} {s : Stt} : evS cl fu (.ite c a b) s = iteO (evE cl s.ρ c s.k) (fun k => evB cl fu a ⟨s.ρ, k⟩) (fun k => evB cl fu b ⟨s.ρ, k⟩) := by
  simp only [evS]
  rfl
def retO (r : R (D × Dk)) : Out := match r with
  | .ok (d, k) => .rt d k
  | .err x => .er x
  | .no => .no
@[simp] theorem retO_ok {d : D} {k : Dk} : retO (.ok (d, k)) = .rt d k := rfl
@[simp] theorem evS_ret {e : E} {s : Stt} : evS cl fu (.ret e) s = retO (evE cl s.ρ e s.k) := by
  simp only [evS]
  rfl
theorem fin_ret {r : R (D × Dk)} : fin (retO r) = r := by
  cases r with
  | ok a => rfl
  | err x => rfl
  | no => rfl
@[simp] theorem evS_set {i : Nat} {e : E} {s : Stt} : evS cl fu (.set i e) s = outR ((evE cl s.ρ e s.k).bind fun x => (setP s.ρ i (.p x.1)).bind fun ρ => .ok (ρ, x.2)) := by simp only [evS] <;> rfl
@[simp] theorem evS_setB {i : Nat} {e : E} {s : Stt} : evS cl fu (.setB i e) s = outR ((evE cl s.ρ e s.k).bind fun x => match x.1 with
    | .lst xs => if x.2.all flatD then (setP s.ρ i (.b xs)).bind fun ρ => .ok (ρ, x.2) else .no
    | _ => .no) := by simp only [evS] <;> rfl
@[simp] theorem evS_setD {i : Nat} {e : E} {s : Stt} : evS cl fu (.setD i e) s = outR ((evE cl s.ρ e s.k).bind fun x => match x.1 with
    | .lst xs => (setP (s.ρ.map dropK) i .k).bind fun ρ => .ok (ρ, xs)
    | _ => .no) := by simp only [evS] <;> rfl
@[simp] theorem evS_setT {tg : Tg} {e : E} {s : Stt} : evS cl fu (.setT tg e) s = outR ((evE cl s.ρ e s.k).bind fun x => (noErr (bindT tg x.1 s.ρ)).bind fun ρ => .ok (ρ, x.2)) := by simp only [evS] <;> rfl
@[simp] theorem evS_par {is : List Nat} {es : List E} {s : Stt} : evS cl fu (.par is es) s = outR ((evL cl s.ρ es s.k).bind fun x => (noErr (setMany is x.1 s.ρ)).bind fun ρ => .ok (ρ, x.2)) := by simp only [evS] <;> rfl
@[simp] theorem evS_app {i : Nat} {e : E} {s : Stt} : evS cl fu (.app i e) s = outR (match s.ρ[i]? with
    | some (.b xs) => (evE cl s.ρ e s.k).bind fun x => if xs.length < SZ then .ok (s.ρ.set i (.b (xs ++ [x.1])), x.2) else .no
    | _ => .no) := by simp only [evS] <;> rfl
@[simp] theorem evS_sti {i : Nat} {ix e : E} {s : Stt} : evS cl fu (.sti i ix e) s = outR (match s.ρ[i]? with
    | some (.b xs) => (evE cl s.ρ e s.k).bind fun x => (evE cl s.ρ ix x.2).bind fun y => (match y.1 with
      | .int j => (match place xs.length j with
        | some p => .ok (s.ρ.set i (.b (xs.set p x.1)), y.2)
        | none => .no)
      | _ => .no)
    | _ => .no) := by simp only [evS] <;> rfl
@[simp] theorem evS_std {i j : Nat} {e : E} {s : Stt} : evS cl fu (.std i j e) s = if isK s.ρ i then outR ((evE cl s.ρ e s.k).bind fun x => if j < x.2.length then .ok (s.ρ, x.2.set j x.1) else .no) else .no := by simp only [evS] <;> rfl
@[simp] theorem evS_ex {e : E} {s : Stt} : evS cl fu (.ex e) s = outR ((evE cl s.ρ e s.k).bind fun x => .ok (s.ρ, x.2)) := by simp only [evS] <;> rfl
@[simp] theorem evS_retB {i : Nat} {s : Stt} : evS cl fu (.retB i) s = (match s.ρ[i]? with | some (.b xs) => .rt (.lst xs) s.k | _ => .no) := by simp only [evS] <;> rfl
@[simp] theorem evS_frz {i : Nat} {s : Stt} : evS cl fu (.frz i) s = (match s.ρ[i]? with | some (.b xs) => .nx ⟨s.ρ.set i (.p (.lst xs)), s.k⟩ | _ => .no) := by simp only [evS] <;> rfl
@[simp] theorem bindT_n {i : Nat} {d : D} : bindT (.n i) d ρ = if i < ρ.length then .ok (ρ.set i (.p d)) else .no := rfl
@[simp] theorem bindT_t {ts : List Tg} {xs : List D} : bindT (.t ts) (.tup xs) ρ = bindTs ts xs ρ := rfl
@[simp] theorem bindTs_n : bindTs [] [] ρ = .ok ρ := rfl
@[simp] theorem bindTs_c {t : Tg} {ts : List Tg} {x : D} {xs : List D} : bindTs (t :: ts) (x :: xs) ρ = (bindT t x ρ).bind fun ρ' => bindTs ts xs ρ' := rfl
@[simp] theorem setMany_n : setMany [] [] ρ = .ok ρ := rfl
@[simp] theorem setMany_c {i : Nat} {is : List Nat} {d : D} {ds : List D} : setMany (i :: is) (d :: ds) ρ = (setP ρ i (.p d)).bind fun ρ' => setMany is ds ρ' := rfl
@[simp] theorem wipeS_n : wipeS ρ [] = ρ := rfl
@[simp] theorem wipeS_c {v : Str × Nat} {vs : List (Str × Nat)} : wipeS ρ (v :: vs) = (wipeS ρ vs).set v.2 .u := rfl
@[simp] theorem setP_e {i : Nat} {s : Sl} : setP ρ i s = if i < ρ.length then .ok (ρ.set i s) else .no := rfl
@[simp] theorem isK_e {i : Nat} : isK ρ i = (match ρ[i]? with | some .k => true | _ => false) := rfl
@[simp] theorem dropK_k : dropK .k = .u := rfl
@[simp] theorem dropK_u : dropK .u = .u := rfl
@[simp] theorem dropK_p {d : D} : dropK (.p d) = .p d := rfl
@[simp] theorem dropK_b {xs : List D} : dropK (.b xs) = .b xs := rfl
end
end Rf
set_option Elab.async false
set_option linter.all false
set_option maxRecDepth 100000
set_option maxHeartbeats 0
namespace K01
open PySem PySem.Spec PyProof.Rows L2 Rf
def d_is_within : FDef := ⟨false, 3, ["value", "low", "high"], [.ret (.and (.isi (.var 0) [.int]) (.and (.not (.isi (.var 0) [.bool])) (.chn .le .le (.var 1) (.var 0) (.var 2))))], false⟩
def d_has_items : FDef := ⟨false, 3, ["value", "low", "high"], [.ret (.and (.isi (.var 0) [.tuple]) (.chn .le .le (.var 1) (.bi .len (.var 0)) (.var 2)))], false⟩
def d_is_one_of : FDef := ⟨false, 2, ["value", "words"], [.ret (.and (.isi (.var 0) [.str]) (.cmp .in_ (.var 0) (.var 1)))], false⟩
def d_is_move : FDef := ⟨false, 1, ["value", "most"], [.ite (.or (.not (.call "has_items" [.var 0, .lit (.int 2), .lit (.int 2)])) (.not (.call "is_one_of" [.ix (.var 0) (.lit (.int 0)), .glob "KINDS"]))) [.ret (.lit (.bl false))] [], .ite (.cmp .eq (.ix (.var 0) (.lit (.int 0))) (.lit (.str "across"))) [.ret (.call "is_within" [.ix (.var 0) (.lit (.int 1)), .lit (.int 0), .lit (.int 0)])] [], .set 1 (.ite (.cmp .eq (.ix (.var 0) (.lit (.int 0))) (.lit (.str "slant"))) (.lit (.int 2)) (.lit (.int 3))), .ret (.and (.call "is_within" [.ix (.var 0) (.lit (.int 1)), .neg (.var 1), .var 1]) (.cmp .ne (.ix (.var 0) (.lit (.int 1))) (.lit (.int 0))))], false⟩
def d_is_part : FDef := ⟨false, 1, ["value", "move"], [.ite (.or (.not (.call "has_items" [.var 0, .lit (.int 2), .lit (.int 2)])) (.or (.not (.call "is_one_of" [.ix (.var 0) (.lit (.int 0)), .glob "MODES"])) (.not (.call "has_items" [.ix (.var 0) (.lit (.int 1)), .lit (.int 1), .lit (.int 6)])))) [.ret (.lit (.bl false))] [], .ite (.not (.bi .all (.comp (.n 1) (.seq (.ix (.var 0) (.lit (.int 1)))) none (.call "is_move" [.var 1]) [("move", 1)]))) [.ret (.lit (.bl false))] [], .ret (.or (.cmp .eq (.ix (.var 0) (.lit (.int 0))) (.lit (.str "once"))) (.call "is_within" [.bi .abs (.call "net_of" [.ix (.var 0) (.lit (.int 1))]), .lit (.int 1), .lit (.int 4)]))], false⟩
def d_net_of : FDef := ⟨false, 1, ["moves", "move"], [.ret (.bi .sum (.comp (.n 1) (.seq (.var 0)) none (.ix (.var 1) (.lit (.int 1))) [("move", 1)]))], true⟩
def d_is_start : FDef := ⟨false, 1, ["value"], [.ite (.or (.not (.call "has_items" [.var 0, .lit (.int 3), .lit (.int 3)])) (.or (.not (.call "is_one_of" [.ix (.var 0) (.lit (.int 0)), .glob "SIDES"])) (.not (.call "is_one_of" [.ix (.var 0) (.lit (.int 1)), .glob "ENDS"])))) [.ret (.lit (.bl false))] [], .ret (.call "is_within" [.ix (.var 0) (.lit (.int 2)), .lit (.int 0), .lit (.int 3)])], false⟩
def d_is_plan_value : FDef := ⟨false, 1, ["value", "part"], [.ite (.or (.not (.call "has_items" [.var 0, .lit (.int 3), .lit (.int 3)])) (.or (.not (.call "is_start" [.ix (.var 0) (.lit (.int 0))])) (.not (.isi (.ix (.var 0) (.lit (.int 1))) [.bool])))) [.ret (.lit (.bl false))] [], .ret (.and (.call "has_items" [.ix (.var 0) (.lit (.int 2)), .lit (.int 1), .lit (.int 7)]) (.bi .all (.comp (.n 1) (.seq (.ix (.var 0) (.lit (.int 2)))) none (.call "is_part" [.var 1]) [("part", 1)])))], false⟩
def d_is_plan : FDef := ⟨false, 1, ["value"], [.ret (.call "is_plan_value" [.var 0])], false⟩
def d__law_deck : FDef := ⟨false, 2, ["cell", "turn"], [.ite (.cmp .ge (.var 0) (.bin .pow (.lit (.int 10)) (.lit (.int 18)))) [.ret (.lst [.bin .sub (.var 0) (.bin .pow (.lit (.int 10)) (.lit (.int 18))), .bin .mod (.var 0) (.lit (.int 2147483579)), .var 1])] [], .ret (.lst [.lit (.int 0), .bin .mod (.var 0) (.lit (.int 2147483579)), .var 1])], true⟩
def d__law_pick : FDef := ⟨true, 1, ["deck", "size", "found", "number"], [.ite (.cmp .gt (.dk 0 0) (.lit (.int 1))) [.set 2 (.bin .mod (.bi .int (.dk 0 0)) (.var 1)), .std 0 0 (.bin .fdiv (.dk 0 0) (.var 1)), .ret (.var 2)] [], .std 0 2 (.bin .add (.dk 0 2) (.lit (.int 1))), .set 3 (.bin .mod (.bin .pow (.bin .add (.dk 0 1) (.bin .mul (.lit (.int 15485867)) (.dk 0 2))) (.lit (.int 5))) (.lit (.int 2147483647))), .set 2 (.bin .fdiv (.bin .mod (.bin .pow (.bin .add (.var 3) (.bin .mul (.lit (.int 7919)) (.dk 0 2))) (.lit (.int 3))) (.lit (.int 2147483629))) (.lit (.int 32))), .ret (.bin .mod (.bi .int (.var 2)) (.var 1))], false⟩
def d__law_whole : FDef := ⟨false, 1, ["thing"], [.ret (.and (.isi (.var 0) [.int]) (.not (.isi (.var 0) [.bool])))], false⟩
def d__law_one : FDef := ⟨true, 1, ["deck", "some"], [.ret (.ix (.var 1) (.callD 0 "_law_pick" [.bi .len (.var 1)]))], false⟩
def d__law_sort : FDef := ⟨false, 1, ["thing"], [.ite (.isi (.var 0) [.bool]) [.ret (.lit (.int 1))] [], .ite (.isi (.var 0) [.int]) [.ret (.lit (.int 2))] [], .ite (.isi (.var 0) [.str]) [.ret (.lit (.int 3))] [], .ite (.isi (.var 0) [.list]) [.ret (.lit (.int 4))] [], .ret (.ite (.isi (.var 0) [.tuple]) (.lit (.int 5)) (.lit (.int 6)))], true⟩
def d__law_same : FDef := ⟨false, 2, ["told", "due", "k", "part"], [.ite (.cmp .ne (.call "_law_sort" [.var 0]) (.call "_law_sort" [.var 1])) [.ret (.lit (.bl false))] [], .ite (.and (.cmp .gt (.call "_law_sort" [.var 0]) (.lit (.int 3))) (.cmp .lt (.call "_law_sort" [.var 0]) (.lit (.int 6)))) [.ite (.cmp .ne (.bi .len (.var 0)) (.bi .len (.var 1))) [.ret (.lit (.bl false))] [], .ret (.cmp .eq (.comp (.t [.n 2, .n 3]) (.enum (.var 0)) (some (.not (.call "_law_same" [.var 3, .ix (.var 1) (.var 2)]))) (.var 2) [("k", 2), ("part", 3)]) (.lst []))] [], .ret (.cmp .eq (.var 0) (.var 1))], true⟩
def d__law_known : FDef := ⟨false, 0, ["top", "over", "one", "two", "three", "lead", "tail"], [.setT (.t [.n 0, .n 1]) (.tup [.tup [.lit (.str "L"), .lit (.str "t"), .lit (.int 0)], .tup [.lit (.str "once"), .tup [.tup [.lit (.str "across"), .lit (.int 0)]]]]), .set 2 (.tup [.var 0, .lit (.bl true), .tup [.tup [.lit (.str "again"), .tup [.tup [.lit (.str "slant"), .neg (.lit (.int 1))]]], .var 1, .tup [.lit (.str "again"), .tup [.tup [.lit (.str "slant"), .lit (.int 1)]]]]]), .set 3 (.tup [.var 0, .lit (.bl true), .tup [.tup [.lit (.str "again"), .tup [.tup [.lit (.str "straight"), .neg (.lit (.int 1))]]], .var 1, .tup [.lit (.str "again"), .tup [.tup [.lit (.str "straight"), .lit (.int 1)]]]]]), .set 4 (.tup [.tup [.lit (.str "L"), .lit (.str "b"), .lit (.int 0)], .lit (.bl true), .tup [.var 1, .tup [.lit (.str "again"), .tup [.tup [.lit (.str "straight"), .lit (.int 1)], .tup [.lit (.str "across"), .lit (.int 0)]]]]]), .set 5 (.tup [.tup [.lit (.str "again"), .tup [.tup [.lit (.str "straight"), .neg (.lit (.int 2))]]], .tup [.lit (.str "once"), .tup [.tup [.lit (.str "straight"), .neg (.lit (.int 1))]]], .tup [.lit (.str "again"), .tup [.tup [.lit (.str "straight"), .lit (.int 2)]]]]), .set 6 (.tup [.tup [.lit (.str "again"), .tup [.tup [.lit (.str "straight"), .neg (.lit (.int 2))]]], .tup [.lit (.str "once"), .tup [.tup [.lit (.str "straight"), .lit (.int 1)]]], .tup [.lit (.str "again"), .tup [.tup [.lit (.str "straight"), .lit (.int 2)]]]]), .ret (.tup [.var 2, .var 3, .var 4, .tup [.var 0, .lit (.bl false), .bin .add (.bin .add (.var 5) (.tup [.var 1])) (.var 6)]])], true⟩
def d__law_net : FDef := ⟨false, 1, ["moves_so", "kind_so", "by_so"], [.ret (.bi .sum (.comp (.t [.n 1, .n 2]) (.seq (.var 0)) none (.var 2) [("kind_so", 1), ("by_so", 2)]))], true⟩
def d__law_a_move : FDef := ⟨true, 0, ["deck", "kind_so", "far"], [.set 1 (.callD 0 "_law_one" [.lst [.lit (.str "across"), .lit (.str "slant"), .lit (.str "slant"), .lit (.str "straight"), .lit (.str "straight")]]), .ite (.cmp .eq (.var 1) (.lit (.str "across"))) [.ret (.tup [.lit (.str "across"), .lit (.int 0)])] [], .set 2 (.bin .add (.lit (.int 1)) (.callD 0 "_law_pick" [.ite (.cmp .eq (.var 1) (.lit (.str "slant"))) (.lit (.int 2)) (.lit (.int 3))])), .ret (.tup [.var 1, .bin .mul (.var 2) (.callD 0 "_law_one" [.lst [.lit (.int 1), .neg (.lit (.int 1))]])])], true⟩
def d__law_a_part : FDef := ⟨true, 0, ["deck", "moves_so", "mode", "turn"], [.set 1 (.bi .tuple (.comp (.n 3) (.range [.bin .add (.lit (.int 1)) (.callD 0 "_law_pick" [.lit (.int 3)])]) none (.callD 0 "_law_a_move" []) [("turn", 3)])), .set 2 (.callD 0 "_law_one" [.lst [.lit (.str "once"), .lit (.str "again")]]), .ret (.tup [.ite (.chn .le .le (.lit (.int 1)) (.bi .abs (.call "_law_net" [.var 1])) (.lit (.int 4))) (.var 2) (.lit (.str "once")), .var 1])], true⟩
def d__law_there_and_back : FDef := ⟨true, 0, ["deck", "size", "down", "more", "up", "found", "turn", "kind_so", "by_so"], [.set 1 (.bin .add (.lit (.int 1)) (.callD 0 "_law_pick" [.lit (.int 3)])), .set 2 (.comp (.n 6) (.range [.var 1]) none (.tup [.callD 0 "_law_one" [.lst [.lit (.str "slant"), .lit (.str "straight")]], .neg (.lit (.int 1))]) [("turn", 6)]), .par [3, 4] [.callD 0 "_law_pick" [.var 1], .comp (.t [.n 7, .n 8]) (.seq (.var 2)) none (.tup [.var 7, .lit (.int 1)]) [("kind_so", 7), ("by_so", 8)]], .setB 5 (.lst [.tup [.lit (.str "again"), .bi .tuple (.var 2)]]), .ite (.cmp .gt (.var 3) (.lit (.int 0))) [.app 5 (.tup [.lit (.str "once"), .bi .tuple (.sl (.var 2) none (some (.var 3)))])] [], .app 5 (.tup [.lit (.str "once"), .tup [.tup [.lit (.str "across"), .lit (.int 0)]]]), .ite (.cmp .gt (.var 3) (.lit (.int 0))) [.app 5 (.tup [.lit (.str "once"), .bi .tuple (.rev (.sl (.var 4) none (some (.var 3))))])] [], .ret (.bi .tuple (.bin .add (.bvar 5) (.lst [.tup [.lit (.str "again"), .bi .tuple (.rev (.var 4))]])))], true⟩
def d__law_by_twos : FDef := ⟨true, 0, ["deck", "one", "two", "found"], [.par [1, 2] [.callD 0 "_law_one" [.lst [.lit (.str "slant"), .lit (.str "straight")]], .callD 0 "_law_one" [.lst [.lit (.str "slant"), .lit (.str "straight")]]], .set 3 (.tup [.tup [.lit (.str "again"), .tup [.tup [.var 1, .neg (.lit (.int 2))]]], .tup [.lit (.str "once"), .tup [.tup [.lit (.str "straight"), .neg (.lit (.int 1))]]], .tup [.lit (.str "again"), .tup [.tup [.var 2, .lit (.int 2)]]]]), .set 3 (.bin .add (.var 3) (.tup [.tup [.lit (.str "once"), .tup [.tup [.lit (.str "across"), .lit (.int 0)]]], .tup [.lit (.str "again"), .tup [.tup [.var 2, .neg (.lit (.int 2))]]], .tup [.lit (.str "once"), .tup [.tup [.lit (.str "straight"), .lit (.int 1)]]]])), .ret (.bin .add (.var 3) (.tup [.tup [.lit (.str "again"), .tup [.tup [.var 1, .lit (.int 2)]]]]))], true⟩
def d__law_a_right : FDef := ⟨true, 0, ["deck", "parts_so"], [.set 1 (.ite (.cmp .eq (.callD 0 "_law_pick" [.lit (.int 3)]) (.lit (.int 0))) (.callD 0 "_law_by_twos" []) (.callD 0 "_law_there_and_back" [])), .ret (.tup [.tup [.callD 0 "_law_one" [.lst [.lit (.str "L"), .lit (.str "R")]], .lit (.str "t"), .lit (.int 0)], .cmp .eq (.callD 0 "_law_pick" [.lit (.int 2)]) (.lit (.int 0)), .var 1])], true⟩
def d__law_a_plan : FDef := ⟨true, 0, ["deck", "side", "end", "number", "face", "parts_so", "way", "at", "turn"], [.setT (.t [.t [.n 1, .n 2, .n 3], .n 4, .n 5]) (.callD 0 "_law_a_right" []), .set 6 (.callD 0 "_law_pick" [.lit (.int 6)]), .ite (.cmp .eq (.var 6) (.lit (.int 0))) [.set 5 (.ix (.callD 0 "_law_one" [.bi .list (.call "_law_known" [])]) (.lit (.int 2)))] [], .ite (.cmp .gt (.var 6) (.lit (.int 3))) [.set 5 (.bi .tuple (.comp (.n 8) (.range [.bin .add (.lit (.int 1)) (.callD 0 "_law_pick" [.lit (.int 4)])]) none (.callD 0 "_law_a_part" []) [("turn", 8)]))] [], .ite (.or (.cmp .eq (.var 6) (.lit (.int 5))) (.cmp .eq (.callD 0 "_law_pick" [.lit (.int 6)]) (.lit (.int 0)))) [.par [2, 3] [.callD 0 "_law_one" [.lst [.lit (.str "b"), .lit (.str "t")]], .callD 0 "_law_pick" [.lit (.int 4)]]] [], .ite (.cmp .eq (.callD 0 "_law_pick" [.lit (.int 4)]) (.lit (.int 0))) [.set 7 (.callD 0 "_law_pick" [.bi .len (.var 5)]), .set 5 (.bin .add (.bin .add (.sl (.var 5) none (some (.var 7))) (.tup [.callD 0 "_law_a_part" []])) (.sl (.var 5) (some (.bin .add (.var 7) (.lit (.int 1)))) none))] [], .ret (.tup [.tup [.var 1, .var 2, .var 3], .var 4, .var 5])], true⟩
def d__law_number_so : FDef := ⟨false, 3, ["thing", "low", "high"], [.ret (.and (.call "_law_whole" [.var 0]) (.chn .le .le (.var 1) (.var 0) (.var 2)))], false⟩
def d__law_is_a_move : FDef := ⟨false, 1, ["thing", "far"], [.ite (.or (.not (.isi (.var 0) [.tuple])) (.or (.cmp .ne (.bi .len (.var 0)) (.lit (.int 2))) (.not (.isi (.ix (.var 0) (.lit (.int 0))) [.str])))) [.ret (.lit (.bl false))] [], .ite (.cmp .eq (.ix (.var 0) (.lit (.int 0))) (.lit (.str "across"))) [.ret (.call "_law_number_so" [.ix (.var 0) (.lit (.int 1)), .lit (.int 0), .lit (.int 0)])] [], .set 1 (.dget [("slant", 2), ("straight", 3)] (.ix (.var 0) (.lit (.int 0))) 0), .ret (.and (.call "_law_number_so" [.ix (.var 0) (.lit (.int 1)), .neg (.var 1), .var 1]) (.cmp .ne (.ix (.var 0) (.lit (.int 1))) (.lit (.int 0))))], false⟩
def d__law_is_a_part : FDef := ⟨false, 1, ["thing", "one"], [.ite (.or (.not (.isi (.var 0) [.tuple])) (.or (.cmp .ne (.bi .len (.var 0)) (.lit (.int 2))) (.not (.isi (.ix (.var 0) (.lit (.int 0))) [.str])))) [.ret (.lit (.bl false))] [], .ite (.or (.not (.isi (.ix (.var 0) (.lit (.int 1))) [.tuple])) (.not (.chn .le .le (.lit (.int 1)) (.bi .len (.ix (.var 0) (.lit (.int 1)))) (.lit (.int 6))))) [.ret (.lit (.bl false))] [], .ite (.cmp .ne (.comp (.n 1) (.seq (.ix (.var 0) (.lit (.int 1)))) (some (.not (.call "_law_is_a_move" [.var 1]))) (.lit (.int 1)) [("one", 1)]) (.lst [])) [.ret (.lit (.bl false))] [], .ret (.or (.cmp .eq (.ix (.var 0) (.lit (.int 0))) (.lit (.str "once"))) (.and (.cmp .eq (.ix (.var 0) (.lit (.int 0))) (.lit (.str "again"))) (.chn .le .le (.lit (.int 1)) (.bi .abs (.call "_law_net" [.ix (.var 0) (.lit (.int 1))])) (.lit (.int 4)))))], false⟩
def d__law_is_a_plan : FDef := ⟨false, 1, ["thing", "one"], [.ite (.or (.not (.isi (.var 0) [.tuple])) (.or (.cmp .ne (.bi .len (.var 0)) (.lit (.int 3))) (.not (.isi (.ix (.var 0) (.lit (.int 1))) [.bool])))) [.ret (.lit (.bl false))] [], .ite (.or (.not (.isi (.ix (.var 0) (.lit (.int 0))) [.tuple])) (.or (.cmp .ne (.bi .len (.ix (.var 0) (.lit (.int 0)))) (.lit (.int 3))) (.not (.call "_law_number_so" [.ix (.ix (.var 0) (.lit (.int 0))) (.lit (.int 2)), .lit (.int 0), .lit (.int 3)])))) [.ret (.lit (.bl false))] [], .ite (.or (.not (.isi (.ix (.ix (.var 0) (.lit (.int 0))) (.lit (.int 0))) [.str])) (.cmp .nin (.ix (.ix (.var 0) (.lit (.int 0))) (.lit (.int 0))) (.lst [.lit (.str "L"), .lit (.str "R")]))) [.ret (.lit (.bl false))] [], .ite (.or (.not (.isi (.ix (.ix (.var 0) (.lit (.int 0))) (.lit (.int 1))) [.str])) (.cmp .nin (.ix (.ix (.var 0) (.lit (.int 0))) (.lit (.int 1))) (.lst [.lit (.str "b"), .lit (.str "t")]))) [.ret (.lit (.bl false))] [], .ite (.or (.not (.isi (.ix (.var 0) (.lit (.int 2))) [.tuple])) (.not (.chn .le .le (.lit (.int 1)) (.bi .len (.ix (.var 0) (.lit (.int 2)))) (.lit (.int 7))))) [.ret (.lit (.bl false))] [], .ret (.cmp .eq (.comp (.n 1) (.seq (.ix (.var 0) (.lit (.int 2)))) (some (.not (.call "_law_is_a_part" [.var 1]))) (.lit (.int 1)) [("one", 1)]) (.lst []))], true⟩
def d__law_spoilt : FDef := ⟨true, 1, ["deck", "thing", "some", "at", "turned_so", "words_so"], [.ite (.and (.isi (.var 1) [.tuple, .list]) (.and (.cmp .gt (.bi .len (.var 1)) (.lit (.int 0))) (.cmp .gt (.callD 0 "_law_pick" [.lit (.int 7)]) (.lit (.int 0))))) [.setB 2 (.bi .list (.var 1)), .set 3 (.callD 0 "_law_pick" [.bi .len (.bvar 2)]), .sti 2 (.var 3) (.callD 0 "_law_spoilt" [.ix (.bvar 2) (.var 3)]), .frz 2, .ret (.ite (.isi (.var 1) [.tuple]) (.bi .tuple (.var 2)) (.var 2))] [], .ite (.isi (.var 1) [.tuple, .list]) [.set 4 (.ite (.isi (.var 1) [.tuple]) (.bi .list (.var 1)) (.bi .tuple (.var 1))), .ret (.callD 0 "_law_one" [.lst [.var 4, .bin .add (.var 1) (.sl (.var 1) none (some (.lit (.int 1)))), .sl (.var 1) (some (.lit (.int 1))) none, .rev (.var 1), .tup [.lit (.str "across"), .lit (.int 0)], .lit .non]])] [], .ite (.isi (.var 1) [.str]) [.set 5 (.lst [.lit (.str "L"), .lit (.str "R"), .lit (.str "b"), .lit (.str "t"), .lit (.str "once"), .lit (.str "again"), .lit (.str "across"), .lit (.str "slant"), .lit (.str "straight"), .lit (.str ""), .lit (.str "l"), .lit (.int 0)]), .ret (.callD 0 "_law_one" [.var 5])] [], .ite (.call "_law_whole" [.var 1]) [.ret (.callD 0 "_law_one" [.lst [.neg (.var 1), .bin .add (.var 1) (.lit (.int 1)), .bin .sub (.var 1) (.lit (.int 1)), .lit (.int 0), .lit (.bl true), .lit .non, .lit (.str "1"), .lit (.int 2), .lit (.int 3), .neg (.lit (.int 4))]])] [], .ret (.callD 0 "_law_one" [.lst [.lit .non, .lit (.int 0), .lit (.int 1), .lit (.bl true), .lit (.bl false), .tup [], .lst []]])], false⟩
def d__law_alone : FDef := ⟨false, 2, ["mode", "moves_so"], [.ret (.tup [.tup [.lit (.str "L"), .lit (.str "t"), .lit (.int 0)], .lit (.bl true), .tup [.tup [.var 0, .var 1]]])], true⟩
def d__law_written : FDef := ⟨false, 0, ["top", "over", "good", "bad", "found", "some", "moves_so", "mode", "parts_so", "one"], [.setT (.t [.n 0, .n 1]) (.tup [.tup [.lit (.str "L"), .lit (.str "t"), .lit (.int 0)], .tup [.lit (.str "once"), .tup [.tup [.lit (.str "across"), .lit (.int 0)]]]]), .setB 2 (.lst [.tup [.tup [.tup [.lit (.str "straight"), .lit (.int 3)], .tup [.lit (.str "straight"), .lit (.int 1)]], .lit (.str "again")], .tup [.bin .mul (.tup [.tup [.lit (.str "across"), .lit (.int 0)]]) (.lit (.int 6)), .lit (.str "once")]]), .app 2 (.tup [.tup [.tup [.lit (.str "slant"), .neg (.lit (.int 2))]], .lit (.str "again")]), .setB 3 (.lst [.tup [.tup [.tup [.lit (.str "straight"), .lit (.int 3)], .tup [.lit (.str "straight"), .lit (.int 2)]], .lit (.str "again")], .tup [.tup [.tup [.lit (.str "across"), .lit (.int 0)]], .lit (.str "again")], .tup [.tup [], .lit (.str "once")]]), .setB 3 (.bin .add (.bvar 3) (.lst [.tup [.bin .mul (.tup [.tup [.lit (.str "across"), .lit (.int 0)]]) (.lit (.int 7)), .lit (.str "once")], .tup [.tup [.tup [.lit (.str "slant"), .lit (.int 3)]], .lit (.str "once")], .tup [.tup [.tup [.lit (.str "across"), .lit (.int 1)]], .lit (.str "once")]])), .setB 3 (.bin .add (.bvar 3) (.lst [.tup [.tup [.tup [.lit (.str "across"), .lit (.bl false)]], .lit (.str "once")], .tup [.tup [.tup [.lit (.str "straight"), .lit (.int 4)]], .lit (.str "once")], .tup [.tup [.tup [.lit (.str "straight"), .lit (.int 0)]], .lit (.str "once")]])), .app 3 (.tup [.tup [.tup [.lit (.str "slant"), .lit (.int 1)], .tup [.lit (.str "slant"), .neg (.lit (.int 1))]], .lit (.str "again")]), .set 4 (.comp (.t [.n 6, .n 7]) (.seq (.bvar 2)) none (.call "is_plan" [.call "_law_alone" [.var 7, .var 6]]) [("moves_so", 6), ("mode", 7)]), .ite (.cmp .ne (.bin .add (.var 4) (.comp (.t [.n 6, .n 7]) (.seq (.bvar 3)) none (.call "is_plan" [.call "_law_alone" [.var 7, .var 6]]) [("moves_so", 6), ("mode", 7)])) (.bin .add (.bin .mul (.lst [.lit (.bl true)]) (.lit (.int 3))) (.bin .mul (.lst [.lit (.bl false)]) (.lit (.int 10))))) [.ret (.lit (.bl false))] [], .set 5 (.lst [.bin .mul (.tup [.var 1]) (.lit (.int 7)), .bin .mul (.tup [.var 1]) (.lit (.int 8)), .tup []]), .ite (.cmp .ne (.comp (.n 8) (.seq (.var 5)) none (.call "is_plan" [.tup [.var 0, .lit (.bl true), .var 8]]) [("parts_so", 8)]) (.lst [.lit (.bl true), .lit (.bl false), .lit (.bl false)])) [.ret (.lit (.bl false))] [], .set 5 (.lst [.tup [.lit (.str "L"), .lit (.str "t"), .lit (.int 4)], .tup [.lit (.str "L"), .lit (.str "b"), .neg (.lit (.int 1))], .tup [.lit (.str "L"), .lit (.str "t"), .lit (.bl true)], .tup [.lit (.str "l"), .lit (.str "t"), .lit (.int 0)], .tup [.lit (.str "L"), .lit (.str "top"), .lit (.int 0)]]), .set 5 (.bin .add (.var 5) (.lst [.lst [.lit (.str "L"), .lit (.str "t"), .lit (.int 0)], .tup [.lit (.str "L"), .lit (.str "t")]])), .ite (.cmp .ne (.comp (.n 9) (.seq (.var 5)) none (.call "is_plan" [.tup [.var 9, .lit (.bl true), .tup [.var 1]]]) [("one", 9)]) (.bin .mul (.lst [.lit (.bl false)]) (.lit (.int 7)))) [.ret (.lit (.bl false))] [], .set 5 (.lst [.tup [.tup [.lit (.str "R"), .lit (.str "b"), .lit (.int 3)], .lit (.bl false), .tup [.var 1]], .tup [.var 0, .lit (.bl true), .lst [.var 1]], .tup [.var 0, .lit (.int 1), .tup [.var 1]]]), .ret (.cmp .eq (.comp (.n 9) (.seq (.var 5)) none (.call "is_plan" [.var 9]) [("one", 9)]) (.lst [.lit (.bl true), .lit (.bl false), .lit (.bl false)]))], true⟩
def d_law : FDef := ⟨false, 1, ["script", "cell", "deck", "turn", "plan_so", "some", "thing", "one", "k"], [.for_ (.n 1) (.seq (.sl (.bin .add (.lst [.lit (.int 0)]) (.var 0)) none (some (.lit (.int 10))))) [.setD 2 (.call "_law_deck" [.var 1, .lit (.int 1)]), .for_ (.n 3) (.range [.lit (.int 3)]) [.set 4 (.callD 2 "_law_a_plan" []), .set 5 (.comp (.n 8) (.range [.lit (.int 30)]) none (.callD 2 "_law_spoilt" [.var 4]) [("k", 8)]), .for_ (.n 6) (.seq (.bin .add (.lst [.var 4, .bi .list (.var 4), .sl (.var 4) none (some (.lit (.int 2))), .lit .non, .lit (.str "L"), .lit (.int 5)]) (.var 5))) [.for_ (.n 7) (.seq (.tup [.var 6, .callD 2 "_law_spoilt" [.var 6]])) [.ite (.not (.call "_law_same" [.call "is_plan" [.var 7], .call "_law_is_a_plan" [.var 7]])) [.ret (.lit (.bl false))] []]]]], .ret (.call "_law_written" [])], true⟩
def tbl : List (Str × Gd) := [gF "is_within" d_is_within, gF "has_items" d_has_items, gF "is_one_of" d_is_one_of, gF "is_move" d_is_move, gF "is_part" d_is_part, gF "net_of" d_net_of, gF "is_start" d_is_start, gF "is_plan_value" d_is_plan_value, gF "is_plan" d_is_plan, gF "_law_deck" d__law_deck, gF "_law_pick" d__law_pick, gF "_law_whole" d__law_whole, gF "_law_one" d__law_one, gF "_law_sort" d__law_sort, gF "_law_same" d__law_same, gF "_law_known" d__law_known, gF "_law_net" d__law_net, gF "_law_a_move" d__law_a_move, gF "_law_a_part" d__law_a_part, gF "_law_there_and_back" d__law_there_and_back, gF "_law_by_twos" d__law_by_twos, gF "_law_a_right" d__law_a_right, gF "_law_a_plan" d__law_a_plan, gF "_law_number_so" d__law_number_so, gF "_law_is_a_move" d__law_is_a_move, gF "_law_is_a_part" d__law_is_a_part, gF "_law_is_a_plan" d__law_is_a_plan, gF "_law_spoilt" d__law_spoilt, gF "_law_alone" d__law_alone, gF "_law_written" d__law_written, gF "law" d_law, gC "SIDES" (.tup [.str "L", .str "R"]), gC "ENDS" (.tup [.str "b", .str "t"]), gC "KINDS" (.tup [.str "across", .str "slant", .str "straight"]), gC "MODES" (.tup [.str "once", .str "again"])]
def T : Tab := fun x => tbl.lookup x
def free : List Str := ["abs", "all", "bool", "enumerate", "int", "isinstance", "len", "list", "range", "str", "sum", "tuple"]
end K01
set_option Elab.async false
set_option linter.all false
set_option maxRecDepth 100000
set_option maxHeartbeats 0
namespace K01
open PySem PySem.Spec PyProof.Rows L2 Rf
def top (i : Nat) : Stmt := PySem.Challenge.pw_anylaces_k01_plans_recognized.main.body.getD i (.Pass ⟨0, 0, 0, 0⟩)
theorem ck_is_within : ckB ⟨d_is_within.N, defScope (top 5), fun _ => true, T, free⟩ d_is_within.fresh d_is_within.dk d_is_within.body (defBody (top 5)) = true := by decide +kernel
theorem ck_has_items : ckB ⟨d_has_items.N, defScope (top 6), fun _ => true, T, free⟩ d_has_items.fresh d_has_items.dk d_has_items.body (defBody (top 6)) = true := by decide +kernel
theorem ck_is_one_of : ckB ⟨d_is_one_of.N, defScope (top 7), fun _ => true, T, free⟩ d_is_one_of.fresh d_is_one_of.dk d_is_one_of.body (defBody (top 7)) = true := by decide +kernel
theorem ck_is_move : ckB ⟨d_is_move.N, defScope (top 8), fun _ => true, T, free⟩ d_is_move.fresh d_is_move.dk d_is_move.body (defBody (top 8)) = true := by decide +kernel
theorem ck_is_part : ckB ⟨d_is_part.N, defScope (top 9), fun _ => true, T, free⟩ d_is_part.fresh d_is_part.dk d_is_part.body (defBody (top 9)) = true := by decide +kernel
theorem ck_net_of : ckB ⟨d_net_of.N, defScope (top 10), fun _ => true, T, free⟩ d_net_of.fresh d_net_of.dk d_net_of.body (defBody (top 10)) = true := by decide +kernel
theorem ck_is_start : ckB ⟨d_is_start.N, defScope (top 11), fun _ => true, T, free⟩ d_is_start.fresh d_is_start.dk d_is_start.body (defBody (top 11)) = true := by decide +kernel
theorem ck_is_plan_value : ckB ⟨d_is_plan_value.N, defScope (top 12), fun _ => true, T, free⟩ d_is_plan_value.fresh d_is_plan_value.dk d_is_plan_value.body (defBody (top 12)) = true := by decide +kernel
theorem ck_is_plan : ckB ⟨d_is_plan.N, defScope (top 13), fun _ => true, T, free⟩ d_is_plan.fresh d_is_plan.dk d_is_plan.body (defBody (top 13)) = true := by decide +kernel
theorem ck__law_deck : ckB ⟨d__law_deck.N, defScope (top 15), fun _ => true, T, free⟩ d__law_deck.fresh d__law_deck.dk d__law_deck.body (defBody (top 15)) = true := by decide +kernel
theorem ck__law_pick : ckB ⟨d__law_pick.N, defScope (top 16), fun _ => true, T, free⟩ d__law_pick.fresh d__law_pick.dk d__law_pick.body (defBody (top 16)) = true := by decide +kernel
theorem ck__law_whole : ckB ⟨d__law_whole.N, defScope (top 17), fun _ => true, T, free⟩ d__law_whole.fresh d__law_whole.dk d__law_whole.body (defBody (top 17)) = true := by decide +kernel
theorem ck__law_one : ckB ⟨d__law_one.N, defScope (top 18), fun _ => true, T, free⟩ d__law_one.fresh d__law_one.dk d__law_one.body (defBody (top 18)) = true := by decide +kernel
theorem ck__law_sort : ckB ⟨d__law_sort.N, defScope (top 19), fun _ => true, T, free⟩ d__law_sort.fresh d__law_sort.dk d__law_sort.body (defBody (top 19)) = true := by decide +kernel
theorem ck__law_same : ckB ⟨d__law_same.N, defScope (top 20), fun _ => true, T, free⟩ d__law_same.fresh d__law_same.dk d__law_same.body (defBody (top 20)) = true := by decide +kernel
theorem ck__law_known : ckB ⟨d__law_known.N, defScope (top 21), fun _ => true, T, free⟩ d__law_known.fresh d__law_known.dk d__law_known.body (defBody (top 21)) = true := by decide +kernel
theorem ck__law_net : ckB ⟨d__law_net.N, defScope (top 22), fun _ => true, T, free⟩ d__law_net.fresh d__law_net.dk d__law_net.body (defBody (top 22)) = true := by decide +kernel
theorem ck__law_a_move : ckB ⟨d__law_a_move.N, defScope (top 23), fun _ => true, T, free⟩ d__law_a_move.fresh d__law_a_move.dk d__law_a_move.body (defBody (top 23)) = true := by decide +kernel
theorem ck__law_a_part : ckB ⟨d__law_a_part.N, defScope (top 24), fun _ => true, T, free⟩ d__law_a_part.fresh d__law_a_part.dk d__law_a_part.body (defBody (top 24)) = true := by decide +kernel
theorem ck__law_there_and_back : ckB ⟨d__law_there_and_back.N, defScope (top 25), fun _ => true, T, free⟩ d__law_there_and_back.fresh d__law_there_and_back.dk d__law_there_and_back.body (defBody (top 25)) = true := by decide +kernel
theorem ck__law_by_twos : ckB ⟨d__law_by_twos.N, defScope (top 26), fun _ => true, T, free⟩ d__law_by_twos.fresh d__law_by_twos.dk d__law_by_twos.body (defBody (top 26)) = true := by decide +kernel
theorem ck__law_a_right : ckB ⟨d__law_a_right.N, defScope (top 27), fun _ => true, T, free⟩ d__law_a_right.fresh d__law_a_right.dk d__law_a_right.body (defBody (top 27)) = true := by decide +kernel
theorem ck__law_a_plan : ckB ⟨d__law_a_plan.N, defScope (top 28), fun _ => true, T, free⟩ d__law_a_plan.fresh d__law_a_plan.dk d__law_a_plan.body (defBody (top 28)) = true := by decide +kernel
theorem ck__law_number_so : ckB ⟨d__law_number_so.N, defScope (top 29), fun _ => true, T, free⟩ d__law_number_so.fresh d__law_number_so.dk d__law_number_so.body (defBody (top 29)) = true := by decide +kernel
theorem ck__law_is_a_move : ckB ⟨d__law_is_a_move.N, defScope (top 30), fun _ => true, T, free⟩ d__law_is_a_move.fresh d__law_is_a_move.dk d__law_is_a_move.body (defBody (top 30)) = true := by decide +kernel
theorem ck__law_is_a_part : ckB ⟨d__law_is_a_part.N, defScope (top 31), fun _ => true, T, free⟩ d__law_is_a_part.fresh d__law_is_a_part.dk d__law_is_a_part.body (defBody (top 31)) = true := by decide +kernel
theorem ck__law_is_a_plan : ckB ⟨d__law_is_a_plan.N, defScope (top 32), fun _ => true, T, free⟩ d__law_is_a_plan.fresh d__law_is_a_plan.dk d__law_is_a_plan.body (defBody (top 32)) = true := by decide +kernel
theorem ck__law_spoilt : ckB ⟨d__law_spoilt.N, defScope (top 33), fun _ => true, T, free⟩ d__law_spoilt.fresh d__law_spoilt.dk d__law_spoilt.body (defBody (top 33)) = true := by decide +kernel
theorem ck__law_alone : ckB ⟨d__law_alone.N, defScope (top 34), fun _ => true, T, free⟩ d__law_alone.fresh d__law_alone.dk d__law_alone.body (defBody (top 34)) = true := by decide +kernel
theorem ck__law_written : ckB ⟨d__law_written.N, defScope (top 35), fun _ => true, T, free⟩ d__law_written.fresh d__law_written.dk d__law_written.body (defBody (top 35)) = true := by decide +kernel
theorem ck_law : ckB ⟨d_law.N, defScope (top 36), fun _ => true, T, free⟩ d_law.fresh d_law.dk d_law.body (defBody (top 36)) = true := by decide +kernel
end K01
set_option Elab.async false
set_option linter.all false
set_option maxRecDepth 100000
set_option maxHeartbeats 1000000
namespace K01
open PySem hiding plain
open Rf
variable {fu n : Nat}
theorem T1 : T "is_within" = some (.fn d_is_within) := by rfl
theorem T2 : T "has_items" = some (.fn d_has_items) := by rfl
theorem T3 : T "is_one_of" = some (.fn d_is_one_of) := by rfl
theorem T4 : T "is_move" = some (.fn d_is_move) := by rfl
theorem T5 : T "is_part" = some (.fn d_is_part) := by rfl
theorem T6 : T "net_of" = some (.fn d_net_of) := by rfl
theorem T7 : T "is_start" = some (.fn d_is_start) := by rfl
theorem T8 : T "is_plan_value" = some (.fn d_is_plan_value) := by rfl
theorem T9 : T "is_plan" = some (.fn d_is_plan) := by rfl
theorem gK : globT T "KINDS" = some (.tup [.str "across", .str "slant", .str "straight"]) := by rfl
theorem gS : globT T "SIDES" = some (.tup [.str "L", .str "R"]) := by rfl
theorem gE : globT T "ENDS" = some (.tup [.str "b", .str "t"]) := by rfl
theorem gM : globT T "MODES" = some (.tup [.str "once", .str "again"]) := by rfl
def intIn (lo hi : Int) : D → Bool
  | .int i => decide (lo ≤ i) && decide (i ≤ hi)
  | _ => false
def tupIn (lo hi : Int) : D → Bool
  | .tup xs => decide (lo ≤ xs.length) && decide ((xs.length : Int) ≤ hi)
  | _ => false
def strIn (ws : List Str) : D → Bool
  | .str s => ws.any fun w => w == s
  | _ => false
theorem within_ok (d : D) (lo hi : Int) (hp : plainTy d = true) : callN T fu (n + 1) "is_within" [] [d, .int lo, .int hi] = .ok (.bl (intIn lo hi d), []) := by
  rw [call_eq T1 rfl]
  cases d <;> first | (cases hp; done) | (simp [ixL, place, Rf.plain, Rf.plains, depth, depths, eqD, eqDs, eqOk, eq_c, ne_c, iteO_b, onB_b, d_is_within, intIn]; done) | skip
  rename_i i
  by_cases h : lo ≤ i <;> simp [ixL, place, Rf.plain, Rf.plains, depth, depths, eqD, eqDs, eqOk, eq_c, ne_c, iteO_b, onB_b, d_is_within, intIn, h]
theorem items_ok (d : D) (lo hi : Int) (hp : plainTy d = true) : callN T fu (n + 1) "has_items" [] [d, .int lo, .int hi] = .ok (.bl (tupIn lo hi d), []) := by
  rw [call_eq T2 rfl]
  cases d <;> first | (cases hp; done) | (simp [ixL, place, Rf.plain, Rf.plains, depth, depths, eqD, eqDs, eqOk, eq_c, ne_c, iteO_b, onB_b, d_has_items, tupIn]; done) | skip
  rename_i i
  by_cases h : lo ≤ i.length <;> simp [ixL, place, Rf.plain, Rf.plains, depth, depths, eqD, eqDs, eqOk, eq_c, ne_c, iteO_b, onB_b, d_has_items, tupIn, h]
theorem flat_str (ws : List Str) : (ws.map D.str).all flatD = true := by simp [ixL, place, Rf.plain, Rf.plains, depth, depths, eqD, eqDs, eqOk, eq_c, ne_c, iteO_b, onB_b, List.all_map]
theorem in_str (i : Str) (ws : List Str) : inD (.str i) (ws.map D.str) = ws.any fun w => w == i := by
  unfold inD
  rw [List.any_map]
  congr 1
theorem one_of_ok (d : D) (ws : List Str) (hp : plainTy d = true) : callN T fu (n + 1) "is_one_of" [] [d, .tup (ws.map .str)] = .ok (.bl (strIn ws d), []) := by
  rw [call_eq T3 rfl]
  cases d <;> first | (cases hp; done) | (simp [ixL, place, Rf.plain, Rf.plains, depth, depths, eqD, eqDs, eqOk, eq_c, ne_c, iteO_b, onB_b, d_is_one_of, strIn]; done) | skip
  rename_i i
  simp [ixL, place, Rf.plain, Rf.plains, depth, depths, eqD, eqDs, eqOk, eq_c, ne_c, iteO_b, onB_b, d_is_one_of, flat_str, in_str, strIn]
/-- a move -/
def moveOk : D → Bool
  | .tup [.str s, m] => if s == "across" then intIn 0 0 m else if s == "slant" then intIn (-2) 2 m && !(intIn 0 0 m) else if s == "straight" then intIn (-3) 3 m && !(intIn 0 0 m) else false
  | _ => false
theorem plain_ty {d : D} (h : Rf.plain d = true) : plainTy d = true := by cases d <;> first | rfl | cases h
theorem plains_get : ∀ {xs : List D}, plains xs = true → ∀ x ∈ xs, Rf.plain x = true
  | [], _, x, hx => by cases hx
  | y :: ys, h, x, hx => by
    simp only [plains, Bool.and_eq_true] at h
    rcases List.mem_cons.mp hx with e | e
    · rw [e]; exact h.1
    · exact plains_get h.2 x e
theorem tup_pl {xs : List D} (h : Rf.plain (.tup xs) = true) : ∀ x ∈ xs, Rf.plain x = true := plains_get h
theorem tup2 {d : D} (h : tupIn 2 2 d = true) : ∃ a b, d = .tup [a, b] := by
  cases d <;> first | (cases h; done) | skip
  rename_i xs
  simp only [tupIn, Bool.and_eq_true, decide_eq_true_eq] at h
  match xs, h with
  | [a, b], _ => exact ⟨a, b, rfl⟩
  | [], h => simp [ixL, place, Rf.plain, Rf.plains, depth, depths, eqD, eqDs, eqOk, eq_c, ne_c, iteO_b, onB_b] at h
  | [_], h => simp [ixL, place, Rf.plain, Rf.plains, depth, depths, eqD, eqDs, eqOk, eq_c, ne_c, iteO_b, onB_b] at h
  | _ :: _ :: _ :: _, h => simp [ixL, place, Rf.plain, Rf.plains, depth, depths, eqD, eqDs, eqOk, eq_c, ne_c, iteO_b, onB_b] at h; omega
theorem tup3 {d : D} (h : tupIn 3 3 d = true) : ∃ a b c, d = .tup [a, b, c] := by
  cases d <;> first | (cases h; done) | skip
  rename_i xs
  simp only [tupIn, Bool.and_eq_true, decide_eq_true_eq] at h
  match xs, h with
  | [a, b, c], _ => exact ⟨a, b, c, rfl⟩
  | [], h => simp [ixL, place, Rf.plain, Rf.plains, depth, depths, eqD, eqDs, eqOk, eq_c, ne_c, iteO_b, onB_b] at h
  | [_], h => simp [ixL, place, Rf.plain, Rf.plains, depth, depths, eqD, eqDs, eqOk, eq_c, ne_c, iteO_b, onB_b] at h
  | [_, _], h => simp [ixL, place, Rf.plain, Rf.plains, depth, depths, eqD, eqDs, eqOk, eq_c, ne_c, iteO_b, onB_b] at h
  | _ :: _ :: _ :: _ :: _, h => simp [ixL, place, Rf.plain, Rf.plains, depth, depths, eqD, eqDs, eqOk, eq_c, ne_c, iteO_b, onB_b] at h; omega
theorem str3 {d : D} {a b c : Str} (h : strIn [a, b, c] d = true) : d = .str a ∨ d = .str b ∨ d = .str c := by
  cases d <;> first | (cases h; done) | skip
  simp [ixL, place, Rf.plain, Rf.plains, depth, depths, eqD, eqDs, eqOk, eq_c, ne_c, iteO_b, onB_b, strIn] at h
  rcases h with h | h | h <;> simp [ixL, place, Rf.plain, Rf.plains, depth, depths, eqD, eqDs, eqOk, eq_c, ne_c, iteO_b, onB_b, h]
theorem str2 {d : D} {a b : Str} (h : strIn [a, b] d = true) : d = .str a ∨ d = .str b := by
  cases d <;> first | (cases h; done) | skip
  simp [ixL, place, Rf.plain, Rf.plains, depth, depths, eqD, eqDs, eqOk, eq_c, ne_c, iteO_b, onB_b, strIn] at h
  rcases h with h | h <;> simp [ixL, place, Rf.plain, Rf.plains, depth, depths, eqD, eqDs, eqOk, eq_c, ne_c, iteO_b, onB_b, h]
theorem int_of {lo hi : Int} {d : D} (h : intIn lo hi d = true) : ∃ i, d = .int i ∧ lo ≤ i ∧ i ≤ hi := by
  cases d <;> first | (cases h; done) | skip
  simp [ixL, place, Rf.plain, Rf.plains, depth, depths, eqD, eqDs, eqOk, eq_c, ne_c, iteO_b, onB_b, intIn] at h
  exact ⟨_, rfl, h⟩
theorem int_pl {d : D} {lo hi : Int} (h : intIn lo hi d = false) : True := trivial
theorem z0 (i : Int) : intIn 0 0 (.int i) = (i == 0) := by
  unfold intIn
  rw [Bool.eq_iff_iff]
  simp [ixL, place, Rf.plain, Rf.plains, depth, depths, eqD, eqDs, eqOk, eq_c, ne_c, iteO_b, onB_b]
  omega
theorem not_two {d : D} (h : tupIn 2 2 d = false) : ∀ a b, d ≠ .tup [a, b] := by
  intro a b e
  subst e
  simp [ixL, place, Rf.plain, Rf.plains, depth, depths, eqD, eqDs, eqOk, eq_c, ne_c, iteO_b, onB_b, tupIn] at h
theorem not_three {d : D} (h : tupIn 3 3 d = false) : ∀ a b c, d ≠ .tup [a, b, c] := by
  intro a b c e
  subst e
  simp [ixL, place, Rf.plain, Rf.plains, depth, depths, eqD, eqDs, eqOk, eq_c, ne_c, iteO_b, onB_b, tupIn] at h
theorem moveOk_no {d : D} (h : ∀ a b, d ≠ .tup [a, b]) : moveOk d = false := by
  unfold moveOk
  split
  · rename_i s m
    exact absurd rfl (h _ _)
  · rfl
theorem move_ok (d : D) (hp : Rf.plain d = true) : callN T fu (n + 2) "is_move" [] [d] = .ok (.bl (moveOk d), []) := by
  rw [call_eq T4 rfl]
  have e2 := items_ok (fu := fu) (n := n) d 2 2 (plain_ty hp)
  by_cases h2 : tupIn 2 2 d = true
  · obtain ⟨a, b, rfl⟩ := tup2 h2
    have pa : Rf.plain a = true := tup_pl hp a (by simp [ixL, place, Rf.plain, Rf.plains, depth, depths, eqD, eqDs, eqOk, eq_c, ne_c, iteO_b, onB_b])
    have pb : Rf.plain b = true := tup_pl hp b (by simp [ixL, place, Rf.plain, Rf.plains, depth, depths, eqD, eqDs, eqOk, eq_c, ne_c, iteO_b, onB_b])
    have e1 := one_of_ok (fu := fu) (n := n) a ["across", "slant", "straight"] (plain_ty pa)
    simp only [List.map] at e1
    rw [h2] at e2
    by_cases h1 : strIn ["across", "slant", "straight"] a = true
    · rw [h1] at e1
      rcases str3 h1 with rfl | rfl | rfl
      · have e3 := within_ok (fu := fu) (n := n) b 0 0 (plain_ty pb)
        simp [ixL, place, Rf.plain, Rf.plains, depth, depths, eqD, eqDs, eqOk, eq_c, ne_c, iteO_b, onB_b, d_is_move, e2, e1, gK, moveOk, e3]
      · have e3 := within_ok (fu := fu) (n := n) b (-2) 2 (plain_ty pb)
        have hd : (("slant" : Str) == "across") = false := by decide
        by_cases h3 : intIn (-2) 2 b = true
        · obtain ⟨i, rfl, _, _⟩ := int_of h3
          rw [h3] at e3
          simp [ixL, place, Rf.plain, Rf.plains, depth, depths, eqD, eqDs, eqOk, eq_c, ne_c, iteO_b, onB_b, d_is_move, e2, e1, gK, moveOk, e3, hd, h3, z0]
        · have h3 : intIn (-2) 2 b = false := by simpa [ixL, place, Rf.plain, Rf.plains, depth, depths, eqD, eqDs, eqOk, eq_c, ne_c, iteO_b, onB_b] using h3
          rw [h3] at e3
          simp [ixL, place, Rf.plain, Rf.plains, depth, depths, eqD, eqDs, eqOk, eq_c, ne_c, iteO_b, onB_b, d_is_move, e2, e1, gK, moveOk, e3, hd, h3]
      · have e3 := within_ok (fu := fu) (n := n) b (-3) 3 (plain_ty pb)
        have hd : (("straight" : Str) == "across") = false := by decide
        have hd2 : (("straight" : Str) == "slant") = false := by decide
        by_cases h3 : intIn (-3) 3 b = true
        · obtain ⟨i, rfl, _, _⟩ := int_of h3
          rw [h3] at e3
          simp [ixL, place, Rf.plain, Rf.plains, depth, depths, eqD, eqDs, eqOk, eq_c, ne_c, iteO_b, onB_b, d_is_move, e2, e1, gK, moveOk, e3, hd, hd2, h3, z0]
        · have h3 : intIn (-3) 3 b = false := by simpa [ixL, place, Rf.plain, Rf.plains, depth, depths, eqD, eqDs, eqOk, eq_c, ne_c, iteO_b, onB_b] using h3
          rw [h3] at e3
          simp [ixL, place, Rf.plain, Rf.plains, depth, depths, eqD, eqDs, eqOk, eq_c, ne_c, iteO_b, onB_b, d_is_move, e2, e1, gK, moveOk, e3, hd, hd2, h3]
    · have h1 : strIn ["across", "slant", "straight"] a = false := by simpa [ixL, place, Rf.plain, Rf.plains, depth, depths, eqD, eqDs, eqOk, eq_c, ne_c, iteO_b, onB_b] using h1
      rw [h1] at e1
      have : moveOk (.tup [a, b]) = false := by
        cases a with
        | str s =>
          simp [ixL, place, Rf.plain, Rf.plains, depth, depths, eqD, eqDs, eqOk, eq_c, ne_c, iteO_b, onB_b, strIn] at h1
          obtain ⟨h1, h3, h4⟩ := h1
          have g1 : (s == ("across" : Str)) = false := beq_eq_false_iff_ne.mpr (Ne.symm h1)
          have g2 : (s == ("slant" : Str)) = false := beq_eq_false_iff_ne.mpr (Ne.symm h3)
          have g3 : (s == ("straight" : Str)) = false := beq_eq_false_iff_ne.mpr (Ne.symm h4)
          simp only [moveOk, g1, g2, g3]
          rfl
        | _ => rfl
      rw [this]
      simp [ixL, place, Rf.plain, Rf.plains, depth, depths, eqD, eqDs, eqOk, eq_c, ne_c, iteO_b, onB_b, d_is_move, e2, e1, gK]
  · have h2 : tupIn 2 2 d = false := by simpa [ixL, place, Rf.plain, Rf.plains, depth, depths, eqD, eqDs, eqOk, eq_c, ne_c, iteO_b, onB_b] using h2
    rw [h2] at e2
    rw [moveOk_no (not_two h2)]
    simp [ixL, place, Rf.plain, Rf.plains, depth, depths, eqD, eqDs, eqOk, eq_c, ne_c, iteO_b, onB_b, d_is_move, e2]
/-- the sum of the moves -/
def byOf : D → Int
  | .tup [_, .int i] => i
  | _ => 0
def netN (ms : List D) : Int := (ms.map byOf).sum
theorem moveOk_sh {m : D} (h : moveOk m = true) : ∃ s i, m = .tup [.str s, .int i] := by
  unfold moveOk at h
  split at h
  · rename_i s b
    cases b with
    | int i => exact ⟨s, i, rfl⟩
    | _ => simp [ixL, place, Rf.plain, Rf.plains, depth, depths, eqD, eqDs, eqOk, eq_c, ne_c, iteO_b, onB_b, intIn] at h
  · cases h
theorem intsD_map : ∀ xs : List Int, intsD (xs.map D.int) = some xs
  | [] => rfl
  | x :: xs => by simp [ixL, place, Rf.plain, Rf.plains, depth, depths, eqD, eqDs, eqOk, eq_c, ne_c, iteO_b, onB_b, intsD, intsD_map xs]
theorem boolsD_map : ∀ xs : List Bool, boolsD (xs.map D.bl) = some xs
  | [] => rfl
  | x :: xs => by simp [ixL, place, Rf.plain, Rf.plains, depth, depths, eqD, eqDs, eqOk, eq_c, ne_c, iteO_b, onB_b, boolsD, boolsD_map xs]
theorem net_ok (ms : List D) (h : ∀ m ∈ ms, moveOk m = true) (hl : ms.length ≤ 1000) : callN T fu (n + 1) "net_of" [] [.tup ms] = .ok (.int (netN ms), []) := by
  rw [call_eq T6 rfl]
  have hs : ms.length ≤ SZ := by unfold SZ; omega
  have hm := comp_map (cl := clN T fu n) (ρ := [Sl.p (.tup ms), Sl.u]) (tg := .n 1) (it := .seq (.var 0)) (c := none) (elt := .ix (.var 1) (.lit (.int 1))) (own := [("move", 1)]) (k := []) (k1 := []) (l := ms) (fun m => D.int (byOf m)) (by simp [ixL, place, Rf.plain, Rf.plains, depth, depths, eqD, eqDs, eqOk, eq_c, ne_c, iteO_b, onB_b, seqOf]) hs (fun m hm => by
    obtain ⟨s, i, rfl⟩ := moveOk_sh (h m hm)
    simp [ixL, place, Rf.plain, Rf.plains, depth, depths, eqD, eqDs, eqOk, eq_c, ne_c, iteO_b, onB_b, itF, bindT, wipeS, byOf])
  have e3 : intsD (ms.map fun m => D.int (byOf m)) = some (ms.map byOf) := by
    have e2 : (ms.map fun m => D.int (byOf m)) = (ms.map byOf).map D.int := by simp [ixL, place, Rf.plain, Rf.plains, depth, depths, eqD, eqDs, eqOk, eq_c, ne_c, iteO_b, onB_b]
    rw [e2]
    exact intsD_map _
  simp [ixL, place, Rf.plain, Rf.plains, depth, depths, eqD, eqDs, eqOk, eq_c, ne_c, iteO_b, onB_b, d_net_of, hm, e3, netN]
end K01
set_option Elab.async false
set_option linter.all false
set_option maxRecDepth 100000
set_option maxHeartbeats 1000000
namespace K01
open PySem hiding plain
open Rf
variable {fu n : Nat}
theorem all_map (ms : List D) (g : D → Bool) : (ms.map fun m => D.bl (g m)) = (ms.map g).map D.bl := by simp [ixL, place, Rf.plain, Rf.plains, depth, depths, eqD, eqDs, eqOk, eq_c, ne_c, iteO_b, onB_b]
theorem bools_of (ms : List D) (g : D → Bool) : boolsD (ms.map fun m => D.bl (g m)) = some (ms.map g) := by rw [all_map]; exact boolsD_map _
/-- a part -/
def partOk : D → Bool
  | .tup [.str md, .tup ms] => (("once" : Str) == md || ("again" : Str) == md) && (decide (1 ≤ ms.length) && decide (ms.length ≤ 6)) && ms.all moveOk && (md == "once" || intIn 1 4 (.int (if netN ms < 0 then -netN ms else netN ms)))
  | _ => false
theorem partOk_no {d : D} (h : ∀ a b, d ≠ .tup [a, b]) : partOk d = false := by
  unfold partOk
  split
  · exact absurd rfl (h _ _)
  · rfl
theorem tupIn_c (lo hi : Nat) (ms : List D) : tupIn lo hi (.tup ms) = (decide (lo ≤ ms.length) && decide (ms.length ≤ hi)) := by
  simp [ixL, place, Rf.plain, Rf.plains, depth, depths, eqD, eqDs, eqOk, eq_c, ne_c, iteO_b, onB_b, tupIn]
theorem tup_of {d : D} {lo hi : Int} (h : tupIn lo hi d = true) : ∃ ms, d = .tup ms := by
  cases d <;> first | (cases h; done) | exact ⟨_, rfl⟩
theorem part_ok (d : D) (hp : Rf.plain d = true) : callN T fu (n + 3) "is_part" [] [d] = .ok (.bl (partOk d), []) := by
  rw [call_eq T5 rfl]
  have e2 := items_ok (fu := fu) (n := n + 1) d 2 2 (plain_ty hp)
  by_cases h2 : tupIn 2 2 d = true
  · obtain ⟨a, b, rfl⟩ := tup2 h2
    have pa : Rf.plain a = true := tup_pl hp a (by simp [ixL, place, Rf.plain, Rf.plains, depth, depths, eqD, eqDs, eqOk, eq_c, ne_c, iteO_b, onB_b])
    have pb : Rf.plain b = true := tup_pl hp b (by simp [ixL, place, Rf.plain, Rf.plains, depth, depths, eqD, eqDs, eqOk, eq_c, ne_c, iteO_b, onB_b])
    have e1 := one_of_ok (fu := fu) (n := n + 1) a ["once", "again"] (plain_ty pa)
    simp only [List.map] at e1
    rw [h2] at e2
    by_cases h1 : strIn ["once", "again"] a = true
    · rw [h1] at e1
      have e3 := items_ok (fu := fu) (n := n + 1) b 1 6 (plain_ty pb)
      by_cases h3 : tupIn 1 6 b = true
      · rw [h3] at e3
        obtain ⟨ms, rfl⟩ := tup_of h3
        have hl : 1 ≤ ms.length ∧ ms.length ≤ 6 := by
          simp [ixL, place, Rf.plain, Rf.plains, depth, depths, eqD, eqDs, eqOk, eq_c, ne_c, iteO_b, onB_b, tupIn] at h3
          omega
        have hs : ms.length ≤ SZ := by unfold SZ; omega
        obtain ⟨md, rfl⟩ : ∃ md, a = .str md := by rcases str2 h1 with e | e <;> exact ⟨_, e⟩
        have hm := comp_map (cl := clN T fu (n + 2)) (ρ := [Sl.p (.tup [.str md, .tup ms]), Sl.u]) (tg := .n 1) (it := .seq (.ix (.var 0) (.lit (.int 1)))) (c := none) (elt := .call "is_move" [.var 1]) (own := [("move", 1)]) (k := []) (k1 := []) (l := ms) (fun m => D.bl (moveOk m)) (by simp [ixL, place, Rf.plain, Rf.plains, depth, depths, eqD, eqDs, eqOk, eq_c, ne_c, iteO_b, onB_b]) hs (fun m hm => by
          have e := move_ok (fu := fu) (n := n) m (tup_pl pb m hm)
          simp [ixL, place, Rf.plain, Rf.plains, depth, depths, eqD, eqDs, eqOk, eq_c, ne_c, iteO_b, onB_b, itF, e])
        by_cases h4 : ms.all moveOk = true
        · have e5 := net_ok (fu := fu) (n := n + 1) ms (by simpa [ixL, place, Rf.plain, Rf.plains, depth, depths, eqD, eqDs, eqOk, eq_c, ne_c, iteO_b, onB_b] using h4) (by omega)
          have e6 := within_ok (fu := fu) (n := n + 1) (.int (if netN ms < 0 then -netN ms else netN ms)) 1 4 rfl
          rcases str2 h1 with e | e <;> cases e
          · simp [ixL, place, Rf.plain, Rf.plains, depth, depths, eqD, eqDs, eqOk, eq_c, ne_c, iteO_b, onB_b, d_is_part, e2, e1, e3, gM, hm, bools_of, h4, hl, partOk]
          · have hd : (("again" : Str) == "once") = false := by decide
            have hd2 : (("once" : Str) == "again") = false := by decide
            simp [ixL, place, Rf.plain, Rf.plains, depth, depths, eqD, eqDs, eqOk, eq_c, ne_c, iteO_b, onB_b, d_is_part, e2, e1, e3, gM, hm, bools_of, h4, hl, partOk, hd, hd2, e5, e6]
        · have h4 : ms.all moveOk = false := by simpa [ixL, place, Rf.plain, Rf.plains, depth, depths, eqD, eqDs, eqOk, eq_c, ne_c, iteO_b, onB_b] using h4
          have : partOk (.tup [.str md, .tup ms]) = false := by simp only [partOk, h4, Bool.and_false, Bool.false_and]
          rw [this]
          simp [ixL, place, Rf.plain, Rf.plains, depth, depths, eqD, eqDs, eqOk, eq_c, ne_c, iteO_b, onB_b, d_is_part, e2, e1, e3, gM, hm, bools_of, h4]
      · have h3 : tupIn 1 6 b = false := by simpa [ixL, place, Rf.plain, Rf.plains, depth, depths, eqD, eqDs, eqOk, eq_c, ne_c, iteO_b, onB_b] using h3
        rw [h3] at e3
        have : partOk (.tup [a, b]) = false := by
          unfold partOk
          split
          · rename_i md ms he
            cases he
            have : (decide (1 ≤ ms.length) && decide (ms.length ≤ 6)) = false := by rw [← tupIn_c]; exact h3
            rw [this]
            simp [ixL, place, Rf.plain, Rf.plains, depth, depths, eqD, eqDs, eqOk, eq_c, ne_c, iteO_b, onB_b]
          · rfl
        rw [this]
        simp [ixL, place, Rf.plain, Rf.plains, depth, depths, eqD, eqDs, eqOk, eq_c, ne_c, iteO_b, onB_b, d_is_part, e2, e1, e3, gM]
    · have h1 : strIn ["once", "again"] a = false := by simpa [ixL, place, Rf.plain, Rf.plains, depth, depths, eqD, eqDs, eqOk, eq_c, ne_c, iteO_b, onB_b] using h1
      rw [h1] at e1
      have : partOk (.tup [a, b]) = false := by
        unfold partOk
        split
        · rename_i md ms he
          cases he
          have : (("once" : Str) == md || ("again" : Str) == md) = false := by simpa [ixL, place, Rf.plain, Rf.plains, depth, depths, eqD, eqDs, eqOk, eq_c, ne_c, iteO_b, onB_b, strIn] using h1
          rw [this]
          simp [ixL, place, Rf.plain, Rf.plains, depth, depths, eqD, eqDs, eqOk, eq_c, ne_c, iteO_b, onB_b]
        · rfl
      rw [this]
      simp [ixL, place, Rf.plain, Rf.plains, depth, depths, eqD, eqDs, eqOk, eq_c, ne_c, iteO_b, onB_b, d_is_part, e2, e1, gM]
  · have h2 : tupIn 2 2 d = false := by simpa [ixL, place, Rf.plain, Rf.plains, depth, depths, eqD, eqDs, eqOk, eq_c, ne_c, iteO_b, onB_b] using h2
    rw [h2] at e2
    rw [partOk_no (not_two h2)]
    simp [ixL, place, Rf.plain, Rf.plains, depth, depths, eqD, eqDs, eqOk, eq_c, ne_c, iteO_b, onB_b, d_is_part, e2]
end K01
set_option Elab.async false
set_option linter.all false
set_option maxRecDepth 100000
set_option maxHeartbeats 1000000
namespace K01
open PySem hiding plain
open Rf
variable {fu n : Nat}
def startOk : D → Bool
  | .tup [a, b, c] => strIn ["L", "R"] a && strIn ["b", "t"] b && intIn 0 3 c
  | _ => false
theorem startOk_no {d : D} (h : ∀ a b c, d ≠ .tup [a, b, c]) : startOk d = false := by
  unfold startOk
  split
  · exact absurd rfl (h _ _ _)
  · rfl
theorem start_ok (d : D) (hp : Rf.plain d = true) : callN T fu (n + 2) "is_start" [] [d] = .ok (.bl (startOk d), []) := by
  rw [call_eq T7 rfl]
  have e0 := items_ok (fu := fu) (n := n) d 3 3 (plain_ty hp)
  by_cases h0 : tupIn 3 3 d = true
  · obtain ⟨a, b, c, rfl⟩ := tup3 h0
    have pa : Rf.plain a = true := tup_pl hp a (by simp [ixL, place, Rf.plain, Rf.plains, depth, depths, eqD, eqDs, eqOk, eq_c, ne_c, iteO_b, onB_b])
    have pb : Rf.plain b = true := tup_pl hp b (by simp [ixL, place, Rf.plain, Rf.plains, depth, depths, eqD, eqDs, eqOk, eq_c, ne_c, iteO_b, onB_b])
    have pc : Rf.plain c = true := tup_pl hp c (by simp [ixL, place, Rf.plain, Rf.plains, depth, depths, eqD, eqDs, eqOk, eq_c, ne_c, iteO_b, onB_b])
    have e1 := one_of_ok (fu := fu) (n := n) a ["L", "R"] (plain_ty pa)
    have e2 := one_of_ok (fu := fu) (n := n) b ["b", "t"] (plain_ty pb)
    have e3 := within_ok (fu := fu) (n := n) c 0 3 (plain_ty pc)
    simp only [List.map] at e1 e2
    rw [h0] at e0
    cases h1 : strIn ["L", "R"] a with
    | false =>
      rw [h1] at e1
      simp [ixL, place, Rf.plain, Rf.plains, depth, depths, eqD, eqDs, eqOk, eq_c, ne_c, iteO_b, onB_b, d_is_start, e0, e1, gS, startOk, h1]
    | true =>
      rw [h1] at e1
      cases h2 : strIn ["b", "t"] b with
      | false =>
        rw [h2] at e2
        simp [ixL, place, Rf.plain, Rf.plains, depth, depths, eqD, eqDs, eqOk, eq_c, ne_c, iteO_b, onB_b, d_is_start, e0, e1, e2, gS, gE, startOk, h1, h2]
      | true =>
        rw [h2] at e2
        simp [ixL, place, Rf.plain, Rf.plains, depth, depths, eqD, eqDs, eqOk, eq_c, ne_c, iteO_b, onB_b, d_is_start, e0, e1, e2, e3, gS, gE, startOk, h1, h2]
  · have h0 : tupIn 3 3 d = false := by simpa [ixL, place, Rf.plain, Rf.plains, depth, depths, eqD, eqDs, eqOk, eq_c, ne_c, iteO_b, onB_b] using h0
    rw [h0] at e0
    rw [startOk_no (not_three h0)]
    simp [ixL, place, Rf.plain, Rf.plains, depth, depths, eqD, eqDs, eqOk, eq_c, ne_c, iteO_b, onB_b, d_is_start, e0]
def isBl : D → Bool
  | .bl _ => true
  | _ => false
def partsOk : D → Bool
  | .tup ps => (decide (1 ≤ ps.length) && decide (ps.length ≤ 7)) && ps.all partOk
  | _ => false
def planOk : D → Bool
  | .tup [a, b, c] => startOk a && isBl b && partsOk c
  | _ => false
theorem planOk_no {d : D} (h : ∀ a b c, d ≠ .tup [a, b, c]) : planOk d = false := by
  unfold planOk
  split
  · exact absurd rfl (h _ _ _)
  · rfl
theorem is_bl {d : D} : isTy d .bool = isBl d := by cases d <;> rfl
theorem planval_ok (d : D) (hp : Rf.plain d = true) : callN T fu (n + 4) "is_plan_value" [] [d] = .ok (.bl (planOk d), []) := by
  rw [call_eq T8 rfl]
  have e0 := items_ok (fu := fu) (n := n + 2) d 3 3 (plain_ty hp)
  by_cases h0 : tupIn 3 3 d = true
  · obtain ⟨a, b, c, rfl⟩ := tup3 h0
    have pa : Rf.plain a = true := tup_pl hp a (by simp [ixL, place, Rf.plain, Rf.plains, depth, depths, eqD, eqDs, eqOk, eq_c, ne_c, iteO_b, onB_b])
    have pb : plainTy b = true := plain_ty (tup_pl hp b (by simp [ixL, place, Rf.plain, Rf.plains, depth, depths, eqD, eqDs, eqOk, eq_c, ne_c, iteO_b, onB_b]))
    have pc : Rf.plain c = true := tup_pl hp c (by simp [ixL, place, Rf.plain, Rf.plains, depth, depths, eqD, eqDs, eqOk, eq_c, ne_c, iteO_b, onB_b])
    have e1 := start_ok (fu := fu) (n := n + 1) a pa
    rw [h0] at e0
    cases h1 : startOk a with
    | false =>
      rw [h1] at e1
      simp [ixL, place, Rf.plain, Rf.plains, depth, depths, eqD, eqDs, eqOk, eq_c, ne_c, iteO_b, onB_b, d_is_plan_value, e0, e1, planOk, h1]
    | true =>
      rw [h1] at e1
      cases h2 : isBl b with
      | false => simp [ixL, place, Rf.plain, Rf.plains, depth, depths, eqD, eqDs, eqOk, eq_c, ne_c, iteO_b, onB_b, d_is_plan_value, e0, e1, planOk, h1, h2, is_bl, pb]
      | true =>
        have e3 := items_ok (fu := fu) (n := n + 2) c 1 7 (plain_ty pc)
        cases h3 : tupIn 1 7 c with
        | false =>
          rw [h3] at e3
          have : partsOk c = false := by
            unfold partsOk
            split
            · rename_i ps
              have : (decide (1 ≤ ps.length) && decide (ps.length ≤ 7)) = false := by rw [← tupIn_c]; exact h3
              rw [this, Bool.false_and]
            · rfl
          simp [ixL, place, Rf.plain, Rf.plains, depth, depths, eqD, eqDs, eqOk, eq_c, ne_c, iteO_b, onB_b, d_is_plan_value, e0, e1, e3, planOk, h1, h2, is_bl, pb, this]
        | true =>
          rw [h3] at e3
          obtain ⟨ps, rfl⟩ := tup_of h3
          have hl : 1 ≤ ps.length ∧ ps.length ≤ 7 := by
            simp [ixL, place, Rf.plain, Rf.plains, depth, depths, eqD, eqDs, eqOk, eq_c, ne_c, iteO_b, onB_b, tupIn] at h3
            omega
          have hs : ps.length ≤ SZ := by unfold SZ; omega
          have hm := comp_map (cl := clN T fu (n + 3)) (ρ := [Sl.p (.tup [a, b, .tup ps]), Sl.u]) (tg := .n 1) (it := .seq (.ix (.var 0) (.lit (.int 2)))) (c := none) (elt := .call "is_part" [.var 1]) (own := [("part", 1)]) (k := []) (k1 := []) (l := ps) (fun m => D.bl (partOk m)) (by simp [ixL, place, Rf.plain, Rf.plains, depth, depths, eqD, eqDs, eqOk, eq_c, ne_c, iteO_b, onB_b]) hs (fun m hm => by
            have e := part_ok (fu := fu) (n := n) m (tup_pl pc m hm)
            simp [ixL, place, Rf.plain, Rf.plains, depth, depths, eqD, eqDs, eqOk, eq_c, ne_c, iteO_b, onB_b, itF, e])
          simp [ixL, place, Rf.plain, Rf.plains, depth, depths, eqD, eqDs, eqOk, eq_c, ne_c, iteO_b, onB_b, d_is_plan_value, e0, e1, e3, planOk, h1, h2, is_bl, pb, hm, bools_of, partsOk, hl]
  · have h0 : tupIn 3 3 d = false := by simpa [ixL, place, Rf.plain, Rf.plains, depth, depths, eqD, eqDs, eqOk, eq_c, ne_c, iteO_b, onB_b] using h0
    rw [h0] at e0
    rw [planOk_no (not_three h0)]
    simp [ixL, place, Rf.plain, Rf.plains, depth, depths, eqD, eqDs, eqOk, eq_c, ne_c, iteO_b, onB_b, d_is_plan_value, e0]
theorem plan_ok (d : D) (hp : Rf.plain d = true) : callN T fu (n + 5) "is_plan" [] [d] = .ok (.bl (planOk d), []) := by
  rw [call_eq T9 rfl]
  simp [ixL, place, Rf.plain, Rf.plains, depth, depths, eqD, eqDs, eqOk, eq_c, ne_c, iteO_b, onB_b, d_is_plan, planval_ok (fu := fu) (n := n) d hp]

/-! ### the law's own look -/
theorem U1 : T "_law_whole" = some (.fn d__law_whole) := by rfl
theorem U2 : T "_law_number_so" = some (.fn d__law_number_so) := by rfl
theorem U3 : T "_law_is_a_move" = some (.fn d__law_is_a_move) := by rfl
theorem U4 : T "_law_is_a_part" = some (.fn d__law_is_a_part) := by rfl
theorem U5 : T "_law_is_a_plan" = some (.fn d__law_is_a_plan) := by rfl
theorem U6 : T "_law_net" = some (.fn d__law_net) := by rfl
def isInt : D → Bool
  | .int _ => true
  | _ => false
theorem whole_ok (d : D) (hp : plainTy d = true) : callN T fu (n + 1) "_law_whole" [] [d] = .ok (.bl (isInt d), []) := by
  rw [call_eq U1 rfl]
  cases d <;> first | (cases hp; done) | simp [ixL, place, Rf.plain, Rf.plains, depth, depths, eqD, eqDs, eqOk, eq_c, ne_c, iteO_b, onB_b, d__law_whole, isInt]
theorem number_ok (d : D) (lo hi : Int) (hp : plainTy d = true) : callN T fu (n + 2) "_law_number_so" [] [d, .int lo, .int hi] = .ok (.bl (intIn lo hi d), []) := by
  rw [call_eq U2 rfl]
  have e := whole_ok (fu := fu) (n := n) d hp
  cases d with
  | int i => by_cases h : lo ≤ i <;> simp [ixL, place, Rf.plain, Rf.plains, depth, depths, eqD, eqDs, eqOk, eq_c, ne_c, iteO_b, onB_b, d__law_number_so, e, isInt, intIn, h]
  | _ => simp [ixL, place, Rf.plain, Rf.plains, depth, depths, eqD, eqDs, eqOk, eq_c, ne_c, iteO_b, onB_b, d__law_number_so, e, isInt, intIn]
theorem is_tup {d : D} : isTy d .tuple = match d with | .tup _ => true | _ => false := by cases d <;> rfl
theorem lmove_ok (d : D) (hp : Rf.plain d = true) : callN T fu (n + 3) "_law_is_a_move" [] [d] = .ok (.bl (moveOk d), []) := by
  rw [call_eq U3 rfl]
  cases d with
  | tup xs =>
    match xs, hp with
    | [], _ => simp [ixL, place, Rf.plain, Rf.plains, depth, depths, eqD, eqDs, eqOk, eq_c, ne_c, iteO_b, onB_b, d__law_is_a_move, moveOk]
    | [_], _ => simp [ixL, place, Rf.plain, Rf.plains, depth, depths, eqD, eqDs, eqOk, eq_c, ne_c, iteO_b, onB_b, d__law_is_a_move, moveOk]
    | a :: b :: c :: r, _ => 
      have : ¬ ((r.length : Int) + 1 + 1 + 1 = 2) := by omega
      simp [ixL, place, Rf.plain, Rf.plains, depth, depths, eqD, eqDs, eqOk, eq_c, ne_c, iteO_b, onB_b, d__law_is_a_move, moveOk, this]
    | [a, b], hp =>
      have pa := plain_ty (tup_pl hp a (by simp [ixL, place, Rf.plain, Rf.plains, depth, depths, eqD, eqDs, eqOk, eq_c, ne_c, iteO_b, onB_b]))
      have pb := plain_ty (tup_pl hp b (by simp [ixL, place, Rf.plain, Rf.plains, depth, depths, eqD, eqDs, eqOk, eq_c, ne_c, iteO_b, onB_b]))
      cases a with
      | str s =>
        by_cases c1 : s = "across"
        · subst c1
          have e3 := number_ok (fu := fu) (n := n) b 0 0 pb
          simp [ixL, place, Rf.plain, Rf.plains, depth, depths, eqD, eqDs, eqOk, eq_c, ne_c, iteO_b, onB_b, d__law_is_a_move, moveOk, e3]
        · have g1 : (s == ("across" : Str)) = false := beq_eq_false_iff_ne.mpr c1
          by_cases c2 : s = "slant"
          · subst c2
            have e3 := number_ok (fu := fu) (n := n) b (-2) 2 pb
            have hl : List.lookup ("slant" : Str) [(("slant" : Str), (2 : Int)), ("straight", 3)] = some 2 := by decide
            cases h3 : intIn (-2) 2 b with
            | false =>
              rw [h3] at e3
              simp [ixL, place, Rf.plain, Rf.plains, depth, depths, eqD, eqDs, eqOk, eq_c, ne_c, iteO_b, onB_b, d__law_is_a_move, moveOk, e3, g1, h3, hl]
            | true =>
              rw [h3] at e3
              obtain ⟨i, rfl, _, _⟩ := int_of h3
              simp [ixL, place, Rf.plain, Rf.plains, depth, depths, eqD, eqDs, eqOk, eq_c, ne_c, iteO_b, onB_b, d__law_is_a_move, moveOk, e3, g1, h3, hl, z0]
          · by_cases c3 : s = "straight"
            · subst c3
              have e3 := number_ok (fu := fu) (n := n) b (-3) 3 pb
              have g2 : (("straight" : Str) == ("slant" : Str)) = false := by decide
              have hl : List.lookup ("straight" : Str) [(("slant" : Str), (2 : Int)), ("straight", 3)] = some 3 := by decide
              cases h3 : intIn (-3) 3 b with
              | false =>
                rw [h3] at e3
                simp [ixL, place, Rf.plain, Rf.plains, depth, depths, eqD, eqDs, eqOk, eq_c, ne_c, iteO_b, onB_b, d__law_is_a_move, moveOk, e3, g1, g2, h3, hl]
              | true =>
                rw [h3] at e3
                obtain ⟨i, rfl, _, _⟩ := int_of h3
                simp [ixL, place, Rf.plain, Rf.plains, depth, depths, eqD, eqDs, eqOk, eq_c, ne_c, iteO_b, onB_b, d__law_is_a_move, moveOk, e3, g1, g2, h3, hl, z0]
            · have g2 : (s == ("slant" : Str)) = false := beq_eq_false_iff_ne.mpr c2
              have g3 : (s == ("straight" : Str)) = false := beq_eq_false_iff_ne.mpr c3
              have hl : List.lookup s [(("slant" : Str), (2 : Int)), ("straight", 3)] = none := by simp [ixL, place, Rf.plain, Rf.plains, depth, depths, eqD, eqDs, eqOk, eq_c, ne_c, iteO_b, onB_b, List.lookup, g2, g3]
              have e3 := number_ok (fu := fu) (n := n) b 0 0 pb
              cases h3 : intIn 0 0 b with
              | false =>
                rw [h3] at e3
                simp [ixL, place, Rf.plain, Rf.plains, depth, depths, eqD, eqDs, eqOk, eq_c, ne_c, iteO_b, onB_b, d__law_is_a_move, moveOk, e3, g1, g2, g3, h3, hl]
              | true =>
                rw [h3] at e3
                obtain ⟨i, rfl, q1, q2⟩ := int_of h3
                have : i = 0 := by omega
                subst this
                simp [ixL, place, Rf.plain, Rf.plains, depth, depths, eqD, eqDs, eqOk, eq_c, ne_c, iteO_b, onB_b, d__law_is_a_move, moveOk, e3, g1, g2, g3, h3, hl]
      | fn _ => cases pa
      | scr _ => cases pa
      | _ => simp [ixL, place, Rf.plain, Rf.plains, depth, depths, eqD, eqDs, eqOk, eq_c, ne_c, iteO_b, onB_b, d__law_is_a_move, moveOk]
  | fn _ => cases hp
  | scr _ => cases hp
  | _ => simp [ixL, place, Rf.plain, Rf.plains, depth, depths, eqD, eqDs, eqOk, eq_c, ne_c, iteO_b, onB_b, d__law_is_a_move, moveOk]
theorem lnet_ok (ms : List D) (h : ∀ m ∈ ms, moveOk m = true) (hl : ms.length ≤ 1000) : callN T fu (n + 1) "_law_net" [] [.tup ms] = .ok (.int (netN ms), []) := by
  rw [call_eq U6 rfl]
  have hs : ms.length ≤ SZ := by unfold SZ; omega
  have hm := comp_map (cl := clN T fu n) (ρ := [Sl.p (.tup ms), Sl.u, Sl.u]) (tg := .t [.n 1, .n 2]) (it := .seq (.var 0)) (c := none) (elt := .var 2) (own := [("kind_so", 1), ("by_so", 2)]) (k := []) (k1 := []) (l := ms) (fun m => D.int (byOf m)) (by simp [ixL, place, Rf.plain, Rf.plains, depth, depths, eqD, eqDs, eqOk, eq_c, ne_c, iteO_b, onB_b]) hs (fun m hm => by
    obtain ⟨s, i, rfl⟩ := moveOk_sh (h m hm)
    simp [ixL, place, Rf.plain, Rf.plains, depth, depths, eqD, eqDs, eqOk, eq_c, ne_c, iteO_b, onB_b, itF, byOf])
  have e3 : intsD (ms.map fun m => D.int (byOf m)) = some (ms.map byOf) := by
    have e2 : (ms.map fun m => D.int (byOf m)) = (ms.map byOf).map D.int := by simp [ixL, place, Rf.plain, Rf.plains, depth, depths, eqD, eqDs, eqOk, eq_c, ne_c, iteO_b, onB_b]
    rw [e2]
    exact intsD_map _
  simp [ixL, place, Rf.plain, Rf.plains, depth, depths, eqD, eqDs, eqOk, eq_c, ne_c, iteO_b, onB_b, d__law_net, hm, e3, netN]
end K01
set_option Elab.async false
set_option linter.all false
set_option maxRecDepth 100000
set_option maxHeartbeats 1000000
namespace K01
open PySem hiding plain
open Rf
variable {fu n : Nat}
theorem plains_one : ∀ l : List D, Rf.plains (l.map fun _ => D.int 1) = true
  | [] => rfl
  | _ :: l => by simp [SZ, ixL, place, Rf.plain, Rf.plains, depth, depths, eqD, eqDs, eqOk, eq_c, ne_c, iteO_b, onB_b, plains_one l]
theorem eqDs_one (l : List D) : eqDs (l.map fun _ => D.int 1) [] = l.isEmpty := by cases l <;> simp [SZ, ixL, place, Rf.plain, Rf.plains, depth, depths, eqD, eqDs, eqOk, eq_c, ne_c, iteO_b, onB_b]
theorem filter_all (l : List D) (p : D → Bool) : (l.filter fun x => !p x).isEmpty = l.all p := by
  rw [Bool.eq_iff_iff]
  simp [SZ, ixL, place, Rf.plain, Rf.plains, depth, depths, eqD, eqDs, eqOk, eq_c, ne_c, iteO_b, onB_b]
theorem lpart_ok (d : D) (hp : Rf.plain d = true) : callN T fu (n + 4) "_law_is_a_part" [] [d] = .ok (.bl (partOk d), []) := by
  rw [call_eq U4 rfl]
  cases d with
  | tup xs =>
    match xs, hp with
    | [], _ => simp [SZ, ixL, place, Rf.plain, Rf.plains, depth, depths, eqD, eqDs, eq_c, ne_c, iteO_b, onB_b, d__law_is_a_part, partOk, eqOk]
    | [_], _ => simp [SZ, ixL, place, Rf.plain, Rf.plains, depth, depths, eqD, eqDs, eq_c, ne_c, iteO_b, onB_b, d__law_is_a_part, partOk, eqOk]
    | a :: b :: c :: r, _ =>
      have : ¬ ((r.length : Int) + 1 + 1 + 1 = 2) := by omega
      simp [SZ, ixL, place, Rf.plain, Rf.plains, depth, depths, eqD, eqDs, eq_c, ne_c, iteO_b, onB_b, d__law_is_a_part, partOk, this, eqOk]
    | [a, b], hp =>
      have pa := plain_ty (tup_pl hp a (by simp [SZ, ixL, place, Rf.plain, Rf.plains, depth, depths, eqD, eqDs, eq_c, ne_c, iteO_b, onB_b]))
      have pb := tup_pl hp b (by simp [SZ, ixL, place, Rf.plain, Rf.plains, depth, depths, eqD, eqDs, eq_c, ne_c, iteO_b, onB_b])
      have pbt := plain_ty pb
      cases a with
      | str md =>
        cases b with
        | tup ms =>
          by_cases hl1 : (1 : Int) ≤ ms.length
          · by_cases hl2 : (ms.length : Int) ≤ 6
            · have hs : ms.length ≤ SZ := by unfold SZ; omega
              have hn1 : 1 ≤ ms.length := by omega
              have hn2 : ms.length ≤ 6 := by omega
              have hm := comp_pure (cl := clN T fu (n + 3)) (ρ := [Sl.p (.tup [.str md, .tup ms]), Sl.u]) (tg := .n 1) (it := .seq (.ix (.var 0) (.lit (.int 1)))) (c := some (.not (.call "_law_is_a_move" [.var 1]))) (elt := .lit (.int 1)) (own := [("one", 1)]) (k := []) (k1 := []) (l := ms) (fun m => !moveOk m) (fun _ => D.int 1) (by simp [SZ, ixL, place, Rf.plain, Rf.plains, depth, depths, eqD, eqDs, eq_c, ne_c, iteO_b, onB_b]) hs (fun m hm => by
                have e := lmove_ok (fu := fu) (n := n) m (tup_pl pb m hm)
                cases h : moveOk m with
                | true =>
                  rw [h] at e
                  simp [SZ, ixL, place, Rf.plain, Rf.plains, depth, depths, eqD, eqDs, eq_c, ne_c, iteO_b, onB_b, itF, e]
                | false =>
                  rw [h] at e
                  simp [SZ, ixL, place, Rf.plain, Rf.plains, depth, depths, eqD, eqDs, eq_c, ne_c, iteO_b, onB_b, itF, e])
              cases h4 : ms.all moveOk with
              | false =>
                have he : (ms.filter fun m => !moveOk m).isEmpty = false := by rw [filter_all]; exact h4
                have : partOk (.tup [.str md, .tup ms]) = false := by simp only [partOk, h4, Bool.and_false, Bool.false_and]
                rw [this]
                simp [SZ, ixL, place, Rf.plain, Rf.plains, depth, depths, eqD, eqDs, eq_c, ne_c, iteO_b, onB_b, d__law_is_a_part, hm, plains_one, eqDs_one, he, hl1, hl2, eqOk]
              | true =>
                have he : (ms.filter fun m => !moveOk m).isEmpty = true := by rw [filter_all]; exact h4
                have e5 := lnet_ok (fu := fu) (n := n + 2) ms (by simpa [SZ, ixL, place, Rf.plain, Rf.plains, depth, depths, eqD, eqDs, eq_c, ne_c, iteO_b, onB_b] using h4) (by omega)
                by_cases c1 : md = "once"
                · subst c1
                  simp [SZ, ixL, place, Rf.plain, Rf.plains, depth, depths, eqD, eqDs, eq_c, ne_c, iteO_b, onB_b, d__law_is_a_part, hm, plains_one, eqDs_one, he, hl1, hl2, hn1, hn2, h4, partOk, eqOk]
                · have g1 : (md == ("once" : Str)) = false := beq_eq_false_iff_ne.mpr c1
                  have g1' : (("once" : Str) == md) = false := beq_eq_false_iff_ne.mpr (Ne.symm c1)
                  by_cases c2 : md = "again"
                  · subst c2
                    by_cases h6 : (1 : Int) ≤ (if netN ms < 0 then -netN ms else netN ms)
                    · simp [SZ, ixL, place, Rf.plain, Rf.plains, depth, depths, eqD, eqDs, eq_c, ne_c, iteO_b, onB_b, d__law_is_a_part, hm, plains_one, eqDs_one, he, hl1, hl2, hn1, hn2, h4, partOk, eqOk, g1, g1', e5, intIn, h6]
                    · simp [SZ, ixL, place, Rf.plain, Rf.plains, depth, depths, eqD, eqDs, eq_c, ne_c, iteO_b, onB_b, d__law_is_a_part, hm, plains_one, eqDs_one, he, hl1, hl2, hn1, hn2, h4, partOk, eqOk, g1, g1', e5, intIn, h6]
                  · have g2 : (md == ("again" : Str)) = false := beq_eq_false_iff_ne.mpr c2
                    have g2' : (("again" : Str) == md) = false := beq_eq_false_iff_ne.mpr (Ne.symm c2)
                    simp [SZ, ixL, place, Rf.plain, Rf.plains, depth, depths, eqD, eqDs, eq_c, ne_c, iteO_b, onB_b, d__law_is_a_part, hm, plains_one, eqDs_one, he, hl1, hl2, hn1, hn2, h4, partOk, eqOk, g1, g1', g2, g2']
            · have : ¬ (ms.length ≤ 6) := by omega
              simp [SZ, ixL, place, Rf.plain, Rf.plains, depth, depths, eqD, eqDs, eq_c, ne_c, iteO_b, onB_b, d__law_is_a_part, partOk, hl1, hl2, this, eqOk]
          · have : ¬ (1 ≤ ms.length) := by omega
            have e : partOk (.tup [.str md, .tup ms]) = false := by simp [SZ, ixL, place, Rf.plain, Rf.plains, depth, depths, eqD, eqDs, eq_c, ne_c, iteO_b, onB_b, partOk, this]
            rw [e]
            simp [SZ, ixL, place, Rf.plain, Rf.plains, depth, depths, eqD, eqDs, eq_c, ne_c, iteO_b, onB_b, d__law_is_a_part, hl1, eqOk]
        | fn _ => cases pbt
        | scr _ => cases pbt
        | _ => simp [SZ, ixL, place, Rf.plain, Rf.plains, depth, depths, eqD, eqDs, eq_c, ne_c, iteO_b, onB_b, d__law_is_a_part, partOk, eqOk]
      | fn _ => cases pa
      | scr _ => cases pa
      | _ => simp [SZ, ixL, place, Rf.plain, Rf.plains, depth, depths, eqD, eqDs, eq_c, ne_c, iteO_b, onB_b, d__law_is_a_part, partOk, eqOk]
  | fn _ => cases hp
  | scr _ => cases hp
  | _ => simp [SZ, ixL, place, Rf.plain, Rf.plains, depth, depths, eqD, eqDs, eq_c, ne_c, iteO_b, onB_b, d__law_is_a_part, partOk]
theorem lplan_ok (d : D) (hp : Rf.plain d = true) : callN T fu (n + 5) "_law_is_a_plan" [] [d] = .ok (.bl (planOk d), []) := by
  rw [call_eq U5 rfl]
  cases d with
  | tup xs =>
    match xs, hp with
    | [], _ => simp [SZ, ixL, place, Rf.plain, Rf.plains, depth, depths, eqD, eqDs, eq_c, ne_c, iteO_b, onB_b, d__law_is_a_plan, planOk, eqOk]
    | [_], _ => simp [SZ, ixL, place, Rf.plain, Rf.plains, depth, depths, eqD, eqDs, eq_c, ne_c, iteO_b, onB_b, d__law_is_a_plan, planOk, eqOk]
    | [_, _], _ => simp [SZ, ixL, place, Rf.plain, Rf.plains, depth, depths, eqD, eqDs, eq_c, ne_c, iteO_b, onB_b, d__law_is_a_plan, planOk, eqOk]
    | a :: b :: c :: e :: r, _ =>
      have : ¬ ((r.length : Int) + 1 + 1 + 1 + 1 = 3) := by omega
      simp [SZ, ixL, place, Rf.plain, Rf.plains, depth, depths, eqD, eqDs, eq_c, ne_c, iteO_b, onB_b, d__law_is_a_plan, planOk, this, eqOk]
    | [a, b, c], hp =>
      have pa := tup_pl hp a (by simp [SZ, ixL, place, Rf.plain, Rf.plains, depth, depths, eqD, eqDs, eq_c, ne_c, iteO_b, onB_b])
      have pb := plain_ty (tup_pl hp b (by simp [SZ, ixL, place, Rf.plain, Rf.plains, depth, depths, eqD, eqDs, eq_c, ne_c, iteO_b, onB_b]))
      have pc := tup_pl hp c (by simp [SZ, ixL, place, Rf.plain, Rf.plains, depth, depths, eqD, eqDs, eq_c, ne_c, iteO_b, onB_b])
      have pat := plain_ty pa
      have pct := plain_ty pc
      cases hb : isBl b with
      | false => simp [SZ, ixL, place, Rf.plain, Rf.plains, depth, depths, eqD, eqDs, eq_c, ne_c, iteO_b, onB_b, d__law_is_a_plan, planOk, eqOk, hb, is_bl, pb]
      | true =>
        cases a with
        | tup ys =>
          match ys, pa with
          | [], _ => simp [SZ, ixL, place, Rf.plain, Rf.plains, depth, depths, eqD, eqDs, eq_c, ne_c, iteO_b, onB_b, d__law_is_a_plan, planOk, startOk, eqOk, hb, is_bl, pb]
          | [_], _ => simp [SZ, ixL, place, Rf.plain, Rf.plains, depth, depths, eqD, eqDs, eq_c, ne_c, iteO_b, onB_b, d__law_is_a_plan, planOk, startOk, eqOk, hb, is_bl, pb]
          | [_, _], _ => simp [SZ, ixL, place, Rf.plain, Rf.plains, depth, depths, eqD, eqDs, eq_c, ne_c, iteO_b, onB_b, d__law_is_a_plan, planOk, startOk, eqOk, hb, is_bl, pb]
          | a1 :: a2 :: a3 :: e :: r, _ =>
            have : ¬ ((r.length : Int) + 1 + 1 + 1 + 1 = 3) := by omega
            simp [SZ, ixL, place, Rf.plain, Rf.plains, depth, depths, eqD, eqDs, eq_c, ne_c, iteO_b, onB_b, d__law_is_a_plan, planOk, startOk, this, eqOk, hb, is_bl, pb]
          | [s, e, i], pa =>
            have ps := plain_ty (tup_pl pa s (by simp [SZ, ixL, place, Rf.plain, Rf.plains, depth, depths, eqD, eqDs, eq_c, ne_c, iteO_b, onB_b]))
            have pe := plain_ty (tup_pl pa e (by simp [SZ, ixL, place, Rf.plain, Rf.plains, depth, depths, eqD, eqDs, eq_c, ne_c, iteO_b, onB_b]))
            have pi := plain_ty (tup_pl pa i (by simp [SZ, ixL, place, Rf.plain, Rf.plains, depth, depths, eqD, eqDs, eq_c, ne_c, iteO_b, onB_b]))
            have e3 := number_ok (fu := fu) (n := n + 2) i 0 3 pi
            cases h3 : intIn 0 3 i with
            | false =>
              rw [h3] at e3
              simp [SZ, ixL, place, Rf.plain, Rf.plains, depth, depths, eqD, eqDs, eq_c, ne_c, iteO_b, onB_b, d__law_is_a_plan, planOk, startOk, eqOk, hb, is_bl, pb, e3, h3]
            | true =>
              rw [h3] at e3
              cases s with
              | str s1 =>
                have q1 : inD (.str s1) [D.str "L", D.str "R"] = strIn ["L", "R"] (.str s1) := in_str s1 ["L", "R"]
                cases h1 : strIn ["L", "R"] (.str s1) with
                | false =>
                  rw [h1] at q1
                  simp [SZ, ixL, place, Rf.plain, Rf.plains, depth, depths, eqD, eqDs, eq_c, ne_c, iteO_b, onB_b, d__law_is_a_plan, planOk, startOk, eqOk, hb, is_bl, pb, e3, h3, q1, h1]
                | true =>
                  rw [h1] at q1
                  cases e with
                  | str s2 =>
                    have q2 : inD (.str s2) [D.str "b", D.str "t"] = strIn ["b", "t"] (.str s2) := in_str s2 ["b", "t"]
                    cases h2 : strIn ["b", "t"] (.str s2) with
                    | false =>
                      rw [h2] at q2
                      simp [SZ, ixL, place, Rf.plain, Rf.plains, depth, depths, eqD, eqDs, eq_c, ne_c, iteO_b, onB_b, d__law_is_a_plan, planOk, startOk, eqOk, hb, is_bl, pb, e3, h3, q1, h1, q2, h2]
                    | true =>
                      rw [h2] at q2
                      cases c with
                      | tup parts =>
                        by_cases hl1 : (1 : Int) ≤ parts.length
                        · by_cases hl2 : (parts.length : Int) ≤ 7
                          · have hs : parts.length ≤ SZ := by unfold SZ; omega
                            have hn1 : 1 ≤ parts.length := by omega
                            have hn2 : parts.length ≤ 7 := by omega
                            have hm := comp_pure (cl := clN T fu (n + 4)) (ρ := [Sl.p (.tup [.tup [.str s1, .str s2, i], b, .tup parts]), Sl.u]) (tg := .n 1) (it := .seq (.ix (.var 0) (.lit (.int 2)))) (c := some (.not (.call "_law_is_a_part" [.var 1]))) (elt := .lit (.int 1)) (own := [("one", 1)]) (k := []) (k1 := []) (l := parts) (fun m => !partOk m) (fun _ => D.int 1) (by simp [SZ, ixL, place, Rf.plain, Rf.plains, depth, depths, eqD, eqDs, eq_c, ne_c, iteO_b, onB_b]) hs (fun m hm => by
                              have e := lpart_ok (fu := fu) (n := n) m (tup_pl pc m hm)
                              cases h : partOk m with
                              | true =>
                                rw [h] at e
                                simp [SZ, ixL, place, Rf.plain, Rf.plains, depth, depths, eqD, eqDs, eq_c, ne_c, iteO_b, onB_b, itF, e]
                              | false =>
                                rw [h] at e
                                simp [SZ, ixL, place, Rf.plain, Rf.plains, depth, depths, eqD, eqDs, eq_c, ne_c, iteO_b, onB_b, itF, e])
                            have he := filter_all parts partOk
                            simp [SZ, ixL, place, Rf.plain, Rf.plains, depth, depths, eqD, eqDs, eq_c, ne_c, iteO_b, onB_b, d__law_is_a_plan, planOk, startOk, partsOk, eqOk, hb, is_bl, pb, e3, h3, q1, h1, q2, h2, hl1, hl2, hn1, hn2, hm, plains_one, eqDs_one, he]
                          · have : ¬ (parts.length ≤ 7) := by omega
                            simp [SZ, ixL, place, Rf.plain, Rf.plains, depth, depths, eqD, eqDs, eq_c, ne_c, iteO_b, onB_b, d__law_is_a_plan, planOk, startOk, partsOk, eqOk, hb, is_bl, pb, e3, h3, q1, h1, q2, h2, hl1, hl2, this]
                        · have : ¬ (1 ≤ parts.length) := by omega
                          have e : planOk (.tup [.tup [.str s1, .str s2, i], b, .tup parts]) = false := by simp [SZ, ixL, place, Rf.plain, Rf.plains, depth, depths, eqD, eqDs, eq_c, ne_c, iteO_b, onB_b, planOk, partsOk, this]
                          rw [e]
                          simp [SZ, ixL, place, Rf.plain, Rf.plains, depth, depths, eqD, eqDs, eq_c, ne_c, iteO_b, onB_b, d__law_is_a_plan, eqOk, hb, is_bl, pb, e3, h3, q1, h1, q2, h2, hl1]
                      | fn _ => cases pct
                      | scr _ => cases pct
                      | _ => simp [SZ, ixL, place, Rf.plain, Rf.plains, depth, depths, eqD, eqDs, eq_c, ne_c, iteO_b, onB_b, d__law_is_a_plan, planOk, startOk, partsOk, eqOk, hb, is_bl, pb, e3, h3, q1, h1, q2, h2]
                  | fn _ => cases pe
                  | scr _ => cases pe
                  | _ => simp [SZ, ixL, place, Rf.plain, Rf.plains, depth, depths, eqD, eqDs, eq_c, ne_c, iteO_b, onB_b, d__law_is_a_plan, planOk, startOk, eqOk, hb, is_bl, pb, e3, h3, q1, h1, strIn]
              | fn _ => cases ps
              | scr _ => cases ps
              | _ => simp [SZ, ixL, place, Rf.plain, Rf.plains, depth, depths, eqD, eqDs, eq_c, ne_c, iteO_b, onB_b, d__law_is_a_plan, planOk, startOk, eqOk, hb, is_bl, pb, e3, h3, strIn]
        | fn _ => cases pat
        | scr _ => cases pat
        | _ => simp [SZ, ixL, place, Rf.plain, Rf.plains, depth, depths, eqD, eqDs, eq_c, ne_c, iteO_b, onB_b, d__law_is_a_plan, planOk, startOk, eqOk, hb, is_bl, pb]
  | fn _ => cases hp
  | scr _ => cases hp
  | _ => simp [SZ, ixL, place, Rf.plain, Rf.plains, depth, depths, eqD, eqDs, eq_c, ne_c, iteO_b, onB_b, d__law_is_a_plan, planOk]
end K01
set_option Elab.async false
set_option linter.all false
set_option maxRecDepth 100000
set_option maxHeartbeats 1000000
namespace K01
open PySem hiding plain
open Rf
variable {fu n : Nat}
def DkO (B : Nat) (k : Dk) : Prop := ∃ a b t : Int, k = [.int a, .int b, .int t] ∧ 0 ≤ a ∧ 0 ≤ b ∧ b < 2147483648 ∧ 0 ≤ t ∧ t ≤ B
theorem DkO.up {B C : Nat} {k : Dk} (h : DkO B k) (hc : B ≤ C) : DkO C k := by
  obtain ⟨a, b, t, e, h1, h2, h3, h4, h5⟩ := h
  exact ⟨a, b, t, e, h1, h2, h3, h4, by omega⟩
theorem G1 : T "_law_deck" = some (.fn d__law_deck) := by rfl
theorem G2 : T "_law_pick" = some (.fn d__law_pick) := by rfl
theorem G3 : T "_law_one" = some (.fn d__law_one) := by rfl
theorem mulOk_l {i j : Int} (h1 : -(2 ^ 64) < i) (h2 : i < 2 ^ 64) : mulOk i j = true := by
  unfold mulOk
  exact decide_eq_true (.inl ⟨h1, h2⟩)
theorem fmod_in {x m : Int} (h : 0 < m) : 0 ≤ x.fmod m ∧ x.fmod m < m := ⟨Int.fmod_nonneg_of_pos x h, Int.fmod_lt_of_pos x h⟩
theorem fdiv_nn {x m : Int} (h0 : 0 ≤ x) (h : 0 < m) : 0 ≤ x.fdiv m := by
  rw [Int.fdiv_eq_ediv_of_nonneg x (by omega)]
  exact Int.ediv_nonneg h0 (by omega)
theorem pick_ok {B : Nat} {k : Dk} {size : Int} (hk : DkO B k) (hB : B ≤ 1000000) (h1 : 1 ≤ size) (h2 : size < 1073741824) :
    W (callN T fu (n + 1) "_law_pick" k [.int size]) fun d k' => ∃ r : Int, d = .int r ∧ 0 ≤ r ∧ r < size ∧ DkO (B + 1) k' := by
  obtain ⟨a, b, t, rfl, ha, hb, hb2, ht, htB⟩ := hk
  rw [call_eq G2 rfl]
  have s0 : ¬ size = 0 := by omega
  have s1 : size.natAbs < 1073741824 := by omega
  by_cases hc : 1 < a
  · have f := fmod_in (x := a) (m := size) (by omega)
    simp [SZ, ixL, place, iteO_b, onB_b, d__law_pick, hc, s0, s1]
    exact ⟨f.1, f.2, a.fdiv size, b, t, rfl, fdiv_nn ha (by omega), hb, hb2, ht, by omega⟩
  · have m1 : mulOk 15485867 (t + 1) = true := mulOk_l (by decide) (by decide)
    have m2 : mulOk 7919 (t + 1) = true := mulOk_l (by decide) (by decide)
    have p1 : (b + 15485867 * (t + 1)).natAbs < 18446744073709551616 := by omega
    have f1 := fmod_in (x := (b + 15485867 * (t + 1)) ^ 5) (m := 2147483647) (by omega)
    have p2 : (((b + 15485867 * (t + 1)) ^ 5).fmod 2147483647 + 7919 * (t + 1)).natAbs < 18446744073709551616 := by
      generalize ((b + 15485867 * (t + 1)) ^ 5).fmod 2147483647 = u at f1
      omega
    simp [SZ, ixL, place, iteO_b, onB_b, d__law_pick, hc, s0, s1, m1, m2, p1, p2]
    have g := fmod_in (x := (((((b + 15485867 * (t + 1)) ^ 5).fmod 2147483647 + 7919 * (t + 1)) ^ 3).fmod 2147483629).fdiv 32) (m := size) (by omega)
    exact ⟨g.1, g.2, a, b, t + 1, rfl, ha, hb, hb2, by omega, by omega⟩
theorem ixL_get {xs : List D} {r : Int} (h0 : 0 ≤ r) (h1 : r < xs.length) : ∃ d, ixL xs r = .ok d ∧ xs[r.toNat]? = some d ∧ d ∈ xs := by
  have hl : r.toNat < xs.length := by omega
  refine ⟨xs[r.toNat], ?_, List.getElem?_eq_getElem hl, List.getElem_mem hl⟩
  unfold ixL place
  rw [if_pos h0, if_pos h1]
  dsimp only
  rw [List.getElem?_eq_getElem hl]
/-- one of several -/
theorem one_ok {B : Nat} {k : Dk} {xs : List D} (hk : DkO B k) (hB : B ≤ 1000000) (h1 : 1 ≤ xs.length) (h2 : xs.length ≤ 100000) :
    W (callN T fu (n + 2) "_law_one" k [.lst xs]) fun d k' => d ∈ xs ∧ DkO (B + 1) k' := by
  obtain ⟨d, k', e, r, rfl, r0, r1, hk'⟩ := pick_ok (fu := fu) (n := n) (size := xs.length) hk hB (by omega) (by omega)
  obtain ⟨x, e1, e2, e3⟩ := ixL_get r0 r1
  rw [call_eq G3 rfl]
  simp [SZ, place, iteO_b, onB_b, d__law_one, e, e1]
  exact ⟨e3, hk'⟩
theorem G4 : T "_law_known" = some (.fn d__law_known) := by rfl
theorem G5 : T "_law_a_move" = some (.fn d__law_a_move) := by rfl
theorem G6 : T "_law_a_part" = some (.fn d__law_a_part) := by rfl
theorem G7 : T "_law_there_and_back" = some (.fn d__law_there_and_back) := by rfl
theorem G8 : T "_law_by_twos" = some (.fn d__law_by_twos) := by rfl
theorem G9 : T "_law_a_right" = some (.fn d__law_a_right) := by rfl
theorem G10 : T "_law_a_plan" = some (.fn d__law_a_plan) := by rfl
theorem a_move_ok {B : Nat} {k : Dk} (hk : DkO B k) (hB : B ≤ 999990) : W (callN T fu (n + 3) "_law_a_move" k []) fun d k' => moveOk d = true ∧ DkO (B + 3) k' := by
  rw [call_eq G5 rfl]
  obtain ⟨d1, k1, e1, m1, hk1⟩ := one_ok (fu := fu) (n := n) (xs := [.str "across", .str "slant", .str "slant", .str "straight", .str "straight"]) hk (by omega) (by simp [SZ, ixL, place, iteO_b, onB_b]) (by simp [SZ, ixL, place, iteO_b, onB_b])
  have main : ∀ s : Str, ∀ f : Int, (s = "slant" ∧ f = 2) ∨ (s = "straight" ∧ f = 3) → d1 = .str s → W (fin (evB (clN T fu (n + 2)) fu d__law_a_move.body ⟨enter d__law_a_move [], k⟩)) fun d k' => moveOk d = true ∧ DkO (B + 3) k' := by
    intro s f hs hd
    subst hd
    have hc : (s == ("across" : Str)) = false := by rcases hs with ⟨rfl, _⟩ | ⟨rfl, _⟩ <;> decide
    have hsl : (s == ("slant" : Str)) = (f == 2) := by rcases hs with ⟨rfl, rfl⟩ | ⟨rfl, rfl⟩ <;> decide
    have hst : (s == ("straight" : Str)) = (f == 3) := by rcases hs with ⟨rfl, rfl⟩ | ⟨rfl, rfl⟩ <;> decide
    obtain ⟨d2, k2, e2, r, rfl, r0, r1, hk2⟩ := pick_ok (fu := fu) (n := n + 1) (size := f) hk1 (by omega) (by rcases hs with ⟨_, rfl⟩ | ⟨_, rfl⟩ <;> omega) (by rcases hs with ⟨_, rfl⟩ | ⟨_, rfl⟩ <;> omega)
    obtain ⟨d3, k3, e3, m3, hk3⟩ := one_ok (fu := fu) (n := n) (xs := [.int 1, .int (-1)]) hk2 (by omega) (by simp [SZ, ixL, place, iteO_b, onB_b]) (by simp [SZ, ixL, place, iteO_b, onB_b])
    have hmul : ∀ j : Int, mulOk (1 + r) j = true := fun j => mulOk_l (by omega) (by rcases hs with ⟨_, rfl⟩ | ⟨_, rfl⟩ <;> omega)
    simp [SZ, ixL, place, iteO_b, onB_b] at m3
    have fin : ∀ j : Int, j = 1 ∨ j = -1 → moveOk (.tup [.str s, .int ((1 + r) * j)]) = true := by
      intro j hj
      rcases hs with ⟨rfl, rfl⟩ | ⟨rfl, rfl⟩ <;> rcases hj with rfl | rfl <;> simp [SZ, ixL, place, iteO_b, onB_b, moveOk, hc, hsl, hst, intIn] <;> omega
    rcases hs with ⟨h1, rfl⟩ | ⟨h1, rfl⟩ <;> rcases m3 with rfl | rfl
    · simp [SZ, ixL, place, iteO_b, onB_b, d__law_a_move, e1, eq_c, eqOk, Rf.plain, depth, eqD, hc, hsl, e2, e3, hmul]
      exact ⟨by simpa [SZ, ixL, place, iteO_b, onB_b] using fin 1 (.inl rfl), hk3.up (by omega)⟩
    · simp [SZ, ixL, place, iteO_b, onB_b, d__law_a_move, e1, eq_c, eqOk, Rf.plain, depth, eqD, hc, hsl, e2, e3, hmul]
      exact ⟨by simpa [SZ, ixL, place, iteO_b, onB_b] using fin (-1) (.inr rfl), hk3.up (by omega)⟩
    · simp [SZ, ixL, place, iteO_b, onB_b, d__law_a_move, e1, eq_c, eqOk, Rf.plain, depth, eqD, hc, hsl, e2, e3, hmul]
      exact ⟨by simpa [SZ, ixL, place, iteO_b, onB_b] using fin 1 (.inl rfl), hk3.up (by omega)⟩
    · simp [SZ, ixL, place, iteO_b, onB_b, d__law_a_move, e1, eq_c, eqOk, Rf.plain, depth, eqD, hc, hsl, e2, e3, hmul]
      exact ⟨by simpa [SZ, ixL, place, iteO_b, onB_b] using fin (-1) (.inr rfl), hk3.up (by omega)⟩
  simp only [List.mem_cons, List.not_mem_nil, or_false] at m1
  rcases m1 with rfl | rfl | rfl | rfl | rfl
  · simp [SZ, ixL, place, iteO_b, onB_b, d__law_a_move, e1, eq_c, eqOk, Rf.plain, depth, eqD]
    exact ⟨by decide, hk1.up (by omega)⟩
  · exact main "slant" 2 (.inl ⟨rfl, rfl⟩) rfl
  · exact main "slant" 2 (.inl ⟨rfl, rfl⟩) rfl
  · exact main "straight" 3 (.inr ⟨rfl, rfl⟩) rfl
  · exact main "straight" 3 (.inr ⟨rfl, rfl⟩) rfl
end K01
set_option Elab.async false
set_option linter.all false
set_option maxRecDepth 100000
set_option maxHeartbeats 1000000
namespace K01
open PySem hiding plain
open Rf
variable {fu n : Nat}
theorem small_ok {i : Int} (h1 : 0 ≤ i) (h2 : i ≤ 1000000) : smallI i = true := by
  unfold smallI
  exact decide_eq_true ⟨by omega, by omega⟩
theorem range_ok {i : Int} (h1 : 0 ≤ i) (h2 : i ≤ 1000000) : rangeD [.int i] = .ok (rangeL 0 1 i.toNat) := by
  show (if smallI i = true then R.ok (rangeL 0 1 i.toNat) else R.no) = _
  rw [small_ok h1 h2]
  rfl
theorem rangeL_len : ∀ (n : Nat) (lo : Int), (rangeL lo 1 n).length = n
  | 0, _ => rfl
  | n + 1, lo => congrArg (· + 1) (rangeL_len n (lo + 1))
theorem partOk_of {md : Str} {ms : List D} (h1 : md = "once" ∨ md = "again") (h2 : 1 ≤ ms.length) (h3 : ms.length ≤ 6) (h4 : ∀ m ∈ ms, moveOk m = true) (h5 : md = "once" ∨ (1 ≤ (if netN ms < 0 then -netN ms else netN ms) ∧ (if netN ms < 0 then -netN ms else netN ms) ≤ 4)) : partOk (.tup [.str md, .tup ms]) = true := by
  have ha : ms.all moveOk = true := by simpa [SZ, ixL, place, iteO_b, onB_b] using h4
  have hm : (("once" : Str) == md || ("again" : Str) == md) = true := by rcases h1 with rfl | rfl <;> decide
  simp only [partOk, ha, hm, h2, h3]
  rcases h5 with rfl | h5
  · simp [SZ, ixL, place, iteO_b, onB_b]
  · simp only [intIn]
    simp [SZ, ixL, place, iteO_b, onB_b, h5]
theorem netN_const {c : Int} : ∀ {ms : List D}, (∀ m ∈ ms, byOf m = c) → netN ms = c * ms.length
  | [], _ => by simp [SZ, ixL, place, iteO_b, onB_b, netN]
  | m :: ms, h => by
    have := netN_const (c := c) (ms := ms) fun x hx => h x (by simp [SZ, ixL, place, iteO_b, onB_b, hx])
    unfold netN at this ⊢
    simp only [List.map_cons, List.sum_cons, this, h m (by simp [SZ, ixL, place, iteO_b, onB_b]), List.length_cons]
    have e : ((ms.length + 1 : Nat) : Int) = (ms.length : Int) + 1 := by omega
    rw [e, Int.mul_add]
    omega
theorem a_part_ok {B : Nat} {k : Dk} (hk : DkO B k) (hB : B ≤ 999900) : W (callN T fu (n + 4) "_law_a_part" k []) fun d k' => partOk d = true ∧ DkO (B + 11) k' := by
  rw [call_eq G6 rfl]
  obtain ⟨d1, k1, e1, r, rfl, r0, r1, hk1⟩ := pick_ok (fu := fu) (n := n + 2) (size := 3) hk (by omega) (by omega) (by omega)
  have hrg := range_ok (i := 1 + r) (by omega) (by omega)
  have hl := rangeL_len (1 + r).toNat 0
  obtain ⟨d2, k2, e2, ms, rfl, l2, p2, hk2⟩ := comp_W (cl := clN T fu (n + 3)) (ρ := [Sl.k, Sl.u, Sl.u, Sl.u]) (tg := .n 3) (it := .range [.bin .add (.lit (.int 1)) (.callD 0 "_law_pick" [.lit (.int 3)])]) (c := none) (elt := .callD 0 "_law_a_move" []) (own := [("turn", 3)]) (k := k) (k1 := k1) (l := rangeL 0 1 (1 + r).toNat)
    (I := DkO) (P := fun d => moveOk d = true) 3 (B + 1) (by simp [SZ, ixL, place, iteO_b, onB_b, e1, hrg]) (by rw [hl]; simp [SZ, ixL, place, iteO_b, onB_b]; omega) hk1 (fun x hx B' k' hB' hk' => by
      rw [hl] at hB'
      obtain ⟨d, k2, e, m, hk2⟩ := a_move_ok (fu := fu) (n := n) hk' (by omega)
      exact ⟨some d, k2, by simp [SZ, ixL, place, iteO_b, onB_b, itF, e], d, rfl, m, hk2⟩)
  rw [hl] at l2 hk2
  obtain ⟨d3, k3, e3, m3, hk3⟩ := one_ok (fu := fu) (n := n + 1) (xs := [.str "once", .str "again"]) hk2 (by omega) (by simp [SZ, ixL, place, iteO_b, onB_b]) (by simp [SZ, ixL, place, iteO_b, onB_b])
  have e4 := lnet_ok (fu := fu) (n := n + 2) ms p2 (by omega)
  simp [SZ, ixL, place, iteO_b, onB_b] at m3
  have hms : 1 ≤ ms.length ∧ ms.length ≤ 6 := by omega
  by_cases c1 : (1 : Int) ≤ (if netN ms < 0 then -netN ms else netN ms)
  · by_cases c2 : (if netN ms < 0 then -netN ms else netN ms) ≤ (4 : Int)
    · rcases m3 with rfl | rfl
      · simp [SZ, ixL, place, iteO_b, onB_b, d__law_a_part, e2, e3, e4, c1, c2]
        exact ⟨partOk_of (.inl rfl) hms.1 hms.2 p2 (.inl rfl), hk3.up (by omega)⟩
      · simp [SZ, ixL, place, iteO_b, onB_b, d__law_a_part, e2, e3, e4, c1, c2]
        exact ⟨partOk_of (.inr rfl) hms.1 hms.2 p2 (.inr ⟨c1, c2⟩), hk3.up (by omega)⟩
    · simp [SZ, ixL, place, iteO_b, onB_b, d__law_a_part, e2, e3, e4, c1, c2]
      exact ⟨partOk_of (.inl rfl) hms.1 hms.2 p2 (.inl rfl), hk3.up (by omega)⟩
  · simp [SZ, ixL, place, iteO_b, onB_b, d__law_a_part, e2, e3, e4, c1]
    exact ⟨partOk_of (.inl rfl) hms.1 hms.2 p2 (.inl rfl), hk3.up (by omega)⟩
theorem DkO.flat {B : Nat} {k : Dk} (h : DkO B k) : ∀ x ∈ k, flatD x = true := by
  obtain ⟨a, b, t, rfl, _⟩ := h
  simp [SZ, ixL, place, iteO_b, onB_b]
theorem two_str {d : D} {a b : Str} (h : d ∈ [D.str a, .str b]) : d = .str a ∨ d = .str b := by simpa [SZ, ixL, place, iteO_b, onB_b] using h
theorem by_twos_ok {B : Nat} {k : Dk} (hk : DkO B k) (hB : B ≤ 999900) : W (callN T fu (n + 4) "_law_by_twos" k []) fun d k' => partsOk d = true ∧ DkO (B + 2) k' := by
  rw [call_eq G8 rfl]
  obtain ⟨d1, k1, e1, m1, hk1⟩ := one_ok (fu := fu) (n := n + 1) (xs := [.str "slant", .str "straight"]) hk (by omega) (by simp [SZ, ixL, place, iteO_b, onB_b]) (by simp [SZ, ixL, place, iteO_b, onB_b])
  obtain ⟨d2, k2, e2, m2, hk2⟩ := one_ok (fu := fu) (n := n + 1) (xs := [.str "slant", .str "straight"]) hk1 (by omega) (by simp [SZ, ixL, place, iteO_b, onB_b]) (by simp [SZ, ixL, place, iteO_b, onB_b])
  rcases two_str m1 with rfl | rfl <;> rcases two_str m2 with rfl | rfl
  all_goals
    simp [SZ, ixL, place, iteO_b, onB_b, d__law_by_twos, e1, e2]
    exact ⟨by decide, hk2.up (by omega)⟩
def downP (c : Int) (d : D) : Prop := d = .tup [.str "slant", .int c] ∨ d = .tup [.str "straight", .int c]
theorem down_move {c : Int} {d : D} (hc : c = 1 ∨ c = -1) (h : downP c d) : moveOk d = true ∧ byOf d = c := by
  rcases h with rfl | rfl <;> rcases hc with rfl | rfl <;> exact ⟨by decide, rfl⟩
theorem part_down {md : Str} {c : Int} {ms : List D} (hm : md = "once" ∨ md = "again") (hc : c = 1 ∨ c = -1) (h : ∀ m ∈ ms, downP c m) (h1 : 1 ≤ ms.length) (h2 : ms.length ≤ 3) : partOk (.tup [.str md, .tup ms]) = true := by
  have hn := netN_const (c := c) (ms := ms) fun m hx => (down_move hc (h m hx)).2
  refine partOk_of hm h1 (by omega) (fun m hx => (down_move hc (h m hx)).1) (.inr ?_)
  rw [hn]
  rcases hc with rfl | rfl
  · rw [if_neg (by omega)]
    omega
  · rw [if_pos (by omega)]
    omega
def upOf : D → D
  | .tup [s, _] => .tup [s, .int 1]
  | d => d
theorem cut_len {α : Type} (xs : List α) {m : Int} (h0 : 0 ≤ m) (h1 : m ≤ xs.length) : (cut xs none (some m)).length = m.toNat := by
  show (((xs.drop 0).take ((if m < 0 then (m + (xs.length : Int)).toNat else min m.toNat xs.length) - 0)).length) = _
  rw [if_neg (by omega)]
  simp [SZ, ixL, place, iteO_b, onB_b]
  omega
theorem cut_mem {α : Type} {xs : List α} {lo hi : Option Int} {x : α} (h : x ∈ cut xs lo hi) : x ∈ xs := by
  unfold cut at h
  exact List.mem_of_mem_drop (List.mem_of_mem_take h)
theorem partsOk_of {ps : List D} (h1 : 1 ≤ ps.length) (h2 : ps.length ≤ 7) (h : ∀ p ∈ ps, partOk p = true) : partsOk (.tup ps) = true := by
  have : ps.all partOk = true := by simpa [SZ, ixL, place, iteO_b, onB_b] using h
  simp [SZ, ixL, place, iteO_b, onB_b, partsOk, this, h1, h2]
theorem tab_ok {B : Nat} {k : Dk} (hk : DkO B k) (hB : B ≤ 999900) : W (callN T fu (n + 4) "_law_there_and_back" k []) fun d k' => partsOk d = true ∧ DkO (B + 5) k' := by
  rw [call_eq G7 rfl]
  obtain ⟨d1, k1, e1, r, rfl, r0, r1, hk1⟩ := pick_ok (fu := fu) (n := n + 2) (size := 3) hk (by omega) (by omega) (by omega)
  have hrg := range_ok (i := 1 + r) (by omega) (by omega)
  have hl := rangeL_len (1 + r).toNat 0
  obtain ⟨d2, k2, e2, ds, rfl, l2, p2, hk2⟩ := comp_W (cl := clN T fu (n + 3)) (ρ := [Sl.k, Sl.p (.int (1 + r)), Sl.u, Sl.u, Sl.u, Sl.u, Sl.u, Sl.u, Sl.u]) (tg := .n 6) (it := .range [.var 1]) (c := none) (elt := .tup [.callD 0 "_law_one" [.lst [.lit (.str "slant"), .lit (.str "straight")]], .neg (.lit (.int 1))]) (own := [("turn", 6)]) (k := k1) (k1 := k1) (l := rangeL 0 1 (1 + r).toNat)
    (I := DkO) (P := downP (-1)) 1 (B + 1) (by simp [SZ, ixL, place, iteO_b, onB_b, hrg]) (by rw [hl]; simp [SZ, ixL, place, iteO_b, onB_b]; omega) hk1 (fun x hx B' k' hB' hk' => by
      rw [hl] at hB'
      obtain ⟨d, k2, e, m, hk2⟩ := one_ok (fu := fu) (n := n + 1) (xs := [.str "slant", .str "straight"]) hk' (by omega) (by simp [SZ, ixL, place, iteO_b, onB_b]) (by simp [SZ, ixL, place, iteO_b, onB_b])
      rcases two_str m with rfl | rfl
      · exact ⟨some (.tup [.str "slant", .int (-1)]), k2, by simp [SZ, ixL, place, iteO_b, onB_b, itF, e], _, rfl, .inl rfl, hk2⟩
      · exact ⟨some (.tup [.str "straight", .int (-1)]), k2, by simp [SZ, ixL, place, iteO_b, onB_b, itF, e], _, rfl, .inr rfl, hk2⟩)
  rw [hl] at l2 hk2
  obtain ⟨d3, k3, e3, m, rfl, m0, m1, hk3⟩ := pick_ok (fu := fu) (n := n + 2) (size := 1 + r) hk2 (by omega) (by omega) (by omega)
  have hm := comp_map (cl := clN T fu (n + 3)) (ρ := [Sl.k, Sl.p (.int (1 + r)), Sl.p (.lst ds), Sl.u, Sl.u, Sl.u, Sl.u, Sl.u, Sl.u]) (tg := .t [.n 7, .n 8]) (it := .seq (.var 2)) (c := none) (elt := .tup [.var 7, .lit (.int 1)]) (own := [("kind_so", 7), ("by_so", 8)]) (k := k3) (k1 := k3) (l := ds) upOf (by simp [SZ, ixL, place, iteO_b, onB_b]) (by simp [SZ, ixL, place, iteO_b, onB_b]; omega) (fun x hx => by
    rcases p2 x hx with rfl | rfl <;> simp [SZ, ixL, place, iteO_b, onB_b, itF, upOf])
  have pu : ∀ x ∈ ds.map upOf, downP 1 x := fun x hx => by
    obtain ⟨y, hy, rfl⟩ := List.mem_map.mp hx
    rcases p2 y hy with rfl | rfl
    · exact .inl rfl
    · exact .inr rfl
  have q1 := part_down (md := "again") (.inr rfl) (.inr rfl) p2 (by omega) (by omega)
  have q2 : partOk (.tup [.str "again", .tup (ds.map upOf).reverse]) = true := part_down (.inr rfl) (.inl rfl) (fun x hx => pu x (by simpa [SZ, ixL, place, iteO_b, onB_b] using hx)) (by simp [SZ, ixL, place, iteO_b, onB_b]; omega) (by simp [SZ, ixL, place, iteO_b, onB_b]; omega)
  have q3 : partOk (.tup [.str "once", .tup [.tup [.str "across", .int 0]]]) = true := by decide
  have len2 : ds.length ≤ 3 := by omega
  have hf : (∀ x, x ∈ k3 → flatD x = true) = True := eq_true hk3.flat
  by_cases hc : 0 < m
  · have lc := cut_len ds (m := m) (by omega) (by omega)
    have lu := cut_len (ds.map upOf) (m := m) (by omega) (by simp [SZ, ixL, place, iteO_b, onB_b]; omega)
    have q4 : partOk (.tup [.str "once", .tup (cut ds none (some m))]) = true := part_down (.inl rfl) (.inr rfl) (fun x hx => p2 x (cut_mem hx)) (by omega) (by omega)
    have q5 : partOk (.tup [.str "once", .tup (cut (ds.map upOf) none (some m)).reverse]) = true := part_down (.inl rfl) (.inl rfl) (fun x hx => pu x (cut_mem (by simpa [SZ, ixL, place, iteO_b, onB_b] using hx))) (by simp [SZ, ixL, place, iteO_b, onB_b]; omega) (by simp [SZ, ixL, place, iteO_b, onB_b]; omega)
    simp [SZ, ixL, place, iteO_b, onB_b, d__law_there_and_back, e1, e2, e3, hm, hc, hf]
    exact ⟨partsOk_of (by simp [SZ, ixL, place, iteO_b, onB_b]) (by simp [SZ, ixL, place, iteO_b, onB_b]) (by simp [SZ, ixL, place, iteO_b, onB_b, q1, q2, q3, q4, q5]), hk3.up (by omega)⟩
  · simp [SZ, ixL, place, iteO_b, onB_b, d__law_there_and_back, e1, e2, e3, hm, hc, hf]
    exact ⟨partsOk_of (by simp [SZ, ixL, place, iteO_b, onB_b]) (by simp [SZ, ixL, place, iteO_b, onB_b]) (by simp [SZ, ixL, place, iteO_b, onB_b, q1, q2, q3]), hk3.up (by omega)⟩
end K01
set_option Elab.async false
set_option linter.all false
set_option maxRecDepth 100000
set_option maxHeartbeats 1000000
namespace K01
open PySem hiding plain
open Rf
variable {fu n : Nat}
theorem eq_ii {i j : Int} : cmpD .eq (.int i) (.int j) = .ok (.bl (i == j)) := by
  simp [SZ, ixL, place, iteO_b, onB_b, eq_c, eqOk, Rf.plain, depth, eqD]
def knownD : List D := [
  .tup [.tup [.str "L", .str "t", .int 0], .bl true, .tup [.tup [.str "again", .tup [.tup [.str "slant", .int (-1)]]], .tup [.str "once", .tup [.tup [.str "across", .int 0]]], .tup [.str "again", .tup [.tup [.str "slant", .int 1]]]]],
  .tup [.tup [.str "L", .str "t", .int 0], .bl true, .tup [.tup [.str "again", .tup [.tup [.str "straight", .int (-1)]]], .tup [.str "once", .tup [.tup [.str "across", .int 0]]], .tup [.str "again", .tup [.tup [.str "straight", .int 1]]]]],
  .tup [.tup [.str "L", .str "b", .int 0], .bl true, .tup [.tup [.str "once", .tup [.tup [.str "across", .int 0]]], .tup [.str "again", .tup [.tup [.str "straight", .int 1], .tup [.str "across", .int 0]]]]],
  .tup [.tup [.str "L", .str "t", .int 0], .bl false, .tup [
    .tup [.str "again", .tup [.tup [.str "straight", .int (-2)]]], .tup [.str "once", .tup [.tup [.str "straight", .int (-1)]]], .tup [.str "again", .tup [.tup [.str "straight", .int 2]]],
    .tup [.str "once", .tup [.tup [.str "across", .int 0]]],
    .tup [.str "again", .tup [.tup [.str "straight", .int (-2)]]], .tup [.str "once", .tup [.tup [.str "straight", .int 1]]], .tup [.str "again", .tup [.tup [.str "straight", .int 2]]]]]]
theorem known_ok : callN T fu (n + 1) "_law_known" [] [] = .ok (.tup knownD, []) := by
  rw [call_eq G4 rfl]
  simp [SZ, ixL, place, iteO_b, onB_b, d__law_known, knownD]
theorem known_plan : knownD.all planOk = true := by decide
theorem planOk_sh {d : D} (h : planOk d = true) : ∃ a b c e f, d = .tup [.tup [.str a, .str b, .int c], .bl e, f] ∧ strIn ["L", "R"] (.str a) = true ∧ strIn ["b", "t"] (.str b) = true ∧ intIn 0 3 (.int c) = true ∧ partsOk f = true := by
  unfold planOk at h
  split at h
  · rename_i a b c
    simp only [Bool.and_eq_true] at h
    obtain ⟨⟨h1, h2⟩, h3⟩ := h
    unfold startOk at h1
    split at h1
    · rename_i x y z
      simp only [Bool.and_eq_true] at h1
      obtain ⟨⟨g1, g2⟩, g3⟩ := h1
      cases b <;> first | (cases h2; done) | skip
      obtain ⟨i, rfl, _⟩ := int_of g3
      rcases str2 g1 with rfl | rfl <;> rcases str2 g2 with rfl | rfl <;> exact ⟨_, _, _, _, _, rfl, g1, g2, g3, h3⟩
    · cases h1
  · cases h
theorem planOk_mk {a b : Str} {c : Int} {e : Bool} {f : D} (h1 : strIn ["L", "R"] (.str a) = true) (h2 : strIn ["b", "t"] (.str b) = true) (h3 : intIn 0 3 (.int c) = true) (h4 : partsOk f = true) : planOk (.tup [.tup [.str a, .str b, .int c], .bl e, f]) = true := by
  simp [SZ, ixL, place, iteO_b, onB_b, planOk, startOk, h1, h2, h3, h4, isBl]
theorem partsOk_sh {d : D} (h : partsOk d = true) : ∃ ps, d = .tup ps ∧ 1 ≤ ps.length ∧ ps.length ≤ 7 ∧ ∀ p ∈ ps, partOk p = true := by
  unfold partsOk at h
  split at h
  · rename_i ps
    simp [SZ, ixL, place, iteO_b, onB_b] at h
    exact ⟨ps, rfl, h.1.1, h.1.2, h.2⟩
  · cases h
theorem a_right_ok {B : Nat} {k : Dk} (hk : DkO B k) (hB : B ≤ 999800) : W (callN T fu (n + 5) "_law_a_right" k []) fun d k' => planOk d = true ∧ DkO (B + 8) k' := by
  rw [call_eq G9 rfl]
  obtain ⟨d1, k1, e1, r, rfl, r0, r1, hk1⟩ := pick_ok (fu := fu) (n := n + 3) (size := 3) hk (by omega) (by omega) (by omega)
  have main : ∀ ps k2, partsOk ps = true → DkO (B + 6) k2 → (evE (clN T fu (n + 4)) [Sl.k, Sl.u] (.ite (.cmp .eq (.callD 0 "_law_pick" [.lit (.int 3)]) (.lit (.int 0))) (.callD 0 "_law_by_twos" []) (.callD 0 "_law_there_and_back" [])) k = .ok (ps, k2)) → W (fin (evB (clN T fu (n + 4)) fu d__law_a_right.body ⟨enter d__law_a_right [], k⟩)) fun d k' => planOk d = true ∧ DkO (B + 8) k' := by
    intro ps k2 hp hk2 he
    obtain ⟨d3, k3, e3, m3, hk3⟩ := one_ok (fu := fu) (n := n + 2) (xs := [.str "L", .str "R"]) hk2 (by omega) (by simp [SZ, ixL, place, iteO_b, onB_b]) (by simp [SZ, ixL, place, iteO_b, onB_b])
    obtain ⟨d4, k4, e4, q, rfl, q0, q1, hk4⟩ := pick_ok (fu := fu) (n := n + 3) (size := 2) hk3 (by omega) (by omega) (by omega)
    simp only [ev_ite] at he
    rcases two_str m3 with rfl | rfl
    · simp [SZ, ixL, place, iteO_b, onB_b, d__law_a_right, -ev_ite]
      simp only [ev_ite, he]
      simp [SZ, ixL, place, iteO_b, onB_b, e3, e4, eq_ii]
      exact ⟨planOk_mk (by decide) (by decide) (by decide) hp, hk4.up (by omega)⟩
    · simp [SZ, ixL, place, iteO_b, onB_b, d__law_a_right, -ev_ite]
      simp only [ev_ite, he]
      simp [SZ, ixL, place, iteO_b, onB_b, e3, e4, eq_ii]
      exact ⟨planOk_mk (by decide) (by decide) (by decide) hp, hk4.up (by omega)⟩
  by_cases hr : r = 0
  · subst hr
    obtain ⟨ps, k2, e2, hp, hk2⟩ := by_twos_ok (fu := fu) (n := n) hk1 (by omega)
    exact main ps k2 hp (hk2.up (by omega)) (by simp [SZ, ixL, place, iteO_b, onB_b, e1, eq_ii, e2])
  · obtain ⟨ps, k2, e2, hp, hk2⟩ := tab_ok (fu := fu) (n := n) hk1 (by omega)
    exact main ps k2 hp (hk2.up (by omega)) (by simp [SZ, ixL, place, iteO_b, onB_b, e1, eq_ii, e2, hr])
/-- the state of _law_a_plan -/
def PlS (B : Nat) (s : Stt) : Prop := ∃ (a b : Str) (c w : Int) (e : Bool) (f : D) (x : Sl), s.ρ = [Sl.k, .p (.str a), .p (.str b), .p (.int c), .p (.bl e), .p f, .p (.int w), x, .u] ∧
  strIn ["L", "R"] (.str a) = true ∧ strIn ["b", "t"] (.str b) = true ∧ intIn 0 3 (.int c) = true ∧ partsOk f = true ∧ DkO B s.k
theorem PlS.up {B C : Nat} {s : Stt} (h : PlS B s) (hc : B ≤ C) : PlS C s := by
  obtain ⟨a, b, c, w, e, f, x, h1, h2, h3, h4, h5, h6⟩ := h
  exact ⟨a, b, c, w, e, f, x, h1, h2, h3, h4, h5, h6.up hc⟩
theorem a_plan_ok {B : Nat} {k : Dk} (hk : DkO B k) (hB : B ≤ 999000) : W (callN T fu (n + 6) "_law_a_plan" k []) fun d k' => planOk d = true ∧ DkO (B + 100) k' := by
  rw [call_eq G10 rfl, W_fin]
  obtain ⟨d1, k1, e1, p1, hk1⟩ := a_right_ok (fu := fu) (n := n) hk (by omega)
  obtain ⟨a, b, c, e, f, rfl, p2, p3, p4, p5⟩ := planOk_sh p1
  obtain ⟨d2, k2, e2, w, rfl, w0, w1, hk2⟩ := pick_ok (fu := fu) (n := n + 4) (size := 6) hk1 (by omega) (by omega) (by omega)
  show WO (evB (clN T fu (n + 5)) fu d__law_a_plan.body ⟨[Sl.k, .u, .u, .u, .u, .u, .u, .u, .u], k⟩) _ _
  unfold d__law_a_plan
  rw [WO_cons]
  rw [show evS (clN T fu (n + 5)) fu (.setT (.t [.t [.n 1, .n 2, .n 3], .n 4, .n 5]) (.callD 0 "_law_a_right" [])) ⟨[Sl.k, .u, .u, .u, .u, .u, .u, .u, .u], k⟩ = .nx ⟨[Sl.k, .p (.str a), .p (.str b), .p (.int c), .p (.bl e), .p f, .u, .u, .u], k1⟩ by simp [SZ, ixL, place, iteO_b, onB_b, e1], WO_nx, WO_cons]
  rw [show evS (clN T fu (n + 5)) fu (.set 6 (.callD 0 "_law_pick" [.lit (.int 6)])) ⟨[Sl.k, .p (.str a), .p (.str b), .p (.int c), .p (.bl e), .p f, .u, .u, .u], k1⟩ = .nx ⟨[Sl.k, .p (.str a), .p (.str b), .p (.int c), .p (.bl e), .p f, .p (.int w), .u, .u], k2⟩ by simp [SZ, ixL, place, iteO_b, onB_b, e2], WO_nx, WO_cons]
  have s0 : PlS (B + 9) ⟨[Sl.k, .p (.str a), .p (.str b), .p (.int c), .p (.bl e), .p f, .p (.int w), .u, .u], k2⟩ := ⟨a, b, c, w, e, f, .u, rfl, p2, p3, p4, p5, hk2⟩
  generalize (⟨[Sl.k, .p (.str a), .p (.str b), .p (.int c), .p (.bl e), .p f, .p (.int w), .u, .u], k2⟩ : Stt) = s at s0
  clear e1 e2 p1 p2 p3 p4 p5 hk1 hk2 w0 w1
  -- known ones
  refine WO.mono (N := PlS (B + 10)) ?_ (fun s1 h1 => ?_) fun _ _ z => z
  · obtain ⟨a, b, c, w, e, f, x, h1, h2, h3, h4, h5, h6⟩ := s0
    obtain ⟨ρ, k⟩ := s
    cases h1
    by_cases hw : w = 0
    · obtain ⟨d3, k3, e3, m3, hk3⟩ := one_ok (fu := fu) (n := n + 3) (xs := knownD) h6 (by omega) (by simp [SZ, ixL, place, iteO_b, onB_b, knownD]) (by simp [SZ, ixL, place, iteO_b, onB_b, knownD])
      have hp := List.all_eq_true.mp known_plan d3 m3
      obtain ⟨a2, b2, c2, e2, f2, rfl, _, _, _, p6⟩ := planOk_sh hp
      simp [SZ, ixL, place, iteO_b, onB_b, eq_ii, hw, known_ok, e3]
      exact ⟨a, b, c, w, e, f2, x, by rw [hw], h2, h3, h4, p6, hk3⟩
    · simp [SZ, ixL, place, iteO_b, onB_b, eq_ii, hw]
      exact ⟨a, b, c, w, e, f, x, rfl, h2, h3, h4, h5, h6.up (by omega)⟩
  rw [WO_cons]
  refine WO.mono (N := PlS (B + 70)) ?_ (fun s2 h2 => ?_) fun _ _ z => z
  · obtain ⟨a, b, c, w, e, f, x, q1, q2, q3, q4, q5, q6⟩ := h1
    obtain ⟨ρ, k⟩ := s1
    cases q1
    by_cases hw : 3 < w
    · obtain ⟨d3, k3, e3, r, rfl, r0, r1, hk3⟩ := pick_ok (fu := fu) (n := n + 4) (size := 4) q6 (by omega) (by omega) (by omega)
      have hrg := range_ok (i := 1 + r) (by omega) (by omega)
      have hl := rangeL_len (1 + r).toNat 0
      obtain ⟨d4, k4, e4, ps, rfl, l4, p4, hk4⟩ := comp_W (cl := clN T fu (n + 5)) (ρ := [Sl.k, .p (.str a), .p (.str b), .p (.int c), .p (.bl e), .p f, .p (.int w), x, .u]) (tg := .n 8) (it := .range [.bin .add (.lit (.int 1)) (.callD 0 "_law_pick" [.lit (.int 4)])]) (c := none) (elt := .callD 0 "_law_a_part" []) (own := [("turn", 8)]) (k := k) (k1 := k3) (l := rangeL 0 1 (1 + r).toNat)
        (I := DkO) (P := fun d => partOk d = true) 11 (B + 11) (by simp [SZ, ixL, place, iteO_b, onB_b, e3, hrg]) (by rw [hl]; simp [SZ, ixL, place, iteO_b, onB_b]; omega) hk3 (fun x hx B' k' hB' hk' => by
          rw [hl] at hB'
          obtain ⟨d, k2, e, m, hk2⟩ := a_part_ok (fu := fu) (n := n + 1) hk' (by omega)
          exact ⟨some d, k2, by simp [SZ, ixL, place, iteO_b, onB_b, itF, e], d, rfl, m, hk2⟩)
      rw [hl] at l4 hk4
      simp [SZ, ixL, place, iteO_b, onB_b, hw, e4]
      exact ⟨a, b, c, w, e, .tup ps, x, rfl, q2, q3, q4, partsOk_of (by omega) (by omega) p4, hk4.up (by omega)⟩
    · simp [SZ, ixL, place, iteO_b, onB_b, hw]
      exact ⟨a, b, c, w, e, f, x, rfl, q2, q3, q4, q5, q6.up (by omega)⟩
  rw [WO_cons]
  refine WO.mono (N := PlS (B + 74)) ?_ (fun s3 h3 => ?_) fun _ _ z => z
  · obtain ⟨a, b, c, w, e, f, x, q1, q2, q3, q4, q5, q6⟩ := h2
    obtain ⟨ρ, k⟩ := s2
    cases q1
    obtain ⟨d3, k3, e3, r, rfl, r0, r1, hk3⟩ := pick_ok (fu := fu) (n := n + 4) (size := 6) q6 (by omega) (by omega) (by omega)
    have upd : ∀ k3, DkO (B + 71) k3 → ∃ b2 c2 k5, (evS (clN T fu (n + 5)) fu (.par [2, 3] [.callD 0 "_law_one" [.lst [.lit (.str "b"), .lit (.str "t")]], .callD 0 "_law_pick" [.lit (.int 4)]]) ⟨[Sl.k, .p (.str a), .p (.str b), .p (.int c), .p (.bl e), .p f, .p (.int w), x, .u], k3⟩ = .nx ⟨[Sl.k, .p (.str a), .p (.str b2), .p (.int c2), .p (.bl e), .p f, .p (.int w), x, .u], k5⟩) ∧ strIn ["b", "t"] (.str b2) = true ∧ intIn 0 3 (.int c2) = true ∧ DkO (B + 74) k5 := by
      intro k3 hk3
      obtain ⟨d4, k4, e4, m4, hk4⟩ := one_ok (fu := fu) (n := n + 3) (xs := [.str "b", .str "t"]) hk3 (by omega) (by simp [SZ, ixL, place, iteO_b, onB_b]) (by simp [SZ, ixL, place, iteO_b, onB_b])
      obtain ⟨d5, k5, e5, c2, rfl, c0, c1, hk5⟩ := pick_ok (fu := fu) (n := n + 4) (size := 4) hk4 (by omega) (by omega) (by omega)
      have hc : intIn 0 3 (.int c2) = true := by simp [SZ, ixL, place, iteO_b, onB_b, intIn]; omega
      rcases two_str m4 with rfl | rfl
      · exact ⟨"b", c2, k5, by simp [SZ, ixL, place, iteO_b, onB_b, e4, e5], by decide, hc, hk5.up (by omega)⟩
      · exact ⟨"t", c2, k5, by simp [SZ, ixL, place, iteO_b, onB_b, e4, e5], by decide, hc, hk5.up (by omega)⟩
    by_cases hw : w = 5
    · obtain ⟨b2, c2, k5, e5, g1, g2, g3⟩ := upd k (q6.up (by omega))
      subst hw
      rw [evS_ite]
      simp only [ev_or, ev_cmp, ev_var, ev_lit]
      simp [SZ, ixL, place, iteO_b, onB_b, eq_ii, -evS_par]
      rw [e5]
      exact ⟨a, b2, c2, 5, e, f, x, rfl, q2, g1, g2, q5, g3⟩
    · by_cases hr : r = 0
      · obtain ⟨b2, c2, k5, e5, g1, g2, g3⟩ := upd k3 hk3
        subst hr
        simp [SZ, ixL, place, iteO_b, onB_b, eq_ii, hw, e3, -evS_par]
        rw [e5]
        exact ⟨a, b2, c2, w, e, f, x, rfl, q2, g1, g2, q5, g3⟩
      · simp [SZ, ixL, place, iteO_b, onB_b, eq_ii, hw, e3, hr]
        exact ⟨a, b, c, w, e, f, x, rfl, q2, q3, q4, q5, hk3.up (by omega)⟩
  rw [WO_cons]
  refine WO.mono (N := PlS (B + 100)) ?_ (fun s4 h4 => ?_) fun _ _ z => z
  · obtain ⟨a, b, c, w, e, f, x, q1, q2, q3, q4, q5, q6⟩ := h3
    obtain ⟨ρ, k⟩ := s3
    cases q1
    obtain ⟨d3, k3, e3, r, rfl, r0, r1, hk3⟩ := pick_ok (fu := fu) (n := n + 4) (size := 4) q6 (by omega) (by omega) (by omega)
    by_cases hr : r = 0
    · subst hr
      obtain ⟨ps, rfl, g1, g2, g3⟩ := partsOk_sh q5
      obtain ⟨d4, k4, e4, at_, rfl, a0, a1, hk4⟩ := pick_ok (fu := fu) (n := n + 4) (size := ps.length) hk3 (by omega) (by omega) (by omega)
      obtain ⟨d5, k5, e5, p5, hk5⟩ := a_part_ok (fu := fu) (n := n + 1) hk4 (by omega)
      have lc := cut_len ps (m := at_) a0 (by omega)
      have lc2 : (cut ps (some (at_ + 1)) none).length = ps.length - (at_ + 1).toNat := by
        show (((ps.drop (if at_ + 1 < 0 then (at_ + 1 + (ps.length : Int)).toNat else min (at_ + 1).toNat ps.length)).take (ps.length - (if at_ + 1 < 0 then (at_ + 1 + (ps.length : Int)).toNat else min (at_ + 1).toNat ps.length))).length) = _
        rw [if_neg (by omega)]
        simp [SZ, ixL, place, iteO_b, onB_b]
        omega
      have ok1 : ((cut ps none (some at_)).length + 1 ≤ 16777216) := by omega
      have ok2 : ((cut ps none (some at_)).length + 1 + (cut ps (some (at_ + 1)) none).length ≤ 16777216) := by omega
      have ok3 : ((cut ps none (some at_)).length + (1 + (cut ps (some (at_ + 1)) none).length) ≤ 16777216) := by omega
      simp [SZ, ixL, place, iteO_b, onB_b, eq_ii, e3, e4, e5, ok1, ok2, ok3]
      refine ⟨a, b, c, w, e, _, _, rfl, q2, q3, q4, partsOk_of ?_ ?_ fun p hp => ?_, hk5.up (by omega)⟩
      · simp [SZ, ixL, place, iteO_b, onB_b]
        omega
      · simp [SZ, ixL, place, iteO_b, onB_b]
        omega
      · simp [SZ, ixL, place, iteO_b, onB_b] at hp
        rcases hp with hp | hp | hp
        · exact g3 p (cut_mem hp)
        · rw [hp]
          exact p5
        · exact g3 p (cut_mem hp)
    · simp [SZ, ixL, place, iteO_b, onB_b, eq_ii, e3, hr]
      exact ⟨a, b, c, w, e, f, x, rfl, q2, q3, q4, q5, hk3.up (by omega)⟩
  obtain ⟨a, b, c, w, e, f, x, q1, q2, q3, q4, q5, q6⟩ := h4
  obtain ⟨ρ, k⟩ := s4
  cases q1
  simp [SZ, ixL, place, iteO_b, onB_b]
  exact ⟨planOk_mk q2 q3 q4 q5, q6⟩
end K01
set_option Elab.async false
set_option linter.all false
set_option maxRecDepth 100000
set_option maxHeartbeats 2000000
namespace K01
open PySem hiding plain
open Rf
variable {fu n : Nat}
/-- a thing: data that is not too deep, nor too long -/
def thB (m : Nat) : Nat → D → Bool
  | 0, d => flatD d
  | n + 1, .tup xs => decide (xs.length ≤ m) && xs.all (thB m n)
  | n + 1, .lst xs => decide (xs.length ≤ m) && xs.all (thB m n)
  | _ + 1, d => flatD d
theorem thB_flat {m : Nat} {d : D} (h : flatD d = true) : ∀ n, thB m n d = true
  | 0 => h
  | n + 1 => by cases d <;> first | (cases h; done) | exact h
theorem thB_up {m m' : Nat} (hm : m ≤ m') : ∀ {n : Nat} {d : D}, thB m n d = true → thB m' (n + 1) d = true
  | 0, d, h => thB_flat h 1
  | n + 1, d, h => by
    cases d with
    | tup xs =>
      simp only [thB, Bool.and_eq_true, decide_eq_true_eq, List.all_eq_true] at h ⊢
      exact ⟨by omega, fun x hx => thB_up hm (h.2 x hx)⟩
    | lst xs =>
      simp only [thB, Bool.and_eq_true, decide_eq_true_eq, List.all_eq_true] at h ⊢
      exact ⟨by omega, fun x hx => thB_up hm (h.2 x hx)⟩
    | _ => exact h
theorem plain_flat {d : D} (h : flatD d = true) : Rf.plain d = true := by cases d <;> first | rfl | cases h
theorem plains_all : ∀ {xs : List D}, (∀ x ∈ xs, Rf.plain x = true) → Rf.plains xs = true
  | [], _ => rfl
  | x :: xs, h => by
    simp only [Rf.plains, Bool.and_eq_true]
    exact ⟨h x (by simp [SZ, ixL, place, iteO_b, onB_b]), plains_all fun y hy => h y (by simp [SZ, ixL, place, iteO_b, onB_b, hy])⟩
theorem thB_plain {m : Nat} : ∀ {n : Nat} {d : D}, thB m n d = true → Rf.plain d = true
  | 0, d, h => plain_flat h
  | n + 1, d, h => by
    cases d with
    | tup xs =>
      simp only [thB, Bool.and_eq_true, decide_eq_true_eq, List.all_eq_true] at h
      exact plains_all fun x hx => thB_plain (h.2 x hx)
    | lst xs =>
      simp only [thB, Bool.and_eq_true, decide_eq_true_eq, List.all_eq_true] at h
      exact plains_all fun x hx => thB_plain (h.2 x hx)
    | _ => exact plain_flat h
theorem H1 : T "_law_spoilt" = some (.fn d__law_spoilt) := by rfl
theorem seq_th {m n : Nat} {xs : List D} (h1 : xs.length ≤ m) (h2 : ∀ x ∈ xs, thB m n x = true) : thB m (n + 1) (.tup xs) = true ∧ thB m (n + 1) (.lst xs) = true := by
  simp only [thB, Bool.and_eq_true, decide_eq_true_eq, List.all_eq_true]
  exact ⟨⟨h1, h2⟩, ⟨h1, h2⟩⟩
theorem th_seq {m n : Nat} {xs : List D} (h : thB m (n + 1) (.tup xs) = true ∨ thB m (n + 1) (.lst xs) = true) : xs.length ≤ m ∧ ∀ x ∈ xs, thB m n x = true := by
  rcases h with h | h <;> (simp only [thB, Bool.and_eq_true, decide_eq_true_eq, List.all_eq_true] at h; exact h)
/-- what comes of a sequence that is spoilt as a whole -/
theorem whole_th {m n : Nat} {xs : List D} (hm : 1 ≤ m) (h1 : xs.length ≤ m) (h2 : ∀ x ∈ xs, thB m n x = true) (c : List D → D) (hc : c = .tup ∨ c = .lst) (d : D)
    (hd : d ∈ [D.lst xs, c (xs ++ cut xs none (some 1)), c (cut xs (some 1) none), c xs.reverse, .tup [.str "across", .int 0], .non] ∨ d ∈ [D.tup xs, c (xs ++ cut xs none (some 1)), c (cut xs (some 1) none), c xs.reverse, .tup [.str "across", .int 0], .non]) : thB (m + 1) (n + 2) d = true := by
  have up : ∀ ys : List D, ys.length ≤ m + 1 → (∀ y ∈ ys, y ∈ xs) → thB (m + 1) (n + 2) (.tup ys) = true ∧ thB (m + 1) (n + 2) (.lst ys) = true := fun ys hl hy => seq_th hl fun y h => thB_up (by omega) (h2 y (hy y h))
  have cc : ∀ ys : List D, ys.length ≤ m + 1 → (∀ y ∈ ys, y ∈ xs) → thB (m + 1) (n + 2) (c ys) = true := fun ys hl hy => by
    rcases hc with rfl | rfl
    · exact (up ys hl hy).1
    · exact (up ys hl hy).2
  have l1 : (cut xs none (some 1)).length ≤ 1 := by
    show (((xs.drop 0).take (min (1 : Int).toNat xs.length - 0)).length) ≤ 1
    simp [SZ, ixL, place, iteO_b, onB_b]
    omega
  have l2 : (cut xs (some 1) none).length ≤ xs.length := by
    unfold cut
    simp [SZ, ixL, place, iteO_b, onB_b]
    omega
  have c1 : thB (m + 1) (n + 2) (c (xs ++ cut xs none (some 1))) = true := cc _ (by simp [SZ, ixL, place, iteO_b, onB_b]; omega) fun y hy => by
    rcases List.mem_append.mp hy with z | z
    · exact z
    · exact cut_mem z
  have c2 : thB (m + 1) (n + 2) (c (cut xs (some 1) none)) = true := cc _ (by omega) fun y hy => cut_mem hy
  have c3 : thB (m + 1) (n + 2) (c xs.reverse) = true := cc _ (by simp [SZ, ixL, place, iteO_b, onB_b]; omega) fun y hy => by simpa [SZ, ixL, place, iteO_b, onB_b] using hy
  have c4 : thB (m + 1) (n + 2) (.tup [.str "across", .int 0]) = true := (seq_th (by simp [SZ, ixL, place, iteO_b, onB_b]; omega) fun x hx => by
    simp [SZ, ixL, place, iteO_b, onB_b] at hx
    rcases hx with rfl | rfl <;> exact thB_flat rfl _).1
  have c5 : thB (m + 1) (n + 2) .non = true := rfl
  have u := up xs (by omega) fun y h => h
  rcases hd with hd | hd
  · simp only [List.mem_cons, List.not_mem_nil, or_false] at hd
    rcases hd with rfl | rfl | rfl | rfl | rfl | rfl
    · exact u.2
    · exact c1
    · exact c2
    · exact c3
    · exact c4
    · exact c5
  · simp only [List.mem_cons, List.not_mem_nil, or_false] at hd
    rcases hd with rfl | rfl | rfl | rfl | rfl | rfl
    · exact u.1
    · exact c1
    · exact c2
    · exact c3
    · exact c4
    · exact c5
theorem spoilt_flat {m dep B : Nat} {k : Dk} {d : D} (hd : flatD d = true) (hk : DkO B k) (hB : B ≤ 999000) (hm : 1 ≤ m) : W (callN T fu (n + 3) "_law_spoilt" k [d]) fun d' k' => thB (m + 1) (dep + 1) d' = true ∧ DkO (B + 1) k' := by
  rw [call_eq H1 rfl]
  have hw := whole_ok (fu := fu) (n := n + 1) d (by cases d <;> first | rfl | cases hd)
  have fl : ∀ (xs : List D) d', (∀ x ∈ xs, flatD x = true) → d' ∈ xs → thB (m + 1) (dep + 1) d' = true := fun xs d' h hx => thB_flat (h d' hx) _
  cases d with
  | str s =>
    obtain ⟨d', k', e, hm2, hk'⟩ := one_ok (fu := fu) (n := n) (xs := [.str "L", .str "R", .str "b", .str "t", .str "once", .str "again", .str "across", .str "slant", .str "straight", .str "", .str "l", .int 0]) hk (by omega) (by simp [SZ, ixL, place, iteO_b, onB_b]) (by simp [SZ, ixL, place, iteO_b, onB_b])
    simp [SZ, ixL, place, iteO_b, onB_b, d__law_spoilt, e]
    exact ⟨fl _ d' (by simp [SZ, ixL, place, iteO_b, onB_b]) hm2, hk'⟩
  | int i =>
    obtain ⟨d', k', e, hm2, hk'⟩ := one_ok (fu := fu) (n := n) (xs := [.int (-i), .int (i + 1), .int (i - 1), .int 0, .bl true, .non, .str "1", .int 2, .int 3, .int (-4)]) hk (by omega) (by simp [SZ, ixL, place, iteO_b, onB_b]) (by simp [SZ, ixL, place, iteO_b, onB_b])
    simp [SZ, ixL, place, iteO_b, onB_b, d__law_spoilt, e, hw, isInt]
    exact ⟨fl _ d' (by simp [SZ, ixL, place, iteO_b, onB_b]) hm2, hk'⟩
  | non =>
    obtain ⟨d', k', e, hm2, hk'⟩ := one_ok (fu := fu) (n := n) (xs := [.non, .int 0, .int 1, .bl true, .bl false, .tup [], .lst []]) hk (by omega) (by simp [SZ, ixL, place, iteO_b, onB_b]) (by simp [SZ, ixL, place, iteO_b, onB_b])
    simp [SZ, ixL, place, iteO_b, onB_b, d__law_spoilt, e, hw, isInt]
    refine ⟨?_, hk'⟩
    simp only [List.mem_cons, List.not_mem_nil, or_false] at hm2
    rcases hm2 with rfl | rfl | rfl | rfl | rfl | rfl | rfl <;> simp [SZ, ixL, place, iteO_b, onB_b, thB]
  | bl b =>
    obtain ⟨d', k', e, hm2, hk'⟩ := one_ok (fu := fu) (n := n) (xs := [.non, .int 0, .int 1, .bl true, .bl false, .tup [], .lst []]) hk (by omega) (by simp [SZ, ixL, place, iteO_b, onB_b]) (by simp [SZ, ixL, place, iteO_b, onB_b])
    simp [SZ, ixL, place, iteO_b, onB_b, d__law_spoilt, e, hw, isInt]
    refine ⟨?_, hk'⟩
    simp only [List.mem_cons, List.not_mem_nil, or_false] at hm2
    rcases hm2 with rfl | rfl | rfl | rfl | rfl | rfl | rfl <;> simp [SZ, ixL, place, iteO_b, onB_b, thB]
  | _ => cases hd
theorem spoilt_ok {m : Nat} (hm : 1 ≤ m) (hm2 : m ≤ 1000) : ∀ (dep B : Nat) (k : Dk) (d : D), thB m dep d = true → DkO B k → B + 3 * dep ≤ 998000 → W (callN T fu (n + dep + 3) "_law_spoilt" k [d]) fun d' k' => thB (m + 1) (dep + 1) d' = true ∧ DkO (B + 3 * dep + 1) k'
  | 0, B, k, d, h, hk, hB => spoilt_flat (n := n) h hk (by omega) hm
  | dep + 1, B, k, d, h, hk, hB => by
    by_cases hfl : flatD d = true
    · exact (spoilt_flat (n := n + dep + 1) (dep := dep + 1) hfl hk (by omega) hm).mono fun d' k' q => ⟨q.1, q.2.up (by omega)⟩
    have seq : ∃ xs, (d = .tup xs ∨ d = .lst xs) := by
      cases d <;> first | exact absurd rfl hfl | exact ⟨_, .inl rfl⟩ | exact ⟨_, .inr rfl⟩ | (simp [SZ, ixL, place, iteO_b, onB_b, thB] at h; done) | (exact absurd h (by simp [SZ, ixL, place, iteO_b, onB_b, thB, flatD]))
    obtain ⟨xs, hd⟩ := seq
    have hx : xs.length ≤ m ∧ ∀ x ∈ xs, thB m dep x = true := by
      rcases hd with rfl | rfl
      · exact th_seq (.inl h)
      · exact th_seq (.inr h)
    have ok1 : xs.length + (cut xs none (some 1)).length ≤ 16777216 := by
      have : (cut xs none (some 1)).length ≤ xs.length := by
        unfold cut
        simp [SZ, ixL, place, iteO_b, onB_b]
        omega
      omega
    -- the whole
    have whole : ∀ (c c2 : List D → D), (c = .tup ∧ c2 = .lst) ∨ (c = .lst ∧ c2 = .tup) → ∀ k1 B1, DkO B1 k1 → B1 ≤ B + 1 → W (callN T fu (n + dep + 3) "_law_one" k1 [.lst [c2 xs, c (xs ++ cut xs none (some 1)), c (cut xs (some 1) none), c xs.reverse, .tup [.str "across", .int 0], .non]]) fun d' k' => thB (m + 1) (dep + 2) d' = true ∧ DkO (B + 3 * (dep + 1) + 1) k' := by
      intro c c2 hc k1 B1 hk1 hB1
      refine (one_ok (fu := fu) (n := n + dep + 1) hk1 (by omega) (by simp [SZ, ixL, place, iteO_b, onB_b]) (by simp [SZ, ixL, place, iteO_b, onB_b])).mono fun d' k' q => ⟨?_, q.2.up (by omega)⟩
      rcases hc with ⟨rfl, rfl⟩ | ⟨rfl, rfl⟩
      · exact whole_th hm hx.1 hx.2 .tup (.inl rfl) d' (.inl q.1)
      · exact whole_th hm hx.1 hx.2 .lst (.inr rfl) d' (.inr q.1)
    show W (callN T fu (n + dep + 3 + 1) "_law_spoilt" k [d]) _
    rw [call_eq H1 rfl]
    by_cases h0 : xs = []
    · subst h0
      rcases hd with rfl | rfl
      · obtain ⟨d', k', e, q⟩ := whole .tup .lst (.inl ⟨rfl, rfl⟩) k B hk (by omega)
        simp [SZ, ixL, place, iteO_b, onB_b, cut, sEnd] at e
        simp [SZ, ixL, place, iteO_b, onB_b, d__law_spoilt, cut, sEnd, e]
        exact q
      · obtain ⟨d', k', e, q⟩ := whole .lst .tup (.inr ⟨rfl, rfl⟩) k B hk (by omega)
        simp [SZ, ixL, place, iteO_b, onB_b, cut, sEnd] at e
        simp [SZ, ixL, place, iteO_b, onB_b, d__law_spoilt, cut, sEnd, e]
        exact q
    · have hpos : 0 < xs.length := List.length_pos_iff.mpr h0
      obtain ⟨d1, k1, e1, r, rfl, r0, r1, hk1⟩ := pick_ok (fu := fu) (n := n + dep + 2) (size := 7) hk (by omega) (by omega) (by omega)
      have hf : (∀ x, x ∈ k1 → flatD x = true) = True := eq_true hk1.flat
      by_cases hr : 0 < r
      · obtain ⟨d2, k2, e2, at_, rfl, a0, a1, hk2⟩ := pick_ok (fu := fu) (n := n + dep + 2) (size := xs.length) hk1 (by omega) (by omega) (by omega)
        obtain ⟨x, g1, g2, g3⟩ := ixL_get a0 a1
        obtain ⟨x', k3, e3, q1, q2⟩ := spoilt_ok hm hm2 dep (B + 2) k2 x (hx.2 x g3) hk2 (by omega)
        have hp : Rf.place xs.length at_ = some at_.toNat := by
          unfold Rf.place
          rw [if_pos a0, if_pos a1]
        have hset := seq_th (m := m + 1) (n := dep + 1) (xs := xs.set at_.toNat x') (by simp [SZ, ixL, place, iteO_b, onB_b]; omega) fun y hy => by
          rcases List.mem_or_eq_of_mem_set hy with z | z
          · exact thB_up (by omega) (hx.2 y z)
          · rw [z]
            exact q1
        rcases hd with rfl | rfl
        · simp [SZ, iteO_b, onB_b, d__law_spoilt, hpos, e1, hr, hf, e2, g1, e3, hp]
          exact ⟨hset.1, q2.up (by omega)⟩
        · simp [SZ, iteO_b, onB_b, d__law_spoilt, hpos, e1, hr, hf, e2, g1, e3, hp]
          exact ⟨hset.2, q2.up (by omega)⟩
      · rcases hd with rfl | rfl
        · obtain ⟨d', k', e, q⟩ := whole .tup .lst (.inl ⟨rfl, rfl⟩) k1 (B + 1) hk1 (by omega)
          simp [SZ, ixL, place, iteO_b, onB_b, d__law_spoilt, hpos, e1, hr, ok1, e]
          exact q
        · obtain ⟨d', k', e, q⟩ := whole .lst .tup (.inr ⟨rfl, rfl⟩) k1 (B + 1) hk1 (by omega)
          simp [SZ, ixL, place, iteO_b, onB_b, d__law_spoilt, hpos, e1, hr, ok1, e]
          exact q
end K01
set_option Elab.async false
set_option linter.all false
set_option maxRecDepth 100000
set_option maxHeartbeats 0
namespace K01
open PySem PySem.Spec PyProof.Rows L2 Rf
def isT : R (D × Dk) → Bool
  | .ok (.bl true, []) => true
  | _ => false
theorem isT_of {r : R (D × Dk)} (h : isT r = true) : r = .ok (.bl true, []) := by
  unfold isT at h
  split at h
  · rfl
  · cases h
theorem written : callN T 100 20 "_law_written" [] [] = .ok (.bl true, []) := isT_of (by decide +kernel)
end K01
set_option Elab.async false
set_option linter.all false
set_option maxRecDepth 100000
set_option maxHeartbeats 2000000
namespace K01
open PySem hiding plain
open Rf
variable {fu n : Nat}
theorem L1 : T "_law_sort" = some (.fn d__law_sort) := by rfl
theorem L2 : T "_law_same" = some (.fn d__law_same) := by rfl
theorem L3 : T "law" = some (.fn d_law) := by rfl
theorem sort_bl (b : Bool) : callN T fu (n + 1) "_law_sort" [] [.bl b] = .ok (.int 1, []) := by
  rw [call_eq L1 rfl]
  simp [SZ, ixL, place, iteO_b, onB_b, d__law_sort]
theorem same_bl (b : Bool) : callN T fu (n + 2) "_law_same" [] [.bl b, .bl b] = .ok (.bl true, []) := by
  rw [call_eq L2 rfl]
  simp [SZ, ixL, place, iteO_b, onB_b, d__law_same, sort_bl, eq_c, ne_c, eqOk, Rf.plain, depth, eqD]
theorem deck_ok (cell : Int) : W (callN T fu (n + 1) "_law_deck" [] [.int cell, .int 1]) fun d k' => ∃ ds, d = .lst ds ∧ DkO 1 ds := by
  rw [call_eq G1 rfl]
  have f := fmod_in (x := cell) (m := 2147483579) (by omega)
  by_cases h : 1000000000000000000 ≤ cell
  · simp [SZ, ixL, place, iteO_b, onB_b, d__law_deck, h]
    exact ⟨_, _, _, rfl, by omega, f.1, by omega, by omega, by omega⟩
  · simp [SZ, ixL, place, iteO_b, onB_b, d__law_deck, h]
    exact ⟨_, _, _, rfl, by omega, f.1, by omega, by omega, by omega⟩
theorem th_of_move {d : D} (h : moveOk d = true) : thB 7 1 d = true := by
  obtain ⟨s, i, rfl⟩ := moveOk_sh h
  simp [SZ, ixL, place, iteO_b, onB_b, thB]
theorem th_of_part {d : D} (h : partOk d = true) : thB 7 3 d = true := by
  unfold partOk at h
  split at h
  · rename_i md ms
    simp only [Bool.and_eq_true, decide_eq_true_eq, List.all_eq_true] at h
    obtain ⟨⟨⟨_, h1, h2⟩, h3⟩, _⟩ := h
    have := (seq_th (m := 7) (n := 1) (xs := ms) (by omega) fun x hx => th_of_move (h3 x hx)).1
    exact (seq_th (by simp [SZ, ixL, place, iteO_b, onB_b]) fun x hx => by
      simp [SZ, ixL, place, iteO_b, onB_b] at hx
      rcases hx with rfl | rfl
      · exact thB_flat rfl _
      · exact this).1
  · cases h
theorem th_of_plan {d : D} (h : planOk d = true) : ∃ xs, d = .tup xs ∧ xs.length ≤ 7 ∧ ∀ x ∈ xs, thB 7 4 x = true := by
  obtain ⟨a, b, c, e, f, rfl, _, _, _, h4⟩ := planOk_sh h
  obtain ⟨ps, rfl, h1, h2, h3⟩ := partsOk_sh h4
  have hp := (seq_th (m := 7) (n := 3) (xs := ps) (by omega) fun x hx => th_of_part (h3 x hx)).1
  refine ⟨_, rfl, by simp [SZ, ixL, place, iteO_b, onB_b], fun x hx => ?_⟩
  simp [SZ, ixL, place, iteO_b, onB_b] at hx
  rcases hx with rfl | rfl | rfl
  · exact (seq_th (by simp [SZ, ixL, place, iteO_b, onB_b]) fun x hx => by
      simp [SZ, ixL, place, iteO_b, onB_b] at hx
      rcases hx with rfl | rfl | rfl <;> exact thB_flat rfl _).1
  · exact thB_flat rfl _
  · exact hp
/-- the law's state -/
def J (B : Nat) (s : Stt) : Prop := ∃ x0 x1 x3 x4 x5 x6 x7 x8, s.ρ = [x0, x1, Sl.k, x3, x4, x5, x6, x7, x8] ∧ DkO B s.k
theorem J.up {B C : Nat} {s : Stt} (h : J B s) (hc : B ≤ C) : J C s := by
  obtain ⟨x0, x1, x3, x4, x5, x6, x7, x8, e, h⟩ := h
  exact ⟨x0, x1, x3, x4, x5, x6, x7, x8, e, h.up hc⟩
def bIn : List S := [.ite (.not (.call "_law_same" [.call "is_plan" [.var 7], .call "_law_is_a_plan" [.var 7]])) [.ret (.lit (.bl false))] []]
def bThing : List S := [.for_ (.n 7) (.seq (.tup [.var 6, .callD 2 "_law_spoilt" [.var 6]])) bIn]
def bTurn : List S := [.set 4 (.callD 2 "_law_a_plan" []), .set 5 (.comp (.n 8) (.range [.lit (.int 30)]) none (.callD 2 "_law_spoilt" [.var 4]) [("k", 8)]), .for_ (.n 6) (.seq (.bin .add (.lst [.var 4, .bi .list (.var 4), .sl (.var 4) none (some (.lit (.int 2))), .lit .non, .lit (.str "L"), .lit (.int 5)]) (.var 5))) bThing]
def bCell : List S := [.setD 2 (.call "_law_deck" [.var 1, .lit (.int 1)]), .for_ (.n 3) (.range [.lit (.int 3)]) bTurn]
theorem law_body : d_law.body = [.for_ (.n 1) (.seq (.sl (.bin .add (.lst [.lit (.int 0)]) (.var 0)) none (some (.lit (.int 10))))) bCell, .ret (.call "_law_written" [])] := rfl
theorem evS_for {cl : CL} {fu : Nat} {tg : Tg} {it : Rf.It} {b : List S} {s : Stt} {l : List D} {k : Dk} (h : evI cl s.ρ it s.k = .ok (l, k)) : evS cl fu (.for_ tg it b) s = forL (evB cl fu b) (bindT tg) l ⟨s.ρ, k⟩ := by
  simp only [evS]
  rw [h]
theorem in_ok {B : Nat} {d : D} {s : Stt} (P : D → Dk → Prop) (hd : Rf.plain d = true) (x0 x1 x3 x4 x5 x6 x8 : Sl) (k : Dk) (hk : DkO B k) : WO (evB (clN T fu (n + 20)) fu bIn ⟨[x0, x1, Sl.k, x3, x4, x5, x6, .p d, x8], k⟩) (J B) P := by
  have e1 := plan_ok (fu := fu) (n := n + 15) d hd
  have e2 := lplan_ok (fu := fu) (n := n + 15) d hd
  have e3 := same_bl (fu := fu) (n := n + 18) (planOk d)
  simp [SZ, ixL, place, iteO_b, onB_b, bIn, e1, e2, e3]
  exact ⟨x0, x1, x3, x4, x5, x6, _, x8, rfl, hk⟩
theorem thing_ok {B : Nat} {d : D} (P : D → Dk → Prop) (hB : B ≤ 900000) (hd : thB 8 6 d = true) (x0 x1 x3 x4 x5 x7 x8 : Sl) (k : Dk) (hk : DkO B k) : WO (evB (clN T fu (n + 20)) fu bThing ⟨[x0, x1, Sl.k, x3, x4, x5, .p d, x7, x8], k⟩) (J (B + 19)) P := by
  obtain ⟨d2, k2, e, h2, hk2⟩ := spoilt_ok (fu := fu) (n := n + 11) (m := 8) (by omega) (by omega) 6 B k d hd hk (by omega)
  have hI : evI (clN T fu (n + 20)) [x0, x1, Sl.k, x3, x4, x5, .p d, x7, x8] (.seq (.tup [.var 6, .callD 2 "_law_spoilt" [.var 6]])) k = .ok ([d, d2], k2) := by simp [SZ, ixL, place, iteO_b, onB_b, e]
  unfold bThing
  rw [WO_cons, evS_for hI]
  refine WO.mono (N := J (B + 19)) (P := P) ?_ (fun s hs => by simpa [SZ, ixL, place, iteO_b, onB_b] using hs) fun _ _ z => z
  refine forL_inv (fun _ => J (B + 19)) _ 0 _ (fun j x hx s hs => ?_) ⟨_, _, _, _, _, _, _, _, rfl, hk2⟩
  obtain ⟨y0, y1, y3, y4, y5, y6, y7, y8, es, hks⟩ := hs
  obtain ⟨ρ, ks⟩ := s
  cases es
  refine ⟨[y0, y1, Sl.k, y3, y4, y5, y6, .p x, y8], rfl, in_ok (s := ⟨[], []⟩) P ?_ _ _ _ _ _ _ _ _ hks⟩
  match j, hx with
  | 0, hx =>
    cases hx
    exact thB_plain hd
  | 1, hx =>
    cases hx
    exact thB_plain h2
theorem turn_ok {B : Nat} (P : D → Dk → Prop) (hB : B ≤ 100000) (x0 x1 x3 x4 x5 x6 x7 x8 : Sl) (k : Dk) (hk : DkO B k) : WO (evB (clN T fu (n + 20)) fu bTurn ⟨[x0, x1, Sl.k, x3, x4, x5, x6, x7, x8], k⟩) (J (B + 2000)) P := by
  obtain ⟨pl, k1, e1, p1, hk1⟩ := a_plan_ok (fu := fu) (n := n + 14) hk (by omega)
  obtain ⟨xs, rfl, hl, hx⟩ := th_of_plan p1
  have h5 := (seq_th hl hx).1
  have hrg := range_ok (i := 30) (by omega) (by omega)
  have hrl := rangeL_len 30 0
  obtain ⟨d2, k2, e2, ds, rfl, l2, p2, hk2⟩ := comp_W (cl := clN T fu (n + 20)) (ρ := [x0, x1, Sl.k, x3, .p (.tup xs), x5, x6, x7, x8]) (tg := .n 8) (it := .range [.lit (.int 30)]) (c := none) (elt := .callD 2 "_law_spoilt" [.var 4]) (own := [("k", 8)]) (k := k1) (k1 := k1) (l := rangeL 0 1 30)
    (I := DkO) (P := fun d => thB 8 6 d = true) 16 (B + 100) (by simp [SZ, ixL, place, iteO_b, onB_b, hrg]) (by rw [hrl]; simp [SZ, ixL, place, iteO_b, onB_b]) hk1 (fun x hx B' k' hB' hk' => by
      rw [hrl] at hB'
      obtain ⟨d, k2, e, m, hk2⟩ := spoilt_ok (fu := fu) (n := n + 12) (m := 7) (by omega) (by omega) 5 B' k' _ h5 hk' (by omega)
      exact ⟨some d, k2, by simp [SZ, ixL, place, iteO_b, onB_b, itF, e], d, rfl, m, hk2⟩)
  rw [hrl] at l2 hk2
  have th6 : ∀ d ∈ [D.tup xs, .lst xs, .tup (cut xs none (some 2)), .non, .str "L", .int 5] ++ ds, thB 8 6 d = true := by
    intro d hd
    rcases List.mem_append.mp hd with hd | hd
    · simp only [List.mem_cons, List.not_mem_nil, or_false] at hd
      have lc : (cut xs none (some 2)).length ≤ xs.length := by
        unfold cut
        simp [SZ, ixL, place, iteO_b, onB_b]
        omega
      rcases hd with rfl | rfl | rfl | rfl | rfl | rfl
      · exact thB_up (by omega) h5
      · exact thB_up (by omega) (seq_th hl hx).2
      · exact thB_up (by omega) (seq_th (m := 7) (n := 4) (xs := cut xs none (some 2)) (by omega) fun x h => hx x (cut_mem h)).1
      · exact thB_flat rfl _
      · exact thB_flat rfl _
      · exact thB_flat rfl _
    · exact p2 d hd
  unfold bTurn
  rw [WO_cons]
  rw [show evS (clN T fu (n + 20)) fu (.set 4 (.callD 2 "_law_a_plan" [])) ⟨[x0, x1, Sl.k, x3, x4, x5, x6, x7, x8], k⟩ = .nx ⟨[x0, x1, Sl.k, x3, .p (.tup xs), x5, x6, x7, x8], k1⟩ by simp [SZ, ixL, place, iteO_b, onB_b, e1], WO_nx, WO_cons]
  rw [show evS (clN T fu (n + 20)) fu (.set 5 (.comp (.n 8) (.range [.lit (.int 30)]) none (.callD 2 "_law_spoilt" [.var 4]) [("k", 8)])) ⟨[x0, x1, Sl.k, x3, .p (.tup xs), x5, x6, x7, x8], k1⟩ = .nx ⟨[x0, x1, Sl.k, x3, .p (.tup xs), .p (.lst ds), x6, x7, x8], k2⟩ by simp [SZ, ixL, place, iteO_b, onB_b, e2], WO_nx, WO_cons]
  have ll : ([D.tup xs, .lst xs, .tup (cut xs none (some 2)), .non, .str "L", .int 5] ++ ds).length = 36 := by simp [SZ, ixL, place, iteO_b, onB_b, l2]
  have hI : evI (clN T fu (n + 20)) [x0, x1, Sl.k, x3, .p (.tup xs), .p (.lst ds), x6, x7, x8] (.seq (.bin .add (.lst [.var 4, .bi .list (.var 4), .sl (.var 4) none (some (.lit (.int 2))), .lit .non, .lit (.str "L"), .lit (.int 5)]) (.var 5))) k2 = .ok ([D.tup xs, .lst xs, .tup (cut xs none (some 2)), .non, .str "L", .int 5] ++ ds, k2) := by simp [SZ, ixL, place, iteO_b, onB_b, l2]
  rw [evS_for hI]
  generalize ([D.tup xs, .lst xs, .tup (cut xs none (some 2)), .non, .str "L", .int 5] ++ ds) = L at th6 ll
  have := forL_inv (body := evB (clN T fu (n + 20)) fu bThing) (bnd := bindT (.n 6)) (P := P) (fun j s => J (B + 600 + 19 * j) s ∧ j ≤ 36) L 0 ⟨[x0, x1, Sl.k, x3, .p (.tup xs), .p (.lst ds), x6, x7, x8], k2⟩ (fun j x hx s hs => by
    obtain ⟨⟨y0, y1, y3, y4, y5, y6, y7, y8, es, hks⟩, hj⟩ := hs
    obtain ⟨ρ, ks⟩ := s
    cases es
    have hjl : j < L.length := (List.getElem?_eq_some_iff.mp hx).1
    refine ⟨[y0, y1, Sl.k, y3, y4, y5, .p x, y7, y8], rfl, (thing_ok P (by omega) (th6 x (List.mem_of_getElem? hx)) _ _ _ _ _ _ _ _ hks).mono (fun s q => ⟨q.up (by omega), by omega⟩) fun _ _ z => z⟩) ⟨⟨_, _, _, _, _, _, _, _, rfl, hk2.up (by omega)⟩, by omega⟩
  refine this.mono (fun s q => ?_) fun _ _ z => z
  simp [SZ, ixL, place, iteO_b, onB_b]
  exact q.1.up (by omega)
theorem cell_ok (P : D → Dk → Prop) (cell : Int) (x0 x2 x3 x4 x5 x6 x7 x8 : Sl) (k : Dk) : WO (evB (clN T fu (n + 20)) fu bCell ⟨[x0, .p (.int cell), x2, x3, x4, x5, x6, x7, x8], k⟩) (fun s => ∃ B, J B s) P := by
  obtain ⟨d1, k1, e1, ds, rfl, hk⟩ := deck_ok (fu := fu) (n := n + 19) cell
  unfold bCell
  rw [WO_cons]
  rw [show evS (clN T fu (n + 20)) fu (.setD 2 (.call "_law_deck" [.var 1, .lit (.int 1)])) ⟨[x0, .p (.int cell), x2, x3, x4, x5, x6, x7, x8], k⟩ = .nx ⟨[dropK x0, .p (.int cell), Sl.k, dropK x3, dropK x4, dropK x5, dropK x6, dropK x7, dropK x8], ds⟩ by simp [SZ, ixL, place, iteO_b, onB_b, e1], WO_nx, WO_cons]
  have hrg := range_ok (i := 3) (by omega) (by omega)
  have hI : evI (clN T fu (n + 20)) [dropK x0, .p (.int cell), Sl.k, dropK x3, dropK x4, dropK x5, dropK x6, dropK x7, dropK x8] (.range [.lit (.int 3)]) ds = .ok (rangeL 0 1 3, ds) := by simp [SZ, ixL, place, iteO_b, onB_b, hrg]
  rw [evS_for hI]
  have hrl := rangeL_len 3 0
  have := forL_inv (body := evB (clN T fu (n + 20)) fu bTurn) (bnd := bindT (.n 3)) (P := P) (fun j s => J (1 + 2000 * j) s ∧ j ≤ 3) (rangeL 0 1 3) 0 ⟨[dropK x0, .p (.int cell), Sl.k, dropK x3, dropK x4, dropK x5, dropK x6, dropK x7, dropK x8], ds⟩ (fun j x hx s hs => by
    obtain ⟨⟨y0, y1, y3, y4, y5, y6, y7, y8, es, hks⟩, hj⟩ := hs
    obtain ⟨ρ, ks⟩ := s
    cases es
    have hjl : j < (rangeL 0 1 3).length := (List.getElem?_eq_some_iff.mp hx).1
    rw [hrl] at hjl
    refine ⟨[y0, y1, Sl.k, .p x, y4, y5, y6, y7, y8], rfl, (turn_ok P (by omega) _ _ _ _ _ _ _ _ _ hks).mono (fun s q => ⟨q.up (by omega), by omega⟩) fun _ _ z => z⟩) ⟨⟨_, _, _, _, _, _, _, _, rfl, hk⟩, by omega⟩
  refine this.mono (fun s q => ?_) fun _ _ z => z
  simp [SZ, ixL, place, iteO_b, onB_b]
  exact ⟨_, q.1⟩
/-- THE LAW, in plain Lean -/
theorem law_ok (ns : List Int) (hn : ns.length ≤ 63) : W (callN T 100 21 "law" [] [.scr ns]) fun d _ => d = .bl true := by
  rw [call_eq L3 rfl, W_fin, law_body]
  show WO (evB (clN T 100 20) 100 _ ⟨[.p (.scr ns), .u, .u, .u, .u, .u, .u, .u, .u], []⟩) _ _
  have hI : evI (clN T 100 20) [.p (.scr ns), .u, .u, .u, .u, .u, .u, .u, .u] (.seq (.sl (.bin .add (.lst [.lit (.int 0)]) (.var 0)) none (some (.lit (.int 10))))) [] = .ok (cut (D.int 0 :: ns.map D.int) none (some 10), []) := by
    have : 1 + ns.length ≤ 16777216 := by omega
    simp [SZ, ixL, place, iteO_b, onB_b, this]
  rw [WO_cons, evS_for hI]
  have hints : ∀ x ∈ cut (D.int 0 :: ns.map D.int) none (some 10), ∃ i, x = D.int i := fun x hx => by
    have := cut_mem hx
    simp [SZ, ixL, place, iteO_b, onB_b] at this
    rcases this with rfl | ⟨i, _, rfl⟩
    · exact ⟨0, rfl⟩
    · exact ⟨i, rfl⟩
  generalize cut (D.int 0 :: ns.map D.int) none (some 10) = L at hints
  have := forL_inv (body := evB (clN T 100 20) 100 bCell) (bnd := bindT (.n 1)) (P := fun d _ => d = D.bl true) (fun _ s => ∃ x0 x1 x2 x3 x4 x5 x6 x7 x8, s.ρ = [x0, x1, x2, x3, x4, x5, x6, x7, x8]) L 0 ⟨[.p (.scr ns), .u, .u, .u, .u, .u, .u, .u, .u], []⟩ (fun j x hx s hs => by
    obtain ⟨y0, y1, y2, y3, y4, y5, y6, y7, y8, es⟩ := hs
    obtain ⟨ρ, ks⟩ := s
    cases es
    obtain ⟨i, rfl⟩ := hints x (List.mem_of_getElem? hx)
    refine ⟨[y0, .p (.int i), y2, y3, y4, y5, y6, y7, y8], rfl, (cell_ok (n := 0) _ i _ _ _ _ _ _ _ _ ks).mono (fun s ⟨B, q⟩ => ?_) fun _ _ z => z⟩
    obtain ⟨z0, z1, z3, z4, z5, z6, z7, z8, e, _⟩ := q
    exact ⟨z0, z1, Sl.k, z3, z4, z5, z6, z7, z8, e⟩) ⟨_, _, _, _, _, _, _, _, _, rfl⟩
  refine this.mono (fun s q => ?_) fun _ _ z => z
  simp [SZ, ixL, place, iteO_b, onB_b, written]
end K01
set_option Elab.async false
set_option linter.all false
set_option maxRecDepth 100000
set_option maxHeartbeats 0
namespace K01
open PySem PySem.Spec PyProof.Rows L2 Rf
def dfn (x : Str) (i : Nat) : He.DefD := ⟨(x, none), x, x, defArgs (top i), defBody (top i), defScope (top i), [], []⟩
def fn : List He.DefD := [dfn "is_within" 5, dfn "has_items" 6, dfn "is_one_of" 7, dfn "is_move" 8, dfn "is_part" 9, dfn "net_of" 10, dfn "is_start" 11, dfn "is_plan_value" 12, dfn "is_plan" 13, dfn "_law_deck" 15, dfn "_law_pick" 16, dfn "_law_whole" 17, dfn "_law_one" 18, dfn "_law_sort" 19, dfn "_law_same" 20, dfn "_law_known" 21, dfn "_law_net" 22, dfn "_law_a_move" 23, dfn "_law_a_part" 24, dfn "_law_there_and_back" 25, dfn "_law_by_twos" 26, dfn "_law_a_right" 27, dfn "_law_a_plan" 28, dfn "_law_number_so" 29, dfn "_law_is_a_move" 30, dfn "_law_is_a_part" 31, dfn "_law_is_a_plan" 32, dfn "_law_spoilt" 33, dfn "_law_alone" 34, dfn "_law_written" 35, dfn "law" 36]
def fa : List He.Fa := [.glo "is_within", .glo "has_items", .glo "is_one_of", .glo "is_move", .glo "is_part", .glo "net_of", .glo "is_start", .glo "is_plan_value", .glo "is_plan", .glo "_law_deck", .glo "_law_pick", .glo "_law_whole", .glo "_law_one", .glo "_law_sort", .glo "_law_same", .glo "_law_known", .glo "_law_net", .glo "_law_a_move", .glo "_law_a_part", .glo "_law_there_and_back", .glo "_law_by_twos", .glo "_law_a_right", .glo "_law_a_plan", .glo "_law_number_so", .glo "_law_is_a_move", .glo "_law_is_a_part", .glo "_law_is_a_plan", .glo "_law_spoilt", .glo "_law_alone", .glo "_law_written", .glo "law", .glo "SIDES", .glo "ENDS", .glo "KINDS", .glo "MODES", .free "abs", .free "all", .free "bool", .free "enumerate", .free "int", .free "isinstance", .free "len", .free "list", .free "range", .free "str", .free "sum", .free "tuple"]
def loose0 : List PySem.Str := ["__name__", "SIDES", "ENDS", "KINDS", "MODES", "is_within", "has_items", "is_one_of", "is_move", "is_part", "net_of", "is_start", "is_plan_value", "is_plan", "_law_deck", "_law_pick", "_law_whole", "_law_one", "_law_sort", "_law_same", "_law_known", "_law_net", "_law_a_move", "_law_a_part", "_law_there_and_back", "_law_by_twos", "_law_a_right", "_law_a_plan", "_law_number_so", "_law_is_a_move"]
def loose1 : List PySem.Str := ["_law_is_a_part", "_law_is_a_plan", "_law_spoilt", "_law_alone", "_law_written"]
def loose : List PySem.Str := loose0 ++ loose1
def exF (K : PySem.W.Frag) : Bool := (He.tupB K "SIDES" [.str "L", .str "R"]) && ((He.tupB K "ENDS" [.str "b", .str "t"]) && ((He.tupB K "KINDS" [.str "across", .str "slant", .str "straight"]) && ((He.tupB K "MODES" [.str "once", .str "again"]) && (true))))
abbrev R : PySem.W.OpenRow := PySem.W.OpenLaw.row PySem.Challenge.rw_anylaces_k01_plans_recognized
abbrev hk : PySem.W.Hook := He.hookX 4 fa fn [] [] exF
def ob (s : PySem.W.SharedT) : He.AlX := He.obsX 4 fa fn [] [] exF (HandSHeadRun.getT s)
theorem ob_eq (s : PySem.W.SharedT) : ob s = hk.obs s.abs := He.obsX_eq (HandSHeadRun.getT_eq s)
theorem run (w : World) : HandSHeadRun.RunEq R (PySem.W.view R.prog [36]) hk ob 2000 loose w := by
  intro os
  kernel_rfl
section
variable {K : PySem.W.Frag} {h : Heap} {mg : Str → Option Value}
theorem at_is_within (X : K.In h) (G : h.Ns mainGlobals mg) (c : He.SaysD fa fn K) : DefAt K mg T free "is_within" d_is_within := by
  obtain ⟨fdt, F⟩ := c.def_ 0 (d := dfn "is_within" 5) rfl
  exact ⟨_, _, _, _, _, _, fdt, ["value", "low", "high"], F, He.glo_ok X G (c.fact 0 (f := .glo "is_within") rfl), F.bindsN (fun _ _ _ _ _ _ us hl => match us, hl with | [_, _, _], _ => rfl), C8.fnScope_by (by decide +kernel), rfl, ck_is_within⟩
theorem at_has_items (X : K.In h) (G : h.Ns mainGlobals mg) (c : He.SaysD fa fn K) : DefAt K mg T free "has_items" d_has_items := by
  obtain ⟨fdt, F⟩ := c.def_ 1 (d := dfn "has_items" 6) rfl
  exact ⟨_, _, _, _, _, _, fdt, ["value", "low", "high"], F, He.glo_ok X G (c.fact 1 (f := .glo "has_items") rfl), F.bindsN (fun _ _ _ _ _ _ us hl => match us, hl with | [_, _, _], _ => rfl), C8.fnScope_by (by decide +kernel), rfl, ck_has_items⟩
theorem at_is_one_of (X : K.In h) (G : h.Ns mainGlobals mg) (c : He.SaysD fa fn K) : DefAt K mg T free "is_one_of" d_is_one_of := by
  obtain ⟨fdt, F⟩ := c.def_ 2 (d := dfn "is_one_of" 7) rfl
  exact ⟨_, _, _, _, _, _, fdt, ["value", "words"], F, He.glo_ok X G (c.fact 2 (f := .glo "is_one_of") rfl), F.bindsN (fun _ _ _ _ _ _ us hl => match us, hl with | [_, _], _ => rfl), C8.fnScope_by (by decide +kernel), rfl, ck_is_one_of⟩
theorem at_is_move (X : K.In h) (G : h.Ns mainGlobals mg) (c : He.SaysD fa fn K) : DefAt K mg T free "is_move" d_is_move := by
  obtain ⟨fdt, F⟩ := c.def_ 3 (d := dfn "is_move" 8) rfl
  exact ⟨_, _, _, _, _, _, fdt, ["value"], F, He.glo_ok X G (c.fact 3 (f := .glo "is_move") rfl), F.bindsN (fun _ _ _ _ _ _ us hl => match us, hl with | [_], _ => rfl), C8.fnScope_by (by decide +kernel), rfl, ck_is_move⟩
theorem at_is_part (X : K.In h) (G : h.Ns mainGlobals mg) (c : He.SaysD fa fn K) : DefAt K mg T free "is_part" d_is_part := by
  obtain ⟨fdt, F⟩ := c.def_ 4 (d := dfn "is_part" 9) rfl
  exact ⟨_, _, _, _, _, _, fdt, ["value"], F, He.glo_ok X G (c.fact 4 (f := .glo "is_part") rfl), F.bindsN (fun _ _ _ _ _ _ us hl => match us, hl with | [_], _ => rfl), C8.fnScope_by (by decide +kernel), rfl, ck_is_part⟩
theorem at_net_of (X : K.In h) (G : h.Ns mainGlobals mg) (c : He.SaysD fa fn K) : DefAt K mg T free "net_of" d_net_of := by
  obtain ⟨fdt, F⟩ := c.def_ 5 (d := dfn "net_of" 10) rfl
  exact ⟨_, _, _, _, _, _, fdt, ["moves"], F, He.glo_ok X G (c.fact 5 (f := .glo "net_of") rfl), F.bindsN (fun _ _ _ _ _ _ us hl => match us, hl with | [_], _ => rfl), C8.fnScope_by (by decide +kernel), rfl, ck_net_of⟩
theorem at_is_start (X : K.In h) (G : h.Ns mainGlobals mg) (c : He.SaysD fa fn K) : DefAt K mg T free "is_start" d_is_start := by
  obtain ⟨fdt, F⟩ := c.def_ 6 (d := dfn "is_start" 11) rfl
  exact ⟨_, _, _, _, _, _, fdt, ["value"], F, He.glo_ok X G (c.fact 6 (f := .glo "is_start") rfl), F.bindsN (fun _ _ _ _ _ _ us hl => match us, hl with | [_], _ => rfl), C8.fnScope_by (by decide +kernel), rfl, ck_is_start⟩
theorem at_is_plan_value (X : K.In h) (G : h.Ns mainGlobals mg) (c : He.SaysD fa fn K) : DefAt K mg T free "is_plan_value" d_is_plan_value := by
  obtain ⟨fdt, F⟩ := c.def_ 7 (d := dfn "is_plan_value" 12) rfl
  exact ⟨_, _, _, _, _, _, fdt, ["value"], F, He.glo_ok X G (c.fact 7 (f := .glo "is_plan_value") rfl), F.bindsN (fun _ _ _ _ _ _ us hl => match us, hl with | [_], _ => rfl), C8.fnScope_by (by decide +kernel), rfl, ck_is_plan_value⟩
theorem at_is_plan (X : K.In h) (G : h.Ns mainGlobals mg) (c : He.SaysD fa fn K) : DefAt K mg T free "is_plan" d_is_plan := by
  obtain ⟨fdt, F⟩ := c.def_ 8 (d := dfn "is_plan" 13) rfl
  exact ⟨_, _, _, _, _, _, fdt, ["value"], F, He.glo_ok X G (c.fact 8 (f := .glo "is_plan") rfl), F.bindsN (fun _ _ _ _ _ _ us hl => match us, hl with | [_], _ => rfl), C8.fnScope_by (by decide +kernel), rfl, ck_is_plan⟩
theorem at__law_deck (X : K.In h) (G : h.Ns mainGlobals mg) (c : He.SaysD fa fn K) : DefAt K mg T free "_law_deck" d__law_deck := by
  obtain ⟨fdt, F⟩ := c.def_ 9 (d := dfn "_law_deck" 15) rfl
  exact ⟨_, _, _, _, _, _, fdt, ["cell", "turn"], F, He.glo_ok X G (c.fact 9 (f := .glo "_law_deck") rfl), F.bindsN (fun _ _ _ _ _ _ us hl => match us, hl with | [_, _], _ => rfl), C8.fnScope_by (by decide +kernel), rfl, ck__law_deck⟩
theorem at__law_pick (X : K.In h) (G : h.Ns mainGlobals mg) (c : He.SaysD fa fn K) : DefAt K mg T free "_law_pick" d__law_pick := by
  obtain ⟨fdt, F⟩ := c.def_ 10 (d := dfn "_law_pick" 16) rfl
  exact ⟨_, _, _, _, _, _, fdt, ["deck", "size"], F, He.glo_ok X G (c.fact 10 (f := .glo "_law_pick") rfl), F.bindsN (fun _ _ _ _ _ _ us hl => match us, hl with | [_, _], _ => rfl), C8.fnScope_by (by decide +kernel), rfl, ck__law_pick⟩
theorem at__law_whole (X : K.In h) (G : h.Ns mainGlobals mg) (c : He.SaysD fa fn K) : DefAt K mg T free "_law_whole" d__law_whole := by
  obtain ⟨fdt, F⟩ := c.def_ 11 (d := dfn "_law_whole" 17) rfl
  exact ⟨_, _, _, _, _, _, fdt, ["thing"], F, He.glo_ok X G (c.fact 11 (f := .glo "_law_whole") rfl), F.bindsN (fun _ _ _ _ _ _ us hl => match us, hl with | [_], _ => rfl), C8.fnScope_by (by decide +kernel), rfl, ck__law_whole⟩
theorem at__law_one (X : K.In h) (G : h.Ns mainGlobals mg) (c : He.SaysD fa fn K) : DefAt K mg T free "_law_one" d__law_one := by
  obtain ⟨fdt, F⟩ := c.def_ 12 (d := dfn "_law_one" 18) rfl
  exact ⟨_, _, _, _, _, _, fdt, ["deck", "some"], F, He.glo_ok X G (c.fact 12 (f := .glo "_law_one") rfl), F.bindsN (fun _ _ _ _ _ _ us hl => match us, hl with | [_, _], _ => rfl), C8.fnScope_by (by decide +kernel), rfl, ck__law_one⟩
theorem at__law_sort (X : K.In h) (G : h.Ns mainGlobals mg) (c : He.SaysD fa fn K) : DefAt K mg T free "_law_sort" d__law_sort := by
  obtain ⟨fdt, F⟩ := c.def_ 13 (d := dfn "_law_sort" 19) rfl
  exact ⟨_, _, _, _, _, _, fdt, ["thing"], F, He.glo_ok X G (c.fact 13 (f := .glo "_law_sort") rfl), F.bindsN (fun _ _ _ _ _ _ us hl => match us, hl with | [_], _ => rfl), C8.fnScope_by (by decide +kernel), rfl, ck__law_sort⟩
theorem at__law_same (X : K.In h) (G : h.Ns mainGlobals mg) (c : He.SaysD fa fn K) : DefAt K mg T free "_law_same" d__law_same := by
  obtain ⟨fdt, F⟩ := c.def_ 14 (d := dfn "_law_same" 20) rfl
  exact ⟨_, _, _, _, _, _, fdt, ["told", "due"], F, He.glo_ok X G (c.fact 14 (f := .glo "_law_same") rfl), F.bindsN (fun _ _ _ _ _ _ us hl => match us, hl with | [_, _], _ => rfl), C8.fnScope_by (by decide +kernel), rfl, ck__law_same⟩
theorem at__law_known (X : K.In h) (G : h.Ns mainGlobals mg) (c : He.SaysD fa fn K) : DefAt K mg T free "_law_known" d__law_known := by
  obtain ⟨fdt, F⟩ := c.def_ 15 (d := dfn "_law_known" 21) rfl
  exact ⟨_, _, _, _, _, _, fdt, [], F, He.glo_ok X G (c.fact 15 (f := .glo "_law_known") rfl), F.bindsN (fun _ _ _ _ _ _ us hl => match us, hl with | [], _ => rfl), C8.fnScope_by (by decide +kernel), rfl, ck__law_known⟩
theorem at__law_net (X : K.In h) (G : h.Ns mainGlobals mg) (c : He.SaysD fa fn K) : DefAt K mg T free "_law_net" d__law_net := by
  obtain ⟨fdt, F⟩ := c.def_ 16 (d := dfn "_law_net" 22) rfl
  exact ⟨_, _, _, _, _, _, fdt, ["moves_so"], F, He.glo_ok X G (c.fact 16 (f := .glo "_law_net") rfl), F.bindsN (fun _ _ _ _ _ _ us hl => match us, hl with | [_], _ => rfl), C8.fnScope_by (by decide +kernel), rfl, ck__law_net⟩
theorem at__law_a_move (X : K.In h) (G : h.Ns mainGlobals mg) (c : He.SaysD fa fn K) : DefAt K mg T free "_law_a_move" d__law_a_move := by
  obtain ⟨fdt, F⟩ := c.def_ 17 (d := dfn "_law_a_move" 23) rfl
  exact ⟨_, _, _, _, _, _, fdt, ["deck"], F, He.glo_ok X G (c.fact 17 (f := .glo "_law_a_move") rfl), F.bindsN (fun _ _ _ _ _ _ us hl => match us, hl with | [_], _ => rfl), C8.fnScope_by (by decide +kernel), rfl, ck__law_a_move⟩
theorem at__law_a_part (X : K.In h) (G : h.Ns mainGlobals mg) (c : He.SaysD fa fn K) : DefAt K mg T free "_law_a_part" d__law_a_part := by
  obtain ⟨fdt, F⟩ := c.def_ 18 (d := dfn "_law_a_part" 24) rfl
  exact ⟨_, _, _, _, _, _, fdt, ["deck"], F, He.glo_ok X G (c.fact 18 (f := .glo "_law_a_part") rfl), F.bindsN (fun _ _ _ _ _ _ us hl => match us, hl with | [_], _ => rfl), C8.fnScope_by (by decide +kernel), rfl, ck__law_a_part⟩
theorem at__law_there_and_back (X : K.In h) (G : h.Ns mainGlobals mg) (c : He.SaysD fa fn K) : DefAt K mg T free "_law_there_and_back" d__law_there_and_back := by
  obtain ⟨fdt, F⟩ := c.def_ 19 (d := dfn "_law_there_and_back" 25) rfl
  exact ⟨_, _, _, _, _, _, fdt, ["deck"], F, He.glo_ok X G (c.fact 19 (f := .glo "_law_there_and_back") rfl), F.bindsN (fun _ _ _ _ _ _ us hl => match us, hl with | [_], _ => rfl), C8.fnScope_by (by decide +kernel), rfl, ck__law_there_and_back⟩
theorem at__law_by_twos (X : K.In h) (G : h.Ns mainGlobals mg) (c : He.SaysD fa fn K) : DefAt K mg T free "_law_by_twos" d__law_by_twos := by
  obtain ⟨fdt, F⟩ := c.def_ 20 (d := dfn "_law_by_twos" 26) rfl
  exact ⟨_, _, _, _, _, _, fdt, ["deck"], F, He.glo_ok X G (c.fact 20 (f := .glo "_law_by_twos") rfl), F.bindsN (fun _ _ _ _ _ _ us hl => match us, hl with | [_], _ => rfl), C8.fnScope_by (by decide +kernel), rfl, ck__law_by_twos⟩
theorem at__law_a_right (X : K.In h) (G : h.Ns mainGlobals mg) (c : He.SaysD fa fn K) : DefAt K mg T free "_law_a_right" d__law_a_right := by
  obtain ⟨fdt, F⟩ := c.def_ 21 (d := dfn "_law_a_right" 27) rfl
  exact ⟨_, _, _, _, _, _, fdt, ["deck"], F, He.glo_ok X G (c.fact 21 (f := .glo "_law_a_right") rfl), F.bindsN (fun _ _ _ _ _ _ us hl => match us, hl with | [_], _ => rfl), C8.fnScope_by (by decide +kernel), rfl, ck__law_a_right⟩
theorem at__law_a_plan (X : K.In h) (G : h.Ns mainGlobals mg) (c : He.SaysD fa fn K) : DefAt K mg T free "_law_a_plan" d__law_a_plan := by
  obtain ⟨fdt, F⟩ := c.def_ 22 (d := dfn "_law_a_plan" 28) rfl
  exact ⟨_, _, _, _, _, _, fdt, ["deck"], F, He.glo_ok X G (c.fact 22 (f := .glo "_law_a_plan") rfl), F.bindsN (fun _ _ _ _ _ _ us hl => match us, hl with | [_], _ => rfl), C8.fnScope_by (by decide +kernel), rfl, ck__law_a_plan⟩
theorem at__law_number_so (X : K.In h) (G : h.Ns mainGlobals mg) (c : He.SaysD fa fn K) : DefAt K mg T free "_law_number_so" d__law_number_so := by
  obtain ⟨fdt, F⟩ := c.def_ 23 (d := dfn "_law_number_so" 29) rfl
  exact ⟨_, _, _, _, _, _, fdt, ["thing", "low", "high"], F, He.glo_ok X G (c.fact 23 (f := .glo "_law_number_so") rfl), F.bindsN (fun _ _ _ _ _ _ us hl => match us, hl with | [_, _, _], _ => rfl), C8.fnScope_by (by decide +kernel), rfl, ck__law_number_so⟩
theorem at__law_is_a_move (X : K.In h) (G : h.Ns mainGlobals mg) (c : He.SaysD fa fn K) : DefAt K mg T free "_law_is_a_move" d__law_is_a_move := by
  obtain ⟨fdt, F⟩ := c.def_ 24 (d := dfn "_law_is_a_move" 30) rfl
  exact ⟨_, _, _, _, _, _, fdt, ["thing"], F, He.glo_ok X G (c.fact 24 (f := .glo "_law_is_a_move") rfl), F.bindsN (fun _ _ _ _ _ _ us hl => match us, hl with | [_], _ => rfl), C8.fnScope_by (by decide +kernel), rfl, ck__law_is_a_move⟩
theorem at__law_is_a_part (X : K.In h) (G : h.Ns mainGlobals mg) (c : He.SaysD fa fn K) : DefAt K mg T free "_law_is_a_part" d__law_is_a_part := by
  obtain ⟨fdt, F⟩ := c.def_ 25 (d := dfn "_law_is_a_part" 31) rfl
  exact ⟨_, _, _, _, _, _, fdt, ["thing"], F, He.glo_ok X G (c.fact 25 (f := .glo "_law_is_a_part") rfl), F.bindsN (fun _ _ _ _ _ _ us hl => match us, hl with | [_], _ => rfl), C8.fnScope_by (by decide +kernel), rfl, ck__law_is_a_part⟩
theorem at__law_is_a_plan (X : K.In h) (G : h.Ns mainGlobals mg) (c : He.SaysD fa fn K) : DefAt K mg T free "_law_is_a_plan" d__law_is_a_plan := by
  obtain ⟨fdt, F⟩ := c.def_ 26 (d := dfn "_law_is_a_plan" 32) rfl
  exact ⟨_, _, _, _, _, _, fdt, ["thing"], F, He.glo_ok X G (c.fact 26 (f := .glo "_law_is_a_plan") rfl), F.bindsN (fun _ _ _ _ _ _ us hl => match us, hl with | [_], _ => rfl), C8.fnScope_by (by decide +kernel), rfl, ck__law_is_a_plan⟩
theorem at__law_spoilt (X : K.In h) (G : h.Ns mainGlobals mg) (c : He.SaysD fa fn K) : DefAt K mg T free "_law_spoilt" d__law_spoilt := by
  obtain ⟨fdt, F⟩ := c.def_ 27 (d := dfn "_law_spoilt" 33) rfl
  exact ⟨_, _, _, _, _, _, fdt, ["deck", "thing"], F, He.glo_ok X G (c.fact 27 (f := .glo "_law_spoilt") rfl), F.bindsN (fun _ _ _ _ _ _ us hl => match us, hl with | [_, _], _ => rfl), C8.fnScope_by (by decide +kernel), rfl, ck__law_spoilt⟩
theorem at__law_alone (X : K.In h) (G : h.Ns mainGlobals mg) (c : He.SaysD fa fn K) : DefAt K mg T free "_law_alone" d__law_alone := by
  obtain ⟨fdt, F⟩ := c.def_ 28 (d := dfn "_law_alone" 34) rfl
  exact ⟨_, _, _, _, _, _, fdt, ["mode", "moves_so"], F, He.glo_ok X G (c.fact 28 (f := .glo "_law_alone") rfl), F.bindsN (fun _ _ _ _ _ _ us hl => match us, hl with | [_, _], _ => rfl), C8.fnScope_by (by decide +kernel), rfl, ck__law_alone⟩
theorem at__law_written (X : K.In h) (G : h.Ns mainGlobals mg) (c : He.SaysD fa fn K) : DefAt K mg T free "_law_written" d__law_written := by
  obtain ⟨fdt, F⟩ := c.def_ 29 (d := dfn "_law_written" 35) rfl
  exact ⟨_, _, _, _, _, _, fdt, [], F, He.glo_ok X G (c.fact 29 (f := .glo "_law_written") rfl), F.bindsN (fun _ _ _ _ _ _ us hl => match us, hl with | [], _ => rfl), C8.fnScope_by (by decide +kernel), rfl, ck__law_written⟩
theorem at_law (X : K.In h) (G : h.Ns mainGlobals mg) (c : He.SaysD fa fn K) : DefAt K mg T free "law" d_law := by
  obtain ⟨fdt, F⟩ := c.def_ 30 (d := dfn "law" 36) rfl
  exact ⟨_, _, _, _, _, _, fdt, ["script"], F, He.glo_ok X G (c.fact 30 (f := .glo "law") rfl), F.bindsN (fun _ _ _ _ _ _ us hl => match us, hl with | [_], _ => rfl), C8.fnScope_by (by decide +kernel), rfl, ck_law⟩
theorem con_strs {x : Str} {ws : List Str} (X : K.In h) (G : h.Ns mainGlobals mg) (hg : (He.Fa.glo x).ok K = true) (ht : He.tupB K x (ws.map He.Dv.str) = true) (hs : ws.all PyData.strOk = true) : ∃ u v, mg x = some u ∧ RelV v u ∧ ∀ ow H, FR ⟨K, mg⟩ ow H (.tup (ws.map .str)) v := by
  refine ⟨.ref (He.ga K x), .ref (He.ga K x), He.glo_ok X G hg, rfl, fun ow H => .tup (He.tupB_ok ht H) ?_⟩
  have g : ∀ ws : List Str, ws.all PyData.strOk = true → FRs ⟨K, mg⟩ ow H (ws.map D.str) ((ws.map He.Dv.str).map (He.Dv.v K)) := by
    intro ws
    induction ws with
    | nil => exact fun _ => .nil
    | cons w ws ih =>
      intro h
      rw [List.all_cons, Bool.and_eq_true] at h
      exact .cons (.str w h.1) (ih h.2)
  exact g ws hs
theorem cn_SIDES {w : World} (X : K.In h) (G : h.Ns mainGlobals mg) (c : He.SaysX fa fn [] [] exF w h K) : ∃ u v, mg "SIDES" = some u ∧ RelV v u ∧ ∀ ow H, FR ⟨K, mg⟩ ow H (.tup [.str "L", .str "R"]) v := by
  have e : exF K = true := c.more
  unfold exF at e
  simp only [Bool.and_eq_true] at e
  exact con_strs (ws := ["L", "R"]) X G (c.t.d.fact 31 (f := .glo "SIDES") rfl) e.1 (by decide +kernel)
theorem cn_ENDS {w : World} (X : K.In h) (G : h.Ns mainGlobals mg) (c : He.SaysX fa fn [] [] exF w h K) : ∃ u v, mg "ENDS" = some u ∧ RelV v u ∧ ∀ ow H, FR ⟨K, mg⟩ ow H (.tup [.str "b", .str "t"]) v := by
  have e : exF K = true := c.more
  unfold exF at e
  simp only [Bool.and_eq_true] at e
  exact con_strs (ws := ["b", "t"]) X G (c.t.d.fact 32 (f := .glo "ENDS") rfl) e.2.1 (by decide +kernel)
theorem cn_KINDS {w : World} (X : K.In h) (G : h.Ns mainGlobals mg) (c : He.SaysX fa fn [] [] exF w h K) : ∃ u v, mg "KINDS" = some u ∧ RelV v u ∧ ∀ ow H, FR ⟨K, mg⟩ ow H (.tup [.str "across", .str "slant", .str "straight"]) v := by
  have e : exF K = true := c.more
  unfold exF at e
  simp only [Bool.and_eq_true] at e
  exact con_strs (ws := ["across", "slant", "straight"]) X G (c.t.d.fact 33 (f := .glo "KINDS") rfl) e.2.2.1 (by decide +kernel)
theorem cn_MODES {w : World} (X : K.In h) (G : h.Ns mainGlobals mg) (c : He.SaysX fa fn [] [] exF w h K) : ∃ u v, mg "MODES" = some u ∧ RelV v u ∧ ∀ ow H, FR ⟨K, mg⟩ ow H (.tup [.str "once", .str "again"]) v := by
  have e : exF K = true := c.more
  unfold exF at e
  simp only [Bool.and_eq_true] at e
  exact con_strs (ws := ["once", "again"]) X G (c.t.d.fact 34 (f := .glo "MODES") rfl) e.2.2.2.1 (by decide +kernel)
theorem lookup_mem {α : Type} {x : Str} {d : α} : ∀ {l : List (Str × α)}, l.lookup x = some d → (x, d) ∈ l
  | [], h => by cases h
  | (y, e) :: l, h => by
    unfold List.lookup at h
    split at h
    · rename_i q
      cases h
      cases beq_iff_eq.mp q
      exact List.mem_cons_self
    · exact List.mem_cons_of_mem _ (lookup_mem h)
theorem defs_ok {x : Str} {fd : FDef} (X : K.In h) (G : h.Ns mainGlobals mg) (c : He.SaysD fa fn K) (e : T x = some (.fn fd)) : DefAt K mg T free x fd := by
  have q := lookup_mem (show tbl.lookup x = some (.fn fd) from e)
  simp only [tbl, gF, gC, List.mem_cons, Prod.mk.injEq, Gd.fn.injEq, reduceCtorEq, and_false, or_false, List.not_mem_nil] at q
  rcases q with ⟨rfl, rfl⟩ | ⟨rfl, rfl⟩ | ⟨rfl, rfl⟩ | ⟨rfl, rfl⟩ | ⟨rfl, rfl⟩ | ⟨rfl, rfl⟩ | ⟨rfl, rfl⟩ | ⟨rfl, rfl⟩ | ⟨rfl, rfl⟩ | ⟨rfl, rfl⟩ | ⟨rfl, rfl⟩ | ⟨rfl, rfl⟩ | ⟨rfl, rfl⟩ | ⟨rfl, rfl⟩ | ⟨rfl, rfl⟩ | ⟨rfl, rfl⟩ | ⟨rfl, rfl⟩ | ⟨rfl, rfl⟩ | ⟨rfl, rfl⟩ | ⟨rfl, rfl⟩ | ⟨rfl, rfl⟩ | ⟨rfl, rfl⟩ | ⟨rfl, rfl⟩ | ⟨rfl, rfl⟩ | ⟨rfl, rfl⟩ | ⟨rfl, rfl⟩ | ⟨rfl, rfl⟩ | ⟨rfl, rfl⟩ | ⟨rfl, rfl⟩ | ⟨rfl, rfl⟩ | ⟨rfl, rfl⟩
  · exact at_is_within X G c
  · exact at_has_items X G c
  · exact at_is_one_of X G c
  · exact at_is_move X G c
  · exact at_is_part X G c
  · exact at_net_of X G c
  · exact at_is_start X G c
  · exact at_is_plan_value X G c
  · exact at_is_plan X G c
  · exact at__law_deck X G c
  · exact at__law_pick X G c
  · exact at__law_whole X G c
  · exact at__law_one X G c
  · exact at__law_sort X G c
  · exact at__law_same X G c
  · exact at__law_known X G c
  · exact at__law_net X G c
  · exact at__law_a_move X G c
  · exact at__law_a_part X G c
  · exact at__law_there_and_back X G c
  · exact at__law_by_twos X G c
  · exact at__law_a_right X G c
  · exact at__law_a_plan X G c
  · exact at__law_number_so X G c
  · exact at__law_is_a_move X G c
  · exact at__law_is_a_part X G c
  · exact at__law_is_a_plan X G c
  · exact at__law_spoilt X G c
  · exact at__law_alone X G c
  · exact at__law_written X G c
  · exact at_law X G c
theorem cons_ok {w : World} {x : Str} {d : D} (X : K.In h) (G : h.Ns mainGlobals mg) (c : He.SaysX fa fn [] [] exF w h K) (e : T x = some (.con d)) : ∃ u v, mg x = some u ∧ RelV v u ∧ ∀ ow H, FR ⟨K, mg⟩ ow H d v := by
  have q := lookup_mem (show tbl.lookup x = some (.con d) from e)
  simp only [tbl, gF, gC, List.mem_cons, Prod.mk.injEq, Gd.con.injEq, reduceCtorEq, and_false, or_false, false_or, List.not_mem_nil] at q
  rcases q with ⟨rfl, rfl⟩ | ⟨rfl, rfl⟩ | ⟨rfl, rfl⟩ | ⟨rfl, rfl⟩
  · exact cn_SIDES X G c
  · exact cn_ENDS X G c
  · exact cn_KINDS X G c
  · exact cn_MODES X G c
theorem free_all (X : K.In h) (G : h.Ns mainGlobals mg) (c : He.SaysD fa fn K) : ∀ x ∈ free, mg x = none := by
  intro x hx
  simp only [free, List.mem_cons, List.not_mem_nil, or_false] at hx
  rcases hx with rfl | rfl | rfl | rfl | rfl | rfl | rfl | rfl | rfl | rfl | rfl | rfl
  · exact He.free_ok X G (c.fact 35 (f := .free "abs") rfl)
  · exact He.free_ok X G (c.fact 36 (f := .free "all") rfl)
  · exact He.free_ok X G (c.fact 37 (f := .free "bool") rfl)
  · exact He.free_ok X G (c.fact 38 (f := .free "enumerate") rfl)
  · exact He.free_ok X G (c.fact 39 (f := .free "int") rfl)
  · exact He.free_ok X G (c.fact 40 (f := .free "isinstance") rfl)
  · exact He.free_ok X G (c.fact 41 (f := .free "len") rfl)
  · exact He.free_ok X G (c.fact 42 (f := .free "list") rfl)
  · exact He.free_ok X G (c.fact 43 (f := .free "range") rfl)
  · exact He.free_ok X G (c.fact 44 (f := .free "str") rfl)
  · exact He.free_ok X G (c.fact 45 (f := .free "sum") rfl)
  · exact He.free_ok X G (c.fact 46 (f := .free "tuple") rfl)
end
theorem law_bind {K : PySem.W.Frag} (c : He.SaysD fa fn K) : ∃ fdt, FunD K "law" "law" (defArgs (top 36)) (defBody (top 36)) (defScope (top 36)) [] [] (He.ga K "law") fdt ∧ ∀ (s : Shared) (v : Value), BindsTo s fdt ⟨[v], []⟩ [("script", v)] := by
  obtain ⟨fdt, F⟩ := c.def_ 30 (d := dfn "law" 36) rfl
  have b := FunD.bindsA (ps := ["script"]) F fun _ _ _ _ _ _ us hl => match us, hl with | [_], _ => rfl
  exact ⟨fdt, F, fun s v => b s [v] rfl⟩
theorem to0 {P : Program} {w : World} {K : PySem.W.Frag} {mg : Str → Option Value} {base : Heap} {k : Nat} {f : Addr} {fd : FuncData} {ps : List Str} {sp : Sp} (F : FnOk P w K mg base (L2.CX P w) k f fd ps sp) :
    FnOk P w K mg base CX0 k f fd ps (fun vs H Q _ => sp vs H Q fun _ _ _ => False) := ⟨fun vs H Q E q => F.len _ _ _ _ q, fun A outer s H args us vs Q E hr e b r q => codeAny_mono (F.run A outer s H args us vs Q (fun _ _ _ => False) hr e b r q) (fun r s' h => by
  cases r with
  | error e =>
    obtain ⟨_, _, _, _, _, _, _, _, _, _, _, _, z⟩ := h
    exact z.elim
  | ok fl => cases fl <;> exact h)⟩
theorem fd_eq {K : PySem.W.Frag} {x q1 q2 : Str} {p1 p2 : Arguments} {b1 b2 : List Stmt} {s1 s2 : Scope} {d1 d2 : List V} {k1 k2 : List (Str × V)} {f : Addr} {fd1 fd2 : FuncData} (F : FunD K x q1 p1 b1 s1 d1 k1 f fd1) (G : FunD K x q2 p2 b2 s2 d2 k2 f fd2) : fd1 = fd2 := by
  obtain ⟨_, _, _, _, _, _, _, _, _, _, _, l1, _⟩ := F.ex
  obtain ⟨_, _, _, _, _, _, _, _, _, _, _, l2, _⟩ := G.ex
  rw [l1] at l2
  cases l2
  rfl
end K01
open PySem PySem.W PySem.Calls PyProof.Rows
theorem PySem.Challenge.cw_anylaces_k01_plans_recognized_holds : PySem.Challenge.rw_anylaces_k01_plans_recognized.Holds := by
  w_on; o_law
  refine HandSHeadRun.head_any (r := OpenLaw.row PySem.Challenge.rw_anylaces_k01_plans_recognized) (q := view (OpenLaw.row PySem.Challenge.rw_anylaces_k01_plans_recognized).prog [36]) (H := K01.hk) (ob := K01.ob) (M := 2000) (loose := K01.loose) (d := HandSHeadRun.topDef (OpenLaw.row PySem.Challenge.rw_anylaces_k01_plans_recognized).prog 36) (kwd := []) K01.ob_eq
    (by kernel_rfl) (fun s => by kernel_rfl) K01.run (by kernel_rfl) (by kernel_rfl) (by kernel_rfl) (by rfl) (by first | assumption | decide +kernel) (by decide +kernel) ⟨rfl, rfl, rfl, rfl, rfl, by decide +kernel⟩ ?hw ?hc
  case hw => w_witness2
  case hc =>
    refine L2.walk_ofE (l := PySem.Challenge.rw_anylaces_k01_plans_recognized) (n := 63) (k := 21) (x := "script") (CX := L2.CX0) rfl (by decide) (by kernel_rfl) ⟨rfl, by decide, by decide⟩ ?F (fun _ _ _ _ z => z)
    intro w mg fa h Y G hmg0
    obtain ⟨K, KX, c⟩ := Y
    have hmg : mg ("law" : PySem.Str) = some (.ref fa) := by
      have e : (HandSHeadRun.topDef (OpenLaw.row PySem.Challenge.rw_anylaces_k01_plans_recognized).prog 36).name = ("law" : PySem.Str) := by kernel_rfl
      rw [← e]
      exact hmg0
    obtain ⟨fdt, F, hb⟩ := K01.law_bind c.t.d
    have hfa : fa = He.ga K "law" := by
      have e := hmg.symm.trans (He.glo_ok KX G (c.t.d.fact 30 (f := .glo "law") rfl))
      cases e
      rfl
    subst hfa
    refine ⟨K, fdt, fun vs H Q _ => Rf.spF ⟨K, mg⟩ K01.T 100 21 "law" K01.d_law vs H Q fun _ _ _ => False, KX, hb, fun H a ns hl ho hS => ?S, fun base hK hG => ?R⟩
    case R => exact K01.to0 (Rf.fn_one (free := K01.free) (Rf.fn_all 100 (fun x fd e => K01.defs_ok KX G c.t.d e) (fun x d e => K01.cons_ok KX G c e) (K01.free_all KX G c.t.d) _) (fun x d e => K01.cons_ok KX G c e) (K01.free_all KX G c.t.d) rfl F (C8.fnScope_by (by decide +kernel)) rfl K01.ck_law)
    case S =>
      have hfr : Rf.FR ⟨K, mg⟩ (fun _ => False) H (.scr ns) (.ref a) := by
        refine .scr ?_
        rcases hS with (hS | hS) | hS
        · rcases ho a with z | ⟨o, xs, z⟩
          · rw [z] at hS
            cases hS
          · rw [z] at hS
            cases hS
        · exact .inl hS
        · exact .inr fun H' => .inr hS
      obtain ⟨d, k, e, hd⟩ := K01.law_ok ns hl
      refine ⟨fun _ => False, none, [], [.scr ns], [.ref a], rfl, rfl, .cons hfr .nil, fun _ z => z.elim, fun _ z => (nomatch z), fun _ z => (nomatch z), rfl, ?_⟩
      rw [e]
      intro H' v _ r
      subst hd
      exact Rf.pr_bl r
