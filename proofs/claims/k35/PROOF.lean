import PyProof.Rows.All
import PyProof.EqLayable
import PyProof.ReprReads
import HandS.ForMost
import HandS.ForExc
import HandS.Wide
import HandS.Defaults
import HandS.Style
import HandS.IsInst
import HandS.Conv
import HandS.WideBits
import HandS.RaiseMore
import PyProof.ReprRoads
import HandS.Flow
import PySem.Challenge.RW_anyplaces_k35_steps_on_one_side
set_option autoImplicit false
set_option linter.all false
set_option Elab.async false
set_option maxRecDepth 100000
/-! ZA: data as trees, a small language, its evaluator. No machine in sight. -/
namespace Z
open PySem (Str Operator CmpOp)
abbrev Ky := Sum Int Str

inductive D where
  | non
  | bl (b : Bool)
  | int (i : Int)
  | str (s : Str)
  | lst (l : List D)
  | tup (l : List D)
  | dct (ks : List Ky) (vs : List D)
  | fn (f : Nat)
  | exn (c : Nat) (v : D)
  | scr (l : List Int)
instance : Inhabited D := ⟨.non⟩

inductive Sl where
  | no
  | sh (d : D)
  | ow (d : D)
  | io (d : D)
abbrev En := List Sl
inductive Val where
  | sh (d : D)
  | ow (d : D)
def Val.d : Val → D
  | .sh d => d
  | .ow d => d
def Val.sl : Val → Sl
  | .sh d => .sh d
  | .ow d => .ow d
def Sl.d? : Sl → Option D
  | .no => none
  | .sh d => some d
  | .ow d => some d
  | .io d => some d
@[simp] theorem Val.d_sh (d : D) : (Val.sh d).d = d := rfl
@[simp] theorem Val.d_ow (d : D) : (Val.ow d).d = d := rfl
@[simp] theorem Val.sl_sh (d : D) : (Val.sh d).sl = .sh d := rfl
@[simp] theorem Val.sl_ow (d : D) : (Val.ow d).sl = .ow d := rfl

/-- an outcome: a value and the slots; an error of a class, with its value; nothing known -/
inductive R (A : Type) where
  | ok (a : A) (r : En)
  | exc (c : Nat) (v : D) (r : En)
  | bad
def R.bind {A B : Type} (x : R A) (f : A → En → R B) : R B :=
  match x with
  | .ok a r => f a r
  | .exc c v r => .exc c v r
  | .bad => .bad
@[simp] theorem R.bind_ok {A B : Type} (a : A) (r : En) (f : A → En → R B) : (R.ok a r).bind f = f a r := rfl
@[simp] theorem R.bind_exc {A B : Type} (c : Nat) (v : D) (r : En) (f : A → En → R B) : (R.exc c v r).bind f = .exc c v r := rfl
@[simp] theorem R.bind_bad {A B : Type} (f : A → En → R B) : (R.bad : R A).bind f = .bad := rfl
def R.of {A : Type} (x : Option A) (r : En) : R A :=
  match x with
  | some a => .ok a r
  | none => .bad
@[simp] theorem R.of_some {A : Type} (a : A) (r : En) : R.of (some a) r = .ok a r := rfl
@[simp] theorem R.of_none {A : Type} (r : En) : R.of (none : Option A) r = .bad := rfl

/-! ### equality, truth, kinds -/
mutual
def eqv : D → D → Bool
  | .non, .non => true
  | .bl a, .bl b => a == b
  | .bl a, .int j => (if a then 1 else 0) == j
  | .int i, .bl b => i == (if b then 1 else 0)
  | .int i, .int j => i == j
  | .str x, .str y => x == y
  | .lst xs, .lst ys => eqvs xs ys
  | .tup xs, .tup ys => eqvs xs ys
  | _, _ => false
def eqvs : List D → List D → Bool
  | [], [] => true
  | x :: xs, y :: ys => eqv x y && eqvs xs ys
  | _, _ => false
end
mutual
def lay : D → Bool
  | .non => true
  | .bl _ => true
  | .int _ => true
  | .str x => PySem.PyData.strOk x
  | .lst xs => lays xs
  | .tup xs => lays xs
  | _ => false
def lays : List D → Bool
  | [] => true
  | x :: xs => lay x && lays xs
end
mutual
def dep : D → Nat
  | .lst xs => deps xs + 1
  | .tup xs => deps xs + 1
  | _ => 0
def deps : List D → Nat
  | [] => 0
  | x :: xs => max (dep x) (deps xs)
end
/-- what == may be asked of -/
def okq (d : D) : Bool := lay d && decide (dep d ≤ 64)
def flat : D → Bool
  | .non => true
  | .bl _ => true
  | .int _ => true
  | .str _ => true
  | _ => false
def LINE : Nat := 16777216
def tru : D → Option Bool
  | .non => some false
  | .bl b => some b
  | .int i => some (i != 0)
  | .str s => if s.length ≤ LINE then some (s.length != 0) else none
  | .lst l => some (!l.isEmpty)
  | .tup l => some (!l.isEmpty)
  | .dct ks _ => some (!ks.isEmpty)
  | _ => none

/-! ### operators -/
def bits (i : Int) : Nat := i.natAbs.log2 + 1
def binI (op : Operator) (i j : Int) : Option Int :=
  match op with
  | .Add => some (i + j)
  | .Sub => some (i - j)
  | .Mult => if bits i + bits j ≤ 1000000 then some (i * j) else none
  | .FloorDiv => if 0 < j ∧ bits j ≤ 9000 then some (i / j) else none
  | .Mod => if 0 < j then some (i % j) else none
  | .Pow => if 0 ≤ j ∧ bits i * j.toNat ≤ 1000000 then some (i ^ j.toNat) else none
  | .LShift => if 0 ≤ j ∧ bits i + j.toNat ≤ 1000000 then some (i * 2 ^ j.toNat) else none
  | .RShift => if 0 ≤ j then some (i / 2 ^ j.toNat) else none
  | .BitAnd => some (PySem.Builtin.bitAnd i j)
  | .BitOr => some (PySem.Builtin.bitOr i j)
  | .BitXor => some (PySem.Builtin.bitXor i j)
  | _ => none
def binD (op : Operator) (a b : D) : Option Val :=
  match a, b with
  | .int i, .int j => (binI op i j).map fun k => .sh (.int k)
  | .str x, .str y => match op with
    | .Add => if x.length + y.length ≤ LINE then some (.sh (.str (x ++ y))) else none
    | _ => none
  | .lst x, .lst y => match op with
    | .Add => if x.length + y.length ≤ LINE then some (.ow (.lst (x ++ y))) else none
    | _ => none
  | .lst x, .int n => match op with
    | .Mult => if n.natAbs ≤ LINE ∧ x.length * n.toNat ≤ LINE then some (.ow (.lst (List.replicate n.toNat x).flatten)) else none
    | _ => none
  | _, _ => none
def ordI (op : CmpOp) (i j : Int) : Option Bool :=
  match op with
  | .Lt => some (decide (i < j))
  | .LtE => some (decide (i ≤ j))
  | .Gt => some (decide (j < i))
  | .GtE => some (decide (j ≤ i))
  | _ => none
def isD (a b : D) : Option Bool :=
  match b with
  | .non => some (match a with | .non => true | _ => false)
  | .bl k => match a with
    | .bl c => some (c == k)
    | _ => none
  | _ => none
def inD (a b : D) : Option Bool :=
  match b with
  | .lst xs => if flat a && xs.all flat then some (xs.any fun x => eqv x a) else none
  | .tup xs => if flat a && xs.all flat then some (xs.any fun x => eqv x a) else none
  | _ => none
def cmpD (op : CmpOp) (a b : D) : Option Bool :=
  match op with
  | .Eq => if okq a && okq b then some (eqv a b) else none
  | .NotEq => if okq a && okq b then some (!eqv a b) else none
  | .Is => isD a b
  | .IsNot => (isD a b).map (!·)
  | .In => inD a b
  | .NotIn => (inD a b).map (!·)
  | op => match a, b with
    | .int i, .int j => ordI op i j
    | _, _ => none

/-! ### places in lists -/
def ixN (n : Nat) (i : Int) : Option Nat := if 0 ≤ i then (if i < n then some i.toNat else none) else if -(n : Int) ≤ i then some (i + n).toNat else none
def atL (l : List D) (i : Int) : Option D := (ixN l.length i).bind fun j => l[j]?
def idxD (a i : D) : Option D :=
  match i with
  | .int k => match a with
    | .lst l => atL l k
    | .tup l => atL l k
    | .scr l => ((ixN l.length k).bind fun j => l[j]?).map D.int
    | _ => none
  | _ => none
/-- a bound of a slice: n where it is left out is d -/
def sIx (n d : Nat) : Option Int → Nat
  | none => d
  | some v => if v < 0 then (v + (n : Int)).toNat else min v.toNat n
def cut {A : Type} (l : List A) (lo hi : Option Int) : List A := (l.drop (sIx l.length 0 lo)).take (sIx l.length l.length hi - sIx l.length 0 lo)
def part? : D → Option (Option Int)
  | .non => some none
  | .int i => some (some i)
  | _ => none
def slcD (a lo hi : D) : Option Val :=
  match part? lo, part? hi with
  | some l, some h => match a with
    | .lst xs => some (.ow (.lst (cut xs l h)))
    | .scr xs => some (.ow (.lst ((cut xs l h).map .int)))
    | _ => none
  | _, _ => none
def revD (a : D) : Option Val :=
  match a with
  | .lst xs => some (.ow (.lst xs.reverse))
  | _ => none

/-! ### built-in functions -/
def intsD : List D → Option (List Int)
  | [] => some []
  | .int i :: r => (intsD r).map (i :: ·)
  | _ => none
def minI : List Int → Option Int
  | [] => none
  | x :: r => some (r.foldl min x)
def maxI : List Int → Option Int
  | [] => none
  | x :: r => some (r.foldl max x)
def sortI (l : List Int) : List Int := l.mergeSort (fun a b => decide (a ≤ b))
def rangeN (lo hi st : Int) : Nat := if st = 1 then (hi - lo).toNat else if st = -1 then (lo - hi).toNat else if 0 < st then ((hi - lo + st - 1) / st).toNat else ((lo - hi + (-st) - 1) / (-st)).toNat
def rangeI (lo hi st : Int) : List Int := (List.range (rangeN lo hi st)).map fun (k : Nat) => lo + k * st
inductive BI where
  | len | sum | sorted | min | max | abs | int | list | tuple | repr | bool | lrange | set | dict | str
def lenD : D → Option Nat
  | .lst l => some l.length
  | .tup l => some l.length
  | .dct ks _ => some ks.length
  | .scr l => some l.length
  | .str s => if s.length ≤ LINE then some s.length else none
  | _ => none
def seqD : D → Option (List D)
  | .lst l => some l
  | .tup l => some l
  | _ => none
mutual
def pyT : D → PySem.PyData
  | .non => .none
  | .bl b => .bool b
  | .int i => .int i
  | .str s => .str s
  | .lst l => .list (pyTs l)
  | .tup l => .tuple (pyTs l)
  | _ => .none
def pyTs : List D → List PySem.PyData
  | [] => []
  | d :: ds => pyT d :: pyTs ds
end
def reprD (d : D) : Option Str := if okq d && (pyT d).showable && decide ((pyT d).shown.length ≤ LINE) then some (pyT d).shown else none
def lenF : List D → Option Val
  | [d] => (lenD d).map fun n => .sh (.int n)
  | _ => none
def sumF : List D → Option Val
  | [.lst l] => (intsD l).map fun ns => .sh (.int ns.sum)
  | _ => none
def sortF : List D → Option Val
  | [.lst l] => (intsD l).bind fun ns => if ns.length < 64 then some (.ow (.lst ((sortI ns).map .int))) else none
  | _ => none
def minF : List D → Option Val
  | [.lst l] => (intsD l).bind fun ns => (minI ns).map fun m => .sh (.int m)
  | [.int i, .int j] => some (.sh (.int (if j < i then j else i)))
  | _ => none
def maxF : List D → Option Val
  | [.lst l] => (intsD l).bind fun ns => (maxI ns).map fun m => .sh (.int m)
  | [.int i, .int j] => some (.sh (.int (if j > i then j else i)))
  | _ => none
def absF : List D → Option Val
  | [.int i] => some (.sh (.int (if i < 0 then -i else i)))
  | _ => none
def intF : List D → Option Val
  | [.int i] => some (.sh (.int i))
  | [.bl b] => some (.sh (.int (if b then 1 else 0)))
  | _ => none
def listF : List D → Option Val
  | [d] => (seqD d).map fun l => .ow (.lst l)
  | _ => none
def tupleF : List D → Option Val
  | [.lst l] => some (.sh (.tup l))
  | _ => none
def reprF : List D → Option Val
  | [d] => (reprD d).map fun s => .sh (.str s)
  | _ => none
/-- without a subtraction from a power of two: so no test runs away -/
def sm62 (i : Int) : Bool := Nat.ble i.natAbs 4000000000000000000
theorem sm62_iff {i : Int} : sm62 i = true ↔ -(2 ^ 62) ≤ i ∧ i < 2 ^ 62 ∧ i.natAbs ≤ 4000000000000000000 := by
  unfold sm62
  rw [Nat.ble_eq]
  omega
def rgOk (a b : Int) : Bool := sm62 a && sm62 b && decide ((b - a).toNat ≤ 1048576)
def lrangeF : List D → Option Val
  | [.int n] => if rgOk 0 n then some (.ow (.lst ((rangeI 0 n 1).map .int))) else none
  | [.int a, .int b] => if rgOk a b then some (.ow (.lst ((rangeI a b 1).map .int))) else none
  | _ => none
def biD (b : BI) (ds : List D) : Option Val :=
  match b with
  | .len => lenF ds
  | .sum => sumF ds
  | .sorted => sortF ds
  | .min => minF ds
  | .max => maxF ds
  | .abs => absF ds
  | .int => intF ds
  | .list => listF ds
  | .tuple => tupleF ds
  | .repr => reprF ds
  | .lrange => lrangeF ds
  | _ => none
inductive Ty where
  | int | bool | str | list | tuple | dict | cls (c : Nat)
def isiD (d : D) (t : Ty) : Option Bool :=
  match t, d with
  | .cls _, _ => none
  | _, .fn _ => none
  | _, .exn _ _ => none
  | _, .scr _ => none
  | .int, .int _ => some true
  | .int, .bl _ => some true
  | .bool, .bl _ => some true
  | .str, .str _ => some true
  | .list, .lst _ => some true
  | .tuple, .tup _ => some true
  | .dict, .dct _ _ => some true
  | _, _ => some false
inductive MT where
  | index | bitlen | count
def indexD (x : D) (l : List D) : Option Nat := (List.range l.length).find? fun k => match l[k]? with | some y => eqv y x | none => false
def mtD (m : MT) (o : D) (ds : List D) : Option D :=
  match m, o, ds with
  | .index, .lst l, [x] => if flat x && l.all flat then (indexD x l).map fun k => .int k else none
  | .bitlen, .int i, [] => some (.int (PySem.Builtin.Int.intBits i))
  | _, _, _ => none
inductive MU where
  | append | pop | popAt | reverse
/-- a method that changes: the new thing, what it hands back -/
def muD (m : MU) (o : D) (ds : List D) : Option (D × D) :=
  match m, o, ds with
  | .append, .lst l, [x] => if l.length < LINE then some (.lst (l ++ [x]), .non) else none
  | .pop, .lst l, [] => (l[l.length - 1]?).map fun y => (.lst l.dropLast, y)
  | .popAt, .lst l, [.int i] => if l.length ≤ LINE then (ixN l.length i).bind fun k => (l[k]?).map fun y => (.lst (l.eraseIdx k), y) else none
  | .reverse, .lst l, [] => some (.lst l.reverse, .non)
  | _, _, _ => none
def setD (o i v : D) : Option D :=
  match o, i with
  | .lst l, .int k => (ixN l.length k).map fun j => .lst (l.set j v)
  | _, _ => none

/-! ### the language -/
inductive Tg where
  | v (i : Nat)
  | t (ts : List Tg)
mutual
inductive E where
  | var (i : Nat)
  | con (d : D)
  | neg (a : E)
  | not (a : E)
  | bin (op : Operator) (a b : E)
  | cmp (op : CmpOp) (a b : E)
  | chn (op op' : CmpOp) (a b c : E)
  | and (a b : E)
  | or (a b : E)
  | ite (c : T) (a b : E)
  | lst (es : List E)
  | tup (es : List E)
  | idx (a i : E)
  | slc (a lo hi : E)
  | rev (a : E)
  | lc (elt : E) (t : Tg) (it : I) (ifs : List T) (own : List Nat)
  | lc2 (elt : E) (t : Tg) (it : I) (ifs : List T) (t1 : Tg) (it1 : I) (ifs1 : List T) (own own1 : List Nat)
  | call (f : Nat) (es : List E) (perm : List Nat) (dfl : List D)
  | callN (f : Nat) (e : E) (es : List E)
  | bi (b : BI) (es : List E)
  | mth (m : MT) (o : E) (es : List E)
  | bits (o : E)
  | mut (m : MU) (i : Nat) (es : List E)
  | isi (e : E) (t : Ty)
/-- a test -/
inductive T where
  | val (e : E)
  | not (t : T)
  | and (a b : T)
  | or (a b : T)
  | ite (c a b : T)
/-- what is walked -/
inductive I where
  | e (e : E)
  | rng1 (a : E)
  | rng2 (a b : E)
  | rng3 (a b c : E)
  | enm (a : E)
  | zip (strict : Bool) (es : List E)
  | rvd (a : E)
end
inductive S where
  | asg (t : Tg) (e : E)
  | par (ts : List Nat) (es : List E)
  | aug (i : Nat) (op : Operator) (e : E)
  | seti (i : Nat) (x e : E)
  | ex (e : E)
  | ret (e : E)
  | retN
  | ite (c : T) (a b : List S)
  | for_ (t : Tg) (it : I) (b : List S)
  | whl (c : T) (b : List S)
  | brk
  | cnt
  | pass
  | rse (c : Nat) (es : List E)
  | nev
  | try_ (b : List S) (c : Nat) (i : Option Nat) (h : List S)
/-- a def: which parameters are changed, how many names, the body -/
structure Df where
  modes : List Bool
  names : Nat
  body : List S

/-- what a call yields: its value, the changed parameters' things -/
inductive CR where
  | ok (v : Val) (outs : List D)
  | exc (c : Nat) (v : D) (outs : List D)
  | bad
structure Cf where
  call : Nat → List D → CR
  modes : Nat → Option (List Bool)
  fuel : Nat

/-! ### slots -/
def En.rd (r : En) (i : Nat) : Option D := (r[i]?).bind Sl.d?
def En.put (r : En) (i : Nat) (v : Val) : Option En :=
  match r[i]? with
  | some (.io _) => none
  | some _ => some (r.set i v.sl)
  | none => none
/-- the thing that a slot owns, changed -/
def En.chg (r : En) (i : Nat) (d : D) : Option En :=
  match r[i]? with
  | some (.ow _) => some (r.set i (.ow d))
  | some (.io _) => some (r.set i (.io d))
  | _ => none
def En.own? (r : En) (i : Nat) : Option D :=
  match r[i]? with
  | some (.ow d) => some d
  | some (.io d) => some d
  | _ => none
def lstAt (r : En) (i : Nat) : Bool :=
  match r.own? i with
  | some (.lst _) => true
  | _ => false
def frz1 (r : En) (i : Nat) : Option En :=
  match r[i]? with
  | some (.ow d) => some (r.set i (.sh d))
  | some (.io _) => none
  | _ => some r
def frzs (r : En) : List Nat → Option En
  | [] => some r
  | i :: is => (frz1 r i).bind fun r1 => frzs r1 is
def wip (r : En) : List Nat → En
  | [] => r
  | i :: is => (wip r is).set i .no
/-- behind a comprehension: its own names as they were -/
def back (r0 r : En) : List Nat → En
  | [] => r
  | i :: is => (back r0 r is).set i (r0.getD i .no)
/-- a thing whose items are no things -/
def shal : D → Bool
  | .lst l => l.all flat
  | .dct _ vs => vs.all flat
  | _ => false
/-- a slot as it was, if what it owns is shallow -/
def thw1 (x y : Sl) : Option Sl :=
  match x, y with
  | .no, _ => some .no
  | .sh d, _ => some (.sh d)
  | .ow _, .ow d => if shal d then some (.ow d) else none
  | .ow _, .sh d => if shal d then some (.ow d) else none
  | .io _, .io d => if shal d then some (.io d) else none
  | _, _ => none
def thw : En → En → Option En
  | [], [] => some []
  | x :: xs, y :: ys => (thw1 x y).bind fun z => (thw xs ys).map (z :: ·)
  | _, _ => none
/-- behind a comprehension of flat items: names that were only walked stay one's own -/
def thawL (r : En) (ds : List D) (rb : En) : R Val :=
  if ds.all flat = true then
    (match thw r rb with | some r2 => .ok (.ow (.lst ds)) r2 | none => .ok (.ow (.lst ds)) rb)
  else .ok (.ow (.lst ds)) rb
def ownFree (r : En) (l : List Nat) : Bool := l.all fun i => match r[i]? with | some (.io _) => false | some _ => true | none => false
mutual
/-- the slots of a target -/
def tgS : Tg → List Nat
  | .v i => [i]
  | .t ts => tgSs ts
def tgSs : List Tg → List Nat
  | [] => []
  | t :: ts => tgS t ++ tgSs ts
end
mutual
def bindT : Tg → D → En → Option En
  | .v i, d, r => r.put i (.sh d)
  | .t ts, d, r => match d with
    | .tup ds => bindTs ts ds r
    | _ => none
def bindTs : List Tg → List D → En → Option En
  | [], [], r => some r
  | t :: ts, d :: ds, r => (bindT t d r).bind fun r1 => bindTs ts ds r1
  | _, _, _ => none
end
def isVar : E → Option Nat
  | .var i => some i
  | _ => none
/-- borrowed names are read at the end -/
def res (r : En) : List (Nat ⊕ D) → Option (List D)
  | [] => some []
  | .inl i :: xs => (r.rd i).bind fun d => (res r xs).map (d :: ·)
  | .inr d :: xs => (res r xs).map (d :: ·)
def lefts : List (Nat ⊕ D) → List Nat
  | [] => []
  | .inl i :: xs => i :: lefts xs
  | .inr _ :: xs => lefts xs
def scal : D → Bool := flat
/-- arguments for a def: the changed ones must be owned names or new things -/
def argsOk (r : En) : List Bool → List (Nat ⊕ D) → Bool
  | [], [] => true
  | true :: ms, .inl i :: xs => (r.own? i).isSome && argsOk r ms xs
  | true :: _, .inr _ :: _ => false
  | false :: ms, _ :: xs => argsOk r ms xs
  | _, _ => false
def inouts : List Bool → List (Nat ⊕ D) → List Nat
  | true :: ms, .inl i :: xs => i :: inouts ms xs
  | _ :: ms, _ :: xs => inouts ms xs
  | _, _ => []
def plains : List Bool → List (Nat ⊕ D) → List Nat
  | false :: ms, .inl i :: xs => i :: plains ms xs
  | _ :: ms, _ :: xs => plains ms xs
  | _, _ => []
def chgs (r : En) : List Nat → List D → Option En
  | [], [] => some r
  | i :: is, d :: ds => (r.chg i d).bind fun r1 => chgs r1 is ds
  | _, _ => none
def apart (l m : List Nat) : Bool := decide l.Nodup && l.all fun i => !m.contains i
def permL {A : Type} (l : List A) : List Nat → Option (List A)
  | [] => some []
  | i :: is => (l[i]?).bind fun a => (permL l is).map (a :: ·)
/-- arguments in the order of the parameters; none given: as written -/
def permO (l : List (Nat ⊕ D)) (p : List Nat) : Option (List (Nat ⊕ D)) := if p.isEmpty = true then some l else permL l p
/-- behind a call: names that were only looked at stay one's own if the answer is no thing -/
def after (r : En) (ms : List Bool) (xs : List (Nat ⊕ D)) (c : CR) : R Val :=
  match frzs r (plains ms xs) with
  | none => .bad
  | some rf => match c with
    | .ok v outs => if scal v.d && outs.all shal then
        (match chgs r (inouts ms xs) outs with | some r1 => .ok v r1 | none => .bad)
      else (match chgs rf (inouts ms xs) outs with | some r1 => .ok v r1 | none => .bad)
    | _ => .bad
/-- a call whose first argument is a new thing, changed by the def and then let go -/
def callNR (ms : List Bool) (c : List D → CR) (d : D) (ys : List (Nat ⊕ D)) (r2 : En) : R Val :=
  match ms with
  | true :: ms => if ms.all (fun b => !b) && decide (ms.length = ys.length) then
      (match frzs r2 (plains ms ys), res r2 ys with
        | some rf, some ds => (match c (d :: ds) with | .ok q _ => .ok q rf | _ => .bad)
        | _, _ => .bad) else .bad
  | _ => .bad
/-- a call by its arguments -/
def callR (ms : List Bool) (c : List D → CR) (xs : List (Nat ⊕ D)) (r1 : En) : R Val :=
  if argsOk r1 ms xs && apart (inouts ms xs) (plains ms xs) && decide (ms.length = xs.length) then
    (match res r1 xs with
      | some ds => after r1 ms xs (c ds)
      | none => .bad) else .bad
def enumD (l : List D) : List D := (List.range l.length).zipWith (fun (k : Nat) d => D.tup [.int k, d]) l
def zip2D (a b : List D) : List D := a.zipWith (fun x y => D.tup [x, y]) b
def zip3D : List D → List D → List D → List D
  | x :: xs, y :: ys, z :: zs => D.tup [x, y, z] :: zip3D xs ys zs
  | _, _, _ => []
/-- what is walked -/
def itemsD : D → Option (List D)
  | .lst l => some l
  | .tup l => some l
  | _ => none
def lstD : D → Option (List D)
  | .lst l => some l
  | _ => none
def rngD : List D → Option (List D)
  | [.int n] => if sm62 n then some ((rangeI 0 n 1).map .int) else none
  | [.int a, .int b] => if sm62 a && sm62 b then some ((rangeI a b 1).map .int) else none
  | [.int a, .int b, .int c] => if sm62 a && sm62 b && decide (c = -1) then some ((rangeI a b (-1)).map .int) else none
  | _ => none
def zipD (strict : Bool) : List D → Option (List D)
  | [a, b] => (lstD a).bind fun l => (lstD b).bind fun m => if !strict || l.length == m.length then some (zip2D l m) else none
  | [a, b, c] => (lstD a).bind fun l => (lstD b).bind fun m => (lstD c).bind fun n => if l.length == m.length && m.length == n.length then some (zip3D l m n) else none
  | _ => none

/-- within a comprehension no error is carried -/
def R.nox {A : Type} : R A → R A
  | .exc _ _ _ => .bad
  | x => x
@[simp] theorem R.nox_ok {A : Type} (a : A) (r : En) : (R.ok a r).nox = .ok a r := rfl
def lcL (f : D → En → R (Option D)) : List D → List D → En → R (List D)
  | [], acc, r => .ok acc r
  | x :: xs, acc, r => (f x r).nox.bind fun o r1 => match o with
    | some y => if acc.length < LINE then lcL f xs (acc ++ [y]) r1 else .bad
    | none => lcL f xs acc r1

/-! ### evaluation -/
/-- an argument: a name is only looked at -/
def bor (e : E) (f : En → R Val) (r : En) : R (Nat ⊕ D) :=
  match isVar e with
  | some i => if (r.rd i).isSome = true then .ok (.inl i) r else .bad
  | none => (f r).bind fun v r1 => .ok (.inr v.d) r1
def isNon : E → Bool
  | .con .non => true
  | _ => false
/-- an end of a slice -/
def por (e : E) (f : En → R Val) (r : En) : R (Nat ⊕ D) :=
  if isNon e then .ok (.inr .non) r else (bor e f r).bind fun x r1 => R.of (match res r1 [x] with | some [.int i] => some (.inr (.int i)) | _ => none) r1
def lstB (r : En) (x : Nat ⊕ D) : Bool :=
  match res r [x] with
  | some [.lst _] => true
  | _ => false
def op1 (f : D → Option Val) (x : Nat ⊕ D) (r : En) : R Val := R.of (match res r [x] with | some [a] => f a | _ => none) r
def op2 (f : D → D → Option Val) (x y : Nat ⊕ D) (r : En) : R Val := R.of (match res r [x, y] with | some [a, b] => f a b | _ => none) r
def op3 (f : D → D → D → Option Val) (x y z : Nat ⊕ D) (r : En) : R Val := R.of (match res r [x, y, z] with | some [a, b, c] => f a b c | _ => none) r
def opn (f : List D → Option Val) (xs : List (Nat ⊕ D)) (r : En) : R Val := R.of ((res r xs).bind f) r
def boolV (x : Option Bool) : Option Val := x.map fun k => .sh (.bl k)
mutual
def ev (C : Cf) : E → En → R Val
  | .var i, r => match r[i]? with
    | some (.sh d) => .ok (.sh d) r
    | some (.ow d) => .ok (.sh d) (r.set i (.sh d))
    | _ => .bad
  | .con d, r => .ok (.sh d) r
  | .neg a, r => (ev C a r).bind fun v r1 => match v.d with
    | .int i => .ok (.sh (.int (-i))) r1
    | _ => .bad
  | .not a, r => (bor a (fun r => ev C a r) r).bind fun x r1 => op1 (fun u => boolV ((tru u).map (!·))) x r1
  | .bin op a b, r => (bor a (fun r => ev C a r) r).bind fun x r1 => (bor b (fun r => ev C b r) r1).bind fun y r2 => op2 (binD op) x y r2
  | .cmp op a b, r => (bor a (fun r => ev C a r) r).bind fun x r1 => (bor b (fun r => ev C b r) r1).bind fun y r2 => op2 (fun u v => boolV (cmpD op u v)) x y r2
  | .chn op op' a b c, r => (bor a (fun r => ev C a r) r).bind fun x r1 => (bor b (fun r => ev C b r) r1).bind fun y r2 => (op2 (fun u v => boolV (cmpD op u v)) x y r2).bind fun q r3 => match q.d with
    | .bl true => (bor c (fun r => ev C c r) r3).bind fun z r4 => op2 (fun u v => boolV (cmpD op' u v)) y z r4
    | .bl false => .ok (.sh (.bl false)) r3
    | _ => .bad
  | .and a b, r => (ev C a r).bind fun x r1 => match tru x.d with
    | some true => (ev C b r1).bind fun y r2 => .ok (.sh y.d) r2
    | some false => .ok (.sh x.d) r1
    | none => .bad
  | .or a b, r => (ev C a r).bind fun x r1 => match tru x.d with
    | some false => (ev C b r1).bind fun y r2 => .ok (.sh y.d) r2
    | some true => .ok (.sh x.d) r1
    | none => .bad
  | .ite c a b, r => (evT C c r).bind fun k r1 => if k = true then ev C a r1 else ev C b r1
  | .lst es, r => (evs C es r).bind fun ds r1 => if ds.length ≤ LINE then .ok (.ow (.lst ds)) r1 else .bad
  | .tup es, r => (evs C es r).bind fun ds r1 => if ds.length ≤ LINE then .ok (.sh (.tup ds)) r1 else .bad
  | .idx a b, r => (bor a (fun r => ev C a r) r).bind fun x r1 => (bor b (fun r => ev C b r) r1).bind fun y r2 => op2 (fun u v => (idxD u v).map .sh) x y r2
  | .slc a lo hi, r => (bor a (fun r => ev C a r) r).bind fun x r1 => (por lo (fun r => ev C lo r) r1).bind fun y r2 => (por hi (fun r => ev C hi r) r2).bind fun z r3 => op3 slcD x y z r3
  | .rev a, r => (bor a (fun r => ev C a r) r).bind fun x r1 => op1 revD x r1
  | .lc elt t it ifs own, r => (evI C it r).bind fun l r1 => if ownFree r1 own && (tgS t).all own.contains then
      (lcL (fun x r2 => (R.of (bindT t x (wip r2 own)) r2).bind fun r3 _ => (evC C ifs r3).bind fun k r4 => if k = true then (ev C elt r4).bind fun v r5 => .ok (some v.d) r5 else .ok none r4) l [] (wip r1 own)).bind fun ds r6 =>
        thawL r ds (back r1 r6 own) else .bad
  | .lc2 _ _ _ _ _ _ _ _ _, _ => .bad
  | .call f es perm dfl, r => (evA C es r).bind fun ys r1 => match permO (ys ++ dfl.map .inr) perm, C.modes f with
    | some xs, some ms => callR ms (C.call f) xs r1
    | _, _ => .bad
  | .callN f e es, r => (ev C e r).bind fun v r1 => (evA C es r1).bind fun ys r2 => match v, C.modes f with
    | .ow d, some ms => callNR ms (C.call f) d ys r2
    | _, _ => .bad
  | .bi b es, r => (evA C es r).bind fun xs r1 => opn (biD b) xs r1
  | .bits o, r => (bor o (fun r => ev C o r) r).bind fun x r1 => op1 (fun d => (mtD .bitlen d []).map Val.sh) x r1
  | .mth m o es, r => (bor o (fun r => ev C o r) r).bind fun x r1 => if lstB r1 x = true then (evA C es r1).bind fun xs r2 => opn (fun l => match l with | d :: ds => (mtD m d ds).map Val.sh | [] => none) (x :: xs) r2 else .bad
  | .mut m i es, r => if lstAt r i then (evs C es r).bind fun ds r1 => (R.of ((r1.own? i).bind fun o => (muD m o ds).bind fun p => (r1.chg i p.1).map fun r2 => (Val.sh p.2, r2)) r1).bind (fun q _ => .ok q.1 q.2) else .bad
  | .isi a t, r => (bor a (fun r => ev C a r) r).bind fun x r1 => op1 (fun u => boolV (isiD u t)) x r1
def evs (C : Cf) : List E → En → R (List D)
  | [], r => .ok [] r
  | e :: es, r => (ev C e r).bind fun v r1 => (evs C es r1).bind fun vs r2 => .ok (v.d :: vs) r2
def evA (C : Cf) : List E → En → R (List (Nat ⊕ D))
  | [], r => .ok [] r
  | e :: es, r => (bor e (fun r => ev C e r) r).bind fun x r1 => (evA C es r1).bind fun xs r2 => .ok (x :: xs) r2
def evT (C : Cf) : T → En → R Bool
  | .val e, r => (bor e (fun r => ev C e r) r).bind fun x r1 => R.of (match res r1 [x] with | some [a] => tru a | _ => none) r1
  | .not a, r => (evT C a r).bind fun b r1 => .ok (!b) r1
  | .and a b, r => (evT C a r).bind fun k r1 => if k = true then evT C b r1 else .ok false r1
  | .or a b, r => (evT C a r).bind fun k r1 => if k = true then .ok true r1 else evT C b r1
  | .ite c a b, r => (evT C c r).bind fun k r1 => if k = true then evT C a r1 else evT C b r1
def evC (C : Cf) : List T → En → R Bool
  | [], r => .ok true r
  | e :: es, r => (evT C e r).bind fun k r1 => if k = true then evC C es r1 else .ok false r1
def evI (C : Cf) : I → En → R (List D)
  | .e a, r => (ev C a r).bind fun v r1 => R.of (itemsD v.d) r1
  | .rng1 a, r => (bor a (fun r => ev C a r) r).bind fun x r1 => R.of (match res r1 [x] with | some [u] => rngD [u] | _ => none) r1
  | .rng2 a b, r => (bor a (fun r => ev C a r) r).bind fun x r1 => (bor b (fun r => ev C b r) r1).bind fun y r2 => R.of (match res r2 [x, y] with | some [u, v] => rngD [u, v] | _ => none) r2
  | .rng3 a b c, r => (bor a (fun r => ev C a r) r).bind fun x r1 => (bor b (fun r => ev C b r) r1).bind fun y r2 => (bor c (fun r => ev C c r) r2).bind fun z r3 => R.of (match res r3 [x, y, z] with | some [u, v, w] => rngD [u, v, w] | _ => none) r3
  | .enm a, r => (ev C a r).bind fun v r1 => R.of ((lstD v.d).map enumD) r1
  | .zip s es, r => (evs C es r).bind fun ds r1 => R.of (zipD s ds) r1
  | .rvd a, r => (ev C a r).bind fun v r1 => R.of ((lstD v.d).map List.reverse) r1
end

/-- behind a statement -/
inductive O where
  | nx (r : En)
  | ret (v : Val) (r : En)
  | brk (r : En)
  | cnt (r : En)
  | exc (c : Nat) (v : D) (r : En)
  | bad
def R.run {A : Type} (x : R A) (f : A → En → O) : O :=
  match x with
  | .ok a r => f a r
  | .exc c v r => .exc c v r
  | .bad => .bad
@[simp] theorem R.run_ok {A : Type} (a : A) (r : En) (f : A → En → O) : (R.ok a r).run f = f a r := rfl
@[simp] theorem R.run_exc {A : Type} (c : Nat) (v : D) (r : En) (f : A → En → O) : (R.exc c v r).run f = .exc c v r := rfl
@[simp] theorem R.run_bad {A : Type} (f : A → En → O) : (R.bad : R A).run f = .bad := rfl
def O.of (x : Option En) : O :=
  match x with
  | some r => .nx r
  | none => .bad
def O.then (x : O) (f : En → O) : O :=
  match x with
  | .nx r => f r
  | x => x
/-- behind a loop's turn -/
def O.turn (x : O) (f : En → O) : O :=
  match x with
  | .nx r => f r
  | .cnt r => f r
  | .brk r => .nx r
  | x => x
@[simp] theorem O.of_some (r : En) : O.of (some r) = .nx r := rfl
@[simp] theorem O.of_none : O.of none = .bad := rfl
@[simp] theorem O.then_nx (r : En) (f : En → O) : (O.nx r).then f = f r := rfl
@[simp] theorem O.then_ret (v : Val) (r : En) (f : En → O) : (O.ret v r).then f = .ret v r := rfl
@[simp] theorem O.then_brk (r : En) (f : En → O) : (O.brk r).then f = .brk r := rfl
@[simp] theorem O.then_cnt (r : En) (f : En → O) : (O.cnt r).then f = .cnt r := rfl
@[simp] theorem O.then_exc (c : Nat) (v : D) (r : En) (f : En → O) : (O.exc c v r).then f = .exc c v r := rfl
@[simp] theorem O.turn_nx (r : En) (f : En → O) : (O.nx r).turn f = f r := rfl
@[simp] theorem O.turn_cnt (r : En) (f : En → O) : (O.cnt r).turn f = f r := rfl
@[simp] theorem O.turn_brk (r : En) (f : En → O) : (O.brk r).turn f = .nx r := rfl
@[simp] theorem O.turn_ret (v : Val) (r : En) (f : En → O) : (O.ret v r).turn f = .ret v r := rfl
@[simp] theorem O.turn_exc (c : Nat) (v : D) (r : En) (f : En → O) : (O.exc c v r).turn f = .exc c v r := rfl
def forL (f : D → En → O) : List D → En → O
  | [], r => .nx r
  | x :: xs, r => (f x r).turn fun r1 => forL f xs r1
def whlL (c : En → R Bool) (b : En → O) : Nat → En → O
  | 0, _ => .bad
  | n + 1, r => (c r).run fun k r1 => if k = true then (b r1).turn fun r2 => whlL c b n r2 else .nx r1
def puts (r : En) : List Nat → List Val → Option En
  | [], [] => some r
  | i :: is, v :: vs => (r.put i v).bind fun r1 => puts r1 is vs
  | _, _ => none
def evV (C : Cf) : List E → En → R (List Val)
  | [], r => .ok [] r
  | e :: es, r => (ev C e r).bind fun v r1 => (evV C es r1).bind fun vs r2 => .ok (v :: vs) r2
def retV (C : Cf) (e : E) (r : En) : R Val :=
  match isVar e with
  | some i => match r[i]? with
    | some (.sh d) => .ok (.sh d) r
    | some (.ow d) => .ok (.ow d) r
    | _ => .bad
  | none => ev C e r
mutual
def xs (C : Cf) : List S → En → O
  | [], r => .nx r
  | s :: ss, r => (x1 C s r).then fun r1 => xs C ss r1
def x1 (C : Cf) : S → En → O
  | .asg t e, r => (ev C e r).run fun v r1 => match t with
    | .v i => O.of (r1.put i v)
    | .t ts => O.of (bindT (.t ts) v.d r1)
  | .par is es, r => (evV C es r).run fun vs r1 => if is.Nodup then O.of (puts r1 is vs) else .bad
  | .aug i op e, r => match r.rd i with
    | some (.int x) => (ev C e r).run fun v r1 => match v.d with
      | .int y => match binI op x y with
        | some z => O.of (r1.put i (.sh (.int z)))
        | none => .bad
      | _ => .bad
    | _ => .bad
  | .seti i x e, r => (ev C e r).run fun v r1 => if (r1.own? i).isSome = true then (ev C x r1).run fun k r2 => O.of ((r2.own? i).bind fun o => (setD o k.d v.d).bind fun d => r2.chg i d) else .bad
  | .ex e, r => (ev C e r).run fun _ r1 => .nx r1
  | .ret e, r => (retV C e r).run fun v r1 => .ret v r1
  | .retN, r => .ret (.sh .non) r
  | .ite c a b, r => (evT C c r).run fun k r1 => if k = true then xs C a r1 else xs C b r1
  | .for_ t it b, r => (evI C it r).run fun l r1 => forL (fun x r2 => (O.of (bindT t x r2)).then fun r3 => xs C b r3) l r1
  | .whl c b, r => whlL (evT C c) (xs C b) C.fuel r
  | .brk, r => .brk r
  | .cnt, r => .cnt r
  | .pass, r => .nx r
  | .nev, _ => .bad
  | .rse c es, r => (evs C es r).run fun ds r1 => match ds with
    | [d] => .exc c d r1
    | [] => .exc c .non r1
    | _ => .bad
  | .try_ _ _ _ _, _ => .bad
end
def En.start (ms : List Bool) (n : Nat) (ds : List D) : En := (ms.zipWith (fun m d => if m then Sl.io d else Sl.sh d) ds) ++ List.replicate (n - ds.length) .no
def outsOf (r : En) : Nat → List Bool → Option (List D)
  | _, [] => some []
  | i, true :: ms => match r[i]? with
    | some (.io d) => (outsOf r (i + 1) ms).map (d :: ·)
    | _ => none
  | i, false :: ms => outsOf r (i + 1) ms
def O.cr (ms : List Bool) : O → CR
  | .nx r => match outsOf r 0 ms with | some l => .ok (.sh .non) l | none => .bad
  | .ret v r => match outsOf r 0 ms with | some l => .ok v l | none => .bad
  | .exc c v r => match outsOf r 0 ms with | some l => .exc c v l | none => .bad
  | _ => .bad
def callD (P : Nat → Option Df) (fuel : Nat) : Nat → Nat → List D → CR
  | 0, _, _ => .bad
  | k + 1, f, ds => match P f with
    | none => .bad
    | some df => if ds.length = df.modes.length ∧ ds.length ≤ df.names then
        (xs { call := callD P fuel k, modes := fun g => (P g).map (·.modes), fuel := fuel } df.body (En.start df.modes df.names ds)).cr df.modes
      else .bad
end Z
/-! ZB: how data trees lie in the tracked heap; slots; what a step may change. -/
namespace Z
open PySem PySem.Spec L2
open PyProof.Rows hiding St

/-- what a law's text fixes -/
structure Tb where
  P : Program
  w : World
  K : PySem.W.Frag
  mg : Str → Option Value
  base : Heap
  adr : Nat → Addr

abbrev Ext (H H' : Hp) : Prop := Same H H'
theorem rd_ext {H H' : Hp} {a : Addr} {u : HO} (e : Ext H H') (h : Rd H a u) : Rd H' a u := by
  rcases h with h | ⟨o, h⟩
  · exact .inl (e _ _ h)
  · exact .inr ⟨o, e _ _ h⟩
theorem sqT_ext {K : PySem.W.Frag} {H H' : Hp} {a : Addr} {xs : List V} (e : Ext H H') (h : SqT K H a xs) : SqT K H' a xs := by
  rcases h with h | h
  · exact .inl (rd_ext e h)
  · exact .inr h
theorem sqL_ext {K : PySem.W.Frag} {H H' : Hp} {a : Addr} {xs : List V} (e : Ext H H') (h : SqL K H a xs) : SqL K H' a xs := e.seq h

mutual
def Rep (T : Tb) (H : Hp) : D → V → Prop
  | .non, v => v = .non
  | .bl b, v => v = .bl b
  | .int i, v => v = .int i
  | .str s, v => v = .str s
  | .lst ds, v => ∃ a xs, v = .ref a ∧ H a = some (.lst xs) ∧ Reps T H ds xs
  | .tup ds, v => ∃ a xs, v = .ref a ∧ H a = some (.tup xs) ∧ Reps T H ds xs
  | .dct ks ds, v => ∃ a kvs, v = .ref a ∧ H a = some (.dK kvs) ∧ kvs.map (·.1) = ks ∧ Reps T H ds (kvs.map (·.2))
  | .fn f, v => v = .ref (T.adr f)
  | .exn _ _, _ => False
  | .scr ns, v => ∃ a, v = .ref a ∧ SqL T.K H a (ns.map V.int)
def Reps (T : Tb) (H : Hp) : List D → List V → Prop
  | [], vs => vs = []
  | d :: ds, vs => ∃ v r, vs = v :: r ∧ Rep T H d v ∧ Reps T H ds r
end
mutual
theorem Rep.ext {T : Tb} {H H' : Hp} (e : Ext H H') : ∀ (d : D) (v : V), Rep T H d v → Rep T H' d v
  | .non, _, h => h
  | .bl _, _, h => h
  | .int _, _, h => h
  | .str _, _, h => h
  | .lst ds, v, h => by
    simp only [Rep] at h ⊢
    obtain ⟨a, xs, h1, h2, h3⟩ := h
    exact ⟨a, xs, h1, e _ _ h2, Reps.ext e ds xs h3⟩
  | .tup ds, v, h => by
    simp only [Rep] at h ⊢
    obtain ⟨a, xs, h1, h2, h3⟩ := h
    exact ⟨a, xs, h1, e _ _ h2, Reps.ext e ds xs h3⟩
  | .dct ks ds, v, h => by
    simp only [Rep] at h ⊢
    obtain ⟨a, kvs, h1, h2, h3, h4⟩ := h
    exact ⟨a, kvs, h1, e _ _ h2, h3, Reps.ext e ds _ h4⟩
  | .fn _, _, h => h
  | .exn _ _, _, h => h
  | .scr _, v, h => by
    simp only [Rep] at h ⊢
    obtain ⟨a, h1, h2⟩ := h
    exact ⟨a, h1, sqL_ext e h2⟩
theorem Reps.ext {T : Tb} {H H' : Hp} (e : Ext H H') : ∀ (ds : List D) (vs : List V), Reps T H ds vs → Reps T H' ds vs
  | [], _, h => h
  | d :: ds, vs, h => by
    simp only [Reps] at h ⊢
    obtain ⟨v, r, h1, h2, h3⟩ := h
    exact ⟨v, r, h1, Rep.ext e d v h2, Reps.ext e ds r h3⟩
end
section
variable {T : Tb} {H : Hp}
theorem Reps.nil : Reps T H [] [] := by simp only [Reps]
theorem Reps.cons {d : D} {v : V} {ds : List D} {vs : List V} (h : Rep T H d v) (t : Reps T H ds vs) : Reps T H (d :: ds) (v :: vs) := by
  simp only [Reps]; exact ⟨v, vs, rfl, h, t⟩
theorem Reps.of_nil {vs : List V} (h : Reps T H [] vs) : vs = [] := by simpa only [Reps] using h
theorem Reps.of_cons {d : D} {ds : List D} {vs : List V} (h : Reps T H (d :: ds) vs) : ∃ v r, vs = v :: r ∧ Rep T H d v ∧ Reps T H ds r := by
  simpa only [Reps] using h
theorem Reps.length : ∀ {ds : List D} {vs : List V}, Reps T H ds vs → vs.length = ds.length
  | [], _, h => by rw [h.of_nil]; rfl
  | d :: ds, _, h => by
    obtain ⟨v, r, rfl, _, h2⟩ := h.of_cons
    simp [Reps.length h2]
theorem Reps.get : ∀ {ds : List D} {vs : List V} {i : Nat} {d : D}, Reps T H ds vs → ds[i]? = some d → ∃ v, vs[i]? = some v ∧ Rep T H d v
  | [], _, _, _, _, e => by simp at e
  | d :: ds, _, 0, d', h, e => by
    obtain ⟨v, r, rfl, h1, h2⟩ := h.of_cons
    simp at e; subst e
    exact ⟨v, by simp, h1⟩
  | d :: ds, _, i + 1, d', h, e => by
    obtain ⟨v, r, rfl, h1, h2⟩ := h.of_cons
    obtain ⟨u, e1, q⟩ := Reps.get (i := i) h2 (by simpa using e)
    exact ⟨u, by simpa using e1, q⟩
theorem Reps.append : ∀ {ds es : List D} {vs us : List V}, Reps T H ds vs → Reps T H es us → Reps T H (ds ++ es) (vs ++ us)
  | [], _, _, _, h, t => by rw [h.of_nil]; exact t
  | d :: ds, _, _, _, h, t => by
    obtain ⟨v, r, rfl, h1, h2⟩ := h.of_cons
    exact .cons h1 (Reps.append h2 t)
theorem Reps.take : ∀ {ds : List D} {vs : List V} (n : Nat), Reps T H ds vs → Reps T H (ds.take n) (vs.take n)
  | _, _, 0, _ => by simp; exact .nil
  | [], _, _ + 1, h => by rw [h.of_nil]; simp; exact .nil
  | d :: ds, _, n + 1, h => by
    obtain ⟨v, r, rfl, h1, h2⟩ := h.of_cons
    simpa using Reps.cons h1 (Reps.take n h2)
theorem Reps.drop : ∀ {ds : List D} {vs : List V} (n : Nat), Reps T H ds vs → Reps T H (ds.drop n) (vs.drop n)
  | _, _, 0, h => by simpa using h
  | [], _, _ + 1, h => by rw [h.of_nil]; simp; exact .nil
  | d :: ds, _, n + 1, h => by
    obtain ⟨v, r, rfl, h1, h2⟩ := h.of_cons
    simpa using Reps.drop n h2
theorem Reps.reverse : ∀ {ds : List D} {vs : List V}, Reps T H ds vs → Reps T H ds.reverse vs.reverse
  | [], _, h => by rw [h.of_nil]; simp; exact .nil
  | d :: ds, _, h => by
    obtain ⟨v, r, rfl, h1, h2⟩ := h.of_cons
    simpa using (Reps.reverse h2).append (.cons h1 .nil)
theorem Reps.set : ∀ {ds : List D} {vs : List V} {d : D} {v : V} (i : Nat), Reps T H ds vs → Rep T H d v → Reps T H (ds.set i d) (vs.set i v)
  | [], _, _, _, _, h, _ => by rw [h.of_nil]; simp; exact .nil
  | d :: ds, _, _, _, 0, h, q => by
    obtain ⟨v, r, rfl, h1, h2⟩ := h.of_cons
    simpa using Reps.cons q h2
  | d :: ds, _, _, _, i + 1, h, q => by
    obtain ⟨v, r, rfl, h1, h2⟩ := h.of_cons
    simpa using Reps.cons h1 (Reps.set i h2 q)
theorem Reps.eraseIdx : ∀ {ds : List D} {vs : List V} (i : Nat), Reps T H ds vs → Reps T H (ds.eraseIdx i) (vs.eraseIdx i)
  | [], _, _, h => by rw [h.of_nil]; simp; exact .nil
  | d :: ds, _, 0, h => by
    obtain ⟨v, r, rfl, h1, h2⟩ := h.of_cons
    simpa using h2
  | d :: ds, _, i + 1, h => by
    obtain ⟨v, r, rfl, h1, h2⟩ := h.of_cons
    simpa using Reps.cons h1 (Reps.eraseIdx i h2)
theorem Reps.dropLast {ds : List D} {vs : List V} (h : Reps T H ds vs) : Reps T H ds.dropLast vs.dropLast := by
  rw [List.dropLast_eq_take, List.dropLast_eq_take, h.length]
  exact h.take _
theorem Reps.rep {ds : List D} {vs : List V} (h : Reps T H ds vs) : ∀ n : Nat, Reps T H (List.replicate n ds).flatten (List.replicate n vs).flatten
  | 0 => by simp; exact .nil
  | n + 1 => by
    rw [List.replicate_succ, List.replicate_succ, List.flatten_cons, List.flatten_cons]
    exact h.append (h.rep n)
theorem Reps.toIs : ∀ {ds : List D} {vs : List V} {ns : List Int}, Reps T H ds vs → Z.intsD ds = some ns → vs = ns.map V.int
  | [], _, ns, h, e => by
    simp [Z.intsD] at e; subst e
    rw [h.of_nil]; rfl
  | d :: ds, _, ns, h, e => by
    obtain ⟨v, r, rfl, h1, h2⟩ := h.of_cons
    cases d with
    | int i =>
      simp only [Z.intsD] at e
      cases e2 : Z.intsD ds with
      | none => rw [e2] at e; cases e
      | some ms =>
        rw [e2] at e
        simp at e; subst e
        simp only [Rep] at h1
        rw [h1, Reps.toIs h2 e2]; rfl
    | _ => simp [Z.intsD] at e
theorem Reps.of_ints (T : Tb) (H : Hp) : ∀ ns : List Int, Reps T H (ns.map D.int) (ns.map V.int)
  | [] => .nil
  | n :: ns => by
    simp only [List.map_cons]
    exact .cons (by simp only [Rep]) (Reps.of_ints T H ns)
theorem ints_map (ns : List Int) : Z.intsD (ns.map D.int) = some ns := by
  induction ns with
  | nil => rfl
  | cons n ns ih => simp [Z.intsD, ih]
end

/-- an owned thing: its object may be changed, its items lie in P -/
def RepO (T : Tb) (P H : Hp) (a : Addr) (d : D) : Prop :=
  match d with
  | .lst ds => ∃ xs, H a = some (.lst xs) ∧ Reps T P ds xs
  | .dct ks ds => ∃ kvs, H a = some (.dK kvs) ∧ kvs.map (·.1) = ks ∧ Reps T P ds (kvs.map (·.2))
  | _ => False
def OwnAt (r : En) (i : Nat) : Prop := ∃ d, r[i]? = some (.ow d) ∨ r[i]? = some (.io d)
def Own (σ : St) (r : En) (a : Addr) : Prop := ∃ i, OwnAt r i ∧ σ[i]? = some (some (.ref a))
structure RS (T : Tb) (P H : Hp) (σ : St) (r : En) : Prop where
  sub : Ext P H
  len : r.length = σ.length
  sh : ∀ (i : Nat) (d : D), r[i]? = some (Sl.sh d) → ∃ v, σ[i]? = some (some v) ∧ Rep T P d v
  own : ∀ (i : Nat) (d : D), (r[i]? = some (Sl.ow d) ∨ r[i]? = some (Sl.io d)) → ∃ a, σ[i]? = some (some (.ref a)) ∧ P a = none ∧ RepO T P H a d
  dis : ∀ (i j : Nat) (a : Addr), OwnAt r i → OwnAt r j → σ[i]? = some (some (.ref a)) → σ[j]? = some (some (.ref a)) → i = j
theorem RepO.some {T : Tb} {P H : Hp} {a : Addr} {d : D} (h : RepO T P H a d) : ∃ o, H a = some o := by
  cases d with
  | lst ds => obtain ⟨xs, e, _⟩ := h; exact ⟨_, e⟩
  | dct ks ds => obtain ⟨xs, e, _⟩ := h; exact ⟨_, e⟩
  | _ => exact False.elim h
theorem RepO.move {T : Tb} {P H P' H' : Hp} {a : Addr} {d : D} (h : RepO T P H a d) (e : Ext P P') (k : H' a = H a) : RepO T P' H' a d := by
  cases d with
  | lst ds => obtain ⟨xs, h1, h2⟩ := h; exact ⟨xs, by rw [k]; exact h1, Reps.ext e _ _ h2⟩
  | dct ks ds => obtain ⟨xs, h1, h2, h3⟩ := h; exact ⟨xs, by rw [k]; exact h1, h2, Reps.ext e _ _ h3⟩
  | _ => exact False.elim h
/-- an owned thing is a thing -/
theorem RepO.rep {T : Tb} {P H P' : Hp} {a : Addr} {d : D} (h : RepO T P H a d) (e : Ext P P') (k : P' a = H a) : Rep T P' d (.ref a) := by
  cases d with
  | lst ds =>
    obtain ⟨xs, h1, h2⟩ := h
    simp only [Rep]
    exact ⟨a, xs, rfl, k.trans h1, Reps.ext e _ _ h2⟩
  | dct ks ds =>
    obtain ⟨xs, h1, h2, h3⟩ := h
    simp only [Rep]
    exact ⟨a, xs, rfl, k.trans h1, h2, Reps.ext e _ _ h3⟩
  | _ => exact False.elim h

/-- what a step may change: O are the owned ones -/
structure Stp (O : Addr → Prop) (P H P' H' : Hp) : Prop where
  pp : Ext P P'
  fr : ∀ b o, H b = some o → ¬ O b → H' b = some o
  dm : ∀ b, H' b = none → H b = none
  nw : ∀ b, P' b ≠ none → P b ≠ none ∨ H b = none ∨ O b
theorem Stp.refl {O : Addr → Prop} {P H : Hp} : Stp O P H P H := ⟨.refl _, fun _ _ h _ => h, fun _ h => h, fun _ h => .inl h⟩
theorem Stp.trans {O O1 : Addr → Prop} {P H P1 H1 P2 H2 : Hp} (a : Stp O P H P1 H1) (b : Stp O1 P1 H1 P2 H2) (s : ∀ c, O1 c → O c ∨ H c = none) : Stp O P H P2 H2 where
  pp := a.pp.trans b.pp
  fr := fun c o h n => b.fr c o (a.fr c o h n) fun z => (s c z).elim n fun e => by rw [e] at h; cases h
  dm := fun c h => a.dm c (b.dm c h)
  nw := fun c h => by
    rcases b.nw c h with h | h | h
    · exact a.nw c h
    · exact .inr (.inl (a.dm c h))
    · rcases s c h with h | h
      · exact .inr (.inr h)
      · exact .inr (.inl h)
def kle : Sl → Sl → Prop
  | .io _, .io _ => True
  | .ow _, .ow _ => True
  | .ow _, .sh _ => True
  | .sh _, .sh _ => True
  | .no, .no => True
  | _, _ => False
theorem kle.refl : ∀ x : Sl, kle x x
  | .no => trivial
  | .sh _ => trivial
  | .ow _ => trivial
  | .io _ => trivial
theorem kle.trans {x y z : Sl} (h1 : kle x y) (h2 : kle y z) : kle x z := by
  cases x <;> cases y <;> first | exact False.elim h1 | (cases z <;> first | trivial | exact False.elim h2)
def Kd (r r' : En) : Prop := r'.length = r.length ∧ ∀ (i : Nat) (x x' : Sl), r[i]? = some x → r'[i]? = some x' → kle x x'
theorem Kd.refl (r : En) : Kd r r := ⟨rfl, fun i x x' h h' => by rw [h] at h'; cases h'; exact kle.refl x⟩
theorem Kd.trans {r r1 r2 : En} (a : Kd r r1) (b : Kd r1 r2) : Kd r r2 := ⟨b.1.trans a.1, fun i x x' h h' => by
  have hi : i < r1.length := by
    rw [a.1]
    exact (List.getElem?_eq_some_iff.mp h).1
  exact (a.2 i x _ h (List.getElem?_eq_getElem hi)).trans (b.2 i _ x' (List.getElem?_eq_getElem hi) h')⟩
theorem Kd.own {r r' : En} (k : Kd r r') {i : Nat} (h : OwnAt r' i) : OwnAt r i := by
  obtain ⟨d, h⟩ := h
  have hi : i < r.length := by
    rw [← k.1]
    rcases h with h | h <;> exact (List.getElem?_eq_some_iff.mp h).1
  have q := List.getElem?_eq_getElem hi
  rcases h with h | h
  · have z := k.2 i _ _ q h
    cases e : r[i] with
    | ow d' => exact ⟨d', .inl (by rw [q, e])⟩
    | _ => rw [e] at z; exact False.elim z
  · have z := k.2 i _ _ q h
    cases e : r[i] with
    | io d' => exact ⟨d', .inr (by rw [q, e])⟩
    | _ => rw [e] at z; exact False.elim z
theorem Kd.owns {σ : St} {r r' : En} (k : Kd r r') {a : Addr} (h : Own σ r' a) : Own σ r a := let ⟨i, h1, h2⟩ := h; ⟨i, k.own h1, h2⟩
/-- behind a step: the slots' values stay, their things may have changed -/
structure Aft (T : Tb) (σ : St) (P H : Hp) (r : En) (P' H' : Hp) (r' : En) : Prop where
  rs : RS T P' H' σ r'
  st : Stp (Own σ r) P H P' H'
  kd : Kd r r'
theorem Aft.refl {T : Tb} {σ : St} {P H : Hp} {r : En} (h : RS T P H σ r) : Aft T σ P H r P H r := ⟨h, .refl, .refl _⟩
theorem Aft.trans {T : Tb} {σ : St} {P H P1 H1 P2 H2 : Hp} {r r1 r2 : En} (a : Aft T σ P H r P1 H1 r1) (b : Aft T σ P1 H1 r1 P2 H2 r2) : Aft T σ P H r P2 H2 r2 :=
  ⟨b.rs, a.st.trans b.st fun _ h => .inl (a.kd.owns h), a.kd.trans b.kd⟩

/-- a result: a thing of P, or a new one that no one else holds -/
def RV (T : Tb) (H P' H' : Hp) (v : Val) (u : V) : Prop :=
  match v with
  | .sh d => Rep T P' d u
  | .ow d => ∃ a, u = .ref a ∧ P' a = none ∧ RepO T P' H' a d ∧ H a = none

section
variable {T : Tb} {σ : St} {P H P' H' : Hp} {r r' : En}
theorem RS.ownsome (h : RS T P H σ r) {a : Addr} (o : Own σ r a) : ∃ x, H a = some x := by
  obtain ⟨i, ⟨d, hd⟩, hs⟩ := o
  obtain ⟨b, e, _, q⟩ := h.own i d hd
  rw [hs] at e; cases e
  exact q.some
theorem RS.ownfree (h : RS T P H σ r) {a : Addr} (o : Own σ r a) : P a = none := by
  obtain ⟨i, ⟨d, hd⟩, hs⟩ := o
  obtain ⟨b, e, n, q⟩ := h.own i d hd
  rw [hs] at e; cases e
  exact n
/-- more is settled -/
theorem RS.grow (h : RS T P H σ r) (e : Ext P P') (k : Ext P' H') (fr : ∀ a, Own σ r a → P' a = none ∧ H' a = H a) : RS T P' H' σ r where
  sub := k
  len := h.len
  sh := fun i d q => let ⟨v, e1, e2⟩ := h.sh i d q; ⟨v, e1, Rep.ext e _ _ e2⟩
  own := fun i d q => by
    obtain ⟨a, e1, e2, e3⟩ := h.own i d q
    obtain ⟨n, z⟩ := fr a ⟨i, ⟨d, q⟩, e1⟩
    exact ⟨a, e1, n, e3.move e z⟩
  dis := h.dis
theorem upd_sub {b : Addr} {o : HO} (e : Ext P H) (n : P b = none) : Ext P (upd H b o) := fun c u h => by
  rw [upd_ne (ne_of_none h n)]
  exact e c u h
theorem upd_ext {b : Addr} {o : HO} (n : P b = none) : Ext P (upd P b o) := fun c u h => by
  rw [upd_ne (ne_of_none h n)]; exact h
/-- a new thing is laid and settled -/
theorem Aft.laid (h : RS T P H σ r) {p : Addr} {o : HO} (n : H p = none) : Aft T σ P H r (upd P p o) (upd H p o) r := by
  have np : P p = none := h.sub.free n
  have ho : ∀ a, Own σ r a → a ≠ p := fun a q z => by
    obtain ⟨x, e⟩ := h.ownsome q
    rw [z, n] at e; cases e
  refine ⟨h.grow (upd_ext np) (fun c u e => ?_) fun a q => ⟨by rw [upd_ne (ho a q)]; exact h.ownfree q, by rw [upd_ne (ho a q)]⟩, ⟨upd_ext np, fun c u e _ => ?_, fun c e => ?_, fun c e => ?_⟩, .refl _⟩
  · by_cases z : c = p
    · subst z; rw [upd_same] at e; cases e; exact upd_same
    · rw [upd_ne z] at e ⊢; exact h.sub c u e
  · rw [upd_ne (ne_of_none e n)]; exact e
  · by_cases z : c = p
    · subst z; exact n
    · rw [upd_ne z] at e; exact e
  · by_cases z : c = p
    · subst z; exact .inr (.inl n)
    · rw [upd_ne z] at e; exact .inl e
/-- a new thing is laid, not settled -/
theorem Aft.laidO (h : RS T P H σ r) {p : Addr} {o : HO} (n : H p = none) : Aft T σ P H r P (upd H p o) r := by
  have ho : ∀ a, Own σ r a → a ≠ p := fun a q z => by
    obtain ⟨x, e⟩ := h.ownsome q
    rw [z, n] at e; cases e
  refine ⟨h.grow (.refl _) (upd_sub h.sub (h.sub.free n)) fun a q => ⟨h.ownfree q, by rw [upd_ne (ho a q)]⟩, ⟨.refl _, fun c u e _ => ?_, fun c e => ?_, fun c e => .inl e⟩, .refl _⟩
  · rw [upd_ne (ne_of_none e n)]; exact e
  · by_cases z : c = p
    · subst z; exact n
    · rw [upd_ne z] at e; exact e
/-- a result is settled -/
theorem RV.settle {v : Val} {u : V} (h0 : RS T P H σ r) (h : Aft T σ P H r P' H' r') (q : RV T H P' H' v u) : ∃ P2, Aft T σ P H r P2 H' r' ∧ Ext P' P2 ∧ Rep T P2 v.d u := by
  cases v with
  | sh d => exact ⟨P', h, .refl _, q⟩
  | ow d =>
    obtain ⟨a, rfl, n, ro, fa⟩ := q
    obtain ⟨o, e⟩ := ro.some
    have ex : Ext P' (upd P' a o) := upd_ext n
    have ho : ∀ b, Own σ r' b → b ≠ a := fun b z y => by
      subst y
      obtain ⟨x, w⟩ := h0.ownsome (h.kd.owns z)
      rw [fa] at w; cases w
    refine ⟨upd P' a o, ⟨h.rs.grow ex (fun c x y => ?_) fun b z => ⟨by rw [upd_ne (ho b z)]; exact h.rs.ownfree z, rfl⟩, ⟨h.st.pp.trans ex, h.st.fr, h.st.dm, fun c z => ?_⟩, h.kd⟩, ex, ?_⟩
    · by_cases z : c = a
      · subst z; rw [upd_same] at y; cases y; exact e
      · rw [upd_ne z] at y; exact h.rs.sub c x y
    · by_cases y : c = a
      · subst y; exact .inr (.inl fa)
      · rw [upd_ne y] at z; exact h.st.nw c z
    · exact ro.rep ex (by rw [upd_same, e])
end
section
variable {T : Tb} {P H : Hp}
theorem flat_rep {P' : Hp} {d : D} {u : V} (f : flat d = true) (h : Rep T P d u) : Rep T P' d u := by
  cases d <;> first | (simp only [Rep] at h ⊢; exact h) | cases f
theorem flats_rep {P' : Hp} : ∀ {ds : List D} {us : List V}, ds.all flat = true → Reps T P ds us → Reps T P' ds us
  | [], us, _, h => by rw [h.of_nil]; exact .nil
  | d :: ds, us, f, h => by
    obtain ⟨v, t, rfl, h1, h2⟩ := h.of_cons
    simp only [List.all_cons, Bool.and_eq_true] at f
    exact .cons (flat_rep f.1 h1) (flats_rep f.2 h2)
theorem shal_repO {P' : Hp} {a : Addr} {d : D} (s : shal d = true) (h : RepO T P H a d) : RepO T P' H a d := by
  cases d with
  | lst ds => obtain ⟨xs, e, q⟩ := h; exact ⟨xs, e, flats_rep s q⟩
  | dct ks ds => obtain ⟨xs, e, q, q2⟩ := h; exact ⟨xs, e, q, flats_rep s q2⟩
  | _ => exact False.elim h
theorem rep_repO {P' H' : Hp} {a : Addr} {d : D} (s : shal d = true) (h : Rep T P' d (.ref a)) (e : Ext P' H') : RepO T P H' a d := by
  cases d with
  | lst ds =>
    simp only [Rep] at h
    obtain ⟨b, xs, e1, e2, e3⟩ := h
    cases e1
    exact ⟨xs, e _ _ e2, flats_rep s e3⟩
  | dct ks ds =>
    simp only [Rep] at h
    obtain ⟨b, kvs, e1, e2, e3, e4⟩ := h
    cases e1
    exact ⟨kvs, e _ _ e2, e3, flats_rep s e4⟩
  | _ => cases s
theorem thw_get : ∀ {r rb r2 : En}, thw r rb = some r2 → r2.length = r.length ∧ r2.length = rb.length ∧ ∀ (j : Nat) (z : Sl), r2[j]? = some z → ∃ x y, r[j]? = some x ∧ rb[j]? = some y ∧ thw1 x y = some z
  | [], [], r2, h => by cases h; exact ⟨rfl, rfl, fun j z e => by simp at e⟩
  | [], _ :: _, _, h => by cases h
  | _ :: _, [], _, h => by cases h
  | x :: r, y :: rb, r2, h => by
    simp only [thw] at h
    cases c : thw1 x y with
    | none => rw [c] at h; cases h
    | some w =>
      rw [c] at h
      cases c2 : thw r rb with
      | none => rw [c2] at h; cases h
      | some r3 =>
        rw [c2] at h
        cases h
        obtain ⟨l1, l2, g⟩ := thw_get c2
        refine ⟨by simp [l1], by simp [l2], fun j z e => ?_⟩
        cases j with
        | zero => simp at e; subst e; exact ⟨x, y, rfl, rfl, c⟩
        | succ j => simpa using g j z (by simpa using e)
/-- names that were only walked are given back -/
theorem thw_ok {σ : St} {r rb r2 : En} {P' H' : Hp} (rs : RS T P H σ r) (a : Aft T σ P H r P' H' rb) (h : thw r rb = some r2) : Aft T σ P H r P H' r2 := by
  obtain ⟨l1, l2, g⟩ := thw_get h
  have inv : ∀ (j : Nat) (z : Sl), r2[j]? = some z → ∃ x y, r[j]? = some x ∧ rb[j]? = some y ∧ ((x = .no ∧ z = .no) ∨ (∃ d, x = .sh d ∧ z = .sh d) ∨ (∃ d d', x = .ow d ∧ (y = .ow d' ∨ y = .sh d') ∧ shal d' = true ∧ z = .ow d') ∨ (∃ d d', x = .io d ∧ y = .io d' ∧ shal d' = true ∧ z = .io d')) := fun j z e => by
    obtain ⟨x, y, h1, h2, h3⟩ := g j z e
    refine ⟨x, y, h1, h2, ?_⟩
    cases x with
    | no => simp [thw1] at h3; exact .inl ⟨rfl, h3.symm⟩
    | sh d => simp [thw1] at h3; exact .inr (.inl ⟨d, rfl, h3.symm⟩)
    | ow d =>
      cases y with
      | ow d' => simp [thw1] at h3; exact .inr (.inr (.inl ⟨d, d', rfl, .inl rfl, h3.1, h3.2.symm⟩))
      | sh d' => simp [thw1] at h3; exact .inr (.inr (.inl ⟨d, d', rfl, .inr rfl, h3.1, h3.2.symm⟩))
      | _ => simp [thw1] at h3
    | io d =>
      cases y with
      | io d' => simp [thw1] at h3; exact .inr (.inr (.inr ⟨d, d', rfl, rfl, h3.1, h3.2.symm⟩))
      | _ => simp [thw1] at h3
  have ownJ : ∀ j, OwnAt r2 j → OwnAt r j := fun j ⟨d, o⟩ => by
    rcases o with o | o
    · obtain ⟨x, y, h1, _, q⟩ := inv j _ o
      rcases q with ⟨_, q⟩ | ⟨_, _, q⟩ | ⟨d1, d2, rfl, _, _, q⟩ | ⟨d1, d2, rfl, _, _, q⟩
      · cases q
      · cases q
      · exact ⟨d1, .inl h1⟩
      · cases q
    · obtain ⟨x, y, h1, _, q⟩ := inv j _ o
      rcases q with ⟨_, q⟩ | ⟨_, _, q⟩ | ⟨d1, d2, rfl, _, _, q⟩ | ⟨d1, d2, rfl, _, _, q⟩
      · cases q
      · cases q
      · cases q
      · exact ⟨d1, .inr h1⟩
  refine ⟨⟨fun b o e => a.rs.sub _ _ (a.st.pp _ _ e), by rw [l1]; exact rs.len, fun j d e => ?_, fun j d e => ?_, fun i j b o1 o2 => rs.dis i j b (ownJ i o1) (ownJ j o2)⟩, ⟨.refl _, a.st.fr, a.st.dm, fun b e => .inl e⟩, ⟨l1, fun j x z h1 h2 => ?_⟩⟩
  · obtain ⟨x, y, h1, _, q⟩ := inv j _ e
    rcases q with ⟨_, q⟩ | ⟨d', rfl, q⟩ | ⟨_, _, _, _, _, q⟩ | ⟨_, _, _, _, _, q⟩
    · cases q
    · cases q; exact rs.sh j d h1
    · cases q
    · cases q
  · have key : ∃ d1 y, (r[j]? = some (.ow d1) ∨ r[j]? = some (.io d1)) ∧ rb[j]? = some y ∧ (y = .ow d ∨ y = .sh d ∨ y = .io d) ∧ shal d = true := by
      rcases e with e | e
      · obtain ⟨x, y, h1, h2, q⟩ := inv j _ e
        rcases q with ⟨_, q⟩ | ⟨_, _, q⟩ | ⟨d1, d2, rfl, hy, hs, q⟩ | ⟨d1, d2, rfl, _, _, q⟩
        · cases q
        · cases q
        · cases q; exact ⟨d1, y, .inl h1, h2, hy.elim .inl fun w => .inr (.inl w), hs⟩
        · cases q
      · obtain ⟨x, y, h1, h2, q⟩ := inv j _ e
        rcases q with ⟨_, q⟩ | ⟨_, _, q⟩ | ⟨d1, d2, rfl, _, _, q⟩ | ⟨d1, d2, rfl, hy, hs, q⟩
        · cases q
        · cases q
        · cases q
        · cases q; exact ⟨d1, y, .inr h1, h2, .inr (.inr hy), hs⟩
    obtain ⟨d1, y, h1, h2, hy, hs⟩ := key
    obtain ⟨b, e1, e2, _⟩ := rs.own j d1 h1
    refine ⟨b, e1, e2, ?_⟩
    rcases hy with rfl | rfl | rfl
    · obtain ⟨c, q1, _, q3⟩ := a.rs.own j d (.inl h2)
      rw [e1] at q1; cases q1
      exact shal_repO hs q3
    · obtain ⟨u, q1, q2⟩ := a.rs.sh j d h2
      rw [e1] at q1; cases q1
      exact rep_repO hs q2 a.rs.sub
    · obtain ⟨c, q1, _, q3⟩ := a.rs.own j d (.inr h2)
      rw [e1] at q1; cases q1
      exact shal_repO hs q3
  · obtain ⟨x', y, h3, _, q⟩ := inv j _ h2
    rw [h1] at h3; cases h3
    rcases q with ⟨rfl, rfl⟩ | ⟨_, rfl, rfl⟩ | ⟨_, _, rfl, _, _, rfl⟩ | ⟨_, _, rfl, _, _, rfl⟩ <;> trivial
end
end Z
/-! ZC: the judgement, the rules of expressions. -/
namespace Z
open PySem PySem.Spec L2
open PyProof.Rows hiding St
/-- what is wanted of an error: its class, its value, the slots, the heap -/
abbrev WX := Nat → V → St → Hp → Prop
abbrev Rel (A B : Type) := Hp → Hp → Hp → A → B → Prop
def Go {A B : Type} (T : Tb) (W : WX) (rel : Rel A B) (σ : St) (P H : Hp) (r : En) (x : R A) (Q : B → Hp → Prop) : Prop :=
  match x with
  | .ok a r' => ∀ u P' H', Aft T σ P H r P' H' r' → rel H P' H' a u → Q u H'
  | .exc c d r' => ∀ u P' H', Aft T σ P H r P' H' r' → Rep T P' d u → W c u σ H'
  | .bad => False
def Anti {A B : Type} (rel : Rel A B) : Prop := ∀ (H H1 P' H' : Hp) (a : A) (u : B), (∀ b, H1 b = none → H b = none) → rel H1 P' H' a u → rel H P' H' a u
abbrev relV (T : Tb) : Rel Val V := fun H P' H' v u => RV T H P' H' v u
abbrev relS (T : Tb) : Rel D V := fun _ P' _ d u => Rep T P' d u
abbrev relSs (T : Tb) : Rel (List D) (List V) := fun _ P' _ ds us => Reps T P' ds us
def RB (T : Tb) (σ : St) (P : Hp) (x : Nat ⊕ D) (u : V) : Prop :=
  match x with
  | .inl i => σ[i]? = some (some u)
  | .inr d => Rep T P d u
def RBs (T : Tb) (σ : St) (P : Hp) : List (Nat ⊕ D) → List V → Prop
  | [], us => us = []
  | x :: xs, us => ∃ u r, us = u :: r ∧ RB T σ P x u ∧ RBs T σ P xs r
abbrev relB (T : Tb) (σ : St) : Rel (Nat ⊕ D) V := fun _ P' _ x u => RB T σ P' x u
abbrev relBs (T : Tb) (σ : St) : Rel (List (Nat ⊕ D)) (List V) := fun _ P' _ x u => RBs T σ P' x u
abbrev relK : Rel Bool Bool := fun _ _ _ a b => b = a
theorem anti_V (T : Tb) : Anti (relV T) := fun H H1 P' H' v u h q => by
  cases v with
  | sh d => exact q
  | ow d => obtain ⟨a, e, n, ro, f⟩ := q; exact ⟨a, e, n, ro, h a f⟩
theorem anti_S (T : Tb) : Anti (relS T) := fun _ _ _ _ _ _ _ q => q
theorem anti_Ss (T : Tb) : Anti (relSs T) := fun _ _ _ _ _ _ _ q => q
theorem anti_B (T : Tb) (σ : St) : Anti (relB T σ) := fun _ _ _ _ _ _ _ q => q
theorem anti_Bs (T : Tb) (σ : St) : Anti (relBs T σ) := fun _ _ _ _ _ _ _ q => q
theorem anti_K : Anti relK := fun _ _ _ _ _ _ _ q => q
section
variable {A B B' : Type} {T : Tb} {W : WX} {rel : Rel A B} {σ : St} {P H P1 H1 : Hp} {r r1 : En} {x : R A} {Q Q' : B → Hp → Prop}
theorem Go.step (an : Anti rel) (a : Aft T σ P H r P1 H1 r1) (h : Go T W rel σ P H r x Q) : Go T W rel σ P1 H1 r1 x Q := by
  cases x with
  | ok v r' => exact fun u P' H' b q => h u P' H' (a.trans b) (an _ _ _ _ _ _ a.st.dm q)
  | exc c d r' => exact fun u P' H' b q => h u P' H' (a.trans b) q
  | bad => exact h
theorem Go.mono (h : Go T W rel σ P H r x Q) (k : ∀ u H', Q u H' → Q' u H') : Go T W rel σ P H r x Q' := by
  cases x with
  | ok v r' => exact fun u P' H' b q => k _ _ (h u P' H' b q)
  | exc c d r' => exact h
  | bad => exact h
/-- a step of a chain -/
theorem Go.bind {C C' : Type} {rel' : Rel C C'} {Q2 : C' → Hp → Prop} {g : A → En → R C} (an : Anti rel') (h : Go T W rel' σ P H r (x.bind g) Q2) :
    Go T W rel σ P H r x fun u H1 => ∃ P1 r1 v, Aft T σ P H r P1 H1 r1 ∧ rel H P1 H1 v u ∧ x = .ok v r1 ∧ Go T W rel' σ P1 H1 r1 (g v r1) Q2 := by
  cases x with
  | ok v r' => exact fun u P' H' b q => ⟨P', r', v, b, q, rfl, Go.step an b h⟩
  | exc c d r' => exact h
  | bad => exact h
end
section
variable {A B : Type} {T : Tb} {W : WX} {rel : Rel A B} {σ : St} {P H : Hp} {r : En} {Q : B → Hp → Prop}
/-- .. whose value is settled -/
theorem Go.bindS {x : R Val} {g : Val → En → R A} (rs : RS T P H σ r) (an : Anti rel) (h : Go T W rel σ P H r (x.bind g) Q) :
    Go T W (relV T) σ P H r x fun u H1 => ∃ P1 r1 v, Aft T σ P H r P1 H1 r1 ∧ Rep T P1 v.d u ∧ x = .ok v r1 ∧ Go T W rel σ P1 H1 r1 (g v r1) Q := by
  refine (Go.bind an h).mono fun u H1 ⟨P1, r1, v, a, q, e, h1⟩ => ?_
  obtain ⟨P2, a2, ex, rp⟩ := RV.settle rs a q
  refine ⟨P2, r1, v, a2, rp, e, ?_⟩
  cases x with
  | ok v' r' => cases e; exact Go.step an a2 h
  | exc c d r' => cases e
  | bad => cases e
end

/-! ### readings -/
def tE (T : Tb) (W : WX) (f : En → R Val) : TE := fun σ H Q => ∃ P r, RS T P H σ r ∧ Go T W (relV T) σ P H r (f r) Q
def tB (T : Tb) (W : WX) (f : En → R (Nat ⊕ D)) : TE := fun σ H Q => ∃ P r, RS T P H σ r ∧ Go T W (relB T σ) σ P H r (f r) Q
def tS (T : Tb) (W : WX) (f : En → R (List D)) : TA := fun σ H Q => ∃ P r, RS T P H σ r ∧ Go T W (relSs T) σ P H r (f r) Q
def tA (T : Tb) (W : WX) (f : En → R (List (Nat ⊕ D))) : TA := fun σ H Q => ∃ P r, RS T P H σ r ∧ Go T W (relBs T σ) σ P H r (f r) Q
def tK (T : Tb) (W : WX) (f : En → R Bool) : TT := fun σ H Q => ∃ P r, RS T P H σ r ∧ Go T W relK σ P H r (f r) Q
theorem peImp {X : Cx} {e : PySem.Expr} {t t' : TE} (h : PE X e t) (k : ∀ σ H Q, t' σ H Q → t σ H Q) : PE X e t' := ⟨fun pins s σ H Q I q => h.run pins s σ H Q I (k _ _ _ q)⟩
theorem ptImp {X : Cx} {e : PySem.Expr} {t t' : TT} (h : PT X e t) (k : ∀ σ H Q, t' σ H Q → t σ H Q) : PT X e t' := ⟨fun pins s σ H Q I q => h.run pins s σ H Q I (k _ _ _ q)⟩
theorem paImp {X : Cx} {e : List PySem.Expr} {t t' : TA} (h : PA X e t) (k : ∀ σ H Q, t' σ H Q → t σ H Q) : PA X e t' := ⟨fun pos pins s σ H Q I q => h.run pos pins s σ H Q I (k _ _ _ q)⟩

/-! ### what an argument is -/
/-- a thing of P, or an owned one -/
def RA (T : Tb) (P H : Hp) (d : D) (u : V) : Prop := Rep T P d u ∨ ∃ a, u = .ref a ∧ P a = none ∧ RepO T P H a d
def RAs (T : Tb) (P H : Hp) : List D → List V → Prop
  | [], us => us = []
  | x :: xs, us => ∃ u r, us = u :: r ∧ RA T P H x u ∧ RAs T P H xs r
section
variable {T : Tb} {W : WX} {σ : St} {P H P1 H1 : Hp} {r : En}
theorem RS.rd (h : RS T P H σ r) {i : Nat} {d : D} {u : V} (e : r.rd i = some d) (q : σ[i]? = some (some u)) : RA T P H d u := by
  unfold En.rd at e
  cases c : r[i]? with
  | none => rw [c] at e; cases e
  | some x =>
    rw [c] at e
    cases x with
    | no => cases e
    | sh d' =>
      cases e
      obtain ⟨v, e1, e2⟩ := h.sh i d c
      rw [q] at e1; cases e1
      exact .inl e2
    | ow d' =>
      cases e
      obtain ⟨a, e1, n, e2⟩ := h.own i d (.inl c)
      rw [q] at e1; cases e1
      exact .inr ⟨a, rfl, n, e2⟩
    | io d' =>
      cases e
      obtain ⟨a, e1, n, e2⟩ := h.own i d (.inr c)
      rw [q] at e1; cases e1
      exact .inr ⟨a, rfl, n, e2⟩
theorem RB.ext {x : Nat ⊕ D} {u : V} (e : Ext P P1) (h : RB T σ P x u) : RB T σ P1 x u := by
  cases x with
  | inl i => exact h
  | inr d => exact Rep.ext e _ _ h
theorem RBs.ext (e : Ext P P1) : ∀ {xs : List (Nat ⊕ D)} {us : List V}, RBs T σ P xs us → RBs T σ P1 xs us
  | [], _, h => h
  | x :: xs, _, h => by
    obtain ⟨u, t, e1, h1, h2⟩ := h
    exact ⟨u, t, e1, h1.ext e, RBs.ext e h2⟩
/-- borrowed names are read -/
theorem res_ok (rs : RS T P H σ r) : ∀ {xs : List (Nat ⊕ D)} {us : List V} {ds : List D}, RBs T σ P xs us → res r xs = some ds → RAs T P H ds us
  | [], _, _, h, e => by cases e; exact h
  | x :: xs, _, ds, h, e => by
    obtain ⟨u, t, rfl, h1, h2⟩ := h
    cases x with
    | inl i =>
      simp only [res] at e
      cases c : r.rd i with
      | none => rw [c] at e; cases e
      | some d =>
        rw [c] at e
        cases c2 : res r xs with
        | none => rw [c2] at e; cases e
        | some ds' =>
          rw [c2] at e; cases e
          exact ⟨u, t, rfl, rs.rd c h1, res_ok rs h2 c2⟩
    | inr d =>
      simp only [res] at e
      cases c2 : res r xs with
      | none => rw [c2] at e; cases e
      | some ds' =>
        rw [c2] at e; cases e
        exact ⟨u, t, rfl, .inl h1, res_ok rs h2 c2⟩
theorem RA.lst (rs : RS T P H σ r) {l : List D} {u : V} (h : RA T P H (.lst l) u) : ∃ a xs, u = .ref a ∧ H a = some (.lst xs) ∧ Reps T P l xs := by
  rcases h with h | ⟨a, e, n, h⟩
  · simp only [Rep] at h
    obtain ⟨a, xs, e, h1, h2⟩ := h
    exact ⟨a, xs, e, rs.sub _ _ h1, h2⟩
  · obtain ⟨xs, h1, h2⟩ := h
    exact ⟨a, xs, e, h1, h2⟩
theorem RA.tup (rs : RS T P H σ r) {l : List D} {u : V} (h : RA T P H (.tup l) u) : ∃ a xs, u = .ref a ∧ H a = some (.tup xs) ∧ Reps T P l xs := by
  rcases h with h | ⟨a, e, n, h⟩
  · simp only [Rep] at h
    obtain ⟨a, xs, e, h1, h2⟩ := h
    exact ⟨a, xs, e, rs.sub _ _ h1, h2⟩
  · exact False.elim h
theorem RA.int {i : Int} {u : V} (h : RA T P H (.int i) u) : u = .int i := by
  rcases h with h | ⟨a, e, n, h⟩
  · simpa only [Rep] using h
  · exact False.elim h
theorem RA.str {i : Str} {u : V} (h : RA T P H (.str i) u) : u = .str i := by
  rcases h with h | ⟨a, e, n, h⟩
  · simpa only [Rep] using h
  · exact False.elim h
theorem RA.bl {i : Bool} {u : V} (h : RA T P H (.bl i) u) : u = .bl i := by
  rcases h with h | ⟨a, e, n, h⟩
  · simpa only [Rep] using h
  · exact False.elim h
theorem RA.non {u : V} (h : RA T P H .non u) : u = .non := by
  rcases h with h | ⟨a, e, n, h⟩
  · simpa only [Rep] using h
  · exact False.elim h
theorem RA.scr (rs : RS T P H σ r) {l : List Int} {u : V} (h : RA T P H (.scr l) u) : ∃ a, u = .ref a ∧ SqL T.K H a (l.map V.int) := by
  rcases h with h | ⟨a, e, n, h⟩
  · simp only [Rep] at h
    obtain ⟨a, e, h1⟩ := h
    exact ⟨a, e, sqL_ext rs.sub h1⟩
  · exact False.elim h
/-- an argument as a thing of the whole heap -/
theorem RA.rep (rs : RS T P H σ r) {d : D} {u : V} (h : RA T P H d u) : Rep T H d u := by
  rcases h with h | ⟨a, e, n, h⟩
  · exact Rep.ext rs.sub _ _ h
  · subst e; exact h.rep rs.sub rfl
end
end Z
/-! ZD: operators, comparisons, truth by data. -/
namespace Z
open PySem PySem.Spec L2
open PyProof.Rows hiding St
theorem LINE_eq : LINE = sizeLine := by rw [sizeLine_eq]; rfl
theorem bits_le (i : Int) : Builtin.Int.intBits i ≤ bits i := by
  unfold Builtin.Int.intBits bits
  split <;> omega
section
variable {X : Cx} {T : Tb} {W : WX}
theorem op_ints (op : Operator) : OpR X (binaryOp op) (fun x y H Q => ∃ i j k, x = .int i ∧ y = .int j ∧ binI op i j = some k ∧ Q (.int k) H) := by
  intro pins s σ H x y v u Q I rx ry h
  obtain ⟨i, j, k, rfl, rfl, e, q⟩ := h
  have bl : bitsLine = 134217728 := by decide
  cases op with
  | Add => simp only [binI, Option.some.injEq] at e; subst e; exact op_add pins s σ H _ _ v u Q I rx ry ⟨i, j, rfl, rfl, q⟩
  | Sub => simp only [binI, Option.some.injEq] at e; subst e; exact op_sub pins s σ H _ _ v u Q I rx ry ⟨i, j, rfl, rfl, q⟩
  | Mult =>
    simp only [binI] at e
    split at e
    · rename_i h
      cases e
      exact op_mulW pins s σ H _ _ v u Q I rx ry ⟨i, j, rfl, rfl, by unfold CMulW; unfold bits at h; omega, q⟩
    · cases e
  | FloorDiv =>
    simp only [binI] at e
    split at e
    · rename_i h
      cases e
      exact op_fdivW pins s σ H _ _ v u Q I rx ry ⟨i, j, rfl, rfl, ⟨h.1, by have := h.2; unfold bits at this; omega⟩, q⟩
    · cases e
  | Mod =>
    simp only [binI] at e
    split at e
    · rename_i h
      cases e
      exact op_mod pins s σ H _ _ v u Q I rx ry ⟨i, j, rfl, rfl, h, q⟩
    · cases e
  | Pow =>
    simp only [binI] at e
    split at e
    · rename_i h
      cases e
      obtain ⟨t, rfl⟩ := rx
      obtain ⟨t', rfl⟩ := ry
      refine PyProof.Rows.pow_int h.1 ?_ ⟨.int _, H, I.tok _, ⟨_, rfl⟩, q⟩
      have h1 := Nat.le_trans (Nat.mul_le_mul_right j.toNat (bits_le i)) h.2
      have h2 : ((Builtin.Int.intBits i * j.toNat : Nat) : Int) ≤ ((1000000 : Nat) : Int) := Int.ofNat_le.mpr h1
      have h3 : ((j.toNat : Nat) : Int) = j := Int.toNat_of_nonneg h.1
      rw [Int.natCast_mul, h3] at h2
      exact Int.le_trans h2 (by decide)
    · cases e
  | LShift =>
    simp only [binI] at e
    split at e
    · rename_i h
      cases e
      obtain ⟨t, rfl⟩ := rx
      obtain ⟨t', rfl⟩ := ry
      refine PyProof.Rows.lshift_int h.1 ?_ ⟨.int _, H, I.tok _, ⟨_, rfl⟩, q⟩
      have h1 := bits_le i
      have h2 := h.2
      have h3 : ((j.toNat : Nat) : Int) = j := Int.toNat_of_nonneg h.1
      have h4 : ((Builtin.Int.intBits i : Nat) : Int) + j ≤ 1000000 := by omega
      exact Int.le_trans h4 (by decide)
    · cases e
  | RShift =>
    simp only [binI] at e
    split at e
    · rename_i h
      cases e
      exact op_shr pins s σ H _ _ v u Q I rx ry ⟨i, j, rfl, rfl, h, q⟩
    · cases e
  | BitAnd => simp only [binI, Option.some.injEq] at e; subst e; exact op_and pins s σ H _ _ v u Q I rx ry ⟨i, j, rfl, rfl, q⟩
  | BitOr => simp only [binI, Option.some.injEq] at e; subst e; exact op_or pins s σ H _ _ v u Q I rx ry ⟨i, j, rfl, rfl, q⟩
  | BitXor => simp only [binI, Option.some.injEq] at e; subst e; exact op_xor pins s σ H _ _ v u Q I rx ry ⟨i, j, rfl, rfl, q⟩
  | _ => simp [binI] at e

/-- an operation of two arguments, by data -/
def rD2 (T : Tb) (W : WX) (g : D → D → Option Val) : R2 := fun x y H Q => ∃ a b v σ P r, RS T P H σ r ∧ RA T P H a x ∧ RA T P H b y ∧ g a b = some v ∧ Go T W (relV T) σ P H r (.ok v r) Q
def rD1 (T : Tb) (W : WX) (g : D → Option Val) : V → Hp → VK → Prop := fun x H Q => ∃ a v σ P r, RS T P H σ r ∧ RA T P H a x ∧ g a = some v ∧ Go T W (relV T) σ P H r (.ok v r) Q
def rDn (T : Tb) (W : WX) (g : List D → Option Val) : List V → Hp → VK → Prop := fun xs H Q => ∃ as v σ P r, RS T P H σ r ∧ RAs T P H as xs ∧ g as = some v ∧ Go T W (relV T) σ P H r (.ok v r) Q
section
variable {σ : St} {P H : Hp} {r : En} {Q : VK}
theorem Go.here {d : D} {u : V} (rs : RS T P H σ r) (h : Go T W (relV T) σ P H r (.ok (.sh d) r) Q) (q : Rep T P d u) : Q u H := h u P H (.refl rs) q
theorem Go.newL {ds : List D} {xs : List V} {p : Addr} (rs : RS T P H σ r) (h : Go T W (relV T) σ P H r (.ok (.ow (.lst ds)) r) Q) (n : H p = none) (q : Reps T P ds xs) : Q (.ref p) (upd H p (.lst xs)) :=
  h _ P _ (Aft.laidO rs n) ⟨p, rfl, rs.sub.free n, ⟨xs, upd_same, q⟩, n⟩
theorem Go.newT {ds : List D} {xs : List V} {p : Addr} (rs : RS T P H σ r) (h : Go T W (relV T) σ P H r (.ok (.sh (.tup ds)) r) Q) (n : H p = none) (q : Reps T P ds xs) : Q (.ref p) (upd H p (.tup xs)) := by
  refine h _ (upd P p (.tup xs)) _ (Aft.laid rs n) ?_
  show Rep T _ (.tup ds) _
  simp only [Rep]
  exact ⟨p, xs, rfl, upd_same, Reps.ext (upd_ext (rs.sub.free n)) _ _ q⟩
end
theorem op_binD (hK : X.K = T.K) (op : Operator) : OpR X (binaryOp op) (rD2 T W (binD op)) := by
  intro pins s σ0 H x y v u Q I rx ry h
  obtain ⟨a, b, w, σ, P, r, rs, ha, hb, e, q⟩ := h
  cases a with
  | int i =>
    cases b with
    | int j =>
      simp only [binD] at e
      cases e2 : binI op i j with
      | none => rw [e2] at e; cases e
      | some k =>
        rw [e2] at e; cases e
        exact op_ints op pins s σ0 H x y v u Q I rx ry ⟨i, j, k, ha.int, hb.int, e2, q.here rs (by simp only [Rep])⟩
    | _ => simp [binD] at e
  | str i =>
    cases b with
    | str j =>
      cases op with
      | Add =>
        simp only [binD] at e
        split at e
        · rename_i hl
          cases e
          exact op_add_str pins s σ0 H x y v u Q I rx ry ⟨i, j, ha.str, hb.str, by rw [← LINE_eq]; exact hl, q.here rs (by simp only [Rep])⟩
        · cases e
      | _ => simp [binD] at e
    | _ => simp [binD] at e
  | lst l =>
    cases b with
    | lst m =>
      cases op with
      | Add =>
        simp only [binD] at e
        split at e
        · rename_i hl
          cases e
          obtain ⟨p1, xs, e1, h1, q1⟩ := ha.lst rs
          obtain ⟨p2, ys, e2, h2, q2⟩ := hb.lst rs
          exact op_cat pins s σ0 H x y v u Q I rx ry ⟨p1, p2, xs, ys, e1, e2, h1, h2, by rw [← LINE_eq, q1.length, q2.length]; exact hl, fun p n => q.newL rs n (q1.append q2)⟩
        · cases e
      | _ => simp [binD] at e
    | int n =>
      cases op with
      | Mult =>
        simp only [binD] at e
        split at e
        · rename_i hl
          cases e
          obtain ⟨p1, xs, e1, h1, q1⟩ := ha.lst rs
          exact op_rep pins s σ0 H x y v u Q I rx ry ⟨p1, n, xs, e1, hb.int, h1, by have := hl.1; have L : (LINE : Nat) = 16777216 := rfl; omega, by have := hl.1; have L : (LINE : Nat) = 16777216 := rfl; omega, by rw [← LINE_eq, q1.length]; exact hl.2, fun p n' => q.newL rs n' (q1.rep _)⟩
        · cases e
      | _ => simp [binD] at e
    | _ => simp [binD] at e
  | _ => simp [binD] at e

/-! ### comparisons -/
mutual
theorem dp_of {K : PySem.W.Frag} {H : Hp} (hT : T.K = K) : ∀ (d : D) (u : V), lay d = true → Rep T H d u → Dp K H u (pyT d)
  | .non, u, _, h => by simp only [Rep] at h; subst h; simp only [pyT]; exact .non
  | .bl b, u, _, h => by simp only [Rep] at h; subst h; simp only [pyT]; exact .bl b
  | .int i, u, _, h => by simp only [Rep] at h; subst h; simp only [pyT]; exact .int i
  | .str s, u, _, h => by simp only [Rep] at h; subst h; simp only [pyT]; exact .str s
  | .lst l, u, hl, h => by
    simp only [Rep] at h
    obtain ⟨a, xs, rfl, h1, h2⟩ := h
    simp only [pyT]
    simp only [lay] at hl
    exact .lst (.inl (.inl h1)) (dps_of hT l xs hl h2)
  | .tup l, u, hl, h => by
    simp only [Rep] at h
    obtain ⟨a, xs, rfl, h1, h2⟩ := h
    simp only [pyT]
    simp only [lay] at hl
    exact .tup (.inl (.inl h1)) (dps_of hT l xs hl h2)
  | .dct _ _, _, hl, _ => by simp [lay] at hl
  | .fn _, _, hl, _ => by simp [lay] at hl
  | .exn _ _, _, hl, _ => by simp [lay] at hl
  | .scr _, _, hl, _ => by simp [lay] at hl
theorem dps_of {K : PySem.W.Frag} {H : Hp} (hT : T.K = K) : ∀ (ds : List D) (us : List V), lays ds = true → Reps T H ds us → DpAll K H us (pyTs ds)
  | [], us, _, h => by rw [h.of_nil]; simp only [pyTs]; exact .nil
  | d :: ds, us, hl, h => by
    obtain ⟨v, t, rfl, h1, h2⟩ := h.of_cons
    simp only [lays, Bool.and_eq_true] at hl
    simp only [pyTs]
    exact .cons (dp_of hT d v hl.1 h1) (dps_of hT ds t hl.2 h2)
end
mutual
theorem canLay_pyT : ∀ d : D, lay d = true → (pyT d).canLay0 = true
  | .non, _ => by simp [pyT, PyData.canLay0]
  | .bl b, _ => by simp [pyT, PyData.canLay0]
  | .int i, _ => by simp [pyT, PyData.canLay0]
  | .str s, h => by simpa [pyT, PyData.canLay0, lay] using h
  | .lst l, h => by simp only [pyT, PyData.canLay0]; exact canLays_pyT l (by simpa only [lay] using h)
  | .tup l, h => by simp only [pyT, PyData.canLay0]; exact canLays_pyT l (by simpa only [lay] using h)
  | .dct _ _, hl => by simp [lay] at hl
  | .fn _, hl => by simp [lay] at hl
  | .exn _ _, hl => by simp [lay] at hl
  | .scr _, hl => by simp [lay] at hl
theorem canLays_pyT : ∀ ds : List D, lays ds = true → PyData.canLayAll0 (pyTs ds) = true
  | [], _ => by simp [pyTs, PyData.canLayAll0]
  | d :: ds, h => by
    simp only [lays, Bool.and_eq_true] at h
    simp only [pyTs, PyData.canLayAll0, Bool.and_eq_true]
    exact ⟨canLay_pyT d h.1, canLays_pyT ds h.2⟩
end
mutual
theorem depth_pyT : ∀ d : D, (pyT d).depth = dep d
  | .non => by simp [pyT, PyData.depth, dep]
  | .bl b => by simp [pyT, PyData.depth, dep]
  | .int i => by simp [pyT, PyData.depth, dep]
  | .str s => by simp [pyT, PyData.depth, dep]
  | .lst l => by simp only [pyT, PyData.depth, dep]; rw [depths_pyT l]
  | .tup l => by simp only [pyT, PyData.depth, dep]; rw [depths_pyT l]
  | .dct _ _ => by simp [pyT, PyData.depth, dep]
  | .fn _ => by simp [pyT, PyData.depth, dep]
  | .exn _ _ => by simp [pyT, PyData.depth, dep]
  | .scr _ => by simp [pyT, PyData.depth, dep]
theorem depths_pyT : ∀ ds : List D, PyData.depthAll (pyTs ds) = deps ds
  | [] => by simp [pyTs, PyData.depthAll, deps]
  | d :: ds => by simp only [pyTs, PyData.depthAll, deps]; rw [depth_pyT d, depths_pyT ds]
end
theorem shaped_pyT {d : D} (h : okq d = true) : SeqAt.shaped (pyT d) = true := by
  unfold okq at h
  simp only [Bool.and_eq_true, decide_eq_true_eq] at h
  unfold SeqAt.shaped
  rw [canLay_pyT d h.1, depth_pyT d, decide_eq_true h.2]; rfl
mutual
theorem eqv_pyT : ∀ d e : D, lay d = true → lay e = true → PyData.eqv (pyT d) (pyT e) = eqv d e
  | .lst xs, e, h1, h2 => by
    simp only [lay] at h1
    cases e with
    | lst ys => simp only [lay] at h2; simp only [pyT, PyData.eqv, eqv]; exact eqvs_pyT xs ys h1 h2
    | dct _ _ => simp [lay] at h2
    | fn _ => simp [lay] at h2
    | exn _ _ => simp [lay] at h2
    | scr _ => simp [lay] at h2
    | _ => simp [pyT, PyData.eqv, eqv]
  | .tup xs, e, h1, h2 => by
    simp only [lay] at h1
    cases e with
    | tup ys => simp only [lay] at h2; simp only [pyT, PyData.eqv, eqv]; exact eqvs_pyT xs ys h1 h2
    | dct _ _ => simp [lay] at h2
    | fn _ => simp [lay] at h2
    | exn _ _ => simp [lay] at h2
    | scr _ => simp [lay] at h2
    | _ => simp [pyT, PyData.eqv, eqv]
  | .non, e, _, h2 => by cases e <;> first | (simp [lay] at h2; done) | simp [pyT, PyData.eqv, eqv]
  | .bl b, e, _, h2 => by cases e <;> first | (simp [lay] at h2; done) | simp [pyT, PyData.eqv, eqv]
  | .int b, e, _, h2 => by cases e <;> first | (simp [lay] at h2; done) | simp [pyT, PyData.eqv, eqv]
  | .str b, e, _, h2 => by
    cases e with
    | str c => simp [pyT, PyData.eqv, eqv]
    | _ => first | (simp [lay] at h2; done) | simp [pyT, PyData.eqv, eqv]
  | .dct _ _, _, h1, _ => by simp [lay] at h1
  | .fn _, _, h1, _ => by simp [lay] at h1
  | .exn _ _, _, h1, _ => by simp [lay] at h1
  | .scr _, _, h1, _ => by simp [lay] at h1
theorem eqvs_pyT : ∀ ds es : List D, lays ds = true → lays es = true → PyData.eqvAll (pyTs ds) (pyTs es) = eqvs ds es
  | [], [], _, _ => by simp [pyTs, PyData.eqvAll, eqvs]
  | [], _ :: _, _, _ => by simp [pyTs, PyData.eqvAll, eqvs]
  | _ :: _, [], _, _ => by simp [pyTs, PyData.eqvAll, eqvs]
  | d :: ds, e :: es, h1, h2 => by
    simp only [lays, Bool.and_eq_true] at h1 h2
    simp only [pyTs, PyData.eqvAll, eqvs]
    rw [eqv_pyT d e h1.1 h2.1, eqvs_pyT ds es h1.2 h2.2]
end
theorem rep_flatV {H : Hp} {d : D} {u : V} (f : flat d = true) (h : Rep T H d u) : flatV u = true := by
  cases d <;> simp [flat] at f <;> (simp only [Rep] at h; subst h; rfl)
theorem rep_eqV {H : Hp} {d e : D} {u v : V} (f : flat d = true) (g : flat e = true) (h : Rep T H d u) (h' : Rep T H e v) : eqV u v = eqv d e := by
  cases d <;> simp [flat] at f <;> cases e <;> simp [flat] at g <;> (simp only [Rep] at h h'; subst h; subst h'; simp [eqV, eqv])
end
end Z
/-! ZE: comparisons, truth, subscripts, built-in functions and methods, by data. -/
namespace Z
open PySem PySem.Spec L2
open PyProof.Rows hiding St
section
variable {X : Cx} {T : Tb} {W : WX}
theorem all_flatV {H : Hp} : ∀ {ds : List D} {us : List V}, Reps T H ds us → ds.all flat = true → us.all flatV = true
  | [], _, h, _ => by rw [h.of_nil]; rfl
  | d :: ds, _, h, f => by
    obtain ⟨v, t, rfl, h1, h2⟩ := h.of_cons
    simp only [List.all_cons, Bool.and_eq_true] at f ⊢
    exact ⟨rep_flatV f.1 h1, all_flatV h2 f.2⟩
theorem any_eqV {H : Hp} {d : D} {u : V} (fd : flat d = true) (hd : Rep T H d u) : ∀ {ds : List D} {us : List V}, Reps T H ds us → ds.all flat = true → (us.any fun y => eqV y u) = ds.any fun y => eqv y d
  | [], _, h, _ => by rw [h.of_nil]; rfl
  | e :: ds, _, h, f => by
    obtain ⟨v, t, rfl, h1, h2⟩ := h.of_cons
    simp only [List.all_cons, Bool.and_eq_true] at f
    simp only [List.any_cons]
    rw [rep_eqV f.1 fd h1 hd, any_eqV fd hd h2 f.2]
theorem flat_RA {P P' H : Hp} {d : D} {u : V} (f : flat d = true) (h : RA T P H d u) : Rep T P' d u := by
  rcases h with h | ⟨a, e, n, h⟩
  · cases d <;> simp [flat] at f <;> (simp only [Rep] at h ⊢; exact h)
  · cases d <;> simp [flat] at f <;> exact False.elim h
theorem op_cmpD (hK : X.K = T.K) (hu : X.A.units + 64 < cLine) (op : CmpOp) : OpR X (compareOp op) (rD2 T W (fun a b => boolV (cmpD op a b))) := by
  intro pins s σ0 H x y v u Q I rx ry h
  obtain ⟨a, b, w, σ, P, r, rs, ha, hb, e, q⟩ := h
  unfold boolV at e
  dsimp only at e
  cases e2 : cmpD op a b with
  | none => rw [e2] at e; cases e
  | some k =>
    rw [e2] at e
    cases e
    have fin : Q (.bl k) H := q.here rs (by simp only [Rep])
    have ord : ∀ (hop : ∀ a b, cmpD op a b = match a, b with | .int i, .int j => ordI op i j | _, _ => none), ∃ i j, x = .int i ∧ y = .int j ∧ ordI op i j = some k := fun hop => by
      rw [hop] at e2
      cases a with
      | int i =>
        cases b with
        | int j => exact ⟨i, j, ha.int, hb.int, e2⟩
        | _ => cases e2
      | _ => cases e2
    cases op with
    | Eq =>
      simp only [cmpD] at e2
      split at e2
      · rename_i hq
        rw [Bool.and_eq_true] at hq
        cases e2
        have l1 : lay a = true := by have := hq.1; unfold okq at this; rw [Bool.and_eq_true] at this; exact this.1
        have l2 : lay b = true := by have := hq.2; unfold okq at this; rw [Bool.and_eq_true] at this; exact this.1
        refine op_eqD hu pins s σ0 H x y v u Q I rx ry ⟨pyT a, pyT b, dp_of hK.symm a x l1 (ha.rep rs), dp_of hK.symm b y l2 (hb.rep rs), shaped_pyT hq.1, shaped_pyT hq.2, ?_⟩
        rw [eqv_pyT a b l1 l2]
        exact fin
      · cases e2
    | NotEq =>
      simp only [cmpD] at e2
      split at e2
      · rename_i hq
        rw [Bool.and_eq_true] at hq
        cases e2
        have l1 : lay a = true := by have := hq.1; unfold okq at this; rw [Bool.and_eq_true] at this; exact this.1
        have l2 : lay b = true := by have := hq.2; unfold okq at this; rw [Bool.and_eq_true] at this; exact this.1
        refine op_neD hu pins s σ0 H x y v u Q I rx ry ⟨pyT a, pyT b, dp_of hK.symm a x l1 (ha.rep rs), dp_of hK.symm b y l2 (hb.rep rs), shaped_pyT hq.1, shaped_pyT hq.2, ?_⟩
        rw [eqv_pyT a b l1 l2]
        exact fin
      · cases e2
    | Lt =>
      obtain ⟨i, j, rfl, rfl, z⟩ := ord fun _ _ => rfl
      cases z
      exact op_lt pins s σ0 H _ _ v u Q I rx ry ⟨i, j, rfl, rfl, fin⟩
    | LtE =>
      obtain ⟨i, j, rfl, rfl, z⟩ := ord fun _ _ => rfl
      cases z
      exact op_le pins s σ0 H _ _ v u Q I rx ry ⟨i, j, rfl, rfl, fin⟩
    | Gt =>
      obtain ⟨i, j, rfl, rfl, z⟩ := ord fun _ _ => rfl
      cases z
      exact op_gt pins s σ0 H _ _ v u Q I rx ry ⟨i, j, rfl, rfl, fin⟩
    | GtE =>
      obtain ⟨i, j, rfl, rfl, z⟩ := ord fun _ _ => rfl
      cases z
      exact op_ge pins s σ0 H _ _ v u Q I rx ry ⟨i, j, rfl, rfl, fin⟩
    | Is =>
      simp only [cmpD] at e2
      cases b with
      | non =>
        simp only [isD] at e2
        refine op_isN pins s σ0 H x y v u Q I rx ry ⟨hb.non, ?_⟩
        have : decide (x = V.non) = k := by
          cases e2
          cases a with
          | non => rw [ha.non]; rfl
          | bl _ => rw [ha.bl]; rfl
          | int _ => rw [ha.int]; rfl
          | str _ => rw [ha.str]; rfl
          | lst _ => obtain ⟨p, xs, e, _⟩ := ha.lst rs; rw [e]; rfl
          | tup _ => obtain ⟨p, xs, e, _⟩ := ha.tup rs; rw [e]; rfl
          | dct _ _ =>
            have z := ha.rep rs
            simp only [Rep] at z
            obtain ⟨p, xs, e, _⟩ := z; rw [e]; rfl
          | fn _ =>
            have z := ha.rep rs
            simp only [Rep] at z
            rw [z]; rfl
          | exn _ _ =>
            have z := ha.rep rs
            simp only [Rep] at z
          | scr _ => obtain ⟨p, e, _⟩ := ha.scr rs; rw [e]; rfl
        rw [this]
        exact fin
      | bl c =>
        simp only [isD] at e2
        cases a with
        | bl d =>
          cases e2
          refine op_isBl pins s σ0 H x y v u Q I rx ry ⟨d, c, ha.bl, hb.bl, ?_⟩
          have z : decide (d = c) = (d == c) := (Bool.beq_eq_decide_eq d c).symm
          rw [z]
          exact fin
        | _ => cases e2
      | _ => simp [isD] at e2
    | IsNot =>
      simp only [cmpD] at e2
      cases b with
      | non =>
        simp only [isD] at e2
        refine op_notN pins s σ0 H x y v u Q I rx ry ⟨hb.non, ?_⟩
        have : (!decide (x = V.non)) = k := by
          cases e2
          cases a with
          | non => rw [ha.non]; rfl
          | bl _ => rw [ha.bl]; rfl
          | int _ => rw [ha.int]; rfl
          | str _ => rw [ha.str]; rfl
          | lst _ => obtain ⟨p, xs, e, _⟩ := ha.lst rs; rw [e]; rfl
          | tup _ => obtain ⟨p, xs, e, _⟩ := ha.tup rs; rw [e]; rfl
          | dct _ _ =>
            have z := ha.rep rs
            simp only [Rep] at z
            obtain ⟨p, xs, e, _⟩ := z; rw [e]; rfl
          | fn _ =>
            have z := ha.rep rs
            simp only [Rep] at z
            rw [z]; rfl
          | exn _ _ =>
            have z := ha.rep rs
            simp only [Rep] at z
          | scr _ => obtain ⟨p, e, _⟩ := ha.scr rs; rw [e]; rfl
        rw [this]
        exact fin
      | bl c =>
        simp only [isD] at e2
        cases a with
        | bl d =>
          cases e2
          refine op_notBl pins s σ0 H x y v u Q I rx ry ⟨d, c, ha.bl, hb.bl, ?_⟩
          have z : decide (d = c) = (d == c) := (Bool.beq_eq_decide_eq d c).symm
          rw [z]
          exact fin
        | _ => cases e2
      | _ => simp [isD] at e2
    | In =>
      simp only [cmpD] at e2
      cases b with
      | lst l =>
        simp only [inD] at e2
        split at e2
        · rename_i hf
          rw [Bool.and_eq_true] at hf
          cases e2
          obtain ⟨p, xs, e, h1, h2⟩ := hb.lst rs
          have hx : Rep T P a x := flat_RA hf.1 ha
          refine op_in_seq pins s σ0 H x y v u Q I rx ry ⟨p, xs, e, .inl (.inl (.inl h1)), rep_flatV hf.1 hx, all_flatV h2 hf.2, ?_⟩
          have z : inV x xs = l.any fun x => eqv x a := any_eqV hf.1 hx h2 hf.2
          simp only [Bool.false_eq_true, if_false]
          rw [z]
          exact fin
        · cases e2
      | tup l =>
        simp only [inD] at e2
        split at e2
        · rename_i hf
          rw [Bool.and_eq_true] at hf
          cases e2
          obtain ⟨p, xs, e, h1, h2⟩ := hb.tup rs
          have hx : Rep T P a x := flat_RA hf.1 ha
          refine op_in_seq pins s σ0 H x y v u Q I rx ry ⟨p, xs, e, .inr (.inl (.inl h1)), rep_flatV hf.1 hx, all_flatV h2 hf.2, ?_⟩
          have z : inV x xs = l.any fun x => eqv x a := any_eqV hf.1 hx h2 hf.2
          simp only [Bool.false_eq_true, if_false]
          rw [z]
          exact fin
        · cases e2
      | _ => simp [inD] at e2
    | NotIn =>
      simp only [cmpD] at e2
      cases b with
      | lst l =>
        simp only [inD] at e2
        split at e2
        · rename_i hf
          rw [Bool.and_eq_true] at hf
          cases e2
          obtain ⟨p, xs, e, h1, h2⟩ := hb.lst rs
          have hx : Rep T P a x := flat_RA hf.1 ha
          refine op_notIn_seq pins s σ0 H x y v u Q I rx ry ⟨p, xs, e, .inl (.inl (.inl h1)), rep_flatV hf.1 hx, all_flatV h2 hf.2, ?_⟩
          have z : inV x xs = l.any fun x => eqv x a := any_eqV hf.1 hx h2 hf.2
          simp only [if_true]
          rw [z]
          exact fin
        · cases e2
      | tup l =>
        simp only [inD] at e2
        split at e2
        · rename_i hf
          rw [Bool.and_eq_true] at hf
          cases e2
          obtain ⟨p, xs, e, h1, h2⟩ := hb.tup rs
          have hx : Rep T P a x := flat_RA hf.1 ha
          refine op_notIn_seq pins s σ0 H x y v u Q I rx ry ⟨p, xs, e, .inr (.inl (.inl h1)), rep_flatV hf.1 hx, all_flatV h2 hf.2, ?_⟩
          have z : inV x xs = l.any fun x => eqv x a := any_eqV hf.1 hx h2 hf.2
          simp only [if_true]
          rw [z]
          exact fin
        · cases e2
      | _ => simp [inD] at e2

/-! ### truth -/
theorem reps_isEmpty {H : Hp} {ds : List D} {us : List V} (h : Reps T H ds us) : us.isEmpty = ds.isEmpty := by
  have e := h.length
  cases ds with
  | nil => rw [h.of_nil]; rfl
  | cons d ds =>
    cases us with
    | nil => simp at e
    | cons _ _ => rfl
theorem truV_of {σ : St} {P H : Hp} {r : En} (hK : X.K = T.K) (rs : RS T P H σ r) {d : D} {u : V} {k : Bool} (h : RA T P H d u) (e : tru d = some k) : TruV X.K u H k := by
  cases d with
  | non => rw [h.non]; cases e; exact rfl
  | bl b => rw [h.bl]; cases e; exact rfl
  | int i => rw [h.int]; cases e; exact rfl
  | str s =>
    rw [h.str]
    simp only [tru] at e
    split at e
    · rename_i hl
      cases e
      refine ⟨by rw [← LINE_eq]; exact hl, ?_⟩
      show (s.length != 0) = ((s.length : Int) != 0)
      by_cases z : s.length = 0
      · rw [z]; rfl
      · have z1 : (s.length != 0) = true := by simpa using z
        have z2 : ((s.length : Int) != 0) = true := by simp; omega
        rw [z1, z2]
    · cases e
  | lst l =>
    obtain ⟨p, xs, e1, h1, h2⟩ := h.lst rs
    rw [e1]
    cases e
    exact .inl ⟨xs, .inl (.inl h1), by rw [reps_isEmpty h2]⟩
  | tup l =>
    obtain ⟨p, xs, e1, h1, h2⟩ := h.tup rs
    rw [e1]
    cases e
    exact .inr (.inl ⟨xs, .inl (.inl h1), by rw [reps_isEmpty h2]⟩)
  | dct ks vs =>
    have z := h.rep rs
    simp only [Rep] at z
    obtain ⟨p, kvs, e1, h1, h2, h3⟩ := z
    rw [e1]
    cases e
    refine .inr (.inr ⟨kvs, h1, ?_⟩)
    rw [← h2]
    cases kvs <;> rfl
  | fn _ => cases e
  | exn _ _ => cases e
  | scr _ => cases e
end
end Z
/-! ZF: subscripts, slices, built-in functions and methods, by data. -/
namespace Z
open PySem PySem.Spec L2
open PyProof.Rows hiding St
section
variable {X : Cx} {T : Tb} {W : WX}
theorem ixN_eq : Z.ixN = L2.ixN := rfl
theorem atL_rep {H : Hp} {ds : List D} {us : List V} {k : Int} {d : D} (h : Reps T H ds us) (e : atL ds k = some d) : ∃ u, atI us k = some u ∧ Rep T H d u := by
  unfold atL at e
  unfold atI
  rw [h.length, ← ixN_eq]
  cases c : Z.ixN ds.length k with
  | none => rw [c] at e; cases e
  | some j =>
    rw [c] at e
    obtain ⟨u, e1, q⟩ := h.get (show ds[j]? = some d from e)
    exact ⟨u, e1, q⟩
theorem ix_D (hK : X.K = T.K) : IxR X (rD2 T W (fun u v => (idxD u v).map .sh)) := by
  intro value slice pins s σ0 H x y v u Q I rx ry h hs
  obtain ⟨a, b, w, σ, P, r, rs, ha, hb, e, q⟩ := h
  dsimp only at e
  cases b with
  | int k =>
    cases a with
    | lst l =>
      simp only [idxD] at e
      cases c : atL l k with
      | none => rw [c] at e; cases e
      | some d =>
        rw [c] at e; cases e
        obtain ⟨p, xs, e1, h1, h2⟩ := ha.lst rs
        obtain ⟨z, e2, q2⟩ := atL_rep h2 c
        exact ix_list value slice pins s σ0 H x y v u Q I rx ry ⟨p, xs, k, z, e1, hb.int, .inl (.inl h1), e2, q.here rs q2⟩ hs
    | tup l =>
      simp only [idxD] at e
      cases c : atL l k with
      | none => rw [c] at e; cases e
      | some d =>
        rw [c] at e; cases e
        obtain ⟨p, xs, e1, h1, h2⟩ := ha.tup rs
        obtain ⟨z, e2, q2⟩ := atL_rep h2 c
        exact ix_tup value slice pins s σ0 H x y v u Q I rx ry ⟨p, xs, k, z, e1, hb.int, .inl (.inl h1), e2, q.here rs q2⟩ hs
    | scr l =>
      simp only [idxD] at e
      cases c : (Z.ixN l.length k).bind fun j => l[j]? with
      | none => rw [c] at e; cases e
      | some i =>
        rw [c] at e; cases e
        obtain ⟨p, e1, h1⟩ := ha.scr rs
        refine ix_list value slice pins s σ0 H x y v u Q I rx ry ⟨p, _, k, .int i, e1, hb.int, by rw [hK]; exact h1, ?_, q.here rs (by simp only [Rep])⟩ hs
        unfold atI
        rw [List.length_map, ← ixN_eq]
        cases c2 : Z.ixN l.length k with
        | none => rw [c2] at c; cases c
        | some j =>
          rw [c2] at c
          have c' : l[j]? = some i := c
          show (l.map V.int)[j]? = _
          rw [List.getElem?_map, c']; rfl
    | _ => simp [idxD] at e
  | _ => simp [idxD] at e
theorem cut_eq {A : Type} (l : List A) (lo hi : Option Int) : cut l lo hi = (l.drop (HT.sIx l.length 0 lo)).take (HT.sIx l.length l.length hi - HT.sIx l.length 0 lo) := by
  unfold cut
  have z : ∀ n d o, Z.sIx n d o = HT.sIx n d o := fun n d o => by cases o <;> rfl
  rw [z, z]
theorem cut_rep {H : Hp} {ds : List D} {us : List V} (lo hi : Option Int) (h : Reps T H ds us) : Reps T H (cut ds lo hi) (cutV us lo hi) := by
  rw [cut_eq]
  unfold cutV
  rw [h.length]
  exact (h.drop _).take _
theorem part_rep {P H : Hp} {d : D} {u : V} {o : Option Int} (e : part? d = some o) (h : RA T P H d u) : (o = none ∧ u = .non) ∨ ∃ i, o = some i ∧ u = .int i := by
  cases d <;> simp [part?] at e
  · subst e; exact .inl ⟨rfl, h.non⟩
  · subst e; exact .inr ⟨_, rfl, h.int⟩
def rSl (T : Tb) (W : WX) : V → Option Int → Option Int → Hp → VK → Prop := fun x lo hi H Q => ∃ a b c v σ P r, RS T P H σ r ∧ RA T P H a x ∧ part? b = some lo ∧ part? c = some hi ∧ slcD a b c = some v ∧ Go T W (relV T) σ P H r (.ok v r) Q
theorem sl_D (hK : X.K = T.K) : SlR X (rSl T W) := by
  intro pins s σ0 H x v vl vu lo hi sl Q I rx hs pl pu h
  obtain ⟨a, b, c, w, σ, P, r, rs, ha, hb, hc, e, q⟩ := h
  unfold slcD at e
  rw [hb, hc] at e
  cases a with
  | lst l =>
    cases e
    obtain ⟨p, xs, e1, h1, h2⟩ := ha.lst rs
    exact sl_list pins s σ0 H x v vl vu lo hi sl Q I rx hs pl pu ⟨p, xs, e1, .inl (.inl h1), fun p' n => q.newL rs n (cut_rep lo hi h2)⟩
  | scr l =>
    cases e
    obtain ⟨p, e1, h1⟩ := ha.scr rs
    refine sl_list pins s σ0 H x v vl vu lo hi sl Q I rx hs pl pu ⟨p, _, e1, by rw [hK]; exact h1, fun p' n => q.newL rs n ?_⟩
    have z : cutV (l.map V.int) lo hi = (cut l lo hi).map V.int := by
      rw [cut_eq]
      unfold cutV
      rw [List.length_map, List.map_take, List.map_drop]
    rw [z]
    exact Reps.of_ints T P _
  | _ => cases e

/-! ### built-in functions -/
theorem ra1 {P H : Hp} {d : D} {ds : List D} {us : List V} (h : RAs T P H (d :: ds) us) : ∃ u t, us = u :: t ∧ RA T P H d u ∧ RAs T P H ds t := h
theorem ra0 {P H : Hp} {us : List V} (h : RAs T P H [] us) : us = [] := h
theorem lenV_of {σ : St} {P H : Hp} {r : En} (hK : X.K = T.K) (rs : RS T P H σ r) {d : D} {u : V} {n : Nat} (h : RA T P H d u) (hd : ∀ ks vs, d ≠ .dct ks vs) (e : lenD d = some n) : LenV X.K u H n := by
  cases d with
  | lst l =>
    obtain ⟨p, xs, e1, h1, h2⟩ := h.lst rs
    cases e; rw [e1, ← h2.length]
    exact .inl ⟨xs, .inl (.inl h1), rfl⟩
  | tup l =>
    obtain ⟨p, xs, e1, h1, h2⟩ := h.tup rs
    cases e; rw [e1, ← h2.length]
    exact .inr ⟨xs, .inl (.inl h1), rfl⟩
  | scr l =>
    obtain ⟨p, e1, h1⟩ := h.scr rs
    cases e; rw [e1]
    exact .inl ⟨_, by rw [hK]; exact h1, by rw [List.length_map]⟩
  | str s =>
    rw [h.str]
    simp only [lenD] at e
    split at e
    · rename_i hl
      cases e
      exact ⟨by rw [← LINE_eq]; exact hl, rfl⟩
    · cases e
  | dct ks vs => exact absurd rfl (hd ks vs)
  | _ => cases e

theorem bi_len (hK : X.K = T.K) : CallR X (.builtin "len") (rDn T W (biD .len)) := by
  intro pins s σ0 H xs us Q I r0 h
  obtain ⟨as, w, σ, P, r, rs, ha, e, q⟩ := h
  replace e : lenF as = some w := e
  unfold lenF at e
  split at e
  · rename_i d
    obtain ⟨u, t, rfl, h1, h2⟩ := ra1 ha
    obtain rfl := ra0 h2
    cases c : lenD d with
    | none => rw [c] at e; cases e
    | some n =>
      rw [c] at e; cases e
      have fin : Q (.int (n : Nat)) H := q.here rs (by simp only [Rep])
      by_cases hd : ∃ ks vs, d = .dct ks vs
      · obtain ⟨ks, vs, rfl⟩ := hd
        have z := h1.rep rs
        simp only [Rep] at z
        obtain ⟨p, kvs, rfl, z1, z2, z3⟩ := z
        refine call_lenD pins s σ0 H _ us Q I r0 ⟨p, kvs, rfl, z1, ?_⟩
        cases c
        rw [← z2, List.length_map] at fin
        exact fin
      · exact call_len pins s σ0 H _ us Q I r0 ⟨u, n, rfl, lenV_of hK rs h1 (fun ks vs e => hd ⟨ks, vs, e⟩) c, fin⟩
  · cases e
theorem ints_rep {σ : St} {P H : Hp} {r : En} (hK : X.K = T.K) (rs : RS T P H σ r) {l : List D} {ns : List Int} {u : V} (h : RA T P H (.lst l) u) (e : Z.intsD l = some ns) : ∃ p, u = .ref p ∧ SqL X.K H p (ns.map V.int) := by
  obtain ⟨p, xs, e1, h1, h2⟩ := h.lst rs
  exact ⟨p, e1, .inl (.inl (by rw [← h2.toIs e]; exact h1))⟩
theorem bi_sum (hK : X.K = T.K) (hc : X.calm = true) : CallR X (.builtin "sum") (rDn T W (biD .sum)) := by
  intro pins s σ0 H xs us Q I r0 h
  obtain ⟨as, w, σ, P, r, rs, ha, e, q⟩ := h
  replace e : sumF as = some w := e
  unfold sumF at e
  split at e
  · rename_i l
    obtain ⟨u, t, rfl, h1, h2⟩ := ra1 ha
    obtain rfl := ra0 h2
    cases c : Z.intsD l with
    | none => rw [c] at e; cases e
    | some ns =>
      rw [c] at e; cases e
      obtain ⟨p, rfl, z⟩ := ints_rep hK rs h1 c
      exact cr_sum hc pins s σ0 H _ us Q I r0 ⟨p, ns, rfl, z, q.here rs (by simp only [Rep])⟩
  · cases e
theorem foldl_min : ∀ (l : List Int) (a : Int), (l.foldl min a = a ∨ l.foldl min a ∈ l) ∧ l.foldl min a ≤ a ∧ ∀ y ∈ l, l.foldl min a ≤ y
  | [], a => ⟨.inl rfl, Int.le_refl _, fun _ h => by cases h⟩
  | b :: l, a => by
    obtain ⟨h1, h2, h3⟩ := foldl_min l (min a b)
    simp only [List.foldl_cons]
    refine ⟨?_, by omega, fun y hy => ?_⟩
    · rcases h1 with h1 | h1
      · rw [h1]
        by_cases z : a ≤ b
        · exact .inl (by omega)
        · exact .inr (by rw [show min a b = b by omega]; exact List.mem_cons_self)
      · exact .inr (List.mem_cons_of_mem _ h1)
    · rcases List.mem_cons.mp hy with rfl | hy
      · omega
      · exact h3 y hy
theorem foldl_max : ∀ (l : List Int) (a : Int), (l.foldl max a = a ∨ l.foldl max a ∈ l) ∧ a ≤ l.foldl max a ∧ ∀ y ∈ l, y ≤ l.foldl max a
  | [], a => ⟨.inl rfl, Int.le_refl _, fun _ h => by cases h⟩
  | b :: l, a => by
    obtain ⟨h1, h2, h3⟩ := foldl_max l (max a b)
    simp only [List.foldl_cons]
    refine ⟨?_, by omega, fun y hy => ?_⟩
    · rcases h1 with h1 | h1
      · rw [h1]
        by_cases z : b ≤ a
        · exact .inl (by omega)
        · exact .inr (by rw [show max a b = b by omega]; exact List.mem_cons_self)
      · exact .inr (List.mem_cons_of_mem _ h1)
    · rcases List.mem_cons.mp hy with rfl | hy
      · omega
      · exact h3 y hy
theorem minI_spec {ns : List Int} {m : Int} (h : minI ns = some m) : m ∈ ns ∧ ∀ y ∈ ns, m ≤ y := by
  cases ns with
  | nil => cases h
  | cons a l =>
    cases h
    obtain ⟨h1, h2, h3⟩ := foldl_min l a
    refine ⟨?_, fun y hy => ?_⟩
    · rcases h1 with h1 | h1
      · rw [h1]; exact List.mem_cons_self
      · exact List.mem_cons_of_mem _ h1
    · rcases List.mem_cons.mp hy with rfl | hy
      · exact h2
      · exact h3 y hy
theorem maxI_spec {ns : List Int} {m : Int} (h : maxI ns = some m) : m ∈ ns ∧ ∀ y ∈ ns, y ≤ m := by
  cases ns with
  | nil => cases h
  | cons a l =>
    cases h
    obtain ⟨h1, h2, h3⟩ := foldl_max l a
    refine ⟨?_, fun y hy => ?_⟩
    · rcases h1 with h1 | h1
      · rw [h1]; exact List.mem_cons_self
      · exact List.mem_cons_of_mem _ h1
    · rcases List.mem_cons.mp hy with rfl | hy
      · exact h2
      · exact h3 y hy
theorem bi_min (hK : X.K = T.K) (hc : X.calm = true) : CallR X (.builtin "min") (rDn T W (biD .min)) := by
  intro pins s σ0 H xs us Q I r0 h
  obtain ⟨as, w, σ, P, r, rs, ha, e, q⟩ := h
  replace e : minF as = some w := e
  unfold minF at e
  split at e
  · rename_i l
    obtain ⟨u, t, rfl, h1, h2⟩ := ra1 ha
    obtain rfl := ra0 h2
    cases c : Z.intsD l with
    | none => rw [c] at e; cases e
    | some ns =>
      rw [c] at e
      obtain ⟨p, rfl, z⟩ := ints_rep hK rs h1 c
      simp only [Option.bind_some] at e
      cases c2 : minI ns with
      | none => rw [c2] at e; cases e
      | some m =>
        rw [c2] at e; cases e
        obtain ⟨m1, m2⟩ := minI_spec c2
        refine cr_min hc pins s σ0 H _ us Q I r0 ⟨p, ns, rfl, z, List.length_pos_of_mem m1, fun m' k1 k2 => ?_⟩
        have z1 := k2 m m1
        have z2 := m2 m' k1
        rw [show m' = m by omega]
        exact q.here rs (by simp only [Rep])
  · rename_i i j
    obtain ⟨u, t, rfl, h1, h2⟩ := ra1 ha
    obtain ⟨u', t', rfl, h3, h4⟩ := ra1 h2
    obtain rfl := ra0 h4
    cases e
    exact call_min2 hc pins s σ0 H _ us Q I r0 ⟨i, j, by rw [h1.int, h3.int], q.here rs (by simp only [Rep])⟩
  · cases e
theorem bi_max (hK : X.K = T.K) (hc : X.calm = true) : CallR X (.builtin "max") (rDn T W (biD .max)) := by
  intro pins s σ0 H xs us Q I r0 h
  obtain ⟨as, w, σ, P, r, rs, ha, e, q⟩ := h
  replace e : maxF as = some w := e
  unfold maxF at e
  split at e
  · rename_i l
    obtain ⟨u, t, rfl, h1, h2⟩ := ra1 ha
    obtain rfl := ra0 h2
    cases c : Z.intsD l with
    | none => rw [c] at e; cases e
    | some ns =>
      rw [c] at e
      obtain ⟨p, rfl, z⟩ := ints_rep hK rs h1 c
      simp only [Option.bind_some] at e
      cases c2 : maxI ns with
      | none => rw [c2] at e; cases e
      | some m =>
        rw [c2] at e; cases e
        obtain ⟨m1, m2⟩ := maxI_spec c2
        refine cr_max hc pins s σ0 H _ us Q I r0 ⟨p, ns, rfl, z, List.length_pos_of_mem m1, fun m' k1 k2 => ?_⟩
        have z1 := k2 m m1
        have z2 := m2 m' k1
        rw [show m' = m by omega]
        exact q.here rs (by simp only [Rep])
  · rename_i i j
    obtain ⟨u, t, rfl, h1, h2⟩ := ra1 ha
    obtain ⟨u', t', rfl, h3, h4⟩ := ra1 h2
    obtain rfl := ra0 h4
    cases e
    exact call_max2 hc pins s σ0 H _ us Q I r0 ⟨i, j, by rw [h1.int, h3.int], q.here rs (by simp only [Rep])⟩
  · cases e
theorem bi_abs : CallR X (.builtin "abs") (rDn T W (biD .abs)) := by
  intro pins s σ0 H xs us Q I r0 h
  obtain ⟨as, w, σ, P, r, rs, ha, e, q⟩ := h
  replace e : absF as = some w := e
  unfold absF at e
  split at e
  · rename_i i
    obtain ⟨u, t, rfl, h1, h2⟩ := ra1 ha
    obtain rfl := ra0 h2
    cases e
    exact call_abs pins s σ0 H _ us Q I r0 ⟨i, by rw [h1.int], q.here rs (by simp only [Rep])⟩
  · cases e
theorem bi_int : CallR X (.type "int") (rDn T W (biD .int)) := by
  intro pins s σ0 H xs us Q I r0 h
  obtain ⟨as, w, σ, P, r, rs, ha, e, q⟩ := h
  replace e : intF as = some w := e
  unfold intF at e
  split at e
  · rename_i i
    obtain ⟨u, t, rfl, h1, h2⟩ := ra1 ha
    obtain rfl := ra0 h2
    cases e
    exact call_int1 pins s σ0 H _ us Q I r0 (.inl ⟨i, by rw [h1.int], q.here rs (by simp only [Rep])⟩)
  · rename_i i
    obtain ⟨u, t, rfl, h1, h2⟩ := ra1 ha
    obtain rfl := ra0 h2
    cases e
    exact call_int1 pins s σ0 H _ us Q I r0 (.inr ⟨i, by rw [h1.bl], q.here rs (by simp only [Rep])⟩)
  · cases e
theorem bi_list (hK : X.K = T.K) : CallR X (.type "list") (rDn T W (biD .list)) := by
  intro pins s σ0 H xs us Q I r0 h
  obtain ⟨as, w, σ, P, r, rs, ha, e, q⟩ := h
  replace e : listF as = some w := e
  unfold listF at e
  split at e
  · rename_i d
    obtain ⟨u, t, rfl, h1, h2⟩ := ra1 ha
    obtain rfl := ra0 h2
    cases d with
    | lst l =>
      simp only [seqD, Option.map_some] at e
      cases e
      obtain ⟨p, xs, rfl, z1, z2⟩ := h1.lst rs
      exact call_list_of pins s σ0 H _ us Q I r0 ⟨p, xs, rfl, .inl (.inl (.inl z1)), fun l n => q.newL rs n z2⟩
    | tup l =>
      simp only [seqD, Option.map_some] at e
      cases e
      obtain ⟨p, xs, rfl, z1, z2⟩ := h1.tup rs
      exact call_list_of pins s σ0 H _ us Q I r0 ⟨p, xs, rfl, .inr (.inl (.inl z1)), fun l n => q.newL rs n z2⟩
    | _ => cases e
  · cases e
theorem bi_tuple (hK : X.K = T.K) : CallR X (.type "tuple") (rDn T W (biD .tuple)) := by
  intro pins s σ0 H xs us Q I r0 h
  obtain ⟨as, w, σ, P, r, rs, ha, e, q⟩ := h
  replace e : tupleF as = some w := e
  unfold tupleF at e
  split at e
  · rename_i l
    obtain ⟨u, t, rfl, h1, h2⟩ := ra1 ha
    obtain rfl := ra0 h2
    cases e
    obtain ⟨p, xs, rfl, z1, z2⟩ := h1.lst rs
    exact call_tuple_of pins s σ0 H _ us Q I r0 ⟨p, xs, rfl, .inl ⟨.inl (.inl z1), fun l n => q.newT rs n z2⟩⟩
  · cases e
theorem sortI_uniq {ns ms : List Int} (p : ms.Perm ns) (s : ms.Pairwise (· ≤ ·)) : ms = sortI ns := by
  have h1 : (sortI ns).Perm ns := List.mergeSort_perm ns _
  have h2 : (sortI ns).Pairwise (fun a b => decide (a ≤ b) = true) := List.pairwise_mergeSort (fun a b c h h' => by simp only [decide_eq_true_eq] at *; omega) (fun a b => by simp only [Bool.or_eq_true, decide_eq_true_eq]; omega) ns
  have h3 : (sortI ns).Pairwise (· ≤ ·) := h2.imp fun h => of_decide_eq_true h
  exact (p.trans h1.symm).eq_of_pairwise (fun a b _ _ h h' => by omega) s h3
theorem bi_sorted (hK : X.K = T.K) : CallR X (.builtin "sorted") (rDn T W (biD .sorted)) := by
  intro pins s σ0 H xs us Q I r0 h
  obtain ⟨as, w, σ, P, r, rs, ha, e, q⟩ := h
  replace e : sortF as = some w := e
  unfold sortF at e
  split at e
  · rename_i l
    obtain ⟨u, t, rfl, h1, h2⟩ := ra1 ha
    obtain rfl := ra0 h2
    cases c : Z.intsD l with
    | none => rw [c] at e; cases e
    | some ns =>
      rw [c] at e
      simp only [Option.bind_some] at e
      split at e
      · rename_i hl
        cases e
        obtain ⟨p, rfl, z⟩ := ints_rep hK rs h1 c
        refine cr_sorted pins s σ0 H _ us Q I r0 ⟨p, ns, rfl, z, hl, fun ns' p' h3 h4 n => ?_⟩
        rw [sortI_uniq h3 h4]
        exact q.newL rs n (Reps.of_ints T P _)
      · cases e
  · cases e
theorem bi_repr (hK : X.K = T.K) (hg : X.A.guards = some []) (hu : X.A.units + 200 < cLine) : CallR X (.builtin "repr") (rDn T W (biD .repr)) := by
  intro pins s σ0 H xs us Q I r0 h
  obtain ⟨as, w, σ, P, r, rs, ha, e, q⟩ := h
  replace e : reprF as = some w := e
  unfold reprF at e
  split at e
  · rename_i d
    obtain ⟨u, t, rfl, h1, h2⟩ := ra1 ha
    obtain rfl := ra0 h2
    unfold reprD at e
    split at e
    rotate_left
    · cases e
    · rename_i hd
      simp only [Bool.and_eq_true, decide_eq_true_eq] at hd
      obtain ⟨⟨hq, hs⟩, hz⟩ := hd
      cases e
      have hz' : (pyT d).shown.length ≤ sizeLine := by rw [← LINE_eq]; exact hz
      have hl : lay d = true := by unfold okq at hq; rw [Bool.and_eq_true] at hq; exact hq.1
      have hdp : dep d ≤ 64 := by unfold okq at hq; rw [Bool.and_eq_true, decide_eq_true_eq] at hq; exact hq.2
      have fin : Q (.str (pyT d).shown) H := q.here rs (by simp only [Rep])
      obtain ⟨uv, rfl, rv⟩ := vals1 r0
      cases d with
      | non =>
        rw [h1.non] at rv
        cases rv
        simp only [pyT, PyData.shown] at fin
        exact PySem.P.repr_of_none ⟨.str _, H, I.tok _, ⟨_, rfl⟩, fin⟩
      | bl b =>
        rw [h1.bl] at rv
        cases rv
        simp only [pyT, PyData.shown] at fin
        exact PySem.P.repr_of_bool ⟨.str _, H, I.tok _, ⟨_, rfl⟩, fin⟩
      | int i =>
        rw [h1.int] at rv
        obtain ⟨t, rfl⟩ := rv
        simp only [pyT, PyData.shown] at fin
        simp only [pyT, PyData.showable, decide_eq_true_eq] at hs
        exact PySem.P.repr_of_int hs ⟨.str _, H, I.tok _, ⟨_, rfl⟩, fin⟩
      | str x =>
        rw [h1.str] at rv
        obtain ⟨t, rfl⟩ := rv
        simp only [pyT, PyData.shown] at fin hz'
        exact PySem.P.repr_of_str ⟨.str _, H, I.tok _, ⟨_, rfl⟩, fin⟩ hz'
      | lst l =>
        have hdp' : Dp X.K H u (pyT (.lst l)) := dp_of hK.symm _ _ hl (h1.rep rs)
        obtain ⟨p, xs, rfl, _⟩ := h1.lst rs
        cases rv
        obtain ⟨as, rd⟩ := Dp.reads I _ _ _ hdp' rfl
        refine PySem.repr_of_reads' rd hs (PyData.noDict_hsm (PyData.hasDict_of_canLay _ (canLay_pyT _ hl))) hg (by rw [depth_pyT]; omega) (fun _ _ e => e) (fun h' t tk hk => ⟨.str _, H, I.kept hk, ⟨_, rfl⟩, fin⟩) hz'
      | tup l =>
        have hdp' : Dp X.K H u (pyT (.tup l)) := dp_of hK.symm _ _ hl (h1.rep rs)
        obtain ⟨p, xs, rfl, _⟩ := h1.tup rs
        cases rv
        obtain ⟨as, rd⟩ := Dp.reads I _ _ _ hdp' rfl
        refine PySem.repr_of_reads' rd hs (PyData.noDict_hsm (PyData.hasDict_of_canLay _ (canLay_pyT _ hl))) hg (by rw [depth_pyT]; omega) (fun _ _ e => e) (fun h' t tk hk => ⟨.str _, H, I.kept hk, ⟨_, rfl⟩, fin⟩) hz'
      | _ => simp [lay] at hl
  · cases e
/-! ### isinstance -/
def tyName : Ty → String
  | .int => "int"
  | .bool => "bool"
  | .str => "str"
  | .list => "list"
  | .tuple => "tuple"
  | .dict => "dict"
  | .cls _ => ""
theorem isi_D (hK : X.K = T.K) (t : Ty) (ht : ∀ c, t ≠ .cls c) : CallR X (.builtin "isinstance") (fun xs H Q => ∃ x, xs = [x, .ty (tyName t)] ∧ rD1 T W (fun u => boolV (isiD u t)) x H Q) := by
  intro pins s σ0 H xs us Q I r0 h
  obtain ⟨x, rfl, a, w, σ, P, r, rs, ha, e, q⟩ := h
  dsimp only [boolV] at e
  cases c : isiD a t with
  | none => rw [c] at e; cases e
  | some k =>
    rw [c] at e; cases e
    have fin : Q (.bl k) H := q.here rs (by simp only [Rep])
    have go : ∀ (n : String), TyOf X.K H x (.type n) → PySem.W.kitOne X.K (.type n) (.type (tyName t)) = some k → wpAny (model X.prog X.w) X.A (call (.builtin "isinstance") us) (EP X pins σ0 Q) X.xe s := fun n ty e =>
      call_isi pins s σ0 H _ us Q I r0 ⟨x, .ty (tyName t), .type n, .type (tyName t), k, rfl, .ty _, .base ty, e, fin⟩
    cases a with
    | non =>
      obtain rfl := ha.non
      refine go "NoneType" .non ?_
      cases t <;> simp [isiD] at c <;> subst c <;> exact kit_ty (by decide +kernel)
    | bl b =>
      obtain rfl := ha.bl
      refine go "bool" (.bl b) ?_
      cases t <;> simp [isiD] at c <;> subst c <;> exact kit_ty (by decide +kernel)
    | int b =>
      obtain rfl := ha.int
      refine go "int" (.int b) ?_
      cases t <;> simp [isiD] at c <;> subst c <;> exact kit_ty (by decide +kernel)
    | str b =>
      obtain rfl := ha.str
      refine go "str" (.str b) ?_
      cases t <;> simp [isiD] at c <;> subst c <;> exact kit_ty (by decide +kernel)
    | lst b =>
      obtain ⟨p, xs, rfl, z, _⟩ := ha.lst rs
      refine go "list" (.lst z) ?_
      cases t <;> simp [isiD] at c <;> subst c <;> exact kit_ty (by decide +kernel)
    | tup b =>
      obtain ⟨p, xs, rfl, z, _⟩ := ha.tup rs
      refine go "tuple" (.tup z) ?_
      cases t <;> simp [isiD] at c <;> subst c <;> exact kit_ty (by decide +kernel)
    | dct ks vs =>
      have z := ha.rep rs
      simp only [Rep] at z
      obtain ⟨p, kvs, rfl, z1, z2, z3⟩ := z
      refine go "dict" (.dK z1) ?_
      cases t <;> simp [isiD] at c <;> subst c <;> exact kit_ty (by decide +kernel)
    | fn _ => cases t <;> simp [isiD] at c
    | exn _ _ => cases t <;> simp [isiD] at c
    | scr _ => cases t <;> simp [isiD] at c
end
end Z
/-! ZG: the rules of expressions: each wants the rules of its parts. -/
namespace Z
open PySem PySem.Spec L2
open PyProof.Rows hiding St
section
variable {X : Cx} {T : Tb} {W : WX} {e : PySem.Expr} {fa fb fc : En → R (Nat ⊕ D)}
theorem rb2 {σ : St} {P P' : Hp} {x y : Nat ⊕ D} {u v : V} (h : RB T σ P x u) (e : Ext P P') (h' : RB T σ P' y v) : RBs T σ P' [x, y] [u, v] := ⟨u, _, rfl, h.ext e, v, _, rfl, h', rfl⟩
theorem res1 {σ : St} {P H : Hp} {r : En} (rs : RS T P H σ r) {x : Nat ⊕ D} {u : V} (h : RB T σ P x u) {l : List D} (e : res r [x] = some l) : ∃ a, l = [a] ∧ RA T P H a u := by
  have z := res_ok rs (show RBs T σ P [x] [u] from ⟨u, _, rfl, h, rfl⟩) e
  match l, z with
  | [], z => cases z
  | [a], ⟨u', t, e1, z, _⟩ => cases e1; exact ⟨a, rfl, z⟩
  | _ :: _ :: _, ⟨_, _, e1, _, ⟨_, _, e2, _⟩⟩ => cases e1; cases e2
theorem res2 {σ : St} {P H : Hp} {r : En} (rs : RS T P H σ r) {x y : Nat ⊕ D} {u v : V} (h : RBs T σ P [x, y] [u, v]) {l : List D} (e : res r [x, y] = some l) : ∃ a b, l = [a, b] ∧ RA T P H a u ∧ RA T P H b v := by
  have z := res_ok rs h e
  match l, z with
  | [], z => cases z
  | [a], ⟨_, _, e1, _, e2⟩ => cases e1; cases e2
  | [a, b], ⟨_, _, e1, z1, ⟨_, _, e2, z2, _⟩⟩ => cases e1; cases e2; exact ⟨a, b, rfl, z1, z2⟩
  | _ :: _ :: _ :: _, ⟨_, _, e1, _, ⟨_, _, e2, _, ⟨_, _, e3, _⟩⟩⟩ => cases e1; cases e2; cases e3
theorem res3 {σ : St} {P H : Hp} {r : En} (rs : RS T P H σ r) {x y z : Nat ⊕ D} {u v w : V} (h : RBs T σ P [x, y, z] [u, v, w]) {l : List D} (e : res r [x, y, z] = some l) : ∃ a b c, l = [a, b, c] ∧ RA T P H a u ∧ RA T P H b v ∧ RA T P H c w := by
  have q := res_ok rs h e
  match l, q with
  | [], q => cases q
  | [a], ⟨_, _, e1, _, e2⟩ => cases e1; cases e2
  | [a, b], ⟨_, _, e1, _, ⟨_, _, e2, _, e3⟩⟩ => cases e1; cases e2; cases e3
  | [a, b, c], ⟨_, _, e1, z1, ⟨_, _, e2, z2, ⟨_, _, e3, z3, _⟩⟩⟩ => cases e1; cases e2; cases e3; exact ⟨a, b, c, rfl, z1, z2, z3⟩
  | _ :: _ :: _ :: _ :: _, ⟨_, _, e1, _, ⟨_, _, e2, _, ⟨_, _, e3, _, ⟨_, _, e4, _⟩⟩⟩⟩ => cases e1; cases e2; cases e3; cases e4
/-- an operation of two -/
theorem de_op2 {g : D → D → Option Val} (h : PE X e (tOp (rD2 T W g) (tB T W fa) (tB T W fb))) : PE X e (tE T W fun r => (fa r).bind fun x r1 => (fb r1).bind fun y r2 => op2 g x y r2) := by
  refine peImp h fun σ H Q ⟨P, r, rs, go⟩ => ⟨P, r, rs, (Go.bind (anti_V T) go).mono fun u H1 ⟨P1, r1, x, a1, q1, e1, go1⟩ => ⟨P1, r1, a1.rs, (Go.bind (anti_V T) go1).mono fun v H2 ⟨P2, r2, y, a2, q2, e2, go2⟩ => ?_⟩⟩
  unfold op2 at go2
  cases c : res r2 [x, y] with
  | none => rw [c] at go2; exact go2.elim
  | some l =>
    obtain ⟨a, b, rfl, h1, h2⟩ := res2 a2.rs (rb2 q1 a2.st.pp q2) c
    rw [c] at go2
    dsimp only at go2
    cases c2 : g a b with
    | none => rw [c2] at go2; exact go2.elim
    | some w => rw [c2] at go2; exact ⟨a, b, w, σ, P2, r2, a2.rs, h1, h2, c2, go2⟩
theorem de_op1 {g : D → Option Val} (h : PE X e (tUn (rD1 T W g) (tB T W fa))) : PE X e (tE T W fun r => (fa r).bind fun x r1 => op1 g x r1) := by
  refine peImp h fun σ H Q ⟨P, r, rs, go⟩ => ⟨P, r, rs, (Go.bind (anti_V T) go).mono fun u H1 ⟨P1, r1, x, a1, q1, e1, go1⟩ => ?_⟩
  unfold op1 at go1
  cases c : res r1 [x] with
  | none => rw [c] at go1; exact go1.elim
  | some l =>
    obtain ⟨a, rfl, h1⟩ := res1 a1.rs q1 c
    rw [c] at go1
    dsimp only at go1
    cases c2 : g a with
    | none => rw [c2] at go1; exact go1.elim
    | some w => rw [c2] at go1; exact ⟨a, w, σ, P1, r1, a1.rs, h1, c2, go1⟩
theorem de_opn {g : List D → Option Val} {f : En → R (List (Nat ⊕ D))} (h : PE X e (tCB (rDn T W g) (tA T W f))) : PE X e (tE T W fun r => (f r).bind fun xs r1 => opn g xs r1) := by
  refine peImp h fun σ H Q ⟨P, r, rs, go⟩ => ⟨P, r, rs, (Go.bind (anti_V T) go).mono fun us H1 ⟨P1, r1, xs, a1, q1, e1, go1⟩ => ?_⟩
  unfold opn at go1
  cases c : res r1 xs with
  | none => rw [c] at go1; exact go1.elim
  | some l =>
    rw [c] at go1
    simp only [Option.bind_some] at go1
    cases c2 : g l with
    | none => rw [c2] at go1; exact go1.elim
    | some w => rw [c2] at go1; exact ⟨l, w, σ, P1, r1, a1.rs, res_ok a1.rs q1 c, c2, go1⟩
/-- an argument that is no name -/
theorem db_of {f : En → R Val} (h : PE X e (tE T W f)) : PE X e (tB T W fun r => (f r).bind fun v r1 => .ok (.inr v.d) r1) :=
  peImp h fun σ H Q ⟨P, r, rs, go⟩ => ⟨P, r, rs, (Go.bindS rs (anti_B T σ) go).mono fun u H1 ⟨P1, r1, v, a1, q1, e1, go1⟩ => go1 u P1 H1 (.refl a1.rs) q1⟩
theorem db_var {i : Nat} (h : PE X e (tVar i)) : PE X e (tB T W fun r => if (r.rd i).isSome = true then .ok (.inl i) r else .bad) := by
  refine peImp h fun σ H Q ⟨P, r, rs, go⟩ => ?_
  dsimp only at go
  by_cases c : (r.rd i).isSome = true
  · rw [if_pos c] at go
    obtain ⟨d, c⟩ := Option.isSome_iff_exists.mp c
    have z : ∃ v, σ[i]? = some (some v) := by
      unfold En.rd at c
      cases c1 : r[i]? with
      | none => rw [c1] at c; cases c
      | some x =>
        rw [c1] at c
        cases x with
        | no => cases c
        | sh d' => obtain ⟨v, e1, _⟩ := rs.sh i d' c1; exact ⟨v, e1⟩
        | ow d' => obtain ⟨a, e1, _⟩ := rs.own i d' (.inl c1); exact ⟨_, e1⟩
        | io d' => obtain ⟨a, e1, _⟩ := rs.own i d' (.inr c1); exact ⟨_, e1⟩
    obtain ⟨v, z⟩ := z
    exact ⟨v, z, go v P H (.refl rs) z⟩
  · rw [if_neg c] at go
    exact go.elim
theorem setD_own {σ : St} {P H : Hp} {r : En} {i : Nat} {d : D} (rs : RS T P H σ r) (h : r[i]? = some (.ow d)) : ∃ P' u, Aft T σ P H r P' H (r.set i (.sh d)) ∧ Rep T P' d u ∧ σ[i]? = some (some u) := by
  obtain ⟨a, e, n, ro⟩ := rs.own i d (.inl h)
  obtain ⟨o, ho⟩ := ro.some
  have ex : Ext P (upd P a o) := upd_ext n
  have hi : i < r.length := (List.getElem?_eq_some_iff.mp h).1
  have oi : OwnAt r i := ⟨d, .inl h⟩
  have get : ∀ (j : Nat) (x : Sl), (r.set i (.sh d))[j]? = some x → (j = i ∧ x = .sh d) ∨ (j ≠ i ∧ r[j]? = some x) := fun j x q => by
    by_cases z : j = i
    · subst z
      rw [List.getElem?_set_self hi] at q
      exact .inl ⟨rfl, (Option.some.inj q).symm⟩
    · rw [List.getElem?_set_ne (Ne.symm z)] at q
      exact .inr ⟨z, q⟩
  have rp : Rep T (upd P a o) d (.ref a) := ro.rep ex (by rw [upd_same, ho])
  refine ⟨upd P a o, .ref a, ⟨⟨fun c x y => ?_, by rw [List.length_set]; exact rs.len, fun j d' q => ?_, fun j d' q => ?_, fun j k b q1 q2 => ?_⟩, ⟨ex, fun _ _ e _ => e, fun _ e => e, fun c z => ?_⟩, ⟨by rw [List.length_set], fun j x x' q1 q2 => ?_⟩⟩, rp, e⟩
  · by_cases z : c = a
    · subst z; rw [upd_same] at y; cases y; exact ho
    · rw [upd_ne z] at y; exact rs.sub c x y
  · rcases get j _ q with ⟨rfl, z⟩ | ⟨z, q⟩
    · cases z; exact ⟨_, e, rp⟩
    · obtain ⟨v, e1, e2⟩ := rs.sh j d' q
      exact ⟨v, e1, Rep.ext ex _ _ e2⟩
  · have q' : j ≠ i ∧ (r[j]? = some (.ow d') ∨ r[j]? = some (.io d')) := by
      rcases q with q | q
      · rcases get j _ q with ⟨rfl, z⟩ | ⟨z, q⟩
        · cases z
        · exact ⟨z, .inl q⟩
      · rcases get j _ q with ⟨rfl, z⟩ | ⟨z, q⟩
        · cases z
        · exact ⟨z, .inr q⟩
    obtain ⟨b, e1, n1, ro1⟩ := rs.own j d' q'.2
    have hb : b ≠ a := fun z => q'.1 (rs.dis j i b ⟨d', q'.2⟩ oi e1 (by rw [z]; exact e))
    exact ⟨b, e1, by rw [upd_ne hb]; exact n1, ro1.move ex rfl⟩
  · have h1 : OwnAt r j := by
      obtain ⟨d1, q1⟩ := q1
      rcases q1 with q1 | q1
      · rcases get j _ q1 with ⟨rfl, z⟩ | ⟨z, q⟩
        · cases z
        · exact ⟨d1, .inl q⟩
      · rcases get j _ q1 with ⟨rfl, z⟩ | ⟨z, q⟩
        · cases z
        · exact ⟨d1, .inr q⟩
    have h2 : OwnAt r k := by
      obtain ⟨d1, q2⟩ := q2
      rcases q2 with q2 | q2
      · rcases get k _ q2 with ⟨rfl, z⟩ | ⟨z, q⟩
        · cases z
        · exact ⟨d1, .inl q⟩
      · rcases get k _ q2 with ⟨rfl, z⟩ | ⟨z, q⟩
        · cases z
        · exact ⟨d1, .inr q⟩
    exact rs.dis j k b h1 h2
  · by_cases z' : c = a
    · subst z'; exact .inr (.inr ⟨i, oi, e⟩)
    · rw [upd_ne z'] at z; exact .inl z
  · rcases get j _ q2 with ⟨rfl, z⟩ | ⟨z, q⟩
    · rw [h] at q1; cases q1; subst z; exact trivial
    · rw [q1] at q; cases q; exact kle.refl x
theorem de_var {C : Cf} {i : Nat} (h : PE X e (tVar i)) : PE X e (tE T W (ev C (.var i))) := by
  refine peImp h fun σ H Q ⟨P, r, rs, go⟩ => ?_
  simp only [ev] at go
  cases c : r[i]? with
  | none => rw [c] at go; exact go.elim
  | some x =>
    rw [c] at go
    cases x with
    | no => exact go.elim
    | sh d => obtain ⟨v, e1, e2⟩ := rs.sh i d c; exact ⟨v, e1, go v P H (.refl rs) e2⟩
    | ow d =>
      obtain ⟨P', u, a, q, e1⟩ := setD_own rs c
      exact ⟨u, e1, go u P' H a q⟩
    | io d => exact go.elim
theorem de_con {C : Cf} {d : D} {v : V} (h : PE X e (tC v)) (q : ∀ H, Rep T H d v) : PE X e (tE T W (ev C (.con d))) := by
  refine peImp h fun σ H Q ⟨P, r, rs, go⟩ => ?_
  simp only [ev] at go
  exact go v P H (.refl rs) (q P)
theorem de_neg {f : En → R Val} (ha : PE X e (tE T W f)) {pos : Pos} : PE X (.UnaryOp .USub e pos) (tE T W fun r => (f r).bind fun v r1 => match v.d with
    | .int i => .ok (.sh (.int (-i))) r1
    | _ => .bad) := by
  refine peImp (pe_un un_neg ha) fun σ H Q ⟨P, r, rs, go⟩ => ⟨P, r, rs, (Go.bindS rs (anti_V T) go).mono fun u H1 ⟨P1, r1, v, a1, q1, e1, go1⟩ => ?_⟩
  cases c : v.d with
  | int i =>
    rw [c] at go1 q1
    simp only [Rep] at q1
    subst q1
    exact ⟨i, rfl, go1 _ P1 H1 (.refl a1.rs) (by show Rep _ _ _ _; simp only [Rep])⟩
  | _ => rw [c] at go1; exact go1.elim
theorem de_not (hK : X.K = T.K) (ha : PE X e (tB T W fa)) {pos : Pos} : PE X (.UnaryOp .Not e pos) (tE T W fun r => (fa r).bind fun x r1 => op1 (fun u => boolV ((tru u).map (!·))) x r1) := by
  refine de_op1 (peImp (pe_notT ha) fun σ H Q h => ?_)
  obtain ⟨P, r, rs, go⟩ := h
  refine ⟨P, r, rs, go.mono fun u H1 ⟨a, v, σ', P1, r1, rs1, ra, hv, go1⟩ => ?_⟩
  dsimp only at hv
  cases c : tru a with
  | none => rw [c] at hv; cases hv
  | some k =>
    rw [c] at hv
    cases hv
    exact ⟨k, truV_of hK rs1 ra c, go1.here rs1 (by simp only [Rep])⟩
theorem de_and (hK : X.K = T.K) {a b : PySem.Expr} {rest : List PySem.Expr} {pos : Pos} {f g : En → R Val} (ha : PE X a (tE T W f)) (hb : PE X (.BoolOp .And (b :: rest) pos) (tE T W g)) :
    PE X (.BoolOp .And (a :: b :: rest) pos) (tE T W fun r => (f r).bind fun x r1 => match tru x.d with
      | some true => (g r1).bind fun y r2 => .ok (.sh y.d) r2
      | some false => .ok (.sh x.d) r1
      | none => .bad) := by
  refine peImp (pe_andT ha hb) fun σ H Q ⟨P, r, rs, go⟩ => ⟨P, r, rs, (Go.bindS rs (anti_V T) go).mono fun u H1 ⟨P1, r1, v, a1, q1, e1, go1⟩ => ?_⟩
  cases c : tru v.d with
  | none => rw [c] at go1; exact go1.elim
  | some k =>
    refine ⟨k, truV_of hK a1.rs (.inl q1) c, ?_⟩
    rw [c] at go1
    cases k with
    | true =>
      rw [if_pos rfl]
      refine ⟨P1, r1, a1.rs, (Go.bindS a1.rs (anti_V T) go1).mono fun u2 H2 ⟨P2, r2, v2, a2, q2, e2, go2⟩ => ?_⟩
      exact go2 u2 P2 H2 (.refl a2.rs) q2
    | false =>
      rw [if_neg Bool.false_ne_true]
      exact go1 u P1 H1 (.refl a1.rs) q1
theorem de_or (hK : X.K = T.K) {a b : PySem.Expr} {rest : List PySem.Expr} {pos : Pos} {f g : En → R Val} (ha : PE X a (tE T W f)) (hb : PE X (.BoolOp .Or (b :: rest) pos) (tE T W g)) :
    PE X (.BoolOp .Or (a :: b :: rest) pos) (tE T W fun r => (f r).bind fun x r1 => match tru x.d with
      | some false => (g r1).bind fun y r2 => .ok (.sh y.d) r2
      | some true => .ok (.sh x.d) r1
      | none => .bad) := by
  refine peImp (pe_orT ha hb) fun σ H Q ⟨P, r, rs, go⟩ => ⟨P, r, rs, (Go.bindS rs (anti_V T) go).mono fun u H1 ⟨P1, r1, v, a1, q1, e1, go1⟩ => ?_⟩
  cases c : tru v.d with
  | none => rw [c] at go1; exact go1.elim
  | some k =>
    refine ⟨k, truV_of hK a1.rs (.inl q1) c, ?_⟩
    rw [c] at go1
    cases k with
    | false =>
      rw [if_neg Bool.false_ne_true]
      refine ⟨P1, r1, a1.rs, (Go.bindS a1.rs (anti_V T) go1).mono fun u2 H2 ⟨P2, r2, v2, a2, q2, e2, go2⟩ => ?_⟩
      exact go2 u2 P2 H2 (.refl a2.rs) q2
    | true =>
      rw [if_pos rfl]
      exact go1 u P1 H1 (.refl a1.rs) q1
theorem de_ite {c a b : PySem.Expr} {pos : Pos} {f g : En → R Val} {t : En → R Bool} (hc : PT X c (tK T W t)) (ha : PE X a (tE T W f)) (hb : PE X b (tE T W g)) :
    PE X (.IfExp c a b pos) (tE T W fun r => (t r).bind fun k r1 => if k = true then f r1 else g r1) := by
  refine peImp (pe_ifExp hc ha hb) fun σ H Q ⟨P, r, rs, go⟩ => ⟨P, r, rs, (Go.bind (anti_V T) go).mono fun u H1 ⟨P1, r1, k, a1, q1, e1, go1⟩ => ?_⟩
  subst q1
  cases u with
  | true => rw [if_pos rfl] at go1 ⊢; exact ⟨P1, r1, a1.rs, go1⟩
  | false => rw [if_neg Bool.false_ne_true] at go1 ⊢; exact ⟨P1, r1, a1.rs, go1⟩
/-! lists of expressions -/
def notStar : PySem.Expr → Bool
  | .Starred _ _ => false
  | _ => true
theorem star_one {e : PySem.Expr} (h : notStar e = true) (es : List PySem.Expr) (env : PySem.Env) : starEach (e :: es) env = (false, eval e env) :: starEach es env := by
  cases e <;> first | rfl | cases h
theorem star_all : ∀ {es : List PySem.Expr}, es.all notStar = true → ∀ (env : PySem.Env) (pos : Pos), (backTo pos (starEach es env)).any (·.1) = false
  | [], _, _, _ => rfl
  | e :: es, h, env, pos => by
    simp only [List.all_cons, Bool.and_eq_true] at h
    rw [star_one h.1]
    have ih := star_all h.2 env pos
    cases es with
    | nil => rfl
    | cons e2 es2 =>
      simp only [List.all_cons, Bool.and_eq_true] at h
      rw [star_one h.2.1] at ih ⊢
      simpa [backTo] using ih
theorem ds_nil {C : Cf} : PA X [] (tS T W (evs C [])) := paImp pa_nil fun σ H Q ⟨P, r, rs, go⟩ => by
  simp only [evs] at go
  exact go [] P H (.refl rs) Reps.nil
theorem ds_cons {es : List PySem.Expr} {f : En → R Val} {g : En → R (List D)} (hs : notStar e = true) (ha : PE X e (tE T W f)) (hb : PA X es (tS T W g)) :
    PA X (e :: es) (tS T W fun r => (f r).bind fun v r1 => (g r1).bind fun vs r2 => .ok (v.d :: vs) r2) := by
  refine paImp (pa_cons ha hb (star_one hs es X.env)) fun σ H Q ⟨P, r, rs, go⟩ => ⟨P, r, rs, (Go.bindS rs (anti_Ss T) go).mono fun u H1 ⟨P1, r1, v, a1, q1, e1, go1⟩ => ⟨P1, r1, a1.rs, (Go.bind (anti_Ss T) go1).mono fun us H2 ⟨P2, r2, vs, a2, q2, e2, go2⟩ => ?_⟩⟩
  exact go2 (u :: us) P2 H2 (.refl a2.rs) (.cons (Rep.ext a2.st.pp _ _ q1) q2)
theorem da_nil {C : Cf} : PA X [] (tA T W (evA C [])) := paImp pa_nil fun σ H Q ⟨P, r, rs, go⟩ => by
  simp only [evA] at go
  exact go [] P H (.refl rs) rfl
theorem da_cons {es : List PySem.Expr} {g : En → R (List (Nat ⊕ D))} (hs : notStar e = true) (ha : PE X e (tB T W fa)) (hb : PA X es (tA T W g)) :
    PA X (e :: es) (tA T W fun r => (fa r).bind fun x r1 => (g r1).bind fun xs r2 => .ok (x :: xs) r2) := by
  refine paImp (pa_cons ha hb (star_one hs es X.env)) fun σ H Q ⟨P, r, rs, go⟩ => ⟨P, r, rs, (Go.bind (anti_Bs T σ) go).mono fun u H1 ⟨P1, r1, x, a1, q1, e1, go1⟩ => ⟨P1, r1, a1.rs, (Go.bind (anti_Bs T σ) go1).mono fun us H2 ⟨P2, r2, xs, a2, q2, e2, go2⟩ => ?_⟩⟩
  exact go2 (u :: us) P2 H2 (.refl a2.rs) ⟨u, us, rfl, q1.ext a2.st.pp, q2⟩
theorem de_lst {es : List PySem.Expr} {pos : Pos} {g : En → R (List D)} (h : PA X es (tS T W g)) : PE X (.List es pos) (tE T W fun r => (g r).bind fun ds r1 => if ds.length ≤ LINE then .ok (.ow (.lst ds)) r1 else .bad) := by
  refine peImp (pe_lst h) fun σ H Q ⟨P, r, rs, go⟩ => ⟨P, r, rs, (Go.bind (anti_V T) go).mono fun us H1 ⟨P1, r1, ds, a1, q1, e1, go1⟩ => ?_⟩
  by_cases hl : ds.length ≤ LINE
  · rw [if_pos hl] at go1
    exact ⟨by rw [q1.length, ← LINE_eq]; exact hl, fun p n => go1.newL a1.rs n q1⟩
  · rw [if_neg hl] at go1; exact go1.elim
theorem de_tup {es : List PySem.Expr} {k : Nat} {pos : Pos} {g : En → R (List D)} (h : PA X es (tS T W g)) : PE X (.Tuple es k pos) (tE T W fun r => (g r).bind fun ds r1 => if ds.length ≤ LINE then .ok (.sh (.tup ds)) r1 else .bad) := by
  refine peImp (pe_tup h) fun σ H Q ⟨P, r, rs, go⟩ => ⟨P, r, rs, (Go.bind (anti_V T) go).mono fun us H1 ⟨P1, r1, ds, a1, q1, e1, go1⟩ => ?_⟩
  by_cases hl : ds.length ≤ LINE
  · rw [if_pos hl] at go1
    exact ⟨by rw [q1.length, ← LINE_eq]; exact hl, fun p n => go1.newT a1.rs n q1⟩
  · rw [if_neg hl] at go1; exact go1.elim
end
end Z
/-! ZH: slots stored, targets, what is walked. -/
namespace Z
open PySem PySem.Spec L2
open PyProof.Rows hiding St
/-- owned by a local name -/
def OwnL (σ : St) (r : En) (a : Addr) : Prop := ∃ (i : Nat) (d : D), r[i]? = some (Sl.ow d) ∧ σ[i]? = some (some (.ref a))
/-- behind a statement: slots may have been stored -/
structure AftS (T : Tb) (σ : St) (P H : Hp) (r : En) (σ' : St) (P' H' : Hp) (r' : En) : Prop where
  rs : RS T P' H' σ' r'
  st : Stp (Own σ r) P H P' H'
  ow : ∀ b, Own σ' r' b → Own σ r b ∨ H b = none
  ol : ∀ b, OwnL σ' r' b → OwnL σ r b ∨ H b = none
  io : ∀ (i : Nat) (d : D), r[i]? = some (Sl.io d) → (∃ d', r'[i]? = some (Sl.io d')) ∧ σ'[i]? = σ[i]?
  len : r'.length = r.length
section
variable {T : Tb} {W : WX} {σ σ1 σ2 : St} {P H P1 H1 P2 H2 : Hp} {r r1 r2 : En}
theorem AftS.refl (h : RS T P H σ r) : AftS T σ P H r σ P H r := ⟨h, .refl, fun _ h => .inl h, fun _ h => .inl h, fun i d h => ⟨⟨d, h⟩, rfl⟩, rfl⟩
theorem AftS.trans (a : AftS T σ P H r σ1 P1 H1 r1) (b : AftS T σ1 P1 H1 r1 σ2 P2 H2 r2) : AftS T σ P H r σ2 P2 H2 r2 where
  rs := b.rs
  st := a.st.trans b.st a.ow
  ow := fun c h => by
    rcases b.ow c h with h | h
    · exact a.ow c h
    · exact .inr (a.st.dm c h)
  ol := fun c h => by
    rcases b.ol c h with h | h
    · exact a.ol c h
    · exact .inr (a.st.dm c h)
  io := fun i d h => by
    obtain ⟨⟨d1, h1⟩, e1⟩ := a.io i d h
    obtain ⟨h2, e2⟩ := b.io i d1 h1
    exact ⟨h2, e2.trans e1⟩
  len := b.len.trans a.len
theorem Aft.toS (a : Aft T σ P H r P1 H1 r1) : AftS T σ P H r σ P1 H1 r1 where
  rs := a.rs
  st := a.st
  ow := fun c h => .inl (a.kd.owns h)
  ol := fun c ⟨i, d, h, e⟩ => by
    have hi : i < r.length := by rw [← a.kd.1]; exact (List.getElem?_eq_some_iff.mp h).1
    have q := List.getElem?_eq_getElem hi
    have z := a.kd.2 i _ _ q h
    cases c : r[i] with
    | ow d' => exact .inl ⟨i, d', by rw [q, c], e⟩
    | _ => rw [c] at z; exact False.elim z
  io := fun i d h => by
    have hi : i < r1.length := by rw [a.kd.1]; exact (List.getElem?_eq_some_iff.mp h).1
    have q := List.getElem?_eq_getElem hi
    have z := a.kd.2 i _ _ h q
    cases e : r1[i] with
    | io d' => exact ⟨⟨d', by rw [q, e]⟩, rfl⟩
    | _ => rw [e] at z; exact False.elim z
  len := a.kd.1
theorem RS.get (h : RS T P H σ r) {i : Nat} {x : Sl} (e : r[i]? = some x) : i < r.length ∧ i < σ.length := by
  have := (List.getElem?_eq_some_iff.mp e).1
  exact ⟨this, by rw [← h.len]; exact this⟩
theorem set_get {A : Type} {l : List A} {i j : Nat} {a x : A} (hi : i < l.length) (q : (l.set i a)[j]? = some x) : (j = i ∧ x = a) ∨ (j ≠ i ∧ l[j]? = some x) := by
  by_cases z : j = i
  · subst z
    rw [List.getElem?_set_self hi] at q
    exact .inl ⟨rfl, (Option.some.inj q).symm⟩
  · rw [List.getElem?_set_ne (Ne.symm z)] at q
    exact .inr ⟨z, q⟩
/-- a value that may be stored at a slot -/
def RW (T : Tb) (σ : St) (H0 P H : Hp) (r : En) (v : Val) (u : V) : Prop :=
  match v with
  | .sh d => Rep T P d u
  | .ow d => ∃ a, u = .ref a ∧ P a = none ∧ RepO T P H a d ∧ ¬ Own σ r a ∧ H0 a = none
theorem RV.rw {H0 : Hp} {v : Val} {u : V} (h : RV T H0 P H v u) (fr : ∀ b, Own σ r b → H0 b ≠ none) : RW T σ H0 P H r v u := by
  cases v with
  | sh d => exact h
  | ow d => obtain ⟨a, e, n, ro, f⟩ := h; exact ⟨a, e, n, ro, fun o => fr a o f, f⟩
/-- a slot is stored -/
theorem put_ok {σ0 : St} {P0 H0 : Hp} {r0 : En} (a : AftS T σ0 P0 H0 r0 σ P H r) {i : Nat} {v : Val} {u : V} (q : RW T σ H0 P H r v u) (e : r.put i v = some r1) :
    AftS T σ0 P0 H0 r0 (σ.set i (some u)) P H r1 := by
  have h := a.rs
  unfold En.put at e
  cases c : r[i]? with
  | none => rw [c] at e; cases e
  | some x =>
    rw [c] at e
    obtain ⟨hi, hs⟩ := h.get c
    have nio : ∀ d, x ≠ .io d := fun d z => by subst z; cases e
    have e1 : r1 = r.set i v.sl := by
      cases x with
      | io d => exact absurd rfl (nio d)
      | _ => exact (Option.some.inj e).symm
    subst e1
    have ownI : ∀ (j : Nat) (d : D), ((r.set i v.sl)[j]? = some (Sl.ow d) ∨ (r.set i v.sl)[j]? = some (Sl.io d)) → (j = i ∧ v = .ow d) ∨ (j ≠ i ∧ (r[j]? = some (Sl.ow d) ∨ r[j]? = some (Sl.io d))) := fun j d z => by
      rcases z with z | z
      · rcases set_get hi z with ⟨e1, e2⟩ | ⟨n, e2⟩
        · cases v with
          | sh d' => cases e2
          | ow d' => cases e2; exact .inl ⟨e1, rfl⟩
        · exact .inr ⟨n, .inl e2⟩
      · rcases set_get hi z with ⟨e1, e2⟩ | ⟨n, e2⟩
        · cases v <;> cases e2
        · exact .inr ⟨n, .inr e2⟩
    have noti : ∀ d, v = .ow d → ∃ a, u = .ref a ∧ P a = none ∧ RepO T P H a d ∧ ¬ Own σ r a ∧ H0 a = none := fun d z => by
      subst z
      exact q
    refine ⟨⟨h.sub, by rw [List.length_set, List.length_set]; exact h.len, fun j d z => ?_, fun j d z => ?_, fun j k b o1 o2 s1 s2 => ?_⟩, a.st, fun b o => ?_, fun b o => ?_, fun j d z => ?_, by rw [List.length_set]; exact a.len⟩
    · rcases set_get hi z with ⟨e1, e2⟩ | ⟨n, e2⟩
      · subst e1
        cases v with
        | sh d' => cases e2; exact ⟨u, List.getElem?_set_self hs, q⟩
        | ow d' => cases e2
      · obtain ⟨w, e3, e4⟩ := h.sh j d e2
        exact ⟨w, by rw [List.getElem?_set_ne (Ne.symm n)]; exact e3, e4⟩
    · rcases ownI j d z with ⟨e1, e2⟩ | ⟨n, e2⟩
      · subst e1
        obtain ⟨b, e3, n, ro, _⟩ := noti d e2
        exact ⟨b, by rw [List.getElem?_set_self hs, e3], n, ro⟩
      · obtain ⟨b, e3, e4, e5⟩ := h.own j d e2
        exact ⟨b, by rw [List.getElem?_set_ne (Ne.symm n)]; exact e3, e4, e5⟩
    · obtain ⟨d1, o1⟩ := o1
      obtain ⟨d2, o2⟩ := o2
      rcases ownI j d1 o1 with ⟨e1, z1⟩ | ⟨n1, z1⟩
      · subst e1
        rcases ownI k d2 o2 with ⟨e2, z2⟩ | ⟨n2, z2⟩
        · exact e2.symm
        · obtain ⟨c, e, _, _, no, _⟩ := noti d1 z1
          rw [List.getElem?_set_self hs, e] at s1
          rw [List.getElem?_set_ne (Ne.symm n2)] at s2
          cases s1
          exact absurd ⟨k, ⟨d2, z2⟩, s2⟩ no
      · rcases ownI k d2 o2 with ⟨e2, z2⟩ | ⟨n2, z2⟩
        · subst e2
          obtain ⟨c, e, _, _, no, _⟩ := noti d2 z2
          rw [List.getElem?_set_self hs, e] at s2
          rw [List.getElem?_set_ne (Ne.symm n1)] at s1
          cases s2
          exact absurd ⟨j, ⟨d1, z1⟩, s1⟩ no
        · rw [List.getElem?_set_ne (Ne.symm n1)] at s1
          rw [List.getElem?_set_ne (Ne.symm n2)] at s2
          exact h.dis j k b ⟨d1, z1⟩ ⟨d2, z2⟩ s1 s2
    · obtain ⟨j, ⟨d, o⟩, s⟩ := o
      rcases ownI j d o with ⟨e1, z⟩ | ⟨n, z⟩
      · subst e1
        obtain ⟨c, e, n, ro, _, f⟩ := noti d z
        rw [List.getElem?_set_self hs, e] at s
        cases s
        exact .inr f
      · rw [List.getElem?_set_ne (Ne.symm n)] at s
        exact a.ow b ⟨j, ⟨d, z⟩, s⟩
    · obtain ⟨j, d, o, s⟩ := o
      rcases set_get hi o with ⟨e1, e2⟩ | ⟨n, e2⟩
      · subst e1
        cases v with
        | sh d' => cases e2
        | ow d' =>
          cases e2
          obtain ⟨c, e, n, ro, _, f⟩ := noti d rfl
          rw [List.getElem?_set_self hs, e] at s
          cases s
          exact .inr f
      · rw [List.getElem?_set_ne (Ne.symm n)] at s
        exact a.ol b ⟨j, d, e2, s⟩
    · obtain ⟨⟨d', z1⟩, z2⟩ := a.io j d z
      have n : i ≠ j := fun y => by subst y; rw [c] at z1; cases z1; exact nio d' rfl
      exact ⟨⟨d', by rw [List.getElem?_set_ne n]; exact z1⟩, (List.getElem?_set_ne n).trans z2⟩
/-- a step within a statement -/
theorem AftS.step (a : AftS T σ P H r σ1 P1 H1 r1) (b : Aft T σ1 P1 H1 r1 P2 H2 r2) : AftS T σ P H r σ1 P2 H2 r2 := a.trans b.toS
/-! ### targets -/
/-- a target takes a settled thing: outside its slots nothing changes -/
def gD (T : Tb) (t : Tg) : TG := fun v σ H Q => ∃ P r d r', RS T P H σ r ∧ Rep T P d v ∧ bindT t d r = some r' ∧ ∀ σ', AftS T σ P H r σ' P H r' → σ'.length = σ.length → (∀ j, j ∉ tgS t → σ'[j]? = σ[j]?) → Q σ' H
def gDs (T : Tb) (ts : List Tg) : TGs := fun vs σ H Q => ∃ P r ds r', RS T P H σ r ∧ Reps T P ds vs ∧ bindTs ts ds r = some r' ∧ ∀ σ', AftS T σ P H r σ' P H r' → σ'.length = σ.length → (∀ j, j ∉ tgSs ts → σ'[j]? = σ[j]?) → Q σ' H
end
section
variable {X : Cx} {T : Tb}
theorem pgImp {tg : PySem.Expr} {t t' : TG} (h : PG X tg t) (k : ∀ v σ H Q, t' v σ H Q → t v σ H Q) : PG X tg t' := ⟨fun pins s σ H v u Q I r q => h.run pins s σ H v u Q I r (k _ _ _ _ q)⟩
theorem pgsImp {tg : List PySem.Expr} {t t' : TGs} (h : PGs X tg t) (k : ∀ v σ H Q, t' v σ H Q → t v σ H Q) : PGs X tg t' := ⟨fun pins s σ H v u Q I r q => h.run pins s σ H v u Q I r (k _ _ _ _ q)⟩
theorem dg_v {tg : PySem.Expr} {i : Nat} (h : PG X tg (gName i)) : PG X tg (gD T (.v i)) := pgImp h fun v σ H Q ⟨P, r, d, r', rs, rp, e, q⟩ => by
  simp only [bindT] at e
  have z := put_ok (AftS.refl rs) (v := .sh d) (show RW T σ H P H r (.sh d) v from rp) e
  exact q _ z (by rw [List.length_set]) fun j hj => by
    simp only [tgS, List.mem_singleton] at hj
    exact List.getElem?_set_ne (Ne.symm hj)
theorem dgs_nil : PGs X [] (gDs T []) := pgsImp pgs_nil fun v σ H Q ⟨P, r, ds, r', rs, rp, e, q⟩ => by
  cases ds with
  | nil =>
    simp only [bindTs, Option.some.injEq] at e
    subst e
    exact ⟨rp.of_nil, q σ (.refl rs) rfl fun _ _ => rfl⟩
  | cons d ds => simp [bindTs] at e
theorem dgs_cons {e : PySem.Expr} {es : List PySem.Expr} {t : Tg} {ts : List Tg} (h1 : PG X e (gD T t)) (h2 : PGs X es (gDs T ts)) (hs : (assignEach (e :: es) X.env).map (·.2) = assign e X.env :: (assignEach es X.env).map (·.2)) : PGs X (e :: es) (gDs T (t :: ts)) :=
  pgsImp (pgs_cons h1 h2 hs) fun v σ H Q ⟨P, r, ds, r', rs, rp, e, q⟩ => by
  cases ds with
  | nil => simp [bindTs] at e
  | cons d ds =>
    obtain ⟨u, us, rfl, p1, p2⟩ := rp.of_cons
    simp only [bindTs] at e
    cases c : bindT t d r with
    | none => rw [c] at e; cases e
    | some r1 =>
      rw [c] at e
      refine ⟨u, us, rfl, P, r, d, r1, rs, p1, c, fun σ1 a1 l1 o1 => ?_⟩
      refine ⟨P, r1, ds, r', a1.rs, p2, e, fun σ2 a2 l2 o2 => ?_⟩
      refine q σ2 (a1.trans a2) (l2.trans l1) fun j hj => ?_
      simp only [tgSs, List.mem_append, not_or] at hj
      exact (o2 j hj.2).trans (o1 j hj.1)
theorem dg_t (hc : X.calm = true) {es : List PySem.Expr} {k : Nat} {pos : Pos} {ts : List Tg} {n : Nat} (h : PGs X es (gDs T ts)) (hn : (assignEach es X.env).length = n) (hl : ts.length = n) (hst : (assignEach es X.env).findIdx? (·.1) = none) :
    PG X (.Tuple es k pos) (gD T (.t ts)) := pgImp (pg_tup hc h hn hst) fun v σ H Q ⟨P, r, d, r', rs, rp, e, q⟩ => by
  cases d with
  | tup ds =>
    simp only [bindT] at e
    simp only [Rep] at rp
    obtain ⟨a, xs, e1, h1, h2⟩ := rp
    have len : ∀ (ts : List Tg) (ds : List D) (r r' : En), bindTs ts ds r = some r' → ts.length = ds.length := by
      intro ts
      induction ts with
      | nil => intro ds r r' e; cases ds with
        | nil => rfl
        | cons _ _ => simp [bindTs] at e
      | cons t ts ih => intro ds r r' e; cases ds with
        | nil => simp [bindTs] at e
        | cons d ds =>
          simp only [bindTs] at e
          cases c : bindT t d r with
          | none => rw [c] at e; cases e
          | some r1 => rw [c] at e; simp [ih ds r1 r' e]
    refine ⟨a, xs, e1, .inl (.inl (rs.sub _ _ h1)), by rw [h2.length, ← len ts ds r r' e, hl], P, r, ds, r', rs, h2, e, fun σ' a' l o => q σ' a' l fun j hj => o j (by simpa only [tgS] using hj)⟩
  | _ => simp [bindT] at e
end
end Z
/-! ZI: what is walked; comprehensions. -/
namespace Z
open PySem PySem.Spec L2
open PyProof.Rows hiding St
/-- an iterator that gives just these things, whatever more is settled meanwhile -/
structure Wk (T : Tb) (P : Hp) (J : It) (ds : List D) : Prop where
  go : ∀ i H, i < ds.length → Ext P H → J.go i H
  stop : ∀ H, Ext P H → J.stop ds.length H
  yld : ∀ i d H x H' Pc, ds[i]? = some d → Ext P Pc → Ext Pc H → J.yld i H x H' → (H' = H ∧ Rep T Pc d x) ∨ ∃ p xs es, H p = none ∧ H' = upd H p (.tup xs) ∧ x = .ref p ∧ d = .tup es ∧ Reps T Pc es xs
theorem Wk.mono {T : Tb} {P P' : Hp} {J : It} {ds : List D} (h : Wk T P J ds) (e : Ext P P') : Wk T P' J ds :=
  ⟨fun i H l k => h.go i H l (e.trans k), fun H k => h.stop H (e.trans k), fun i d H x H' Pc l k1 k2 y => h.yld i d H x H' Pc l (e.trans k1) k2 y⟩
abbrev relI (T : Tb) : Rel (List D) It := fun _ P' _ ds J => Wk T P' J ds
theorem anti_I (T : Tb) : Anti (relI T) := fun _ _ _ _ _ _ _ q => q
def tI (T : Tb) (W : WX) (f : En → R (List D)) : TI := fun σ H R => ∃ P r, RS T P H σ r ∧ Go T W (relI T) σ P H r (f r) R
section
variable {X : Cx} {T : Tb} {W : WX} {tg l : PySem.Expr}
theorem piImp {t t' : TI} (h : PI X tg l t) (k : ∀ σ H Q, t' σ H Q → t σ H Q) : PI X tg l t' := ⟨fun pins s σ H Q I q => h.run pins s σ H Q I (k _ _ _ q)⟩
theorem sqL_inj {K : PySem.W.Frag} {H : Hp} {a : Addr} {xs ys : List V} (h : H a = some (.lst xs)) (hy : SqL K H a xs → True) : True := trivial
theorem wk_list {P : Hp} {a : Addr} {xs : List V} {ds : List D} (h : P a = some (.lst xs)) (q : Reps T P ds xs) : Wk T P (Itl T.K a) ds where
  go := fun i H hi e => by
    have z : i < xs.length := by rw [q.length]; exact hi
    exact ⟨xs, xs[i], .inl (.inl (e _ _ h)), List.getElem?_eq_getElem z⟩
  stop := fun H e => ⟨xs, .inl (.inl (e _ _ h)), by rw [q.length]; exact Nat.le_refl _⟩
  yld := fun i d H x H' Pc hd e1 e2 y => by
    obtain ⟨rfl, y⟩ := y
    obtain ⟨u, eu, ru⟩ := q.get hd
    have z := y xs (.inl (.inl (e2 _ _ (e1 _ _ h))))
    rw [eu] at z; cases z
    exact .inl ⟨rfl, Rep.ext e1 _ _ ru⟩
theorem wk_tup {P : Hp} {a : Addr} {xs : List V} {ds : List D} (h : P a = some (.tup xs)) (q : Reps T P ds xs) : Wk T P (Itt T.K a) ds where
  go := fun i H hi e => by
    have z : i < xs.length := by rw [q.length]; exact hi
    exact ⟨xs, xs[i], .inl (.inl (e _ _ h)), List.getElem?_eq_getElem z⟩
  stop := fun H e => ⟨xs, .inl (.inl (e _ _ h)), by rw [q.length]; exact Nat.le_refl _⟩
  yld := fun i d H x H' Pc hd e1 e2 y => by
    obtain ⟨rfl, y⟩ := y
    obtain ⟨u, eu, ru⟩ := q.get hd
    have z := y xs (.inl (.inl (e2 _ _ (e1 _ _ h))))
    rw [eu] at z; cases z
    exact .inl ⟨rfl, Rep.ext e1 _ _ ru⟩
/-- a list or a tuple -/
theorem di_seq (hK : X.K = T.K) {f : En → R Val} (he : PE X l (tE T W f)) : PI X tg l (tI T W fun r => (f r).bind fun v r1 => R.of (itemsD v.d) r1) := by
  refine ⟨fun pins s σ H Q I ⟨P, r, rs, go⟩ => ?_⟩
  refine thn (he.run pins s σ H _ I ⟨P, r, rs, Go.bindS rs (anti_I T) go⟩) fun v s1 ⟨x, H1, I1, r1, P1, rr, w, a1, q1, e1, go1⟩ => ?_
  cases c : w.d with
  | lst ds =>
    rw [c] at go1 q1
    simp only [Rep] at q1
    obtain ⟨a, xs, rfl, h1, h2⟩ := q1
    cases r1
    have hq : SqL X.K H1 a xs := .inl (.inl (a1.rs.sub _ _ h1))
    obtain ⟨its, rv, p, hz⟩ := I1.list hq
    refine wpAny_pyIter_list p.isList ⟨s1.heap.objs.size, [s1.heap.objs.size], _, _, H1, rfl, I1.kept (t' := s1.toks) fun b o e => Heap.get?_push_of_some _ e, turn_list a _, ⟨_, Heap.get?_push_size _ rfl, rfl, rfl⟩, fun b hb => ?_, ?_⟩
    · obtain rfl : b = s1.heap.objs.size := by simpa using hb
      exact I1.fpOk (Nat.le_refl _) (I1.hok.fresh (Nat.le_refl _))
    · rw [hK]
      exact go1 _ P1 H1 (.refl a1.rs) (wk_list h1 h2)
  | tup ds =>
    rw [c] at go1 q1
    simp only [Rep] at q1
    obtain ⟨a, xs, rfl, h1, h2⟩ := q1
    cases r1
    have hq : SqT X.K H1 a xs := .inl (.inl (a1.rs.sub _ _ h1))
    obtain ⟨its, rv, p, hz⟩ := I1.tuple hq
    refine wpAny_pyIter_tuple (show s1.heap.IsTuple a its.toArray from p) ⟨s1.heap.objs.size, [s1.heap.objs.size], _, _, H1, rfl, I1.kept (t' := s1.toks) fun b o e => Heap.get?_push_of_some _ e, turn_tuple a _, ⟨_, Heap.get?_push_size _ rfl, rfl, rfl⟩, fun b hb => ?_, ?_⟩
    · obtain rfl : b = s1.heap.objs.size := by simpa using hb
      exact I1.fpOk (Nat.le_refl _) (I1.hok.fresh (Nat.le_refl _))
    · rw [hK]
      exact go1 _ P1 H1 (.refl a1.rs) (wk_tup h1 h2)
  | _ => rw [c] at go1; exact go1.elim
theorem rangeI_get {a b : Int} {i : Nat} {d : D} (h : ((rangeI a b 1).map D.int)[i]? = some d) : d = .int (a + i) := by
  unfold rangeI at h
  rw [List.getElem?_map, List.getElem?_map] at h
  by_cases z : i < rangeN a b 1
  · rw [List.getElem?_range z] at h
    simp at h
    exact h.symm
  · rw [List.getElem?_eq_none (by simpa using Nat.le_of_not_lt z)] at h
    cases h
theorem rangeI_get' {a b : Int} {i : Nat} {d : D} (h : ((rangeI a b (-1)).map D.int)[i]? = some d) : d = .int (a + i * (-1)) := by
  unfold rangeI at h
  rw [List.getElem?_map, List.getElem?_map] at h
  by_cases z : i < rangeN a b (-1)
  · rw [List.getElem?_range z] at h
    simp at h
    rw [← h]; congr 1; omega
  · rw [List.getElem?_eq_none (by simpa using Nat.le_of_not_lt z)] at h
    cases h
theorem wk_rng (P : Hp) (a b : Int) : Wk T P (Itr a (b - a).toNat) ((rangeI a b 1).map D.int) where
  go := fun i H hi _ => by
    have z : i < (b - a).toNat := by simpa only [rangeI, rangeN, List.length_map, List.length_range, if_true] using hi
    exact z
  stop := fun H _ => by
    show (b - a).toNat ≤ _
    simp [rangeI, rangeN]
  yld := fun i d H x H' Pc hd _ _ y => by
    obtain ⟨rfl, rfl⟩ := y
    rw [rangeI_get hd]
    exact .inl ⟨rfl, by simp only [Rep]⟩
theorem wk_rngD (P : Hp) (a b : Int) : Wk T P (Itc a (-1) (a - b).toNat) ((rangeI a b (-1)).map D.int) where
  go := fun i H hi _ => by
    have z : i < (a - b).toNat := by simpa [rangeI, rangeN, -Int.lt_toNat] using hi
    exact z
  stop := fun H _ => by
    show (a - b).toNat ≤ _
    simp [rangeI, rangeN]
  yld := fun i d H x H' Pc hd _ _ y => by
    obtain ⟨rfl, rfl⟩ := y
    rw [rangeI_get' hd]
    exact .inl ⟨rfl, by simp only [Rep]⟩
section
variable {fa fb fc : En → R (Nat ⊕ D)}
theorem di_rng1 {a : PySem.Expr} {p pos : Pos} (hg : Gl X "range") (hm : X.mg "range" = none) (hs : notStar a = true) (ha : PE X a (tB T W fa)) :
    PI X tg (.Call (.Name "range" p) [a] [] pos) (tI T W fun r => (fa r).bind fun x r1 => R.of (match res r1 [x] with | some [u] => rngD [u] | _ => none) r1) := by
  refine piImp (pi_range1 hg hm (pa_cons ha pa_nil (star_one hs _ _)) (star_one hs [] X.env)) fun σ H Q ⟨P, r, rs, go⟩ => ⟨P, r, rs, (Go.bind (anti_I T) go).mono fun us H1 ⟨P1, r1, x, a1, q1, e1, go1⟩ => ?_⟩
  cases c : res r1 [x] with
  | none => rw [c] at go1; exact go1.elim
  | some ds =>
    obtain ⟨d, rfl, z1⟩ := res1 a1.rs q1 c
    rw [c] at go1
    dsimp only at go1
    cases d with
    | int n =>
      simp only [rngD] at go1
      split at go1
      · rename_i hn
        rw [sm62_iff] at hn
        refine ⟨n, by rw [z1.int], hn.1, hn.2.1, go1 _ P1 H1 (.refl a1.rs) ?_⟩
        have z := wk_rng (T := T) P1 0 n
        rw [Int.sub_zero] at z
        exact z
      · exact go1.elim
    | _ => exact go1.elim
theorem di_rng2 {a b : PySem.Expr} {p pos : Pos} (hg : Gl X "range") (hm : X.mg "range" = none) (hs : notStar a = true) (hs' : notStar b = true) (ha : PE X a (tB T W fa)) (hb : PE X b (tB T W fb)) :
    PI X tg (.Call (.Name "range" p) [a, b] [] pos) (tI T W fun r => (fa r).bind fun x r1 => (fb r1).bind fun y r2 => R.of (match res r2 [x, y] with | some [u, v] => rngD [u, v] | _ => none) r2) := by
  refine piImp (pi_range2 hg hm (pa_cons ha (pa_cons hb pa_nil (star_one hs' _ _)) (star_one hs _ _)) (by rw [star_one hs, star_one hs']; rfl) (by rw [star_one hs']; rfl)) fun σ H Q ⟨P, r, rs, go⟩ => ⟨P, r, rs, (Go.bind (anti_I T) go).mono fun u H1 ⟨P1, r1, x, a1, q1, e1, go1⟩ => ⟨P1, r1, a1.rs, (Go.bind (anti_I T) go1).mono fun v H2 ⟨P2, r2, y, a2, q2, e2, go2⟩ => ?_⟩⟩
  cases c : res r2 [x, y] with
  | none => rw [c] at go2; exact go2.elim
  | some ds =>
    obtain ⟨d, d', rfl, z1, z2⟩ := res2 a2.rs (rb2 q1 a2.st.pp q2) c
    rw [c] at go2
    dsimp only at go2
    cases d with
    | int n =>
      cases d' with
      | int m =>
        simp only [rngD] at go2
        split at go2
        · rename_i hn
          simp only [sm62_iff, Bool.and_eq_true] at hn
          exact ⟨n, m, by rw [z1.int, z2.int], ⟨hn.1.1, hn.1.2.1, hn.2.1, hn.2.2.1⟩, go2 _ P2 H2 (.refl a2.rs) (wk_rng P2 n m)⟩
        · exact go2.elim
      | _ => exact go2.elim
    | _ => exact go2.elim
theorem rb3 {σ : St} {P P1 P2 : Hp} {x y z : Nat ⊕ D} {u v w : V} (h : RB T σ P x u) (e : Ext P P1) (h' : RB T σ P1 y v) (e' : Ext P1 P2) (h2 : RB T σ P2 z w) : RBs T σ P2 [x, y, z] [u, v, w] :=
  ⟨u, _, rfl, h.ext (e.trans e'), v, _, rfl, h'.ext e', w, _, rfl, h2, rfl⟩
theorem di_rng3 {a b d : PySem.Expr} {p pos : Pos} (hg : Gl X "range") (hm : X.mg "range" = none) (hs : notStar a = true) (hs' : notStar b = true) (hs2 : notStar d = true) (ha : PE X a (tB T W fa)) (hb : PE X b (tB T W fb)) (hc : PE X d (tB T W fc)) :
    PI X tg (.Call (.Name "range" p) [a, b, d] [] pos) (tI T W fun r => (fa r).bind fun x r1 => (fb r1).bind fun y r2 => (fc r2).bind fun z r3 => R.of (match res r3 [x, y, z] with | some [u, v, w] => rngD [u, v, w] | _ => none) r3) := by
  refine piImp (pi_range3 hg hm (pa_cons ha (pa_cons hb (pa_cons hc pa_nil (star_one hs2 _ _)) (star_one hs' _ _)) (star_one hs _ _)) (star_one hs _ _) (star_all (es := [b, d]) (by simp [hs', hs2]) _ _)) fun σ H Q ⟨P, r, rs, go⟩ => ⟨P, r, rs, (Go.bind (anti_I T) go).mono fun u H1 ⟨P1, r1, x, a1, q1, e1, go1⟩ => ⟨P1, r1, a1.rs, (Go.bind (anti_I T) go1).mono fun v H2 ⟨P2, r2, y, a2, q2, e2, go2⟩ => ⟨P2, r2, a2.rs, (Go.bind (anti_I T) go2).mono fun w H3 ⟨P3, r3, z, a3, q3, e3, go3⟩ => ?_⟩⟩⟩
  cases c : res r3 [x, y, z] with
  | none => rw [c] at go3; exact go3.elim
  | some ds =>
    obtain ⟨d, d', d2, rfl, z1, z2, z3⟩ := res3 a3.rs (rb3 q1 a2.st.pp q2 a3.st.pp q3) c
    rw [c] at go3
    dsimp only at go3
    cases d with
    | int n =>
      cases d' with
      | int m =>
        cases d2 with
        | int k =>
          simp only [rngD] at go3
          split at go3
          · rename_i hn
            simp only [sm62_iff, Bool.and_eq_true, decide_eq_true_eq] at hn
            obtain ⟨⟨⟨h1, h2, _⟩, h3, h4, _⟩, h5⟩ := hn
            subst h5
            exact ⟨n, m, -1, (n - m).toNat, by rw [z1.int, z2.int, z3.int], RgC.neg h1 h2 h3 h4, go3 _ P3 H3 (.refl a3.rs) (wk_rngD P3 n m)⟩
          · exact go3.elim
        | _ => exact go3.elim
      | _ => exact go3.elim
    | _ => exact go3.elim
end
theorem wk_enum {P : Hp} {a : Addr} {xs : List V} {ds : List D} (h : P a = some (.lst xs)) (q : Reps T P ds xs) : Wk T P (Ite T.K a) (enumD ds) where
  go := fun i H hi e => by
    have z : i < xs.length := by rw [q.length]; simpa [enumD] using hi
    exact ⟨xs, xs[i], .inl (.inl (e _ _ h)), List.getElem?_eq_getElem z⟩
  stop := fun H e => ⟨xs, .inl (.inl (e _ _ h)), by rw [q.length]; simp [enumD]⟩
  yld := fun i d H x H' Pc hd e1 e2 y => by
    obtain ⟨p, z, rfl, n, rfl, y⟩ := y
    have hi : i < ds.length := by
      have := (List.getElem?_eq_some_iff.mp hd).1
      simpa [enumD] using this
    have e3 : d = .tup [.int i, ds[i]] := by
      unfold enumD at hd
      rw [List.getElem?_zipWith, List.getElem?_range hi, List.getElem?_eq_getElem hi] at hd
      exact (Option.some.inj hd).symm
    obtain ⟨u, eu, ru⟩ := q.get (List.getElem?_eq_getElem hi)
    have z1 := y xs (.inl (.inl (e2 _ _ (e1 _ _ h))))
    rw [eu] at z1; cases z1
    exact .inr ⟨p, _, _, n, rfl, rfl, e3, .cons (by simp only [Rep]) (.cons (Rep.ext e1 _ _ ru) .nil)⟩
theorem di_enum (hK : X.K = T.K) {a : PySem.Expr} {p pos tpos : Pos} {elts : List PySem.Expr} {kk : Nat} {f : En → R Val} (hg : Gl X "enumerate") (hm : X.mg "enumerate" = none) (hs : notStar a = true) (ha : PE X a (tE T W f)) :
    PI X (.Tuple elts kk tpos) (.Call (.Name "enumerate" p) [a] [] pos) (tI T W fun r => (f r).bind fun v r1 => R.of ((lstD v.d).map enumD) r1) := by
  refine piImp (pi_enum hg hm (pa_cons ha pa_nil (star_one hs _ _)) (star_one hs _ _)) fun σ H Q ⟨P, r, rs, go⟩ => ⟨P, r, rs, (Go.bindS rs (anti_I T) go).mono fun u H1 ⟨P1, r1, v, a1, q1, e1, go1⟩ => ?_⟩
  cases c : v.d with
  | lst ds =>
    rw [c] at go1 q1
    simp only [Rep] at q1
    obtain ⟨b, xs, rfl, h1, h2⟩ := q1
    refine ⟨b, xs, rfl, .inl (.inl (a1.rs.sub _ _ h1)), ?_⟩
    rw [hK]
    exact go1 _ P1 H1 (.refl a1.rs) (wk_enum h1 h2)
  | _ => rw [c] at go1; exact go1.elim
theorem wk_rev {P : Hp} {a : Addr} {xs : List V} {ds : List D} (h : P a = some (.lst xs)) (q : Reps T P ds xs) : Wk T P (Itv T.K a xs.length) ds.reverse where
  go := fun i H hi e => by
    have z : i < xs.length := by rw [q.length]; simpa using hi
    exact ⟨z, xs, xs[xs.length - 1 - i], .inl (.inl (e _ _ h)), List.getElem?_eq_getElem (by omega)⟩
  stop := fun H e => by
    show xs.length ≤ _
    rw [q.length]; simp
  yld := fun i d H x H' Pc hd e1 e2 y => by
    obtain ⟨rfl, y⟩ := y
    have hi : i < ds.length := by
      have := (List.getElem?_eq_some_iff.mp hd).1
      simpa using this
    rw [List.getElem?_reverse hi] at hd
    obtain ⟨u, eu, ru⟩ := q.get hd
    have z := y xs (.inl (.inl (e2 _ _ (e1 _ _ h))))
    rw [q.length, eu] at z; cases z
    exact .inl ⟨rfl, Rep.ext e1 _ _ ru⟩
theorem di_rev (hK : X.K = T.K) {a : PySem.Expr} {p pos : Pos} {f : En → R Val} (hg : Gl X "reversed") (hm : X.mg "reversed" = none) (hs : notStar a = true) (ha : PE X a (tE T W f)) :
    PI X tg (.Call (.Name "reversed" p) [a] [] pos) (tI T W fun r => (f r).bind fun v r1 => R.of ((lstD v.d).map List.reverse) r1) := by
  refine piImp (pi_reversed hg hm (pa_cons ha pa_nil (star_one hs _ _)) (star_one hs _ _)) fun σ H Q ⟨P, r, rs, go⟩ => ⟨P, r, rs, (Go.bindS rs (anti_I T) go).mono fun u H1 ⟨P1, r1, v, a1, q1, e1, go1⟩ => ?_⟩
  cases c : v.d with
  | lst ds =>
    rw [c] at go1 q1
    simp only [Rep] at q1
    obtain ⟨b, xs, rfl, h1, h2⟩ := q1
    refine ⟨b, xs, rfl, .inl (.inl (a1.rs.sub _ _ h1)), ?_⟩
    rw [hK]
    exact go1 _ P1 H1 (.refl a1.rs) (wk_rev h1 h2)
  | _ => rw [c] at go1; exact go1.elim
end
end Z
/-! ZJ: list comprehensions. -/
namespace Z
open PySem PySem.Spec L2
open PyProof.Rows hiding St
theorem wip_len (r : En) : ∀ vs : List Nat, (wip r vs).length = r.length
  | [] => rfl
  | v :: vs => by simp only [wip]; rw [List.length_set, wip_len r vs]
theorem wip_in (r : En) : ∀ {vs : List Nat} {j : Nat} {x : Sl}, j ∈ vs → (wip r vs)[j]? = some x → x = .no
  | [], _, _, h, _ => by cases h
  | v :: vs, j, x, h, e => by
    simp only [wip] at e
    by_cases hv : v = j
    · subst hv
      by_cases z : v < (wip r vs).length
      · rw [List.getElem?_set_self z] at e; exact (Option.some.inj e).symm
      · rw [List.getElem?_eq_none (by simpa using z)] at e; cases e
    · rw [List.getElem?_set_ne hv] at e
      rcases List.mem_cons.mp h with h | h
      · exact absurd h.symm hv
      · exact wip_in r h e
theorem wip_out (r : En) : ∀ {vs : List Nat} {j : Nat}, j ∉ vs → (wip r vs)[j]? = r[j]?
  | [], _, _ => rfl
  | v :: vs, j, h => by
    simp only [List.mem_cons, not_or] at h
    simp only [wip]
    rw [List.getElem?_set_ne (Ne.symm h.1), wip_out r h.2]
theorem back_len (r0 r : En) : ∀ vs : List Nat, (back r0 r vs).length = r.length
  | [] => rfl
  | v :: vs => by simp only [back]; rw [List.length_set, back_len r0 r vs]
theorem back_in (r0 r : En) : ∀ {vs : List Nat} {j : Nat} {x : Sl}, j ∈ vs → (back r0 r vs)[j]? = some x → x = r0.getD j .no
  | [], _, _, h, _ => by cases h
  | v :: vs, j, x, h, e => by
    simp only [back] at e
    by_cases hv : v = j
    · subst hv
      by_cases z : v < (back r0 r vs).length
      · rw [List.getElem?_set_self z] at e; exact (Option.some.inj e).symm
      · rw [List.getElem?_eq_none (by simpa using z)] at e; cases e
    · rw [List.getElem?_set_ne hv] at e
      rcases List.mem_cons.mp h with h | h
      · exact absurd h.symm hv
      · exact back_in r0 r h e
theorem back_out (r0 r : En) : ∀ {vs : List Nat} {j : Nat}, j ∉ vs → (back r0 r vs)[j]? = r[j]?
  | [], _, _ => rfl
  | v :: vs, j, h => by
    simp only [List.mem_cons, not_or] at h
    simp only [back]
    rw [List.getElem?_set_ne (Ne.symm h.1), back_out r0 r h.2]
mutual
theorem bindT_out : ∀ (t : Tg) (d : D) (r r' : En), bindT t d r = some r' → r'.length = r.length ∧ ∀ j, j ∉ tgS t → r'[j]? = r[j]?
  | .v i, d, r, r', e => by
    simp only [bindT, En.put] at e
    split at e
    · cases e
    · cases e
      refine ⟨by rw [List.length_set], fun j h => ?_⟩
      simp only [tgS, List.mem_singleton] at h
      exact List.getElem?_set_ne (Ne.symm h)
    · cases e
  | .t ts, d, r, r', e => by
    cases d with
    | tup ds =>
      simp only [bindT] at e
      obtain ⟨h1, h2⟩ := bindTs_out ts ds r r' e
      exact ⟨h1, fun j h => h2 j (by simpa only [tgS] using h)⟩
    | _ => simp [bindT] at e
theorem bindTs_out : ∀ (ts : List Tg) (ds : List D) (r r' : En), bindTs ts ds r = some r' → r'.length = r.length ∧ ∀ j, j ∉ tgSs ts → r'[j]? = r[j]?
  | [], [], r, r', e => by
    simp only [bindTs, Option.some.injEq] at e
    subst e
    exact ⟨rfl, fun _ _ => rfl⟩
  | [], _ :: _, r, r', e => by simp [bindTs] at e
  | _ :: _, [], r, r', e => by simp [bindTs] at e
  | t :: ts, d :: ds, r, r', e => by
    simp only [bindTs] at e
    cases c : bindT t d r with
    | none => rw [c] at e; cases e
    | some r1 =>
      rw [c] at e
      obtain ⟨h1, h2⟩ := bindT_out t d r r1 c
      obtain ⟨h3, h4⟩ := bindTs_out ts ds r1 r' e
      refine ⟨h3.trans h1, fun j h => ?_⟩
      simp only [tgSs, List.mem_append, not_or] at h
      exact (h4 j h.2).trans (h2 j h.1)
end
theorem nox_noexc {A : Type} (x : R A) (c : Nat) (v : D) (r : En) : x.nox ≠ .exc c v r := by cases x <;> simp [R.nox]
theorem lcL_noexc (f : D → En → R (Option D)) : ∀ (l : List D) (acc : List D) (r : En) (c : Nat) (v : D) (r' : En), lcL f l acc r ≠ .exc c v r'
  | [], acc, r, c, v, r', e => by simp [lcL] at e
  | x :: xs, acc, r, c, v, r', e => by
    simp only [lcL] at e
    cases h : (f x r).nox with
    | ok o r1 =>
      rw [h] at e
      simp only [R.bind_ok] at e
      cases o with
      | none => exact lcL_noexc f xs acc r1 c v r' e
      | some y =>
        dsimp only at e
        split at e
        · exact lcL_noexc f xs _ r1 c v r' e
        · cases e
    | exc c' v' r1 => exact nox_noexc _ _ _ _ h
    | bad => rw [h] at e; cases e
theorem nox_ok_inv {A : Type} {x : R A} {a : A} {r : En} (h : x.nox = .ok a r) : x = .ok a r := by
  cases x <;> simp [R.nox] at h ⊢; exact h
theorem lcL_inv {f : D → En → R (Option D)} {x : D} {xs acc : List D} {r r6 : En} {ds : List D} (h : lcL f (x :: xs) acc r = .ok ds r6) :
    ∃ o r1, f x r = .ok o r1 ∧ ((o = none ∧ lcL f xs acc r1 = .ok ds r6) ∨ ∃ y, o = some y ∧ acc.length < LINE ∧ lcL f xs (acc ++ [y]) r1 = .ok ds r6) := by
  simp only [lcL] at h
  cases e : (f x r).nox with
  | ok o r1 =>
    rw [e] at h
    simp only [R.bind_ok] at h
    refine ⟨o, r1, nox_ok_inv e, ?_⟩
    cases o with
    | none => exact .inl ⟨rfl, h⟩
    | some y =>
      dsimp only at h
      split at h
      · rename_i hl
        exact .inr ⟨y, rfl, hl, h⟩
      · cases h
  | exc c v r1 => rw [e] at h; cases h
  | bad => rw [e] at h; cases h
section
variable {T : Tb} {σ : St} {P H : Hp} {r : En}
theorem RS.wip (h : RS T P H σ r) (vs : List Nat) : RS T P H (wipe σ vs) (wip r vs) := by
  have get : ∀ (j : Nat) (x : Sl), (Z.wip r vs)[j]? = some x → x ≠ .no → j ∉ vs ∧ r[j]? = some x := fun j x e n => by
    by_cases z : j ∈ vs
    · exact absurd (wip_in r z e) n
    · rw [wip_out r z] at e; exact ⟨z, e⟩
  have so : ∀ j, j ∉ vs → (wipe σ vs)[j]? = σ[j]? := fun j z => L2.wipe_out z
  have own : ∀ j, OwnAt (Z.wip r vs) j → j ∉ vs ∧ OwnAt r j := fun j ⟨d, o⟩ => by
    rcases o with o | o
    · obtain ⟨z, e⟩ := get j _ o (by intro w; cases w)
      exact ⟨z, d, .inl e⟩
    · obtain ⟨z, e⟩ := get j _ o (by intro w; cases w)
      exact ⟨z, d, .inr e⟩
  refine ⟨h.sub, by rw [wip_len, L2.wipe_length]; exact h.len, fun j d e => ?_, fun j d e => ?_, fun j k a o1 o2 s1 s2 => ?_⟩
  · obtain ⟨z, e⟩ := get j _ e (by intro w; cases w)
    obtain ⟨v, e1, e2⟩ := h.sh j d e
    exact ⟨v, by rw [so j z]; exact e1, e2⟩
  · have e' : j ∉ vs ∧ (r[j]? = some (Sl.ow d) ∨ r[j]? = some (Sl.io d)) := by
      rcases e with e | e
      · obtain ⟨z, e⟩ := get j _ e (by intro w; cases w); exact ⟨z, .inl e⟩
      · obtain ⟨z, e⟩ := get j _ e (by intro w; cases w); exact ⟨z, .inr e⟩
    obtain ⟨a, e1, e2⟩ := h.own j d e'.2
    exact ⟨a, by rw [so j e'.1]; exact e1, e2⟩
  · obtain ⟨z1, o1⟩ := own j o1
    obtain ⟨z2, o2⟩ := own k o2
    rw [so j z1] at s1
    rw [so k z2] at s2
    exact h.dis j k a o1 o2 s1 s2
theorem own_wip (vs : List Nat) {a : Addr} (h : Own (wipe σ vs) (wip r vs) a) : Own σ r a := by
  obtain ⟨i, ⟨d, o⟩, s⟩ := h
  have z : i ∉ vs := fun z => by
    rcases o with o | o
    · exact nomatch wip_in r z o
    · exact nomatch wip_in r z o
  rw [wip_out r z] at o
  rw [L2.wipe_out z] at s
  exact ⟨i, ⟨d, o⟩, s⟩
theorem RS.updD (h : RS T P H σ r) {D : Addr} {o : HO} (n : P D = none) (no : ¬ Own σ r D) : RS T P (upd H D o) σ r :=
  h.grow (.refl _) (upd_sub h.sub n) fun a q => ⟨h.ownfree q, by rw [upd_ne (fun z => no (by rw [← z]; exact q))]⟩
end
def WF : WX := fun _ _ _ _ => False
section
variable {X : Cx} {T : Tb} {W : WX}
/-- the turn of a comprehension -/
def lcF (t : Tg) (fc : En → R Bool) (fe : En → R Val) (vs : List Nat) (x : D) (r2 : En) : R (Option D) :=
  (R.of (bindT t x (wip r2 vs)) r2).bind fun r3 _ => (fc r3).bind fun k r4 => if k = true then (fe r4).bind fun v r5 => .ok (some v.d) r5 else .ok none r4
theorem lcF_inv {t : Tg} {fc : En → R Bool} {fe : En → R Val} {vs : List Nat} {x : D} {r2 r5 : En} {o : Option D} (h : lcF t fc fe vs x r2 = .ok o r5) :
    ∃ r3 k r4, bindT t x (wip r2 vs) = some r3 ∧ fc r3 = .ok k r4 ∧ ((k = false ∧ o = none ∧ r5 = r4) ∨ (k = true ∧ ∃ v, fe r4 = .ok v r5 ∧ o = some v.d)) := by
  unfold lcF at h
  cases c : bindT t x (wip r2 vs) with
  | none => rw [c] at h; cases h
  | some r3 =>
    rw [c] at h
    simp only [R.of_some, R.bind_ok] at h
    cases c2 : fc r3 with
    | ok k r4 =>
      rw [c2] at h
      simp only [R.bind_ok] at h
      refine ⟨r3, k, r4, rfl, c2, ?_⟩
      cases k with
      | false =>
        simp only [Bool.false_eq_true, if_false] at h
        cases h
        exact .inl ⟨rfl, rfl, rfl⟩
      | true =>
        simp only [if_true] at h
        cases c3 : fe r4 with
        | ok v r6 =>
          rw [c3] at h
          simp only [R.bind_ok] at h
          cases h
          exact .inr ⟨rfl, v, rfl, rfl⟩
        | exc _ _ _ => rw [c3] at h; cases h
        | bad => rw [c3] at h; cases h
    | exc _ _ _ => rw [c2] at h; cases h
    | bad => rw [c2] at h; cases h
theorem de_lc {elt tg iter : PySem.Expr} {ifs : List PySem.Expr} {scope : Scope} {own : List (Str × Nat)} {pos : Pos} {fi : En → R (List D)} {t : Tg} {fc : En → R Bool} {fe : En → R Val}
    (hc : X.calm = true) (hN : X.N.Nodup) (hi : PI X tg iter (tI T W fi)) (ok : BlkOk X.N X.env.scope scope own)
    (hg : ∀ (s : Shared) (H : Hp) (C : Addr) (cl : List (Str × Addr)) (fp : List Addr), PG (X.blk s H scope (compEnvC scope cl C X.env) fp) tg (gD T t))
    (ht : ∀ (s : Shared) (H : Hp) (C : Addr) (cl : List (Str × Addr)) (fp : List Addr), PTs (X.blk s H scope (compEnvC scope cl C X.env) fp) ifs (tK T WF fc))
    (he : ∀ (s : Shared) (H : Hp) (C : Addr) (cl : List (Str × Addr)) (fp : List Addr), PE (X.blk s H scope (compEnvC scope cl C X.env) fp) elt (tE T WF fe))
    (hs : ∀ x, foldedSetIterable iter X.env x = pure x) :
    ∀ (σ : St) (H : Hp) (Q : VK), tE T W (fun r => (fi r).bind fun l r1 => if ownFree r1 (own.map (·.2)) && (tgS t).all (own.map (·.2)).contains then
      (lcL (lcF t fc fe (own.map (·.2))) l [] (wip r1 (own.map (·.2)))).bind fun ds r6 => thawL r ds (back r1 r6 (own.map (·.2))) else .bad) σ H Q →
      tLc (tI T W fi) (gD T t) (tK T WF fc) (tE T WF fe) (own.map (·.2)) σ H Q := by
  intro σ H Q ⟨P, r, rs, go⟩
  generalize own.map (·.2) = vs at go ⊢
  have gox := go
  refine ⟨P, r, rs, (Go.bind (anti_V T) go).mono fun J H1 ⟨P1, r1, l, a1, wk, e1, go1⟩ => ?_⟩
  by_cases cond : (ownFree r1 vs && (tgS t).all vs.contains) = true
  rotate_left
  · rw [if_neg cond] at go1; exact go1.elim
  rw [if_pos cond] at go1
  have condx := cond
  rw [Bool.and_eq_true] at cond
  obtain ⟨of, tin⟩ := cond
  have tin' : ∀ j, j ∈ tgS t → j ∈ vs := fun j h => by
    have z := List.all_eq_true.mp tin j h
    simpa using z
  intro D nD
  have hok : ∃ ds r6, lcL (lcF t fc fe vs) l [] (wip r1 vs) = .ok ds r6 := by
    cases c : lcL (lcF t fc fe vs) l [] (wip r1 vs) with
    | ok ds r6 => exact ⟨ds, r6, rfl⟩
    | exc c' v r' => exact absurd c (lcL_noexc _ _ _ _ _ _ _)
    | bad => rw [c] at go1; exact go1.elim
  obtain ⟨ds, r6, hok⟩ := hok
  have rs1 := a1.rs
  have nP : P1 D = none := rs1.sub.free nD
  have nO : ¬ Own σ r1 D := fun o => by
    obtain ⟨x, e⟩ := rs1.ownsome o
    rw [nD] at e; cases e
  -- the word of the loop
  let Pv : Nat → Hp → Prop := fun i H' => ∃ P' r2 acc accV, lcL (lcF t fc fe vs) (l.drop i) acc r2 = .ok ds r6 ∧ RS T P' H' (wipe σ vs) (wip r2 vs) ∧
    Stp (fun b => Own (wipe σ vs) (wip r1 vs) b ∨ b = D) P1 (upd H1 D (.lst [])) P' H' ∧ r2.length = r1.length ∧ (∀ (j : Nat) (x x' : Sl), j ∉ vs → r1[j]? = some x → r2[j]? = some x' → kle x x') ∧
    H' D = some (.lst accV) ∧ Reps T P' acc accV ∧ P' D = none
  have ownK : ∀ {r2 : En}, r2.length = r1.length → (∀ (j : Nat) (x x' : Sl), j ∉ vs → r1[j]? = some x → r2[j]? = some x' → kle x x') → ∀ b, Own (wipe σ vs) (wip r2 vs) b → Own (wipe σ vs) (wip r1 vs) b := fun {r2} hl hk b ⟨j, ⟨d, o⟩, s⟩ => by
    have z : j ∉ vs := fun z => by
      rcases o with o | o
      · exact nomatch wip_in r2 z o
      · exact nomatch wip_in r2 z o
    rw [wip_out r2 z] at o
    have hj : j < r1.length := by
      rw [← hl]
      rcases o with o | o <;> exact (List.getElem?_eq_some_iff.mp o).1
    have q := List.getElem?_eq_getElem hj
    refine ⟨j, ?_, s⟩
    rcases o with o | o
    · have w := hk j _ _ z q o
      cases c : r1[j] with
      | ow d' => exact ⟨d', .inl (by rw [wip_out r1 z, q, c])⟩
      | _ => rw [c] at w; exact False.elim w
    · have w := hk j _ _ z q o
      cases c : r1[j] with
      | io d' => exact ⟨d', .inr (by rw [wip_out r1 z, q, c])⟩
      | _ => rw [c] at w; exact False.elim w
  refine ⟨fun i m H' => m = l.length - i ∧ i ≤ l.length ∧ Pv i H', ⟨l.length, by simp, Nat.zero_le _, ?_⟩, ?_⟩
  · refine ⟨P1, wip r1 vs, [], [], by rw [List.drop_zero]; exact hok, ?_, .refl, wip_len r1 vs, fun j x x' z h1 h2 => ?_, upd_same, .nil, nP⟩
    · have z := (Aft.laidO (o := .lst []) rs1 nD).rs.wip vs
      have e : wip (wip r1 vs) vs = wip r1 vs := by
        apply List.ext_getElem?
        intro j
        by_cases z : j ∈ vs
        · by_cases hj : j < r1.length
          · have h1 : j < (wip (wip r1 vs) vs).length := by rw [wip_len, wip_len]; exact hj
            have h2 : j < (wip r1 vs).length := by rw [wip_len]; exact hj
            rw [List.getElem?_eq_getElem h1, List.getElem?_eq_getElem h2, wip_in _ z (List.getElem?_eq_getElem h1), wip_in _ z (List.getElem?_eq_getElem h2)]
          · rw [List.getElem?_eq_none (by rw [wip_len, wip_len]; omega), List.getElem?_eq_none (by rw [wip_len]; omega)]
        · rw [wip_out _ z]
      rw [e]
      exact z
    · rw [wip_out r1 z, h1] at h2
      cases h2
      exact kle.refl x
  · rintro i m H' ⟨rfl, hi, P', r2, acc, accV, heq, rs2, st2, len2, kd2, hD, hacc, pD⟩
    by_cases hlt : i < l.length
    · refine .inr ⟨wk.go i H' hlt (st2.pp.trans rs2.sub), Pv (i + 1), fun H2 pv => ⟨l.length - (i + 1), by omega, rfl, hlt, pv⟩, fun x H2 y => ?_⟩
      rw [List.drop_eq_getElem_cons hlt] at heq
      obtain ⟨o, r5, hf, hrest⟩ := lcL_inv heq
      obtain ⟨r3, k, r4, hb, hfc, hfe⟩ := lcF_inv hf
      -- the item
      have hyl : ∃ Pc, Aft T (wipe σ vs) P' H' (wip r2 vs) Pc H2 (wip r2 vs) ∧ Rep T Pc l[i] x := by
        rcases wk.yld i l[i] H' x H2 P' (List.getElem?_eq_getElem hlt) st2.pp rs2.sub y with ⟨rfl, rp⟩ | ⟨p, xs, es, np, rfl, rfl, e2, rp⟩
        · exact ⟨P', .refl rs2, rp⟩
        · refine ⟨upd P' p (.tup xs), Aft.laid rs2 np, ?_⟩
          rw [e2]
          simp only [Rep]
          exact ⟨p, xs, rfl, upd_same, Reps.ext (upd_ext (rs2.sub.free np)) _ _ rp⟩
      obtain ⟨Pc, ac, rx⟩ := hyl
      have nOw : ¬ Own (wipe σ vs) (wip r2 vs) D := fun o => nO (own_wip vs (ownK len2 kd2 D o))
      have hD2 : H2 D = some (.lst accV) := ac.st.fr _ _ hD nOw
      have pD2 : Pc D = none := by
        cases c : Pc D with
        | none => rfl
        | some o =>
          rcases ac.st.nw D (by rw [c]; intro z; cases z) with z | z | z
          · exact absurd pD z
          · rw [hD] at z; cases z
          · exact absurd z nOw
      refine ⟨Pc, wip r2 vs, l[i], r3, ac.rs, rx, hb, fun σ2 aS ls os => ⟨?_, ?_⟩⟩
      · apply List.ext_getElem?
        intro j
        by_cases z : j ∈ vs
        · have both : ∀ τ : St, j < τ.length → (wipe τ vs)[j]? = some none := fun τ hj => by
            have h1 : j < (wipe τ vs).length := by rw [L2.wipe_length]; exact hj
            rw [List.getElem?_eq_getElem h1]
            cases c : (wipe τ vs)[j] with
            | none => rfl
            | some v =>
              have w : (wipe τ vs)[j]? = some (some v) := by rw [List.getElem?_eq_getElem h1, c]
              exact absurd z (L2.wipe_some w).2
          have ls' : σ2.length = σ.length := by rw [ls, L2.wipe_length]
          by_cases hj : j < σ.length
          · rw [both σ2 (by rw [ls']; exact hj), both σ hj]
          · rw [List.getElem?_eq_none (by rw [L2.wipe_length, ls']; omega), List.getElem?_eq_none (by rw [L2.wipe_length]; omega)]
        · rw [L2.wipe_out z, os j (fun w => z (tin' j w))]
      · have bo := bindT_out t l[i] (wip r2 vs) r3 hb
        have no3 : ¬ Own σ2 r3 D := fun o => by
          rcases aS.ow D o with z | z
          · exact nOw z
          · rw [hD2] at z; cases z
        refine ⟨Pc, r3, aS.rs, ?_⟩
        rw [hfc]
        intro k' P4 H4 a4 ek
        subst ek
        have hD4 : H4 D = some (.lst accV) := a4.st.fr _ _ hD2 no3
        have pD4 : P4 D = none := by
          cases c : P4 D with
          | none => rfl
          | some o =>
            rcases a4.st.nw D (by rw [c]; intro z; cases z) with z | z | z
            · exact absurd pD2 z
            · rw [hD2] at z; cases z
            · exact absurd z no3
        have no4 : ¬ Own σ2 r4 D := fun o => no3 (a4.kd.owns o)
        have wσ : wipe σ2 vs = wipe σ vs := by
          apply List.ext_getElem?
          intro j
          by_cases z : j ∈ vs
          · have both : ∀ τ : St, j < τ.length → (wipe τ vs)[j]? = some none := fun τ hj => by
              have h1 : j < (wipe τ vs).length := by rw [L2.wipe_length]; exact hj
              rw [List.getElem?_eq_getElem h1]
              cases c : (wipe τ vs)[j] with
              | none => rfl
              | some v =>
                have w : (wipe τ vs)[j]? = some (some v) := by rw [List.getElem?_eq_getElem h1, c]
                exact absurd z (L2.wipe_some w).2
            have ls' : σ2.length = σ.length := by rw [ls, L2.wipe_length]
            by_cases hj : j < σ.length
            · rw [both σ2 (by rw [ls']; exact hj), both σ hj]
            · rw [List.getElem?_eq_none (by rw [L2.wipe_length, ls']; omega), List.getElem?_eq_none (by rw [L2.wipe_length]; omega)]
          · rw [L2.wipe_out z, os j (fun w => z (tin' j w))]
        -- from the turn's start to any later point
        have chain : ∀ {P5 H5 : Hp} {r5 : En}, Aft T σ2 Pc H2 r3 P5 H5 r5 → RS T P5 H5 (wipe σ vs) (wip r5 vs) ∧ Stp (fun b => Own (wipe σ vs) (wip r1 vs) b ∨ b = D) P1 (upd H1 D (.lst [])) P5 H5 ∧ r5.length = r1.length ∧
            (∀ (j : Nat) (x x' : Sl), j ∉ vs → r1[j]? = some x → r5[j]? = some x' → kle x x') := fun {P5 H5 r5} a5 => by
          refine ⟨by rw [← wσ]; exact a5.rs.wip vs, ?_, ?_, ?_⟩
          · refine (st2.trans ac.st fun c h => .inl (.inl (ownK len2 kd2 c h))).trans a5.st fun c h => ?_
            rcases aS.ow c h with z | z
            · exact .inl (.inl (ownK len2 kd2 c z))
            · exact .inr (st2.dm c (ac.st.dm c z))
          · rw [a5.kd.1, bo.1, wip_len, len2]
          · intro j x x' z h1 h2
            have hj : j < r2.length := by rw [len2]; exact (List.getElem?_eq_some_iff.mp h1).1
            have q2 := List.getElem?_eq_getElem hj
            have q3 : r3[j]? = some r2[j] := by rw [bo.2 j (fun w => z (tin' j w)), wip_out r2 z, q2]
            exact (kd2 j x _ z h1 q2).trans (a5.kd.2 j _ x' q3 h2)
        rcases hfe with ⟨rfl, rfl, rfl⟩ | ⟨rfl, v, hfe, rfl⟩
        · rw [if_neg Bool.false_ne_true]
          obtain ⟨c1, c2, c3, c4⟩ := chain a4
          rcases hrest with ⟨_, hr⟩ | ⟨_, z, _⟩
          · exact ⟨P4, r5, acc, accV, hr, c1, c2, c3, c4, hD4, Reps.ext (ac.st.pp.trans a4.st.pp) _ _ hacc, pD4⟩
          · cases z
        · rw [if_pos rfl]
          refine ⟨P4, r4, a4.rs, ?_⟩
          rw [hfe]
          intro u P5 H5 a5 rv
          obtain ⟨P6, a6, ex6, rp⟩ := RV.settle a4.rs a5 rv
          rcases hrest with ⟨z, _⟩ | ⟨y', ey, hlen, hr⟩
          · cases z
          cases ey
          have hD5 : H5 D = some (.lst accV) := a5.st.fr _ _ hD4 no4
          have a36 := a4.trans a6
          obtain ⟨c1, c2, c3, c4⟩ := chain a36
          have pD6 : P6 D = none := by
            cases c : P6 D with
            | none => rfl
            | some o =>
              rcases a6.st.nw D (by rw [c]; intro z; cases z) with z | z | z
              · exact absurd pD4 z
              · rw [hD4] at z; cases z
              · exact absurd z no4
          have nOw5 : ¬ Own (wipe σ vs) (wip r5 vs) D := fun o => nO (own_wip vs (ownK c3 c4 D o))
          refine ⟨accV, hD5, by rw [hacc.length, ← LINE_eq]; exact hlen, P6, r5, acc ++ [v.d], accV ++ [u], hr, c1.updD pD6 nOw5, ⟨c2.pp, fun b o e n => ?_, fun b e => ?_, c2.nw⟩, c3, c4, upd_same, ?_, pD6⟩
          · have nb : b ≠ D := fun z => n (.inr z)
            rw [upd_ne nb]
            exact c2.fr b o e n
          · by_cases z : b = D
            · subst z; rw [upd_same] at e; cases e
            · rw [upd_ne z] at e; exact c2.dm b e
          · exact (Reps.ext (ac.st.pp.trans (a4.st.pp.trans a6.st.pp)) _ _ hacc).append (.cons rp .nil)
    · have ei : i = l.length := by omega
      subst ei
      refine .inl ⟨wk.stop H' (st2.pp.trans rs2.sub), ?_⟩
      rw [List.drop_length] at heq
      simp only [lcL] at heq
      rw [hok] at go1
      simp only [R.bind_ok] at go1
      obtain ⟨rfl, rfl⟩ : ds = acc ∧ r6 = r2 := by injection heq with h1 h2; exact ⟨h1.symm, h2.symm⟩
      -- back
      have get : ∀ (j : Nat) (x : Sl), (back r1 r6 vs)[j]? = some x → (j ∈ vs ∧ r1[j]? = some x) ∨ (j ∉ vs ∧ (wip r6 vs)[j]? = some x) := fun j x e => by
        by_cases z : j ∈ vs
        · have hj : j < r1.length := by rw [← len2, ← back_len r1 r6 vs]; exact (List.getElem?_eq_some_iff.mp e).1
          have w := back_in r1 r6 z e
          rw [List.getD_eq_getElem?_getD, List.getElem?_eq_getElem hj] at w
          exact .inl ⟨z, by rw [List.getElem?_eq_getElem hj, w]; rfl⟩
        · rw [back_out r1 r6 z] at e
          exact .inr ⟨z, by rw [wip_out r6 z]; exact e⟩
      have nio : ∀ j d, j ∈ vs → r1[j]? ≠ some (Sl.io d) := fun j d h e => by
        have z := List.all_eq_true.mp of j h
        rw [e] at z
        cases z
      have so : ∀ j, j ∉ vs → (wipe σ vs)[j]? = σ[j]? := fun j z => L2.wipe_out z
      have hid : ∀ j a, j ∈ vs → OwnAt r1 j → σ[j]? = some (some (.ref a)) → ¬ Own (wipe σ vs) (wip r1 vs) a ∧ a ≠ D := fun j a z o s => by
        refine ⟨fun ⟨k, ⟨d, w⟩, sk⟩ => ?_, fun e => nO (by rw [← e]; exact ⟨j, o, s⟩)⟩
        have zk : k ∉ vs := fun y => by
          rcases w with w | w
          · exact nomatch wip_in r1 y w
          · exact nomatch wip_in r1 y w
        rw [wip_out r1 zk] at w
        rw [so k zk] at sk
        have := rs1.dis j k a o ⟨d, w⟩ s sk
        exact zk (this ▸ z)
      have hold : ∀ j a, j ∈ vs → OwnAt r1 j → σ[j]? = some (some (.ref a)) → H' a = H1 a ∧ P' a = none := fun j a z o s => by
        obtain ⟨h1, h2⟩ := hid j a z o s
        have o1 : Own σ r1 a := ⟨j, o, s⟩
        obtain ⟨x, hx⟩ := rs1.ownsome o1
        have n1 : ¬ (Own (wipe σ vs) (wip r1 vs) a ∨ a = D) := fun w => w.elim h1 h2
        refine ⟨by rw [hx]; exact st2.fr a x (by rw [upd_ne h2]; exact hx) n1, ?_⟩
        cases c : P' a with
        | none => rfl
        | some y =>
          rcases st2.nw a (by rw [c]; intro w; cases w) with w | w | w
          · exact absurd (rs1.ownfree o1) w
          · rw [upd_ne h2, hx] at w; cases w
          · exact absurd w n1
      have ownB : ∀ (j : Nat), OwnAt (back r1 r6 vs) j → (j ∈ vs ∧ OwnAt r1 j) ∨ (j ∉ vs ∧ OwnAt (wip r6 vs) j) := fun j ⟨d, o⟩ => by
        rcases o with o | o
        · rcases get j _ o with ⟨z, e⟩ | ⟨z, e⟩
          · exact .inl ⟨z, d, .inl e⟩
          · exact .inr ⟨z, d, .inl e⟩
        · rcases get j _ o with ⟨z, e⟩ | ⟨z, e⟩
          · exact .inl ⟨z, d, .inr e⟩
          · exact .inr ⟨z, d, .inr e⟩
      have ownB1 : ∀ j, OwnAt (back r1 r6 vs) j → OwnAt r1 j := fun j o => by
        rcases ownB j o with ⟨z, o⟩ | ⟨z, ⟨d, o⟩⟩
        · exact o
        · rw [wip_out r6 z] at o
          have hj : j < r1.length := by
            rw [← len2]
            rcases o with o | o <;> exact (List.getElem?_eq_some_iff.mp o).1
          have q := List.getElem?_eq_getElem hj
          rcases o with o | o
          · have w := kd2 j _ _ z q o
            cases c : r1[j] with
            | ow d' => exact ⟨d', .inl (by rw [q, c])⟩
            | _ => rw [c] at w; exact False.elim w
          · have w := kd2 j _ _ z q o
            cases c : r1[j] with
            | io d' => exact ⟨d', .inr (by rw [q, c])⟩
            | _ => rw [c] at w; exact False.elim w
      have aft : Aft T σ P1 H1 r1 P' H' (back r1 r6 vs) := by
        refine ⟨⟨rs2.sub, by rw [back_len, len2]; exact rs1.len, fun j d e => ?_, fun j d e => ?_, fun j k a o1 o2 s1 s2 => ?_⟩, ⟨st2.pp, fun b o e n => ?_, fun b e => ?_, fun b e => ?_⟩, ⟨by rw [back_len, len2], fun j x x' h1 h2 => ?_⟩⟩
        · rcases get j _ e with ⟨z, e⟩ | ⟨z, e⟩
          · obtain ⟨v, e1, e2⟩ := rs1.sh j d e
            exact ⟨v, e1, Rep.ext st2.pp _ _ e2⟩
          · obtain ⟨v, e1, e2⟩ := rs2.sh j d e
            exact ⟨v, by rw [← so j z]; exact e1, e2⟩
        · have e' : (j ∈ vs ∧ (r1[j]? = some (Sl.ow d) ∨ r1[j]? = some (Sl.io d))) ∨ (j ∉ vs ∧ ((wip r6 vs)[j]? = some (Sl.ow d) ∨ (wip r6 vs)[j]? = some (Sl.io d))) := by
            rcases e with e | e
            · rcases get j _ e with ⟨z, e⟩ | ⟨z, e⟩
              · exact .inl ⟨z, .inl e⟩
              · exact .inr ⟨z, .inl e⟩
            · rcases get j _ e with ⟨z, e⟩ | ⟨z, e⟩
              · exact .inl ⟨z, .inr e⟩
              · exact .inr ⟨z, .inr e⟩
          rcases e' with ⟨z, e⟩ | ⟨z, e⟩
          · obtain ⟨a, e1, e2, e3⟩ := rs1.own j d e
            obtain ⟨h1, h2⟩ := hold j a z ⟨d, e⟩ e1
            exact ⟨a, e1, h2, e3.move st2.pp h1⟩
          · obtain ⟨a, e1, e2, e3⟩ := rs2.own j d e
            exact ⟨a, by rw [← so j z]; exact e1, e2, e3⟩
        · exact rs1.dis j k a (ownB1 j o1) (ownB1 k o2) s1 s2
        · have nb : b ≠ D := fun z => by rw [z, nD] at e; cases e
          exact st2.fr b o (by rw [upd_ne nb]; exact e) fun w => w.elim (fun q => n (own_wip vs q)) nb
        · have := st2.dm b e
          by_cases z : b = D
          · subst z; exact nD
          · rw [upd_ne z] at this; exact this
        · rcases st2.nw b e with w | w | w | w
          · exact .inl w
          · by_cases z : b = D
            · subst z; exact .inr (.inl nD)
            · rw [upd_ne z] at w; exact .inr (.inl w)
          · exact .inr (.inr (own_wip vs w))
          · subst w; exact absurd pD e
        · rcases get j _ h2 with ⟨z, e⟩ | ⟨z, e⟩
          · rw [h1] at e; cases e; exact kle.refl x
          · rw [wip_out r6 z] at e
            exact kd2 j x x' z h1 e
      have aft0 : Aft T σ P H r P' H' (back r1 r6 vs) := a1.trans aft
      have go2 : Go T W (relV T) σ P H r (thawL r ds (back r1 r6 vs)) Q := by
        dsimp only at gox
        rw [e1, R.bind_ok, if_pos condx, hok, R.bind_ok] at gox
        exact gox
      have rv : RV T H P' H' (.ow (.lst ds)) (.ref D) := ⟨D, rfl, pD, ⟨accV, hD, hacc⟩, a1.st.dm D nD⟩
      unfold thawL at go2
      by_cases fl : ds.all flat = true
      · rw [if_pos fl] at go2
        cases cw : thw r (back r1 r6 vs) with
        | none => rw [cw] at go2; exact go2 (.ref D) P' H' aft0 rv
        | some r2 =>
          rw [cw] at go2
          refine go2 (.ref D) P H' (thw_ok rs aft0 cw) ⟨D, rfl, ?_, ⟨accV, hD, flats_rep fl hacc⟩, a1.st.dm D nD⟩
          cases z : P D with
          | none => rfl
          | some w => rw [aft0.st.pp _ _ z] at pD; cases pD
      · rw [if_neg fl] at go2
        exact go2 (.ref D) P' H' aft0 rv
end
end Z
/-! ZK: statements. -/
namespace Z
open PySem PySem.Spec L2
open PyProof.Rows hiding St
/-- what is handed back: a settled thing, a new one, or one that a local name owned -/
def RL (T : Tb) (σ : St) (r : En) (H P' H' : Hp) (v : Val) (u : V) : Prop :=
  match v with
  | .sh d => Rep T P' d u
  | .ow d => ∃ a, u = .ref a ∧ P' a = none ∧ RepO T P' H' a d ∧ (H a = none ∨ OwnL σ r a)
def GoS (T : Tb) (W : WX) (σ : St) (P H : Hp) (r : En) (o : O) (D : Ends) : Prop :=
  match o with
  | .nx r' => ∀ σ' P' H', AftS T σ P H r σ' P' H' r' → D.nx σ' H'
  | .ret v r' => ∀ u σ' P' H', AftS T σ P H r σ' P' H' r' → RL T σ r H P' H' v u → D.rt u H'
  | .brk r' => ∀ σ' P' H', AftS T σ P H r σ' P' H' r' → D.bk σ' H'
  | .cnt r' => ∀ σ' P' H', AftS T σ P H r σ' P' H' r' → D.ct σ' H'
  | .exc c d r' => ∀ u σ' P' H', AftS T σ P H r σ' P' H' r' → Rep T P' d u → W c u σ' H'
  | .bad => False
section
variable {T : Tb} {W : WX} {σ σ1 : St} {P H P1 H1 : Hp} {r r1 : En} {o : O} {D : Ends}
theorem RL.back (a : AftS T σ P H r σ1 P1 H1 r1) {P' H' : Hp} {v : Val} {u : V} (h : RL T σ1 r1 H1 P' H' v u) : RL T σ r H P' H' v u := by
  cases v with
  | sh d => exact h
  | ow d =>
    obtain ⟨b, e, n, ro, f⟩ := h
    refine ⟨b, e, n, ro, ?_⟩
    rcases f with f | f
    · exact .inl (a.st.dm b f)
    · exact (a.ol b f).symm
theorem GoS.step (a : AftS T σ P H r σ1 P1 H1 r1) (h : GoS T W σ P H r o D) : GoS T W σ1 P1 H1 r1 o D := by
  cases o with
  | nx r' => exact fun σ' P' H' b => h σ' P' H' (a.trans b)
  | ret v r' => exact fun u σ' P' H' b q => h u σ' P' H' (a.trans b) (q.back a)
  | brk r' => exact fun σ' P' H' b => h σ' P' H' (a.trans b)
  | cnt r' => exact fun σ' P' H' b => h σ' P' H' (a.trans b)
  | exc c d r' => exact fun u σ' P' H' b q => h u σ' P' H' (a.trans b) q
  | bad => exact h
theorem GoS.then {g : En → O} (h : GoS T W σ P H r (o.then g) D) :
    GoS T W σ P H r o { D with nx := fun σ1 H1 => ∃ P1 r1, AftS T σ P H r σ1 P1 H1 r1 ∧ o = .nx r1 ∧ GoS T W σ1 P1 H1 r1 (g r1) D } := by
  cases o with
  | nx r' => exact fun σ' P' H' b => ⟨P', r', b, rfl, GoS.step b h⟩
  | ret v r' => exact h
  | brk r' => exact h
  | cnt r' => exact h
  | exc c d r' => exact h
  | bad => exact h
theorem GoS.mono {D' : Ends} (h : GoS T W σ P H r o D) (k1 : ∀ σ H, D.nx σ H → D'.nx σ H) (k2 : ∀ u H, D.rt u H → D'.rt u H) (k3 : ∀ σ H, D.bk σ H → D'.bk σ H) (k4 : ∀ σ H, D.ct σ H → D'.ct σ H) : GoS T W σ P H r o D' := by
  cases o with
  | nx r' => exact fun σ' P' H' b => k1 _ _ (h σ' P' H' b)
  | ret v r' => exact fun u σ' P' H' b q => k2 _ _ (h u σ' P' H' b q)
  | brk r' => exact fun σ' P' H' b => k3 _ _ (h σ' P' H' b)
  | cnt r' => exact fun σ' P' H' b => k4 _ _ (h σ' P' H' b)
  | exc c d r' => exact h
  | bad => exact h
/-- an expression ahead of a statement's end -/
theorem GoS.run {A B : Type} {rel : Rel A B} {x : R A} {g : A → En → O} (h : GoS T W σ P H r (x.run g) D) :
    Go T W rel σ P H r x fun u H1 => ∃ P1 r1 v, Aft T σ P H r P1 H1 r1 ∧ rel H P1 H1 v u ∧ x = .ok v r1 ∧ GoS T W σ P1 H1 r1 (g v r1) D := by
  cases x with
  | ok v r' => exact fun u P' H' b q => ⟨P', r', v, b, q, rfl, GoS.step b.toS h⟩
  | exc c d r' => exact fun u P' H' b q => h u σ P' H' b.toS q
  | bad => exact h
/-- .. settled -/
theorem GoS.runS {x : R Val} {g : Val → En → O} (rs : RS T P H σ r) (h : GoS T W σ P H r (x.run g) D) :
    Go T W (relV T) σ P H r x fun u H1 => ∃ P1 r1 v, Aft T σ P H r P1 H1 r1 ∧ Rep T P1 v.d u ∧ x = .ok v r1 ∧ GoS T W σ P1 H1 r1 (g v r1) D := by
  refine (GoS.run h).mono fun u H1 ⟨P1, r1, v, a, q, e, h1⟩ => ?_
  obtain ⟨P2, a2, ex, rp⟩ := RV.settle rs a q
  refine ⟨P2, r1, v, a2, rp, e, ?_⟩
  subst e
  exact GoS.step a2.toS h
/-- .. with the slots' start kept: an owned value may be stored -/
theorem GoS.runW {x : R Val} {g : Val → En → O} (rs : RS T P H σ r) (h : GoS T W σ P H r (x.run g) D) :
    Go T W (relV T) σ P H r x fun u H1 => ∃ P1 r1 v, Aft T σ P H r P1 H1 r1 ∧ RW T σ H P1 H1 r1 v u ∧ x = .ok v r1 ∧ GoS T W σ P H r (g v r1) D := by
  refine (GoS.run h).mono fun u H1 ⟨P1, r1, v, a, q, e, h1⟩ => ⟨P1, r1, v, a, q.rw fun b o e => ?_, e, ?_⟩
  · obtain ⟨x, w⟩ := rs.ownsome (a.kd.owns o)
    rw [e] at w; cases w
  · subst e; exact h
end
/-- a statement's reading -/
def tD (T : Tb) (W : WX) (f : En → O) : TS := fun D σ H => ∃ P r, RS T P H σ r ∧ GoS T W σ P H r (f r) D
section
variable {X : Cx} {T : Tb} {W : WX} {st : Stmt}
theorem psImp {t t' : TS} (h : PS X st t) (k : ∀ D σ H, t' D σ H → t D σ H) : PS X st t' := ⟨fun pins s σ H D I q => h.run pins s σ H D I (k _ _ _ q)⟩
theorem pssImp {sts : List Stmt} {t t' : TS} (h : PSs X sts t) (k : ∀ D σ H, t' D σ H → t D σ H) : PSs X sts t' := ⟨fun pins s σ H D I q => h.run pins s σ H D I (k _ _ _ q)⟩
theorem dss_nil : PSs X [] (tD T W fun r => .nx r) := pssImp pss_nil fun D σ H ⟨P, r, rs, go⟩ => go σ P H (.refl rs)
theorem dss_cons {sts : List Stmt} {f g : En → O} (h1 : PS X st (tD T W f)) (h2 : PSs X sts (tD T W g)) : PSs X (st :: sts) (tD T W fun r => (f r).then g) :=
  pssImp (pss_cons h1 h2) fun D σ H ⟨P, r, rs, go⟩ => ⟨P, r, rs, (GoS.then go).mono (fun σ1 H1 ⟨P1, r1, a, _, q⟩ => ⟨P1, r1, a.rs, q⟩) (fun _ _ h => h) (fun _ _ h => h) (fun _ _ h => h)⟩
theorem ds_pass {pos : Pos} : PS X (.Pass pos) (tD T W fun r => .nx r) := psImp ps_pass fun D σ H ⟨P, r, rs, go⟩ => go σ P H (.refl rs)
theorem ds_brk {pos : Pos} : PS X (.Break pos) (tD T W fun r => .brk r) := psImp ps_break fun D σ H ⟨P, r, rs, go⟩ => go σ P H (.refl rs)
theorem ds_cnt {pos : Pos} : PS X (.Continue pos) (tD T W fun r => .cnt r) := psImp ps_continue fun D σ H ⟨P, r, rs, go⟩ => go σ P H (.refl rs)
theorem ds_doc {x j pos pos'} : PS X (.Expr (.Constant (.str x) j pos) pos') (tD T W fun r => .nx r) := psImp ps_doc fun D σ H ⟨P, r, rs, go⟩ => go σ P H (.refl rs)
theorem ds_retN {pos : Pos} : PS X (.Return none pos) (tD T W fun r => .ret (.sh .non) r) := psImp ps_retN fun D σ H ⟨P, r, rs, go⟩ =>
  go .non σ P H (.refl rs) (by show Rep _ _ _ _; simp only [Rep])
theorem ds_ex {e : PySem.Expr} {pos : Pos} {f : En → R Val} (he : PE X e (tE T W f)) (hs : swapsWith e none pos.line X.env = pure false) : PS X (.Expr e pos) (tD T W fun r => (f r).run fun _ r1 => .nx r1) :=
  psImp (ps_expr he hs) fun D σ H ⟨P, r, rs, go⟩ => ⟨P, r, rs, (GoS.run go).mono fun u H1 ⟨P1, r1, v, a, q, e, h1⟩ => h1 σ P1 H1 (.refl a.rs)⟩
theorem ds_ret {e : PySem.Expr} {pos : Pos} {f : En → R Val} (he : PE X e (tE T W f)) : PS X (.Return (some e) pos) (tD T W fun r => (f r).run fun v r1 => .ret v r1) :=
  psImp (ps_ret he) fun D σ H ⟨P, r, rs, go⟩ => ⟨P, r, rs, by
    dsimp only at go
    cases c : f r with
    | ok v r' =>
      rw [c] at go
      intro u P' H' b q
      refine go u σ P' H' b.toS ?_
      cases v with
      | sh d => exact q
      | ow d => obtain ⟨a, e, n, ro, f⟩ := q; exact ⟨a, e, n, ro, .inl f⟩
    | exc c' d r' => rw [c] at go; exact fun u P' H' b q => go u σ P' H' b.toS q
    | bad => rw [c] at go; exact go⟩
/-- return x: an owned thing is handed over -/
theorem ds_retv {C : Cf} {e : PySem.Expr} {pos : Pos} {i : Nat} (he : PE X e (tVar i)) : PS X (.Return (some e) pos) (tD T W fun r => (retV C (.var i) r).run fun v r1 => .ret v r1) :=
  psImp (ps_ret he) fun D σ H ⟨P, r, rs, go⟩ => by
    simp only [retV, isVar] at go
    cases c : r[i]? with
    | none => rw [c] at go; exact go.elim
    | some x =>
      rw [c] at go
      cases x with
      | no => exact go.elim
      | sh d => obtain ⟨v, e1, e2⟩ := rs.sh i d c; exact ⟨v, e1, go v σ P H (.refl rs) e2⟩
      | ow d =>
        obtain ⟨a, e1, n, ro⟩ := rs.own i d (.inl c)
        exact ⟨.ref a, e1, go (.ref a) σ P H (.refl rs) ⟨a, rfl, n, ro, .inr ⟨i, d, c, e1⟩⟩⟩
      | io d => exact go.elim
theorem ds_if {c : PySem.Expr} {a b : List Stmt} {pos : Pos} {t : En → R Bool} {f g : En → O} (hc : PT X c (tK T W t)) (ha : PSs X a (tD T W f)) (hb : PSs X b (tD T W g)) :
    PS X (.If c a b pos) (tD T W fun r => (t r).run fun k r1 => if k = true then f r1 else g r1) :=
  psImp (ps_if hc ha hb) fun D σ H ⟨P, r, rs, go⟩ => ⟨P, r, rs, (GoS.run go).mono fun k H1 ⟨P1, r1, v, a1, q, e, h1⟩ => by
    have q : k = v := q
    subst q
    cases k with
    | true => rw [if_pos rfl] at h1 ⊢; exact ⟨P1, r1, a1.rs, h1⟩
    | false => rw [if_neg Bool.false_ne_true] at h1 ⊢; exact ⟨P1, r1, a1.rs, h1⟩⟩
theorem Eof {o : O} {D : Ends} {σ : St} {P H : Hp} {r : En} {x : Option En} {r1 : En} (e : x = some r1) (h : GoS T W σ P H r (O.of x) D) : GoS T W σ P H r (.nx r1) D := by subst e; exact h
/-- x = e -/
theorem ds_set {te : TE} {i : Nat} {f : En → R Val} (h : PS X st (tAsg te (gName i))) (ht : ∀ σ H Q, tE T W f σ H Q → te σ H Q) : PS X st (tD T W fun r => (f r).run fun v r1 => O.of (r1.put i v)) :=
  psImp h fun D σ H ⟨P, r, rs, go⟩ => ht σ H _ ⟨P, r, rs, (GoS.runW rs go).mono fun u H1 ⟨P1, r1, v, a, q, e, h1⟩ => by
    cases c : r1.put i v with
    | none => rw [c] at h1; exact h1.elim
    | some r2 =>
      rw [c] at h1
      exact h1 _ P1 H1 (put_ok a.toS q c)⟩
/-- a, b = e -/
theorem ds_asgT {tg e : PySem.Expr} {pos : Pos} {f : En → R Val} {t : Tg} (he : PE X e (tE T W f)) (hg : PG X tg (gD T t)) (hs : swapsWithSole [tg] e pos.line X.env = pure false) (hw : swappedStores [tg] e X.env = pure none)
    (h1 : (assignEach [tg] X.env).map (·.2) = [assign tg X.env]) : PS X (.Assign [tg] e pos) (tD T W fun r => (f r).run fun v r1 => O.of (bindT t v.d r1)) :=
  psImp (ps_asg he hg hs hw h1) fun D σ H ⟨P, r, rs, go⟩ => ⟨P, r, rs, (GoS.runS rs go).mono fun u H1 ⟨P1, r1, v, a, q, e, h1⟩ => by
    cases c : bindT t v.d r1 with
    | none => rw [c] at h1; exact h1.elim
    | some r2 =>
      rw [c] at h1
      exact ⟨P1, r1, v.d, r2, a.rs, q, c, fun σ' aS _ _ => h1 σ' P1 H1 aS⟩⟩
/-- the thing that a slot owns is changed -/
theorem chg_ok {σ : St} {P H : Hp} {r r1 : En} {i : Nat} {d d' : D} {a : Addr} {o : HO} (rs : RS T P H σ r) (e0 : r.own? i = some d) (ea : σ[i]? = some (some (.ref a))) (e : r.chg i d' = some r1) (ro : RepO T P (upd H a o) a d') :
    Aft T σ P H r P (upd H a o) r1 := by
  have oi : OwnAt r i ∧ ∃ x, r[i]? = some x ∧ ((∃ d, x = .ow d ∧ r1 = r.set i (.ow d')) ∨ (∃ d, x = .io d ∧ r1 = r.set i (.io d'))) := by
    unfold En.chg at e
    cases c : r[i]? with
    | none => rw [c] at e; cases e
    | some x =>
      rw [c] at e
      cases x with
      | ow d => cases e; exact ⟨⟨d, .inl c⟩, _, rfl, .inl ⟨d, rfl, rfl⟩⟩
      | io d => cases e; exact ⟨⟨d, .inr c⟩, _, rfl, .inr ⟨d, rfl, rfl⟩⟩
      | _ => cases e
  obtain ⟨oi, x, cx, hx⟩ := oi
  obtain ⟨hi, hs⟩ := rs.get cx
  have own : Own σ r a := ⟨i, oi, ea⟩
  have pa : P a = none := rs.ownfree own
  obtain ⟨ox, hH⟩ := rs.ownsome own
  have key : ∃ y, r1 = r.set i y ∧ kle x y ∧ (∀ d2, y ≠ .sh d2) ∧ (∀ d2, (y = .ow d2 ∨ y = .io d2) → d2 = d') := by
    rcases hx with ⟨d2, rfl, rfl⟩ | ⟨d2, rfl, rfl⟩
    · exact ⟨_, rfl, trivial, fun _ h => (nomatch h), fun _ h => by rcases h with h | h <;> cases h; rfl⟩
    · exact ⟨_, rfl, trivial, fun _ h => (nomatch h), fun _ h => by rcases h with h | h <;> cases h; rfl⟩
  obtain ⟨y, rfl, hk, nsh, hy⟩ := key
  have ownJ : ∀ j, OwnAt (r.set i y) j → OwnAt r j := fun j ⟨d2, o2⟩ => by
    rcases o2 with o2 | o2
    · rcases set_get hi o2 with ⟨e1, _⟩ | ⟨_, e2⟩
      · rw [e1]; exact oi
      · exact ⟨d2, .inl e2⟩
    · rcases set_get hi o2 with ⟨e1, _⟩ | ⟨_, e2⟩
      · rw [e1]; exact oi
      · exact ⟨d2, .inr e2⟩
  refine ⟨⟨upd_sub rs.sub pa, by rw [List.length_set]; exact rs.len, fun j d2 z => ?_, fun j d2 z => ?_, fun j k b o1 o2 s1 s2 => rs.dis j k b (ownJ j o1) (ownJ k o2) s1 s2⟩, ⟨.refl _, fun b ob eb nb => ?_, fun b eb => ?_, fun b eb => .inl eb⟩, ⟨by rw [List.length_set], fun j x1 x2 h1 h2 => ?_⟩⟩
  · rcases set_get hi z with ⟨_, e2⟩ | ⟨_, e2⟩
    · exact absurd e2.symm (nsh d2)
    · exact rs.sh j d2 e2
  · have z' : (j = i ∧ (y = .ow d2 ∨ y = .io d2)) ∨ (j ≠ i ∧ (r[j]? = some (Sl.ow d2) ∨ r[j]? = some (Sl.io d2))) := by
      rcases z with z | z
      · rcases set_get hi z with ⟨e1, e2⟩ | ⟨n, e2⟩
        · exact .inl ⟨e1, .inl e2.symm⟩
        · exact .inr ⟨n, .inl e2⟩
      · rcases set_get hi z with ⟨e1, e2⟩ | ⟨n, e2⟩
        · exact .inl ⟨e1, .inr e2.symm⟩
        · exact .inr ⟨n, .inr e2⟩
    rcases z' with ⟨rfl, z'⟩ | ⟨n, z'⟩
    · rw [hy d2 z']
      exact ⟨a, ea, pa, ro⟩
    · obtain ⟨b, e1, e2, e3⟩ := rs.own j d2 z'
      have nb : b ≠ a := fun w => n (rs.dis j i b ⟨d2, z'⟩ oi e1 (by rw [w]; exact ea))
      exact ⟨b, e1, e2, e3.move (.refl _) (upd_ne nb)⟩
  · have nba : b ≠ a := fun w => nb (by rw [w]; exact own)
    rw [upd_ne nba]; exact eb
  · by_cases w : b = a
    · subst w; rw [upd_same] at eb; cases eb
    · rw [upd_ne w] at eb; exact eb
  · rcases set_get hi h2 with ⟨e1, e2⟩ | ⟨_, e2⟩
    · subst e1
      rw [cx] at h1; cases h1
      rw [e2]; exact hk
    · rw [h1] at e2; cases e2; exact kle.refl x1
theorem own_at {σ : St} {P H : Hp} {r : En} {i : Nat} {d : D} (rs : RS T P H σ r) (e : r.own? i = some d) : ∃ a, σ[i]? = some (some (.ref a)) ∧ P a = none ∧ RepO T P H a d := by
  unfold En.own? at e
  cases c : r[i]? with
  | none => rw [c] at e; cases e
  | some x =>
    rw [c] at e
    cases x with
    | ow d' => cases e; exact rs.own i d (.inl c)
    | io d' => cases e; exact rs.own i d (.inr c)
    | _ => cases e
/-- x[i] = e -/
theorem ds_seti {o ix e : PySem.Expr} {pos tpos : Pos} {i : Nat} {f g : En → R Val} (he : PE X e (tE T W f)) (ho : PE X o (tVar i)) (hi : PE X ix (tE T W g))
    (hs : swapsWithSole [.Subscript o ix tpos] e pos.line X.env = pure false) (hw : swappedStores [.Subscript o ix tpos] e X.env = pure none) (h1 : (assignEach [.Subscript o ix tpos] X.env).map (·.2) = [assign (.Subscript o ix tpos) X.env])
    (ha : ∀ v, assign (.Subscript o ix tpos) X.env v = (do
      let ov ← holding [v] (eval o X.env)
      let iv ← holding [v, ov] (eval ix X.env)
      standAt tpos
      holding [v, ov, iv] (setItem ov iv v)
      release [v, ov, iv] [])) :
    PS X (.Assign [.Subscript o ix tpos] e pos) (tD T W fun r => (f r).run fun v r1 => if (r1.own? i).isSome = true then (g r1).run fun k r2 => O.of ((r2.own? i).bind fun o => (setD o k.d v.d).bind fun d => r2.chg i d) else .bad) :=
  psImp (ps_asg he (pg_sub ho hi set_list ha) hs hw h1) fun D σ H ⟨P, r, rs, go⟩ => ⟨P, r, rs, (GoS.runS rs go).mono fun u H1 ⟨P1, r1, v, a1, q1, e1, go1⟩ => by
    by_cases hown : (r1.own? i).isSome = true
    rotate_left
    · rw [if_neg hown] at go1; exact go1.elim
    rw [if_pos hown] at go1
    obtain ⟨d0, hd0⟩ := Option.isSome_iff_exists.mp hown
    obtain ⟨a0, ea0, _, _⟩ := own_at a1.rs hd0
    obtain ⟨w, hw⟩ : ∃ w, σ[i]? = some (some w) := ⟨_, ea0⟩
    exact ⟨w, hw, P1, r1, a1.rs, (GoS.runS a1.rs go1).mono fun kx H2 ⟨P2, r2, k, a2, q2, e2, go2⟩ => by
      cases c : r2.own? i with
      | none => rw [c] at go2; exact go2.elim
      | some d =>
        rw [c] at go2
        simp only [Option.bind_some] at go2
        obtain ⟨a, ea, pa, ro⟩ := own_at a2.rs c
        rw [hw] at ea; cases ea
        cases d with
        | dct ks vs => simp [setD] at go2; exact go2.elim
        | lst l =>
          obtain ⟨xs, hx, rx⟩ := ro
          cases c2 : setD (.lst l) k.d v.d with
          | none => rw [c2] at go2; exact go2.elim
          | some d' =>
            rw [c2] at go2
            simp only [Option.bind_some] at go2
            cases c3 : r2.chg i d' with
            | none => rw [c3] at go2; exact go2.elim
            | some r3 =>
              rw [c3] at go2
              cases ck : k.d with
              | int n =>
                rw [ck] at c2 q2
                simp only [Rep] at q2
                simp only [setD] at c2
                cases c4 : Z.ixN l.length n with
                | none => rw [c4] at c2; cases c2
                | some j =>
                  rw [c4] at c2
                  cases c2
                  refine ⟨a, xs, n, j, rfl, q2, hx, by rw [rx.length]; exact c4, go2 σ P2 _ (chg_ok a2.rs c hw c3 ?_).toS⟩
                  exact ⟨xs.set j u, upd_same, rx.set j (Rep.ext a2.st.pp _ _ q1)⟩
              | _ => rw [ck] at c2; simp [setD] at c2
        | _ => exact False.elim ro⟩⟩
end
end Z
/-! ZL: loops, several stores at once, methods that change. -/
namespace Z
open PySem PySem.Spec L2
open PyProof.Rows hiding St
section
variable {T : Tb} {W : WX} {σ : St} {P H : Hp} {r : En} {o : O} {D : Ends}
theorem GoS.turn {g : En → O} (h : GoS T W σ P H r (o.turn g) D) :
    GoS T W σ P H r o { D with nx := fun σ1 H1 => ∃ P1 r1, AftS T σ P H r σ1 P1 H1 r1 ∧ GoS T W σ1 P1 H1 r1 (g r1) D, ct := fun σ1 H1 => ∃ P1 r1, AftS T σ P H r σ1 P1 H1 r1 ∧ GoS T W σ1 P1 H1 r1 (g r1) D, bk := D.nx } := by
  cases o with
  | nx r' => exact fun σ' P' H' b => ⟨P', r', b, GoS.step b h⟩
  | cnt r' => exact fun σ' P' H' b => ⟨P', r', b, GoS.step b h⟩
  | ret v r' => exact h
  | brk r' => exact h
  | exc c d r' => exact h
  | bad => exact h
end
section
variable {X : Cx} {T : Tb} {W : WX} {st : Stmt}
theorem ds_for {tg iter : PySem.Expr} {body : List Stmt} {pos : Pos} {t : Tg} {fi : En → R (List D)} {fb : En → O} (hp : PassesOwn (model X.prog X.w) X.A X.env X.xe) (hc : X.calm = true) (hi : PI X tg iter (tI T W fi)) (hg : PG X tg (gD T t)) (hb : PSs X body (tD T W fb))
    (hs : ∀ x, foldedSetIterable iter X.env x = pure x) :
    PS X (.For tg iter body [] pos) (tD T W fun r => (fi r).run fun l r1 => forL (fun x r2 => (O.of (bindT t x r2)).then fun r3 => fb r3) l r1) :=
  psImp (ps_for hp hc hi hg hb hs) fun D σ H ⟨P, r, rs, go⟩ => ⟨P, r, rs, (GoS.run go).mono fun J H1 ⟨P1, r1, l, a1, wk, e1, go1⟩ => by
    have wk : Wk T P1 J l := wk
    refine ⟨fun i m σ' H' => m = l.length - i ∧ i ≤ l.length ∧ ∃ P' r2, AftS T σ P1 H1 r1 σ' P' H' r2 ∧ GoS T W σ' P' H' r2 (forL (fun x r2 => (O.of (bindT t x r2)).then fun r3 => fb r3) (l.drop i) r2) D,
      ⟨l.length, by simp, Nat.zero_le _, P1, r1, .refl a1.rs, by rw [List.drop_zero]; exact go1⟩, ?_⟩
    rintro i m σ' H' ⟨rfl, hi, P', r2, aS, go2⟩
    by_cases hlt : i < l.length
    · refine .inr ⟨wk.go i H' hlt (aS.st.pp.trans aS.rs.sub), fun σ2 H2 => ∃ P2 r3, AftS T σ P1 H1 r1 σ2 P2 H2 r3 ∧ GoS T W σ2 P2 H2 r3 (forL (fun x r2 => (O.of (bindT t x r2)).then fun r3 => fb r3) (l.drop (i + 1)) r3) D,
        fun σ2 H2 ⟨P2, r3, b, g⟩ => ⟨l.length - (i + 1), by omega, rfl, hlt, P2, r3, b, g⟩, fun x H2 y => ?_⟩
      rw [List.drop_eq_getElem_cons hlt] at go2
      have hyl : ∃ Pc, Aft T σ' P' H' r2 Pc H2 r2 ∧ Rep T Pc l[i] x := by
        rcases wk.yld i l[i] H' x H2 P' (List.getElem?_eq_getElem hlt) aS.st.pp aS.rs.sub y with ⟨rfl, rp⟩ | ⟨p, xs, es, np, rfl, rfl, e2, rp⟩
        · exact ⟨P', .refl aS.rs, rp⟩
        · refine ⟨upd P' p (.tup xs), Aft.laid aS.rs np, ?_⟩
          rw [e2]
          simp only [Rep]
          exact ⟨p, xs, rfl, upd_same, Reps.ext (upd_ext (aS.rs.sub.free np)) _ _ rp⟩
      obtain ⟨Pc, ac, rx⟩ := hyl
      simp only [forL] at go2
      cases c : bindT t l[i] r2 with
      | none => rw [c] at go2; exact go2.elim
      | some r3 =>
        rw [c] at go2
        simp only [O.of_some, O.then_nx] at go2
        refine ⟨Pc, r2, l[i], r3, ac.rs, rx, c, fun σ2 a2 _ _ => ⟨Pc, r3, a2.rs, ?_⟩⟩
        have a3 : AftS T σ' P' H' r2 σ2 Pc H2 r3 := ac.toS.trans a2
        refine (GoS.turn (GoS.step a3 go2)).mono (fun σ4 H4 ⟨P4, r4, b, g⟩ => ⟨P4, r4, (aS.trans a3).trans b, g⟩) (fun _ _ h => h) (fun _ _ h => h) (fun σ4 H4 ⟨P4, r4, b, g⟩ => ⟨P4, r4, (aS.trans a3).trans b, g⟩)
    · have e : i = l.length := by omega
      subst e
      rw [List.drop_length] at go2
      exact .inl ⟨wk.stop H' (aS.st.pp.trans aS.rs.sub), go2 σ' P' H' (.refl aS.rs)⟩⟩
theorem ds_whl {c : PySem.Expr} {body : List Stmt} {pos : Pos} {t : En → R Bool} {fb : En → O} (n : Nat) (hp : PassesOwn (model X.prog X.w) X.A X.env X.xe) (hc : PT X c (tK T W t)) (hb : PSs X body (tD T W fb)) :
    PS X (.While c body [] pos) (tD T W fun r => whlL t fb n r) :=
  psImp (ps_while hp hc hb) fun D σ H ⟨P, r, rs, go⟩ => by
    refine ⟨fun m σ H => ∃ P r, RS T P H σ r ∧ GoS T W σ P H r (whlL t fb m r) D, ⟨n, P, r, rs, go⟩, ?_⟩
    rintro m σ1 H1 ⟨P1, r1, rs1, go1⟩
    cases m with
    | zero => exact go1.elim
    | succ m =>
      simp only [whlL] at go1
      refine ⟨P1, r1, rs1, (GoS.run go1).mono fun k H2 ⟨P2, r2, k', a2, ek, e2, go2⟩ => ?_⟩
      have ek : k = k' := ek
      subst ek
      cases k with
      | true =>
        rw [if_pos rfl] at go2 ⊢
        refine ⟨fun σ3 H3 => ∃ P3 r3, RS T P3 H3 σ3 r3 ∧ GoS T W σ3 P3 H3 r3 (whlL t fb m r3) D, fun σ3 H3 h => ⟨m, Nat.lt_succ_self m, h⟩, P2, r2, a2.rs, ?_⟩
        exact (GoS.turn go2).mono (fun σ4 H4 ⟨P4, r4, b, g⟩ => ⟨P4, r4, b.rs, g⟩) (fun _ _ h => h) (fun _ _ h => h) (fun σ4 H4 ⟨P4, r4, b, g⟩ => ⟨P4, r4, b.rs, g⟩)
      | false =>
        rw [if_neg Bool.false_ne_true] at go2 ⊢
        exact go2 _ P2 H2 (.refl a2.rs)

/-! ### several stores at once -/
def owsOf : List Val → List V → List Addr
  | .ow _ :: vs, .ref a :: us => a :: owsOf vs us
  | _ :: vs, _ :: us => owsOf vs us
  | _, _ => []
def RVs (T : Tb) (H P' H' : Hp) : List Val → List V → Prop
  | [], us => us = []
  | v :: vs, us => ∃ u t, us = u :: t ∧ RV T H P' H' v u ∧ RVs T H P' H' vs t ∧ ∀ d a, v = .ow d → u = .ref a → a ∉ owsOf vs t
abbrev relVs (T : Tb) : Rel (List Val) (List V) := fun H P' H' vs us => RVs T H P' H' vs us
theorem anti_Vs (T : Tb) : Anti (relVs T) := by
  intro H H1 P' H' vs
  induction vs with
  | nil => intro us _ q; exact q
  | cons v vs ih =>
    intro us h q
    obtain ⟨u, t, e, q1, q2, q3⟩ := q
    exact ⟨u, t, e, anti_V T _ _ _ _ _ _ h q1, ih t h q2, q3⟩
def tV (T : Tb) (W : WX) (f : En → R (List Val)) : TA := fun σ H Q => ∃ P r, RS T P H σ r ∧ Go T W (relVs T) σ P H r (f r) Q
theorem dv_nil {C : Cf} : PA X [] (tV T W (evV C [])) := paImp pa_nil fun σ H Q ⟨P, r, rs, go⟩ => by
  simp only [evV] at go
  exact go [] P H (.refl rs) rfl
theorem owsOf_some {P' H' : Hp} {H : Hp} {a : Addr} : ∀ {vs : List Val} {us : List V}, RVs T H P' H' vs us → a ∈ owsOf vs us → H a = none ∧ ∃ x, H' a = some x
  | [], us, h, m => by cases us <;> cases m
  | v :: vs, us, h, m => by
    obtain ⟨u, t, rfl, q1, q2, q3⟩ := h
    cases v with
    | sh d =>
      have m' : a ∈ owsOf vs t := by cases u <;> exact m
      exact owsOf_some q2 m'
    | ow d =>
      obtain ⟨b, rfl, n, ro, f⟩ := q1
      rcases List.mem_cons.mp m with rfl | m
      · exact ⟨f, ro.some⟩
      · exact owsOf_some q2 m
/-- a value stays what it is -/
theorem RV.keep {σ : St} {P H P1 H1 P2 H2 : Hp} {r r1 r2 : En} {v : Val} {u : V} (rs : RS T P H σ r) (a : Aft T σ P H r P1 H1 r1) (h : RV T H P1 H1 v u) (b : Aft T σ P1 H1 r1 P2 H2 r2) : RV T H P2 H2 v u := by
  cases v with
  | sh d => exact Rep.ext b.st.pp _ _ h
  | ow d =>
    obtain ⟨c, e, n, ro, f⟩ := h
    obtain ⟨x, hx⟩ := ro.some
    have no : ¬ Own σ r1 c := fun o => by
      obtain ⟨y, hy⟩ := rs.ownsome (a.kd.owns o)
      rw [f] at hy; cases hy
    have hk : H2 c = some x := b.st.fr _ _ hx no
    refine ⟨c, e, ?_, ro.move b.st.pp (hk.trans hx.symm), f⟩
    cases z : P2 c with
    | none => rfl
    | some y =>
      rcases b.st.nw c (by rw [z]; intro w; cases w) with w | w | w
      · exact absurd n w
      · rw [hx] at w; cases w
      · exact absurd w no
theorem dv_cons {e : PySem.Expr} {es : List PySem.Expr} {f : En → R Val} {g : En → R (List Val)} (hs : notStar e = true) (ha : PE X e (tE T W f)) (hb : PA X es (tV T W g)) :
    PA X (e :: es) (tV T W fun r => (f r).bind fun v r1 => (g r1).bind fun vs r2 => .ok (v :: vs) r2) := by
  refine paImp (pa_cons ha hb (star_one hs es X.env)) fun σ H Q ⟨P, r, rs, go⟩ => ⟨P, r, rs, (Go.bind (anti_Vs T) go).mono fun u H1 ⟨P1, r1, v, a1, q1, e1, go1⟩ => ⟨P1, r1, a1.rs, (Go.bind (anti_Vs T) go1).mono fun us H2 ⟨P2, r2, vs, a2, q2, e2, go2⟩ => ?_⟩⟩
  have k : RVs T H P2 H2 (v :: vs) (u :: us) := by
    refine ⟨u, us, rfl, RV.keep rs a1 q1 a2, anti_Vs T _ _ _ _ _ _ a1.st.dm q2, fun d b ev eu m => ?_⟩
    subst ev
    obtain ⟨c, ec, n, ro, f⟩ := q1
    rw [eu] at ec; cases ec
    obtain ⟨x, hx⟩ := ro.some
    have := (owsOf_some q2 m).1
    rw [hx] at this; cases this
  -- the continuation starts behind both, the relation at the whole's start
  have go3 : Go T W (relVs T) σ P H r (.ok (v :: vs) r2) Q := by
    dsimp only at go
    rw [e1] at go
    simp only [R.bind_ok] at go
    rw [e2] at go
    exact go
  exact go3 (u :: us) P2 H2 (a1.trans a2) k
def setsV (σ : St) : List Nat → List V → St
  | i :: is, v :: vs => setsV (σ.set i (some v)) is vs
  | _, _ => σ
theorem puts_ok {σ0 : St} {P0 H0 : Hp} {r0 : En} : ∀ {is : List Nat} {vs : List Val} {us : List V} {σ : St} {P H : Hp} {r r1 : En}, AftS T σ0 P0 H0 r0 σ P H r → RVs T H0 P H vs us → (∀ a, a ∈ owsOf vs us → ¬ Own σ r a) → puts r is vs = some r1 →
    AftS T σ0 P0 H0 r0 (setsV σ is us) P H r1
  | [], [], us, σ, P, H, r, r1, a, q, no, e => by
    simp only [puts, Option.some.injEq] at e
    subst e
    cases q
    exact a
  | [], _ :: _, _, _, _, _, _, _, _, _, _, e => by simp [puts] at e
  | _ :: _, [], _, _, _, _, _, _, _, _, _, e => by simp [puts] at e
  | i :: is, v :: vs, us, σ, P, H, r, r1, a, q, no, e => by
    obtain ⟨u, t, rfl, q1, q2, q3⟩ := q
    simp only [puts] at e
    cases c : r.put i v with
    | none => rw [c] at e; cases e
    | some r2 =>
      rw [c] at e
      have q1' : RW T σ H0 P H r v u := by
        cases v with
        | sh d => exact q1
        | ow d =>
          obtain ⟨b, eb, n, ro, f⟩ := q1
          subst eb
          exact ⟨b, rfl, n, ro, no b List.mem_cons_self, f⟩
      have a2 := put_ok a q1' c
      show AftS T σ0 P0 H0 r0 (setsV (σ.set i (some u)) is t) P H r1
      refine puts_ok a2 q2 (fun b m o => ?_) e
      -- b is not owned behind the store
      have hb := owsOf_some q2 m
      have m' : b ∈ owsOf (v :: vs) (u :: t) := by
        cases v with
        | sh d => cases u <;> exact m
        | ow d =>
          obtain ⟨b', eb, _⟩ := q1
          subst eb
          exact List.mem_cons_of_mem _ m
      obtain ⟨j, ⟨d, oj⟩, sj⟩ := o
      have hlen : i < r.length ∧ r2 = r.set i v.sl := by
        unfold En.put at c
        cases c3 : r[i]? with
        | none => rw [c3] at c; cases c
        | some x =>
          rw [c3] at c
          have hi := (List.getElem?_eq_some_iff.mp c3).1
          cases x with
          | io d => cases c
          | _ => exact ⟨hi, (Option.some.inj c).symm⟩
      obtain ⟨hi, rfl⟩ := hlen
      have hs : i < σ.length := by rw [← a.rs.len]; exact hi
      by_cases z : j = i
      · subst z
        rw [List.getElem?_set_self hi] at oj
        rw [List.getElem?_set_self hs] at sj
        cases v with
        | sh d' => rcases oj with oj | oj <;> cases oj
        | ow d' =>
          cases sj
          exact q3 d' b rfl rfl m
      · rw [List.getElem?_set_ne (Ne.symm z)] at oj sj
        exact no b m' ⟨j, ⟨d, oj⟩, sj⟩
theorem no_own {σ : St} {P H P1 H1 : Hp} {r r1 : En} {vs : List Val} {us : List V} (rs : RS T P H σ r) (a : Aft T σ P H r P1 H1 r1) (q : RVs T H P1 H1 vs us) : ∀ b, b ∈ owsOf vs us → ¬ Own σ r1 b := fun b m o => by
  obtain ⟨x, hx⟩ := rs.ownsome (a.kd.owns o)
  have := (owsOf_some q m).1
  rw [hx] at this; cases this
theorem parW {σ : St} {P H : Hp} {r : En} {x : R (List Val)} {g : List Val → En → O} {D : Ends} (h : GoS T W σ P H r (x.run g) D) :
    Go T W (relVs T) σ P H r x fun us H1 => ∃ P1 r1 vs, Aft T σ P H r P1 H1 r1 ∧ RVs T H P1 H1 vs us ∧ x = .ok vs r1 ∧ GoS T W σ P H r (g vs r1) D :=
  (GoS.run h).mono fun us H1 ⟨P1, r1, v, a, q, e, h1⟩ => ⟨P1, r1, v, a, q, e, by subst e; exact h⟩
theorem rvs_len {H P' H' : Hp} : ∀ {vs : List Val} {us : List V}, RVs T H P' H' vs us → us.length = vs.length
  | [], us, h => by cases h; rfl
  | v :: vs, us, h => by
    obtain ⟨u, t, rfl, _, q, _⟩ := h
    simp [rvs_len q]
theorem puts_len : ∀ {is : List Nat} {vs : List Val} {r r1 : En}, puts r is vs = some r1 → vs.length = is.length
  | [], [], _, _, _ => rfl
  | [], _ :: _, _, _, e => by simp [puts] at e
  | _ :: _, [], _, _, e => by simp [puts] at e
  | i :: is, v :: vs, r, r1, e => by
    simp only [puts] at e
    cases c : r.put i v with
    | none => rw [c] at e; cases e
    | some r2 => rw [c] at e; simp [puts_len e]
theorem ds_par2 {i j : Nat} {ta : TA} {f : En → R (List Val)} (h : PS X st (tPar i j ta)) (ht : ∀ σ H Q, tV T W f σ H Q → ta σ H Q) (hij : i ≠ j) :
    PS X st (tD T W fun r => (f r).run fun vs r1 => if [i, j].Nodup then O.of (puts r1 [i, j] vs) else .bad) :=
  psImp h fun D σ H ⟨P, r, rs, go⟩ => ht σ H _ ⟨P, r, rs, (parW go).mono fun us H1 ⟨P1, r1, vs, a, q, e, h1⟩ => by
    rw [if_pos (by simp [hij])] at h1
    cases c : puts r1 [i, j] vs with
    | none => rw [c] at h1; exact h1.elim
    | some r2 =>
      rw [c] at h1
      have l : us.length = 2 := by rw [rvs_len q, puts_len c]; rfl
      match us, l with
      | [u, w], _ => exact ⟨u, w, rfl, h1 _ P1 H1 (puts_ok a.toS q (no_own rs a q) c)⟩⟩
theorem ds_par3 {i j k : Nat} {ta : TA} {f : En → R (List Val)} (h : PS X st (tPar3 i j k ta)) (ht : ∀ σ H Q, tV T W f σ H Q → ta σ H Q) (hij : [i, j, k].Nodup) :
    PS X st (tD T W fun r => (f r).run fun vs r1 => if [i, j, k].Nodup then O.of (puts r1 [i, j, k] vs) else .bad) :=
  psImp h fun D σ H ⟨P, r, rs, go⟩ => ht σ H _ ⟨P, r, rs, (parW go).mono fun us H1 ⟨P1, r1, vs, a, q, e, h1⟩ => by
    rw [if_pos hij] at h1
    cases c : puts r1 [i, j, k] vs with
    | none => rw [c] at h1; exact h1.elim
    | some r2 =>
      rw [c] at h1
      have l : us.length = 3 := by rw [rvs_len q, puts_len c]; rfl
      match us, l with
      | [u, w, z], _ => exact ⟨u, w, z, rfl, h1 _ P1 H1 (puts_ok a.toS q (no_own rs a q) c)⟩⟩
/-- names, one after another -/
def gNs : List Nat → TGs
  | [] => gNil
  | i :: is => gCons (gName i) (gNs is)
theorem gNs_run : ∀ (is : List Nat) (us : List V) (σ : St) (H : Hp) (Q : St → Hp → Prop), us.length = is.length → Q (setsV σ is us) H → gNs is us σ H Q
  | [], [], σ, H, Q, _, q => ⟨rfl, q⟩
  | [], _ :: _, _, _, _, l, _ => by cases l
  | _ :: _, [], _, _, _, l, _ => by cases l
  | i :: is, u :: us, σ, H, Q, l, q => ⟨u, us, rfl, gNs_run is us _ H Q (by simpa using l) q⟩
theorem ds_parT (hc : X.calm = true) {tes es : List PySem.Expr} {k k' : Nat} {tp ep pos : Pos} {is : List Nat} {f : En → R (List Val)} (hg : PGs X tes (gNs is)) (ha : PA X es (tV T W f)) (hl : (assignEach tes X.env).length = is.length) (hst : (assignEach tes X.env).findIdx? (·.1) = none)
    (hs : swapsWithSole [.Tuple tes k tp] (.Tuple es k' ep) pos.line X.env = pure false) (hw : swappedStores [.Tuple tes k tp] (.Tuple es k' ep) X.env = pure none) (h1 : (assignEach [.Tuple tes k tp] X.env).map (·.2) = [assign (.Tuple tes k tp) X.env])
    (hn : is.Nodup) (hsz : is.length ≤ 1000) :
    PS X (.Assign [.Tuple tes k tp] (.Tuple es k' ep) pos) (tD T W fun r => (f r).run fun vs r1 => if is.Nodup then O.of (puts r1 is vs) else .bad) :=
  psImp (ps_asg (pe_tup ha) (pg_tup hc hg hl hst) hs hw h1) fun D σ H ⟨P, r, rs, go⟩ => ⟨P, r, rs, (parW go).mono fun us H1 ⟨P1, r1, vs, a, q, e, h1⟩ => by
    rw [if_pos hn] at h1
    cases c : puts r1 is vs with
    | none => rw [c] at h1; exact h1.elim
    | some r2 =>
      rw [c] at h1
      have l : us.length = is.length := by rw [rvs_len q, puts_len c]
      refine ⟨by rw [l, sizeLine_eq]; omega, fun p np => ?_⟩
      refine ⟨p, us, rfl, .inl (.inl upd_same), l, gNs_run is us σ _ _ l ?_⟩
      have a2 : Aft T σ P1 H1 r1 P1 (upd H1 p (.tup us)) r1 := Aft.laidO a.rs np
      have q2 : RVs T H P1 (upd H1 p (.tup us)) vs us := by
        clear h1 c l
        revert q
        generalize hH2 : upd H1 p (.tup us) = H2 at *
        clear hH2
        intro q
        have key : ∀ (vs : List Val) (ws : List V), RVs T H P1 H1 vs ws → RVs T H P1 H2 vs ws := by
          intro vs
          induction vs with
          | nil => intro ws q; exact q
          | cons v vs ih =>
            intro ws q
            obtain ⟨u, t, e, q1, q2, q3⟩ := q
            exact ⟨u, t, e, RV.keep rs a q1 a2, ih t q2, q3⟩
        exact key vs us q
      exact h1 _ P1 _ (puts_ok (a.toS.trans a2.toS) q2 (no_own rs (a.trans a2) q2) c)⟩
end
end Z
/-! ZM: defs: what a call hands over and gets back. -/
namespace Z
open PySem PySem.Spec L2
open PyProof.Rows hiding St
/-- a def keeps a promise wherever no repr is under way -/
structure FnG (T : Tb) (k : Nat) (f : Addr) (fd : FuncData) (ps : List Str) (sp : Sp) : Prop where
  len : ∀ vs H Q E, sp vs H Q E → vs.length = ps.length
  run : ∀ (A : Around) (outer : List PySem.Env) (s : Shared) (H : Hp) (args : Args) (us : List Value) (vs : List V) (Q : VK) (E : XK), Room k A → A.guards = some [] →
    Env0 T.P T.w T.K T.mg T.base A outer s H → BindsTo s fd args (ps.zip us) → Vals vs us → sp vs H Q E →
    codeAny (model T.P T.w) A (.call (.ref f) args) (L2.CR L2.CX0 outer T.P T.w H s Q E) s
/-- the addresses of the changed parameters -/
def ioA : List Bool → List V → List Addr
  | true :: ms, .ref a :: vs => a :: ioA ms vs
  | _ :: ms, _ :: vs => ioA ms vs
  | _, _ => []
/-- the arguments lie so -/
def RArgs (T : Tb) (P H : Hp) : List Bool → List D → List V → Prop
  | [], [], vs => vs = []
  | false :: ms, d :: ds, vs => ∃ v t, vs = v :: t ∧ Rep T P d v ∧ RArgs T P H ms ds t
  | true :: ms, d :: ds, vs => ∃ a t, vs = .ref a :: t ∧ P a = none ∧ RepO T P H a d ∧ RArgs T P H ms ds t ∧ a ∉ ioA ms t
  | _, _, _ => False
/-- the changed parameters' things behind a call -/
def ROuts (T : Tb) (P' H' : Hp) : List Addr → List D → Prop
  | [], ds => ds = []
  | a :: as, ds => ∃ d t, ds = d :: t ∧ P' a = none ∧ RepO T P' H' a d ∧ ROuts T P' H' as t
structure AftC (T : Tb) (as : List Addr) (P H P' H' : Hp) (outs : List D) : Prop where
  sub : Ext P' H'
  pp : Ext P P'
  fr : ∀ b o, H b = some o → b ∉ as → H' b = some o
  dm : ∀ b, H' b = none → H b = none
  nw : ∀ b, P' b ≠ none → P b ≠ none ∨ H b = none
  outs : ROuts T P' H' as outs
def GoC (T : Tb) (as : List Addr) (P H : Hp) (c : CR) (Q : VK) : Prop :=
  match c with
  | .ok v outs => ∀ u P' H', AftC T as P H P' H' outs → RV T H P' H' v u → Q u H'
  | .exc _ _ _ => False
  | .bad => False
def spD (T : Tb) (ms : List Bool) (c : List D → CR) : Sp := fun vs H Q _ => ∃ P ds, Ext P H ∧ RArgs T P H ms ds vs ∧ GoC T (ioA ms vs) P H (c ds) Q
theorem RArgs.len {T : Tb} {P H : Hp} : ∀ {ms : List Bool} {ds : List D} {vs : List V}, RArgs T P H ms ds vs → ds.length = ms.length ∧ vs.length = ms.length
  | [], [], vs, h => by cases h; exact ⟨rfl, rfl⟩
  | [], _ :: _, _, h => by cases h
  | true :: _, [], _, h => by cases h
  | false :: _, [], _, h => by cases h
  | false :: ms, d :: ds, vs, h => by
    obtain ⟨v, t, rfl, _, h⟩ := h
    obtain ⟨h1, h2⟩ := h.len
    exact ⟨by simp [h1], by simp [h2]⟩
  | true :: ms, d :: ds, vs, h => by
    obtain ⟨v, t, rfl, _, _, h, _⟩ := h
    obtain ⟨h1, h2⟩ := h.len
    exact ⟨by simp [h1], by simp [h2]⟩
/-- the callee's slots -/
theorem start_get {T : Tb} {P H : Hp} : ∀ {ms : List Bool} {ds : List D} {vs : List V}, RArgs T P H ms ds vs →
    (∀ (i : Nat) (d : D), (ms.zipWith (fun m d => if m then Sl.io d else Sl.sh d) ds)[i]? = some (Sl.sh d) → ∃ v, vs[i]? = some v ∧ Rep T P d v) ∧
    (∀ (i : Nat) (d : D), (ms.zipWith (fun m d => if m then Sl.io d else Sl.sh d) ds)[i]? = some (Sl.io d) → ∃ a, vs[i]? = some (.ref a) ∧ P a = none ∧ RepO T P H a d ∧ a ∈ ioA ms vs) ∧
    (∀ (i : Nat) (d : D), (ms.zipWith (fun m d => if m then Sl.io d else Sl.sh d) ds)[i]? ≠ some (Sl.ow d)) ∧
    (∀ (i j : Nat) (d d' : D) (a : Addr), (ms.zipWith (fun m d => if m then Sl.io d else Sl.sh d) ds)[i]? = some (Sl.io d) → (ms.zipWith (fun m d => if m then Sl.io d else Sl.sh d) ds)[j]? = some (Sl.io d') → vs[i]? = some (.ref a) → vs[j]? = some (.ref a) → i = j)
  | [], [], vs, h => by simp
  | [], _ :: _, _, h => by cases h
  | true :: _, [], _, h => by cases h
  | false :: _, [], _, h => by cases h
  | false :: ms, d :: ds, vs, h => by
    obtain ⟨v, t, rfl, hv, h⟩ := h
    obtain ⟨h1, h2, h3, h4⟩ := start_get h
    refine ⟨fun i d' e => ?_, fun i d' e => ?_, fun i d' e => ?_, fun i j d1 d2 a e1 e2 s1 s2 => ?_⟩
    · cases i with
      | zero => simp at e; subst e; exact ⟨v, rfl, hv⟩
      | succ i => exact h1 i d' (by simpa using e)
    · cases i with
      | zero => simp at e
      | succ i =>
        obtain ⟨a, e1, e2, e3, e4⟩ := h2 i d' (by simpa using e)
        exact ⟨a, e1, e2, e3, by cases v <;> exact e4⟩
    · cases i with
      | zero => simp at e
      | succ i => exact h3 i d' (by simpa using e)
    · cases i with
      | zero => simp at e1
      | succ i =>
        cases j with
        | zero => simp at e2
        | succ j => rw [h4 i j d1 d2 a (by simpa using e1) (by simpa using e2) (by simpa using s1) (by simpa using s2)]
  | true :: ms, d :: ds, vs, h => by
    obtain ⟨b, t, rfl, n, ro, h, nb⟩ := h
    obtain ⟨h1, h2, h3, h4⟩ := start_get h
    refine ⟨fun i d' e => ?_, fun i d' e => ?_, fun i d' e => ?_, fun i j d1 d2 a e1 e2 s1 s2 => ?_⟩
    · cases i with
      | zero => simp at e
      | succ i => exact h1 i d' (by simpa using e)
    · cases i with
      | zero => simp at e; subst e; exact ⟨b, rfl, n, ro, List.mem_cons_self⟩
      | succ i =>
        obtain ⟨a, e1, e2, e3, e4⟩ := h2 i d' (by simpa using e)
        exact ⟨a, e1, e2, e3, List.mem_cons_of_mem _ e4⟩
    · cases i with
      | zero => simp at e
      | succ i => exact h3 i d' (by simpa using e)
    · cases i with
      | zero =>
        cases j with
        | zero => rfl
        | succ j =>
          simp at s1
          subst s1
          obtain ⟨a', q1, q2, q3, q4⟩ := h2 j d2 (by simpa using e2)
          have s2' : t[j]? = some (.ref b) := by simpa using s2
          rw [s2'] at q1; cases q1
          exact absurd q4 nb
      | succ i =>
        cases j with
        | zero =>
          simp at s2
          subst s2
          obtain ⟨a', q1, q2, q3, q4⟩ := h2 i d1 (by simpa using e1)
          have s1' : t[i]? = some (.ref b) := by simpa using s1
          rw [s1'] at q1; cases q1
          exact absurd q4 nb
        | succ j => rw [h4 i j d1 d2 a (by simpa using e1) (by simpa using e2) (by simpa using s1) (by simpa using s2)]
theorem start_rs {T : Tb} {P H : Hp} {ms : List Bool} {ds : List D} {vs : List V} {N : List Str} (e : Ext P H) (h : RArgs T P H ms ds vs) (hn : ms.length ≤ N.length) :
    RS T P H (L2.start N vs) (En.start ms N.length ds) ∧ (∀ b, Own (L2.start N vs) (En.start ms N.length ds) b → b ∈ ioA ms vs) ∧ ∀ b, ¬ OwnL (L2.start N vs) (En.start ms N.length ds) b := by
  obtain ⟨l1, l2⟩ := h.len
  obtain ⟨h1, h2, h3, h4⟩ := start_get h
  have lz : (ms.zipWith (fun m d => if m then Sl.io d else Sl.sh d) ds).length = ms.length := by rw [List.length_zipWith, l1, Nat.min_self]
  have get : ∀ (i : Nat) (x : Sl), (En.start ms N.length ds)[i]? = some x → x ≠ .no → (ms.zipWith (fun m d => if m then Sl.io d else Sl.sh d) ds)[i]? = some x ∧ i < vs.length := fun i x q nx => by
    unfold En.start at q
    by_cases hi : i < ms.length
    · rw [List.getElem?_append_left (by rw [lz]; exact hi)] at q
      exact ⟨q, by rw [l2]; exact hi⟩
    · rw [List.getElem?_append_right (by rw [lz]; omega), List.getElem?_replicate] at q
      split at q
      · cases q; exact absurd rfl nx
      · cases q
  have sg : ∀ (i : Nat) (v : V), vs[i]? = some v → (L2.start N vs)[i]? = some (some v) := fun i v q => by
    have hi := (List.getElem?_eq_some_iff.mp q).1
    unfold L2.start
    rw [List.getElem?_append_left (by simpa using hi), List.getElem?_map, q]; rfl
  refine ⟨⟨e, ?_, fun i d q => ?_, fun i d q => ?_, fun i j a ⟨d1, o1⟩ ⟨d2, o2⟩ s1 s2 => ?_⟩, fun b ⟨i, ⟨d, o⟩, s⟩ => ?_, fun b ⟨i, d, o, s⟩ => ?_⟩
  · unfold En.start L2.start
    rw [List.length_append, List.length_append, lz, List.length_replicate, List.length_map, List.length_replicate, l1, l2]
  · obtain ⟨q, _⟩ := get i _ q (by intro z; cases z)
    obtain ⟨v, e1, e2⟩ := h1 i d q
    exact ⟨v, sg i v e1, e2⟩
  · rcases q with q | q
    · obtain ⟨q, _⟩ := get i _ q (by intro z; cases z)
      exact absurd q (h3 i d)
    · obtain ⟨q, _⟩ := get i _ q (by intro z; cases z)
      obtain ⟨a, e1, e2, e3, _⟩ := h2 i d q
      exact ⟨a, sg i _ e1, e2, e3⟩
  · have f : ∀ i d, ((En.start ms N.length ds)[i]? = some (Sl.ow d) ∨ (En.start ms N.length ds)[i]? = some (Sl.io d)) → (ms.zipWith (fun m d => if m then Sl.io d else Sl.sh d) ds)[i]? = some (Sl.io d) ∧ i < vs.length := fun i d o => by
      rcases o with o | o
      · obtain ⟨q, _⟩ := get i _ o (by intro z; cases z)
        exact absurd q (h3 i d)
      · exact get i _ o (by intro z; cases z)
    obtain ⟨f1, g1⟩ := f i d1 o1
    obtain ⟨f2, g2⟩ := f j d2 o2
    have b1 : vs[i]? = some (.ref a) := by
      have z := sg i _ (List.getElem?_eq_getElem g1)
      rw [s1] at z
      rw [List.getElem?_eq_getElem g1]
      exact congrArg some (Option.some.inj (Option.some.inj z)).symm
    have b2 : vs[j]? = some (.ref a) := by
      have z := sg j _ (List.getElem?_eq_getElem g2)
      rw [s2] at z
      rw [List.getElem?_eq_getElem g2]
      exact congrArg some (Option.some.inj (Option.some.inj z)).symm
    exact h4 i j d1 d2 a f1 f2 b1 b2
  · rcases o with o | o
    · obtain ⟨q, _⟩ := get i _ o (by intro z; cases z)
      exact absurd q (h3 i d)
    · obtain ⟨q, g1⟩ := get i _ o (by intro z; cases z)
      obtain ⟨a, e1, _, _, e4⟩ := h2 i d q
      have z := sg i _ e1
      rw [s] at z
      cases z
      exact e4
  · obtain ⟨q, _⟩ := get i _ o (by intro z; cases z)
    exact absurd q (h3 i d)
end Z
/-! ZN: a def by its body; a def called. -/
namespace Z
open PySem PySem.Spec L2
open PyProof.Rows hiding St
/-- what a rule may know of where it stands -/
structure CB (T : Tb) (k : Nat) (X : Cx) : Prop where
  eP : X.prog = T.P
  ew : X.w = T.w
  eK : X.K = T.K
  emg : X.mg = T.mg
  ebase : X.base = T.base
  calm : X.calm = true
  room : Room k X.A
  grd : X.A.guards = some []
  nd : X.N.Nodup
theorem CB.blk {T : Tb} {k : Nat} {X : Cx} (c : CB T k X) (s : Shared) (H : Hp) (sc : Scope) (e : PySem.Env) (fp : List Addr) : CB T k (X.blk s H sc e fp) := ⟨c.eP, c.ew, c.eK, c.emg, c.ebase, c.calm, c.room, c.grd, c.nd⟩
/-- .. -/
abbrev asDef (T : Tb) (N : List Str) (qual : Str) (sc : Scope) (f : Addr) (cdv : Value) (A : Around) (outer : List PySem.Env) (s : Shared) (H : Hp) (E : XK) : Cx := (cxOf L2.CX0 T.P T.w T.K T.mg T.base N qual sc f cdv A outer s H E).nox
section
variable {T : Tb}
/-- a def of the text, by what its body does -/
theorem fnG_of {k : Nat} {f : Addr} {name qual : Str} {params : Arguments} {body : List Stmt} {scope : Scope} {dV kV doc pm cdv ct oc : Value} {an od : Option Addr} {osl : Array (Option Value)} {N ps : List Str} {sp : Sp}
    (lk : T.K.lookup f = some ⟨oc, od, .func (PySem.W.fnOf name qual params body scope dV kV doc pm an cdv ct), osl⟩) (hcd : PySem.W.codeIn T.K cdv qual = true) (S : FnScope N ps scope) (len : ∀ vs H Q E, sp vs H Q E → vs.length = ps.length)
    (hbody : ∀ (cdv : Value) (A : Around) (outer : List PySem.Env) (s : Shared) (H : Hp) (E : XK), CB T k (asDef T N qual scope f cdv A outer s H E) → ∀ (vs : List V) (Q : VK), sp vs H Q E → ∃ t, PSs (asDef T N qual scope f cdv A outer s H E) body t ∧ t { nx := fun _ H' => Q .non H', rt := Q } (L2.start N vs) H) :
    FnG T (k + 1) f (PySem.W.fnOf name qual params body scope dV kV doc pm an cdv ct) ps sp := by
  constructor
  · exact len
  intro A outer s H args us vs Q E hr hg e0 hb r hsp
  have hl := len vs H Q E hsp
  have KX : T.K.In s.heap := e0.mod.kin.keeps fun b o e => (e0.bs b o e).1
  have lim : s.heap.NoLimit := e0.mod.nolimit.keeps fun b o e => (e0.bs b o e).1
  have hkind : ∀ y ∈ ps.zip us, scope.names.lookup y.1 = some .local ∨ (scope.names.lookup y.1 = some .cell ∧ ((cellsFrom (s.heap.objs.size + 1) scope.names []).lookup y.1).isSome = true) := by
    rintro ⟨n, v⟩ hy
    have q := S.par n (List.of_mem_zip hy).1
    cases q with
    | inl q => exact .inl q
    | inr q => exact .inr ⟨q, PySem.W.cellsFrom_some _ _ _ (.inl q)⟩
  apply codeAny_call_function hr.depth (KX _ _ lk) rfl S.co S.gen rfl (PySem.W.codeRec_of KX hcd)
  apply hb
  refine wpAny_newFunctionEnv_cells S.kind hkind ?_
  intro env he s1 x
  subst he
  refine And.intro (lim.keeps x.toInCall.keep) (codeAny_func ?_)
  have I := inv_start (CX := L2.CX0) (f := f) (cd := cdv) (qual := qual) (E := E) S hr.hd e0 hl r x
  have ck : CB T k (asDef T N qual scope f cdv A outer s H E) := ⟨rfl, rfl, rfl, rfl, rfl, rfl, hr.deeper _, hg, S.nd⟩
  obtain ⟨t, ht, hq⟩ := hbody cdv A outer s H E ck vs Q hsp
  refine wpAny_mono (ht.nox.run [] s1 (L2.start N vs) H _ I hq) ?_ (fun e s' hs => hs)
  intro fl s' hs
  cases fl with
  | ret u =>
    obtain ⟨v, σ', H', J, rv, q⟩ := hs
    exact ⟨v, H', J.os, J.bare, J.base, J.hok, rv, q⟩
  | next =>
    obtain ⟨σ', H', J, q⟩ := hs
    exact ⟨V.non, H', J.os, J.bare, J.base, J.hok, rfl, q⟩
  | brk =>
    obtain ⟨_, _, _, q⟩ := hs
    exact q.elim
  | cont =>
    obtain ⟨_, _, _, q⟩ := hs
    exact q.elim
theorem outs_ok {σ : St} {P H : Hp} {r : En} (rs : RS T P H σ r) : ∀ {ms : List Bool} {vs : List V} {i : Nat} {outs : List D}, outsOf r i ms = some outs → (∀ j v, ms[j]? = some true → vs[j]? = some v → σ[i + j]? = some (some v)) → vs.length = ms.length →
    (∀ (j : Nat), ms[j]? = some true → ∃ a, vs[j]? = some (.ref a)) → ROuts T P H (ioA ms vs) outs
  | [], vs, i, outs, e, _, _, _ => by
    simp only [outsOf, Option.some.injEq] at e
    subst e
    cases vs <;> rfl
  | m :: ms, [], i, outs, e, _, l, _ => by cases l
  | false :: ms, v :: vs, i, outs, e, hv, l, hr => by
    simp only [outsOf] at e
    have z : ioA (false :: ms) (v :: vs) = ioA ms vs := by cases v <;> rfl
    rw [z]
    refine outs_ok rs e (fun j w h q => ?_) (by simpa using l) (fun j q => hr (j + 1) (by simpa using q))
    have := hv (j + 1) w (by simpa using h) (by simpa using q)
    rw [show i + (j + 1) = i + 1 + j by omega] at this
    exact this
  | true :: ms, v :: vs, i, outs, e, hv, l, hr => by
    obtain ⟨a, ea⟩ := hr 0 rfl
    simp at ea
    subst ea
    simp only [outsOf] at e
    cases c : r[i]? with
    | none => rw [c] at e; cases e
    | some x =>
      rw [c] at e
      cases x with
      | io d =>
        cases c2 : outsOf r (i + 1) ms with
        | none => rw [c2] at e; cases e
        | some t =>
          rw [c2] at e
          cases e
          obtain ⟨b, e1, e2, e3⟩ := rs.own i d (.inr c)
          have hva := hv 0 (.ref a) rfl rfl
          rw [Nat.add_zero, e1] at hva
          cases hva
          refine ⟨d, t, rfl, e2, e3, outs_ok rs c2 (fun j w h q => ?_) (by simpa using l) (fun j q => hr (j + 1) (by simpa using q))⟩
          have := hv (j + 1) w (by simpa using h) (by simpa using q)
          rw [show i + (j + 1) = i + 1 + j by omega] at this
          exact this
      | _ => cases e
theorem refs_of {P H : Hp} : ∀ {ms : List Bool} {ds : List D} {vs : List V}, RArgs T P H ms ds vs → ∀ (j : Nat), ms[j]? = some true → ∃ a, vs[j]? = some (.ref a)
  | [], _, _, _, _, e => by simp at e
  | m :: _, [], _, h, _, _ => by cases m <;> cases h
  | false :: ms, d :: ds, vs, h, j, e => by
    obtain ⟨v, t, rfl, _, h⟩ := h
    cases j with
    | zero => simp at e
    | succ j => simpa using refs_of h j (by simpa using e)
  | true :: ms, d :: ds, vs, h, j, e => by
    obtain ⟨a, t, rfl, _, _, h, _⟩ := h
    cases j with
    | zero => exact ⟨a, rfl⟩
    | succ j => simpa using refs_of h j (by simpa using e)
theorem io_start {N : List Str} {ms : List Bool} {ds : List D} {i : Nat} (l : ds.length = ms.length) (h : ms[i]? = some true) : ∃ d, (En.start ms N.length ds)[i]? = some (Sl.io d) := by
  have hi := (List.getElem?_eq_some_iff.mp h).1
  have lz : (ms.zipWith (fun m d => if m then Sl.io d else Sl.sh d) ds).length = ms.length := by rw [List.length_zipWith, l, Nat.min_self]
  unfold En.start
  rw [List.getElem?_append_left (by rw [lz]; exact hi), List.getElem?_zipWith, h, List.getElem?_eq_getElem (by rw [l]; exact hi)]
  exact ⟨_, rfl⟩
theorem outs_io {r : En} : ∀ {ms : List Bool} {i : Nat} {outs : List D}, outsOf r i ms = some outs → ∀ (j : Nat), ms[j]? = some true → ∃ d, r[i + j]? = some (Sl.io d)
  | [], _, _, _, _, h => by simp at h
  | false :: ms, i, outs, e, j, h => by
    simp only [outsOf] at e
    cases j with
    | zero => simp at h
    | succ j =>
      have := outs_io e j (by simpa using h)
      rw [show i + (j + 1) = i + 1 + j by omega]; exact this
  | true :: ms, i, outs, e, j, h => by
    simp only [outsOf] at e
    cases c : r[i]? with
    | none => rw [c] at e; cases e
    | some x =>
      rw [c] at e
      cases x with
      | io d =>
        cases c2 : outsOf r (i + 1) ms with
        | none => rw [c2] at e; cases e
        | some t =>
          cases j with
          | zero => exact ⟨d, by rw [Nat.add_zero]; exact c⟩
          | succ j =>
            have := outs_io c2 j (by simpa using h)
            rw [show i + (j + 1) = i + 1 + j by omega]; exact this
      | _ => cases e
theorem mem_ioA {a : Addr} : ∀ {ms : List Bool} {vs : List V}, a ∈ ioA ms vs → ∃ j : Nat, ms[j]? = some true ∧ vs[j]? = some (.ref a)
  | [], vs, h => by cases vs <;> cases h
  | m :: ms, [], h => by cases m <;> cases h
  | false :: ms, v :: vs, h => by
    have h' : a ∈ ioA ms vs := by cases v <;> exact h
    obtain ⟨j, h1, h2⟩ := mem_ioA h'
    exact ⟨j + 1, by simpa using h1, by simpa using h2⟩
  | true :: ms, v :: vs, h => by
    cases v with
    | ref b =>
      rcases List.mem_cons.mp h with rfl | h
      · exact ⟨0, rfl, rfl⟩
      · obtain ⟨j, h1, h2⟩ := mem_ioA h
        exact ⟨j + 1, by simpa using h1, by simpa using h2⟩
    | _ =>
      obtain ⟨j, h1, h2⟩ := mem_ioA (show a ∈ ioA ms vs from h)
      exact ⟨j + 1, by simpa using h1, by simpa using h2⟩
/-- a def keeps what the evaluator says of its body -/
theorem fn_def {Pg : Nat → Option Df} {fuel k i : Nat} {df : Df} {f : Addr} {name qual : Str} {params : Arguments} {body : List Stmt} {scope : Scope} {dV kV doc pm cdv ct oc : Value} {an od : Option Addr} {osl : Array (Option Value)} {N ps : List Str}
    (lk : T.K.lookup f = some ⟨oc, od, .func (PySem.W.fnOf name qual params body scope dV kV doc pm an cdv ct), osl⟩) (hcd : PySem.W.codeIn T.K cdv qual = true) (S : FnScope N ps scope) (hp : Pg i = some df) (hn : df.names = N.length) (hm : df.modes.length = ps.length)
    (hbody : ∀ (cdv : Value) (A : Around) (outer : List PySem.Env) (s : Shared) (H : Hp) (E : XK), CB T k (asDef T N qual scope f cdv A outer s H E) → PSs (asDef T N qual scope f cdv A outer s H E) body (tD T WF (xs { call := callD Pg fuel k, modes := fun g => (Pg g).map (·.modes), fuel := fuel } df.body))) :
    FnG T (k + 1) f (PySem.W.fnOf name qual params body scope dV kV doc pm an cdv ct) ps (spD T df.modes (callD Pg fuel (k + 1) i)) := by
  refine fnG_of lk hcd S (fun vs H Q E ⟨P, ds, e, h, q⟩ => by rw [h.len.2, hm]) fun cdv A outer s H E ck vs Q ⟨P, ds, e, h, q⟩ => ⟨_, hbody cdv A outer s H E ck, ?_⟩
  simp only [callD, hp] at q
  by_cases hc : ds.length = df.modes.length ∧ ds.length ≤ df.names
  rotate_left
  · rw [if_neg hc] at q; exact q.elim
  rw [if_pos hc] at q
  obtain ⟨rs, ow, nol⟩ := start_rs (N := N) e h (by rw [← hc.1, ← hn]; exact hc.2)
  have lv := h.len.2
  have ld := h.len.1
  rw [hn] at q
  refine ⟨P, En.start df.modes N.length ds, rs, ?_⟩
  -- behind the body
  have fin : ∀ {σ' : St} {P' H' : Hp} {r' : En} {outs : List D}, AftS T (L2.start N vs) P H (En.start df.modes N.length ds) σ' P' H' r' → outsOf r' 0 df.modes = some outs → AftC T (ioA df.modes vs) P H P' H' outs := fun {σ' P' H' r' outs} a eo => by
    have sg : ∀ (j : Nat) (v : V), vs[j]? = some v → (L2.start N vs)[j]? = some (some v) := fun j v q => by
      have hi := (List.getElem?_eq_some_iff.mp q).1
      unfold L2.start
      rw [List.getElem?_append_left (by simpa using hi), List.getElem?_map, q]; rfl
    have ioσ : ∀ (j : Nat), df.modes[j]? = some true → σ'[j]? = (L2.start N vs)[j]? := fun j hj => by
      obtain ⟨d, hd⟩ := io_start (N := N) ld hj
      exact (a.io j d hd).2
    refine ⟨a.rs.sub, a.st.pp, fun b o eb nb => a.st.fr b o eb fun w => nb (ow b w), a.st.dm, fun b eb => ?_, ?_⟩
    · rcases a.st.nw b eb with w | w | w
      · exact .inl w
      · exact .inr w
      · obtain ⟨j, h1, h2⟩ := mem_ioA (ow b w)
        obtain ⟨d, hd⟩ := outs_io eo j h1
        rw [Nat.zero_add] at hd
        obtain ⟨c, e1, e2, _⟩ := a.rs.own j d (.inr hd)
        rw [ioσ j h1, sg j _ h2] at e1
        cases e1
        exact absurd e2 eb
    · refine outs_ok a.rs eo (fun j v hj q => ?_) (by rw [lv]) (refs_of h)
      rw [Nat.zero_add, ioσ j hj]
      exact sg j v q
  cases c : xs { call := callD Pg fuel k, modes := fun g => (Pg g).map (·.modes), fuel := fuel } df.body (En.start df.modes N.length ds) with
  | nx r' =>
    rw [c] at q
    simp only [O.cr] at q
    intro σ' P' H' a
    cases eo : outsOf r' 0 df.modes with
    | none => rw [eo] at q; exact q.elim
    | some outs =>
      rw [eo] at q
      exact q .non P' H' (fin a eo) (by show Rep _ _ _ _; simp only [Rep])
  | ret v r' =>
    rw [c] at q
    simp only [O.cr] at q
    intro u σ' P' H' a rl
    cases eo : outsOf r' 0 df.modes with
    | none => rw [eo] at q; exact q.elim
    | some outs =>
      rw [eo] at q
      refine q u P' H' (fin a eo) ?_
      cases v with
      | sh d => exact rl
      | ow d =>
        obtain ⟨b, e1, n, ro, f⟩ := rl
        exact ⟨b, e1, n, ro, f.elim id fun z => absurd z (nol b)⟩
  | brk r' => rw [c] at q; exact q.elim
  | cnt r' => rw [c] at q; exact q.elim
  | exc c' d r' =>
    rw [c] at q
    simp only [O.cr] at q
    cases eo : outsOf r' 0 df.modes with
    | none => rw [eo] at q; exact q.elim
    | some outs => rw [eo] at q; exact q.elim
  | bad => rw [c] at q; exact q.elim
end
end Z
/-! ZO: calls of defs. -/
namespace Z
open PySem PySem.Spec L2
open PyProof.Rows hiding St
section
variable {T : Tb} {W : WX} {σ : St} {P H : Hp} {r : En}
theorem frz_ok : ∀ {is : List Nat} {P : Hp} {r rf : En}, RS T P H σ r → frzs r is = some rf →
    ∃ Pf, Aft T σ P H r Pf H rf ∧ (∀ i, i ∉ is → rf[i]? = r[i]?) ∧ (∀ (i : Nat) (d : D), i ∈ is → r.rd i = some d → ∃ u, σ[i]? = some (some u) ∧ Rep T Pf d u)
  | [], P, r, rf, rs, e => by
    cases e
    exact ⟨P, .refl rs, fun _ _ => rfl, fun i d h => by cases h⟩
  | i :: is, P, r, rf, rs, e => by
    simp only [frzs] at e
    cases c : frz1 r i with
    | none => rw [c] at e; cases e
    | some r1 =>
      rw [c] at e
      -- one
      have one : ∃ P1, Aft T σ P H r P1 H r1 ∧ (∀ j, j ≠ i → r1[j]? = r[j]?) ∧ (∀ d, r.rd i = some d → ∃ u, σ[i]? = some (some u) ∧ Rep T P1 d u) ∧ (∀ d, r.rd i = some d → r1.rd i = some d) := by
        unfold frz1 at c
        cases q : r[i]? with
        | none =>
          rw [q] at c; cases c
          exact ⟨P, .refl rs, fun _ _ => rfl, fun d h => by simp [En.rd, q] at h, fun _ h => h⟩
        | some x =>
          rw [q] at c
          cases x with
          | no =>
            cases c
            exact ⟨P, .refl rs, fun _ _ => rfl, fun d h => by simp [En.rd, q, Sl.d?] at h, fun _ h => h⟩
          | sh d0 =>
            cases c
            refine ⟨P, .refl rs, fun _ _ => rfl, fun d h => ?_, fun _ h => h⟩
            simp [En.rd, q, Sl.d?] at h
            subst h
            exact rs.sh i _ q
          | ow d0 =>
            cases c
            obtain ⟨P1, u, a, rp, eu⟩ := setD_own rs q
            have hi := (List.getElem?_eq_some_iff.mp q).1
            refine ⟨P1, a, fun j n => List.getElem?_set_ne (Ne.symm n), fun d h => ?_, fun d h => ?_⟩
            · simp [En.rd, q, Sl.d?] at h
              subst h
              exact ⟨u, eu, rp⟩
            · simp [En.rd, q, Sl.d?] at h
              subst h
              simp [En.rd, List.getElem?_set_self hi, Sl.d?]
          | io d0 => cases c
      obtain ⟨P1, a1, n1, g1, k1⟩ := one
      obtain ⟨Pf, a2, n2, g2⟩ := frz_ok (is := is) a1.rs e
      refine ⟨Pf, a1.trans a2, fun j hj => ?_, fun j d hj hd => ?_⟩
      · rw [n2 j (fun z => hj (List.mem_cons_of_mem _ z)), n1 j (fun z => hj (by rw [z]; exact List.mem_cons_self))]
      · by_cases z : j = i
        · subst z
          obtain ⟨u, e1, e2⟩ := g1 d hd
          exact ⟨u, e1, Rep.ext a2.st.pp _ _ e2⟩
        · rcases List.mem_cons.mp hj with w | w
          · exact absurd w z
          · exact g2 j d w (by unfold En.rd; rw [n1 j z]; exact hd)
/-- slots that hold these addresses -/
def SA (σ : St) : List Nat → List Addr → Prop
  | [], as => as = []
  | i :: is, as => ∃ a t, as = a :: t ∧ σ[i]? = some (some (.ref a)) ∧ SA σ is t
theorem SA.mem {a : Addr} : ∀ {is : List Nat} {as : List Addr}, SA σ is as → a ∈ as → ∃ i, i ∈ is ∧ σ[i]? = some (some (.ref a))
  | [], _, h, m => by cases h; cases m
  | i :: is, _, h, m => by
    obtain ⟨b, t, rfl, e, h⟩ := h
    rcases List.mem_cons.mp m with rfl | m
    · exact ⟨i, List.mem_cons_self, e⟩
    · obtain ⟨j, m1, e1⟩ := h.mem m
      exact ⟨j, List.mem_cons_of_mem _ m1, e1⟩
/-- what a call gets -/
theorem args_ok (rs : RS T P H σ r) {Pf : Hp} {rf : En} (rsf : RS T Pf H σ rf) (ex : Ext P Pf) : ∀ {ms : List Bool} {xs : List (Nat ⊕ D)} {us : List V} {ds : List D}, RBs T σ P xs us → res r xs = some ds → argsOk r ms xs = true → (inouts ms xs).Nodup →
    (∀ i, i ∈ inouts ms xs → rf[i]? = r[i]?) → (∀ (i : Nat) (d : D), i ∈ plains ms xs → r.rd i = some d → ∃ u, σ[i]? = some (some u) ∧ Rep T Pf d u) →
    RArgs T Pf H ms ds us ∧ SA σ (inouts ms xs) (ioA ms us) ∧ ∀ i, i ∈ inouts ms xs → OwnAt r i
  | [], [], us, ds, h, e, _, _, _, _ => by
    cases e; cases h
    exact ⟨rfl, rfl, fun i m => by cases m⟩
  | [], _ :: _, _, _, _, _, e, _, _, _ => by cases e
  | false :: _, [], _, _, _, _, e, _, _, _ => by cases e
  | true :: _, [], _, _, _, _, e, _, _, _ => by cases e
  | true :: ms, .inr d :: xs, _, _, _, _, e, _, _, _ => by cases e
  | false :: ms, .inr d :: xs, us, ds, h, e, ok, nd, hi, hp => by
    obtain ⟨u, t, rfl, h1, h2⟩ := h
    simp only [res] at e
    cases c2 : res r xs with
    | none => rw [c2] at e; cases e
    | some ds' =>
      rw [c2] at e; cases e
      obtain ⟨q1, q2, q3⟩ := args_ok rs rsf ex (ms := ms) h2 c2 ok nd hi hp
      refine ⟨⟨u, t, rfl, Rep.ext ex _ _ h1, q1⟩, ?_, q3⟩
      cases u <;> exact q2
  | false :: ms, .inl i :: xs, us, ds, h, e, ok, nd, hi, hp => by
    obtain ⟨u, t, rfl, h1, h2⟩ := h
    simp only [res] at e
    cases c : r.rd i with
    | none => rw [c] at e; cases e
    | some d =>
      rw [c] at e
      cases c2 : res r xs with
      | none => rw [c2] at e; cases e
      | some ds' =>
        rw [c2] at e; cases e
        obtain ⟨q1, q2, q3⟩ := args_ok rs rsf ex (ms := ms) h2 c2 ok nd hi (fun j d' m => hp j d' (List.mem_cons_of_mem _ m))
        obtain ⟨w, e1, e2⟩ := hp i d List.mem_cons_self c
        have h1' : σ[i]? = some (some u) := h1
        rw [h1'] at e1; cases e1
        refine ⟨⟨u, t, rfl, e2, q1⟩, ?_, q3⟩
        cases u <;> exact q2
  | true :: ms, .inl i :: xs, us, ds, h, e, ok, nd, hi, hp => by
    obtain ⟨u, t, rfl, h1, h2⟩ := h
    simp only [res] at e
    simp only [argsOk, Bool.and_eq_true] at ok
    cases c : r.rd i with
    | none => rw [c] at e; cases e
    | some d =>
      rw [c] at e
      cases c2 : res r xs with
      | none => rw [c2] at e; cases e
      | some ds' =>
        rw [c2] at e; cases e
        simp only [inouts, List.nodup_cons] at nd
        obtain ⟨q1, q2, q3⟩ := args_ok rs rsf ex (ms := ms) h2 c2 ok.2 nd.2 (fun j m => hi j (List.mem_cons_of_mem _ m)) hp
        obtain ⟨d0, od⟩ := Option.isSome_iff_exists.mp ok.1
        have ow : OwnAt r i ∧ d0 = d := by
          unfold En.own? at od
          unfold En.rd at c
          cases z : r[i]? with
          | none => rw [z] at od; cases od
          | some x =>
            rw [z] at od c
            cases x with
            | ow d' => cases od; cases c; exact ⟨⟨_, .inl z⟩, rfl⟩
            | io d' => cases od; cases c; exact ⟨⟨_, .inr z⟩, rfl⟩
            | _ => cases od
        obtain ⟨ow, rfl⟩ := ow
        have odf : rf.own? i = some d0 := by unfold En.own?; rw [hi i List.mem_cons_self]; exact od
        obtain ⟨a, e1, e2, e3⟩ := own_at rsf odf
        have h1' : σ[i]? = some (some u) := h1
        rw [h1'] at e1; cases e1
        refine ⟨⟨a, t, rfl, e2, e3, q1, fun m => ?_⟩, ⟨a, _, rfl, h1', q2⟩, fun j m => ?_⟩
        · obtain ⟨j, m1, e4⟩ := q2.mem m
          have := rs.dis i j a ow (q3 j m1) h1' e4
          subst this
          exact nd.1 m1
        · rcases List.mem_cons.mp m with rfl | m
          · exact ow
          · exact q3 j m
/-- the changed slots behind a call -/
theorem chgs_get {P' H' : Hp} : ∀ {is : List Nat} {as : List Addr} {outs : List D} {r r2 : En}, SA σ is as → ROuts T P' H' as outs → chgs r is outs = some r2 →
    r2.length = r.length ∧ ∀ (j : Nat) (x : Sl), r2[j]? = some x → (j ∉ is ∧ r[j]? = some x) ∨ (j ∈ is ∧ ∃ (y : Sl) (a : Addr) (d : D), r[j]? = some y ∧ kle y x ∧ (x = .ow d ∨ x = .io d) ∧ σ[j]? = some (some (.ref a)) ∧ P' a = none ∧ RepO T P' H' a d)
  | [], as, outs, r, r2, h, ho, e => by
    cases h; cases ho; cases e
    exact ⟨rfl, fun j x q => .inl ⟨by simp, q⟩⟩
  | i :: is, as, outs, r, r2, h, ho, e => by
    obtain ⟨a, t, rfl, ea, h⟩ := h
    obtain ⟨d, ds, rfl, pa, ro, ho⟩ := ho
    simp only [chgs] at e
    cases c : r.chg i d with
    | none => rw [c] at e; cases e
    | some r1 =>
      rw [c] at e
      obtain ⟨l, g⟩ := chgs_get h ho e
      have key : ∃ y z, r[i]? = some y ∧ r1 = r.set i z ∧ kle y z ∧ (z = .ow d ∨ z = .io d) := by
        unfold En.chg at c
        cases q : r[i]? with
        | none => rw [q] at c; cases c
        | some x =>
          rw [q] at c
          cases x with
          | ow d' => cases c; exact ⟨_, _, rfl, rfl, trivial, .inl rfl⟩
          | io d' => cases c; exact ⟨_, _, rfl, rfl, trivial, .inr rfl⟩
          | _ => cases c
      obtain ⟨y, z, ey, rfl, k, ez⟩ := key
      have hi := (List.getElem?_eq_some_iff.mp ey).1
      refine ⟨by rw [l, List.length_set], fun j x q => ?_⟩
      rcases g j x q with ⟨n, q⟩ | ⟨m, y', b, d', q1, q2, q3, q4, q5, q6⟩
      · rcases set_get hi q with ⟨e1, e2⟩ | ⟨n2, e2⟩
        · subst e1; subst e2
          exact .inr ⟨List.mem_cons_self, y, a, d, ey, k, ez, ea, pa, ro⟩
        · exact .inl ⟨by simp [n, n2], e2⟩
      · refine .inr ⟨List.mem_cons_of_mem _ m, ?_⟩
        rcases set_get hi q1 with ⟨e1, e2⟩ | ⟨n2, e2⟩
        · subst e1; subst e2
          exact ⟨y, b, d', ey, k.trans q2, q3, q4, q5, q6⟩
        · exact ⟨y', b, d', e2, q2, q3, q4, q5, q6⟩
theorem aft_call {P' H' : Hp} {is : List Nat} {as : List Addr} {outs : List D} {r2 : En} (rs : RS T P H σ r) (sa : SA σ is as) (ow : ∀ i, i ∈ is → OwnAt r i) (sub : Ext P' H') (pp : Ext P P') (fr : ∀ b o, H b = some o → b ∉ as → H' b = some o)
    (dm : ∀ b, H' b = none → H b = none) (nw : ∀ b, P' b ≠ none → P b ≠ none ∨ H b = none) (ho : ROuts T P' H' as outs) (e : chgs r is outs = some r2) : Aft T σ P H r P' H' r2 := by
  obtain ⟨l, g⟩ := chgs_get sa ho e
  have ownJ : ∀ j, OwnAt r2 j → OwnAt r j := fun j ⟨d, o⟩ => by
    rcases o with o | o
    · rcases g j _ o with ⟨_, q⟩ | ⟨m, _⟩
      · exact ⟨d, .inl q⟩
      · exact ow j m
    · rcases g j _ o with ⟨_, q⟩ | ⟨m, _⟩
      · exact ⟨d, .inr q⟩
      · exact ow j m
  refine ⟨⟨sub, by rw [l]; exact rs.len, fun j d q => ?_, fun j d q => ?_, fun j k a o1 o2 => rs.dis j k a (ownJ j o1) (ownJ k o2)⟩, ⟨pp, fun b o eb nb => fr b o eb fun m => ?_, dm, fun b hb => (nw b hb).elim .inl fun z => .inr (.inl z)⟩, ⟨l, fun j x x' h1 h2 => ?_⟩⟩
  · rcases g j _ q with ⟨_, q⟩ | ⟨m, y, a, d', _, _, q3, _⟩
    · obtain ⟨v, e1, e2⟩ := rs.sh j d q
      exact ⟨v, e1, Rep.ext pp _ _ e2⟩
    · rcases q3 with q3 | q3 <;> cases q3
  · have q' : (j ∉ is ∧ (r[j]? = some (Sl.ow d) ∨ r[j]? = some (Sl.io d))) ∨ (∃ a, σ[j]? = some (some (.ref a)) ∧ P' a = none ∧ RepO T P' H' a d) := by
      rcases q with q | q
      · rcases g j _ q with ⟨n, q⟩ | ⟨m, y, a, d', _, _, q3, q4, q5, q6⟩
        · exact .inl ⟨n, .inl q⟩
        · rcases q3 with q3 | q3 <;> cases q3
          exact .inr ⟨a, q4, q5, q6⟩
      · rcases g j _ q with ⟨n, q⟩ | ⟨m, y, a, d', _, _, q3, q4, q5, q6⟩
        · exact .inl ⟨n, .inr q⟩
        · rcases q3 with q3 | q3 <;> cases q3
          exact .inr ⟨a, q4, q5, q6⟩
    rcases q' with ⟨n, q⟩ | q
    · obtain ⟨a, e1, e2, e3⟩ := rs.own j d q
      obtain ⟨o, eo⟩ := e3.some
      have na : a ∉ as := fun m => by
        obtain ⟨i, m1, e4⟩ := sa.mem m
        have := rs.dis j i a ⟨d, q⟩ (ow i m1) e1 e4
        subst this
        exact n m1
      refine ⟨a, e1, ?_, e3.move pp (by rw [fr a o eo na, eo])⟩
      cases z : P' a with
      | none => rfl
      | some w =>
        rcases nw a (by rw [z]; simp) with y | y
        · exact absurd e2 y
        · rw [eo] at y; cases y
    · exact q
  · obtain ⟨i, m1, e4⟩ := sa.mem m
    exact nb ⟨i, ow i m1, e4⟩
  · rcases g j _ h2 with ⟨_, q⟩ | ⟨_, y, _, _, q1, q2, _⟩
    · rw [h1] at q; cases q; exact kle.refl x
    · rw [h1] at q1; cases q1; exact q2
theorem shal_outs {P0 P' H' : Hp} (ex : ∀ a, P' a = none → P0 a = none) : ∀ {as : List Addr} {outs : List D}, outs.all shal = true → ROuts T P' H' as outs → ROuts T P0 H' as outs
  | [], _, _, h => h
  | a :: as, _, s, h => by
    obtain ⟨d, t, rfl, h1, h2, h3⟩ := h
    simp only [List.all_cons, Bool.and_eq_true] at s
    exact ⟨d, t, rfl, ex a h1, shal_repO s.1 h2, shal_outs ex s.2 h3⟩
/-- a call's promise, from what the evaluator wants behind it -/
theorem goC_of {c : List D → CR} {ms : List Bool} {xs : List (Nat ⊕ D)} {us : List V} {Q : VK} (rs : RS T P H σ r) (rb : RBs T σ P xs us) (go : Go T WF (relV T) σ P H r (callR ms c xs r) Q) :
    spD T ms c us H Q (fun _ _ _ => False) := by
  unfold callR at go
  by_cases k : (argsOk r ms xs && apart (inouts ms xs) (plains ms xs) && decide (ms.length = xs.length)) = true
  rotate_left
  · rw [if_neg k] at go; exact go.elim
  rw [if_pos k] at go
  simp only [Bool.and_eq_true, decide_eq_true_eq] at k
  obtain ⟨⟨k1, k2⟩, k3⟩ := k
  simp only [apart, Bool.and_eq_true, decide_eq_true_eq, List.all_eq_true, Bool.not_eq_true', List.contains_eq_mem, decide_eq_false_iff_not] at k2
  cases er : res r xs with
  | none => rw [er] at go; exact go.elim
  | some ds =>
    rw [er] at go
    simp only [after] at go
    cases ef : frzs r (plains ms xs) with
    | none => rw [ef] at go; exact go.elim
    | some rf =>
      rw [ef] at go
      obtain ⟨Pf, af, n1, g1⟩ := frz_ok rs ef
      obtain ⟨ra, sa, ow⟩ := args_ok rs af.rs af.st.pp rb er k1 k2.1 (fun i m => n1 i (k2.2 i m)) g1
      refine ⟨Pf, ds, af.rs.sub, ra, ?_⟩
      cases ec : c ds with
      | bad => rw [ec] at go; exact go.elim
      | exc _ _ _ =>
        rw [ec] at go; exact go.elim
      | ok v outs =>
        rw [ec] at go
        intro u P' H' a rv
        simp only at go
        split at go
        · rename_i sc
          rw [Bool.and_eq_true] at sc
          split at go
          · rename_i r1 e1
            have nf : ∀ b, P' b = none → P b = none := fun b hb => by
              cases z : P b with
              | none => rfl
              | some w => rw [a.pp _ _ (af.st.pp _ _ z)] at hb; cases hb
            refine go u P H' (aft_call rs sa ow (fun b o hb => a.sub _ _ (a.pp _ _ (af.st.pp _ _ hb))) (.refl _) a.fr a.dm (fun b hb => .inl hb) (shal_outs nf sc.2 a.outs) e1) ?_
            cases v with
            | sh d => exact flat_rep sc.1 rv
            | ow d =>
              obtain ⟨b, _, _, ro, _⟩ := rv
              have : flat d = true := sc.1
              cases d <;> first | exact False.elim ro | cases this
          · exact go.elim
        · split at go
          · rename_i r1 e1
            refine go u P' H' (af.trans (aft_call af.rs sa (fun i m => ?_) a.sub a.pp a.fr a.dm a.nw a.outs e1)) rv
            obtain ⟨d, o⟩ := ow i m
            exact ⟨d, by rw [n1 i (k2.2 i m)]; exact o⟩
          · exact go.elim
end
section
variable {T : Tb} {W : WX} {X : Cx} {k : Nat} {f : Addr} {fd : FuncData} {ps : List Str} {ds : List Value} {dvs : List V} {dfl : List D} {x : Str}
/-- the callee runs -/
theorem run_fnG {sp : Sp} {pins : List (Addr × Obj)} {s : Shared} {σ : St} {H : Hp} {us : List Value} {vs : List V} {Q : VK} (ck : CB T k X) (F : FnG T k f fd ps sp) (hb : Binds T.K fd ps ds) (hd : Vals dvs ds)
    (I : Inv X pins σ H s) (r : Vals vs us) (h : sp (vs ++ dvs) H Q (fun _ _ _ => False)) : wpAny (model X.prog X.w) X.A (call (.ref f) us) (EP X pins σ Q) X.xe s := by
  have r2 : Vals (vs ++ dvs) (us ++ ds) := r.append hd
  have hl : (us ++ ds).length = ps.length := by rw [← r2.length]; exact F.len _ _ _ _ h
  have e0 : Env0 T.P T.w T.K T.mg T.base X.A X.stack s H := by
    rw [← ck.eP, ← ck.ew, ← ck.eK, ← ck.emg, ← ck.ebase]; exact I.env0
  have run := F.run X.A X.stack s H ⟨us, []⟩ (us ++ ds) (vs ++ dvs) Q (fun _ _ _ => False) ck.room ck.grd e0 (hb s us (by rw [← ck.eK]; exact I.kIn) hl) r2 h
  rw [ck.eP, ck.ew]
  refine wpAny_call (codeAny_mono run fun r s' hq => ?_)
  cases r with
  | error e => exact False.elim hq
  | ok fl =>
    cases fl with
    | ret u => exact I.after (by rw [ck.eP, ck.ew]; exact hq)
    | next => exact False.elim hq
    | brk => exact False.elim hq
    | cont => exact False.elim hq
theorem rbs_app {σ : St} {P : Hp} : ∀ {xs ys : List (Nat ⊕ D)} {us vs : List V}, RBs T σ P xs us → RBs T σ P ys vs → RBs T σ P (xs ++ ys) (us ++ vs)
  | [], _, _, _, h, h2 => by cases h; exact h2
  | x :: xs, _, _, _, h, h2 => by
    obtain ⟨u, t, rfl, h1, h⟩ := h
    exact ⟨u, _, rfl, h1, rbs_app h h2⟩
theorem rbs_inr {σ : St} {P : Hp} : ∀ {ds : List D} {us : List V}, Reps T P ds us → RBs T σ P (ds.map .inr) us
  | [], _, h => h.of_nil
  | d :: ds, _, h => by
    obtain ⟨u, t, rfl, h1, h⟩ := h.of_cons
    exact ⟨u, t, rfl, h1, rbs_inr h⟩
def tDef (T : Tb) (ms : List Bool) (c : List D → CR) (dvs : List V) (t : TA) : TE := fun σ H Q => t σ H fun vs H1 => spD T ms c (vs ++ dvs) H1 Q (fun _ _ _ => False)
theorem pe_def {ms : List Bool} {c : List D → CR} {e : PySem.Expr} {es : List PySem.Expr} {p pos : Pos} {t : TA} (ck : CB T k X) (F : FnG T k f fd ps (spD T ms c)) (hg : Gl X x) (hm : T.mg x = some (.ref f)) (hk : PySem.W.keepIn T.K (.ref f) = true) (hb : Binds T.K fd ps ds) (hd : Vals dvs ds)
    (ha : PA X (e :: es) t) (hs : notStar e = true) (hss : es.all notStar = true) (hdb : (x == ("__debug__" : Str)) = false) :
    PE X (.Call (.Name x p) (e :: es) [] pos) (tDef T ms c dvs t) := by
  refine ⟨fun pins s σ H Q I h => ?_⟩
  refine wpAny_Call_Name_kw (ld_glob I hg (by rw [ck.emg]; exact hm) ?_ hdb)
  refine PySem.W.callWith_K (h₀ := X.base) I.ok.mod.kin (by rw [ck.eK]; exact hk) (thn (ha.run pos pins s σ H _ I h) fun us s1 ⟨vs, H1, I1, r, q⟩ => ⟨I1.kIn, ?_⟩) (star_one hs es X.env) (star_all hss X.env pos)
  exact run_fnG ck F hb hd I1 r q
theorem pe_def0 {ms : List Bool} {c : List D → CR} {p pos : Pos} (ck : CB T k X) (F : FnG T k f fd ps (spD T ms c)) (hg : Gl X x) (hm : T.mg x = some (.ref f)) (hk : PySem.W.keepIn T.K (.ref f) = true) (hb : Binds T.K fd ps ds) (hd : Vals dvs ds) (hdb : (x == ("__debug__" : Str)) = false) :
    PE X (.Call (.Name x p) [] [] pos) (tDef T ms c dvs tNil) := by
  refine ⟨fun pins s σ H Q I h => ?_⟩
  refine wpAny_Call_Name_kw (ld_glob I hg (by rw [ck.emg]; exact hm) ?_ hdb)
  exact PySem.W.callWith_K0 I.kIn (by rw [ck.eK]; exact hk) (run_fnG (us := []) ck F hb hd I .nil h)
/-- a def's call by what the evaluator says -/
theorem de_def {ms : List Bool} {c : List D → CR} {e : PySem.Expr} {fs : En → R (List (Nat ⊕ D))} {t : TA} (h : PE X e (tDef T ms c dvs t)) (ht : ∀ σ H Q, tA T WF fs σ H Q → t σ H Q) (hd : ∀ P, Reps T P dfl dvs) :
    PE X e (tE T WF fun r => (fs r).bind fun ys r1 => callR ms c (ys ++ dfl.map .inr) r1) := peImp h fun σ H Q ⟨P, r, rs, go⟩ =>
  ht _ _ _ ⟨P, r, rs, (Go.bind (anti_V T) go).mono fun us H1 ⟨P1, r1, ys, a, q, e, g⟩ => goC_of a.rs (rbs_app q (rbs_inr (hd P1))) g⟩
end
end Z
/-! ZP: methods, isinstance, slices, tests. -/
namespace Z
open PySem PySem.Spec L2
open PyProof.Rows hiding St
section
variable {T : Tb} {W : WX} {X : Cx} {e : PySem.Expr} {fa fb fc : En → R (Nat ⊕ D)}
theorem bind_assoc {A B C : Type} (x : R A) (f : A → En → R B) (g : B → En → R C) : (x.bind f).bind g = x.bind fun a r => (f a r).bind g := by cases x <;> rfl

/-! ### methods that change -/
/-- a method's rule does what the evaluator says -/
def MuOk (T : Tb) (m : MU) (rr : V → List V → Hp → VK → Prop) : Prop :=
  ∀ (P H : Hp) (a : Addr) (l : List D) (xs : List V) (ds : List D) (us : List V) (o' v : D), H a = some (.lst xs) → Reps T P l xs → Reps T P ds us → muD m (.lst l) ds = some (o', v) →
    ∃ l' xs' u, o' = .lst l' ∧ Reps T P l' xs' ∧ Rep T P v u ∧ ∀ Q : VK, Q u (upd H a (.lst xs')) → rr (.ref a) us H Q
theorem mu_append : MuOk T .append rAppend := fun P H a l xs ds us o' v hH hl hd e => by
  match ds, us, hd, e with
  | [x], us, hd, e =>
    obtain ⟨u, t, rfl, h1, h2⟩ := hd.of_cons
    rw [h2.of_nil]
    simp only [muD] at e
    split at e
    · rename_i z
      cases e
      exact ⟨_, xs ++ [u], .non, rfl, hl.append (.cons h1 .nil), by simp only [Rep], fun Q q => ⟨a, xs, u, rfl, rfl, hH, by rw [hl.length, ← LINE_eq]; exact z, q⟩⟩
    · cases e
  | [], _, _, e => simp [muD] at e
  | _ :: _ :: _, _, _, e => simp [muD] at e
theorem mu_pop : MuOk T .pop rPop := fun P H a l xs ds us o' v hH hl hd e => by
  match ds, us, hd, e with
  | [], us, hd, e =>
    rw [hd.of_nil]
    simp only [muD] at e
    cases c : l[l.length - 1]? with
    | none => rw [c] at e; cases e
    | some y =>
      rw [c] at e
      cases e
      obtain ⟨u, e1, e2⟩ := hl.get c
      exact ⟨_, xs.dropLast, u, rfl, hl.dropLast, e2, fun Q q => ⟨a, xs, u, rfl, rfl, hH, by rw [hl.length]; exact e1, q⟩⟩
  | _ :: _, _, _, e => simp [muD] at e
theorem ixN_small {n : Nat} {i : Int} {k : Nat} (h : Z.ixN n i = some k) (hn : n ≤ LINE) : -(2 ^ 63) ≤ i ∧ i < 2 ^ 63 ∧ seqIndex? i n = some k := by
  have hl : (LINE : Nat) = 16777216 := rfl
  unfold Z.ixN at h
  unfold seqIndex?
  by_cases c : 0 ≤ i
  · rw [if_pos c] at h
    by_cases c2 : i < (n : Int)
    · rw [if_pos c2] at h
      refine ⟨by omega, by omega, ?_⟩
      rw [← h, if_neg (show ¬ i < 0 by omega)]
      simp [c, c2]
    · rw [if_neg c2] at h; cases h
  · rw [if_neg c] at h
    by_cases c2 : -(n : Int) ≤ i
    · rw [if_pos c2] at h
      refine ⟨by omega, by omega, ?_⟩
      rw [← h, if_pos (show i < 0 by omega)]
      have h1 : 0 ≤ i + n := by omega
      have h2 : i + (n : Int) < n := by omega
      simp [h1, h2]
    · rw [if_neg c2] at h; cases h
theorem mu_popAt : MuOk T .popAt rPopAt := fun P H a l xs ds us o' v hH hl hd e => by
  match ds, us, hd, e with
  | [.int i], us, hd, e =>
    obtain ⟨u, t, rfl, h1, h2⟩ := hd.of_cons
    rw [h2.of_nil]
    simp only [Rep] at h1
    subst h1
    simp only [muD] at e
    by_cases hn : l.length ≤ LINE
    rotate_left
    · rw [if_neg hn] at e; cases e
    rw [if_pos hn] at e
    cases c : Z.ixN l.length i with
    | none => rw [c] at e; cases e
    | some k =>
      rw [c] at e
      simp only [Option.bind_some] at e
      cases c2 : l[k]? with
      | none => rw [c2] at e; cases e
      | some y =>
        rw [c2] at e
        cases e
        obtain ⟨u, e1, e2⟩ := hl.get c2
        obtain ⟨b1, b2, b3⟩ := ixN_small c hn
        exact ⟨_, xs.eraseIdx k, u, rfl, hl.eraseIdx k, e2, fun Q q => ⟨a, xs, i, k, u, rfl, rfl, hH, b1, b2, by rw [hl.length]; exact b3, e1, q⟩⟩
  | [], _, _, e => simp [muD] at e
  | _ :: _ :: _, _, _, e => simp [muD] at e
  | [.non], _, _, e => simp [muD] at e
  | [.bl _], _, _, e => simp [muD] at e
  | [.str _], _, _, e => simp [muD] at e
  | [.lst _], _, _, e => simp [muD] at e
  | [.tup _], _, _, e => simp [muD] at e
  | [.dct _ _], _, _, e => simp [muD] at e
  | [.fn _], _, _, e => simp [muD] at e
  | [.exn _ _], _, _, e => simp [muD] at e
  | [.scr _], _, _, e => simp [muD] at e
theorem mu_reverse : MuOk T .reverse rReverse := fun P H a l xs ds us o' v hH hl hd e => by
  match ds, us, hd, e with
  | [], us, hd, e =>
    rw [hd.of_nil]
    simp only [muD] at e
    cases e
    exact ⟨_, xs.reverse, .non, rfl, hl.reverse, by simp only [Rep], fun Q q => ⟨a, xs, rfl, rfl, hH, q⟩⟩
  | _ :: _, _, _, e => simp [muD] at e
def mutR (m : MU) (i : Nat) (ds : List D) (r1 : En) : R Val := (R.of ((r1.own? i).bind fun o => (muD m o ds).bind fun p => (r1.chg i p.1).map fun r2 => (Val.sh p.2, r2)) r1).bind (fun q _ => .ok q.1 q.2)
theorem mut_go {m : MU} {rr : V → List V → Hp → VK → Prop} (hm : MuOk T m rr) {σ : St} {P H : Hp} {r : En} {i : Nat} {ds : List D} {us : List V} {a : Addr} {Q : VK} (rs : RS T P H σ r) (ea : σ[i]? = some (some (.ref a))) (hd : Reps T P ds us)
    (go : Go T W (relV T) σ P H r (mutR m i ds r) Q) : rr (.ref a) us H Q := by
  unfold mutR at go
  cases c1 : r.own? i with
  | none => rw [c1] at go; exact go.elim
  | some o =>
    rw [c1] at go
    simp only [Option.bind_some] at go
    cases c2 : muD m o ds with
    | none => rw [c2] at go; exact go.elim
    | some p =>
      rw [c2] at go
      simp only [Option.bind_some] at go
      cases c3 : r.chg i p.1 with
      | none => rw [c3] at go; exact go.elim
      | some r2 =>
        rw [c3] at go
        obtain ⟨b, e1, e2, e3⟩ := own_at rs c1
        rw [ea] at e1; cases e1
        have hl : ∃ l, o = .lst l := by
          cases o with
          | lst l => exact ⟨l, rfl⟩
          | _ => cases m <;> simp [muD] at c2
        obtain ⟨l, rfl⟩ := hl
        obtain ⟨xs, hH, hx⟩ := e3
        obtain ⟨l', xs', u, h1, h2, h3, h4⟩ := hm P H a l xs ds us p.1 p.2 hH hx hd c2
        refine h4 Q (go u P (upd H a (.lst xs')) ?_ h3)
        rw [h1] at c3
        exact chg_ok rs c1 ea c3 ⟨xs', upd_same, h2⟩
theorem lstAt_own {r : En} {i : Nat} (h : lstAt r i = true) : ∃ l, r.own? i = some (.lst l) := by
  unfold lstAt at h
  cases c : r.own? i with
  | none => rw [c] at h; cases h
  | some o =>
    rw [c] at h
    cases o <;> first | cases h; done | skip
    exact ⟨_, rfl⟩
theorem tBM_of (hK : X.K = T.K) {m : MU} {rr : V → List V → Hp → VK → Prop} (hm : MuOk T m rr) {i : Nat} {f : En → R (List D)} {σ : St} {H : Hp} {Q : VK}
    (h : tE T W (fun r => if lstAt r i = true then (f r).bind fun ds r1 => mutR m i ds r1 else .bad) σ H Q) {t : TA} (ht : ∀ σ H Q, tS T W f σ H Q → t σ H Q) : tBM X.K "list" rr (tVar i) t σ H Q := by
  obtain ⟨P, r, rs, go⟩ := h
  dsimp only at go
  by_cases k : lstAt r i = true
  · rw [if_pos k] at go
    obtain ⟨l, e0⟩ := lstAt_own k
    obtain ⟨a, ea, _, ro⟩ := own_at rs e0
    obtain ⟨xs, hH, _⟩ := ro
    refine ⟨.ref a, ea, .inl ⟨rfl, xs, .inl (.inl hH)⟩, ht _ _ _ ⟨P, r, rs, (Go.bind (anti_V T) go).mono fun us H1 ⟨P1, r1, ds, a1, q1, e1, go1⟩ => mut_go hm a1.rs ea q1 go1⟩⟩
  · rw [if_neg k] at go; exact go.elim
theorem de_append (hK : X.K = T.K) {o x : PySem.Expr} {apos cpos : Pos} {i : Nat} {f : En → R (List D)} (ho : PE X o (tVar i)) (ha : PA X [x] (tS T W f)) (hs : notStar x = true)
    (hb : attributeBase o "append" X.env (eval o X.env) = eval o X.env) (hl : (apos.endLine == cpos.line) = true) :
    PE X (.Call (.Attribute o "append" apos) [x] [] cpos) (tE T W fun r => if lstAt r i = true then (f r).bind fun ds r1 => mutR .append i ds r1 else .bad) :=
  peImp (pe_bm PySem.F.plainAttrs_list PySem.F.slot_list_append PySem.F.type_list_append (mt_append (X := X)) ho ha hb (by rw [star_one hs]; rfl) hl (star_one hs _ _) rfl) fun σ H Q h => tBM_of hK mu_append h fun _ _ _ h => h
theorem de_popAt (hK : X.K = T.K) {o x : PySem.Expr} {apos cpos : Pos} {i : Nat} {f : En → R (List D)} (ho : PE X o (tVar i)) (ha : PA X [x] (tS T W f)) (hs : notStar x = true)
    (hb : attributeBase o "pop" X.env (eval o X.env) = eval o X.env) (hl : (apos.endLine == cpos.line) = true) :
    PE X (.Call (.Attribute o "pop" apos) [x] [] cpos) (tE T W fun r => if lstAt r i = true then (f r).bind fun ds r1 => mutR .popAt i ds r1 else .bad) :=
  peImp (pe_bm PySem.F.plainAttrs_list PySem.F.slot_list_pop PySem.F.type_list_pop (mt_popAt (X := X)) ho ha hb (by rw [star_one hs]; rfl) hl (star_one hs _ _) rfl) fun σ H Q h => tBM_of hK mu_popAt h fun _ _ _ h => h
theorem tBM0_of {K : PySem.W.Frag} {rr : V → List V → Hp → VK → Prop} {i : Nat} {σ : St} {H : Hp} {Q : VK} (h : tBM K "list" rr (tVar i) tNil σ H Q) : tBM0 K "list" rr (tVar i) σ H Q := h
theorem de_pop (hK : X.K = T.K) {C : Cf} {o : PySem.Expr} {apos cpos : Pos} {i : Nat} (ho : PE X o (tVar i)) (hb : attributeBase o "pop" X.env (eval o X.env) = eval o X.env) (hl : (apos.endLine == cpos.line) = true) :
    PE X (.Call (.Attribute o "pop" apos) [] [] cpos) (tE T W fun r => if lstAt r i = true then (evs C [] r).bind fun ds r1 => mutR .pop i ds r1 else .bad) :=
  peImp (pe_bm0 PySem.F.plainAttrs_list PySem.F.slot_list_pop PySem.F.type_list_pop (mt_pop (X := X)) ho hb hl) fun σ H Q h => tBM0_of (tBM_of hK mu_pop h fun _ _ _ ⟨P, r, rs, go⟩ => go [] P _ (.refl rs) .nil)
theorem de_reverse (hK : X.K = T.K) {C : Cf} {o : PySem.Expr} {apos cpos : Pos} {i : Nat} (ho : PE X o (tVar i)) (hb : attributeBase o "reverse" X.env (eval o X.env) = eval o X.env) (hl : (apos.endLine == cpos.line) = true) :
    PE X (.Call (.Attribute o "reverse" apos) [] [] cpos) (tE T W fun r => if lstAt r i = true then (evs C [] r).bind fun ds r1 => mutR .reverse i ds r1 else .bad) :=
  peImp (pe_bm0 PySem.F.plainAttrs_list PySem.F.slot_list_reverse PySem.F.type_list_reverse (mt_reverse (X := X)) ho hb hl) fun σ H Q h => tBM0_of (tBM_of hK mu_reverse h fun _ _ _ ⟨P, r, rs, go⟩ => go [] P _ (.refl rs) .nil)

/-! ### methods that only look -/
theorem de_bits {o : PySem.Expr} {apos pos : Pos} (ho : PE X o (tB T W fa)) (hb : attributeBase o "bit_length" X.env (eval o X.env) = eval o X.env) (hl : (apos.endLine == pos.line) = true) :
    PE X (.Call (.Attribute o "bit_length" apos) [] [] pos) (tE T W fun r => (fa r).bind fun x r1 => op1 (fun d => (mtD .bitlen d []).map Val.sh) x r1) := by
  refine de_op1 (peImp (pe_bits ho hb hl) fun σ H Q h => ?_)
  obtain ⟨P, r, rs, go⟩ := h
  refine ⟨P, r, rs, go.mono fun u H1 ⟨a, v, σ1, P1, r1, rs1, ra, e, go1⟩ => ?_⟩
  cases a <;> simp only [mtD, Option.map_none, Option.map_some] at e <;> first | (cases e; done) | skip
  cases e
  exact ⟨_, ra.int, go1.here rs1 (by simp only [Rep])⟩
theorem eqv_comm_flat {a b : D} (f : flat a = true) (g : flat b = true) : eqv a b = eqv a b := rfl
theorem indexD_spec {x : D} {l : List D} {k : Nat} (h : indexD x l = some k) : ∃ y, l[k]? = some y ∧ eqv y x = true ∧ ∀ m z, m < k → l[m]? = some z → eqv z x = false := by
  unfold indexD at h
  rw [List.find?_range_eq_some] at h
  obtain ⟨h1, h2, h3⟩ := h
  cases c : l[k]? with
  | none => rw [c] at h1; cases h1
  | some y =>
    rw [c] at h1
    refine ⟨y, rfl, h1, fun m z hm hz => ?_⟩
    have := h3 m hm
    rw [hz] at this
    simpa using this
theorem de_index (hK : X.K = T.K) {o x : PySem.Expr} {apos cpos : Pos} {f : En → R (List (Nat ⊕ D))} (ho : PE X o (tB T W fa)) (ha : PA X [x] (tA T W f)) (hs : notStar x = true)
    (hb : attributeBase o "index" X.env (eval o X.env) = eval o X.env) (hl : (apos.endLine == cpos.line) = true) :
    PE X (.Call (.Attribute o "index" apos) [x] [] cpos) (tE T W fun r => (fa r).bind fun x r1 => if lstB r1 x then (f r1).bind fun xs r2 => opn (fun l => match l with | d :: ds => (mtD .index d ds).map Val.sh | [] => none) (x :: xs) r2 else .bad) := by
  refine peImp (pe_bm PySem.F.plainAttrs_list PySem.F.slot_list_index PySem.F.type_list_index (mt_index (X := X)) ho ha hb (by rw [star_one hs]; rfl) hl (star_one hs _ _) rfl) fun σ H Q ⟨P, r, rs, go⟩ => ?_
  refine ⟨P, r, rs, (Go.bind (anti_V T) go).mono fun u H1 ⟨P1, r1, x, a1, q1, e1, go1⟩ => ?_⟩
  by_cases k : lstB r1 x = true
  rotate_left
  · rw [if_neg k] at go1; exact go1.elim
  rw [if_pos k] at go1
  have hx : ∃ l, res r1 [x] = some [.lst l] := by
    unfold lstB at k
    split at k
    · rename_i l h; exact ⟨l, h⟩
    · cases k
  obtain ⟨l, hx⟩ := hx
  obtain ⟨d, e0, ra⟩ := res1 a1.rs q1 hx
  cases e0
  obtain ⟨p, xs, rfl, hH, hr⟩ := ra.lst a1.rs
  refine ⟨.inl ⟨rfl, xs, .inl (.inl hH)⟩, ⟨P1, r1, a1.rs, (Go.bind (anti_V T) go1).mono fun us H2 ⟨P2, r2, ys, a2, q2, e2, go2⟩ => ?_⟩⟩
  unfold opn at go2
  cases c : res r2 (x :: ys) with
  | none => rw [c] at go2; exact go2.elim
  | some ds =>
    rw [c] at go2
    simp only [Option.bind_some] at go2
    have rb : RBs T σ P2 (x :: ys) (.ref p :: us) := ⟨_, _, rfl, q1.ext a2.st.pp, q2⟩
    have ras := res_ok a2.rs rb c
    match ds, ras, go2 with
    | [], ras, go2 => exact go2.elim
    | d :: ds, ras, go2 =>
      obtain ⟨u0, t0, e3, ra1, ras⟩ := ras
      cases e3
      simp only at go2
      cases c2 : mtD .index d ds with
      | none => rw [c2] at go2; exact go2.elim
      | some w =>
        rw [c2] at go2
        match d, ds, c2, ra1, ras with
        | .lst l2, [y], c2, ra1, ras =>
          simp only [mtD] at c2
          split at c2
          rotate_left
          · cases c2
          rename_i hf
          rw [Bool.and_eq_true] at hf
          cases c3 : indexD y l2 with
          | none => rw [c3] at c2; cases c2
          | some k =>
            rw [c3] at c2
            cases c2
            obtain ⟨p2, xs2, e4, hH2, hr2⟩ := ra1.lst a2.rs
            cases e4
            obtain ⟨u1, t1, e5, ra2, ras2⟩ := ras
            subst e5
            obtain rfl : t1 = [] := ras2
            have ry : Rep T P2 y u1 := flat_RA hf.1 ra2
            obtain ⟨z, g1, g2, g3⟩ := indexD_spec c3
            have fl : ∀ {m : Nat} {w : D}, l2[m]? = some w → flat w = true := fun {m w} q => List.all_eq_true.mp hf.2 w (List.mem_of_getElem? q)
            obtain ⟨v, e6, e7⟩ := hr2.get g1
            refine ⟨p, xs2, u1, k, v, rfl, rfl, .inl (.inl hH2), rep_flatV hf.1 ry, all_flatV hr2 hf.2, e6, by rw [rep_eqV (fl g1) hf.1 e7 ry]; exact g2, fun m z' hm hz => ?_, go2.here a2.rs (by simp only [Rep])⟩
            have hlt : m < l2.length := by
              have := (List.getElem?_eq_some_iff.mp hz).1
              rw [hr2.length] at this
              exact this
            obtain ⟨v', e8, e9⟩ := hr2.get (List.getElem?_eq_getElem hlt)
            rw [hz] at e8; cases e8
            rw [rep_eqV (fl (List.getElem?_eq_getElem hlt)) hf.1 e9 ry]
            exact g3 m _ hm (List.getElem?_eq_getElem hlt)
        | .lst _, [], c2, _, _ => simp [mtD] at c2
        | .lst _, _ :: _ :: _, c2, _, _ => simp [mtD] at c2
        | .non, _, c2, _, _ => simp [mtD] at c2
        | .bl _, _, c2, _, _ => simp [mtD] at c2
        | .int _, _, c2, _, _ => simp [mtD] at c2
        | .str _, _, c2, _, _ => simp [mtD] at c2
        | .tup _, _, c2, _, _ => simp [mtD] at c2
        | .dct _ _, _, c2, _, _ => simp [mtD] at c2
        | .fn _, _, c2, _, _ => simp [mtD] at c2
        | .exn _ _, _, c2, _, _ => simp [mtD] at c2
        | .scr _, _, c2, _, _ => simp [mtD] at c2
end
end Z
/-! ZQ: built-in calls, isinstance, slices, tests. -/
namespace Z
open PySem PySem.Spec L2
open PyProof.Rows hiding St
section
variable {T : Tb} {W : WX} {X : Cx} {e : PySem.Expr} {fa fb fc : En → R (Nat ⊕ D)}
/-! ### built-in functions and types called -/
theorem de_biB {id : String} {x : Str} {a : PySem.Expr} {es : List PySem.Expr} {p pos : Pos} {g : List D → Option Val} {f : En → R (List (Nat ⊕ D))} (hc : CallR X (.builtin id) (rDn T W g)) (hg : Gl X x) (hm : X.mg x = none) (hv : bootBuiltins x = some (.builtin id))
    (hs : notStar a = true) (hss : es.all notStar = true) (ha : PA X (a :: es) (tA T W f)) (hn : x ≠ "__name__") (hd : (x == ("__debug__" : Str)) = false) :
    PE X (.Call (.Name x p) (a :: es) [] pos) (tE T W fun r => (f r).bind fun xs r1 => opn g xs r1) :=
  de_opn (pe_callB hc hg hm hv ha hn hd (star_one hs es X.env) (star_all hss X.env pos))
theorem de_biT {id : String} {x : Str} {a : PySem.Expr} {es : List PySem.Expr} {p pos : Pos} {g : List D → Option Val} {f : En → R (List (Nat ⊕ D))} (hc : CallR X (.type id) (rDn T W g)) (hg : Gl X x) (hm : X.mg x = none) (hv : bootBuiltins x = some (.type id))
    (hs : notStar a = true) (hss : es.all notStar = true) (ha : PA X (a :: es) (tA T W f)) (hn : x ≠ "__name__") (hd : (x == ("__debug__" : Str)) = false) :
    PE X (.Call (.Name x p) (a :: es) [] pos) (tE T W fun r => (f r).bind fun xs r1 => opn g xs r1) :=
  de_opn (pe_callTy hc hg hm hv ha hn hd (star_one hs es X.env) (star_all hss X.env pos))
theorem de_isi (hK : X.K = T.K) {t : Ty} (ht : ∀ c, t ≠ .cls c) {a b : PySem.Expr} {p pos : Pos} (hg : Gl X "isinstance") (hm : X.mg "isinstance" = none) (hs : notStar a = true) (hs' : notStar b = true) (ha : PE X a (tB T W fa)) (hb : PE X b (tC (.ty (tyName t)))) :
    PE X (.Call (.Name "isinstance" p) [a, b] [] pos) (tE T W fun r => (fa r).bind fun x r1 => op1 (fun u => boolV (isiD u t)) x r1) := by
  refine de_op1 (peImp (pe_callB (isi_D (T := T) (W := W) hK t ht) hg hm PyProof.Rows.boot_isinstance (pa_cons ha (pa_cons hb pa_nil (star_one hs' _ _)) (star_one hs _ _)) (by decide) (by decide) (star_one hs _ _) (star_all (by simp [hs']) _ _)) fun σ H Q h => ?_)
  obtain ⟨P, r, rs, go⟩ := h
  refine ⟨P, r, rs, go.mono fun u H1 q => ?_⟩
  exact ⟨u, rfl, q⟩
/-! ### slices -/
def relP (T : Tb) (σ : St) : Rel (Nat ⊕ D) (Option Int) := fun _ _ _ x o => ∃ d, x = .inr d ∧ part? d = some o
theorem anti_P (T : Tb) (σ : St) : Anti (relP T σ) := fun _ _ _ _ _ _ _ q => q
def tP (T : Tb) (W : WX) (f : En → R (Nat ⊕ D)) : TO := fun σ H Q => ∃ P r, RS T P H σ r ∧ Go T W (relP T σ) σ P H r (f r) Q
theorem dp_none : PO X none (tP T W fun r => .ok (.inr .non) r) := ⟨fun pins s σ H Q I ⟨P, r, rs, go⟩ => po_none.run pins s σ H Q I (go none P H (.refl rs) ⟨.non, rfl, rfl⟩)⟩
theorem dp_some (h : PE X e (tB T W fa)) : PO X (some e) (tP T W fun r => (fa r).bind fun x r1 => R.of (match res r1 [x] with | some [.int i] => some (.inr (.int i)) | _ => none) r1) :=
  ⟨fun pins s σ H Q I ⟨P, r, rs, go⟩ => (po_some h).run pins s σ H Q I ⟨P, r, rs, (Go.bind (anti_P T σ) go).mono fun u H1 ⟨P1, r1, x, a1, q1, e1, go1⟩ => by
    cases c : res r1 [x] with
    | none => rw [c] at go1; exact go1.elim
    | some l =>
      obtain ⟨a, rfl, ra⟩ := res1 a1.rs q1 c
      rw [c] at go1
      cases a with
      | int i => exact ⟨i, ra.int, go1 (some i) P1 H1 (.refl a1.rs) ⟨.int i, rfl, rfl⟩⟩
      | _ => exact go1.elim⟩⟩
theorem de_slc (hK : X.K = T.K) {lo hi : Option PySem.Expr} {p2 pos : Pos} (he : PE X e (tB T W fa)) (hl : PO X lo (tP T W fb)) (hh : PO X hi (tP T W fc)) :
    PE X (.Subscript e (.Slice lo hi none p2) pos) (tE T W fun r => (fa r).bind fun x r1 => (fb r1).bind fun y r2 => (fc r2).bind fun z r3 => op3 slcD x y z r3) := by
  refine peImp (pe_slice (sl_D (W := W) hK) he hl hh) fun σ H Q ⟨P, r, rs, go⟩ => ⟨P, r, rs, (Go.bind (anti_V T) go).mono fun u H1 ⟨P1, r1, x, a1, q1, e1, go1⟩ => ⟨P1, r1, a1.rs, (Go.bind (anti_V T) go1).mono fun o H2 ⟨P2, r2, y, a2, q2, e2, go2⟩ => ⟨P2, r2, a2.rs, (Go.bind (anti_V T) go2).mono fun o' H3 ⟨P3, r3, z, a3, q3, e3, go3⟩ => ?_⟩⟩⟩
  obtain ⟨d, rfl, pd⟩ := q2
  obtain ⟨d', rfl, pd'⟩ := q3
  unfold op3 at go3
  cases c : res r3 [x] with
  | none =>
    have : res r3 [x, .inr d, .inr d'] = none := by
      cases x with
      | inl i => simp only [res] at c ⊢; cases z : r3.rd i <;> simp_all
      | inr w => simp [res] at c
    rw [this] at go3; exact go3.elim
  | some l =>
    obtain ⟨a, rfl, ra⟩ := res1 a3.rs ((q1.ext a2.st.pp).ext a3.st.pp) c
    have : res r3 [x, .inr d, .inr d'] = some [a, d, d'] := by
      cases x with
      | inl i => simp only [res] at c ⊢; cases z : r3.rd i <;> simp_all
      | inr w => simp [res] at c ⊢; exact c
    rw [this] at go3
    dsimp only at go3
    cases c2 : slcD a d d' with
    | none => rw [c2] at go3; exact go3.elim
    | some w => rw [c2] at go3; exact ⟨a, d, d', w, σ, P3, r3, a3.rs, ra, pd, pd', c2, go3⟩
/-! ### tests -/
theorem dt_val (hK : X.K = T.K) (ha : PE X e (tB T W fa)) (he : ∀ whole, isTrue e X.env whole = (do let v ← whole; standAt e.pos; holding [v] (truthy v))) :
    PT X e (tK T W fun r => (fa r).bind fun x r1 => R.of (match res r1 [x] with | some [a] => tru a | _ => none) r1) := by
  refine ptImp (pt_truth ha he) fun σ H Q ⟨P, r, rs, go⟩ => ⟨P, r, rs, (Go.bind anti_K go).mono fun u H1 ⟨P1, r1, x, a1, q1, e1, go1⟩ => ?_⟩
  cases c : res r1 [x] with
  | none => rw [c] at go1; exact go1.elim
  | some l =>
    obtain ⟨a, rfl, ra⟩ := res1 a1.rs q1 c
    rw [c] at go1
    dsimp only at go1
    cases c2 : tru a with
    | none => rw [c2] at go1; exact go1.elim
    | some k => rw [c2] at go1; exact ⟨k, truV_of hK a1.rs ra c2, go1 k P1 H1 (.refl a1.rs) rfl⟩
/-- a comparison as a test -/
theorem dt_cmp (hK : X.K = T.K) (hu : X.A.units + 64 < cLine) {op : CmpOp} {a b : PySem.Expr} {pos : Pos} (ha : PE X a (tB T W fa)) (hb : PE X b (tB T W fb)) (hm : behindInMarks op b = false) :
    PT X (.Compare a [op] [b] pos) (tK T W fun r => ((fa r).bind fun x r1 => (fb r1).bind fun y r2 => op2 (fun u v => boolV (cmpD op u v)) x y r2).bind fun v r1 => R.of (tru v.d) r1) := by
  refine ptImp (pt_cmpR (op_cmpD (W := W) hK hu op) ha hb hm) fun σ H Q ⟨P, r, rs, go⟩ => ⟨P, r, rs, ?_⟩
  dsimp only at go
  rw [bind_assoc] at go
  refine (Go.bind anti_K go).mono fun u H1 ⟨P1, r1, x, a1, q1, e1, go1⟩ => ⟨P1, r1, a1.rs, ?_⟩
  rw [bind_assoc] at go1
  refine (Go.bind anti_K go1).mono fun v H2 ⟨P2, r2, y, a2, q2, e2, go2⟩ => ?_
  unfold op2 at go2
  cases c : res r2 [x, y] with
  | none => rw [c] at go2; exact go2.elim
  | some l =>
    obtain ⟨a, b, rfl, h1, h2⟩ := res2 a2.rs (rb2 q1 a2.st.pp q2) c
    rw [c] at go2
    dsimp only at go2
    cases c2 : cmpD op a b with
    | none => rw [c2] at go2; exact go2.elim
    | some k =>
      rw [c2] at go2
      refine ⟨a, b, .sh (.bl k), σ, P2, r2, a2.rs, h1, h2, by simp only [c2]; rfl, fun u' P' H' a' rv => ?_⟩
      have hu' : u' = .bl k := by
        have rv' : Rep T P' (.bl k) u' := rv
        simpa only [Rep] using rv'
      refine ⟨k, hu', go2 k P' H' a' rfl⟩
theorem dt_not {a : PySem.Expr} {pos : Pos} {f : En → R Bool} (h : PT X a (tK T W f)) : PT X (.UnaryOp .Not a pos) (tK T W fun r => (f r).bind fun b r1 => .ok (!b) r1) :=
  ptImp (pt_not h) fun σ H Q ⟨P, r, rs, go⟩ => ⟨P, r, rs, (Go.bind anti_K go).mono fun u H1 ⟨P1, r1, b, a1, q1, e1, go1⟩ => by
    have q1' : u = b := q1
    subst q1'
    exact go1 _ P1 H1 (.refl a1.rs) rfl⟩
theorem pwImp {t t' : TT} (h : PW X e t) (k : ∀ σ H Q, t' σ H Q → t σ H Q) : PW X e t' := ⟨fun wh pins s σ H Q I q => h.run wh pins s σ H Q I (k _ _ _ q)⟩
theorem dw_and {a b : PySem.Expr} {rest : List PySem.Expr} {pos : Pos} {f g : En → R Bool} (ha : PT X a (tK T W f)) (hb : PW X (.BoolOp .And (b :: rest) pos) (tK T W g)) :
    PW X (.BoolOp .And (a :: b :: rest) pos) (tK T W fun r => (f r).bind fun k r1 => if k = true then g r1 else .ok false r1) :=
  pwImp (pw_and ha hb) fun σ H Q ⟨P, r, rs, go⟩ => ⟨P, r, rs, (Go.bind anti_K go).mono fun u H1 ⟨P1, r1, b, a1, q1, e1, go1⟩ => by
    have q1' : u = b := q1
    subst q1'
    cases u with
    | true => exact ⟨P1, r1, a1.rs, go1⟩
    | false => exact go1 _ P1 H1 (.refl a1.rs) rfl⟩
theorem dw_or {a b : PySem.Expr} {rest : List PySem.Expr} {pos : Pos} {f g : En → R Bool} (ha : PT X a (tK T W f)) (hb : PW X (.BoolOp .Or (b :: rest) pos) (tK T W g)) :
    PW X (.BoolOp .Or (a :: b :: rest) pos) (tK T W fun r => (f r).bind fun k r1 => if k = true then .ok true r1 else g r1) :=
  pwImp (pw_or ha hb) fun σ H Q ⟨P, r, rs, go⟩ => ⟨P, r, rs, (Go.bind anti_K go).mono fun u H1 ⟨P1, r1, b, a1, q1, e1, go1⟩ => by
    have q1' : u = b := q1
    subst q1'
    cases u with
    | true => exact go1 _ P1 H1 (.refl a1.rs) rfl
    | false => exact ⟨P1, r1, a1.rs, go1⟩⟩
end
end Z
/-! ZR: zip of two lists, strict. -/
namespace Z
open PySem PySem.Spec
open PyProof.Rows hiding St
open Sem (wp)
/-- the keyword strict=True -/
def skw : List (Str × Value) := [("strict", .bool true)]
theorem zs_ct (u v : Value) : checkTypeCall "zip" ⟨[u, v], skw⟩ = pure () := by kernel_rfl
theorem zs_cn (u v : Value) : checkBuiltinCall "zip.__new__" ⟨[.type "zip", u, v], skw⟩ = pure () := by kernel_rfl
theorem zs_ai (u v w : Value) : PySem.argsOk "object.__init__" ⟨[u, v, w], skw⟩ := by
  unfold PySem.argsOk
  rw [signature?_of (id := "object.__init__") (n := ['_', '_', 't', 'i', 'n', 'i', '_', '_']) (o := ['t', 'c', 'e', 'j', 'b', 'o']) (by kernel_rfl) PySem.F.owner_object]
  kernel_rfl
/-- the five things that zip lays -/
abbrev zsA (h : Heap) (m n : Addr) : Heap := zipH4 h m n
abbrev zsB (h : Heap) (m n : Addr) : Heap := (zsA h m n).push { cls := .type "zip", data := .fields #[.none, .bool false, .bool true, .ref (zipH2 h m n).objs.size, .ref (zipH3 h m n).objs.size] }
theorem zs_new (m n : Addr) (us vs : Array Value) :
    Meets (Builtin.«zip.__new__» ⟨[.type "zip", .ref m, .ref n], skw⟩) (fun _ R s => s.heap.IsList m us ∧ s.heap.IsList n vs ∧ R (.ok (.ret (.ref (zsA s.heap m n).objs.size))) { s with heap := zsB s.heap m n }) :=
  .of_wp fun prog w A R s q => by
    have hsub := sub_zip
    obtain ⟨h0, g0, d0, t0, o0⟩ := s
    obtain ⟨a1, a2, q⟩ := q
    have b1 : Heap.IsList (Shared.heap ⟨h0, g0, d0, t0, o0⟩) m us := a1
    have b2 : Heap.IsList (Shared.heap ⟨h0.push { cls := .type "list_iterator", data := .fields #[.ref m, .int 0 0] }, g0, d0, t0, o0⟩) n vs := Heap.IsList.push a2 _
    unfold skw
    wp_walk using wpAny_pyIter_list b1, wpAny_pyIter_list b2
    exact ⟨_, rfl, q⟩
theorem zs_init {x : Value} {us : List Value} : Meets (Builtin.«object.__init__» ⟨x :: us, skw⟩) (fun _ R s => s.TypeIs x "zip" ∧ R (.ok (.ret .none)) s) := by
  have hl := PySem.F.called_zip.init.lookup
  have hm := PySem.F.called_zip.made
  have hne : (some "zip.__new__" != some "object.__new__") = true := by decide
  refine Meets.of_wp fun prog w A R s hs => ?_
  obtain ⟨hT, hq⟩ := hs
  unfold skw
  cases us with
  | nil =>
    repeat (any_goals (first | assumption | wp_step))
    exact ⟨_, rfl, hq⟩
  | cons a rest =>
    repeat (any_goals (first | assumption | wp_step))
    exact ⟨_, rfl, hq⟩

section
variable {prog : Program} {w : World} {A : Around} {E : Value → Shared → Prop} {s : Shared}
theorem zs_call {us : List Value} {S : PySem.Spec} {Q : Value → Shared → Prop} (hct : checkTypeCall "zip" ⟨us, skw⟩ = pure ()) (hcn : checkBuiltinCall "zip.__new__" ⟨.type "zip" :: us, skw⟩ = pure ()) (hai : ∀ x, PySem.argsOk "object.__init__" ⟨x :: us, skw⟩)
    (g : Meets (Builtin.«zip.__new__» ⟨.type "zip" :: us, skw⟩) S) (q : S A.in1 (wants (fun x s1 => s1.TypeIs x "zip" ∧ Q x s1) E) s) : wpAny (model prog w) A (call (.type "zip") us skw) Q E s := by
  have ft := PySem.F.called_zip
  obtain ⟨c, tl, hmro⟩ := ft.mro
  have hmade := ft.made
  have hsub := ft.sub
  refine wpAny_call (codeAny_of_tree ?_)
  show wpAny _ _ (callAny (.type "zip") _) _ _ _
  refine wpAny_pure ⟨Code.quiet_builtin _ (by decide +kernel), codeAny_builtin PySem.F.entry_type_call ?_⟩
  rw [Around.under_plain (weight_type_call_type "zip" us skw) (units_type_call_type "zip" us skw)]
  have h1 := ft.notType
  have h2 := ft.canCreate
  unfold skw at hct hcn hai g ⊢
  repeat (any_goals (first | assumption | wp_step))
  refine codeAny_mono (codeAny_call_builtin ft.plain PySem.F.entry_zip_new (wpAny_of_eq hcn (g prog w A.in1 _ s q))) fun r s1 hr => ?_
  cases r with
  | error e => exact hr
  | ok fl =>
    cases fl with
    | ret x =>
      obtain ⟨hT, hq⟩ := hr
      have hli := ft.init.lookup
      have hbi := ft.init.bind x
      repeat (any_goals (first | assumption | wp_step))
      refine codeAny_mono (codeAny_call_builtin ft.init.plain PySem.F.entry_object_init (ft.init.check _ _ _ _ _ _ _ _ hT (hai x) (zs_init (x := x) (us := us) prog w A.in1 (wants (fun r s2 => r = .none ∧ Q x s2) E) s1 ⟨hT, rfl, hq⟩))) fun r2 s2 hr2 => ?_
      cases r2 with
      | error e => exact hr2
      | ok fl2 =>
        cases fl2 with
        | ret r =>
          obtain ⟨rfl, hq⟩ := hr2
          repeat (any_goals (first | assumption | wp_step))
        | _ => exact hr2.elim
    | _ => exact hr.elim
end
end Z
/-! ZS: zip of two lists, strict: its turns. -/
namespace Z
open PySem PySem.Spec
open PyProof.Rows hiding St
open Sem (wp)
abbrev ZipS (h : Heap) (c TI TO : Addr) (x : Value) : Prop :=
  h.get? c = some { cls := .type "zip", dict := none, data := .fields #[x, .bool false, .bool true, .ref TI, .ref TO], slots := #[] }
section
variable {prog : Program} {w : World} {A : Around} {E : Value → Shared → Prop} {s : Shared}
theorem zs_make {m n : Addr} {us vs : Array Value} {Q : Value → Shared → Prop} (a1 : s.heap.IsList m us) (a2 : s.heap.IsList n vs)
    (q : ∀ h1, ZipS h1 (s.heap.objs.size + 4) (s.heap.objs.size + 2) (s.heap.objs.size + 3) .none → IsPair h1 (s.heap.objs.size + 2) (.ref s.heap.objs.size) (.ref (s.heap.objs.size + 1)) → IsPair h1 (s.heap.objs.size + 3) .none .none →
      h1.IsListIter s.heap.objs.size m 0 → h1.IsListIter (s.heap.objs.size + 1) n 0 → (∀ b o, s.heap.get? b = some o → h1.get? b = some o) → Q (.ref (s.heap.objs.size + 4)) { s with heap := h1 }) :
    wpAny (model prog w) A (call (.type "zip") [.ref m, .ref n] skw) Q E s := by
  refine zs_call (zs_ct _ _) (zs_cn _ _) (fun x => zs_ai x _ _) (zs_new m n us vs) ⟨a1, a2, ?_⟩
  have e1 : (zipH1 s.heap m).objs.size = s.heap.objs.size + 1 := Heap.size_push ..
  have e2 : (zipH2 s.heap m n).objs.size = s.heap.objs.size + 2 := by rw [Heap.size_push, e1]
  have e3 : (zipH3 s.heap m n).objs.size = s.heap.objs.size + 3 := by rw [Heap.size_push, e2]
  have e4 : (zsA s.heap m n).objs.size = s.heap.objs.size + 4 := by rw [Heap.size_push, e3]
  have k1 : ∀ b o, (zsA s.heap m n).get? b = some o → (zsB s.heap m n).get? b = some o := fun b o e => Heap.get?_push_of_some _ e
  have k2 : ∀ b o, (zipH3 s.heap m n).get? b = some o → (zsB s.heap m n).get? b = some o := fun b o e => k1 b o (Heap.get?_push_of_some _ e)
  have k3 : ∀ b o, (zipH2 s.heap m n).get? b = some o → (zsB s.heap m n).get? b = some o := fun b o e => k2 b o (Heap.get?_push_of_some _ e)
  have k4 : ∀ b o, (zipH1 s.heap m).get? b = some o → (zsB s.heap m n).get? b = some o := fun b o e => k3 b o (Heap.get?_push_of_some _ e)
  have f5 : (zsB s.heap m n).get? (zsA s.heap m n).objs.size = some _ := Heap.get?_push_size _ rfl
  have f4 : (zsB s.heap m n).get? (zipH3 s.heap m n).objs.size = some _ := k1 _ _ (Heap.get?_push_size _ rfl)
  have f3 : (zsB s.heap m n).get? (zipH2 s.heap m n).objs.size = some _ := k2 _ _ (Heap.get?_push_size _ rfl)
  have f2 : (zsB s.heap m n).get? (zipH1 s.heap m).objs.size = some _ := k3 _ _ (Heap.get?_push_size _ rfl)
  have f1 : (zsB s.heap m n).get? s.heap.objs.size = some _ := k4 _ _ (Heap.get?_push_size _ rfl)
  show _ ∧ _
  rw [e4, e2, e3] at f5
  rw [e2, e1] at f3
  rw [e3] at f4
  rw [e1] at f2
  rw [e4]
  exact ⟨⟨_, f5, rfl⟩, q _ f5 f3 f4 ⟨_, f1, rfl, rfl⟩ ⟨_, f2, rfl, rfl⟩ fun b o e => k4 b o (Heap.get?_push_of_some _ e)⟩
/-- a draw, an item is there -/
theorem noe_item {it l : Addr} {i : Nat} {us : Array Value} {x : Value} {Q : Option Value → Shared → Prop} (h1 : s.heap.IsListIter it l i) (h2 : s.heap.IsList l us) (hx : us[i]? = some x)
    (q : ∀ hp, hp.IsListIter it l (i + 1) → Heap.SameBut it s.heap hp → Q (some x) { s with heap := hp }) : wpAny (model prog w) A (Builtin.SmallTypes.nextOrEnd (.ref it)) Q E s := by
  unfold Builtin.SmallTypes.nextOrEnd
  exact wpAny_bind (wpAny_attempt (wpAny_nextOf_list_item h1 h2 hx fun hp a b => wpAny_pure (q hp a b)))
/-- a draw, the list is at its end -/
theorem noe_end {it l : Addr} {i : Nat} {us : Array Value} {Q : Option Value → Shared → Prop} (hh : A.handled = none) (h1 : s.heap.IsListIter it l i) (h2 : s.heap.IsList l us) (hx : us[i]? = none)
    (q : ∀ hp, Heap.ExtBut it s.heap hp → Q none { s with heap := hp }) : wpAny (model prog w) A (Builtin.SmallTypes.nextOrEnd (.ref it)) Q E s := by
  unfold Builtin.SmallTypes.nextOrEnd
  refine wpAny_bind (wpAny_attempt (wpAny_nextOf_list_end hh h1 h2 hx fun hp e a b => ?_))
  obtain ⟨o, ho, hc⟩ := b
  refine wpAny_bind (wpAny_isInstance (T := "StopIteration") (b := true) ⟨o, ho, hc⟩ isSubtype_stop ?_)
  exact wpAny_pure (q hp a)
theorem zs_item {c TI TO i1 i2 m n : Addr} {k1 k2 : Nat} {us vs : Array Value} {x y a b : Value} {Q : Value → Shared → Prop} (D : ZipApart c TI TO i1 i2 m n) (hz : ZipS s.heap c TI TO .none) (hI : IsPair s.heap TI (.ref i1) (.ref i2)) (hO : IsPair s.heap TO a b)
    (j1 : s.heap.IsListIter i1 m k1) (j2 : s.heap.IsListIter i2 n k2) (l1 : s.heap.IsList m us) (l2 : s.heap.IsList n vs) (hx : us[k1]? = some x) (hy : vs[k2]? = some y)
    (q : ∀ hp, ZipS hp c TI TO (rawInt s.heap.objs.size) → IsPair hp TO x y → hp.IsListIter i1 m (k1 + 1) → hp.IsListIter i2 n (k2 + 1) → IsPair hp s.heap.objs.size x y →
      (∀ b o, b ≠ c → b ≠ TO → b ≠ i1 → b ≠ i2 → s.heap.get? b = some o → hp.get? b = some o) → Q (.ref s.heap.objs.size) { s with heap := hp }) :
    wpAny (model prog w) A (Builtin.«zip.__next__» ⟨[.ref c], []⟩) (fun fin s1 => ∃ v, fin = .done (.ret v) ∧ Q v s1) E s := by
  show wpAny _ _ (field (.ref c) 2 >>= _) _ _ _
  refine wpAny_bind (wpAny_field hz rfl (x := .bool true) rfl ?_)
  show wpAny _ _ (field (.ref c) 3 >>= _) _ _ _
  refine wpAny_bind (wpAny_field hz rfl (x := .ref TI) rfl ?_)
  refine wpAny_bind (wpAny_seqItems hI rfl ?_)
  show wpAny _ _ (Builtin.SmallTypes.ownedTupleIsFree (.ref c) >>= _) _ _ _
  refine wpAny_bind ?_
  unfold Builtin.SmallTypes.ownedTupleIsFree
  refine wpAny_bind (wpAny_field hz rfl (x := .none) rfl (wpAny_pure ?_))
  simp only [if_true]
  refine wpAny_bind (wpAny_rule ?_)
  refine wpAny_bind (wpAny_field hz rfl (x := .ref TO) rfl ?_)
  refine wpAny_bind (wpAny_setField_rec hz (by simp) fun g1 z1 s1 => ?_)
  have z1 : ZipS g1 c TI TO .ellipsis := z1
  refine wpAny_bind ?_
  simp only [List.zipIdx_cons, List.zipIdx_nil, List.forIn_cons, List.forIn_nil]
  refine wpAny_bind (wpAny_bind (wpAny_onRaise ?_))
  show wpAny _ _ (Builtin.SmallTypes.nextOrEnd (.ref i1)) _ _ _
  refine noe_item (j1.extBut s1.extBut D.i1z) (l1.extBut s1.extBut D.l1z) hx fun g2 p1 s2 => ?_
  have o2 : IsPair g2 TO a b := s2.extBut _ _ D.TOi1 (s1.extBut _ _ D.TOz hO)
  refine wpAny_bind (wpAny_seqItems o2 rfl ?_)
  refine wpAny_bind (wpAny_updateSeq_pair o2 fun g3 o3 s3 => ?_)
  have o3 : IsPair g3 TO x b := o3
  refine wpAny_bind (wpAny_letGo (wpAny_pure ?_))
  refine wpAny_bind (wpAny_bind (wpAny_onRaise ?_))
  show wpAny _ _ (Builtin.SmallTypes.nextOrEnd (.ref i2)) _ _ _
  refine noe_item (((j2.extBut s1.extBut D.i2z).extBut s2.extBut D.i12.symm).extBut s3.extBut D.TOi2.symm) (((l2.extBut s1.extBut D.l2z).extBut s2.extBut D.l2i1).extBut s3.extBut D.l2TO) hy fun g4 p2 s4 => ?_
  have o4 : IsPair g4 TO x b := s4.extBut _ _ D.TOi2 o3
  refine wpAny_bind (wpAny_seqItems o4 rfl ?_)
  refine wpAny_bind (wpAny_updateSeq_pair o4 fun g5 o5 s5 => ?_)
  have o5 : IsPair g5 TO x y := o5
  refine wpAny_bind (wpAny_letGo (wpAny_pure (wpAny_pure ?_)))
  refine wpAny_bind (wpAny_seqItems o5 rfl ?_)
  refine wpAny_bind (wpAny_newTuple ?_)
  have sz : g5.objs.size = s.heap.objs.size := by rw [s5.1, s4.1, s3.1, s2.1, s1.1]
  have z5 : ZipS g5 c TI TO .ellipsis := s5.extBut _ _ D.TOz.symm (s4.extBut _ _ D.i2z.symm (s3.extBut _ _ D.TOz.symm (s2.extBut _ _ D.i1z.symm z1)))
  have old : ∀ b o, b ≠ c → b ≠ TO → b ≠ i1 → b ≠ i2 → s.heap.get? b = some o → g5.get? b = some o := fun b o n1 n2 n3 n4 e => s5.extBut _ _ n2 (s4.extBut _ _ n4 (s3.extBut _ _ n2 (s2.extBut _ _ n3 (s1.extBut _ _ n1 e))))
  have q1 : g5.IsListIter i1 m (k1 + 1) := ((p1.extBut s3.extBut D.TOi1.symm).extBut s4.extBut D.i12).extBut s5.extBut D.TOi1.symm
  have q2 : g5.IsListIter i2 n (k2 + 1) := p2.extBut s5.extBut D.TOi2.symm
  have b1 : c < g5.objs.size := Heap.lt_size z5
  show wpAny _ _ (Builtin.SmallTypes.ownedTupleHandOut (.ref c) (.ref g5.objs.size) >>= _) _ _ _
  refine wpAny_bind ?_
  unfold Builtin.SmallTypes.ownedTupleHandOut
  have z6 : ZipS (g5.push { cls := .type "tuple", data := .seq #[x, y] }) c TI TO .ellipsis := Heap.get?_push_of_some _ z5
  refine wpAny_bind (wpAny_setField_rec z6 (by simp) fun g7 z7 s7 => ?_)
  have z7 : ZipS g7 c TI TO (rawInt g5.objs.size) := z7
  refine wpAny_setField_rec z7 (by simp) fun g8 z8 s8 => ?_
  have z8 : ZipS g8 c TI TO (rawInt g5.objs.size) := z8
  have up : ∀ b o, b ≠ c → g5.get? b = some o → g8.get? b = some o := fun b o n1 e => s8.extBut _ _ n1 (s7.extBut _ _ n1 (Heap.get?_push_of_some _ e))
  have t8 : IsPair g8 g5.objs.size x y := s8.extBut _ _ (Nat.ne_of_gt b1) (s7.extBut _ _ (Nat.ne_of_gt b1) (Heap.get?_push_size _ rfl))
  rw [sz] at z8 t8
  refine wpAny_pure ⟨_, rfl, ?_⟩
  show Q (.ref g5.objs.size) _
  rw [sz]
  exact q g8 z8 (up _ _ D.TOz o5) (q1.at fun o e => up _ o D.i1z e) (q2.at fun o e => up _ o D.i2z e) t8 fun b o n1 n2 n3 n4 e => up b o n1 (old b o n1 n2 n3 n4 e)
theorem zs_end {c TI TO i1 i2 m n : Addr} {k1 k2 : Nat} {us vs : Array Value} {a b : Value} {Q : Fin → Shared → Prop} (hh : A.handled = none) (D : ZipApart c TI TO i1 i2 m n) (hz : ZipS s.heap c TI TO .none) (hI : IsPair s.heap TI (.ref i1) (.ref i2)) (hO : IsPair s.heap TO a b)
    (j1 : s.heap.IsListIter i1 m k1) (j2 : s.heap.IsListIter i2 n k2) (l1 : s.heap.IsList m us) (l2 : s.heap.IsList n vs) (hx : us[k1]? = none) (hy : vs[k2]? = none)
    (q : ∀ hp e, (∀ b o, b ≠ c → b ≠ TO → b ≠ i1 → b ≠ i2 → s.heap.get? b = some o → hp.get? b = some o) → (∃ o, hp.get? e = some o ∧ o.cls = .type "StopIteration") → E (.ref e) { s with heap := hp }) :
    wpAny (model prog w) A (Builtin.«zip.__next__» ⟨[.ref c], []⟩) Q E s := by
  show wpAny _ _ (field (.ref c) 2 >>= _) _ _ _
  refine wpAny_bind (wpAny_field hz rfl (x := .bool true) rfl ?_)
  show wpAny _ _ (field (.ref c) 3 >>= _) _ _ _
  refine wpAny_bind (wpAny_field hz rfl (x := .ref TI) rfl ?_)
  refine wpAny_bind (wpAny_seqItems hI rfl ?_)
  show wpAny _ _ (Builtin.SmallTypes.ownedTupleIsFree (.ref c) >>= _) _ _ _
  refine wpAny_bind ?_
  unfold Builtin.SmallTypes.ownedTupleIsFree
  refine wpAny_bind (wpAny_field hz rfl (x := .none) rfl (wpAny_pure ?_))
  simp only [if_true]
  refine wpAny_bind (wpAny_rule ?_)
  refine wpAny_bind (wpAny_field hz rfl (x := .ref TO) rfl ?_)
  refine wpAny_bind (wpAny_setField_rec hz (by simp) fun g1 z1 s1 => ?_)
  have z1 : ZipS g1 c TI TO .ellipsis := z1
  refine wpAny_bind ?_
  simp only [List.zipIdx_cons, List.zipIdx_nil, List.forIn_cons, List.forIn_nil]
  refine wpAny_bind (wpAny_bind (wpAny_onRaise ?_))
  show wpAny _ _ (Builtin.SmallTypes.nextOrEnd (.ref i1)) _ _ _
  refine noe_end hh (j1.extBut s1.extBut D.i1z) (l1.extBut s1.extBut D.l1z) hx fun g2 s2 => ?_
  have z2 : ZipS g2 c TI TO .ellipsis := s2 _ _ D.i1z.symm z1
  refine wpAny_bind (wpAny_setField_rec z2 (by simp) fun g3 z3 s3 => ?_)
  have k3 : ∀ b o, b ≠ c → b ≠ i1 → s.heap.get? b = some o → g3.get? b = some o := fun b o n1 n3 e => s3.extBut _ _ n1 (s2 _ _ n3 (s1.extBut _ _ n1 e))
  refine wpAny_bind ?_
  show wpAny _ _ (_ >>= _) _ _ _
  refine wpAny_bind ?_
  simp only [List.drop_succ_cons, List.drop_zero, List.zipIdx_cons, List.zipIdx_nil, List.forIn_cons, List.forIn_nil]
  refine wpAny_bind (wpAny_bind (noe_end hh ((j2.extBut s1.extBut D.i2z).at fun o e => ?_) ((l2.extBut s1.extBut D.l2z).at fun o e => ?_) hy fun g4 s4 => ?_))
  · exact s3.extBut _ _ D.i2z (s2 _ _ D.i12.symm e)
  · exact s3.extBut _ _ D.l2z (s2 _ _ D.l2i1 e)
  rw [if_neg (show ¬ (none : Option Value).isSome = true from Bool.false_ne_true)]
  refine wpAny_pure (wpAny_pure ?_)
  refine wpAny_bind (wpAny_rule ?_)
  show wpAny _ _ (newExc (.type "StopIteration") [] >>= _) _ _ _
  refine wpAny_bind ?_
  simp only [newExc, newTuple]
  refine wpAny_bind (wpAny_newObj_type ?_ (by size_fits))
  refine wpAny_bind (m := firstArgMember _ _) (wpAny_of_eq (a := Value.none) (by first | rfl | (simp only [firstArgMember]; rfl)) ?_)
  refine wpAny_newObj_type ?_ (by size_fits)
  simp only [raiseNew]
  refine wpAny_bind (wpAny_handled ?_)
  rw [hh]
  refine wpAny_bind (wpAny_pure (wpAny_throw ?_))
  refine q _ _ (fun b o n1 _ n3 n4 e => ?_) ⟨_, Heap.get?_push_size _ rfl, rfl⟩
  exact Heap.get?_push_of_some _ (Heap.get?_push_of_some _ (s4 _ _ n4 (k3 b o n1 n3 e)))
end
end Z
/-! ZT: zip, walked. -/
namespace Z
open PySem PySem.Spec L2
open PyProof.Rows hiding St
/-- both lists as they stand at each turn; at the end both are at their end -/
def Itzs (K : PySem.W.Frag) (a b : Addr) : It :=
  ⟨(Itz K a b).go, (Itz K a b).yld, fun i H => ∃ xs ys : List V, SqL K H a xs ∧ SqL K H b ys ∧ xs.length ≤ i ∧ ys.length ≤ i⟩
section
variable {prog : Program} {w : World} {A : Around} {E : Value → Shared → Prop} {s : Shared}
theorem zs_iter {c TI TO : Addr} {x : Value} {Q : Value → Shared → Prop} (hz : ZipS s.heap c TI TO x) (q : Q (.ref c) s) : wpAny (model prog w) A (pyIter (.ref c)) Q E s := by
  have hT : s.TypeIs (.ref c) "zip" := ⟨_, hz, rfl⟩
  refine wpAny_pyIter_slot hT PySem.F.slot_zip_iter (wpAny_call_entry PySem.F.slot_zip_iter hT PySem.F.entry_zip_iter ?_ (PySem.F.args_zip_iter_1 _))
  exact wpAny_pure ⟨_, rfl, "zip", _, hT, PySem.F.slot_zip_next.lookup, q⟩
theorem zs_letgo {elts : List PySem.Expr} {k} {pos : Pos} {c TI TO t : Addr} {Q : Unit → Shared → Prop} (hz : ZipS s.heap c TI TO (rawInt t)) (q : ∀ h1, ZipS h1 c TI TO .none → Heap.SameBut c s.heap h1 → Q () { s with heap := h1 }) :
    wpAny (model prog w) A (letOwnedTupleGo (.Tuple elts k pos) (.ref c) (.ref t)) Q E s := by
  unfold letOwnedTupleGo
  refine wpAny_bind (wpAny_load hz ?_)
  show wpAny _ _ (if (["enumerate", "zip", "dict_itemiterator", "dict_reverseitemiterator", "odict_iterator", "itertools.zip_longest", "itertools.pairwise"].contains "zip" && (#[rawInt t, .bool false, .bool true, .ref TI, .ref TO] : Array Value)[0]? == some (rawInt t)) = true then _ else _) Q E s
  rw [if_pos (by simp)]
  refine wpAny_bind (wpAny_rule ?_)
  exact wpAny_setField_rec hz (by simp) fun h1 z1 s1 => q h1 z1 s1
theorem zs_nx_item {c TI TO i1 i2 m n : Addr} {k1 k2 : Nat} {us vs : Array Value} {x y a b : Value} {Q : Option Value → Shared → Prop} (D : ZipApart c TI TO i1 i2 m n) (hz : ZipS s.heap c TI TO .none) (hI : IsPair s.heap TI (.ref i1) (.ref i2)) (hO : IsPair s.heap TO a b)
    (j1 : s.heap.IsListIter i1 m k1) (j2 : s.heap.IsListIter i2 n k2) (l1 : s.heap.IsList m us) (l2 : s.heap.IsList n vs) (hx : us[k1]? = some x) (hy : vs[k2]? = some y)
    (q : ∀ hp, ZipS hp c TI TO (rawInt s.heap.objs.size) → IsPair hp TO x y → hp.IsListIter i1 m (k1 + 1) → hp.IsListIter i2 n (k2 + 1) → IsPair hp s.heap.objs.size x y →
      (∀ b o, b ≠ c → b ≠ TO → b ≠ i1 → b ≠ i2 → s.heap.get? b = some o → hp.get? b = some o) → Q (some (.ref s.heap.objs.size)) { s with heap := hp }) :
    wpAny (model prog w) A (pyNext (.ref c)) Q E s := by
  have hT : s.TypeIs (.ref c) "zip" := ⟨_, hz, rfl⟩
  unfold pyNext
  refine wpAny_bind (wpAny_attempt (wpAny_callSpecial?_slot (name := Str.ofString "__next__") hT PySem.F.slot_zip_next ?_))
  refine wpAny_call_entry PySem.F.slot_zip_next hT PySem.F.entry_zip_next ?_ (PySem.F.args_zip_next_1 _)
  exact zs_item D hz hI hO j1 j2 l1 l2 hx hy fun hp q1 q2 q3 q4 q5 q6 => wpAny_pure (q hp q1 q2 q3 q4 q5 q6)
theorem zs_nx_end {c TI TO i1 i2 m n : Addr} {k1 k2 : Nat} {us vs : Array Value} {a b : Value} {Q : Option Value → Shared → Prop} (hh : A.handled = none) (D : ZipApart c TI TO i1 i2 m n) (hz : ZipS s.heap c TI TO .none) (hI : IsPair s.heap TI (.ref i1) (.ref i2)) (hO : IsPair s.heap TO a b)
    (j1 : s.heap.IsListIter i1 m k1) (j2 : s.heap.IsListIter i2 n k2) (l1 : s.heap.IsList m us) (l2 : s.heap.IsList n vs) (hx : us[k1]? = none) (hy : vs[k2]? = none)
    (q : ∀ hp, (∀ b o, b ≠ c → b ≠ TO → b ≠ i1 → b ≠ i2 → s.heap.get? b = some o → hp.get? b = some o) → Q none { s with heap := hp }) : wpAny (model prog w) A (pyNext (.ref c)) Q E s := by
  have hT : s.TypeIs (.ref c) "zip" := ⟨_, hz, rfl⟩
  unfold pyNext
  refine wpAny_bind (wpAny_attempt (wpAny_callSpecial?_slot (name := Str.ofString "__next__") hT PySem.F.slot_zip_next ?_))
  refine wpAny_call_entry PySem.F.slot_zip_next hT PySem.F.entry_zip_next ?_ (PySem.F.args_zip_next_1 _)
  refine zs_end hh D hz hI hO j1 j2 l1 l2 hx hy fun hp e a1 a2 => ?_
  obtain ⟨o, ho, hc⟩ := a2
  refine wpAny_bind (wpAny_isInstance (T := "StopIteration") (b := true) ⟨o, ho, hc⟩ isSubtype_stop ?_)
  exact wpAny_pure (q _ a1)
end
theorem mem5 {c z TI TO i1 i2 : Addr} (h : c ∈ [z, TI, TO, i1, i2]) : c = z ∨ c = TI ∨ c = TO ∨ c = i1 ∨ c = i2 := by simpa using h
theorem out5 {c z TI TO i1 i2 : Addr} (h : c ∉ [z, TI, TO, i1, i2]) : c ≠ z ∧ c ≠ TI ∧ c ≠ TO ∧ c ≠ i1 ∧ c ≠ i2 := by simpa using h
theorem turn_zs {P : Program} {w : World} {K : PySem.W.Frag} {elts : List PySem.Expr} {kk : Nat} {tpos : Pos} {a b z TI TO i1 i2 : Addr} (D : ZipApart z TI TO i1 i2 a b) :
    Turn P w K (.Tuple elts kk tpos) (Itzs K a b) [z, TI, TO, i1, i2] z (fun i h => ZipS h z TI TO .none ∧ IsPair h TI (.ref i1) (.ref i2) ∧ (∃ x y, IsPair h TO x y) ∧ h.IsListIter i1 a i ∧ h.IsListIter i2 b i) where
  mem := List.mem_cons_self
  obj := fun i h ⟨hz, hI, ⟨x, y, hO⟩, ⟨o1, e1, _, d1⟩, ⟨o2, e2, _, d2⟩⟩ c hc => by
    rcases mem5 hc with rfl | rfl | rfl | rfl | rfl
    · exact ⟨_, hz, fun v q => nomatch q⟩
    · exact ⟨_, hI, fun v q => nomatch q⟩
    · exact ⟨_, hO, fun v q => nomatch q⟩
    · exact ⟨o1, e1, fun v q => by rw [d1] at q; cases q⟩
    · exact ⟨o2, e2, fun v q => by rw [d2] at q; cases q⟩
  keep := fun i h h' ⟨hz, hI, ⟨x, y, hO⟩, j1, j2⟩ k => ⟨k z (by simp) _ hz, k TI (by simp) _ hI, ⟨x, y, k TO (by simp) _ hO⟩, j1.at fun o q => k i1 (by simp) o q, j2.at fun o q => k i2 (by simp) o q⟩
  item := by
    intro X hP hw hK hc i pins s σ H E I hf ⟨hz, hI, ⟨x0, y0, hO⟩, j1, j2⟩ hg
    subst hP hw hK
    obtain ⟨xs, ys, x, y, qx, qy, hx, hy⟩ := hg
    obtain ⟨is1, r1, p1, _⟩ := I.list qx
    obtain ⟨is2, r2, p2, _⟩ := I.list qy
    obtain ⟨u1, g1, s1⟩ := r1.get hx
    obtain ⟨u2, g2, s2⟩ := r2.get hy
    have zl : z < s.heap.objs.size := Heap.lt_size hz
    refine zs_nx_item D hz hI hO j1 j2 p1.isList p2.isList (x := u1) (y := u2) (by simpa using g1) (by simpa using g2) fun hp z1 o1 m1 m2 t1 k1 => ?_
    refine ⟨_, rfl, zs_letgo (s := { s with heap := hp }) z1 fun h2 z2 sb => ?_⟩
    have t2 : h2.get? s.heap.objs.size = some { cls := .type "tuple", data := .seq #[u1, u2] } := (sb.2 _ (Nat.ne_of_gt zl)).trans t1
    have ok : ObjOk X.prog X.w (upd H s.heap.objs.size (.tup [x, y])) h2 s.heap.objs.size (.tup [x, y]) := ⟨by show 2 ≤ sizeLine; decide, [u1, u2], .cons s1 (.cons s2 .nil), ⟨_, t2, rfl, _, rfl⟩⟩
    have J : Inv X pins σ (upd H s.heap.objs.size (.tup [x, y])) { s with heap := h2 } := I.turnedNew (t' := s.toks) (ch := [z, TI, TO, i1, i2]) (fun c o hb q => by
      obtain ⟨n1, n2, n3, n4, n5⟩ := out5 hb
      exact (sb.2 c n1).trans (k1 c o n1 n3 n4 n5 q)) hf (Nat.le_refl _) ok
    refine ⟨.ref s.heap.objs.size, _, J, rfl, ⟨_, x, y, rfl, I.hok.fresh (Nat.le_refl _), rfl, fun l hl => by rw [I.list_inj hl qx]; exact hx, fun l hl => by rw [I.list_inj hl qy]; exact hy⟩, ⟨z2, ?_, ⟨u1, u2, ?_⟩, ?_, ?_⟩, fun c hcm => ?_⟩
    · exact (sb.2 _ D.TIz).trans (k1 _ _ D.TIz D.TITO D.TIi1 D.TIi2 hI)
    · exact (sb.2 _ D.TOz).trans o1
    · exact m1.at fun o q => (sb.2 _ D.i1z).trans q
    · exact m2.at fun o q => (sb.2 _ D.i2z).trans q
    · have lt : c < s.heap.objs.size := by
        rcases mem5 hcm with rfl | rfl | rfl | rfl | rfl
        · exact zl
        · exact Heap.lt_size hI
        · exact Heap.lt_size hO
        · obtain ⟨_, e1, _⟩ := j1; exact Heap.lt_size e1
        · obtain ⟨_, e2, _⟩ := j2; exact Heap.lt_size e2
      rw [upd_ne (Nat.ne_of_lt lt)]
      exact (hf c hcm).1
  done := by
    intro X hP hw hK hc i pins s σ H E I hf ⟨hz, hI, ⟨x0, y0, hO⟩, j1, j2⟩ hg
    subst hP hw hK
    obtain ⟨xs, ys, qx, qy, e1, e2⟩ := hg
    obtain ⟨is1, r1, p1, _⟩ := I.list qx
    obtain ⟨is2, r2, p2, _⟩ := I.list qy
    have n1 := r1.length
    have n2 := r2.length
    refine zs_nx_end (I.ok.hd hc) D hz hI hO j1 j2 p1.isList p2.isList (by simp; omega) (by simp; omega) fun hp k1 => ⟨rfl, I.turnedL (t' := s.toks) (ch := [z, TI, TO, i1, i2]) (fun c o hb q => ?_) hf⟩
    obtain ⟨n1, n2, n3, n4, n5⟩ := out5 hb
    exact k1 c o n1 n3 n4 n5 q
  self := fun A i s Q E st h => zs_iter st.1 h
/-- a type called with keywords -/
theorem callWith_tyK {M : Model} {A : Around} {E : Value → Shared → Prop} {s : Shared} {env : PySem.Env} {pos : Pos} {id : String} {e : PySem.Expr} {es : List PySem.Expr} {kws : List Keyword} {Q : Value → Shared → Prop}
    (h : wpAny M A (spliced (backTo pos (starEach (e :: es) env))) (fun us s1 => wpAny M A (evalAll ((backToKw pos (keywordEach kws env)).map (·.2))) (fun ws s2 => wpAny M A (call (.type id) us (((backToKw pos (keywordEach kws env)).filterMap (·.1)).zip ws)) Q E s2) E s1) E s)
    (he : backTo pos (starEach (e :: es) env) = (false, (do let v ← eval e env; standAt pos; pure v)) :: backTo pos (starEach es env) ∨ backTo pos (starEach (e :: es) env) = (false, eval e env) :: backTo pos (starEach es env)) (hp : (backTo pos (starEach (e :: es) env)).any (·.1) = false) (ha : (backToKw pos (keywordEach kws env)).all (·.1.isSome) = true)
    (hn : (backToKw pos (keywordEach kws env)).any (·.1.isNone) = false) :
    wpAny M A (callWith pos (.type id) [] (backTo pos (starEach (e :: es) env)) (backToKw pos (keywordEach kws env))) Q E s := by
  have go : wpAny M A (evalArgs (.type id) true (backTo pos (starEach (e :: es) env)) (backToKw pos (keywordEach kws env))) (fun a s1 => wpAny M A (call (.type id) ([] ++ a.pos) a.kw) Q E s1) E s := by
    rcases he with he | he
    · rw [he] at h ⊢; exact evalArgs_kwB ha h
    · rw [he] at h ⊢; exact evalArgs_kwB ha h
  unfold callWith
  refine wpAny_bind (wpAny_holding (wpAny_mono go (fun a s1 h1 => wpAny_bind (wpAny_standAt ?_)) fun _ _ x => x))
  simp only [hp, hn, Bool.or_false]
  refine wpAny_bind (wpAny_pure ?_)
  exact wpAny_bind (wpAny_mono h1 (fun r s2 hr => wpAny_bind (wpAny_holding (wpAny_point (wpAny_pure hr)))) fun _ _ x => x)
def iZipS (K : PySem.W.Frag) (ta : TA) : TI := fun σ H R => ta σ H fun vs H1 => ∃ a b xs ys, vs = [.ref a, .ref b] ∧ SqL K H1 a xs ∧ SqL K H1 b ys ∧ R (Itzs K a b) H1
theorem pi_zs {X : Cx} {e e2 v : PySem.Expr} {ta : TA} {p pos tpos kpos : Pos} {elts : List PySem.Expr} {kk : Nat} (hg : Gl X "zip") (hm : X.mg "zip" = none) (ha : PA X [e, e2] ta) (hv : PE X v (tC (.bl true))) (hs : notStar e = true) (hs2 : notStar e2 = true) :
    PI X (.Tuple elts kk tpos) (.Call (.Name "zip" p) [e, e2] [⟨some "strict", v, kpos⟩] pos) (iZipS X.K ta) := by
  refine ⟨fun pins s σ H R I h => ?_⟩
  refine wpAny_Call_Name_kw (ld_blt I hg hm PyProof.Rows.boot_zip ?_)
  refine callWith_tyK (thn (ha.run pos pins s σ H _ I h) fun us s1 ⟨vs, H1, I1, r1, q1⟩ => thn ((pk_cons (nm := some "strict") (kpos := kpos) hv pk_nil).run pos pins s1 σ H1 (fun zs H2 => zs = [.bl true] ∧ H2 = H1) I1 ⟨rfl, rfl⟩) fun ws s2 ⟨zs, H2, I2, rz, ez, eH⟩ => ?_) (.inr (by rw [star_one hs]; rfl)) (by rw [star_one hs, star_one hs2]; rfl) rfl rfl
  subst ez eH
  obtain ⟨a, b, xs, ys, ex, qx, qy, q⟩ := q1
  subst ex
  obtain ⟨u1, u2, rfl, ra, rb⟩ := r1.two
  obtain ⟨u3, rfl, rc⟩ := rz.one
  cases ra
  cases rb
  cases rc
  obtain ⟨is1, m1, p1, _⟩ := I2.list qx
  obtain ⟨is2, m2, p2, _⟩ := I2.list qy
  have la : a < s2.heap.objs.size := p1.lt
  have lb : b < s2.heap.objs.size := p2.lt
  show wpAny _ _ (call (.type "zip") [.ref a, .ref b] skw) _ _ _
  refine zs_make p1.isList p2.isList fun h1 hz hI hO j1 j2 hk => zs_iter hz ?_
  have J : Inv X pins σ H2 { s2 with heap := h1 } := I2.kept (t' := s2.toks) hk
  refine ⟨s2.heap.objs.size + 4, [s2.heap.objs.size + 4, s2.heap.objs.size + 2, s2.heap.objs.size + 3, s2.heap.objs.size, s2.heap.objs.size + 1], _, _, H2, rfl, J, turn_zs (PySem.W.ktu_apart s2.heap.objs.size a b la lb), ⟨hz, hI, ⟨_, _, hO⟩, j1, j2⟩, fun c hc => ?_, q⟩
  have le : s2.heap.objs.size ≤ c := by
    rcases mem5 hc with rfl | rfl | rfl | rfl | rfl
    all_goals first | exact Nat.le_refl _ | exact Nat.le_add_right _ _
  exact I2.fpOk le (I2.hok.fresh le)
section
variable {T : Tb} {W : WX} {X : Cx}
theorem zip2_get {ds es : List D} {i : Nat} {d : D} (h : (zip2D ds es)[i]? = some d) : ∃ a b, ds[i]? = some a ∧ es[i]? = some b ∧ d = .tup [a, b] := by
  unfold zip2D at h
  rw [List.getElem?_zipWith] at h
  cases c : ds[i]? with
  | none => rw [c] at h; cases h
  | some a =>
    cases c2 : es[i]? with
    | none => rw [c, c2] at h; cases h
    | some b => rw [c, c2] at h; cases h; exact ⟨a, b, rfl, rfl, rfl⟩
theorem wk_zip {P : Hp} {a b : Addr} {xs ys : List V} {ds es : List D} (h : P a = some (.lst xs)) (q : Reps T P ds xs) (h' : P b = some (.lst ys)) (q' : Reps T P es ys) : Wk T P (Itz T.K a b) (zip2D ds es) where
  go := fun i H hi e => by
    have z : i < ds.length ∧ i < es.length := by
      simp only [zip2D, List.length_zipWith] at hi
      exact Nat.lt_min.mp hi
    obtain ⟨x, ex, _⟩ := q.get (List.getElem?_eq_getElem z.1)
    obtain ⟨y, ey, _⟩ := q'.get (List.getElem?_eq_getElem z.2)
    exact ⟨xs, ys, x, y, .inl (.inl (e _ _ h)), .inl (.inl (e _ _ h')), ex, ey⟩
  stop := fun H e => ⟨xs, ys, .inl (.inl (e _ _ h)), .inl (.inl (e _ _ h')), by
    rw [q.length, q'.length]
    simp only [zip2D, List.length_zipWith]
    omega⟩
  yld := fun i d H x H' Pc hd e1 e2 y => by
    obtain ⟨p, x, y', rfl, n, rfl, z1, z2⟩ := y
    obtain ⟨da, db, g1, g2, rfl⟩ := zip2_get hd
    obtain ⟨u, eu, ru⟩ := q.get g1
    obtain ⟨v, ev, rv⟩ := q'.get g2
    have w1 := z1 xs (.inl (.inl (e2 _ _ (e1 _ _ h))))
    have w2 := z2 ys (.inl (.inl (e2 _ _ (e1 _ _ h'))))
    rw [eu] at w1; cases w1
    rw [ev] at w2; cases w2
    exact .inr ⟨p, _, _, n, rfl, rfl, rfl, .cons (Rep.ext e1 _ _ ru) (.cons (Rep.ext e1 _ _ rv) .nil)⟩
theorem wk_zs {P : Hp} {a b : Addr} {xs ys : List V} {ds es : List D} (h : P a = some (.lst xs)) (q : Reps T P ds xs) (h' : P b = some (.lst ys)) (q' : Reps T P es ys) (l : ds.length = es.length) : Wk T P (Itzs T.K a b) (zip2D ds es) where
  go := (wk_zip h q h' q').go
  stop := fun H e => ⟨xs, ys, .inl (.inl (e _ _ h)), .inl (.inl (e _ _ h')), by rw [q.length]; simp only [zip2D, List.length_zipWith]; omega, by rw [q'.length]; simp only [zip2D, List.length_zipWith]; omega⟩
  yld := (wk_zip h q h' q').yld
theorem lstD_some {d : D} {l : List D} (h : lstD d = some l) : d = .lst l := by cases d <;> simp [lstD] at h; rw [h]
theorem lst_two {P : Hp} {ds : List D} {us : List V} {k : Bool} {l : List D} (h : Reps T P ds us) (e : zipD k ds = some l) (n : ds.length = 2) : ∃ a b xs ys l1 l2, us = [.ref a, .ref b] ∧ P a = some (.lst xs) ∧ P b = some (.lst ys) ∧ Reps T P l1 xs ∧ Reps T P l2 ys ∧ l = zip2D l1 l2 ∧ (k = true → l1.length = l2.length) := by
  match ds, n, h, e with
  | [d1, d2], _, h, e =>
    obtain ⟨u1, t1, rfl, h1, h⟩ := h.of_cons
    obtain ⟨u2, t2, rfl, h2, h⟩ := h.of_cons
    rw [h.of_nil]
    simp only [zipD] at e
    cases c1 : lstD d1 with
    | none => rw [c1] at e; cases e
    | some l1 =>
    cases c2 : lstD d2 with
    | none => rw [c1, c2] at e; cases e
    | some l2 =>
    rw [c1, c2] at e
    simp only [Option.bind_some] at e
    have z1 := lstD_some c1
    have z2 := lstD_some c2
    subst z1 z2
    split at e
    · rename_i hk
      cases e
      simp only [Rep] at h1 h2
      obtain ⟨a, xs, rfl, q1, q2⟩ := h1
      obtain ⟨b, ys, rfl, q3, q4⟩ := h2
      refine ⟨a, b, xs, ys, l1, l2, rfl, q1, q3, q2, q4, rfl, fun z => ?_⟩
      subst z
      simpa using hk
    · cases e
theorem evs_len {C : Cf} : ∀ {es : List E} {r r' : En} {ds : List D}, evs C es r = .ok ds r' → ds.length = es.length
  | [], r, r', ds, h => by
    simp only [evs] at h
    cases h; rfl
  | e :: es, r, r', ds, h => by
    simp only [evs] at h
    cases c : ev C e r with
    | ok v r1 =>
      rw [c] at h
      simp only [R.bind_ok] at h
      cases c2 : evs C es r1 with
      | ok vs r2 =>
        rw [c2] at h
        simp only [R.bind_ok] at h
        cases h
        rw [List.length_cons, List.length_cons, evs_len c2]
      | exc _ _ _ => rw [c2] at h; cases h
      | bad => rw [c2] at h; cases h
    | exc _ _ _ => rw [c] at h; cases h
    | bad => rw [c] at h; cases h
theorem di_zip (hK : X.K = T.K) {C : Cf} {a b : PySem.Expr} {a' b' : E} {p pos tpos : Pos} {elts : List PySem.Expr} {kk : Nat} (hg : Gl X "zip") (hm : X.mg "zip" = none) (hs : notStar a = true) (hs2 : notStar b = true) (ha : PA X [a, b] (tS T W (evs C [a', b']))) :
    PI X (.Tuple elts kk tpos) (.Call (.Name "zip" p) [a, b] [] pos) (tI T W (evI C (.zip false [a', b']))) := by
  refine piImp (pi_zip hg hm ha (star_one hs _ _) (star_all (by simp [hs2]) _ _)) fun σ H Q ⟨P, r, rs, go⟩ => ?_
  simp only [evI] at go
  refine ⟨P, r, rs, (Go.bind (anti_I T) go).mono fun us H1 ⟨P1, r1, ds, a1, q1, e1, go1⟩ => ?_⟩
  cases c : zipD false ds with
  | none => rw [c] at go1; exact go1.elim
  | some l =>
    rw [c] at go1
    obtain ⟨x, y, xs, ys, l1, l2, rfl, g1, g2, g3, g4, rfl, _⟩ := lst_two q1 c (evs_len e1)
    refine ⟨x, y, xs, ys, rfl, .inl (.inl (a1.rs.sub _ _ g1)), .inl (.inl (a1.rs.sub _ _ g2)), ?_⟩
    rw [hK]
    exact go1 _ P1 H1 (.refl a1.rs) (wk_zip g1 g3 g2 g4)
theorem di_zs (hK : X.K = T.K) {C : Cf} {a b v : PySem.Expr} {a' b' : E} {p pos tpos kpos : Pos} {elts : List PySem.Expr} {kk : Nat} (hg : Gl X "zip") (hm : X.mg "zip" = none) (hs : notStar a = true) (hs2 : notStar b = true) (hv : PE X v (tC (.bl true))) (ha : PA X [a, b] (tS T W (evs C [a', b']))) :
    PI X (.Tuple elts kk tpos) (.Call (.Name "zip" p) [a, b] [⟨some "strict", v, kpos⟩] pos) (tI T W (evI C (.zip true [a', b']))) := by
  refine piImp (pi_zs hg hm ha hv hs hs2) fun σ H Q ⟨P, r, rs, go⟩ => ?_
  simp only [evI] at go
  refine ⟨P, r, rs, (Go.bind (anti_I T) go).mono fun us H1 ⟨P1, r1, ds, a1, q1, e1, go1⟩ => ?_⟩
  cases c : zipD true ds with
  | none => rw [c] at go1; exact go1.elim
  | some l =>
    rw [c] at go1
    obtain ⟨x, y, xs, ys, l1, l2, rfl, g1, g2, g3, g4, rfl, le⟩ := lst_two q1 c (evs_len e1)
    refine ⟨x, y, xs, ys, rfl, .inl (.inl (a1.rs.sub _ _ g1)), .inl (.inl (a1.rs.sub _ _ g2)), ?_⟩
    rw [hK]
    exact go1 _ P1 H1 (.refl a1.rs) (wk_zs g1 g3 g2 g4 (le rfl))
end
end Z
/-! ZU: list(range(..)), constants, op=, chained comparisons. -/
namespace Z
open PySem PySem.Spec L2
open PyProof.Rows hiding St
section
variable {T : Tb} {W : WX} {X : Cx} {e : PySem.Expr} {fa fb fc : En → R (Nat ⊕ D)}
theorem rg_rep (P : Hp) (a b : Int) : Reps T P ((rangeI a b 1).map D.int) (rgV a b) := by
  have e : rgV a b = (rangeI a b 1).map V.int := by
    unfold rgV rangeI rangeN
    rw [if_pos rfl, List.map_map]
    apply List.map_congr_left
    intro k _
    simp
  rw [e]
  exact Reps.of_ints T P _
theorem rgOk_of {a b : Int} (h : Z.rgOk a b = true) : RgOk a b := by
  simp only [Z.rgOk, Bool.and_eq_true, sm62_iff, decide_eq_true_eq] at h
  obtain ⟨⟨⟨h1, h2, _⟩, h3, h4, _⟩, h5⟩ := h
  exact ⟨h1, h2, h3, h4, Nat.le_trans h5 (by decide)⟩
theorem de_lrg1 (hc : X.calm = true) {a : PySem.Expr} {p pos p' pos' : Pos} (hg : Gl X "list") (hm : X.mg "list" = none) (hg' : Gl X "range") (hm' : X.mg "range" = none) (hs : notStar a = true) (ha : PE X a (tB T W fa)) :
    PE X (.Call (.Name "list" p) [.Call (.Name "range" p') [a] [] pos'] [] pos) (tE T W fun r => (fa r).bind fun x r1 => op1 (fun u => lrangeF [u]) x r1) := by
  refine peImp (pe_listRg hc hg hm (prg_1 hg' hm' ha (star_one hs _ _))) fun σ H Q ⟨P, r, rs, go⟩ => ⟨P, r, rs, (Go.bind (anti_V T) go).mono fun u H1 ⟨P1, r1, x, a1, q1, e1, go1⟩ => ?_⟩
  unfold op1 at go1
  cases c : res r1 [x] with
  | none => rw [c] at go1; exact go1.elim
  | some l =>
    obtain ⟨d, rfl, ra⟩ := res1 a1.rs q1 c
    rw [c] at go1
    dsimp only at go1
    cases d with
    | int n =>
      simp only [lrangeF] at go1
      split at go1
      · rename_i hn
        exact ⟨n, ra.int, rgOk_of hn, fun q nq => go1.newL a1.rs nq (rg_rep P1 0 n)⟩
      · exact go1.elim
    | _ => exact go1.elim
theorem de_lrg2 (hc : X.calm = true) {a b : PySem.Expr} {p pos p' pos' : Pos} (hg : Gl X "list") (hm : X.mg "list" = none) (hg' : Gl X "range") (hm' : X.mg "range" = none) (hs : notStar a = true) (hs' : notStar b = true) (ha : PE X a (tB T W fa)) (hb : PE X b (tB T W fb)) :
    PE X (.Call (.Name "list" p) [.Call (.Name "range" p') [a, b] [] pos'] [] pos) (tE T W fun r => (fa r).bind fun x r1 => (fb r1).bind fun y r2 => op2 (fun u v => lrangeF [u, v]) x y r2) := by
  refine peImp (pe_listRg hc hg hm (prg_2 hg' hm' ha hb (star_one hs _ _) (star_one hs' _ _) (star_all (by simp [hs']) _ _))) fun σ H Q ⟨P, r, rs, go⟩ => ⟨P, r, rs, (Go.bind (anti_V T) go).mono fun u H1 ⟨P1, r1, x, a1, q1, e1, go1⟩ => ⟨P1, r1, a1.rs, (Go.bind (anti_V T) go1).mono fun v H2 ⟨P2, r2, y, a2, q2, e2, go2⟩ => ?_⟩⟩
  unfold op2 at go2
  cases c : res r2 [x, y] with
  | none => rw [c] at go2; exact go2.elim
  | some l =>
    obtain ⟨d, d', rfl, ra, rb⟩ := res2 a2.rs (rb2 q1 a2.st.pp q2) c
    rw [c] at go2
    dsimp only at go2
    cases d with
    | int n =>
      cases d' with
      | int m =>
        simp only [lrangeF] at go2
        split at go2
        · rename_i hn
          exact ⟨n, m, ra.int, rb.int, rgOk_of hn, fun q nq => go2.newL a2.rs nq (rg_rep P2 n m)⟩
        · exact go2.elim
      | _ => exact go2.elim
    | _ => exact go2.elim
/-! ### constants -/
theorem de_int {C : Cf} {i : Int} {k : Nat} {pos : Pos} : PE X (.Constant (.int i) k pos) (tE T W (ev C (.con (.int i)))) := de_con pe_int fun _ => by simp only [Rep]
theorem de_none {C : Cf} {k : Nat} {pos : Pos} : PE X (.Constant .none k pos) (tE T W (ev C (.con .non))) := de_con pe_non fun _ => by simp only [Rep]
theorem de_bool {C : Cf} {b : Bool} {k : Nat} {pos : Pos} : PE X (.Constant (.bool b) k pos) (tE T W (ev C (.con (.bl b)))) := de_con pe_bl fun _ => by simp only [Rep]
/-- a name of the module that stands for a constant -/
theorem de_glob {C : Cf} {x : Str} {d : D} {v : V} {u : Value} {pos : Pos} (hg : Gl X x) (hm : X.mg x = some u) (r : RelV v u) (q : ∀ H, Rep T H d v) (hd : (x == ("__debug__" : Str)) = false) : PE X (.Name x pos) (tE T W (ev C (.con d))) := de_con (pe_glob hg hm r hd) q
end
end Z
/-! ZV: the rules in short: the text on the left, the small language on the right. -/
namespace Z
open PySem PySem.Spec L2
open PyProof.Rows hiding St
def DE (T : Tb) (C : Cf) (X : Cx) (e : PySem.Expr) (e' : E) : Prop := PE X e (tE T WF (ev C e'))
def DB (T : Tb) (C : Cf) (X : Cx) (e : PySem.Expr) (e' : E) : Prop := PE X e (tB T WF (bor e' fun r => ev C e' r))
def DP (T : Tb) (C : Cf) (X : Cx) (e : Option PySem.Expr) (e' : E) : Prop := PO X e (tP T WF (por e' fun r => ev C e' r))
def DL (T : Tb) (C : Cf) (X : Cx) (es : List PySem.Expr) (es' : List E) : Prop := PA X es (tS T WF (evs C es'))
def DA (T : Tb) (C : Cf) (X : Cx) (es : List PySem.Expr) (es' : List E) : Prop := PA X es (tA T WF (evA C es'))
def DV (T : Tb) (C : Cf) (X : Cx) (es : List PySem.Expr) (es' : List E) : Prop := PA X es (tV T WF (evV C es'))
def DT (T : Tb) (C : Cf) (X : Cx) (e : PySem.Expr) (t : Z.T) : Prop := PT X e (tK T WF (evT C t))
def DW (T : Tb) (C : Cf) (X : Cx) (e : PySem.Expr) (t : Z.T) : Prop := PW X e (tK T WF (evT C t))
def DI (T : Tb) (C : Cf) (X : Cx) (tg e : PySem.Expr) (t : I) : Prop := PI X tg e (tI T WF (evI C t))
def DG (T : Tb) (X : Cx) (e : PySem.Expr) (t : Tg) : Prop := PG X e (gD T t)
def DGs (T : Tb) (X : Cx) (e : List PySem.Expr) (t : List Tg) : Prop := PGs X e (gDs T t)
def DC (T : Tb) (C : Cf) (X : Cx) (ifs : List PySem.Expr) (ts : List Z.T) : Prop := PTs X ifs (tK T WF (evC C ts))
def DS (T : Tb) (C : Cf) (X : Cx) (s : Stmt) (s' : S) : Prop := PS X s (tD T WF (x1 C s'))
def DSs (T : Tb) (C : Cf) (X : Cx) (s : List Stmt) (s' : List S) : Prop := PSs X s (tD T WF (xs C s'))
section
variable {T : Tb} {C : Cf} {X : Cx} {k : Nat} {pos p p' pos' : Pos} {a b c d : PySem.Expr} {a' b' c' d' : E} {x : Str}
theorem eqE {f g : En → R Val} {e : PySem.Expr} (h : PE X e (tE T WF f)) (q : ∀ r, g r = f r) : PE X e (tE T WF g) := by rw [show g = f from funext q]; exact h
theorem eqB {f g : En → R (Nat ⊕ D)} {e : PySem.Expr} (h : PE X e (tB T WF f)) (q : ∀ r, g r = f r) : PE X e (tB T WF g) := by rw [show g = f from funext q]; exact h
theorem eqT {f g : En → R Bool} {e : PySem.Expr} (h : PT X e (tK T WF f)) (q : ∀ r, g r = f r) : PT X e (tK T WF g) := by rw [show g = f from funext q]; exact h
theorem eqW {f g : En → R Bool} {e : PySem.Expr} (h : PW X e (tK T WF f)) (q : ∀ r, g r = f r) : PW X e (tK T WF g) := by rw [show g = f from funext q]; exact h
theorem eqS {f g : En → O} {e : Stmt} (h : PS X e (tD T WF f)) (q : ∀ r, g r = f r) : PS X e (tD T WF g) := by rw [show g = f from funext q]; exact h
theorem eqI {f g : En → R (List D)} {tg e : PySem.Expr} (h : PI X tg e (tI T WF f)) (q : ∀ r, g r = f r) : PI X tg e (tI T WF g) := by rw [show g = f from funext q]; exact h
/-! ### names, arguments -/
theorem e_var (i : Nat) (hN : X.N[i]? = some x) (hv : Vis X.env.scope x) (hd : (x == ("__debug__" : Str)) = false := by decide) (hc : (x == ("__classdict__" : Str)) = false := by decide) : DE T C X (.Name x pos) (.var i) := de_var (pe_var hN hv hd hc)
theorem b_var (i : Nat) (hN : X.N[i]? = some x) (hv : Vis X.env.scope x) (hd : (x == ("__debug__" : Str)) = false := by decide) (hc : (x == ("__classdict__" : Str)) = false := by decide) : DB T C X (.Name x pos) (.var i) := eqB (db_var (pe_var hN hv hd hc)) fun r => rfl
theorem b_of (h : DE T C X a a') (q : isVar a' = none := by rfl) : DB T C X a a' := eqB (db_of h) fun r => by unfold bor; rw [q]
theorem p_none : DP T C X none (.con .non) := dp_none
theorem p_some (h : DB T C X a a') (q : isNon a' = false := by rfl) : DP T C X (some a) a' := by
  unfold DP
  rw [show (por a' fun r => ev C a' r) = fun r => (bor a' (fun r => ev C a' r) r).bind fun x r1 => R.of (match res r1 [x] with | some [.int i] => some (.inr (.int i)) | _ => none) r1 from funext fun r => by unfold por; (rw [if_neg (by rw [q]; exact Bool.false_ne_true)] <;> rfl)]
  exact dp_some h
theorem l_nil : DL T C X [] [] := ds_nil
theorem l_cons {es : List PySem.Expr} {es' : List E} (ha : DE T C X a a') (hb : DL T C X es es') (hs : notStar a = true := by rfl) : DL T C X (a :: es) (a' :: es') := by
  unfold DL
  rw [show evs C (a' :: es') = fun r => (ev C a' r).bind fun v r1 => (evs C es' r1).bind fun vs r2 => .ok (v.d :: vs) r2 from funext fun r => by simp only [evs]]
  exact ds_cons hs ha hb
theorem a_nil : DA T C X [] [] := da_nil
theorem a_cons {es : List PySem.Expr} {es' : List E} (ha : DB T C X a a') (hb : DA T C X es es') (hs : notStar a = true := by rfl) : DA T C X (a :: es) (a' :: es') := by
  unfold DA
  rw [show evA C (a' :: es') = fun r => (bor a' (fun r => ev C a' r) r).bind fun v r1 => (evA C es' r1).bind fun vs r2 => .ok (v :: vs) r2 from funext fun r => by simp only [evA]]
  exact da_cons hs ha hb
theorem v_nil : DV T C X [] [] := dv_nil
theorem v_cons {es : List PySem.Expr} {es' : List E} (ha : DE T C X a a') (hb : DV T C X es es') (hs : notStar a = true := by rfl) : DV T C X (a :: es) (a' :: es') := by
  unfold DV
  rw [show evV C (a' :: es') = fun r => (ev C a' r).bind fun v r1 => (evV C es' r1).bind fun vs r2 => .ok (v :: vs) r2 from funext fun r => by simp only [evV]]
  exact dv_cons hs ha hb
/-! ### expressions -/
theorem e_int {i : Int} {j : Nat} : DE T C X (.Constant (.int i) j pos) (.con (.int i)) := de_int
theorem e_none {j : Nat} : DE T C X (.Constant .none j pos) (.con .non) := de_none
theorem e_bool {i : Bool} {j : Nat} : DE T C X (.Constant (.bool i) j pos) (.con (.bl i)) := de_bool
theorem e_glob {e' : D} {v : V} {u : Value} (hm : X.mg x = some u) (r : RelV v u) (q : ∀ H, Rep T H e' v) (hg : Gl X x := by rfl) (hd : (x == ("__debug__" : Str)) = false := by decide) : DE T C X (.Name x pos) (.con e') := de_glob hg hm r q hd
theorem e_neg (h : DE T C X a a') : DE T C X (.UnaryOp .USub a pos) (.neg a') := eqE (de_neg h) fun r => by simp only [ev] <;> rfl
theorem e_not (w : CB T k X) (h : DB T C X a a') : DE T C X (.UnaryOp .Not a pos) (.not a') := eqE (de_not w.eK h) fun r => by simp only [ev] <;> rfl
theorem e_bin {op : Operator} (w : CB T k X) (ha : DB T C X a a') (hb : DB T C X b b') : DE T C X (.BinOp a op b pos) (.bin op a' b') := eqE (de_op2 (pe_op (op_binD w.eK op) ha hb)) fun r => by simp only [ev] <;> rfl
theorem e_cmp {op : CmpOp} (w : CB T k X) (ha : DB T C X a a') (hb : DB T C X b b') (hm : behindInMarks op b = false := by with_unfolding_all rfl) : DE T C X (.Compare a [op] [b] pos) (.cmp op a' b') := eqE (de_op2 (pe_cmpR (op_cmpD w.eK w.room.units op) ha hb hm)) fun r => by simp only [ev] <;> rfl
theorem e_one {op : BoolOp} (h : DE T C X a a') : DE T C X (.BoolOp op [a] pos) a' := pe_one h
theorem e_and {es : List PySem.Expr} (w : CB T k X) (ha : DE T C X a a') (hb : DE T C X (.BoolOp .And (b :: es) pos) b') : DE T C X (.BoolOp .And (a :: b :: es) pos) (.and a' b') := eqE (de_and w.eK ha hb) fun r => by simp only [ev] <;> rfl
theorem e_or {es : List PySem.Expr} (w : CB T k X) (ha : DE T C X a a') (hb : DE T C X (.BoolOp .Or (b :: es) pos) b') : DE T C X (.BoolOp .Or (a :: b :: es) pos) (.or a' b') := eqE (de_or w.eK ha hb) fun r => by simp only [ev] <;> rfl
theorem e_ite {t : Z.T} (hc : DT T C X c t) (ha : DE T C X a a') (hb : DE T C X b b') : DE T C X (.IfExp c a b pos) (.ite t a' b') := eqE (de_ite hc ha hb) fun r => by simp only [ev] <;> rfl
theorem e_lst {es : List PySem.Expr} {es' : List E} (h : DL T C X es es') : DE T C X (.List es pos) (.lst es') := eqE (de_lst h) fun r => by simp only [ev] <;> rfl
theorem e_tup {es : List PySem.Expr} {es' : List E} {j : Nat} (h : DL T C X es es') : DE T C X (.Tuple es j pos) (.tup es') := eqE (de_tup h) fun r => by simp only [ev] <;> rfl
theorem e_idx (w : CB T k X) (ha : DB T C X a a') (hb : DB T C X b b') (hs : PlainIx b := by intro _ _; rfl) : DE T C X (.Subscript a b pos) (.idx a' b') := eqE (de_op2 (pe_ix (ix_D w.eK) ha hb hs)) fun r => by simp only [ev] <;> rfl
theorem e_slc {lo hi : Option PySem.Expr} (w : CB T k X) (ha : DB T C X a a') (hb : DP T C X lo b') (hc : DP T C X hi c') : DE T C X (.Subscript a (.Slice lo hi none p) pos) (.slc a' b' c') := eqE (de_slc w.eK ha hb hc) fun r => by simp only [ev] <;> rfl
theorem e_isi (w : CB T k X) (t : Ty) (ha : DB T C X a a') (hb : PE X b (tC (.ty (tyName t)))) (hm : X.mg "isinstance" = none) (ht : ∀ c, t ≠ .cls c := by intro _ h; cases h) (hg : Gl X "isinstance" := by rfl) (hs : notStar a = true := by rfl) (hs' : notStar b = true := by rfl) :
    DE T C X (.Call (.Name "isinstance" p) [a, b] [] pos) (.isi a' t) := eqE (de_isi w.eK ht hg hm hs hs' ha hb) fun r => by simp only [ev] <;> rfl
theorem e_biB {id : String} {es : List PySem.Expr} {es' : List E} {bi : BI} (hc : CallR X (.builtin id) (rDn T WF (biD bi))) (hm : X.mg x = none) (hv : bootBuiltins x = some (.builtin id)) (ha : DA T C X (a :: es) es') (hg : Gl X x := by rfl) (hs : notStar a = true := by rfl) (hss : es.all notStar = true := by rfl)
    (hn : x ≠ "__name__" := by decide) (hd : (x == ("__debug__" : Str)) = false := by decide) : DE T C X (.Call (.Name x p) (a :: es) [] pos) (.bi bi es') := eqE (de_biB hc hg hm hv hs hss ha hn hd) fun r => by simp only [ev] <;> rfl
theorem e_biT {id : String} {es : List PySem.Expr} {es' : List E} {bi : BI} (hc : CallR X (.type id) (rDn T WF (biD bi))) (hm : X.mg x = none) (hv : bootBuiltins x = some (.type id)) (ha : DA T C X (a :: es) es') (hg : Gl X x := by rfl) (hs : notStar a = true := by rfl) (hss : es.all notStar = true := by rfl)
    (hn : x ≠ "__name__" := by decide) (hd : (x == ("__debug__" : Str)) = false := by decide) : DE T C X (.Call (.Name x p) (a :: es) [] pos) (.bi bi es') := eqE (de_biT hc hg hm hv hs hss ha hn hd) fun r => by simp only [ev] <;> rfl
theorem res_one (r : En) (x : Nat ⊕ D) : res r [x] = none ∨ ∃ u, res r [x] = some [u] := by
  cases x with
  | inl i =>
    simp only [res]
    cases r.rd i with
    | none => exact .inl rfl
    | some d => exact .inr ⟨d, rfl⟩
  | inr d => exact .inr ⟨d, rfl⟩
theorem res_two (r : En) (x y : Nat ⊕ D) : res r [x, y] = none ∨ ∃ u v, res r [x, y] = some [u, v] := by
  cases x with
  | inl i =>
    simp only [res]
    cases r.rd i with
    | none => exact .inl rfl
    | some d =>
      cases y with
      | inl j =>
        simp only [res]
        cases r.rd j with
        | none => exact .inl rfl
        | some d' => exact .inr ⟨d, d', rfl⟩
      | inr d' => exact .inr ⟨d, d', rfl⟩
  | inr d =>
    cases y with
    | inl j =>
      simp only [res]
      cases r.rd j with
      | none => exact .inl rfl
      | some d' => exact .inr ⟨d, d', rfl⟩
    | inr d' => exact .inr ⟨d, d', rfl⟩
theorem e_lrg1 (w : CB T k X) (ha : DB T C X a a') (hm : X.mg "list" = none) (hm' : X.mg "range" = none) (hg : Gl X "list" := by rfl) (hg' : Gl X "range" := by rfl) (hs : notStar a = true := by rfl) :
    DE T C X (.Call (.Name "list" p) [.Call (.Name "range" p') [a] [] pos'] [] pos) (.bi .lrange [a']) := eqE (de_lrg1 w.calm hg hm hg' hm' hs ha) fun r => by
  simp only [ev, evA]
  rw [bind_assoc]
  congr 1
  funext x r1
  simp only [R.bind_ok]
  unfold opn op1
  rcases res_one r1 x with h | ⟨u, h⟩
  · rw [h]; rfl
  · rw [h]; rfl
theorem e_lrg2 (w : CB T k X) (ha : DB T C X a a') (hb : DB T C X b b') (hm : X.mg "list" = none) (hm' : X.mg "range" = none) (hg : Gl X "list" := by rfl) (hg' : Gl X "range" := by rfl) (hs : notStar a = true := by rfl) (hs' : notStar b = true := by rfl) :
    DE T C X (.Call (.Name "list" p) [.Call (.Name "range" p') [a, b] [] pos'] [] pos) (.bi .lrange [a', b']) := eqE (de_lrg2 w.calm hg hm hg' hm' hs hs' ha hb) fun r => by
  simp only [ev, evA]
  rw [bind_assoc]
  congr 1
  funext x r1
  rw [bind_assoc, bind_assoc]
  congr 1
  funext y r2
  simp only [R.bind_ok]
  unfold opn op2
  rcases res_two r2 x y with h | ⟨u, v, h⟩
  · rw [h]; rfl
  · rw [h]; rfl
theorem e_append (w : CB T k X) (i : Nat) (ho : PE X a (tVar i)) (hb : DE T C X b b') (q : attributeBase a "append" X.env (eval a X.env) = eval a X.env := by rfl) (hl : (p'.endLine == pos.line) = true := by rfl) (hs : notStar b = true := by rfl) :
    DE T C X (.Call (.Attribute a "append" p') [b] [] pos) (.mut .append i [b']) := eqE (de_append w.eK ho (l_cons hb l_nil hs) hs q hl) fun r => by simp only [ev]; rfl
theorem e_popAt (w : CB T k X) (i : Nat) (ho : PE X a (tVar i)) (hb : DE T C X b b') (q : attributeBase a "pop" X.env (eval a X.env) = eval a X.env := by rfl) (hl : (p'.endLine == pos.line) = true := by rfl) (hs : notStar b = true := by rfl) :
    DE T C X (.Call (.Attribute a "pop" p') [b] [] pos) (.mut .popAt i [b']) := eqE (de_popAt w.eK ho (l_cons hb l_nil hs) hs q hl) fun r => by simp only [ev]; rfl
theorem e_pop (w : CB T k X) (i : Nat) (ho : PE X a (tVar i)) (q : attributeBase a "pop" X.env (eval a X.env) = eval a X.env := by rfl) (hl : (p'.endLine == pos.line) = true := by rfl) :
    DE T C X (.Call (.Attribute a "pop" p') [] [] pos) (.mut .pop i []) := eqE (de_pop (C := C) w.eK ho q hl) fun r => by simp only [ev]; rfl
theorem e_reverse (w : CB T k X) (i : Nat) (ho : PE X a (tVar i)) (q : attributeBase a "reverse" X.env (eval a X.env) = eval a X.env := by rfl) (hl : (p'.endLine == pos.line) = true := by rfl) :
    DE T C X (.Call (.Attribute a "reverse" p') [] [] pos) (.mut .reverse i []) := eqE (de_reverse (C := C) w.eK ho q hl) fun r => by simp only [ev]; rfl
theorem e_bits (ha : DB T C X a a') (q : attributeBase a "bit_length" X.env (eval a X.env) = eval a X.env := by rfl) (hl : (p'.endLine == pos.line) = true := by rfl) : DE T C X (.Call (.Attribute a "bit_length" p') [] [] pos) (.bits a') := eqE (de_bits ha q hl) fun r => by simp only [ev] <;> rfl
theorem e_index (w : CB T k X) (ha : DB T C X a a') (hb : DB T C X b b') (q : attributeBase a "index" X.env (eval a X.env) = eval a X.env := by rfl) (hl : (p'.endLine == pos.line) = true := by rfl) (hs : notStar b = true := by rfl) :
    DE T C X (.Call (.Attribute a "index" p') [b] [] pos) (.mth .index a' [b']) := eqE (de_index w.eK ha (a_cons hb a_nil hs) hs q hl) fun r => by simp only [ev] <;> rfl
/-- f(..): a def -/
theorem e_def {g : Nat} {ms : List Bool} {f : Addr} {fd : FuncData} {ps : List Str} {ds : List Value} {dvs : List V} {dfl : List D} {es : List PySem.Expr} {es' : List E} (w : CB T k X) (hms : C.modes g = some ms) (F : FnG T k f fd ps (spD T ms (C.call g))) (hm : T.mg x = some (.ref f)) (hk : PySem.W.keepIn T.K (.ref f) = true)
    (hb : Binds T.K fd ps ds) (hd : Vals dvs ds) (hr : ∀ P, Reps T P dfl dvs) (ha : DA T C X (a :: es) es') (hg : Gl X x := by rfl) (hs : notStar a = true := by rfl) (hss : es.all notStar = true := by rfl) (hdb : (x == ("__debug__" : Str)) = false := by decide) :
    DE T C X (.Call (.Name x p) (a :: es) [] pos) (.call g es' [] dfl) := eqE (de_def (pe_def w F hg hm hk hb hd ha hs hss hdb) (fun _ _ _ h => h) hr) fun r => by
  simp only [ev]
  congr 1
  funext ys r1
  rw [show permO (ys ++ dfl.map .inr) [] = some (ys ++ dfl.map .inr) from rfl, hms]
/-! ### tests -/
theorem t_val (w : CB T k X) (h : DB T C X a a') (he : ∀ whole, isTrue a X.env whole = (do let v ← whole; standAt a.pos; holding [v] (truthy v)) := by intro _; rfl) : DT T C X a (.val a') := eqT (dt_val w.eK h he) fun r => by simp only [evT] <;> rfl
theorem t_cmp {op : CmpOp} (w : CB T k X) (ha : DB T C X a a') (hb : DB T C X b b') (hm : behindInMarks op b = false := by with_unfolding_all rfl) : DT T C X (.Compare a [op] [b] pos) (.val (.cmp op a' b')) := eqT (dt_cmp w.eK w.room.units ha hb hm) fun r => by
  simp only [evT, bor, isVar, ev]
  rw [bind_assoc]
  congr 1
theorem t_not {t : Z.T} (h : DT T C X a t) : DT T C X (.UnaryOp .Not a pos) (.not t) := eqT (dt_not h) fun r => by simp only [evT] <;> rfl
theorem w_and1 {t : Z.T} (h : DT T C X a t) : DW T C X (.BoolOp .And [a] pos) t := pw_and1 h
theorem w_or1 {t : Z.T} (h : DT T C X a t) : DW T C X (.BoolOp .Or [a] pos) t := pw_or1 h
theorem w_and {t u : Z.T} {es : List PySem.Expr} (ha : DT T C X a t) (hb : DW T C X (.BoolOp .And (b :: es) pos) u) : DW T C X (.BoolOp .And (a :: b :: es) pos) (.and t u) := eqW (dw_and ha hb) fun r => by simp only [evT] <;> rfl
theorem w_or {t u : Z.T} {es : List PySem.Expr} (ha : DT T C X a t) (hb : DW T C X (.BoolOp .Or (b :: es) pos) u) : DW T C X (.BoolOp .Or (a :: b :: es) pos) (.or t u) := eqW (dw_or ha hb) fun r => by simp only [evT] <;> rfl
theorem t_w {t : Z.T} (h : DW T C X a t) : DT T C X a t := h.pt
theorem c_nil : DC T C X [] [] := ⟨fun pins s σ H Q I ⟨P, r, rs, go⟩ => by
  simp only [evC] at go
  exact pts_nil.run pins s σ H Q I (go true P H (.refl rs) rfl)⟩
theorem c_one {t : Z.T} (h : DT T C X a t) : DC T C X [a] [t] := by
  unfold DC
  rw [show evC C [t] = evT C t from funext fun r => by
    simp only [evC]
    cases evT C t r with
    | ok k r1 => cases k <;> rfl
    | exc _ _ _ => rfl
    | bad => rfl]
  exact pts_one h
/-! ### what is walked, targets -/
theorem i_seq (w : CB T k X) (ha : DE T C X a a') : DI T C X c a (.e a') := eqI (di_seq w.eK ha) fun r => by simp only [evI] <;> rfl
theorem i_rng1 (ha : DB T C X a a') (hm : X.mg "range" = none) (hg : Gl X "range" := by rfl) (hs : notStar a = true := by rfl) : DI T C X c (.Call (.Name "range" p) [a] [] pos) (.rng1 a') := eqI (di_rng1 hg hm hs ha) fun r => by simp only [evI] <;> rfl
theorem i_rng2 (ha : DB T C X a a') (hb : DB T C X b b') (hm : X.mg "range" = none) (hg : Gl X "range" := by rfl) (hs : notStar a = true := by rfl) (hs' : notStar b = true := by rfl) : DI T C X c (.Call (.Name "range" p) [a, b] [] pos) (.rng2 a' b') := eqI (di_rng2 hg hm hs hs' ha hb) fun r => by simp only [evI] <;> rfl
theorem i_enum (w : CB T k X) {es : List PySem.Expr} {j : Nat} (ha : DE T C X a a') (hm : X.mg "enumerate" = none) (hg : Gl X "enumerate" := by rfl) (hs : notStar a = true := by rfl) : DI T C X (.Tuple es j p') (.Call (.Name "enumerate" p) [a] [] pos) (.enm a') := eqI (di_enum w.eK hg hm hs ha) fun r => by simp only [evI] <;> rfl
theorem i_rev (w : CB T k X) (ha : DE T C X a a') (hm : X.mg "reversed" = none) (hg : Gl X "reversed" := by rfl) (hs : notStar a = true := by rfl) : DI T C X c (.Call (.Name "reversed" p) [a] [] pos) (.rvd a') := eqI (di_rev w.eK hg hm hs ha) fun r => by simp only [evI] <;> rfl
theorem i_zip (w : CB T k X) {es : List PySem.Expr} {j : Nat} (ha : DL T C X [a, b] [a', b']) (hm : X.mg "zip" = none) (hg : Gl X "zip" := by rfl) (hs : notStar a = true := by rfl) (hs' : notStar b = true := by rfl) : DI T C X (.Tuple es j p') (.Call (.Name "zip" p) [a, b] [] pos) (.zip false [a', b']) := di_zip w.eK hg hm hs hs' ha
theorem i_zs (w : CB T k X) {es : List PySem.Expr} {j i : Nat} {q : Pos} (ha : DL T C X [a, b] [a', b']) (hm : X.mg "zip" = none) (hg : Gl X "zip" := by rfl) (hs : notStar a = true := by rfl) (hs' : notStar b = true := by rfl) :
    DI T C X (.Tuple es j p') (.Call (.Name "zip" p) [a, b] [⟨some "strict", .Constant (.bool true) i q, pos'⟩] pos) (.zip true [a', b']) := di_zs w.eK hg hm hs hs' pe_bl ha
theorem g_v (w : CB T k X) (i : Nat) (hi : X.N[i]? = some x) (hx : L2.Loc X.env.scope x) (hf : X.fn x = true ∨ X.env.scope.names.lookup x = some .local) : DG T X (.Name x pos) (.v i) := dg_v (pg_name w.nd hi hx hf)
theorem gs_nil : DGs T X [] [] := dgs_nil
theorem gs_cons {es : List PySem.Expr} {t : Tg} {ts : List Tg} (h1 : DG T X a t) (h2 : DGs T X es ts) (hs : (assignEach (a :: es) X.env).map (·.2) = assign a X.env :: (assignEach es X.env).map (·.2) := by rfl) : DGs T X (a :: es) (t :: ts) := dgs_cons h1 h2 hs
theorem g_t (w : CB T k X) {es : List PySem.Expr} {j : Nat} {ts : List Tg} (h : DGs T X es ts) (hn : (assignEach es X.env).length = ts.length := by rfl) (hst : (assignEach es X.env).findIdx? (·.1) = none := by rfl) : DG T X (.Tuple es j pos) (.t ts) := dg_t w.calm h hn rfl hst
end
end Z
/-! ZW: comprehensions and statements in short. -/
namespace Z
open PySem PySem.Spec L2
open PyProof.Rows hiding St
section
variable {T : Tb} {C : Cf} {X : Cx} {k : Nat} {pos p p' pos' : Pos} {a b c d : PySem.Expr} {a' b' c' d' : E} {x y z : Str}
theorem lc_conv {elt tg iter : PySem.Expr} {ifs : List PySem.Expr} {scope : Scope} {own : List (Str × Nat)} {it : I} {t : Tg} {ts : List Z.T} {e' : E} (w : CB T k X) (hi : DI T C X tg iter it) (ok : BlkOk X.N X.env.scope scope own)
    (hg : ∀ (s : Shared) (H : Hp) (CC : Addr) (cl : List (Str × Addr)) (fp : List Addr), DG T (X.blk s H scope (compEnvC scope cl CC X.env) fp) tg t)
    (ht : ∀ (s : Shared) (H : Hp) (CC : Addr) (cl : List (Str × Addr)) (fp : List Addr), DC T C (X.blk s H scope (compEnvC scope cl CC X.env) fp) ifs ts)
    (he : ∀ (s : Shared) (H : Hp) (CC : Addr) (cl : List (Str × Addr)) (fp : List Addr), DE T C (X.blk s H scope (compEnvC scope cl CC X.env) fp) elt e')
    (hs : ∀ x, foldedSetIterable iter X.env x = pure x) :
    ∀ (σ : St) (H : Hp) (Q : VK), tE T WF (ev C (.lc e' t it ts (own.map (·.2)))) σ H Q → tLc (tI T WF (evI C it)) (gD T t) (tK T WF (evC C ts)) (tE T WF (ev C e')) (own.map (·.2)) σ H Q := fun σ H Q h => by
  refine de_lc (pos := ⟨0, 0, 0, 0⟩) w.calm w.nd hi ok hg ht he hs σ H Q ?_
  rw [show ev C (.lc e' t it ts (own.map (·.2))) = fun r => (evI C it r).bind fun l r1 => if ownFree r1 (own.map (·.2)) && (tgS t).all (own.map (·.2)).contains then
      (lcL (lcF t (evC C ts) (ev C e') (own.map (·.2))) l [] (wip r1 (own.map (·.2)))).bind fun ds r6 => thawL r ds (back r1 r6 (own.map (·.2))) else .bad from funext fun r => by simp only [ev] <;> rfl] at h
  exact h
/-- [.. for ..] -/
theorem e_lc {elt tg iter : PySem.Expr} {ifs : List PySem.Expr} {scope : Scope} {it : I} {t : Tg} {ts : List Z.T} {e' : E} (w : CB T k X) (own : List (Str × Nat)) (hi : DI T C X tg iter it)
    (hg : ∀ (s : Shared) (H : Hp) (CC : Addr) (cl : List (Str × Addr)) (fp : List Addr), DG T (X.blk s H scope (compEnvC scope cl CC X.env) fp) tg t)
    (ht : ∀ (s : Shared) (H : Hp) (CC : Addr) (cl : List (Str × Addr)) (fp : List Addr), DC T C (X.blk s H scope (compEnvC scope cl CC X.env) fp) ifs ts)
    (he : ∀ (s : Shared) (H : Hp) (CC : Addr) (cl : List (Str × Addr)) (fp : List Addr), DE T C (X.blk s H scope (compEnvC scope cl CC X.env) fp) elt e')
    (ok : BlkOk X.N X.env.scope scope own) (hs : ∀ x, foldedSetIterable iter X.env x = pure x := by intro _; rfl) : DE T C X (.ListComp elt [⟨tg, iter, ifs, 0⟩] scope pos) (.lc e' t it ts (own.map (·.2))) :=
  peImp (pe_lc w.calm w.nd hi ok hg ht he hs) (lc_conv w hi ok hg ht he hs)
/-! ### statements -/
theorem ss_nil : DSs T C X [] [] := by
  unfold DSs
  rw [show xs C [] = fun r => .nx r from funext fun r => by simp only [xs]]
  exact dss_nil
theorem ss_cons {s : Stmt} {ss : List Stmt} {s' : S} {ss' : List S} (h1 : DS T C X s s') (h2 : DSs T C X ss ss') : DSs T C X (s :: ss) (s' :: ss') := by
  unfold DSs
  rw [show xs C (s' :: ss') = fun r => (x1 C s' r).then (xs C ss') from funext fun r => by simp only [xs]]
  exact dss_cons h1 h2
theorem s_pass : DS T C X (.Pass pos) .pass := eqS ds_pass fun r => by simp only [x1]
theorem s_brk : DS T C X (.Break pos) .brk := eqS ds_brk fun r => by simp only [x1]
theorem s_cnt : DS T C X (.Continue pos) .cnt := eqS ds_cnt fun r => by simp only [x1]
theorem s_doc {t : Str} {j : Nat} : DS T C X (.Expr (.Constant (.str t) j pos) pos') .pass := eqS ds_doc fun r => by simp only [x1]
theorem s_retN : DS T C X (.Return none pos) .retN := eqS ds_retN fun r => by simp only [x1]
/-- a statement that is never reached -/
theorem s_nev {s : Stmt} : DS T C X s .nev := psImp ps_never fun D σ H ⟨P, r, rs, go⟩ => by
  simp only [x1] at go
  exact go.elim
theorem s_ex (h : DE T C X a a') (hs : swapsWith a none pos.line X.env = pure false := by rfl) : DS T C X (.Expr a pos) (.ex a') := eqS (ds_ex h hs) fun r => by simp only [x1]
theorem s_ret (h : DE T C X a a') (q : isVar a' = none := by rfl) : DS T C X (.Return (some a) pos) (.ret a') := eqS (ds_ret h) fun r => by
  simp only [x1]
  unfold retV
  rw [q]
theorem s_retv (i : Nat) (h : PE X a (tVar i)) : DS T C X (.Return (some a) pos) (.ret (.var i)) := eqS (ds_retv (C := C) h) fun r => by simp only [x1]
theorem s_if {t : Z.T} {ss tt : List Stmt} {ss' tt' : List S} (hc : DT T C X c t) (ha : DSs T C X ss ss') (hb : DSs T C X tt tt') : DS T C X (.If c ss tt pos) (.ite t ss' tt') := eqS (ds_if hc ha hb) fun r => by simp only [x1] <;> rfl
theorem s_set (w : CB T k X) (i : Nat) (h : DE T C X a a') (hi : X.N[i]? = some x) (hx : L2.Loc X.env.scope x) (hf : X.fn x = true ∨ X.env.scope.names.lookup x = some .local) (hs : swapsWith a (some (.Name x pos')) pos.line X.env = pure false := by rfl) : DS T C X (.Assign [.Name x pos'] a pos) (.asg (.v i) a') :=
  eqS (ds_set (ps_set w.nd hi hx h hs hf) fun _ _ _ h => h) fun r => by simp only [x1] <;> rfl
/-- name = [.. for ..], the name a local, all on one line -/
theorem s_setc {elt tg iter : PySem.Expr} {ifs : List PySem.Expr} {scope : Scope} {it : I} {t : Tg} {ts : List Z.T} {e' : E} (w : CB T k X) (i : Nat) (own : List (Str × Nat)) (hy : X.N[i]? = some x) (hyl : X.env.scope.names.lookup x = some .local)
    (hsw : swapsWith (.ListComp elt [⟨tg, iter, ifs, 0⟩] scope pos) (some (.Name x p')) pos'.line X.env = pure true) (hi : DI T C X tg iter it)
    (hg : ∀ (s : Shared) (H : Hp) (CC : Addr) (cl : List (Str × Addr)) (fp : List Addr), DG T (X.blk s H scope (compEnvC scope cl CC X.env) fp) tg t)
    (ht : ∀ (s : Shared) (H : Hp) (CC : Addr) (cl : List (Str × Addr)) (fp : List Addr), DC T C (X.blk s H scope (compEnvC scope cl CC X.env) fp) ifs ts)
    (he : ∀ (s : Shared) (H : Hp) (CC : Addr) (cl : List (Str × Addr)) (fp : List Addr), DE T C (X.blk s H scope (compEnvC scope cl CC X.env) fp) elt e')
    (ok : BlkOk X.N X.env.scope scope own) (hs : ∀ x, foldedSetIterable iter X.env x = pure x := by intro _; rfl) : DS T C X (.Assign [.Name x p'] (.ListComp elt [⟨tg, iter, ifs, 0⟩] scope pos) pos') (.asg (.v i) (.lc e' t it ts (own.map (·.2)))) :=
  eqS (ds_set (ps_setLc w.calm w.nd hy hyl hsw hi ok hg ht he hs) (lc_conv w hi ok hg ht he hs)) fun r => by simp only [x1] <;> rfl
/-- a, b = e -/
theorem s_asgT {es : List PySem.Expr} {j : Nat} {ts : List Tg} (w : CB T k X) (he : DE T C X a a') (hg : DG T X (.Tuple es j p) (.t ts)) (hs : swapsWithSole [.Tuple es j p] a pos.line X.env = pure false := by rfl) (hw : swappedStores [.Tuple es j p] a X.env = pure none := by rfl)
    (h1 : (assignEach [.Tuple es j p] X.env).map (·.2) = [assign (.Tuple es j p) X.env] := by rfl) : DS T C X (.Assign [.Tuple es j p] a pos) (.asg (.t ts) a') := eqS (ds_asgT he hg hs hw h1) fun r => by simp only [x1] <;> rfl
/-- x, y = a, b -/
theorem s_par2 {px py pt : Pos} {kt k2 : Nat} {pt2 : Pos} (w : CB T k X) (i j : Nat) (ha : DV T C X [a, b] [a', b']) (hi : X.N[i]? = some x) (hj : X.N[j]? = some y) (hx : X.env.scope.names.lookup x = some .local) (hy : X.env.scope.names.lookup y = some .local)
    (hw : swappedStores [.Tuple [.Name x px, .Name y py] kt pt] (.Tuple [a, b] k2 pt2) X.env = pure (some [x, y]) := by rfl) (hs : swapsWithSole [.Tuple [.Name x px, .Name y py] kt pt] (.Tuple [a, b] k2 pt2) pos.line X.env = pure false := by rfl) (hij : i ≠ j := by decide) :
    DS T C X (.Assign [.Tuple [.Name x px, .Name y py] kt pt] (.Tuple [a, b] k2 pt2) pos) (.par [i, j] [a', b']) := eqS (ds_par2 (ps_par w.calm w.nd hi hj hij hx hy ha hw hs) (fun _ _ _ h => h) hij) fun r => by simp only [x1]
theorem s_par3 {px py pz pt : Pos} {kt k2 : Nat} {pt2 : Pos} (w : CB T k X) (i j l : Nat) (ha : DV T C X [a, b, c] [a', b', c']) (hi : X.N[i]? = some x) (hj : X.N[j]? = some y) (hl : X.N[l]? = some z) (hx : X.env.scope.names.lookup x = some .local) (hy : X.env.scope.names.lookup y = some .local) (hz : X.env.scope.names.lookup z = some .local)
    (hw : swappedStores [.Tuple [.Name x px, .Name y py, .Name z pz] kt pt] (.Tuple [a, b, c] k2 pt2) X.env = pure (some [x, y, z]) := by rfl) (hs : swapsWithSole [.Tuple [.Name x px, .Name y py, .Name z pz] kt pt] (.Tuple [a, b, c] k2 pt2) pos.line X.env = pure false := by rfl)
    (hij : i ≠ j := by decide) (hil : i ≠ l := by decide) (hjl : j ≠ l := by decide) (hn : [i, j, l].Nodup := by decide) :
    DS T C X (.Assign [.Tuple [.Name x px, .Name y py, .Name z pz] kt pt] (.Tuple [a, b, c] k2 pt2) pos) (.par [i, j, l] [a', b', c']) := eqS (ds_par3 (ps_par3 w.calm w.nd hi hj hl hij hil hjl hx hy hz ha hw hs) (fun _ _ _ h => h) hn) fun r => by simp only [x1]
/-- names of the target of a tuple -/
def DNs (X : Cx) (es : List PySem.Expr) (is : List Nat) : Prop := PGs X es (gNs is)
theorem n_nil : DNs X [] [] := pgs_nil
theorem n_cons {es : List PySem.Expr} {is : List Nat} (w : CB T k X) (i : Nat) (h : DNs X es is) (hi : X.N[i]? = some x) (hx : L2.Loc X.env.scope x) (hf : X.fn x = true ∨ X.env.scope.names.lookup x = some .local) (hs : (assignEach (.Name x p :: es) X.env).map (·.2) = assign (.Name x p) X.env :: (assignEach es X.env).map (·.2) := by rfl) : DNs X (.Name x p :: es) (i :: is) := pgs_cons (pg_name w.nd hi hx hf) h hs
theorem s_parT {tes es : List PySem.Expr} {j j' : Nat} {tp ep : Pos} {is : List Nat} {es' : List E} (w : CB T k X) (hg : DNs X tes is) (ha : DV T C X es es') (hl : (assignEach tes X.env).length = is.length := by rfl) (hst : (assignEach tes X.env).findIdx? (·.1) = none := by rfl)
    (hs : swapsWithSole [.Tuple tes j tp] (.Tuple es j' ep) pos.line X.env = pure false := by rfl) (hw : swappedStores [.Tuple tes j tp] (.Tuple es j' ep) X.env = pure none := by rfl) (h1 : (assignEach [.Tuple tes j tp] X.env).map (·.2) = [assign (.Tuple tes j tp) X.env] := by rfl)
    (hn : is.Nodup := by decide) (hsz : is.length ≤ 1000 := by decide) : DS T C X (.Assign [.Tuple tes j tp] (.Tuple es j' ep) pos) (.par is es') := eqS (ds_parT w.calm hg ha hl hst hs hw h1 hn hsz) fun r => by simp only [x1]
/-- x[i] = e -/
theorem s_seti {tpos : Pos} (i : Nat) (he : DE T C X c c') (ho : PE X a (tVar i)) (hi : DE T C X b b') (hs : swapsWithSole [.Subscript a b tpos] c pos.line X.env = pure false := by rfl) (hw : swappedStores [.Subscript a b tpos] c X.env = pure none := by rfl) (h1 : (assignEach [.Subscript a b tpos] X.env).map (·.2) = [assign (.Subscript a b tpos) X.env] := by rfl)
    (ha : ∀ v, assign (.Subscript a b tpos) X.env v = (do
      let ov ← holding [v] (eval a X.env)
      let iv ← holding [v, ov] (eval b X.env)
      standAt tpos
      holding [v, ov, iv] (setItem ov iv v)
      release [v, ov, iv] []) := by intro _; rfl) : DS T C X (.Assign [.Subscript a b tpos] c pos) (.seti i b' c') := eqS (ds_seti he ho hi hs hw h1 ha) fun r => by simp only [x1]
/-- loops -/
theorem s_for {body : List Stmt} {tg : PySem.Expr} {it : I} {t : Tg} {ss : List S} (w : CB T k X) (hi : DI T C X tg a it) (hg : DG T X tg t) (hb : DSs T C X body ss) (hp : PassesOwn (model X.prog X.w) X.A X.env X.xe := by exact PassesOwn.never) (hs : ∀ x, foldedSetIterable a X.env x = pure x := by intro _; rfl) :
    DS T C X (.For tg a body [] pos) (.for_ t it ss) := eqS (ds_for hp w.calm hi hg hb hs) fun r => by simp only [x1]
theorem s_whl {body : List Stmt} {t : Z.T} {ss : List S} (hc : DT T C X c t) (hb : DSs T C X body ss) (hp : PassesOwn (model X.prog X.w) X.A X.env X.xe := by exact PassesOwn.never) : DS T C X (.While c body [] pos) (.whl t ss) := eqS (ds_whl C.fuel hp hc hb) fun r => by simp only [x1]
end
end Z
/-! ZX: defs of a text, the head. -/
namespace Z
open PySem PySem.Spec L2
open PyProof.Rows hiding St
/-- the evaluator at a depth -/
abbrev Cq (Pg : Nat → Option Df) (fuel k : Nat) : Cf := { call := callD Pg fuel k, modes := fun g => (Pg g).map (·.modes), fuel := fuel }
/-- a def as it stands in the written part -/
structure DfAt (T : Tb) (x : Str) (st : Stmt) (N ps : List Str) (f : Addr) (fd : FuncData) : Prop where
  ex : ∃ (oc : Value) (od : Option Addr) (kV doc pm : Value) (an : Option Addr) (cdv ct : Value) (osl : Array (Option Value)),
    fd = PySem.W.fnOf x x (defArgs st) (defBody st) (defScope st) .none kV doc pm an cdv ct ∧ T.K.lookup f = some ⟨oc, od, .func fd, osl⟩ ∧ PySem.W.codeIn T.K cdv x = true
  sc : FnScope N ps (defScope st)
  mg : T.mg x = some (.ref f)
  kp : PySem.W.keepIn T.K (.ref f) = true
  bn : Binds T.K fd ps []
/-- a name that may be called -/
def Cal (T : Tb) (k : Nat) (x : Str) (ms : List Bool) (c : List D → CR) : Prop :=
  ∃ (f : Addr) (fd : FuncData) (ps : List Str), T.mg x = some (.ref f) ∧ PySem.W.keepIn T.K (.ref f) = true ∧ Binds T.K fd ps [] ∧ FnG T k f fd ps (spD T ms c)
theorem cal_zero {T : Tb} {Pg : Nat → Option Df} {fuel i : Nat} {ms : List Bool} {x : Str} {st : Stmt} {N ps : List Str} {f : Addr} {fd : FuncData} (h : DfAt T x st N ps f fd) : Cal T 0 x ms (callD Pg fuel 0 i) := by
  refine ⟨f, fd, ps, h.mg, h.kp, h.bn, ⟨fun vs H Q E q => ?_, fun A outer s H args us vs Q E _ _ _ _ _ q => ?_⟩⟩
  · obtain ⟨P, ds, _, _, z⟩ := q
    exact z.elim
  · obtain ⟨P, ds, _, _, z⟩ := q
    exact z.elim
theorem fng_step {T : Tb} {Pg : Nat → Option Df} {fuel k i : Nat} {df : Df} {x : Str} {st : Stmt} {N ps : List Str} {f : Addr} {fd : FuncData} (h : DfAt T x st N ps f fd) (hp : Pg i = some df) (hn : df.names = N.length) (hm : df.modes.length = ps.length)
    (hb : ∀ (f : Addr) (cdv : Value) (A : Around) (outer : List PySem.Env) (s : Shared) (H : Hp) (E : XK), CB T k (asDef T N x (defScope st) f cdv A outer s H E) → DSs T (Cq Pg fuel k) (asDef T N x (defScope st) f cdv A outer s H E) (defBody st) df.body) :
    FnG T (k + 1) f fd ps (spD T df.modes (callD Pg fuel (k + 1) i)) := by
  obtain ⟨oc, od, kV, doc, pm, an, cdv, ct, osl, rfl, lk, hcd⟩ := h.ex
  exact fn_def lk hcd h.sc hp hn hm fun cdv A outer s H E w => hb f cdv A outer s H E w
theorem cal_step {T : Tb} {Pg : Nat → Option Df} {fuel k i : Nat} {df : Df} {x : Str} {st : Stmt} {N ps : List Str} {f : Addr} {fd : FuncData} (h : DfAt T x st N ps f fd) (hp : Pg i = some df) (hn : df.names = N.length) (hm : df.modes.length = ps.length)
    (hb : ∀ (f : Addr) (cdv : Value) (A : Around) (outer : List PySem.Env) (s : Shared) (H : Hp) (E : XK), CB T k (asDef T N x (defScope st) f cdv A outer s H E) → DSs T (Cq Pg fuel k) (asDef T N x (defScope st) f cdv A outer s H E) (defBody st) df.body) :
    Cal T (k + 1) x df.modes (callD Pg fuel (k + 1) i) := ⟨f, fd, ps, h.mg, h.kp, h.bn, fng_step h hp hn hm hb⟩
/-- a def by what the top wrote -/
structure DfQ (K : PySem.W.Frag) (x : Str) (st : Stmt) (ps : List Str) (f : Addr) (fd : FuncData) : Prop where
  ex : ∃ (oc : Value) (od : Option Addr) (kV doc pm : Value) (an : Option Addr) (cdv ct : Value) (osl : Array (Option Value)),
    fd = PySem.W.fnOf x x (defArgs st) (defBody st) (defScope st) .none kV doc pm an cdv ct ∧ K.lookup f = some ⟨oc, od, .func fd, osl⟩ ∧ PySem.W.codeIn K cdv x = true
  ns : PySem.W.nsIn K mainGlobals x = some (some (.ref f))
  kp : PySem.W.keepIn K (.ref f) = true
  bn : ∀ us : List Value, us.length = ps.length → bindArgs fd ⟨us, []⟩ = pure (ps.zip us)
theorem dfq_mk {K : PySem.W.Frag} {x : Str} {st : Stmt} {ps : List Str} {f : Addr} {oc : Value} {od : Option Addr} {kV doc pm cdv ct : Value} {an : Option Addr} {osl : Array (Option Value)}
    (b : ∀ (kV doc pm : Value) (an : Option Addr) (cdv ct : Value) (us : List Value), us.length = ps.length → bindArgs (PySem.W.fnOf x x (defArgs st) (defBody st) (defScope st) .none kV doc pm an cdv ct) ⟨us, []⟩ = pure (ps.zip us))
    (a : PySem.W.nsIn K mainGlobals x = some (some (.ref f))) (l : K.lookup f = some ⟨oc, od, .func (PySem.W.fnOf x x (defArgs st) (defBody st) (defScope st) .none kV doc pm an cdv ct), osl⟩) (c : PySem.W.codeIn K cdv x = true) (k : PySem.W.keepIn K (.ref f) = true) :
    ∃ fd, DfQ K x st ps f fd := ⟨_, ⟨oc, od, kV, doc, pm, an, cdv, ct, osl, rfl, l, c⟩, a, k, b kV doc pm an cdv ct⟩
theorem DfQ.at {K : PySem.W.Frag} {x : Str} {st : Stmt} {N ps : List Str} {f : Addr} {fd : FuncData} {P : Program} {w : World} {mg : Str → Option Value} {h bs : Heap} (q : DfQ K x st ps f fd) (sc : FnScope N ps (defScope st)) (inK : K.In h) (G : h.Ns mainGlobals mg) :
    DfAt ⟨P, w, K, mg, bs, fun _ => 0⟩ x st N ps f fd := ⟨q.ex, sc, PySem.W.mg_of inK G q.ns, q.kp, Binds.all q.bn⟩
section
variable {T : Tb} {C : Cf} {X : Cx} {k : Nat} {pos p : Pos} {a : PySem.Expr} {x : Str}
/-- f(..) -/
theorem e_fn {g : Nat} {ms : List Bool} {es : List PySem.Expr} {es' : List E} (w : CB T k X) (h : Cal T k x ms (C.call g)) (hms : C.modes g = some ms) (ha : DA T C X (a :: es) es') (hg : Gl X x := by rfl) (hs : notStar a = true := by rfl) (hss : es.all notStar = true := by rfl) (hdb : (x == ("__debug__" : Str)) = false := by decide) :
    DE T C X (.Call (.Name x p) (a :: es) [] pos) (.call g es' [] []) := by
  obtain ⟨f, fd, ps, h1, h2, h3, h4⟩ := h
  exact e_def w hms h4 h1 h2 h3 .nil (fun P => .nil) ha hg hs hss hdb
/-- a name of the module that stands for an int -/
theorem e_gint {i : Int} (h : ∃ t, X.mg x = some (.int i t)) (hg : Gl X x := by rfl) (hd : (x == ("__debug__" : Str)) = false := by decide) : DE T C X (.Name x pos) (.con (.int i)) := by
  obtain ⟨t, h⟩ := h
  exact e_glob h (v := .int i) ⟨t, rfl⟩ (fun _ => by simp only [Rep]) hg hd
end
/-! ### the head -/
abbrev tbOf (P : Program) (w : World) (K : PySem.W.Frag) (mg : Str → Option Value) (bs : Heap) : Tb := ⟨P, w, K, mg, bs, fun _ => 0⟩
/-- a call of the law at the heap behind the top -/
theorem head_call {P : Program} {w : World} {K : PySem.W.Frag} {mg mb : Str → Option Value} {k : Nat} {fa a : Addr} {fd : FuncData} {x : Str} {c : List D → CR} {s1 : Shared} {us : List Value} {ns : List Int}
    (inK : K.In s1.heap) (nsM : s1.heap.Ns mainGlobals mg) (nsB : s1.heap.Ns builtinsNs mb) (boot : ∀ y : Str, y ≠ "__name__" → mb y = bootBuiltins y) (nol : s1.heap.NoLimit) (gn : s1.gens = #[])
    (hob : s1.heap.get? a = some { cls := .type "list", data := .seq us.toArray }) (hin : IntsAre us ns) (hlen : ns.length ≤ sizeLine) (rm : Room k callerA)
    (F : ∀ bs : Heap, K.In bs → bs.Ns mainGlobals mg → FnG (tbOf P w K mg bs) k fa fd [x] (spD (tbOf P w K mg bs) [false] c)) (hbd : ∀ (s : Shared) (u : Value), BindsTo s fd ⟨[u], []⟩ [(x, u)])
    (ans : c [.scr ns] = .ok (.sh (.bl true)) []) :
    codeAny (model P w) callerA (.call (.ref fa) ⟨[.ref a], []⟩) (fun r s2 => r = .ok (.ret (.bool true)) ∧ OldK s1.heap s2.heap ∧ s2.os = s1.os ∧ AllBare s2.gens) s1 := by
  have vv : Vals (ns.map V.int) us := vals_ints hin
  have nn := hin.length
  have main : ∀ H : Hp, Only H → SqL K H a (ns.map V.int) → HOk P w H s1.heap → (∀ b, H b ≠ none → b = a) → (H a ≠ none → K.lookup a = none) →
      codeAny (model P w) callerA (.call (.ref fa) ⟨[.ref a], []⟩) (fun r s2 => r = .ok (.ret (.bool true)) ∧ OldK s1.heap s2.heap ∧ s2.os = s1.os ∧ AllBare s2.gens) s1 := by
    intro H one sq ok at1 notK
    have notA : ∀ {b : Addr} {o : Obj} {es : Array DictEntry} {ep : Nat}, s1.heap.get? b = some o → o.data = .dict es ep → H b = none := fun {b o es ep} g1 g2 => by
      cases hb : H b with
      | none => rfl
      | some u =>
        have z : b = a := at1 b (by rw [hb]; simp)
        rw [z, hob] at g1
        cases g1
        cases (show Data.seq us.toArray _ = Data.dict es ep from g2)
    have keepNs : ∀ {b : Addr} {m : Str → Option Value}, s1.heap.Ns b m → (hidT s1.heap H).Ns b m := fun {b m} ⟨o, es, ep, g1, g2, g3⟩ => ⟨o, es, ep, hidT_get g1 (notA g1 g2), g2, g3⟩
    have inK2 : K.In (hidT s1.heap H) := fun b o g => hidT_get (inK b o g) (by
      cases hb : H b with
      | none => rfl
      | some u =>
        have z : b = a := at1 b (by rw [hb]; simp)
        subst z
        rw [notK (by rw [hb]; simp)] at g
        cases g)
    have md : Mod K mg (hidT s1.heap H) := ⟨inK2, keepNs nsM, ⟨mb, keepNs nsB, boot⟩, nol.elim fun mc z => ⟨mc, keepNs z.1, z.2⟩⟩
    have en : Env0 P w K mg (hidT s1.heap H) callerA [] s1 H := ⟨rfl, md, fun b o g => of_hidT g, Nat.le_of_eq (hidT_size _ _), trivial, fun b z => (by cases z), ok, .of_eq gn⟩
    have sp : spD (tbOf P w K mg (hidT s1.heap H)) [false] c [.ref a] H (fun v _ => v = .bl true) (fun _ _ _ => False) :=
      ⟨H, [.scr ns], .refl H, ⟨.ref a, [], rfl, by simp only [Rep]; exact ⟨a, rfl, sq⟩, rfl⟩, by
        rw [ans]
        intro u P' H' _ rv
        have rv' : Rep (tbOf P w K mg (hidT s1.heap H)) P' (.bl true) u := rv
        simpa only [Rep] using rv'⟩
    refine codeAny_mono ((F _ inK2 (keepNs nsM)).run callerA [] s1 H ⟨[.ref a], []⟩ [.ref a] [.ref a] _ _ rm rfl en (hbd s1 (.ref a)) (.cons rfl .nil) sp) fun r s2 h => ?_
    match r, h with
    | .error _, h => exact h.elim
    | .ok .next, h => exact h.elim
    | .ok .brk, h => exact h.elim
    | .ok .cont, h => exact h.elim
    | .ok (.ret u), h =>
      obtain ⟨v, H2, eo, bare, un, ok2, rl, ev⟩ := h
      have ev : v = .bl true := ev
      subst ev
      have eu : u = Value.bool true := rl
      subst eu
      refine ⟨rfl, OldK.of_keep fun b o g => ?_, eo, bare⟩
      cases hb : H b with
      | none => exact un.keep b o g hb (fun z => by cases z) (by simp)
      | some u =>
        rcases one b with z | ⟨ob, xs, z⟩
        · rw [hb] at z; cases z
        · obtain ⟨q1, _⟩ := ok b _ z
          obtain ⟨q2, _⟩ := ok2 b _ (un.frzs b ob _ z)
          rw [g] at q1
          cases q1
          exact q2
  cases hk : K.lookup a with
  | some o =>
    have g := inK a o hk
    rw [hob] at g
    cases g
    refine main (fun _ => none) (fun _ => .inl rfl) (.inr ⟨_, us.toArray, _, hk, rfl, rfl, rfl, ?_, by simpa using vv⟩) (fun b u z => by cases z) (fun b z => absurd rfl z) fun z => absurd rfl z
    rw [List.size_toArray, nn]
    exact hlen
  | none =>
    refine main (fun b => if b = a then some (.frz { cls := .type "list", data := .seq us.toArray } (.lst (ns.map V.int))) else none) (fun b => ?_) (.inl (.inr ⟨_, if_pos rfl⟩)) (fun b u z => ?_) (fun b z => ?_) fun _ => hk
    · by_cases e : b = a
      · exact .inr ⟨_, _, if_pos e⟩
      · exact .inl (if_neg e)
    · by_cases e : b = a
      · cases (if_pos e).symm.trans z
        subst e
        exact ⟨hob, by rw [List.length_map]; exact hlen, us, _, vv, hob⟩
      · cases (if_neg e).symm.trans z
    · exact Classical.byContradiction fun e => z (if_neg e)
/-- what k_head leaves of a law row -/
theorem head_of {l : PySem.W.OpenLaw} {n k : Nat} {q : Program} {loose : List Str} {XP : (Str → Option Value) → Heap → Prop} {YP : World → Heap → Prop} {d : DefRec} {K : Params → PySem.W.Frag} {c : List D → CR} {x : Str}
    (hn : l.most = some n) (hn2 : n ≤ sizeLine) (hdf : d.params.defaults = []) (rm : Room k callerA) (hY : ∀ (w : World) (h : Heap), YP w h → (K w.params).In h)
    (F : ∀ (w : World) (mg : Str → Option Value) (fa : Addr) (h : Heap), (K w.params).In h → h.Ns mainGlobals mg → mg d.name = some (.ref fa) →
      ∃ fd : FuncData, (∀ (s : Shared) (u : Value), BindsTo s fd ⟨[u], []⟩ [(x, u)]) ∧
        ∀ bs : Heap, (K w.params).In bs → bs.Ns mainGlobals mg → FnG (tbOf l.prog w (K w.params) mg bs) k fa fd [x] (spD (tbOf l.prog w (K w.params) mg bs) [false] c))
    (ans : ∀ ns : List Int, ns.length ≤ n → c [.scr ns] = .ok (.sh (.bl true)) []) :
    PySem.W.WalkO q loose XP YP l.row.toRowW d [] (fun f vs => PySem.call f vs) := by
  refine Att.attach_call hn hdf fun w s₀ s1 mg mb fa o pm cd doc a us ns G Y ho hd hcd hmg hob hin hlen gn => ?_
  obtain ⟨fd, hbd, hF⟩ := F w mg fa _ (hY w _ Y) G.T.g hmg
  exact head_call (hY w _ Y) G.T.g G.T.b G.T.builtins G.T.nolimit gn hob hin (Nat.le_trans hlen hn2) rm hF hbd (ans ns hlen)
end Z
/-! ZY: calls of defs by the parameters' names. -/
namespace Z
open PySem PySem.Spec L2
open PyProof.Rows hiding St
/-- items in the order of the parameters -/
def pmL {A : Type} (is : List Nat) (l : List A) : List A := is.filterMap fun i => l[i]?
theorem vals_get : ∀ {vs : List V} {us : List Value} (i : Nat), Vals vs us → (∃ v u, vs[i]? = some v ∧ us[i]? = some u ∧ RelV v u) ∨ (vs[i]? = none ∧ us[i]? = none)
  | [], [], _, _ => .inr ⟨rfl, rfl⟩
  | v :: vs, u :: us, 0, .cons h _ => .inl ⟨v, u, rfl, rfl, h⟩
  | v :: vs, u :: us, i + 1, .cons _ h => vals_get i h
theorem pm_vals {vs : List V} {us : List Value} (h : Vals vs us) : ∀ is : List Nat, Vals (pmL is vs) (pmL is us)
  | [] => .nil
  | i :: is => by
    rcases vals_get i h with ⟨v, u, e1, e2, r⟩ | ⟨e1, e2⟩
    · unfold pmL
      rw [List.filterMap_cons_some e1, List.filterMap_cons_some e2]
      exact .cons r (pm_vals h is)
    · unfold pmL
      rw [List.filterMap_cons_none e1, List.filterMap_cons_none e2]
      exact pm_vals h is
section
variable {T : Tb} {W : WX} {X : Cx} {k : Nat} {f : Addr} {fd : FuncData} {ps ks : List Str} {is : List Nat} {x : Str} {σ : St} {P : Hp}
theorem rbs_get : ∀ {ys : List (Nat ⊕ D)} {us : List V} {i : Nat} {a : Nat ⊕ D}, RBs T σ P ys us → ys[i]? = some a → ∃ u, us[i]? = some u ∧ RB T σ P a u
  | [], _, _, _, _, e => by cases e
  | y :: ys, _, 0, a, h, e => by
    obtain ⟨u, t, rfl, h1, _⟩ := h
    cases e
    exact ⟨u, rfl, h1⟩
  | y :: ys, _, i + 1, a, h, e => by
    obtain ⟨u, t, rfl, _, h⟩ := h
    exact rbs_get (i := i) h e
theorem rbs_len : ∀ {ys : List (Nat ⊕ D)} {us : List V}, RBs T σ P ys us → us.length = ys.length
  | [], _, h => by cases h; rfl
  | y :: ys, _, h => by
    obtain ⟨u, t, rfl, _, h⟩ := h
    exact congrArg (· + 1) (rbs_len h)
theorem pm_rbs {ys : List (Nat ⊕ D)} {us : List V} (h : RBs T σ P ys us) : ∀ {is : List Nat} {xs : List (Nat ⊕ D)}, permL ys is = some xs → RBs T σ P xs (pmL is us)
  | [], _, e => by cases e; rfl
  | i :: is, xs, e => by
    simp only [permL] at e
    cases c : ys[i]? with
    | none => rw [c] at e; cases e
    | some a =>
      rw [c] at e
      cases c2 : permL ys is with
      | none => rw [c2] at e; cases e
      | some xs' =>
        rw [c2] at e; cases e
        obtain ⟨u, e1, r⟩ := rbs_get h c
        unfold pmL
        rw [List.filterMap_cons_some e1]
        exact ⟨u, _, rfl, r, pm_rbs h c2⟩
theorem pkImp {kws : List Keyword} {t t' : TA} (h : PK X kws t) (i : ∀ σ H Q, t' σ H Q → t σ H Q) : PK X kws t' := ⟨fun pos pins s σ H Q I q => h.run pos pins s σ H Q I (i _ _ _ q)⟩
theorem dk_nil {C : Cf} : PK X [] (tA T W (evA C [])) := pkImp pk_nil fun σ H Q ⟨P, r, rs, go⟩ => by
  simp only [evA] at go
  exact go [] P H (.refl rs) rfl
theorem dk_cons {nm : Option Str} {kpos : Pos} {e : PySem.Expr} {kws : List Keyword} {fa : En → R (Nat ⊕ D)} {g : En → R (List (Nat ⊕ D))} (ha : PE X e (tB T W fa)) (hb : PK X kws (tA T W g)) :
    PK X (⟨nm, e, kpos⟩ :: kws) (tA T W fun r => (fa r).bind fun x r1 => (g r1).bind fun xs r2 => .ok (x :: xs) r2) := by
  refine pkImp (pk_cons ha hb) fun σ H Q ⟨P, r, rs, go⟩ => ⟨P, r, rs, (Go.bind (anti_Bs T σ) go).mono fun u H1 ⟨P1, r1, x, a1, q1, e1, go1⟩ => ⟨P1, r1, a1.rs, (Go.bind (anti_Bs T σ) go1).mono fun us H2 ⟨P2, r2, xs, a2, q2, e2, go2⟩ => ?_⟩⟩
  exact go2 (u :: us) P2 H2 (.refl a2.rs) ⟨u, us, rfl, q1.ext a2.st.pp, q2⟩
/-- how names bind -/
def KwB (fd : FuncData) (ps ks : List Str) (is : List Nat) : Prop := ∀ ws : List Value, ws.length = ks.length → bindArgs fd ⟨[], ks.zip ws⟩ = pure (ps.zip (pmL is ws))
def tDefK (T : Tb) (ms : List Bool) (c : List D → CR) (m : Nat) (is : List Nat) (t : TA) : TE := fun σ H Q => t σ H fun vs H1 => vs.length = m ∧ spD T ms c (pmL is vs) H1 Q (fun _ _ _ => False)
theorem run_fnGK {sp : Sp} {pins : List (Addr × Obj)} {s : Shared} {H : Hp} {ws : List Value} {zs : List V} {Q : VK} (ck : CB T k X) (F : FnG T k f fd ps sp) (hb : KwB fd ps ks is)
    (I : Inv X pins σ H s) (r : Vals zs ws) (l : zs.length = ks.length) (h : sp (pmL is zs) H Q (fun _ _ _ => False)) : wpAny (model X.prog X.w) X.A (call (.ref f) [] (ks.zip ws)) (EP X pins σ Q) X.xe s := by
  have r2 := pm_vals r is
  have e0 : Env0 T.P T.w T.K T.mg T.base X.A X.stack s H := by
    rw [← ck.eP, ← ck.ew, ← ck.eK, ← ck.emg, ← ck.ebase]; exact I.env0
  have run := F.run X.A X.stack s H ⟨[], ks.zip ws⟩ (pmL is ws) (pmL is zs) Q (fun _ _ _ => False) ck.room ck.grd e0 (.of_eq (hb ws (r.length.symm.trans l))) r2 h
  rw [ck.eP, ck.ew]
  refine wpAny_call (codeAny_mono run fun r s' hq => ?_)
  cases r with
  | error e => exact False.elim hq
  | ok fl =>
    cases fl with
    | ret u => exact I.after (by rw [ck.eP, ck.ew]; exact hq)
    | next => exact False.elim hq
    | brk => exact False.elim hq
    | cont => exact False.elim hq
theorem pe_defK {ms : List Bool} {c : List D → CR} {kws : List Keyword} {p pos : Pos} {t : TA} (ck : CB T k X) (F : FnG T k f fd ps (spD T ms c)) (hg : Gl X x) (hm : T.mg x = some (.ref f)) (hk : PySem.W.keepIn T.K (.ref f) = true) (hb : KwB fd ps ks is) (hkw : PK X kws t)
    (hall : (backToKw pos (keywordEach kws X.env)).all (·.1.isSome) = true) (hks : (backToKw pos (keywordEach kws X.env)).filterMap (·.1) = ks) (hdb : (x == ("__debug__" : Str)) = false)
    (hpl : ((backTo pos (starEach [] X.env)).any (·.1) || (backToKw pos (keywordEach kws X.env)).any (·.1.isNone)) = false) :
    PE X (.Call (.Name x p) [] kws pos) (tDefK T ms c ks.length is t) := by
  refine ⟨fun pins s σ H Q I h => ?_⟩
  refine wpAny_Call_Name_kw (ld_glob I hg (by rw [ck.emg]; exact hm) ?_ hdb)
  refine PySem.W.callWith_KW0 (h₀ := X.base) I.ok.mod.kin (by rw [ck.eK]; exact hk) hall ?_ hpl
  refine thn (hkw.run pos pins s σ H _ I h) fun ws s2 ⟨zs, H2, I2, rz, l2, q2⟩ => ⟨I2.kIn, ?_⟩
  rw [hks]
  exact run_fnGK ck F hb I2 rz l2 q2
theorem de_defK {ms : List Bool} {c : List D → CR} {m : Nat} {e : PySem.Expr} {fs : En → R (List (Nat ⊕ D))} (h : PE X e (tDefK T ms c m is (tA T WF fs))) :
    PE X e (tE T WF fun r => (fs r).bind fun ys r1 => if ys.length = m then (match permL ys is with | some xs => callR ms c xs r1 | none => .bad) else .bad) := peImp h fun σ H Q ⟨P, r, rs, go⟩ =>
  ⟨P, r, rs, (Go.bind (anti_V T) go).mono fun us H1 ⟨P1, r1, ys, a, q, e, g⟩ => by
    by_cases hl : ys.length = m
    · rw [if_pos hl] at g
      cases c2 : permL ys is with
      | none => rw [c2] at g; exact g.elim
      | some xs =>
        rw [c2] at g
        exact ⟨(rbs_len q).trans hl, goC_of a.rs (pm_rbs q c2) g⟩
    · rw [if_neg hl] at g; exact g.elim⟩
end
/-- a name that may be called by names -/
def CalK (T : Tb) (k : Nat) (x : Str) (ms : List Bool) (ks : List Str) (is : List Nat) (c : List D → CR) : Prop :=
  ∃ (f : Addr) (fd : FuncData) (ps : List Str), T.mg x = some (.ref f) ∧ PySem.W.keepIn T.K (.ref f) = true ∧ KwB fd ps ks is ∧ FnG T k f fd ps (spD T ms c)
abbrev BK (x : Str) (st : Stmt) (ps ks : List Str) (is : List Nat) : Prop := ∀ (kV doc pm : Value) (an : Option Addr) (cdv ct : Value) (ws : List Value), ws.length = ks.length → bindArgs (PySem.W.fnOf x x (defArgs st) (defBody st) (defScope st) .none kV doc pm an cdv ct) ⟨[], ks.zip ws⟩ = pure (ps.zip (pmL is ws))
theorem kwb_of {T : Tb} {x : Str} {st : Stmt} {N ps ks : List Str} {is : List Nat} {f : Addr} {fd : FuncData} (h : DfAt T x st N ps f fd) (b : BK x st ps ks is) : KwB fd ps ks is := by
  obtain ⟨oc, od, kV, doc, pm, an, cdv, ct, osl, rfl, _, _⟩ := h.ex
  exact b kV doc pm an cdv ct
theorem calK_zero {T : Tb} {Pg : Nat → Option Df} {fuel i : Nat} {ms : List Bool} {x : Str} {st : Stmt} {N ps ks : List Str} {is : List Nat} {f : Addr} {fd : FuncData} (h : DfAt T x st N ps f fd) (b : BK x st ps ks is) : CalK T 0 x ms ks is (callD Pg fuel 0 i) := by
  refine ⟨f, fd, ps, h.mg, h.kp, kwb_of h b, ⟨fun vs H Q E q => ?_, fun A outer s H args us vs Q E _ _ _ _ _ q => ?_⟩⟩
  · obtain ⟨P, ds, _, _, z⟩ := q
    exact z.elim
  · obtain ⟨P, ds, _, _, z⟩ := q
    exact z.elim
theorem calK_step {T : Tb} {Pg : Nat → Option Df} {fuel k i : Nat} {df : Df} {x : Str} {st : Stmt} {N ps ks : List Str} {is : List Nat} {f : Addr} {fd : FuncData} (h : DfAt T x st N ps f fd) (b : BK x st ps ks is) (hp : Pg i = some df) (hn : df.names = N.length) (hm : df.modes.length = ps.length)
    (hb : ∀ (f : Addr) (cdv : Value) (A : Around) (outer : List PySem.Env) (s : Shared) (H : Hp) (E : XK), CB T k (asDef T N x (defScope st) f cdv A outer s H E) → DSs T (Cq Pg fuel k) (asDef T N x (defScope st) f cdv A outer s H E) (defBody st) df.body) :
    CalK T (k + 1) x df.modes ks is (callD Pg fuel (k + 1) i) := ⟨f, fd, ps, h.mg, h.kp, kwb_of h b, fng_step h hp hn hm hb⟩
section
variable {T : Tb} {C : Cf} {X : Cx} {k : Nat} {pos p : Pos} {x : Str}
abbrev DK (T : Tb) (C : Cf) (X : Cx) (kws : List Keyword) (es : List E) : Prop := PK X kws (tA T WF (evA C es))
theorem k_nil : DK T C X [] [] := dk_nil
theorem k_cons {nm : Option Str} {kpos : Pos} {e : PySem.Expr} {e' : E} {kws : List Keyword} {es' : List E} (ha : DB T C X e e') (hb : DK T C X kws es') : DK T C X (⟨nm, e, kpos⟩ :: kws) (e' :: es') := by
  show PK X _ (tA T WF (evA C (e' :: es')))
  rw [show evA C (e' :: es') = fun r => (bor e' (fun r => ev C e' r) r).bind fun x r1 => (evA C es' r1).bind fun xs r2 => .ok (x :: xs) r2 from by funext r; simp only [evA]]
  exact dk_cons ha hb
theorem evA_len {C : Cf} : ∀ (es : List E) {r r1 : En} {ys : List (Nat ⊕ D)}, evA C es r = .ok ys r1 → ys.length = es.length
  | [], r, r1, ys, h => by
    simp only [evA] at h
    cases h
    rfl
  | e :: es, r, r1, ys, h => by
    simp only [evA] at h
    cases c : bor e (fun r => ev C e r) r with
    | ok v r2 =>
      rw [c, R.bind_ok] at h
      cases c2 : evA C es r2 with
      | ok vs r3 =>
        rw [c2, R.bind_ok] at h
        cases h
        exact congrArg (· + 1) (evA_len es c2)
      | exc _ _ _ => rw [c2, R.bind_exc] at h; cases h
      | bad => rw [c2, R.bind_bad] at h; cases h
    | exc _ _ _ => rw [c, R.bind_exc] at h; cases h
    | bad => rw [c, R.bind_bad] at h; cases h
/-- f(x = .., ..) -/
theorem e_fnK {g : Nat} {ms : List Bool} {kws : List Keyword} {es' : List E} {ks : List Str} {is : List Nat} (w : CB T k X) (h : CalK T k x ms ks is (C.call g)) (hms : C.modes g = some ms) (ha : DK T C X kws es') (hl : es'.length = ks.length := by rfl) (hi : is.isEmpty = false := by rfl) (hg : Gl X x := by rfl)
    (hall : (backToKw pos (keywordEach kws X.env)).all (·.1.isSome) = true := by rfl) (hks : (backToKw pos (keywordEach kws X.env)).filterMap (·.1) = ks := by rfl) (hdb : (x == ("__debug__" : Str)) = false := by decide)
    (hpl : ((backTo pos (starEach [] X.env)).any (·.1) || (backToKw pos (keywordEach kws X.env)).any (·.1.isNone)) = false := by rfl) :
    DE T C X (.Call (.Name x p) [] kws pos) (.call g es' is []) := by
  obtain ⟨f, fd, ps, h1, h2, h3, h4⟩ := h
  refine eqE (de_defK (pe_defK w h4 hg h1 h2 h3 ha hall hks hdb hpl)) fun r => ?_
  simp only [ev]
  cases c : evA C es' r with
  | ok ys r1 =>
    rw [R.bind_ok, R.bind_ok, if_pos (by rw [evA_len es' c]; exact hl), hms]
    simp only [List.map_nil, List.append_nil, permO, hi, Bool.false_eq_true, if_false]
    cases permL ys is <;> rfl
  | exc _ _ _ => rfl
  | bad => rfl
end
/-! ### a chain of two comparisons -/
section
variable {X : Cx} {T : Tb} {W : WX} {fa fb fc : En → R (Nat ⊕ D)} {a b c : PySem.Expr} {pos : Pos} {op op' : CmpOp}
theorem de_chn (ho : OpR X (compareOp op) (rD2 T W fun u v => boolV (cmpD op u v))) (ho' : OpR X (compareOp op') (rD2 T W fun u v => boolV (cmpD op' u v))) (ha : PE X a (tB T W fa)) (hb : PE X b (tB T W fb)) (hc : PE X c (tB T W fc)) (hm : lastMarks [op, op'] [b, c] = false) :
    PE X (.Compare a [op, op'] [b, c] pos) (tE T W fun r => (fa r).bind fun x r1 => (fb r1).bind fun y r2 => (op2 (fun u v => boolV (cmpD op u v)) x y r2).bind fun q r3 => match q.d with
      | .bl true => (fc r3).bind fun z r4 => op2 (fun u v => boolV (cmpD op' u v)) y z r4
      | .bl false => .ok (.sh (.bl false)) r3
      | _ => .bad) := by
  refine peImp (pe_chain ho ho' ha hb hc hm) fun σ H Q ⟨P, r, rs, go⟩ => ⟨P, r, rs, (Go.bind (anti_V T) go).mono fun u H1 ⟨P1, r1, x, a1, q1, e1, go1⟩ => ⟨P1, r1, a1.rs, (Go.bind (anti_V T) go1).mono fun v H2 ⟨P2, r2, y, a2, q2, e2, go2⟩ => ?_⟩⟩
  have go3 := Go.bind (rel := relV T) (anti_V T) go2
  cases c : res r2 [x, y] with
  | none =>
    have e : op2 (fun u v => boolV (cmpD op u v)) x y r2 = .bad := by unfold op2; rw [c]; rfl
    rw [e] at go3; exact go3.elim
  | some l =>
    obtain ⟨a, b, rfl, h1, h2⟩ := res2 a2.rs (rb2 q1 a2.st.pp q2) c
    cases c2 : cmpD op a b with
    | none =>
      have e : op2 (fun u v => boolV (cmpD op u v)) x y r2 = .bad := by unfold op2; rw [c]; dsimp only; rw [c2]; rfl
      rw [e] at go3; exact go3.elim
    | some k =>
      have e : op2 (fun u v => boolV (cmpD op u v)) x y r2 = .ok (.sh (.bl k)) r2 := by unfold op2; rw [c]; dsimp only; rw [c2]; rfl
      rw [e] at go3
      refine ⟨a, b, .sh (.bl k), σ, P2, r2, a2.rs, h1, h2, by show boolV (cmpD op a b) = _; rw [c2]; rfl, Go.mono go3 fun u3 H3 ⟨P3, r3, q, a3, rv, e3, go4⟩ => ?_⟩
      cases e3
      have eu : u3 = .bl k := by
        have rv : Rep T P3 (.bl k) u3 := rv
        simpa only [Rep] using rv
      refine ⟨k, eu, ?_⟩
      cases k with
      | false =>
        rw [if_neg Bool.false_ne_true]
        exact go4 _ P3 H3 (.refl a3.rs) (by show Rep T P3 (.bl false) _; simp only [Rep])
      | true =>
        rw [if_pos rfl]
        refine ⟨P3, r2, a3.rs, (Go.bind (anti_V T) go4).mono fun w H4 ⟨P4, r4, z, a4, q4, e4, go5⟩ => ?_⟩
        unfold op2 at go5
        cases c3 : res r4 [y, z] with
        | none => rw [c3] at go5; exact go5.elim
        | some l =>
          obtain ⟨a', b', rfl, h1', h2'⟩ := res2 a4.rs (rb2 (q2.ext a3.st.pp) a4.st.pp q4) c3
          rw [c3] at go5
          dsimp only at go5
          cases c4 : boolV (cmpD op' a' b') with
          | none => rw [c4] at go5; exact go5.elim
          | some w' => rw [c4] at go5; exact ⟨a', b', w', σ, P4, r4, a4.rs, h1', h2', c4, go5⟩
end
section
variable {T : Tb} {C : Cf} {X : Cx} {k : Nat} {pos : Pos} {a b c : PySem.Expr} {a' b' c' : E} {op op' : CmpOp}
theorem e_chn (w : CB T k X) (ha : DB T C X a a') (hb : DB T C X b b') (hc : DB T C X c c') (hm : lastMarks [op, op'] [b, c] = false := by with_unfolding_all rfl) : DE T C X (.Compare a [op, op'] [b, c] pos) (.chn op op' a' b' c') :=
  eqE (de_chn (op_cmpD w.eK w.room.units op) (op_cmpD w.eK w.room.units op') ha hb hc hm) fun r => by simp only [ev] <;> rfl
end
/-! ### a new thing handed over to be changed -/
section
variable {T : Tb} {W : WX} {X : Cx} {k : Nat} {f : Addr} {fd : FuncData} {ps : List Str} {x : Str}
/-- arguments that are not changed -/
theorem args_plain {σ : St} {P H : Hp} {r : En} {Pf : Hp} (ex : Ext P Pf) : ∀ {ms : List Bool} {xs : List (Nat ⊕ D)} {us : List V} {ds : List D}, RBs T σ P xs us → res r xs = some ds → ms.all (fun b => !b) = true → ms.length = xs.length →
    (∀ (i : Nat) (d : D), i ∈ plains ms xs → r.rd i = some d → ∃ u, σ[i]? = some (some u) ∧ Rep T Pf d u) → RArgs T Pf H ms ds us ∧ ioA ms us = []
  | [], [], us, ds, h, e, _, _, _ => by
    cases e; cases h
    exact ⟨rfl, rfl⟩
  | [], _ :: _, _, _, _, _, _, l, _ => by cases l
  | _ :: _, [], _, _, _, _, _, l, _ => by cases l
  | true :: ms, _ :: _, _, _, _, _, m, _, _ => by simp at m
  | false :: ms, .inr d :: xs, us, ds, h, e, m, l, hp => by
    obtain ⟨u, t, rfl, h1, h2⟩ := h
    simp only [res] at e
    cases c2 : res r xs with
    | none => rw [c2] at e; cases e
    | some ds' =>
      rw [c2] at e; cases e
      obtain ⟨q1, q2⟩ := args_plain ex (ms := ms) h2 c2 (by simpa using m) (by simpa using l) hp
      refine ⟨⟨u, t, rfl, Rep.ext ex _ _ h1, q1⟩, ?_⟩
      cases u <;> exact q2
  | false :: ms, .inl i :: xs, us, ds, h, e, m, l, hp => by
    obtain ⟨u, t, rfl, h1, h2⟩ := h
    simp only [res] at e
    cases c : r.rd i with
    | none => rw [c] at e; cases e
    | some d =>
      rw [c] at e
      cases c2 : res r xs with
      | none => rw [c2] at e; cases e
      | some ds' =>
        rw [c2] at e; cases e
        obtain ⟨q1, q2⟩ := args_plain ex (ms := ms) h2 c2 (by simpa using m) (by simpa using l) (fun j d' m => hp j d' (List.mem_cons_of_mem _ m))
        obtain ⟨w, e1, e2⟩ := hp i d List.mem_cons_self c
        have h1' : σ[i]? = some (some u) := h1
        rw [h1'] at e1; cases e1
        refine ⟨⟨u, t, rfl, e2, q1⟩, ?_⟩
        cases u <;> exact q2
theorem de_callN {ms : List Bool} {c : List D → CR} {e : PySem.Expr} {fe : En → R Val} {fs : En → R (List (Nat ⊕ D))} (h : PE X e (tDef T ms c [] (tCons (tE T WF fe) (tA T WF fs)))) :
    PE X e (tE T WF fun r => (fe r).bind fun v r1 => (fs r1).bind fun ys r2 => match v with | .ow d => callNR ms c d ys r2 | _ => .bad) := peImp h fun σ H Q ⟨P, r, rs, go⟩ => by
  refine ⟨P, r, rs, ?_⟩
  dsimp only at go
  cases e1 : fe r with
  | bad => rw [e1] at go; exact go.elim
  | exc _ _ _ => rw [e1] at go; exact go
  | ok v r1 =>
    rw [e1, R.bind_ok] at go
    intro u P1 H1 a1 rv
    refine ⟨P1, r1, a1.rs, ?_⟩
    cases e2 : fs r1 with
    | bad => rw [e2] at go; exact go.elim
    | exc c' d' r2 =>
      rw [e2] at go
      exact fun u' P' H' a' rp => go u' P' H' (a1.trans a') rp
    | ok ys r2 =>
      rw [e2, R.bind_ok] at go
      intro us P2 H2 a2 rb
      cases v with
      | sh d => exact go.elim
      | ow d =>
        dsimp only at go
        unfold callNR at go
        match ms with
        | [] => exact go.elim
        | false :: ms => exact go.elim
        | true :: ms =>
          dsimp only at go
          by_cases k : (ms.all (fun b => !b) && decide (ms.length = ys.length)) = true
          rotate_left
          · rw [if_neg k] at go; exact go.elim
          rw [if_pos k] at go
          simp only [Bool.and_eq_true, decide_eq_true_eq] at k
          obtain ⟨k1, k2⟩ := k
          cases ef : frzs r2 (plains ms ys) with
          | none => rw [ef] at go; exact go.elim
          | some rf =>
            cases er : res r2 ys with
            | none => rw [ef, er] at go; exact go.elim
            | some ds =>
              rw [ef, er] at go
              dsimp only at go
              obtain ⟨Pf, af, n1, g1⟩ := frz_ok a2.rs ef
              obtain ⟨a, rfl, pa, ro, ha⟩ := rv
              obtain ⟨o1, eo1⟩ := ro.some
              have own1 : ¬ Own σ r1 a := fun ⟨i, m, q⟩ => by
                obtain ⟨j, mj, qj⟩ := a1.kd.owns ⟨i, m, q⟩
                obtain ⟨d2, hd2⟩ := mj
                obtain ⟨b, s1, s2, s3⟩ := rs.own j d2 hd2
                rw [qj] at s1; cases s1
                obtain ⟨o, eo⟩ := s3.some
                rw [ha] at eo; cases eo
              have own2 : ¬ Own σ r2 a := fun z => own1 (a2.kd.owns z)
              have h2a : H2 a = some o1 := a2.st.fr a o1 eo1 own1
              have pa2 : P2 a = none := by
                cases z : P2 a with
                | none => rfl
                | some w =>
                  rcases a2.st.nw a (by rw [z]; simp) with y | y | y
                  · exact absurd pa y
                  · rw [eo1] at y; cases y
                  · exact absurd y own1
              have paf : Pf a = none := by
                cases z : Pf a with
                | none => rfl
                | some w =>
                  rcases af.st.nw a (by rw [z]; simp) with y | y | y
                  · exact absurd pa2 y
                  · rw [h2a] at y; cases y
                  · exact absurd y own2
              have ro2 : RepO T P2 H2 a d := ro.move a2.st.pp (by rw [h2a, eo1])
              have rof : RepO T Pf H2 a d := ro2.move af.st.pp rfl
              obtain ⟨ra, ia⟩ := args_plain (H := H2) af.st.pp rb er k1 k2 g1
              have ii : ioA (true :: ms) ((V.ref a :: us) ++ []) = [a] := by
                rw [List.append_nil]
                show a :: ioA ms us = _
                rw [ia]
              refine ⟨Pf, d :: ds, af.rs.sub, ⟨a, us, by rw [List.append_nil], paf, rof, ra, by rw [ia]; simp⟩, ?_⟩
              rw [ii]
              cases ec : c (d :: ds) with
              | bad => rw [ec] at go; exact go.elim
              | exc _ _ _ => rw [ec] at go; exact go.elim
              | ok q outs =>
                rw [ec] at go
                intro u' P' H' ac rv'
                have keep : ∀ b o, H2 b = some o → b ≠ a → H' b = some o := fun b o e n => ac.fr b o e (by simpa using n)
                have stc : Stp (fun b => b = a) Pf H2 P' H' := ⟨ac.pp, keep, ac.dm, fun b hb => (ac.nw b hb).elim .inl fun z => .inr (.inl z)⟩
                have sa : ∀ b, H' b = none → H b = none := fun b hb => a1.st.dm b (a2.st.dm b (af.st.dm b (ac.dm b hb)))
                have st : Stp (Own σ r) P H P' H' := ((a1.trans (a2.trans af)).st).trans stc fun b hb => by
                  subst hb
                  exact .inr ha
                have kd : Kd r rf := (a1.trans (a2.trans af)).kd
                have ownNa : ∀ i b, OwnAt rf i → σ[i]? = some (some (.ref b)) → b ≠ a := fun i b m q e => by
                  subst e
                  exact own1 (a2.kd.owns (af.kd.owns ⟨i, m, q⟩))
                have rs' : RS T P' H' σ rf := by
                  refine ⟨ac.sub, af.rs.len, fun i d' q => ?_, fun i d' q => ?_, af.rs.dis⟩
                  · obtain ⟨w, w1, w2⟩ := af.rs.sh i d' q
                    exact ⟨w, w1, Rep.ext ac.pp _ _ w2⟩
                  · obtain ⟨b, b1, b2, b3⟩ := af.rs.own i d' q
                    have nb := ownNa i b ⟨d', q⟩ b1
                    obtain ⟨o, eo⟩ := b3.some
                    refine ⟨b, b1, ?_, b3.move ac.pp (by rw [keep b o eo nb, eo])⟩
                    cases z : P' b with
                    | none => rfl
                    | some w =>
                      rcases ac.nw b (by rw [z]; simp) with y | y
                      · exact absurd b2 y
                      · rw [eo] at y; cases y
                refine go u' P' H' ⟨rs', st, kd⟩ ?_
                cases q with
                | sh d' => exact rv'
                | ow d' =>
                  obtain ⟨b, b1, b2, b3, b4⟩ := rv'
                  exact ⟨b, b1, b2, b3, a1.st.dm b (a2.st.dm b b4)⟩
end
section
variable {T : Tb} {C : Cf} {X : Cx} {k : Nat} {pos p : Pos} {a : PySem.Expr} {x : Str}
/-- f(new, ..) -/
theorem e_fnN {g : Nat} {ms : List Bool} {es : List PySem.Expr} {a' : E} {es' : List E} (w : CB T k X) (h : Cal T k x ms (C.call g)) (hms : C.modes g = some ms) (ha : DE T C X a a') (hes : DA T C X es es') (hg : Gl X x := by rfl) (hs : notStar a = true := by rfl) (hss : es.all notStar = true := by rfl) (hdb : (x == ("__debug__" : Str)) = false := by decide) :
    DE T C X (.Call (.Name x p) (a :: es) [] pos) (.callN g a' es') := by
  obtain ⟨f, fd, ps, h1, h2, h3, h4⟩ := h
  refine eqE (de_callN (fe := fun r => ev C a' r) (fs := evA C es') (pe_def w h4 hg h1 h2 h3 .nil (pa_cons ha hes (star_one hs es X.env)) hs hss hdb)) fun r => ?_
  simp only [ev]
  cases c1 : ev C a' r with
  | ok v r1 =>
    rw [R.bind_ok, R.bind_ok]
    cases c2 : evA C es' r1 with
    | ok ys r2 =>
      rw [R.bind_ok, R.bind_ok, hms]
      cases v <;> rfl
    | exc _ _ _ => rfl
    | bad => rfl
  | exc _ _ _ => rfl
  | bad => rfl
end
end Z
/-! ZZ: zip of two lists, strict=False. -/
namespace Z
open PySem PySem.Spec L2
open PyProof.Rows hiding St
open Sem (wp)
/-- the keyword strict=False -/
def lkw : List (Str × Value) := [("strict", .bool false)]
theorem zf_ct (u v : Value) : checkTypeCall "zip" ⟨[u, v], lkw⟩ = pure () := by kernel_rfl
theorem zf_cn (u v : Value) : checkBuiltinCall "zip.__new__" ⟨[.type "zip", u, v], lkw⟩ = pure () := by kernel_rfl
theorem zf_ai (u v w : Value) : PySem.argsOk "object.__init__" ⟨[u, v, w], lkw⟩ := by
  unfold PySem.argsOk
  rw [signature?_of (id := "object.__init__") (n := ['_', '_', 't', 'i', 'n', 'i', '_', '_']) (o := ['t', 'c', 'e', 'j', 'b', 'o']) (by kernel_rfl) PySem.F.owner_object]
  kernel_rfl
theorem zf_new (m n : Addr) (us vs : Array Value) :
    Meets (Builtin.«zip.__new__» ⟨[.type "zip", .ref m, .ref n], lkw⟩) (fun _ R s => s.heap.IsList m us ∧ s.heap.IsList n vs ∧ R (.ok (.ret (.ref (zipH4 s.heap m n).objs.size))) { s with heap := zipH5 s.heap m n }) :=
  .of_wp fun prog w A R s q => by
    have hsub := sub_zip
    obtain ⟨h0, g0, d0, t0, o0⟩ := s
    obtain ⟨a1, a2, q⟩ := q
    have b1 : Heap.IsList (Shared.heap ⟨h0, g0, d0, t0, o0⟩) m us := a1
    have b2 : Heap.IsList (Shared.heap ⟨h0.push { cls := .type "list_iterator", data := .fields #[.ref m, .int 0 0] }, g0, d0, t0, o0⟩) n vs := Heap.IsList.push a2 _
    unfold lkw
    wp_walk using wpAny_pyIter_list b1, wpAny_pyIter_list b2
    exact ⟨_, rfl, q⟩
theorem zf_init {x : Value} {us : List Value} : Meets (Builtin.«object.__init__» ⟨x :: us, lkw⟩) (fun _ R s => s.TypeIs x "zip" ∧ R (.ok (.ret .none)) s) := by
  have hl := PySem.F.called_zip.init.lookup
  have hm := PySem.F.called_zip.made
  have hne : (some "zip.__new__" != some "object.__new__") = true := by decide
  refine Meets.of_wp fun prog w A R s hs => ?_
  obtain ⟨hT, hq⟩ := hs
  unfold lkw
  cases us with
  | nil =>
    repeat (any_goals (first | assumption | wp_step))
    exact ⟨_, rfl, hq⟩
  | cons a rest =>
    repeat (any_goals (first | assumption | wp_step))
    exact ⟨_, rfl, hq⟩
section
variable {prog : Program} {w : World} {A : Around} {E : Value → Shared → Prop} {s : Shared}
theorem zf_call {us : List Value} {S : PySem.Spec} {Q : Value → Shared → Prop} (hct : checkTypeCall "zip" ⟨us, lkw⟩ = pure ()) (hcn : checkBuiltinCall "zip.__new__" ⟨.type "zip" :: us, lkw⟩ = pure ()) (hai : ∀ x, PySem.argsOk "object.__init__" ⟨x :: us, lkw⟩)
    (g : Meets (Builtin.«zip.__new__» ⟨.type "zip" :: us, lkw⟩) S) (q : S A.in1 (wants (fun x s1 => s1.TypeIs x "zip" ∧ Q x s1) E) s) : wpAny (model prog w) A (call (.type "zip") us lkw) Q E s := by
  have ft := PySem.F.called_zip
  obtain ⟨c, tl, hmro⟩ := ft.mro
  have hmade := ft.made
  have hsub := ft.sub
  refine wpAny_call (codeAny_of_tree ?_)
  show wpAny _ _ (callAny (.type "zip") _) _ _ _
  refine wpAny_pure ⟨Code.quiet_builtin _ (by decide +kernel), codeAny_builtin PySem.F.entry_type_call ?_⟩
  rw [Around.under_plain (weight_type_call_type "zip" us lkw) (units_type_call_type "zip" us lkw)]
  have h1 := ft.notType
  have h2 := ft.canCreate
  unfold lkw at hct hcn hai g ⊢
  repeat (any_goals (first | assumption | wp_step))
  refine codeAny_mono (codeAny_call_builtin ft.plain PySem.F.entry_zip_new (wpAny_of_eq hcn (g prog w A.in1 _ s q))) fun r s1 hr => ?_
  cases r with
  | error e => exact hr
  | ok fl =>
    cases fl with
    | ret x =>
      obtain ⟨hT, hq⟩ := hr
      have hli := ft.init.lookup
      have hbi := ft.init.bind x
      repeat (any_goals (first | assumption | wp_step))
      refine codeAny_mono (codeAny_call_builtin ft.init.plain PySem.F.entry_object_init (ft.init.check _ _ _ _ _ _ _ _ hT (hai x) (zf_init (x := x) (us := us) prog w A.in1 (wants (fun r s2 => r = .none ∧ Q x s2) E) s1 ⟨hT, rfl, hq⟩))) fun r2 s2 hr2 => ?_
      cases r2 with
      | error e => exact hr2
      | ok fl2 =>
        cases fl2 with
        | ret r =>
          obtain ⟨rfl, hq⟩ := hr2
          repeat (any_goals (first | assumption | wp_step))
        | _ => exact hr2.elim
    | _ => exact hr.elim
theorem zf_make {m n : Addr} {us vs : Array Value} {Q : Value → Shared → Prop} (a1 : s.heap.IsList m us) (a2 : s.heap.IsList n vs)
    (q : ∀ h1, IsZip h1 (s.heap.objs.size + 4) (s.heap.objs.size + 2) (s.heap.objs.size + 3) .none → IsPair h1 (s.heap.objs.size + 2) (.ref s.heap.objs.size) (.ref (s.heap.objs.size + 1)) → IsPair h1 (s.heap.objs.size + 3) .none .none →
      h1.IsListIter s.heap.objs.size m 0 → h1.IsListIter (s.heap.objs.size + 1) n 0 → (∀ b o, s.heap.get? b = some o → h1.get? b = some o) → Q (.ref (s.heap.objs.size + 4)) { s with heap := h1 }) :
    wpAny (model prog w) A (call (.type "zip") [.ref m, .ref n] lkw) Q E s := by
  refine zf_call (zf_ct _ _) (zf_cn _ _) (fun x => zf_ai x _ _) (zf_new m n us vs) ⟨a1, a2, ?_⟩
  have e1 : (zipH1 s.heap m).objs.size = s.heap.objs.size + 1 := Heap.size_push ..
  have e2 : (zipH2 s.heap m n).objs.size = s.heap.objs.size + 2 := by rw [Heap.size_push, e1]
  have e3 : (zipH3 s.heap m n).objs.size = s.heap.objs.size + 3 := by rw [Heap.size_push, e2]
  have e4 : (zipH4 s.heap m n).objs.size = s.heap.objs.size + 4 := by rw [Heap.size_push, e3]
  have k1 : ∀ b o, (zipH4 s.heap m n).get? b = some o → (zipH5 s.heap m n).get? b = some o := fun b o e => Heap.get?_push_of_some _ e
  have k2 : ∀ b o, (zipH3 s.heap m n).get? b = some o → (zipH5 s.heap m n).get? b = some o := fun b o e => k1 b o (Heap.get?_push_of_some _ e)
  have k3 : ∀ b o, (zipH2 s.heap m n).get? b = some o → (zipH5 s.heap m n).get? b = some o := fun b o e => k2 b o (Heap.get?_push_of_some _ e)
  have k4 : ∀ b o, (zipH1 s.heap m).get? b = some o → (zipH5 s.heap m n).get? b = some o := fun b o e => k3 b o (Heap.get?_push_of_some _ e)
  have f5 : (zipH5 s.heap m n).get? (zipH4 s.heap m n).objs.size = some _ := Heap.get?_push_size _ rfl
  have f4 : (zipH5 s.heap m n).get? (zipH3 s.heap m n).objs.size = some _ := k1 _ _ (Heap.get?_push_size _ rfl)
  have f3 : (zipH5 s.heap m n).get? (zipH2 s.heap m n).objs.size = some _ := k2 _ _ (Heap.get?_push_size _ rfl)
  have f2 : (zipH5 s.heap m n).get? (zipH1 s.heap m).objs.size = some _ := k3 _ _ (Heap.get?_push_size _ rfl)
  have f1 : (zipH5 s.heap m n).get? s.heap.objs.size = some _ := k4 _ _ (Heap.get?_push_size _ rfl)
  show _ ∧ _
  rw [e4, e2, e3] at f5
  rw [e2, e1] at f3
  rw [e3] at f4
  rw [e1] at f2
  rw [e4]
  exact ⟨⟨_, f5, rfl⟩, q _ f5 f3 f4 ⟨_, f1, rfl, rfl⟩ ⟨_, f2, rfl, rfl⟩ fun b o e => k4 b o (Heap.get?_push_of_some _ e)⟩
end
def iZipF (K : PySem.W.Frag) (ta : TA) : TI := fun σ H R => ta σ H fun vs H1 => ∃ a b xs ys, vs = [.ref a, .ref b] ∧ SqL K H1 a xs ∧ SqL K H1 b ys ∧ R (Itz K a b) H1
theorem pi_zf {X : Cx} {e e2 v : PySem.Expr} {ta : TA} {p pos tpos kpos : Pos} {elts : List PySem.Expr} {kk : Nat} (hg : Gl X "zip") (hm : X.mg "zip" = none) (ha : PA X [e, e2] ta) (hv : PE X v (tC (.bl false))) (hs : notStar e = true) (hs2 : notStar e2 = true) :
    PI X (.Tuple elts kk tpos) (.Call (.Name "zip" p) [e, e2] [⟨some "strict", v, kpos⟩] pos) (iZipF X.K ta) := by
  refine ⟨fun pins s σ H R I h => ?_⟩
  refine wpAny_Call_Name_kw (ld_blt I hg hm PyProof.Rows.boot_zip ?_)
  refine callWith_tyK (thn (ha.run pos pins s σ H _ I h) fun us s1 ⟨vs, H1, I1, r1, q1⟩ => thn ((pk_cons (nm := some "strict") (kpos := kpos) hv pk_nil).run pos pins s1 σ H1 (fun zs H2 => zs = [.bl false] ∧ H2 = H1) I1 ⟨rfl, rfl⟩) fun ws s2 ⟨zs, H2, I2, rz, ez, eH⟩ => ?_) (.inr (by rw [star_one hs]; rfl)) (by rw [star_one hs, star_one hs2]; rfl) rfl rfl
  subst ez eH
  obtain ⟨a, b, xs, ys, ex, qx, qy, q⟩ := q1
  subst ex
  obtain ⟨u1, u2, rfl, ra, rb⟩ := r1.two
  obtain ⟨u3, rfl, rc⟩ := rz.one
  cases ra
  cases rb
  cases rc
  obtain ⟨is1, m1, p1, _⟩ := I2.list qx
  obtain ⟨is2, m2, p2, _⟩ := I2.list qy
  have la : a < s2.heap.objs.size := p1.lt
  have lb : b < s2.heap.objs.size := p2.lt
  show wpAny _ _ (call (.type "zip") [.ref a, .ref b] lkw) _ _ _
  refine zf_make p1.isList p2.isList fun h1 hz hI hO j1 j2 hk => wpAny_pyIter_zip hz ?_
  have J : Inv X pins σ H2 { s2 with heap := h1 } := I2.kept (t' := s2.toks) hk
  refine ⟨s2.heap.objs.size + 4, [s2.heap.objs.size + 4, s2.heap.objs.size + 2, s2.heap.objs.size + 3, s2.heap.objs.size, s2.heap.objs.size + 1], _, _, H2, rfl, J, turn_zip (PySem.W.ktu_apart s2.heap.objs.size a b la lb), ⟨hz, hI, ⟨_, _, hO⟩, j1, j2⟩, fun c hc => ?_, q⟩
  have le : s2.heap.objs.size ≤ c := by
    rcases mem5 hc with rfl | rfl | rfl | rfl | rfl
    all_goals first | exact Nat.le_refl _ | exact Nat.le_add_right _ _
  exact I2.fpOk le (I2.hok.fresh le)
section
variable {T : Tb} {W : WX} {X : Cx}
theorem di_zf (hK : X.K = T.K) {C : Cf} {a b v : PySem.Expr} {a' b' : E} {p pos tpos kpos : Pos} {elts : List PySem.Expr} {kk : Nat} (hg : Gl X "zip") (hm : X.mg "zip" = none) (hs : notStar a = true) (hs2 : notStar b = true) (hv : PE X v (tC (.bl false))) (ha : PA X [a, b] (tS T W (evs C [a', b']))) :
    PI X (.Tuple elts kk tpos) (.Call (.Name "zip" p) [a, b] [⟨some "strict", v, kpos⟩] pos) (tI T W (evI C (.zip false [a', b']))) := by
  refine piImp (pi_zf hg hm ha hv hs hs2) fun σ H Q ⟨P, r, rs, go⟩ => ?_
  simp only [evI] at go
  refine ⟨P, r, rs, (Go.bind (anti_I T) go).mono fun us H1 ⟨P1, r1, ds, a1, q1, e1, go1⟩ => ?_⟩
  cases c : zipD false ds with
  | none => rw [c] at go1; exact go1.elim
  | some l =>
    rw [c] at go1
    obtain ⟨x, y, xs, ys, l1, l2, rfl, g1, g2, g3, g4, rfl, le⟩ := lst_two q1 c (evs_len e1)
    refine ⟨x, y, xs, ys, rfl, .inl (.inl (a1.rs.sub _ _ g1)), .inl (.inl (a1.rs.sub _ _ g2)), ?_⟩
    rw [hK]
    exact go1 _ P1 H1 (.refl a1.rs) (wk_zip g1 g3 g2 g4)
end
section
variable {T : Tb} {C : Cf} {X : Cx} {k : Nat} {p p' pos pos' : Pos} {a b : PySem.Expr} {a' b' : E}
theorem i_zf (w : CB T k X) {es : List PySem.Expr} {j i : Nat} {q : Pos} (ha : DL T C X [a, b] [a', b']) (hm : X.mg "zip" = none) (hg : Gl X "zip" := by rfl) (hs : notStar a = true := by rfl) (hs' : notStar b = true := by rfl) :
    DI T C X (.Tuple es j p') (.Call (.Name "zip" p) [a, b] [⟨some "strict", .Constant (.bool false) i q, pos'⟩] pos) (.zip false [a', b']) := di_zf w.eK hg hm hs hs' pe_bl ha
end
/-! ### a chain as a test -/
section
variable {X : Cx} {T : Tb} {W : WX} {fa fb fc : En → R (Nat ⊕ D)} {a b c : PySem.Expr} {pos : Pos} {op op' : CmpOp}
theorem dt_chn (ho : OpR X (compareOp op) (rD2 T W fun u v => boolV (cmpD op u v))) (ho' : OpR X (compareOp op') (rD2 T W fun u v => boolV (cmpD op' u v))) (ha : PE X a (tB T W fa)) (hb : PE X b (tB T W fb)) (hc : PE X c (tB T W fc)) (hm : lastMarks [op, op'] [b, c] = false) :
    PT X (.Compare a [op, op'] [b, c] pos) (tK T W fun r => ((fa r).bind fun x r1 => (fb r1).bind fun y r2 => (op2 (fun u v => boolV (cmpD op u v)) x y r2).bind fun q r3 => match q.d with
      | .bl true => (fc r3).bind fun z r4 => op2 (fun u v => boolV (cmpD op' u v)) y z r4
      | .bl false => .ok (.sh (.bl false)) r3
      | _ => .bad).bind fun v r1 => R.of (tru v.d) r1) := by
  refine ptImp (pt_chain ho ho' ha hb hc hm) fun σ H Q ⟨P, r, rs, go⟩ => ⟨P, r, rs, ?_⟩
  dsimp only at go
  rw [bind_assoc] at go
  refine (Go.bind anti_K go).mono fun u H1 ⟨P1, r1, x, a1, q1, e1, go1⟩ => ⟨P1, r1, a1.rs, ?_⟩
  rw [bind_assoc] at go1
  refine (Go.bind anti_K go1).mono fun v H2 ⟨P2, r2, y, a2, q2, e2, go2⟩ => ?_
  rw [bind_assoc] at go2
  have go3 := Go.bind (rel := relV T) anti_K go2
  cases c : res r2 [x, y] with
  | none =>
    have e : op2 (fun u v => boolV (cmpD op u v)) x y r2 = .bad := by unfold op2; rw [c]; rfl
    rw [e] at go3; exact go3.elim
  | some l =>
    obtain ⟨a, b, rfl, h1, h2⟩ := res2 a2.rs (rb2 q1 a2.st.pp q2) c
    cases c2 : cmpD op a b with
    | none =>
      have e : op2 (fun u v => boolV (cmpD op u v)) x y r2 = .bad := by unfold op2; rw [c]; dsimp only; rw [c2]; rfl
      rw [e] at go3; exact go3.elim
    | some k =>
      have e : op2 (fun u v => boolV (cmpD op u v)) x y r2 = .ok (.sh (.bl k)) r2 := by unfold op2; rw [c]; dsimp only; rw [c2]; rfl
      rw [e] at go3
      refine ⟨a, b, .sh (.bl k), σ, P2, r2, a2.rs, h1, h2, by show boolV (cmpD op a b) = _; rw [c2]; rfl, Go.mono go3 fun u3 H3 ⟨P3, r3, q, a3, rv, e3, go4⟩ => ?_⟩
      cases e3
      have eu : u3 = .bl k := by
        have rv : Rep T P3 (.bl k) u3 := rv
        simpa only [Rep] using rv
      refine ⟨k, eu, ?_⟩
      cases k with
      | false =>
        rw [if_neg Bool.false_ne_true]
        exact ⟨false, rfl, go4 false P3 H3 (.refl a3.rs) rfl⟩
      | true =>
        rw [if_pos rfl]
        dsimp only [Val.d_sh] at go4
        rw [bind_assoc] at go4
        refine ⟨P3, r2, a3.rs, (Go.bind anti_K go4).mono fun w H4 ⟨P4, r4, z, a4, q4, e4, go5⟩ => ?_⟩
        unfold op2 at go5
        cases c3 : res r4 [y, z] with
        | none => rw [c3] at go5; exact go5.elim
        | some l =>
          obtain ⟨a', b', rfl, h1', h2'⟩ := res2 a4.rs (rb2 (q2.ext a3.st.pp) a4.st.pp q4) c3
          rw [c3] at go5
          dsimp only at go5
          cases c4 : cmpD op' a' b' with
          | none => rw [c4] at go5; exact go5.elim
          | some k' =>
            rw [c4] at go5
            refine ⟨a', b', .sh (.bl k'), σ, P4, r4, a4.rs, h1', h2', by show boolV (cmpD op' a' b') = _; rw [c4]; rfl, fun u' P' H' a5 rv => ?_⟩
            have hu' : u' = .bl k' := by
              have rv' : Rep T P' (.bl k') u' := rv
              simpa only [Rep] using rv'
            exact ⟨k', hu', go5 k' P' H' a5 rfl⟩
end
section
variable {T : Tb} {C : Cf} {X : Cx} {k : Nat} {pos : Pos} {a b c : PySem.Expr} {a' b' c' : E} {op op' : CmpOp}
theorem t_chn (w : CB T k X) (ha : DB T C X a a') (hb : DB T C X b b') (hc : DB T C X c c') (hm : lastMarks [op, op'] [b, c] = false := by with_unfolding_all rfl) : DT T C X (.Compare a [op, op'] [b, c] pos) (.val (.chn op op' a' b' c')) :=
  eqT (dt_chn (op_cmpD w.eK w.room.units op) (op_cmpD w.eK w.room.units op') ha hb hc hm) fun r => by
    simp only [evT, bor, isVar, ev]
    rw [bind_assoc]
    congr 1
end
end Z
/-! ZZA: x += e. -/
namespace Z
open PySem PySem.Spec L2
open PyProof.Rows hiding St
/-! ### x += e, whole numbers -/
section
variable {X : Cx} {T : Tb} {W : WX} {st : Stmt} {op : Operator} {i : Nat} {te : TE} {fe : En → R Val} {g : Int → Int → Int}
theorem ds_aug (hop : ∀ x y z, binI op x y = some z → z = g x y) (h : PS X st (tAug i te (ipI g))) (ht : ∀ σ H Q, tE T W fe σ H Q → te σ H Q) :
    PS X st (tD T W fun r => match r.rd i with
      | some (.int x) => (fe r).run fun v r1 => match v.d with
        | .int y => match binI op x y with
          | some z => O.of (r1.put i (.sh (.int z)))
          | none => .bad
        | _ => .bad
      | _ => .bad) :=
  psImp h fun D σ H ⟨P, r, rs, go⟩ => by
    dsimp only at go
    cases c : r.rd i with
    | none => rw [c] at go; exact go.elim
    | some d =>
      rw [c] at go
      cases d with
      | int x =>
        dsimp only at go
        have sx : σ[i]? = some (some (.int x)) := by
          unfold En.rd at c
          cases q : r[i]? with
          | none => rw [q] at c; cases c
          | some y =>
            rw [q] at c
            cases y with
            | no => cases c
            | sh d => cases c; obtain ⟨v, e1, e2⟩ := rs.sh i _ q; simp only [Rep] at e2; rw [e1, e2]
            | ow d => cases c; obtain ⟨a, _, _, e3⟩ := rs.own i _ (.inl q); exact e3.elim
            | io d => cases c; obtain ⟨a, _, _, e3⟩ := rs.own i _ (.inr q); exact e3.elim
        refine ⟨.int x, sx, ht σ H _ ⟨P, r, rs, (GoS.runW rs go).mono fun u H1 ⟨P1, r1, v, a, q, e, h1⟩ => ?_⟩⟩
        cases v with
        | ow d =>
          cases d with
          | int y => obtain ⟨b, _, _, ro, _⟩ := q; exact ro.elim
          | _ => exact h1.elim
        | sh d =>
          cases d with
          | int y =>
            have q : Rep T P1 (.int y) u := q
            simp only [Rep] at q
            subst q
            dsimp only [Val.d_sh] at h1
            cases c2 : binI op x y with
            | none => rw [c2] at h1; exact h1.elim
            | some z =>
              rw [c2] at h1
              dsimp only at h1
              have ez := hop x y z c2
              subst ez
              cases c3 : r1.put i (.sh (.int (g x y))) with
              | none => rw [c3] at h1; exact h1.elim
              | some r2 =>
                rw [c3] at h1
                exact ⟨x, y, rfl, rfl, h1 _ P1 H1 (put_ok (v := .sh (.int (g x y))) a.toS (by show Rep T P1 (.int (g x y)) _; simp only [Rep]) c3)⟩
          | _ => exact h1.elim
      | _ => exact go.elim
end
section
variable {T : Tb} {C : Cf} {X : Cx} {k : Nat} {pos pos' : Pos} {x : Str} {a : PySem.Expr} {a' : E}
theorem s_augA (w : CB T k X) (i : Nat) (h : DE T C X a a') (hi : X.N[i]? = some x) (hx : L2.Loc X.env.scope x) (hf : X.fn x = true ∨ X.env.scope.names.lookup x = some .local) : DS T C X (.AugAssign (.Name x pos') .Add a pos) (.aug i .Add a') :=
  eqS (ds_aug (op := .Add) (g := fun i j => i + j) (fun x y z e => by cases e; rfl) (ps_aug w.nd hi hx h ip_add hf) fun _ _ _ h => h) fun r => by simp only [x1] <;> rfl
theorem s_augS (w : CB T k X) (i : Nat) (h : DE T C X a a') (hi : X.N[i]? = some x) (hx : L2.Loc X.env.scope x) (hf : X.fn x = true ∨ X.env.scope.names.lookup x = some .local) : DS T C X (.AugAssign (.Name x pos') .Sub a pos) (.aug i .Sub a') :=
  eqS (ds_aug (op := .Sub) (g := fun i j => i - j) (fun x y z e => by cases e; rfl) (ps_aug w.nd hi hx h ip_sub hf) fun _ _ _ h => h) fun r => by simp only [x1] <;> rfl
end
end Z
/-! YA: the evaluator's equations as simp rules. -/
namespace Z
open PySem (Str Operator CmpOp)
@[simp] theorem iv_var {i : Nat} : isVar (.var i) = some i := rfl
@[simp] theorem iv_con {d : D} : isVar (.con d) = none := rfl
@[simp] theorem iv_neg {a : E} : isVar (.neg a) = none := rfl
@[simp] theorem iv_not {a : E} : isVar (.not a) = none := rfl
@[simp] theorem iv_bin {op : Operator} {a b : E} : isVar (.bin op a b) = none := rfl
@[simp] theorem iv_cmp {op : CmpOp} {a b : E} : isVar (.cmp op a b) = none := rfl
@[simp] theorem iv_and {a b : E} : isVar (.and a b) = none := rfl
@[simp] theorem iv_or {a b : E} : isVar (.or a b) = none := rfl
@[simp] theorem iv_ite {t : Z.T} {a b : E} : isVar (.ite t a b) = none := rfl
@[simp] theorem iv_lst {es : List E} : isVar (.lst es) = none := rfl
@[simp] theorem iv_tup {es : List E} : isVar (.tup es) = none := rfl
@[simp] theorem iv_idx {a b : E} : isVar (.idx a b) = none := rfl
@[simp] theorem iv_slc {a b c : E} : isVar (.slc a b c) = none := rfl
@[simp] theorem iv_chn {o o' : CmpOp} {a b c : E} : isVar (.chn o o' a b c) = none := rfl
@[simp] theorem iv_lc {a : E} {tg : Tg} {it : I} {ts : List Z.T} {own : List Nat} : isVar (.lc a tg it ts own) = none := rfl
@[simp] theorem iv_call {n : Nat} {es : List E} {own : List Nat} {ds : List D} : isVar (.call n es own ds) = none := rfl
@[simp] theorem iv_callN {n : Nat} {e : E} {es : List E} : isVar (.callN n e es) = none := rfl
@[simp] theorem iv_bi {bb : BI} {es : List E} : isVar (.bi bb es) = none := rfl
@[simp] theorem iv_mth {m : MT} {a : E} {es : List E} : isVar (.mth m a es) = none := rfl
@[simp] theorem iv_bits {a : E} : isVar (.bits a) = none := rfl
@[simp] theorem iv_mut {mm : MU} {n : Nat} {es : List E} : isVar (.mut mm n es) = none := rfl
@[simp] theorem iv_isi {a : E} {ty : Ty} : isVar (.isi a ty) = none := rfl
@[simp] theorem in_non : isNon (.con .non) = true := rfl
/-! what stands behind a step is looked at only when the step is done -/
@[simp] theorem qb_con {d : D} {f : En → R Val} {r : En} : bor (.con d) f r = (f r).bind fun v r1 => .ok (.inr v.d) r1 := rfl
@[simp] theorem qb_neg {a : E} {f : En → R Val} {r : En} : bor (.neg a) f r = (f r).bind fun v r1 => .ok (.inr v.d) r1 := rfl
@[simp] theorem qb_not {a : E} {f : En → R Val} {r : En} : bor (.not a) f r = (f r).bind fun v r1 => .ok (.inr v.d) r1 := rfl
@[simp] theorem qb_bin {op : Operator} {a b : E} {f : En → R Val} {r : En} : bor (.bin op a b) f r = (f r).bind fun v r1 => .ok (.inr v.d) r1 := rfl
@[simp] theorem qb_cmp {op : CmpOp} {a b : E} {f : En → R Val} {r : En} : bor (.cmp op a b) f r = (f r).bind fun v r1 => .ok (.inr v.d) r1 := rfl
@[simp] theorem qb_and {a b : E} {f : En → R Val} {r : En} : bor (.and a b) f r = (f r).bind fun v r1 => .ok (.inr v.d) r1 := rfl
@[simp] theorem qb_or {a b : E} {f : En → R Val} {r : En} : bor (.or a b) f r = (f r).bind fun v r1 => .ok (.inr v.d) r1 := rfl
@[simp] theorem qb_ite {t : Z.T} {a b : E} {f : En → R Val} {r : En} : bor (.ite t a b) f r = (f r).bind fun v r1 => .ok (.inr v.d) r1 := rfl
@[simp] theorem qb_lst {es : List E} {f : En → R Val} {r : En} : bor (.lst es) f r = (f r).bind fun v r1 => .ok (.inr v.d) r1 := rfl
@[simp] theorem qb_tup {es : List E} {f : En → R Val} {r : En} : bor (.tup es) f r = (f r).bind fun v r1 => .ok (.inr v.d) r1 := rfl
@[simp] theorem qb_idx {a b : E} {f : En → R Val} {r : En} : bor (.idx a b) f r = (f r).bind fun v r1 => .ok (.inr v.d) r1 := rfl
@[simp] theorem qb_slc {a b c : E} {f : En → R Val} {r : En} : bor (.slc a b c) f r = (f r).bind fun v r1 => .ok (.inr v.d) r1 := rfl
@[simp] theorem qb_lc {a : E} {tg : Tg} {it : I} {ts : List Z.T} {own : List Nat} {f : En → R Val} {r : En} : bor (.lc a tg it ts own) f r = (f r).bind fun v r1 => .ok (.inr v.d) r1 := rfl
@[simp] theorem qb_call {n : Nat} {es : List E} {own : List Nat} {ds : List D} {f : En → R Val} {r : En} : bor (.call n es own ds) f r = (f r).bind fun v r1 => .ok (.inr v.d) r1 := rfl
@[simp] theorem qb_callN {n : Nat} {e : E} {es : List E} {f : En → R Val} {r : En} : bor (.callN n e es) f r = (f r).bind fun v r1 => .ok (.inr v.d) r1 := rfl
@[simp] theorem qb_chn {o o' : CmpOp} {a b c : E} {f : En → R Val} {r : En} : bor (.chn o o' a b c) f r = (f r).bind fun v r1 => .ok (.inr v.d) r1 := rfl
@[simp] theorem qb_bi {bb : BI} {es : List E} {f : En → R Val} {r : En} : bor (.bi bb es) f r = (f r).bind fun v r1 => .ok (.inr v.d) r1 := rfl
@[simp] theorem qb_mth {m : MT} {a : E} {es : List E} {f : En → R Val} {r : En} : bor (.mth m a es) f r = (f r).bind fun v r1 => .ok (.inr v.d) r1 := rfl
@[simp] theorem qb_bits {a : E} {f : En → R Val} {r : En} : bor (.bits a) f r = (f r).bind fun v r1 => .ok (.inr v.d) r1 := rfl
@[simp] theorem qb_mut {mm : MU} {n : Nat} {es : List E} {f : En → R Val} {r : En} : bor (.mut mm n es) f r = (f r).bind fun v r1 => .ok (.inr v.d) r1 := rfl
@[simp] theorem qb_isi {a : E} {ty : Ty} {f : En → R Val} {r : En} : bor (.isi a ty) f r = (f r).bind fun v r1 => .ok (.inr v.d) r1 := rfl
@[simp] theorem qr_con {d : D} {C : Cf} {r : En} : retV C (.con d) r = ev C (.con d) r := rfl
@[simp] theorem qr_neg {a : E} {C : Cf} {r : En} : retV C (.neg a) r = ev C (.neg a) r := rfl
@[simp] theorem qr_not {a : E} {C : Cf} {r : En} : retV C (.not a) r = ev C (.not a) r := rfl
@[simp] theorem qr_bin {op : Operator} {a b : E} {C : Cf} {r : En} : retV C (.bin op a b) r = ev C (.bin op a b) r := rfl
@[simp] theorem qr_cmp {op : CmpOp} {a b : E} {C : Cf} {r : En} : retV C (.cmp op a b) r = ev C (.cmp op a b) r := rfl
@[simp] theorem qr_and {a b : E} {C : Cf} {r : En} : retV C (.and a b) r = ev C (.and a b) r := rfl
@[simp] theorem qr_or {a b : E} {C : Cf} {r : En} : retV C (.or a b) r = ev C (.or a b) r := rfl
@[simp] theorem qr_ite {t : Z.T} {a b : E} {C : Cf} {r : En} : retV C (.ite t a b) r = ev C (.ite t a b) r := rfl
@[simp] theorem qr_lst {es : List E} {C : Cf} {r : En} : retV C (.lst es) r = ev C (.lst es) r := rfl
@[simp] theorem qr_tup {es : List E} {C : Cf} {r : En} : retV C (.tup es) r = ev C (.tup es) r := rfl
@[simp] theorem qr_idx {a b : E} {C : Cf} {r : En} : retV C (.idx a b) r = ev C (.idx a b) r := rfl
@[simp] theorem qr_slc {a b c : E} {C : Cf} {r : En} : retV C (.slc a b c) r = ev C (.slc a b c) r := rfl
@[simp] theorem qr_lc {a : E} {tg : Tg} {it : I} {ts : List Z.T} {own : List Nat} {C : Cf} {r : En} : retV C (.lc a tg it ts own) r = ev C (.lc a tg it ts own) r := rfl
@[simp] theorem qr_call {n : Nat} {es : List E} {own : List Nat} {ds : List D} {C : Cf} {r : En} : retV C (.call n es own ds) r = ev C (.call n es own ds) r := rfl
@[simp] theorem qr_callN {n : Nat} {e : E} {es : List E} {C : Cf} {r : En} : retV C (.callN n e es) r = ev C (.callN n e es) r := rfl
@[simp] theorem qr_chn {o o' : CmpOp} {a b c : E} {C : Cf} {r : En} : retV C (.chn o o' a b c) r = ev C (.chn o o' a b c) r := rfl
@[simp] theorem qr_bi {bb : BI} {es : List E} {C : Cf} {r : En} : retV C (.bi bb es) r = ev C (.bi bb es) r := rfl
@[simp] theorem qr_mth {m : MT} {a : E} {es : List E} {C : Cf} {r : En} : retV C (.mth m a es) r = ev C (.mth m a es) r := rfl
@[simp] theorem qr_bits {a : E} {C : Cf} {r : En} : retV C (.bits a) r = ev C (.bits a) r := rfl
@[simp] theorem qr_mut {mm : MU} {n : Nat} {es : List E} {C : Cf} {r : En} : retV C (.mut mm n es) r = ev C (.mut mm n es) r := rfl
@[simp] theorem qr_isi {a : E} {ty : Ty} {C : Cf} {r : En} : retV C (.isi a ty) r = ev C (.isi a ty) r := rfl
@[simp] theorem qr_var {i : Nat} {C : Cf} {r : En} : retV C (.var i) r = (match r[i]? with | some (.sh d) => .ok (.sh d) r | some (.ow d) => .ok (.ow d) r | _ => .bad) := rfl
section
variable {C : Cf} {r r' : En} {a b c : E} {es : List E} {s : S} {ss tt : List S} {i j : Nat} {d d' : D} {x y : Int}
abbrev Cz (Pg : Nat → Option Df) (fuel k : Nat) : Cf := { call := callD Pg fuel k, modes := fun g => (Pg g).map (·.modes), fuel := fuel }
theorem callD_eq {Pg : Nat → Option Df} {fuel k f : Nat} {df : Df} {ds : List D} (hp : Pg f = some df) (h : ds.length = df.modes.length ∧ ds.length ≤ df.names) :
    callD Pg fuel (k + 1) f ds = (xs (Cz Pg fuel k) df.body (En.start df.modes df.names ds)).cr df.modes := by
  simp only [callD, hp, if_pos h]
@[simp] theorem q_xs0 : xs C [] r = .nx r := by simp only [xs]
@[simp] theorem q_xs : xs C (s :: ss) r = (x1 C s r).then fun r1 => xs C ss r1 := by simp only [xs]
@[simp] theorem q_asgv : x1 C (.asg (.v i) a) r = (ev C a r).run fun v r1 => O.of (r1.put i v) := by simp only [x1]
@[simp] theorem q_asgt {ts : List Tg} : x1 C (.asg (.t ts) a) r = (ev C a r).run fun v r1 => O.of (bindT (.t ts) v.d r1) := by simp only [x1]
@[simp] theorem q_par {is : List Nat} : x1 C (.par is es) r = (evV C es r).run fun vs r1 => if is.Nodup then O.of (puts r1 is vs) else .bad := by simp only [x1]
@[simp] theorem q_aug {op : Operator} : x1 C (.aug i op a) r = match r.rd i with | some (.int x) => (ev C a r).run fun v r1 => (match v.d with | .int y => (match binI op x y with | some z => O.of (r1.put i (.sh (.int z))) | none => .bad) | _ => .bad) | _ => .bad := by simp only [x1] <;> rfl
@[simp] theorem q_seti : x1 C (.seti i a b) r = (ev C b r).run fun v r1 => if (r1.own? i).isSome = true then (ev C a r1).run fun k r2 => O.of ((r2.own? i).bind fun o => (setD o k.d v.d).bind fun d => r2.chg i d) else .bad := by simp only [x1]
@[simp] theorem q_ex : x1 C (.ex a) r = (ev C a r).run fun _ r1 => .nx r1 := by simp only [x1]
@[simp] theorem q_ret : x1 C (.ret a) r = (retV C a r).run fun v r1 => .ret v r1 := by simp only [x1]
@[simp] theorem q_retN : x1 C .retN r = .ret (.sh .non) r := by simp only [x1]
@[simp] theorem q_ite {t : Z.T} : x1 C (.ite t ss tt) r = (evT C t r).run fun k r1 => if k = true then xs C ss r1 else xs C tt r1 := by simp only [x1]
@[simp] theorem q_for {t : Tg} {it : I} : x1 C (.for_ t it ss) r = (evI C it r).run fun l r1 => forL (fun x r2 => (O.of (bindT t x r2)).then fun r3 => xs C ss r3) l r1 := by simp only [x1]
@[simp] theorem q_whl {t : Z.T} : x1 C (.whl t ss) r = whlL (evT C t) (xs C ss) C.fuel r := by simp only [x1]
@[simp] theorem q_brk : x1 C .brk r = .brk r := by simp only [x1]
@[simp] theorem q_cnt : x1 C .cnt r = .cnt r := by simp only [x1]
@[simp] theorem q_pass : x1 C .pass r = .nx r := by simp only [x1]
/-! expressions -/
@[simp] theorem q_var : ev C (.var i) r = (match r[i]? with | some (.sh d) => .ok (.sh d) r | some (.ow d) => .ok (.sh d) (r.set i (.sh d)) | _ => .bad) := by simp only [ev] <;> rfl
@[simp] theorem q_con : ev C (.con d) r = .ok (.sh d) r := by simp only [ev]
@[simp] theorem q_not : ev C (.not a) r = (bor a (fun r => ev C a r) r).bind fun x r1 => op1 (fun u => boolV ((tru u).map (!·))) x r1 := by simp only [ev]
@[simp] theorem q_bin {op : Operator} : ev C (.bin op a b) r = (bor a (fun r => ev C a r) r).bind fun x r1 => (bor b (fun r => ev C b r) r1).bind fun y r2 => op2 (binD op) x y r2 := by simp only [ev]
@[simp] theorem q_cmp {op : CmpOp} : ev C (.cmp op a b) r = (bor a (fun r => ev C a r) r).bind fun x r1 => (bor b (fun r => ev C b r) r1).bind fun y r2 => op2 (fun u v => boolV (cmpD op u v)) x y r2 := by simp only [ev]
@[simp] theorem q_and : ev C (.and a b) r = (ev C a r).bind fun x r1 => match tru x.d with
    | some true => (ev C b r1).bind fun y r2 => .ok (.sh y.d) r2
    | some false => .ok (.sh x.d) r1
    | none => .bad := by simp only [ev] <;> rfl
@[simp] theorem q_or : ev C (.or a b) r = (ev C a r).bind fun x r1 => match tru x.d with
    | some false => (ev C b r1).bind fun y r2 => .ok (.sh y.d) r2
    | some true => .ok (.sh x.d) r1
    | none => .bad := by simp only [ev] <;> rfl
@[simp] theorem q_eite {t : Z.T} : ev C (.ite t a b) r = (evT C t r).bind fun k r1 => if k = true then ev C a r1 else ev C b r1 := by simp only [ev]
@[simp] theorem q_lst : ev C (.lst es) r = (evs C es r).bind fun ds r1 => if ds.length ≤ LINE then .ok (.ow (.lst ds)) r1 else .bad := by simp only [ev]
@[simp] theorem q_tup : ev C (.tup es) r = (evs C es r).bind fun ds r1 => if ds.length ≤ LINE then .ok (.sh (.tup ds)) r1 else .bad := by simp only [ev]
@[simp] theorem q_idx : ev C (.idx a b) r = (bor a (fun r => ev C a r) r).bind fun x r1 => (bor b (fun r => ev C b r) r1).bind fun y r2 => op2 (fun u v => (idxD u v).map .sh) x y r2 := by simp only [ev]
@[simp] theorem q_slc : ev C (.slc a b c) r = (bor a (fun r => ev C a r) r).bind fun x r1 => (por b (fun r => ev C b r) r1).bind fun y r2 => (por c (fun r => ev C c r) r2).bind fun z r3 => op3 slcD x y z r3 := by simp only [ev]
theorem q_lc {t : Tg} {it : I} {ts : List Z.T} {own : List Nat} : ev C (.lc a t it ts own) r = (evI C it r).bind fun l r1 => if ownFree r1 own && (tgS t).all own.contains then
      (lcL (fun x r2 => (R.of (bindT t x (wip r2 own)) r2).bind fun r3 _ => (evC C ts r3).bind fun k r4 => if k = true then (ev C a r4).bind fun v r5 => .ok (some v.d) r5 else .ok none r4) l [] (wip r1 own)).bind fun ds r6 =>
        thawL r ds (back r1 r6 own) else .bad := by simp only [ev]
@[simp] theorem q_call {f : Nat} : ev C (.call f es [] []) r = (evA C es r).bind fun ys r1 => match C.modes f with | some ms => callR ms (C.call f) ys r1 | none => .bad := by
  simp only [ev]
  congr 1
  funext ys r1
  simp only [List.map_nil, List.append_nil, permO, List.isEmpty_nil, if_true]
  cases C.modes f <;> rfl
@[simp] theorem q_callN {f : Nat} {e : E} : ev C (.callN f e es) r = (ev C e r).bind fun v r1 => (evA C es r1).bind fun ys r2 => match v, C.modes f with
    | .ow d, some ms => callNR ms (C.call f) d ys r2
    | _, _ => .bad := by simp only [ev] <;> rfl
@[simp] theorem q_chn {op op' : CmpOp} : ev C (.chn op op' a b c) r = (bor a (fun r => ev C a r) r).bind fun x r1 => (bor b (fun r => ev C b r) r1).bind fun y r2 => (op2 (fun u v => boolV (cmpD op u v)) x y r2).bind fun q r3 => match q.d with
    | .bl true => (bor c (fun r => ev C c r) r3).bind fun z r4 => op2 (fun u v => boolV (cmpD op' u v)) y z r4
    | .bl false => .ok (.sh (.bl false)) r3
    | _ => .bad := by simp only [ev] <;> rfl
@[simp] theorem q_bi {b : BI} : ev C (.bi b es) r = (evA C es r).bind fun xs r1 => opn (biD b) xs r1 := by simp only [ev]
@[simp] theorem q_bits : ev C (.bits a) r = (bor a (fun r => ev C a r) r).bind fun x r1 => op1 (fun d => (mtD .bitlen d []).map Val.sh) x r1 := by simp only [ev]
@[simp] theorem q_mth {m : MT} : ev C (.mth m a es) r = (bor a (fun r => ev C a r) r).bind fun x r1 => if lstB r1 x = true then (evA C es r1).bind fun xs r2 => opn (fun l => match l with | d :: ds => (mtD m d ds).map Val.sh | [] => none) (x :: xs) r2 else .bad := by simp only [ev] <;> rfl
@[simp] theorem q_mut {m : MU} : ev C (.mut m i es) r = if lstAt r i then (evs C es r).bind fun ds r1 => (R.of ((r1.own? i).bind fun o => (muD m o ds).bind fun p => (r1.chg i p.1).map fun r2 => (Val.sh p.2, r2)) r1).bind (fun q _ => .ok q.1 q.2) else .bad := by simp only [ev]
@[simp] theorem q_isi {t : Ty} : ev C (.isi a t) r = (bor a (fun r => ev C a r) r).bind fun x r1 => op1 (fun u => boolV (isiD u t)) x r1 := by simp only [ev]
@[simp] theorem q_evs0 : evs C [] r = .ok [] r := by simp only [evs]
@[simp] theorem q_evs : evs C (a :: es) r = (ev C a r).bind fun v r1 => (evs C es r1).bind fun vs r2 => .ok (v.d :: vs) r2 := by simp only [evs]
@[simp] theorem q_evA0 : evA C [] r = .ok [] r := by simp only [evA]
@[simp] theorem q_evA : evA C (a :: es) r = (bor a (fun r => ev C a r) r).bind fun x r1 => (evA C es r1).bind fun xs r2 => .ok (x :: xs) r2 := by simp only [evA]
@[simp] theorem q_evV0 : evV C [] r = .ok [] r := by simp only [evV]
@[simp] theorem q_evV : evV C (a :: es) r = (ev C a r).bind fun v r1 => (evV C es r1).bind fun vs r2 => .ok (v :: vs) r2 := by simp only [evV]
@[simp] theorem q_tval : evT C (.val a) r = (bor a (fun r => ev C a r) r).bind fun x r1 => R.of (match res r1 [x] with | some [a] => tru a | _ => none) r1 := by simp only [evT] <;> rfl
@[simp] theorem q_tnot {t : Z.T} : evT C (.not t) r = (evT C t r).bind fun b r1 => .ok (!b) r1 := by simp only [evT]
@[simp] theorem q_tand {t u : Z.T} : evT C (.and t u) r = (evT C t r).bind fun k r1 => if k = true then evT C u r1 else .ok false r1 := by simp only [evT]
@[simp] theorem q_tor {t u : Z.T} : evT C (.or t u) r = (evT C t r).bind fun k r1 => if k = true then .ok true r1 else evT C u r1 := by simp only [evT]
@[simp] theorem q_evC0 : evC C [] r = .ok true r := by simp only [evC]
@[simp] theorem q_evC {t : Z.T} {ts : List Z.T} : evC C (t :: ts) r = (evT C t r).bind fun k r1 => if k = true then evC C ts r1 else .ok false r1 := by simp only [evC]
@[simp] theorem q_ie : evI C (.e a) r = (ev C a r).bind fun v r1 => R.of (itemsD v.d) r1 := by simp only [evI]
theorem q_rng1 : evI C (.rng1 a) r = (bor a (fun r => ev C a r) r).bind fun x r1 => R.of ((res r1 [x]).bind rngD) r1 := by
  simp only [evI]
  congr 1
  funext x r1
  rcases res_one r1 x with h | ⟨u, h⟩
  · rw [h]; rfl
  · rw [h]; rfl
theorem q_rng2 : evI C (.rng2 a b) r = (bor a (fun r => ev C a r) r).bind fun x r1 => (bor b (fun r => ev C b r) r1).bind fun y r2 => R.of ((res r2 [x, y]).bind rngD) r2 := by
  simp only [evI]
  congr 1
  funext x r1
  congr 1
  funext y r2
  rcases res_two r2 x y with h | ⟨u, v, h⟩
  · rw [h]; rfl
  · rw [h]; rfl
@[simp] theorem q_enm : evI C (.enm a) r = (ev C a r).bind fun v r1 => R.of ((lstD v.d).map enumD) r1 := by simp only [evI]
@[simp] theorem q_zip {k : Bool} : evI C (.zip k es) r = (evs C es r).bind fun ds r1 => R.of (zipD k ds) r1 := by simp only [evI]
@[simp] theorem q_rvd : evI C (.rvd a) r = (ev C a r).bind fun v r1 => R.of ((lstD v.d).map List.reverse) r1 := by simp only [evI]

@[simp] theorem q_borv {f : En → R Val} : bor (.var i) f r = if (r.rd i).isSome = true then .ok (.inl i) r else .bad := rfl
theorem q_bor {f : En → R Val} (h : isVar a = none) : bor a f r = (f r).bind fun v r1 => .ok (.inr v.d) r1 := by unfold bor; rw [h]
@[simp] theorem q_rd : En.rd r i = (r[i]?).bind Sl.d? := rfl
@[simp] theorem q_res0 : res r [] = some [] := rfl
@[simp] theorem q_resl {l : List (Nat ⊕ D)} : res r (.inl i :: l) = (r.rd i).bind fun d => (res r l).map (d :: ·) := rfl
@[simp] theorem q_resr {l : List (Nat ⊕ D)} : res r (.inr d :: l) = (res r l).map (d :: ·) := rfl
@[simp] theorem q_op1 {f : D → Option Val} {u : Nat ⊕ D} : op1 f u r = R.of (match res r [u] with | some [a] => f a | _ => none) r := rfl
@[simp] theorem q_op2 {f : D → D → Option Val} {u v : Nat ⊕ D} : op2 f u v r = R.of (match res r [u, v] with | some [a, b] => f a b | _ => none) r := rfl
@[simp] theorem q_op3 {f : D → D → D → Option Val} {u v w : Nat ⊕ D} : op3 f u v w r = R.of (match res r [u, v, w] with | some [a, b, c] => f a b c | _ => none) r := rfl
@[simp] theorem q_opn {f : List D → Option Val} {l : List (Nat ⊕ D)} : opn f l r = R.of ((res r l).bind f) r := rfl
end
/-! ### comprehensions, loops -/
theorem wip_wip (r : En) (own : List Nat) : wip (wip r own) own = wip r own := by
  apply List.ext_getElem?
  intro j
  by_cases h : j ∈ own
  · have e : ∀ r : En, (wip r own)[j]? = (if j < r.length then some .no else none) := fun r => by
      cases c : (wip r own)[j]? with
      | none =>
        rw [List.getElem?_eq_none_iff, wip_len] at c
        rw [if_neg (by omega)]
      | some x =>
        have := wip_in r h c
        subst this
        have := (List.getElem?_eq_some_iff.mp c).1
        rw [wip_len] at this
        rw [if_pos this]
    rw [e, e, wip_len]
  · rw [wip_out _ h]
theorem back_wip {r0 r : En} {own : List Nat} (h : wip r own = wip r0 own) : back r0 r own = r0 := by
  have hl : r.length = r0.length := by rw [← wip_len r own, h, wip_len]
  apply List.ext_getElem?
  intro j
  by_cases m : j ∈ own
  · cases c : (back r0 r own)[j]? with
    | none =>
      rw [List.getElem?_eq_none_iff, back_len, hl] at c
      rw [List.getElem?_eq_none_iff.mpr c]
    | some x =>
      have e := back_in r0 r m c
      have hj := (List.getElem?_eq_some_iff.mp c).1
      rw [back_len, hl] at hj
      rw [e, List.getD_eq_getElem?_getD, List.getElem?_eq_getElem hj]
      rfl
  · rw [back_out _ _ m, ← wip_out r m, h, wip_out r0 m]
theorem lcF_wip {t : Tg} {fc : En → R Bool} {fe : En → R Val} {own : List Nat} {x : D} {r2 b : En} (h : wip r2 own = b) : lcF t fc fe own x r2 = lcF t fc fe own x b := by
  unfold lcF
  rw [← h, wip_wip]
  cases bindT t x (wip r2 own) <;> rfl
theorem lcL_run {f : D → En → R (Option D)} {own : List Nat} {b : En} (g : D → Option D) : ∀ (l acc : List D) (r : En), (∀ x ∈ l, ∀ r, wip r own = b → ∃ r', f x r = .ok (g x) r' ∧ wip r' own = b) → wip r own = b → acc.length + l.length ≤ LINE →
    ∃ r', lcL f l acc r = .ok (acc ++ l.filterMap g) r' ∧ wip r' own = b
  | [], acc, r, _, hr, _ => ⟨r, by simp [lcL], hr⟩
  | x :: l, acc, r, h, hr, hl => by
    obtain ⟨r1, e1, h1⟩ := h x List.mem_cons_self r hr
    simp only [List.length_cons] at hl
    unfold lcL
    rw [e1]
    cases c : g x with
    | none =>
      obtain ⟨r2, e2, h2⟩ := lcL_run g l acc r1 (fun y m => h y (List.mem_cons_of_mem _ m)) h1 (by omega)
      exact ⟨r2, by simpa [c] using e2, h2⟩
    | some y =>
      obtain ⟨r2, e2, h2⟩ := lcL_run g l (acc ++ [y]) r1 (fun y m => h y (List.mem_cons_of_mem _ m)) h1 (by simp; omega)
      refine ⟨r2, ?_, h2⟩
      simp only [R.nox_ok, R.bind_ok]
      rw [if_pos (by omega), e2]
      simp [c]
/-- a comprehension item by item -/
theorem lc_run {C : Cf} {e : E} {t : Tg} {it : I} {ts : List Z.T} {own : List Nat} {r r1 : En} {l : List D} (g : D → Option D) (hi : evI C it r = .ok l r1) (ho : ownFree r1 own = true) (ht : (tgS t).all own.contains = true) (hl : l.length ≤ LINE)
    (h : ∀ x ∈ l, ∃ r5, lcF t (evC C ts) (ev C e) own x (wip r1 own) = .ok (g x) r5 ∧ wip r5 own = wip r1 own) : ev C (.lc e t it ts own) r = thawL r (l.filterMap g) r1 := by
  rw [q_lc, hi]
  simp only [R.bind_ok]
  rw [if_pos (by rw [ho, ht]; rfl)]
  obtain ⟨r6, e6, h6⟩ := lcL_run (f := lcF t (evC C ts) (ev C e) own) (own := own) (b := wip r1 own) g l [] (wip r1 own) (fun x m r hr => by
    obtain ⟨r5, e5, h5⟩ := h x m
    exact ⟨r5, by rw [lcF_wip hr]; exact e5, h5⟩) (wip_wip _ _) (by simpa using hl)
  show (lcL (lcF t (evC C ts) (ev C e) own) l [] (wip r1 own)).bind _ = _
  rw [e6]
  simp only [R.bind_ok, List.nil_append]
  rw [back_wip h6]
theorem forL_run {f : D → En → O} (Iv : Nat → En → Prop) : ∀ (l : List D) (i : Nat) (r : En), (∀ (j : Nat) (x : D) (r : En), l[j]? = some x → Iv (i + j) r → ∃ r', f x r = .nx r' ∧ Iv (i + j + 1) r') → Iv i r → ∃ r', forL f l r = .nx r' ∧ Iv (i + l.length) r'
  | [], i, r, _, h => ⟨r, rfl, h⟩
  | x :: l, i, r, h, h0 => by
    obtain ⟨r1, e1, h1⟩ := h 0 x r rfl h0
    obtain ⟨r2, e2, h2⟩ := forL_run Iv l (i + 1) r1 (fun j y r q w => by
      have := h (j + 1) y r (by simpa using q) (by rw [show i + (j + 1) = i + 1 + j by omega]; exact w)
      rw [show i + (j + 1) + 1 = i + 1 + j + 1 by omega] at this
      exact this) h1
    refine ⟨r2, ?_, ?_⟩
    · unfold forL
      rw [e1]
      exact e2
    · rw [show i + (x :: l).length = i + 1 + l.length by simp; omega]
      exact h2
theorem sm62_of {i : Int} (h : 0 ≤ i) (h2 : i ≤ 1000000000) : sm62 i = true := by
  rw [sm62_iff]
  omega
theorem rngD_two {a b : Int} (h : sm62 a = true) (h2 : sm62 b = true) : rngD [.int a, .int b] = some ((rangeI a b 1).map .int) := by
  show (if (sm62 a && sm62 b) = true then _ else none) = _
  rw [h, h2]
  rfl
theorem rngD_one {b : Int} (h2 : sm62 b = true) : rngD [.int b] = some ((rangeI 0 b 1).map .int) := by
  show (if sm62 b = true then _ else none) = _
  rw [h2]
  rfl
theorem rng2_eq {C : Cf} {a b : E} {r r1 r2 : En} {x y : Nat ⊕ D} {i j : Int} (ha : bor a (fun r => ev C a r) r = .ok x r1) (hb : bor b (fun r => ev C b r) r1 = .ok y r2) (hr : res r2 [x, y] = some [.int i, .int j]) (h : 0 ≤ i ∧ i ≤ 1000000000) (h2 : 0 ≤ j ∧ j ≤ 1000000000) :
    evI C (.rng2 a b) r = .ok ((rangeI i j 1).map .int) r2 := by
  rw [q_rng2, ha, R.bind_ok, hb, R.bind_ok, hr, Option.bind_some, rngD_two (sm62_of h.1 h.2) (sm62_of h2.1 h2.2), R.of_some]
theorem rng1_eq {C : Cf} {b : E} {r r2 : En} {y : Nat ⊕ D} {j : Int} (hb : bor b (fun r => ev C b r) r = .ok y r2) (hr : res r2 [y] = some [.int j]) (h2 : 0 ≤ j ∧ j ≤ 1000000000) :
    evI C (.rng1 b) r = .ok ((rangeI 0 j 1).map .int) r2 := by
  rw [q_rng1, hb, R.bind_ok, hr, Option.bind_some, rngD_one (sm62_of h2.1 h2.2), R.of_some]
end Z
/-! YB: defs that many laws use (rows printed by zprint.py), and what they yield. -/
namespace Z
open PySem (Str Operator CmpOp)
/-- is_whole -/
def s_is_whole : List S :=
  [.ret (.and (.isi (.var 0) .int) (.not (.isi (.var 0) .bool)))]
def d_is_whole : Df := { modes := [false], names := 1, body := s_is_whole }
/-- is_between -/
def s_is_between : List S :=
  [.ite (.not (.val (.call 0 [.var 0] [] []))) [.ret (.con (.bl false))] [],
    .ret (.and (.or (.cmp .Is (.var 1) (.con .non)) (.cmp .GtE (.var 0) (.var 1))) (.or (.cmp .Is (.var 2) (.con .non)) (.cmp .LtE (.var 0) (.var 2))))]
def d_is_between : Df := { modes := [false, false, false], names := 3, body := s_is_between }
/-- power_of_two -/
def s_power_of_two : List S :=
  [.ret (.bin .LShift (.con (.int 1)) (.var 0))]
def d_power_of_two : Df := { modes := [false], names := 1, body := s_power_of_two }
/-- twos -/
def s_twos : List S :=
  [.asg (.v 1) (.con (.int 0)),
    .whl (.val (.cmp .Eq (.bin .Mod (.var 0) (.con (.int 2))) (.con (.int 0)))) [.par [0, 1] [.bin .FloorDiv (.var 0) (.con (.int 2)), .bin .Add (.var 1) (.con (.int 1))]],
    .ret (.var 1)]
def d_twos : Df := { modes := [false], names := 2, body := s_twos }
/-- good_row -/
def s_good_row : List S :=
  [.par [1, 2, 3, 4] [.lst [], .lst [], .bi .list [.var 0], .bin .Mult (.lst [.con (.int 0)]) (.bi .len [.var 0])],
    .whl (.val (.cmp .NotEq (.var 3) (.lst []))) [.asg (.v 5) (.mth .index (.var 4) [.bi .min [.var 4]]),
    .asg (.v 6) (.mut .popAt 3 [.var 5]),
    .ex (.mut .append 1 [.var 6]),
    .ex (.mut .append 2 [.mut .popAt 4 [.var 5]]),
    .asg (.v 4) (.lc (.bin .Add (.var 7) (.call 4 [.bin .Sub (.var 8) (.var 6)] [] [])) (.t [.v 7, .v 8]) (.zip true [.var 4, .var 3]) [] [7, 8])],
    .ret (.tup [.var 1, .var 2])]
def d_good_row : Df := { modes := [false], names := 9, body := s_good_row }
/-- is_width -/
def s_is_width : List S :=
  [.ret (.call 1 [.var 0, .con (.int 1), .con (.int 64)] [] [])]
def d_is_width : Df := { modes := [false], names := 1, body := s_is_width }
/-- check_width -/
def s_check_width : List S :=
  [.ite (.not (.val (.call 8 [.var 0] [] []))) [.nev] []]
def d_check_width : Df := { modes := [false], names := 1, body := s_check_width }
/-- is_of_width -/
def s_is_of_width : List S :=
  [.ret (.call 1 [.var 1, .con (.int 0), .bin .Sub (.call 3 [.var 0] [] []) (.con (.int 1))] [] [])]
def d_is_of_width : Df := { modes := [false, false], names := 2, body := s_is_of_width }
/-- rises -/
def s_rises : List S :=
  [.ret (.cmp .Eq (.lc (.var 1) (.v 1) (.rng2 (.con (.int 1)) (.bi .len [.var 0])) [.val (.cmp .GtE (.idx (.var 0) (.bin .Sub (.var 1) (.con (.int 1)))) (.idx (.var 0) (.var 1)))] [1]) (.lst []))]
def d_rises : Df := { modes := [false], names := 2, body := s_rises }
/-- are_places -/
def s_are_places : List S :=
  [.ite (.or (.not (.val (.isi (.var 1) .list))) (.val (.cmp .Eq (.var 1) (.lst [])))) [.ret (.con (.bl false))] [],
    .ret (.and (.cmp .Eq (.lc (.var 2) (.v 2) (.e (.var 1)) [.not (.val (.call 10 [.var 0, .var 2] [] []))] [2]) (.lst [])) (.call 11 [.var 1] [] []))]
def d_are_places : Df := { modes := [false, false], names := 3, body := s_are_places }
/-- check_places -/
def s_check_places : List S :=
  [.ex (.call 9 [.var 0] [] []),
    .ite (.not (.val (.call 12 [.var 0, .var 1] [] []))) [.nev] []]
def d_check_places : Df := { modes := [false, false], names := 2, body := s_check_places }
/-- good_order -/
def s_good_order : List S :=
  [.ex (.call 9 [.var 0] [] []),
    .ex (.call 13 [.var 0, .var 1] [] []),
    .asg (.t [.v 2, .v 3]) (.call 5 [.var 1] [] []),
    .ret (.tup [.bi .list [.var 2], .bi .list [.var 3]])]
def d_good_order : Df := { modes := [false, false], names := 4, body := s_good_order }
section
variable {Pg : Nat → Option Df} {fuel k : Nat}
theorem m_is_whole (h0 : Pg 0 = some d_is_whole) (fuel k : Nat) (i : Int) : callD Pg fuel (k + 1) 0 [.int i] = .ok (.sh (.bl true)) [] := by
  rw [callD_eq h0 ⟨rfl, Nat.le_refl _⟩]
  simp [d_is_whole, s_is_whole, En.start, Sl.d?, isiD, boolV, tru, O.cr, outsOf]
theorem m_is_between (h0 : Pg 0 = some d_is_whole) (h1 : Pg 1 = some d_is_between) (fuel k : Nat) (i a b : Int) : callD Pg fuel (k + 2) 1 [.int i, .int a, .int b] = .ok (.sh (.bl (decide (a ≤ i ∧ i ≤ b)))) [] := by
  rw [callD_eq h1 ⟨rfl, Nat.le_refl _⟩]
  have e := m_is_whole h0 fuel k i
  simp [d_is_between, s_is_between, En.start, Sl.d?, isiD, boolV, tru, O.cr, outsOf, h0, d_is_whole, callR, argsOk, inouts, plains, apart, after, frzs, frz1, e, cmpD, isD, ordI, scal, flat, chgs]
  by_cases c : a ≤ i <;> simp [c]
theorem m_power_of_two (h3 : Pg 3 = some d_power_of_two) (fuel k : Nat) (n : Nat) (hn : n ≤ 100) : callD Pg fuel (k + 1) 3 [.int n] = .ok (.sh (.int (2 ^ n))) [] := by
  rw [callD_eq h3 ⟨rfl, Nat.le_refl _⟩]
  have b1 : bits 1 = 1 := by decide
  have c : (0 : Int) ≤ (n : Int) ∧ bits 1 + (n : Int).toNat ≤ 1000000 := by rw [b1]; omega
  simp [d_power_of_two, s_power_of_two, En.start, Sl.d?, O.cr, outsOf, binD, binI, c]
  rw [if_pos (by rw [b1]; omega)]
  rfl
theorem m_is_width (h0 : Pg 0 = some d_is_whole) (h1 : Pg 1 = some d_is_between) (h8 : Pg 8 = some d_is_width) (fuel k : Nat) (w : Int) : callD Pg fuel (k + 3) 8 [.int w] = .ok (.sh (.bl (decide (1 ≤ w ∧ w ≤ 64)))) [] := by
  rw [callD_eq h8 ⟨rfl, Nat.le_refl _⟩]
  have e := m_is_between h0 h1 fuel k w 1 64
  simp [d_is_width, s_is_width, En.start, Sl.d?, O.cr, outsOf, h1, d_is_between, callR, argsOk, inouts, plains, apart, after, frzs, frz1, e, scal, flat, chgs]
theorem m_check_width (h0 : Pg 0 = some d_is_whole) (h1 : Pg 1 = some d_is_between) (h8 : Pg 8 = some d_is_width) (h9 : Pg 9 = some d_check_width) (fuel k : Nat) (w : Int) (hw : 1 ≤ w ∧ w ≤ 64) : callD Pg fuel (k + 4) 9 [.int w] = .ok (.sh .non) [] := by
  rw [callD_eq h9 ⟨rfl, Nat.le_refl _⟩]
  have e := m_is_width h0 h1 h8 fuel k w
  rw [decide_eq_true hw] at e
  simp [d_check_width, s_check_width, En.start, Sl.d?, O.cr, outsOf, h8, d_is_width, callR, argsOk, inouts, plains, apart, after, frzs, frz1, e, scal, flat, chgs, tru]
theorem m_is_of_width (h0 : Pg 0 = some d_is_whole) (h1 : Pg 1 = some d_is_between) (h3 : Pg 3 = some d_power_of_two) (h10 : Pg 10 = some d_is_of_width) (fuel k : Nat) (w : Nat) (hw : w ≤ 64) (i : Int) : callD Pg fuel (k + 3) 10 [.int w, .int i] = .ok (.sh (.bl (decide (0 ≤ i ∧ i ≤ 2 ^ w - 1)))) [] := by
  rw [callD_eq h10 ⟨rfl, Nat.le_refl _⟩]
  have e := m_is_between h0 h1 fuel k i 0 (2 ^ w - 1)
  have e2 := m_power_of_two h3 fuel (k + 1) w (by omega)
  simp [d_is_of_width, s_is_of_width, En.start, Sl.d?, O.cr, outsOf, h1, h3, d_is_between, d_power_of_two, callR, argsOk, inouts, plains, apart, after, frzs, frz1, e, e2, scal, flat, chgs, binD, binI]
/-- how often two goes into it -/
def v2 (n : Int) : Nat := if h : n ≠ 0 ∧ n % 2 = 0 then v2 (n / 2) + 1 else 0
termination_by n.natAbs
decreasing_by omega
theorem v2_even {n : Int} (h : n ≠ 0) (e : n % 2 = 0) : v2 n = v2 (n / 2) + 1 := by
  rw [v2]
  rw [dif_pos ⟨h, e⟩]
theorem v2_odd {n : Int} (e : n % 2 ≠ 0) : v2 n = 0 := by
  rw [v2]
  rw [dif_neg fun z => e z.2]
theorem twos_loop {C : Cf} : ∀ (m : Nat) (n : Int) (f : Int), n ≠ 0 → n.natAbs < 2 ^ m →
    ∃ n' : Int, whlL (evT C (.val (.cmp .Eq (.bin .Mod (.var 0) (.con (.int 2))) (.con (.int 0))))) (xs C [.par [0, 1] [.bin .FloorDiv (.var 0) (.con (.int 2)), .bin .Add (.var 1) (.con (.int 1))]]) (m + 1) [.sh (.int n), .sh (.int f)] = .nx [.sh (.int n'), .sh (.int (f + v2 n))]
  | 0, n, f, h, b => by
    exfalso
    have : n.natAbs < 1 := b
    omega
  | m + 1, n, f, h, b => by
    have b2 : (0 : Int) < 2 ∧ bits 2 ≤ 9000 := by decide
    rw [whlL]
    by_cases e : n % 2 = 0
    · have hn : n / 2 ≠ 0 := by omega
      have hb : (n / 2).natAbs < 2 ^ m := by
        have : 2 ^ (m + 1) = 2 * 2 ^ m := by rw [Nat.pow_succ, Nat.mul_comm]
        omega
      obtain ⟨n', q⟩ := twos_loop (C := C) m (n / 2) (f + 1) hn hb
      refine ⟨n', ?_⟩
      have hv : f + (v2 n : Int) = f + 1 + (v2 (n / 2) : Int) := by rw [v2_even h e]; omega
      rw [hv, ← q]
      simp [Sl.d?, cmpD, okq, lay, dep, eqv, boolV, binD, binI, e, b2, tru, puts, En.put]
    · refine ⟨n, ?_⟩
      rw [v2_odd e]
      simp [Sl.d?, cmpD, okq, lay, dep, eqv, boolV, binD, binI, e, tru]
theorem m_twos (h4 : Pg 4 = some d_twos) (k m : Nat) (n : Int) (hn : n ≠ 0) (hb : n.natAbs < 2 ^ m) (hf : m + 1 ≤ fuel) : callD Pg fuel (k + 1) 4 [.int n] = .ok (.sh (.int (v2 n))) [] := by
  rw [callD_eq h4 ⟨rfl, Nat.le_of_ble_eq_true rfl⟩]
  obtain ⟨f, rfl⟩ : ∃ f, fuel = f + 1 := ⟨fuel - 1, by omega⟩
  have hb2 : n.natAbs < 2 ^ f := Nat.lt_of_lt_of_le hb (Nat.pow_le_pow_right (by decide) (by omega))
  obtain ⟨n', q⟩ := twos_loop (C := Cz Pg (f + 1) k) f n 0 hn hb2
  simp only [Int.zero_add] at q
  simp [d_twos, s_twos, En.start, En.put, O.cr, outsOf]
  rw [q]
  simp [O.cr, outsOf]
end
end Z
/-! YC: rows of places: rises, are_places, check_places. -/
namespace Z
open PySem (Str Operator CmpOp)
/-- a list of whole numbers as data -/
abbrev il (l : List Int) : D := .lst (l.map .int)
theorem at_il (l : List Int) (i : Nat) (h : i < l.length) : atL (l.map .int) (i : Int) = some (.int l[i]) := by
  unfold atL ixN
  rw [if_pos (by omega), if_pos (by simp; omega)]
  simp [h]
theorem rng_mem {n : Nat} {d : D} (h : d ∈ (rangeI 1 n 1).map D.int) : ∃ i : Nat, d = .int (i + 1 : Nat) ∧ i + 1 < n := by
  obtain ⟨z, hz, rfl⟩ := List.mem_map.mp h
  unfold rangeI rangeN at hz
  rw [if_pos rfl] at hz
  obtain ⟨i, hi, rfl⟩ := List.mem_map.mp hz
  have := List.mem_range.mp hi
  refine ⟨i, ?_, by omega⟩
  congr 1
  omega
theorem rng_len (a b : Int) : ((rangeI a b 1).map D.int).length = (b - a).toNat := by
  unfold rangeI rangeN
  rw [if_pos rfl]
  simp
section
variable {Pg : Nat → Option Df} {fuel k : Nat}
theorem m_rises (h11 : Pg 11 = some d_rises) (ps : List Int) (hl : ps.length ≤ 100000) (hs : ps.Pairwise (· < ·)) : callD Pg fuel (k + 1) 11 [il ps] = .ok (.sh (.bl true)) [] := by
  rw [callD_eq h11 ⟨rfl, Nat.le_of_ble_eq_true rfl⟩]
  have e := lc_run (C := Cz Pg fuel k) (e := .var 1) (t := .v 1) (it := .rng2 (.con (.int 1)) (.bi .len [.var 0])) (ts := [.val (.cmp .GtE (.idx (.var 0) (.bin .Sub (.var 1) (.con (.int 1)))) (.idx (.var 0) (.var 1)))]) (own := [1]) (r := [.sh (il ps), .no]) (r1 := [.sh (il ps), .no])
    (l := (rangeI 1 ps.length 1).map .int) (fun _ => none) ?a rfl rfl ?b ?c
  case a =>
    exact rng2_eq (r1 := [.sh (il ps), .no]) (x := .inr (.int 1)) (y := .inr (.int ps.length)) (by simp) (by simp [Sl.d?, biD, lenF, lenD]) rfl (by omega) (by omega)
  case b =>
    rw [rng_len]
    have : (LINE : Nat) = 16777216 := rfl
    omega
  case c =>
    intro x hx
    obtain ⟨i, rfl, hi⟩ := rng_mem hx
    refine ⟨[.sh (il ps), .sh (.int (i + 1 : Nat))], ?_, rfl⟩
    have e1 : atL (ps.map .int) (i : Int) = some (.int ps[i]) := at_il ps i (by omega)
    have e2 : atL (ps.map .int) ((i : Int) + 1) = some (.int ps[i + 1]) := at_il ps (i + 1) hi
    have lt : ps[i] < ps[i + 1] := List.pairwise_iff_getElem.mp hs i (i + 1) (by omega) hi (by omega)
    have e3 : decide (ps[i + 1] ≤ ps[i]) = false := decide_eq_false (by omega)
    simp only [lcF, wip, bindT, En.put]
    simp [Sl.d?, binD, binI, idxD, e1, e2, cmpD, ordI, boolV, tru, e3]
  rw [show List.filterMap (fun _ => (none : Option D)) ((rangeI 1 ps.length 1).map D.int) = [] from by simp] at e
  simp [d_rises, s_rises, En.start, e, thawL, thw, thw1]
  simp [Sl.d?, cmpD, okq, lay, lays, dep, deps, eqv, eqvs, boolV, O.cr, outsOf]
theorem lays_il : ∀ l : List Int, lays (l.map .int) = true
  | [] => rfl
  | x :: l => by simp [lays, lay, lays_il l]
theorem deps_il : ∀ l : List Int, deps (l.map .int) = 0
  | [] => rfl
  | x :: l => by simp [deps, dep, deps_il l]
theorem okq_il (l : List Int) : okq (il l) = true := by simp [okq, lay, dep, lays_il, deps_il]
theorem eqvs_il : ∀ l m : List Int, eqvs (l.map .int) (m.map .int) = decide (l = m)
  | [], [] => by simp [eqvs]
  | [], _ :: _ => by simp [eqvs]
  | _ :: _, [] => by simp [eqvs]
  | x :: l, y :: m => by
    simp only [List.map_cons, eqvs, eqv, eqvs_il l m]
    by_cases h : x = y <;> simp [h]
theorem cmp_il_eq (l m : List Int) : cmpD .Eq (il l) (il m) = some (decide (l = m)) := by
  unfold cmpD
  rw [okq_il, okq_il]
  simp [eqv, eqvs_il]
theorem cmp_il_ne (l m : List Int) : cmpD .NotEq (il l) (il m) = some (!decide (l = m)) := by
  unfold cmpD
  rw [okq_il, okq_il]
  simp [eqv, eqvs_il]
theorem cmp_il_nil (l : List Int) : cmpD .Eq (.lst (l.map .int)) (.lst []) = some (decide (l = [])) := cmp_il_eq l []
theorem cmp_il_nnil (l : List Int) : cmpD .NotEq (.lst (l.map .int)) (.lst []) = some (!decide (l = [])) := cmp_il_ne l []
theorem m_are_places (h0 : Pg 0 = some d_is_whole) (h1 : Pg 1 = some d_is_between) (h3 : Pg 3 = some d_power_of_two) (h10 : Pg 10 = some d_is_of_width) (h11 : Pg 11 = some d_rises) (h12 : Pg 12 = some d_are_places) (w : Nat) (hw : w ≤ 64) (ps : List Int) (hl : ps.length ≤ 100000) (hn : ps ≠ [])
    (hs : ps.Pairwise (· < ·)) (hr : ∀ x ∈ ps, 0 ≤ x ∧ x ≤ 2 ^ w - 1) : callD Pg fuel (k + 4) 12 [.int w, il ps] = .ok (.sh (.bl true)) [] := by
  rw [callD_eq h12 ⟨rfl, Nat.le_of_ble_eq_true rfl⟩]
  have e := lc_run (C := Cz Pg fuel (k + 3)) (e := .var 2) (t := .v 2) (it := .e (.var 1)) (ts := [.not (.val (.call 10 [.var 0, .var 2] [] []))]) (own := [2]) (r := [.sh (.int w), .sh (il ps), .no]) (r1 := [.sh (.int w), .sh (il ps), .no])
    (l := ps.map .int) (fun _ => none) ?a rfl rfl ?b ?c
  case a => simp [itemsD]
  case b =>
    have : (LINE : Nat) = 16777216 := rfl
    rw [List.length_map]
    omega
  case c =>
    intro x hx
    obtain ⟨p, hp, rfl⟩ := List.mem_map.mp hx
    refine ⟨[.sh (.int w), .sh (il ps), .sh (.int p)], ?_, rfl⟩
    have e1 := m_is_of_width h0 h1 h3 h10 fuel k w hw p
    rw [decide_eq_true (hr p hp)] at e1
    simp only [lcF, wip, bindT, En.put]
    simp [Sl.d?, callR, h10, d_is_of_width, argsOk, inouts, plains, apart, after, frzs, frz1, e1, scal, flat, chgs, tru]
  rw [show List.filterMap (fun _ => (none : Option D)) (ps.map D.int) = [] from by simp] at e
  have e2 := m_rises (fuel := fuel) (k := k + 2) h11 ps hl hs
  have e3 : cmpD .Eq (D.lst []) (D.lst []) = some true := cmp_il_eq [] []
  simp [d_are_places, s_are_places, En.start, Sl.d?, isiD, boolV, tru, cmp_il_nil, hn, e, thawL, thw, thw1, e2, e3, callR, h11, d_rises, argsOk, inouts, plains, apart, after, frzs, frz1, scal, flat, chgs, O.cr, outsOf]
theorem m_check_places (h0 : Pg 0 = some d_is_whole) (h1 : Pg 1 = some d_is_between) (h3 : Pg 3 = some d_power_of_two) (h8 : Pg 8 = some d_is_width) (h9 : Pg 9 = some d_check_width) (h10 : Pg 10 = some d_is_of_width) (h11 : Pg 11 = some d_rises) (h12 : Pg 12 = some d_are_places) (h13 : Pg 13 = some d_check_places)
    (w : Nat) (hw1 : 1 ≤ w) (hw : w ≤ 64) (ps : List Int) (hl : ps.length ≤ 100000) (hn : ps ≠ []) (hs : ps.Pairwise (· < ·)) (hr : ∀ x ∈ ps, 0 ≤ x ∧ x ≤ 2 ^ w - 1) : callD Pg fuel (k + 5) 13 [.int w, il ps] = .ok (.sh .non) [] := by
  rw [callD_eq h13 ⟨rfl, Nat.le_refl _⟩]
  have e1 := m_check_width h0 h1 h8 h9 fuel k (w : Int) (by omega)
  have e2 := m_are_places (fuel := fuel) (k := k) h0 h1 h3 h10 h11 h12 w hw ps hl hn hs hr
  simp [d_check_places, s_check_places, En.start, Sl.d?, callR, h9, h12, d_check_width, d_are_places, argsOk, inouts, plains, apart, after, frzs, frz1, e1, e2, scal, flat, chgs, tru, O.cr, outsOf]
end
end Z
/-! YD: the greedy order of places, as the def makes it. -/
namespace Z
open PySem (Str Operator CmpOp)
/-- the place of the first of the least -/
def mi : List Int → Nat
  | [] => 0
  | x :: l => if l.all (fun y => decide (x ≤ y)) then 0 else mi l + 1
/-- the sums behind a step -/
def gsum (t : Int) (sums left : List Int) : List Int := sums.zipWith (fun h p => h + (v2 (p - t) : Int)) left
/-- order and numbers from a state on -/
def gr : Nat → List Int → List Int → List Int × List Int
  | 0, _, _ => ([], [])
  | n + 1, left, sums =>
    let i := mi sums
    let t := left.getD i 0
    let q := gr n (left.eraseIdx i) (gsum t (sums.eraseIdx i) (left.eraseIdx i))
    (t :: q.1, sums.getD i 0 :: q.2)
theorem mi_t {x : Int} {l : List Int} (c : l.all (fun y => decide (x ≤ y)) = true) : mi (x :: l) = 0 := if_pos c
theorem mi_f {x : Int} {l : List Int} (c : ¬ l.all (fun y => decide (x ≤ y)) = true) : mi (x :: l) = mi l + 1 := if_neg c
theorem mi_lt : ∀ {l : List Int}, l ≠ [] → mi l < l.length
  | [], h => absurd rfl h
  | x :: l, _ => by
    unfold mi
    split
    · simp
    · rename_i h
      have : l ≠ [] := fun e => by subst e; simp at h
      have := mi_lt this
      simp
      omega
theorem gr_len : ∀ (n : Nat) (left sums : List Int), (gr n left sums).1.length = n ∧ (gr n left sums).2.length = n
  | 0, _, _ => ⟨rfl, rfl⟩
  | n + 1, left, sums => by
    obtain ⟨h1, h2⟩ := gr_len n (left.eraseIdx (mi sums)) (gsum (left.getD (mi sums) 0) (sums.eraseIdx (mi sums)) (left.eraseIdx (mi sums)))
    exact ⟨congrArg (· + 1) h1, congrArg (· + 1) h2⟩
theorem foldl_min_eq : ∀ (l : List Int) (a : Int), (∀ y ∈ l, a ≤ y) → l.foldl min a = a
  | [], _, _ => rfl
  | x :: l, a, h => by
    have := h x List.mem_cons_self
    rw [List.foldl_cons, Int.min_eq_left this]
    exact foldl_min_eq l a fun y m => h y (List.mem_cons_of_mem _ m)
theorem mi_at : ∀ {l : List Int} (h : l ≠ []), (∀ y ∈ l, l[mi l]'(mi_lt h) ≤ y) ∧ ∀ (j : Nat) (hj : j < mi l), l[j]'(Nat.lt_trans hj (mi_lt h)) ≠ l[mi l]'(mi_lt h)
  | [], h => absurd rfl h
  | x :: l, h => by
    by_cases c : l.all (fun y => decide (x ≤ y)) = true
    · have e : mi (x :: l) = 0 := mi_t c
      have c' : ∀ y ∈ l, x ≤ y := fun y m => of_decide_eq_true (List.all_eq_true.mp c y m)
      refine ⟨fun y m => ?_, fun j hj => by omega⟩
      simp only [e, List.getElem_cons_zero]
      rcases List.mem_cons.mp m with rfl | m
      · exact Int.le_refl _
      · exact c' y m
    · have e : mi (x :: l) = mi l + 1 := mi_f c
      have hl : l ≠ [] := fun z => by subst z; simp at c
      obtain ⟨h1, h2⟩ := mi_at hl
      have hx : ∃ y ∈ l, y < x := by
        refine Classical.byContradiction fun z => c (List.all_eq_true.mpr fun y m => decide_eq_true ?_)
        exact Classical.byContradiction fun w => z ⟨y, m, by omega⟩
      obtain ⟨y, my, ly⟩ := hx
      have lt : l[mi l]'(mi_lt hl) < x := Int.lt_of_le_of_lt (h1 y my) ly
      simp only [e, List.getElem_cons_succ]
      refine ⟨fun y m => ?_, fun j hj => ?_⟩
      · rcases List.mem_cons.mp m with rfl | m
        · omega
        · exact h1 y m
      · cases j with
        | zero => simp only [List.getElem_cons_zero]; omega
        | succ j => simp only [List.getElem_cons_succ]; exact h2 j (by omega)
theorem minI_mi {l : List Int} (h : l ≠ []) : minI l = some (l[mi l]'(mi_lt h)) := by
  obtain ⟨h1, _⟩ := mi_at h
  have hm := List.getElem_mem (mi_lt h)
  cases l with
  | nil => exact absurd rfl h
  | cons x r =>
    have q : minI (x :: r) = some (r.foldl min x) := rfl
    obtain ⟨b1, b2⟩ := minI_spec q
    rw [q]
    have := h1 _ b1
    have := b2 _ hm
    congr 1
    omega
theorem indexD_mi {l : List Int} (h : l ≠ []) : indexD (.int (l[mi l]'(mi_lt h))) (l.map .int) = some (mi l) := by
  obtain ⟨_, h2⟩ := mi_at h
  have hm := mi_lt h
  unfold indexD
  rw [List.find?_range_eq_some]
  refine ⟨?_, by simpa using hm, fun j hj => ?_⟩
  · simp [hm, eqv]
  · have hj2 : j < l.length := Nat.lt_trans hj hm
    have := h2 j hj
    simp [hj2, eqv, this]
theorem flat_il (l : List Int) : (l.map D.int).all flat = true := by simp [flat]
theorem mt_mi {l : List Int} (h : l ≠ []) : mtD .index (il l) [.int (l[mi l]'(mi_lt h))] = some (.int (mi l : Nat)) := by
  simp only [mtD, flat_il, flat, Bool.and_true, if_true, indexD_mi h, Option.map_some]
  rfl
theorem ixN_nat {n i : Nat} (h : i < n) : ixN n (i : Int) = some i := by
  unfold ixN
  rw [if_pos (by omega), if_pos (by omega)]
  simp
theorem erase_map : ∀ (l : List Int) (i : Nat), (l.map D.int).eraseIdx i = (l.eraseIdx i).map D.int
  | [], _ => rfl
  | _ :: _, 0 => rfl
  | x :: l, i + 1 => by simp [erase_map l i]
theorem mu_popAt_il {l : List Int} {i : Nat} (h : i < l.length) (hl : l.length ≤ LINE) : muD .popAt (il l) [.int (i : Int)] = some (il (l.eraseIdx i), .int l[i]) := by
  simp only [muD, List.length_map]
  rw [if_pos hl, ixN_nat h]
  simp [h, erase_map]
theorem shal_il (l : List Int) : shal (il l) = true := flat_il l
/-- the comprehension of good_row -/
theorem m_gsum {Pg : Nat → Option Df} {fuel k : Nat} (h4 : Pg 4 = some d_twos) (m : Nat) (hf : m + 1 ≤ fuel) (pl : D) (od nb left sums : List Int) (at_ : D) (t : Int) (hl : sums.length = left.length) (hs : sums.length ≤ 100000) (hd : ∀ p ∈ left, p ≠ t ∧ (p - t).natAbs < 2 ^ m) :
    ev (Cz Pg fuel (k + 1)) (.lc (.bin .Add (.var 7) (.call 4 [.bin .Sub (.var 8) (.var 6)] [] [])) (.t [.v 7, .v 8]) (.zip true [.var 4, .var 3]) [] [7, 8]) [.sh pl, .ow (il od), .ow (il nb), .ow (il left), .ow (il sums), .sh at_, .sh (.int t), .no, .no] =
      .ok (.ow (il (gsum t sums left))) [.sh pl, .ow (il od), .ow (il nb), .ow (il left), .ow (il sums), .sh at_, .sh (.int t), .no, .no] := by
  have e := lc_run (C := Cz Pg fuel (k + 1)) (e := .bin .Add (.var 7) (.call 4 [.bin .Sub (.var 8) (.var 6)] [] [])) (t := .t [.v 7, .v 8]) (it := .zip true [.var 4, .var 3]) (ts := []) (own := [7, 8])
    (r := [.sh pl, .ow (il od), .ow (il nb), .ow (il left), .ow (il sums), .sh at_, .sh (.int t), .no, .no]) (r1 := [.sh pl, .ow (il od), .ow (il nb), .sh (il left), .sh (il sums), .sh at_, .sh (.int t), .no, .no])
    (l := zip2D (sums.map .int) (left.map .int)) (fun d => match d with | .tup [.int h, .int p] => some (.int (h + (v2 (p - t) : Int))) | _ => none) ?a rfl rfl ?b ?c
  case a => simp [zipD, lstD, hl]
  case b =>
    have : (LINE : Nat) = 16777216 := rfl
    simp [zip2D]
    omega
  case c =>
    intro x hx
    obtain ⟨h, p, rfl, hp⟩ : ∃ h p, x = .tup [.int h, .int p] ∧ p ∈ left := by
      obtain ⟨i, hi, q⟩ := List.getElem_of_mem hx
      simp only [zip2D, List.getElem_zipWith, List.getElem_map] at q
      exact ⟨_, _, q.symm, List.getElem_mem _⟩
    obtain ⟨n1, n2⟩ := hd p hp
    have e1 := m_twos (fuel := fuel) h4 k m (p - t) (by omega) n2 hf
    refine ⟨[.sh pl, .ow (il od), .ow (il nb), .sh (il left), .sh (il sums), .sh at_, .sh (.int t), .sh (.int h), .sh (.int p)], ?_, rfl⟩
    simp only [lcF, wip, bindT, bindTs, En.put]
    simp [Sl.d?, callR, h4, d_twos, argsOk, inouts, plains, apart, after, frzs, frz1, e1, scal, flat, chgs, tru, binD, binI, En.put]
  rw [e]
  have q : List.filterMap (fun d => match d with | .tup [.int h, .int p] => some (D.int (h + (v2 (p - t) : Int))) | _ => none) (zip2D (sums.map .int) (left.map .int)) = (gsum t sums left).map .int := by
    clear e hd hl hs
    unfold zip2D gsum
    induction sums generalizing left with
    | nil => rfl
    | cons x l ih =>
      cases left with
      | nil => rfl
      | cons y m' =>
        simp only [List.map_cons, List.zipWith_cons_cons, List.filterMap_cons]
        rw [ih]
  rw [q]
  simp [thawL, thw, thw1, flat_il, shal_il]
  exact fun _ _ => rfl
end Z
/-! YE: good_row's loop. -/
namespace Z
open PySem (Str Operator CmpOp)
abbrev grC : Z.T := .val (.cmp .NotEq (.var 3) (.lst []))
abbrev grB : List S := [.asg (.v 5) (.mth .index (.var 4) [.bi .min [.var 4]]),
    .asg (.v 6) (.mut .popAt 3 [.var 5]),
    .ex (.mut .append 1 [.var 6]),
    .ex (.mut .append 2 [.mut .popAt 4 [.var 5]]),
    .asg (.v 4) (.lc (.bin .Add (.var 7) (.call 4 [.bin .Sub (.var 8) (.var 6)] [] [])) (.t [.v 7, .v 8]) (.zip true [.var 4, .var 3]) [] [7, 8])]
theorem bi_min_il {l : List Int} (h : l ≠ []) : biD .min [il l] = some (.sh (.int (l[mi l]'(mi_lt h)))) := by
  show (Z.intsD (l.map .int)).bind _ = _
  rw [ints_map]
  simp [minI_mi h]
theorem gr_step {Pg : Nat → Option Df} {fuel k : Nat} (h4 : Pg 4 = some d_twos) (m : Nat) (hf : m + 1 ≤ fuel) (pl : D) (od nb left sums : List Int) (y5 y6 : Sl) (hy : (y5 = .no ∧ y6 = .no) ∨ ∃ a b, y5 = .sh a ∧ y6 = .sh b) (hn : left ≠ []) (hl : sums.length = left.length) (hs : sums.length ≤ 100000) (ho : od.length ≤ 100000) (hb : nb.length ≤ 100000)
    (hd : ∀ p ∈ left.eraseIdx (mi sums), p ≠ left.getD (mi sums) 0 ∧ (p - left.getD (mi sums) 0).natAbs < 2 ^ m) :
    xs (Cz Pg fuel (k + 1)) grB [.sh pl, .ow (il od), .ow (il nb), .ow (il left), .ow (il sums), y5, y6, .no, .no] =
      .nx [.sh pl, .ow (il (od ++ [left.getD (mi sums) 0])), .ow (il (nb ++ [sums.getD (mi sums) 0])), .ow (il (left.eraseIdx (mi sums))), .ow (il (gsum (left.getD (mi sums) 0) (sums.eraseIdx (mi sums)) (left.eraseIdx (mi sums)))), .sh (.int (mi sums : Nat)), .sh (.int (left.getD (mi sums) 0)), .no, .no] := by
  have hns : sums ≠ [] := fun e => by subst e; simp at hl; exact hn (List.eq_nil_of_length_eq_zero hl.symm)
  have L : (LINE : Nat) = 16777216 := rfl
  have i1 := mi_lt hns
  have i2 : mi sums < left.length := by omega
  have g1 : left.getD (mi sums) 0 = left[mi sums] := by simp [i2]
  have g2 : sums.getD (mi sums) 0 = sums[mi sums] := by simp [i1]
  rw [g1] at hd
  rw [g1, g2]
  have e1 := mt_mi hns
  have e2 := mu_popAt_il (l := left) i2 (by omega)
  have e3 := mu_popAt_il (l := sums) i1 (by omega)
  have e4 := bi_min_il hns
  have e5 := m_gsum (fuel := fuel) (k := k) h4 m hf pl (od ++ [left[mi sums]]) (nb ++ [sums[mi sums]]) (left.eraseIdx (mi sums)) (sums.eraseIdx (mi sums)) (.int (mi sums : Nat)) left[mi sums] (by rw [List.length_eraseIdx_of_lt i1, List.length_eraseIdx_of_lt i2, hl]) (by rw [List.length_eraseIdx_of_lt i1]; omega) hd
  have a1 : od.length < LINE := by omega
  have a2 : nb.length < LINE := by omega
  have m1 : muD .append (il od) [.int left[mi sums]] = some (il (od ++ [left[mi sums]]), .non) := by simp [muD, a1]
  have m2 : muD .append (il nb) [.int sums[mi sums]] = some (il (nb ++ [sums[mi sums]]), .non) := by simp [muD, a2]
  rcases hy with ⟨rfl, rfl⟩ | ⟨a, b, rfl, rfl⟩ <;> simp [Sl.d?, lstB, lstAt, En.own?, En.chg, En.put, e1, e2, e3, e4, m1, m2, e5]
theorem gr_loop {Pg : Nat → Option Df} {fuel k : Nat} (h4 : Pg 4 = some d_twos) (m : Nat) (hf : m + 1 ≤ fuel) (pl : D) : ∀ (n q : Nat) (od nb left sums : List Int) (y5 y6 : Sl), ((y5 = .no ∧ y6 = .no) ∨ ∃ a b, y5 = .sh a ∧ y6 = .sh b) → left.length = n → sums.length = n → od.length + n ≤ 100000 → nb.length + n ≤ 100000 → n + 1 ≤ q →
    left.Nodup → (∀ p ∈ left, ∀ p' ∈ left, (p - p').natAbs < 2 ^ m) →
    ∃ z3 z4 z5 z6, whlL (evT (Cz Pg fuel (k + 1)) grC) (xs (Cz Pg fuel (k + 1)) grB) q [.sh pl, .ow (il od), .ow (il nb), .ow (il left), .ow (il sums), y5, y6, .no, .no] =
      .nx [.sh pl, .ow (il (od ++ (gr n left sums).1)), .ow (il (nb ++ (gr n left sums).2)), z3, z4, z5, z6, .no, .no]
  | 0, q, od, nb, left, sums, y5, y6, hy, hl, hs, _, _, hq, _, _ => by
    obtain ⟨q, rfl⟩ : ∃ p, q = p + 1 := ⟨q - 1, by omega⟩
    have e : left = [] := List.eq_nil_of_length_eq_zero hl
    subst e
    have e3 : cmpD .NotEq (il []) (D.lst []) = some false := cmp_il_ne [] []
    refine ⟨.ow (il []), .ow (il sums), y5, y6, ?_⟩
    rw [whlL]
    simp [Sl.d?, e3, boolV, tru, gr]
  | n + 1, q, od, nb, left, sums, y5, y6, hy, hl, hs, ho, hb, hq, nd, bd => by
    obtain ⟨q, rfl⟩ : ∃ p, q = p + 1 := ⟨q - 1, by omega⟩
    have hn : left ≠ [] := fun e => by subst e; simp at hl
    have hns : sums ≠ [] := fun e => by subst e; simp at hs
    have i1 := mi_lt hns
    have i2 : mi sums < left.length := by omega
    have g1 : left.getD (mi sums) 0 = left[mi sums] := by simp [i2]
    have sub : ∀ p ∈ left.eraseIdx (mi sums), p ∈ left := fun p hp => List.mem_of_mem_eraseIdx hp
    have st := gr_step (fuel := fuel) (k := k) h4 m hf pl od nb left sums y5 y6 hy hn (by omega) (by omega) (by omega) (by omega) fun p hp => by
      rw [g1]
      refine ⟨fun e => ?_, bd p (sub p hp) _ (List.getElem_mem _)⟩
      obtain ⟨j, hj, n1, e2⟩ := List.mem_eraseIdx_iff_getElem.mp hp
      rcases Nat.lt_or_gt_of_ne n1 with w | w
      · exact List.pairwise_iff_getElem.mp nd j (mi sums) hj i2 w (e2.trans e)
      · exact List.pairwise_iff_getElem.mp nd (mi sums) j i2 hj w (e2.trans e).symm
    obtain ⟨z3, z4, z5, z6, ih⟩ := gr_loop h4 m hf pl n q (od ++ [left.getD (mi sums) 0]) (nb ++ [sums.getD (mi sums) 0]) (left.eraseIdx (mi sums)) (gsum (left.getD (mi sums) 0) (sums.eraseIdx (mi sums)) (left.eraseIdx (mi sums))) (.sh (.int (mi sums : Nat))) (.sh (.int (left.getD (mi sums) 0))) (.inr ⟨_, _, rfl, rfl⟩)
      (by rw [List.length_eraseIdx_of_lt i2]; omega) (by simp only [gsum, List.length_zipWith]; rw [List.length_eraseIdx_of_lt i1, List.length_eraseIdx_of_lt i2]; omega) (by simp; omega) (by simp; omega) (by omega) (nd.eraseIdx _) (fun p hp p' hp' => bd p (sub p hp) p' (sub p' hp'))
    refine ⟨z3, z4, z5, z6, ?_⟩
    have e3 : cmpD .NotEq (il left) (D.lst []) = some true := by
      have := cmp_il_nnil left
      rw [decide_eq_false hn] at this
      exact this
    rw [whlL]
    have cnd : evT (Cz Pg fuel (k + 1)) grC [.sh pl, .ow (il od), .ow (il nb), .ow (il left), .ow (il sums), y5, y6, .no, .no] = .ok true [.sh pl, .ow (il od), .ow (il nb), .ow (il left), .ow (il sums), y5, y6, .no, .no] := by
      simp [Sl.d?, e3, boolV, tru]
    rw [cnd, R.run_ok, if_pos rfl, st, O.turn_nx, ih]
    simp [gr]
end Z
/-! YF: good_row, good_order. -/
namespace Z
open PySem (Str Operator CmpOp)
theorem line_le {n : Nat} (h : n ≤ 1000) : n ≤ LINE := Nat.le_trans h (Nat.le_of_ble_eq_true rfl)
theorem q_lstS {C : Cf} {es : List E} {r : En} (h : es.length ≤ 1000) : ev C (.lst es) r = (evs C es r).bind fun ds r1 => .ok (.ow (.lst ds)) r1 := by
  rw [q_lst]
  cases c : evs C es r with
  | ok v r1 =>
    rw [R.bind_ok, R.bind_ok, if_pos (line_le (by rw [evs_len c]; exact h))]
  | exc c v r1 => rfl
  | bad => rfl
theorem q_tupS {C : Cf} {es : List E} {r : En} (h : es.length ≤ 1000) : ev C (.tup es) r = (evs C es r).bind fun ds r1 => .ok (.sh (.tup ds)) r1 := by
  rw [q_tup]
  cases c : evs C es r with
  | ok v r1 =>
    rw [R.bind_ok, R.bind_ok, if_pos (line_le (by rw [evs_len c]; exact h))]
  | exc c v r1 => rfl
  | bad => rfl
@[simp high] theorem q_lst0 {C : Cf} {r : En} : ev C (.lst []) r = .ok (.ow (.lst [])) r := by rw [q_lstS (by simp), q_evs0, R.bind_ok]
@[simp high] theorem q_lst1 {C : Cf} {r : En} {a : E} : ev C (.lst [a]) r = (evs C [a] r).bind fun ds r1 => .ok (.ow (.lst ds)) r1 := q_lstS (by simp)
@[simp high] theorem q_lst2 {C : Cf} {r : En} {a b : E} : ev C (.lst [a, b]) r = (evs C [a, b] r).bind fun ds r1 => .ok (.ow (.lst ds)) r1 := q_lstS (by simp)
@[simp high] theorem q_lst3 {C : Cf} {r : En} {a b c : E} : ev C (.lst [a, b, c]) r = (evs C [a, b, c] r).bind fun ds r1 => .ok (.ow (.lst ds)) r1 := q_lstS (by simp)
@[simp high] theorem q_lst4 {C : Cf} {r : En} {a b c d : E} : ev C (.lst [a, b, c, d]) r = (evs C [a, b, c, d] r).bind fun ds r1 => .ok (.ow (.lst ds)) r1 := q_lstS (by simp)
@[simp high] theorem q_tup2 {C : Cf} {r : En} {a b : E} : ev C (.tup [a, b]) r = (evs C [a, b] r).bind fun ds r1 => .ok (.sh (.tup ds)) r1 := q_tupS (by simp)
@[simp high] theorem q_tup3 {C : Cf} {r : En} {a b c : E} : ev C (.tup [a, b, c]) r = (evs C [a, b, c] r).bind fun ds r1 => .ok (.sh (.tup ds)) r1 := q_tupS (by simp)
/-- an operator by its two sides; for list * int simp runs away -/
theorem bin_of {C : Cf} {op : Operator} {r r1 r2 : En} {a b : E} (x y : Nat ⊕ D) {u v : D} {w : Val} (ha : bor a (fun r => ev C a r) r = .ok x r1) (hb : bor b (fun r => ev C b r) r1 = .ok y r2) (hr : res r2 [x, y] = some [u, v]) (bm : binD op u v = some w) : ev C (.bin op a b) r = .ok w r2 := by
  rw [q_bin, ha, R.bind_ok, hb, R.bind_ok]
  unfold op2
  rw [hr]
  show R.of (binD op u v) r2 = _
  rw [bm]
  rfl
theorem flat_zeros : ∀ n : Nat, (List.replicate n [D.int 0]).flatten = (List.replicate n (0 : Int)).map .int
  | 0 => rfl
  | n + 1 => by rw [List.replicate_succ, List.replicate_succ, List.flatten_cons, flat_zeros n]; rfl
theorem bin_zeros (n : Nat) (h : n ≤ 100000) : binD .Mult (.lst [.int 0]) (.int (n : Int)) = some (.ow (il (List.replicate n 0))) := by
  have L : (LINE : Nat) = 16777216 := rfl
  have c : (n : Int).natAbs ≤ LINE ∧ [D.int 0].length * (n : Int).toNat ≤ LINE := by
    rw [Int.toNat_natCast, List.length_singleton]
    omega
  simp only [binD]
  rw [if_pos c, Int.toNat_natCast, flat_zeros]
theorem bin_zeros_ev {C : Cf} {r : En} {b : E} {n : Nat} (hb : bor b (fun r => ev C b r) r = .ok (.inr (.int n)) r) (h : n ≤ 100000) : ev C (.bin .Mult (.lst [.con (.int 0)]) b) r = .ok (.ow (il (List.replicate n 0))) r :=
  bin_of (.inr (.lst [.int 0])) (.inr (.int n)) (by simp) hb rfl (bin_zeros n h)
theorem evV_cons {C : Cf} {e : E} {es : List E} {r r1 r2 : En} {v : Val} {vs : List Val} (h : ev C e r = .ok v r1) (h2 : evV C es r1 = .ok vs r2) : evV C (e :: es) r = .ok (v :: vs) r2 := by
  rw [q_evV, h, R.bind_ok, h2, R.bind_ok]
theorem gr_puts (ps qs : List Int) : (if [1, 2, 3, 4].Nodup then O.of (puts [.sh (il ps), .no, .no, .no, .no, .no, .no, .no, .no] [1, 2, 3, 4] [.ow (.lst []), .ow (.lst []), .ow (il ps), .ow (il qs)]) else .bad) =
      .nx [.sh (il ps), .ow (il []), .ow (il []), .ow (il ps), .ow (il qs), .no, .no, .no, .no] := by
  rw [if_pos (by decide)]
  rfl
theorem gr_par {C : Cf} (ps : List Int) (hl : ps.length ≤ 50000) : x1 C (.par [1, 2, 3, 4] [.lst [], .lst [], .bi .list [.var 0], .bin .Mult (.lst [.con (.int 0)]) (.bi .len [.var 0])]) [.sh (il ps), .no, .no, .no, .no, .no, .no, .no, .no] =
      .nx [.sh (il ps), .ow (il []), .ow (il []), .ow (il ps), .ow (il (List.replicate ps.length 0)), .no, .no, .no, .no] := by
  have e4 := bin_zeros_ev (C := C) (r := [.sh (il ps), .no, .no, .no, .no, .no, .no, .no, .no]) (b := .bi .len [.var 0]) (n := ps.length) (by simp [Sl.d?, biD, lenF, lenD]) (by omega)
  have e3 : ev C (.bi .list [.var 0]) [.sh (il ps), .no, .no, .no, .no, .no, .no, .no, .no] = .ok (.ow (il ps)) [.sh (il ps), .no, .no, .no, .no, .no, .no, .no, .no] := by simp [Sl.d?, biD, listF, seqD]
  rw [q_par, evV_cons q_lst0 (evV_cons q_lst0 (evV_cons e3 (evV_cons e4 q_evV0))), R.run_ok, gr_puts]
theorem m_good_row {Pg : Nat → Option Df} {fuel k : Nat} (h4 : Pg 4 = some d_twos) (h5 : Pg 5 = some d_good_row) (m : Nat) (hf : m + 1 ≤ fuel) (ps : List Int) (hl : ps.length ≤ 50000) (hq : ps.length + 1 ≤ fuel) (nd : ps.Nodup) (bd : ∀ p ∈ ps, ∀ p' ∈ ps, (p - p').natAbs < 2 ^ m) :
    callD Pg fuel (k + 2) 5 [il ps] = .ok (.sh (.tup [il (gr ps.length ps (List.replicate ps.length 0)).1, il (gr ps.length ps (List.replicate ps.length 0)).2])) [] := by
  rw [callD_eq h5 ⟨rfl, Nat.le_of_ble_eq_true rfl⟩]
  have L : (LINE : Nat) = 16777216 := rfl
  obtain ⟨z3, z4, z5, z6, e⟩ := gr_loop (fuel := fuel) (k := k) h4 m hf (il ps) ps.length fuel [] [] ps (List.replicate ps.length 0) .no .no (.inl ⟨rfl, rfl⟩) rfl (by simp) (by simp; omega) (by simp; omega) hq nd bd
  simp only [List.nil_append] at e
  have l2 : (2 : Nat) ≤ LINE := by omega
  show (xs (Cz Pg fuel (k + 1)) (.par [1, 2, 3, 4] [.lst [], .lst [], .bi .list [.var 0], .bin .Mult (.lst [.con (.int 0)]) (.bi .len [.var 0])] :: .whl grC grB :: [.ret (.tup [.var 1, .var 2])]) [.sh (il ps), .no, .no, .no, .no, .no, .no, .no, .no]).cr [false] = _
  rw [q_xs, gr_par ps hl, O.then_nx, q_xs, q_whl]
  show (O.then (whlL (evT (Cz Pg fuel (k + 1)) grC) (xs (Cz Pg fuel (k + 1)) grB) fuel [.sh (il ps), .ow (il []), .ow (il []), .ow (il ps), .ow (il (List.replicate ps.length 0)), .no, .no, .no, .no]) _).cr [false] = _
  rw [e, O.then_nx]
  simp [O.cr, outsOf, l2]
theorem m_good_order {Pg : Nat → Option Df} {fuel k : Nat} (h0 : Pg 0 = some d_is_whole) (h1 : Pg 1 = some d_is_between) (h3 : Pg 3 = some d_power_of_two) (h4 : Pg 4 = some d_twos) (h5 : Pg 5 = some d_good_row) (h8 : Pg 8 = some d_is_width) (h9 : Pg 9 = some d_check_width) (h10 : Pg 10 = some d_is_of_width) (h11 : Pg 11 = some d_rises) (h12 : Pg 12 = some d_are_places) (h13 : Pg 13 = some d_check_places) (h96 : Pg 96 = some d_good_order)
    (w : Nat) (hw1 : 1 ≤ w) (hw : w ≤ 64) (hf : 100 ≤ fuel) (ps : List Int) (hl : ps.length ≤ 50000) (hq : ps.length + 1 ≤ fuel) (hn : ps ≠ []) (hs : ps.Pairwise (· < ·)) (hr : ∀ x ∈ ps, 0 ≤ x ∧ x ≤ 2 ^ w - 1) :
    callD Pg fuel (k + 6) 96 [.int w, il ps] = .ok (.sh (.tup [il (gr ps.length ps (List.replicate ps.length 0)).1, il (gr ps.length ps (List.replicate ps.length 0)).2])) [] := by
  rw [callD_eq h96 ⟨rfl, Nat.le_of_ble_eq_true rfl⟩]
  have e1 := m_check_width h0 h1 h8 h9 fuel (k + 1) (w : Int) (by omega)
  have e2 := m_check_places (fuel := fuel) (k := k) h0 h1 h3 h8 h9 h10 h11 h12 h13 w hw1 hw ps (by omega) hn hs hr
  have e3 := m_good_row (fuel := fuel) (k := k + 3) h4 h5 64 (by omega) ps hl hq (hs.imp fun h => Int.ne_of_lt h) fun p hp q hq => by
    have a1 := hr p hp
    have a2 := hr q hq
    have a3 : (2 : Int) ^ w ≤ 2 ^ 64 := by
      have := Nat.pow_le_pow_right (n := 2) (by omega) hw
      exact_mod_cast this
    omega
  have l2 : (2 : Nat) ≤ LINE := by decide
  simp [d_good_order, s_good_order, En.start, Sl.d?, callR, h9, h13, h5, d_check_width, d_check_places, d_good_row, argsOk, inouts, plains, apart, after, frzs, frz1, e1, e2, e3, scal, flat, chgs, tru, bindT, bindTs, En.put, biD, listF, seqD, O.cr, outsOf, l2]
end Z
/-! YG: the numbers of a row of places: halves, one place less, even steps. -/
namespace Z
/-! ### runs -/
def bump (c t : Int) (L : List (Int × Int)) : List (Int × Int) := L.map fun q => (q.1, q.2 + c + v2 (q.1 - t))
inductive Run (c : Int) : List (Int × Int) → List Int → Prop
  | nil : Run c [] []
  | cons (L A : List (Int × Int)) (t s : Int) (B : List (Int × Int)) (out : List Int) (e : L = A ++ (t, s) :: B) (h : ∀ q ∈ A ++ B, s ≤ q.2) (r : Run c (bump c t (A ++ B)) out) : Run c L (s :: out)
theorem run_low {c : Int} (hc : 0 ≤ c) {L : List (Int × Int)} {out : List Int} (r : Run c L out) : ∀ b : Int, (∀ q ∈ L, b ≤ q.2) → ∀ x ∈ out, b ≤ x := by
  induction r with
  | nil => intro b _ x hx; cases hx
  | cons L A t s B out e h r ih =>
    subst e
    intro b hb x hx
    rcases List.mem_cons.mp hx with rfl | hx
    · exact hb (t, x) (by simp)
    · refine ih b (fun q hq => ?_) x hx
      obtain ⟨q0, m, rfl⟩ := List.mem_map.mp hq
      have : b ≤ q0.2 := hb q0 (by
        rcases List.mem_append.mp m with m | m
        · exact List.mem_append_left _ m
        · exact List.mem_append_right _ (List.mem_cons_of_mem _ m))
      show b ≤ q0.2 + c + _
      omega
theorem run_sorted {c : Int} (hc : 0 ≤ c) {L : List (Int × Int)} {out : List Int} (r : Run c L out) : out.Pairwise (· ≤ ·) := by
  induction r with
  | nil => exact List.Pairwise.nil
  | cons L A t s B out e h r ih =>
    refine List.pairwise_cons.mpr ⟨fun x hx => run_low hc r s (fun q hq => ?_) x hx, ih⟩
    obtain ⟨q0, m, rfl⟩ := List.mem_map.mp hq
    have := h q0 m
    show s ≤ q0.2 + c + _
    omega
/-- a list raised by its places -/
def ea : Int → Int → List Int → List Int
  | _, _, [] => []
  | a, c, x :: l => (a + x) :: ea (a + c) c l
theorem run_shift {c : Int} {L : List (Int × Int)} {out : List Int} (r : Run c L out) : ∀ (a : Int) (L0 : List (Int × Int)), L = L0.map (fun q => (q.1, a + q.2)) → ∃ o, Run 0 L0 o ∧ out = ea a c o := by
  induction r with
  | nil =>
    intro a L0 e
    have : L0 = [] := by simpa using e.symm
    subst this
    exact ⟨[], .nil, rfl⟩
  | cons L A t s B out e h r ih =>
    intro a L0 e0
    rw [e] at e0
    obtain ⟨A0, R0, rfl, rfl, e1⟩ := List.map_eq_append_iff.mp e0.symm
    obtain ⟨q0, B0, rfl, e2, rfl⟩ := List.map_eq_cons_iff.mp e1
    obtain ⟨t0, s0⟩ := q0
    obtain ⟨rfl, rfl⟩ := Prod.mk.inj e2
    obtain ⟨o, r0, rfl⟩ := ih (a + c) (bump 0 t0 (A0 ++ B0)) (by
      unfold bump
      rw [← List.map_append, List.map_map, List.map_map]
      apply List.map_congr_left
      intro q _
      show (q.1, a + q.2 + c + (v2 (q.1 - t0) : Int)) = (q.1, a + c + (q.2 + 0 + (v2 (q.1 - t0) : Int)))
      congr 1
      omega)
    refine ⟨s0 :: o, .cons _ A0 t0 s0 B0 o rfl (fun q hq => ?_) r0, rfl⟩
    have := h (q.1, a + q.2) (by rw [← List.map_append]; exact List.mem_map.mpr ⟨q, hq, rfl⟩)
    have : a + s0 ≤ a + q.2 := this
    omega
/-! ### halves -/
def pick (b : Int) (L : List (Int × Int)) : List (Int × Int) := (L.filter fun q => decide (q.1 % 2 = b)).map fun q => (q.1 / 2, q.2)
theorem pick_app (b : Int) (A B : List (Int × Int)) : pick b (A ++ B) = pick b A ++ pick b B := by simp [pick]
theorem pick_yes {b t s : Int} (h : t % 2 = b) (B : List (Int × Int)) : pick b ((t, s) :: B) = (t / 2, s) :: pick b B := by simp [pick, h]
theorem pick_no {b t s : Int} (h : t % 2 ≠ b) (B : List (Int × Int)) : pick b ((t, s) :: B) = pick b B := by simp [pick, h]
theorem pick_same {b t : Int} (ht : t % 2 = b) : ∀ X : List (Int × Int), (∀ q ∈ X, q.1 ≠ t) → pick b (bump 0 t X) = bump 1 (t / 2) (pick b X)
  | [], _ => rfl
  | (p, h) :: X, hx => by
    have ih := pick_same ht X fun q m => hx q (List.mem_cons_of_mem _ m)
    have np : p ≠ t := hx (p, h) List.mem_cons_self
    show pick b ((p, _) :: bump 0 t X) = _
    by_cases c : p % 2 = b
    · rw [pick_yes c, pick_yes c, ih]
      show _ = (p / 2, h + 1 + (v2 (p / 2 - t / 2) : Int)) :: bump 1 (t / 2) (pick b X)
      have e : (v2 (p - t) : Int) = v2 (p / 2 - t / 2) + 1 := by
        rw [v2_even (by omega) (by omega), show (p - t) / 2 = p / 2 - t / 2 by omega]
        rfl
      show (p / 2, h + 0 + (v2 (p - t) : Int)) :: _ = _
      rw [e]
      congr 2
      omega
    · rw [pick_no c, pick_no c, ih]
theorem pick_other {b t : Int} (hb : b = 0 ∨ b = 1) (ht : t % 2 ≠ b) : ∀ X : List (Int × Int), pick b (bump 0 t X) = pick b X
  | [] => rfl
  | (p, h) :: X => by
    have ih := pick_other hb ht X
    show pick b ((p, _) :: bump 0 t X) = _
    by_cases c : p % 2 = b
    · rw [pick_yes c, pick_yes c, ih]
      congr 2
      rw [v2_odd (by omega)]
      simp
    · rw [pick_no c, pick_no c, ih]
theorem bump_fst (c t : Int) (X : List (Int × Int)) : (bump c t X).map (·.1) = X.map (·.1) := by simp [bump]
theorem pick_mem {b : Int} {X : List (Int × Int)} {q : Int × Int} (h : q ∈ pick b X) : ∃ q0 ∈ X, q0.2 = q.2 := by
  obtain ⟨q0, m, rfl⟩ := List.mem_map.mp h
  exact ⟨q0, (List.mem_filter.mp m).1, rfl⟩
theorem run_split {L : List (Int × Int)} {out : List Int} {c : Int} (r : Run c L out) : c = 0 → (L.map (·.1)).Nodup → ∃ oe oo, Run 1 (pick 0 L) oe ∧ Run 1 (pick 1 L) oo ∧ out.Perm (oe ++ oo) := by
  induction r with
  | nil => exact fun _ _ => ⟨[], [], .nil, .nil, .refl _⟩
  | cons L A t s B out e h r ih =>
    intro hc nd
    subst hc e
    have nd2 : ((A ++ B).map (·.1)).Nodup := by
      simp only [List.map_append, List.map_cons] at nd ⊢
      exact (List.perm_middle.nodup_iff.mp nd).of_cons
    have ne : ∀ q ∈ A ++ B, q.1 ≠ t := by
      simp only [List.map_append, List.map_cons] at nd
      have := (List.nodup_cons.mp (List.perm_middle.nodup_iff.mp nd)).1
      intro q hq e
      apply this
      rw [← List.map_append]
      exact List.mem_map.mpr ⟨q, hq, e⟩
    obtain ⟨oe, oo, r0, r1, p⟩ := ih rfl (by rw [bump_fst]; exact nd2)
    by_cases c : t % 2 = 0
    · rw [pick_same c _ ne] at r0
      rw [pick_other (.inr rfl) (by omega)] at r1
      refine ⟨s :: oe, oo, .cons _ (pick 0 A) (t / 2) s (pick 0 B) oe (by rw [pick_app, pick_yes c]) (fun q hq => ?_) (by rw [← pick_app]; exact r0), ?_, p.cons s⟩
      · rw [← pick_app] at hq
        obtain ⟨q0, m, e⟩ := pick_mem hq
        rw [← e]
        exact h q0 m
      · rw [pick_app, pick_no (by omega), ← pick_app]
        exact r1
    · have c1 : t % 2 = 1 := by omega
      rw [pick_same c1 _ ne] at r1
      rw [pick_other (.inl rfl) (by omega)] at r0
      refine ⟨oe, s :: oo, ?_, .cons _ (pick 1 A) (t / 2) s (pick 1 B) oo (by rw [pick_app, pick_yes c1]) (fun q hq => ?_) (by rw [← pick_app]; exact r1), (p.cons s).trans List.perm_middle.symm⟩
      · rw [pick_app, pick_no (by omega), ← pick_app]
        exact r0
      · rw [← pick_app] at hq
        obtain ⟨q0, m, e⟩ := pick_mem hq
        rw [← e]
        exact h q0 m
/-! ### by rests -/
def half (b : Int) (l : List Int) : List Int := (l.filter fun p => decide (p % 2 = b)).map (· / 2)
def br : Nat → List Int → List Int
  | 0, l => List.replicate l.length 0
  | d + 1, l => if l.length < 2 then List.replicate l.length 0 else sortI (ea 0 1 (br d (half 0 l)) ++ ea 0 1 (br d (half 1 l)))
theorem pick_fst (b : Int) (L : List (Int × Int)) : (pick b L).map (·.1) = half b (L.map (·.1)) := by
  simp only [pick, half, List.map_map, List.filter_map]
  rfl
theorem half_app (b : Int) (A B : List Int) : half b (A ++ B) = half b A ++ half b B := by simp [half]
theorem half_yes {b t : Int} (h : t % 2 = b) (B : List Int) : half b (t :: B) = t / 2 :: half b B := by simp [half, h]
theorem half_no {b t : Int} (h : t % 2 ≠ b) (B : List Int) : half b (t :: B) = half b B := by simp [half, h]
theorem half_mem {b p : Int} {l : List Int} (h : p ∈ half b l) : 2 * p + b ∈ l := by
  obtain ⟨q, m, rfl⟩ := List.mem_map.mp h
  obtain ⟨m, e⟩ := List.mem_filter.mp m
  have := of_decide_eq_true e
  rw [show 2 * (q / 2) + b = q by omega]
  exact m
theorem half_nodup {b : Int} {l : List Int} (h : l.Nodup) : (half b l).Nodup := by
  induction l with
  | nil => exact List.nodup_nil
  | cons x l ih =>
    obtain ⟨h1, h2⟩ := List.nodup_cons.mp h
    by_cases c : x % 2 = b
    · rw [half_yes c]
      refine List.nodup_cons.mpr ⟨fun m => h1 ?_, ih h2⟩
      have := half_mem m
      rw [show 2 * (x / 2) + b = x by omega] at this
      exact this
    · rw [half_no c]
      exact ih h2
theorem half_len (l : List Int) : (half 0 l).length + (half 1 l).length = l.length := by
  induction l with
  | nil => rfl
  | cons x l ih =>
    by_cases c : x % 2 = 0
    · rw [half_yes c, half_no (by omega)]
      simp only [List.length_cons]
      omega
    · rw [half_no c, half_yes (by omega)]
      simp only [List.length_cons]
      omega
/-- places within a width -/
def Wi (d : Nat) (l : List Int) : Prop := l.Nodup ∧ ∀ p ∈ l, 0 ≤ p ∧ p < 2 ^ d
theorem half_wi {d : Nat} {b : Int} (hb : b = 0 ∨ b = 1) {l : List Int} (h : Wi (d + 1) l) : Wi d (half b l) := by
  refine ⟨half_nodup h.1, fun p m => ?_⟩
  have := h.2 _ (half_mem m)
  have e : (2 : Int) ^ (d + 1) = 2 * 2 ^ d := by rw [Int.pow_succ]; omega
  rw [e] at this
  generalize (2 : Int) ^ d = z at *
  omega
theorem wi_zero {l : List Int} (h : Wi 0 l) : l.length < 2 := by
  match l, h with
  | [], _ => simp
  | [_], _ => simp
  | x :: y :: l, h =>
    have h1 := h.2 x (by simp)
    have h2 := h.2 y (by simp)
    have : x ≠ y := by
      have := (List.nodup_cons.mp h.1).1
      intro e
      apply this
      rw [e]
      simp
    simp at h1 h2
    omega
theorem run_short {c : Int} {L : List (Int × Int)} {out : List Int} (r : Run c L out) (hL : L.length < 2) (hz : ∀ q ∈ L, q.2 = 0) : out = List.replicate L.length 0 := by
  cases r with
  | nil => rfl
  | cons _ A t s B out e h r =>
    subst e
    have hA : A = [] := List.eq_nil_of_length_eq_zero (by simp at hL; omega)
    have hB : B = [] := List.eq_nil_of_length_eq_zero (by simp at hL; omega)
    subst hA hB
    have : s = 0 := hz (t, s) (by simp)
    subst this
    cases r with
    | nil => rfl
    | cons _ A' t' s' B' out' e' _ _ => simp [bump] at e'
theorem run_br : ∀ (d : Nat) (L : List (Int × Int)) (out : List Int), Run 0 L out → (∀ q ∈ L, q.2 = 0) → Wi d (L.map (·.1)) → out = br d (L.map (·.1))
  | 0, L, out, r, hz, hw => by
    have := wi_zero hw
    simp at this
    rw [run_short r this hz]
    simp [br]
  | d + 1, L, out, r, hz, hw => by
    by_cases c : L.length < 2
    · rw [run_short r c hz]
      simp [br, c]
    · have c' : ¬ (L.map (·.1)).length < 2 := by simpa using c
      rw [br, if_neg c']
      obtain ⟨oe, oo, r0, r1, p⟩ := run_split r rfl hw.1
      have z0 : ∀ b, ∀ q ∈ pick b L, q.2 = 0 := fun b q m => by
        obtain ⟨q0, m0, e⟩ := pick_mem m
        rw [← e]
        exact hz q0 m0
      have id0 : ∀ M : List (Int × Int), M = M.map (fun q => (q.1, 0 + q.2)) := fun M => by simp
      obtain ⟨e0, s0, rfl⟩ := run_shift r0 0 (pick 0 L) (id0 _)
      obtain ⟨e1, s1, rfl⟩ := run_shift r1 0 (pick 1 L) (id0 _)
      have q0 := run_br d _ _ s0 (z0 0) (by rw [pick_fst]; exact half_wi (.inl rfl) hw)
      have q1 := run_br d _ _ s1 (z0 1) (by rw [pick_fst]; exact half_wi (.inr rfl) hw)
      rw [pick_fst] at q0 q1
      rw [← q0, ← q1]
      exact sortI_uniq p (run_sorted (Int.le_refl 0) r)
theorem gr_run : ∀ (n : Nat) (left sums : List Int), left.length = n → sums.length = n → Run 0 (left.zip sums) (gr n left sums).2
  | 0, left, sums, hl, _ => by
    have : left = [] := List.eq_nil_of_length_eq_zero hl
    subst this
    exact .nil
  | n + 1, left, sums, hl, hs => by
    have hns : sums ≠ [] := fun e => by subst e; simp at hs
    have i1 := mi_lt hns
    have i2 : mi sums < left.length := by omega
    obtain ⟨m1, _⟩ := mi_at hns
    have hz : mi sums < (left.zip sums).length := by simp; omega
    have ih := gr_run n (left.eraseIdx (mi sums)) (gsum (left.getD (mi sums) 0) (sums.eraseIdx (mi sums)) (left.eraseIdx (mi sums))) (by rw [List.length_eraseIdx_of_lt i2]; omega)
      (by simp only [gsum, List.length_zipWith]; rw [List.length_eraseIdx_of_lt i1, List.length_eraseIdx_of_lt i2]; omega)
    have g1 : left.getD (mi sums) 0 = left[mi sums] := by simp [i2]
    have g2 : sums.getD (mi sums) 0 = sums[mi sums] := by simp [i1]
    have er : ∀ (i : Nat) (l m : List Int), l.length = m.length → (l.zip m).take i ++ (l.zip m).drop (i + 1) = (l.eraseIdx i).zip (m.eraseIdx i) := by
      intro i l
      induction l generalizing i with
      | nil => intro m e; have : m = [] := List.eq_nil_of_length_eq_zero e.symm; subst this; simp
      | cons x l ih =>
        intro m e
        cases m with
        | nil => simp at e
        | cons y m =>
          cases i with
          | zero => simp
          | succ i => simpa using ih i m (by simpa using e)
    have bz : ∀ (t : Int) (l m : List Int), l.zip (gsum t m l) = bump 0 t (l.zip m) := by
      intro t l
      induction l with
      | nil => intro m; simp [bump]
      | cons x l ih =>
        intro m
        cases m with
        | nil => simp [gsum, bump]
        | cons y m =>
          have := ih m
          simp only [gsum, bump, List.zipWith_cons_cons, List.zip_cons_cons, List.map_cons] at this ⊢
          rw [this]
          simp
    rw [bz] at ih
    show Run 0 (left.zip sums) (sums.getD (mi sums) 0 :: _)
    refine .cons _ ((left.zip sums).take (mi sums)) (left.getD (mi sums) 0) (sums.getD (mi sums) 0) ((left.zip sums).drop (mi sums + 1)) _ ?_ ?_ ?_
    · rw [g1, g2]
      have := List.take_append_drop (mi sums) (left.zip sums)
      rw [List.drop_eq_getElem_cons hz, List.getElem_zip] at this
      exact this.symm
    · intro q hq
      rw [g2]
      refine m1 _ ?_
      have : q ∈ left.zip sums := by
        rcases List.mem_append.mp hq with h | h
        · exact List.mem_of_mem_take h
        · exact List.mem_of_mem_drop h
      exact (List.of_mem_zip this).2
    · rw [er _ _ _ (by omega)]
      exact ih
/-- the numbers of a row of places -/
def nums (ps : List Int) : List Int := (gr ps.length ps (List.replicate ps.length 0)).2
theorem zip_fst : ∀ (l m : List Int), l.length = m.length → (l.zip m).map (·.1) = l
  | [], _, _ => rfl
  | x :: l, [], h => by simp at h
  | x :: l, y :: m, h => by simp [zip_fst l m (by simpa using h)]
theorem nums_br {d : Nat} {ps : List Int} (h : Wi d ps) : nums ps = br d ps := by
  have r := gr_run ps.length ps (List.replicate ps.length 0) rfl (by simp)
  have f := zip_fst ps (List.replicate ps.length 0) (by simp)
  have := run_br d _ _ r (fun q m => by
    have := (List.of_mem_zip m).2
    exact List.eq_of_mem_replicate this) (by rw [f]; exact h)
  rw [f] at this
  exact this
end Z
namespace Z
/-! ### interlacing -/
def cnt (l : List Int) (c : Int) : Nat := l.countP fun x => decide (x ≤ c)
theorem cnt_cons (x : Int) (l : List Int) (c : Int) : cnt (x :: l) c = cnt l c + if x ≤ c then 1 else 0 := by
  unfold cnt
  rw [List.countP_cons]
  simp
theorem cnt_app (l m : List Int) (c : Int) : cnt (l ++ m) c = cnt l c + cnt m c := List.countP_append
theorem cnt_perm {l m : List Int} (p : l.Perm m) (c : Int) : cnt l c = cnt m c := p.countP_eq _
theorem cnt_ge : ∀ (l : List Int) (i : Nat) (h : i < l.length) (c : Int), l.Pairwise (· ≤ ·) → l[i] ≤ c → i + 1 ≤ cnt l c
  | x :: l, 0, _, c, _, k => by
    have : x ≤ c := k
    rw [cnt_cons, if_pos this]
    omega
  | x :: l, i + 1, h, c, s, k => by
    obtain ⟨s1, s2⟩ := List.pairwise_cons.mp s
    have k' : l[i]'(by simpa using h) ≤ c := k
    have := cnt_ge l i (by simpa using h) c s2 k'
    have := s1 _ (List.getElem_mem (l := l) (n := i) (by simpa using h))
    rw [cnt_cons, if_pos (by omega)]
    omega
theorem cnt_none : ∀ (l : List Int) (c : Int), (∀ x ∈ l, c < x) → cnt l c = 0
  | [], _, _ => rfl
  | x :: l, c, h => by
    have := h x List.mem_cons_self
    rw [cnt_cons, if_neg (by omega), cnt_none l c fun y m => h y (List.mem_cons_of_mem _ m)]
theorem cnt_le : ∀ (l : List Int) (i : Nat) (h : i < l.length) (c : Int), l.Pairwise (· ≤ ·) → c < l[i] → cnt l c ≤ i
  | x :: l, 0, _, c, s, k => by
    have k : c < x := k
    obtain ⟨s1, _⟩ := List.pairwise_cons.mp s
    rw [cnt_none (x :: l) c fun y m => by
      rcases List.mem_cons.mp m with rfl | m
      · exact k
      · have := s1 y m
        omega]
    exact Nat.le_refl _
  | x :: l, i + 1, h, c, s, k => by
    obtain ⟨_, s2⟩ := List.pairwise_cons.mp s
    have k' : c < l[i]'(by simpa using h) := k
    have := cnt_le l i (by simpa using h) c s2 k'
    rw [cnt_cons]
    split <;> omega
/-- a has one more than b, and they lie one between the others -/
def Inter (a b : List Int) : Prop := ∀ c, cnt b c ≤ cnt a c ∧ cnt a c ≤ cnt b c + 1
def Pw (a b : List Int) : Prop := ∀ (i : Nat) (h : i < b.length) (h2 : i + 1 < a.length), a[i] ≤ b[i] ∧ b[i] ≤ a[i + 1]
theorem inter_pw {a b : List Int} (sa : a.Pairwise (· ≤ ·)) (sb : b.Pairwise (· ≤ ·)) (k : Inter a b) : Pw a b := by
  intro i h h2
  refine ⟨Classical.byContradiction fun n => ?_, Classical.byContradiction fun n => ?_⟩
  · have h1 := cnt_ge b i h b[i] sb (Int.le_refl _)
    have h3 := cnt_le a i (by omega) b[i] sa (by omega)
    have := (k b[i]).1
    omega
  · have h1 := cnt_ge a (i + 1) h2 a[i + 1] sa (Int.le_refl _)
    have h3 := cnt_le b i h a[i + 1] sb (by omega)
    have := (k a[i + 1]).2
    omega
theorem cnt_dom : ∀ (a b : List Int) (c : Int), b.length ≤ a.length → (∀ (i : Nat) (h : i < b.length) (h2 : i < a.length), a[i] ≤ b[i]) → cnt b c ≤ cnt a c
  | _, [], _, _, _ => Nat.zero_le _
  | [], _ :: _, _, h, _ => by simp at h
  | x :: a, y :: b, c, h, k => by
    have h0 : x ≤ y := k 0 (by simp) (by simp)
    have ih := cnt_dom a b c (by simpa using h) fun i h1 h2 => k (i + 1) (by simpa using h1) (by simpa using h2)
    rw [cnt_cons, cnt_cons]
    split <;> split <;> omega
theorem pw_inter {a b : List Int} (hl : a.length = b.length + 1) (k : Pw a b) : Inter a b := by
  intro c
  refine ⟨cnt_dom a b c (by omega) fun i h _ => (k i h (by omega)).1, ?_⟩
  cases a with
  | nil => simp at hl
  | cons x a =>
    have hl : a.length = b.length := by simpa using hl
    have := cnt_dom b a c (by omega) fun i h h2 => (k i h2 (by simp; omega)).2
    rw [cnt_cons]
    split <;> omega
theorem ea_len : ∀ (a c : Int) (l : List Int), (ea a c l).length = l.length
  | _, _, [] => rfl
  | a, c, x :: l => by simp [ea, ea_len]
theorem ea_get : ∀ (a c : Int) (l : List Int) (i : Nat) (h : i < (ea a c l).length), (ea a c l)[i] = a + c * i + l[i]'(by rw [ea_len] at h; exact h)
  | a, c, x :: l, 0, h => by simp [ea]
  | a, c, x :: l, i + 1, h => by
    have := ea_get (a + c) c l i (by simpa [ea] using h)
    simp only [ea, List.getElem_cons_succ, this]
    rw [show ((i + 1 : Nat) : Int) = (i : Int) + 1 from rfl, Int.mul_add]
    omega
theorem pw_ea {a b : List Int} {x : Int} (k : Pw a b) : Pw (ea x 1 a) (ea x 1 b) := by
  intro i h h2
  rw [ea_get, ea_get, ea_get]
  rw [ea_len] at h h2
  have := k i h h2
  omega
theorem sortI_perm (ns : List Int) : (sortI ns).Perm ns := List.mergeSort_perm ns _
theorem sortI_len (l : List Int) : (sortI l).length = l.length := (List.mergeSort_perm l _).length_eq
theorem sortI_sorted (l : List Int) : (sortI l).Pairwise (· ≤ ·) := by
  have h2 : (sortI l).Pairwise (fun a b => decide (a ≤ b) = true) := List.pairwise_mergeSort (fun a b c h h' => by simp only [decide_eq_true_eq] at *; omega) (fun a b => by simp only [Bool.or_eq_true, decide_eq_true_eq]; omega) l
  exact h2.imp fun h => of_decide_eq_true h
theorem zeros_sorted (n : Nat) : (List.replicate n (0 : Int)).Pairwise (· ≤ ·) := List.pairwise_replicate.mpr (.inr (Int.le_refl _))
theorem br_sorted : ∀ (d : Nat) (l : List Int), (br d l).Pairwise (· ≤ ·)
  | 0, l => zeros_sorted _
  | d + 1, l => by
    rw [br]
    split
    · exact zeros_sorted _
    · exact sortI_sorted _
theorem br_len : ∀ (d : Nat) (l : List Int), (br d l).length = l.length
  | 0, l => by simp [br]
  | d + 1, l => by
    rw [br]
    split
    · simp
    · rw [sortI_len, List.length_append, ea_len, ea_len, br_len, br_len, half_len]
theorem br_nil : ∀ d, br d [] = []
  | 0 => rfl
  | d + 1 => by simp [br]
theorem br_one (d : Nat) (x : Int) : br d [x] = [0] := by
  cases d <;> simp [br]
theorem br_eq (d : Nat) (l : List Int) : br (d + 1) l = sortI (ea 0 1 (br d (half 0 l)) ++ ea 0 1 (br d (half 1 l))) := by
  match l with
  | [] =>
    have h : ∀ b, half b [] = [] := fun _ => rfl
    rw [h, h, br_nil, br_nil]
    exact sortI_uniq (ns := []) (.refl _) List.Pairwise.nil
  | [x] =>
    rw [br_one]
    by_cases c : x % 2 = 0
    · rw [half_yes c, half_no (by omega)]
      have h : ∀ b, half b [] = [] := fun _ => rfl
      rw [h, h, br_nil, br_one]
      exact sortI_uniq (.refl _) (by simp [ea])
    · rw [half_no c, half_yes (by omega)]
      have h : ∀ b, half b [] = [] := fun _ => rfl
      rw [h, h, br_nil, br_one]
      exact sortI_uniq (.refl _) (by simp [ea])
  | x :: y :: l => rw [br, if_neg (by simp)]
theorem half_perm {b : Int} {l m : List Int} (p : l.Perm m) : (half b l).Perm (half b m) := (p.filter _).map _
theorem br_perm : ∀ (d : Nat) {l m : List Int}, l.Perm m → br d l = br d m
  | 0, l, m, p => by rw [br, br, p.length_eq]
  | d + 1, l, m, p => by rw [br_eq, br_eq, br_perm d (half_perm p), br_perm d (half_perm p)]
/-- one place less -/
theorem br_less : ∀ (d : Nat) (l1 l2 : List Int) (x : Int), Wi d (l1 ++ x :: l2) → Inter (br d (l1 ++ x :: l2)) (br d (l1 ++ l2))
  | 0, l1, l2, x, h => by
    have := wi_zero h
    simp at this
    have e1 : l1 = [] := List.eq_nil_of_length_eq_zero (by omega)
    have e2 : l2 = [] := List.eq_nil_of_length_eq_zero (by omega)
    subst e1 e2
    intro c
    simp only [br, cnt, List.nil_append]
    simp
    split <;> omega
  | d + 1, l1, l2, x, h => by
    have step : ∀ b : Int, b = 0 ∨ b = 1 → x % 2 = b → Inter (ea 0 1 (br d (half b (l1 ++ x :: l2)))) (ea 0 1 (br d (half b (l1 ++ l2)))) := by
      intro b hb e
      have w := half_wi hb h
      rw [half_app, half_yes e] at w ⊢
      rw [half_app]
      have ih := br_less d (half b l1) (half b l2) (x / 2) w
      have := inter_pw (br_sorted _ _) (br_sorted _ _) ih
      refine pw_inter ?_ (pw_ea this)
      rw [ea_len, ea_len, br_len, br_len]
      simp
      omega
    rw [br_eq, br_eq]
    intro c
    rw [cnt_perm (sortI_perm _), cnt_perm (sortI_perm _), cnt_app, cnt_app]
    by_cases e : x % 2 = 0
    · have h1 := step 0 (.inl rfl) e c
      have h2 : half 1 (l1 ++ x :: l2) = half 1 (l1 ++ l2) := by rw [half_app, half_app, half_no (by omega)]
      rw [h2]
      omega
    · have h1 := step 1 (.inr rfl) (by omega) c
      have h2 : half 0 (l1 ++ x :: l2) = half 0 (l1 ++ l2) := by rw [half_app, half_app, half_no (by omega)]
      rw [h2]
      omega
theorem br_less_pw {d : Nat} {l1 l2 : List Int} {x : Int} (h : Wi d (l1 ++ x :: l2)) : Pw (br d (l1 ++ x :: l2)) (br d (l1 ++ l2)) := inter_pw (br_sorted _ _) (br_sorted _ _) (br_less d l1 l2 x h)
theorem wi_perm {d : Nat} {l m : List Int} (p : l.Perm m) (h : Wi d l) : Wi d m := ⟨p.nodup_iff.mp h.1, fun x hx => h.2 x (p.mem_iff.mpr hx)⟩
theorem br_more_pw {d : Nat} {l m : List Int} {x : Int} (h : Wi d m) (p : m.Perm (l ++ [x])) : Pw (br d m) (br d l) := by
  rw [br_perm d p]
  have := br_less_pw (d := d) (l1 := l) (l2 := []) (x := x) (wi_perm p h)
  simpa using this
/-! ### even steps -/
def fa : Nat → Nat
  | 0 => 0
  | n + 1 => fa n + v2 ((n + 1 : Nat) : Int)
theorem fa_two : ∀ n : Nat, fa (2 * n) = n + fa n
  | 0 => rfl
  | n + 1 => by
    have e : fa (2 * (n + 1)) = fa (2 * n) + v2 ((2 * n + 1 : Nat) : Int) + v2 ((2 * n + 2 : Nat) : Int) := rfl
    rw [e, fa_two n, v2_odd (by omega), v2_even (by omega) (by omega)]
    have : ((2 * n + 2 : Nat) : Int) / 2 = ((n + 1 : Nat) : Int) := by omega
    rw [this]
    show _ = n + 1 + (fa n + v2 ((n + 1 : Nat) : Int))
    omega
theorem fa_odd (n : Nat) : fa (2 * n + 1) = n + fa n := by
  show fa (2 * n) + v2 ((2 * n + 1 : Nat) : Int) = _
  rw [fa_two, v2_odd (by omega)]
  rfl
theorem fa_half (n : Nat) : fa n = n / 2 + fa (n / 2) := by
  rcases Nat.mod_two_eq_zero_or_one n with h | h
  · have := fa_two (n / 2)
    rw [show 2 * (n / 2) = n by omega] at this
    exact this
  · have := fa_odd (n / 2)
    rw [show 2 * (n / 2) + 1 = n by omega] at this
    exact this
/-- the numbers of neighbours at a step -/
def fl (t n : Nat) : List Int := (List.range n).map fun i => ((fa i + t * i : Nat) : Int)
def ap (a s : Int) (n : Nat) : List Int := (List.range n).map fun i => a + s * (i : Nat)
theorem fa_mono (n : Nat) : fa n ≤ fa (n + 1) := Nat.le_add_right _ _
theorem fl_sorted (t n : Nat) : (fl t n).Pairwise (· ≤ ·) := by
  have mono : ∀ i j : Nat, i ≤ j → fa i ≤ fa j := by
    intro i j h
    induction h with
    | refl => exact Nat.le_refl _
    | step h ih => exact Nat.le_trans ih (fa_mono _)
  refine List.pairwise_map.mpr (List.pairwise_lt_range.imp fun {i j} h => ?_)
  have h1 := mono i j (by omega)
  have h2 : t * i ≤ t * j := Nat.mul_le_mul_left t (by omega)
  omega
theorem ap_succ (a s : Int) (n : Nat) : ap a s (n + 1) = ap a s n ++ [a + s * (n : Nat)] := by simp [ap, List.range_succ]
theorem fl_succ (t n : Nat) : fl t (n + 1) = fl t n ++ [((fa n + t * n : Nat) : Int)] := by simp [fl, List.range_succ]
theorem ea_fl_get (t n : Nat) : ea 0 1 (fl t n) = (List.range n).map fun i => ((i + (fa i + t * i) : Nat) : Int) := by
  apply List.ext_getElem
  · rw [ea_len]
    simp [fl]
  · intro i h1 h2
    rw [ea_get]
    simp [fl]
/-- a step that is even -/
theorem ea_fl (t n : Nat) : ea 0 1 (fl t n) = fl (t + 1) n := by
  rw [ea_fl_get]
  unfold fl
  apply List.map_congr_left
  intro i _
  congr 1
  rw [Nat.add_mul]
  omega
/-- a step that is odd -/
theorem fl_halves (n : Nat) : (ea 0 1 (fl 0 ((n + 1) / 2)) ++ ea 0 1 (fl 0 (n / 2))).Perm (fl 0 n) := by
  rw [ea_fl_get, ea_fl_get]
  induction n with
  | zero => exact .refl _
  | succ n ih =>
    rw [fl_succ]
    have e := fa_half n
    rcases Nat.mod_two_eq_zero_or_one n with h | h
    · rw [show (n + 1 + 1) / 2 = n / 2 + 1 by omega, show (n + 1) / 2 = n / 2 by omega] at *
      rw [List.range_succ, List.map_append]
      refine List.Perm.trans ?_ (ih.append_right _)
      rw [List.append_assoc, List.append_assoc]
      refine List.Perm.append_left _ ?_
      rw [e]
      simp only [List.map_cons, List.map_nil, Nat.zero_mul, Nat.add_zero]
      exact List.perm_append_comm
    · rw [show (n + 1 + 1) / 2 = n / 2 + 1 by omega, show (n + 1) / 2 = n / 2 + 1 by omega] at *
      have e2 : List.map (fun i => ((i + (fa i + 0 * i) : Nat) : Int)) (List.range (n / 2 + 1)) = List.map (fun i => ((i + (fa i + 0 * i) : Nat) : Int)) (List.range (n / 2)) ++ [((fa n + 0 * n : Nat) : Int)] := by
        rw [List.range_succ, List.map_append, e]
        simp
      have := ih.append_right [((fa n + 0 * n : Nat) : Int)]
      rw [List.append_assoc, ← e2] at this
      exact this
theorem half_ap_even {a s : Int} {b : Int} (hs : s % 2 = 0) (n : Nat) : half b (ap a s n) = if a % 2 = b then ap (a / 2) (s / 2) n else [] := by
  induction n with
  | zero => split <;> rfl
  | succ n ih =>
    rw [ap_succ, half_app, ih]
    have e : (a + s * (n : Nat)) % 2 = a % 2 := by
      have : s = 2 * (s / 2) := by omega
      rw [this, Int.mul_assoc]
      generalize s / 2 * (n : Int) = z
      omega
    have e2 : (a + s * (n : Nat)) / 2 = a / 2 + s / 2 * (n : Nat) := by
      have : s = 2 * (s / 2) := by omega
      conv => lhs; rw [this, Int.mul_assoc]
      generalize s / 2 * (n : Int) = z
      omega
    by_cases c : a % 2 = b
    · rw [if_pos c, if_pos c, half_yes (by rw [e]; exact c), e2, ap_succ]
      rfl
    · rw [if_neg c, if_neg c, half_no (by rw [e]; exact c)]
      rfl
theorem half_ap_odd {a s : Int} (hs : s % 2 = 1) (n : Nat) : half (a % 2) (ap a s n) = ap (a / 2) s ((n + 1) / 2) ∧ half ((a + 1) % 2) (ap a s n) = ap ((a + s) / 2) s (n / 2) := by
  induction n with
  | zero => exact ⟨rfl, rfl⟩
  | succ n ih =>
    obtain ⟨i1, i2⟩ := ih
    rw [ap_succ, half_app, half_app, i1, i2]
    have e0 : s = 2 * (s / 2) + 1 := by omega
    rcases Nat.mod_two_eq_zero_or_one n with h | h
    · obtain ⟨m, rfl⟩ : ∃ m, n = 2 * m := ⟨n / 2, by omega⟩
      have e : s * ((2 * m : Nat) : Int) = 2 * (s * (m : Nat)) := by
        rw [show ((2 * m : Nat) : Int) = 2 * (m : Int) by omega, Int.mul_left_comm]
      rw [half_yes (by omega), half_no (by omega), show (2 * m + 1 + 1) / 2 = m + 1 by omega, show (2 * m + 1) / 2 = m by omega, show 2 * m / 2 = m by omega, ap_succ, e,
        show (a + 2 * (s * (m : Nat))) / 2 = a / 2 + s * (m : Nat) by omega]
      exact ⟨rfl, by simp [half]⟩
    · obtain ⟨m, rfl⟩ : ∃ m, n = 2 * m + 1 := ⟨n / 2, by omega⟩
      have e : s * ((2 * m + 1 : Nat) : Int) = 2 * (s * (m : Nat)) + s := by
        rw [show ((2 * m + 1 : Nat) : Int) = 2 * (m : Int) + 1 by omega, Int.mul_add, Int.mul_left_comm]
        omega
      rw [half_no (by omega), half_yes (by omega), show (2 * m + 1 + 1 + 1) / 2 = m + 1 by omega, show (2 * m + 1 + 1) / 2 = m + 1 by omega, show (2 * m + 1) / 2 = m by omega, ap_succ ((a + s) / 2), e,
        show (a + (2 * (s * (m : Nat)) + s)) / 2 = (a + s) / 2 + s * (m : Nat) by omega]
      exact ⟨by simp [half], rfl⟩
theorem ap_len (a s : Int) (n : Nat) : (ap a s n).length = n := by simp [ap]
/-- the numbers of places at an even step -/
theorem br_ap : ∀ (d : Nat) (t : Nat) (a s : Int) (n : Nat), s % 2 = 1 → Wi d (ap a (2 ^ t * s) n) → br d (ap a (2 ^ t * s) n) = fl t n
  | 0, t, a, s, n, _, h => by
    have := wi_zero h
    rw [ap_len] at this
    match n, this with
    | 0, _ => rfl
    | 1, _ => simp [br, ap_len, fl, fa]
  | d + 1, 0, a, s, n, hs, h => by
    rw [show (2 : Int) ^ 0 * s = s by simp] at *
    rw [br_eq]
    obtain ⟨h1, h2⟩ := half_ap_odd (a := a) hs n
    have w0 := half_wi (b := a % 2) (by omega) h
    have w1 := half_wi (b := (a + 1) % 2) (by omega) h
    rw [h1] at w0
    rw [h2] at w1
    have b0 := br_ap d 0 (a / 2) s ((n + 1) / 2) hs (by rw [show (2 : Int) ^ 0 * s = s by simp]; exact w0)
    have b1 := br_ap d 0 ((a + s) / 2) s (n / 2) hs (by rw [show (2 : Int) ^ 0 * s = s by simp]; exact w1)
    rw [show (2 : Int) ^ 0 * s = s by simp] at b0 b1
    refine (sortI_uniq ?_ (fl_sorted 0 n)).symm
    by_cases c : a % 2 = 0
    · rw [c] at h1
      rw [show (a + 1) % 2 = 1 by omega] at h2
      rw [h1, h2, b0, b1]
      exact (fl_halves n).symm
    · rw [show a % 2 = 1 by omega] at h1
      rw [show (a + 1) % 2 = 0 by omega] at h2
      rw [h1, h2, b0, b1]
      exact ((List.perm_append_comm).trans (fl_halves n)).symm
  | d + 1, t + 1, a, s, n, hs, h => by
    have e : (2 : Int) ^ (t + 1) * s = 2 * (2 ^ t * s) := by rw [Int.pow_succ, Int.mul_comm (2 ^ t) 2, Int.mul_assoc]
    have e2 : (2 : Int) ^ (t + 1) * s % 2 = 0 := by rw [e]; omega
    have e3 : (2 : Int) ^ (t + 1) * s / 2 = 2 ^ t * s := by rw [e]; omega
    rw [br_eq, half_ap_even e2, half_ap_even e2, e3]
    have w := half_wi (b := a % 2) (by omega) h
    rw [half_ap_even e2, if_pos rfl, e3] at w
    have ih := br_ap d t (a / 2) s n hs w
    refine (sortI_uniq ?_ (fl_sorted (t + 1) n)).symm
    by_cases c : a % 2 = 0
    · rw [if_pos c, if_neg (by omega), ih, br_nil, ea_fl]
      simp [ea]
    · rw [if_neg c, if_pos (by omega), ih, br_nil, ea_fl]
      simp [ea]
end Z
/-! YH: more simp rules; what a law draws: cell, hash, generator, random. -/
namespace Z
open PySem (Str Operator CmpOp)
section
variable {r : En} {ms : List Bool} {l l2 : List (Nat ⊕ D)} {x : Nat ⊕ D} {i j : Nat} {is js : List Nat} {d d2 : D} {ds ds2 : List D} {a b : Int} {v : Val}
@[simp] theorem qa_nil : argsOk r [] [] = true := rfl
@[simp] theorem qa_io : argsOk r (true :: ms) (.inl i :: l) = ((r.own? i).isSome && argsOk r ms l) := rfl
@[simp] theorem qa_pl : argsOk r (false :: ms) (x :: l) = argsOk r ms l := by cases x <;> rfl
@[simp] theorem qn_nil : inouts [] l = [] := rfl
@[simp] theorem qn_io : inouts (true :: ms) (.inl i :: l) = i :: inouts ms l := rfl
@[simp] theorem qn_pl : inouts (false :: ms) (x :: l) = inouts ms l := by cases x <;> rfl
@[simp] theorem qp_nil : plains [] l = [] := by cases l <;> rfl
@[simp] theorem qp_io : plains (true :: ms) (x :: l) = plains ms l := by cases x <;> rfl
@[simp] theorem qp_pl : plains (false :: ms) (.inl i :: l) = i :: plains ms l := rfl
@[simp] theorem qp_pr : plains (false :: ms) (.inr d :: l) = plains ms l := rfl
@[simp] theorem q_apart : apart is js = (decide is.Nodup && is.all fun i => !js.contains i) := rfl
@[simp] theorem q_frzs0 : frzs r [] = some r := rfl
@[simp] theorem q_frzs : frzs r (i :: is) = (frz1 r i).bind fun r1 => frzs r1 is := rfl
@[simp] theorem q_frz1 : frz1 r i = match r[i]? with | some (.ow d) => some (r.set i (.sh d)) | some (.io _) => none | _ => some r := by unfold frz1; rfl
@[simp] theorem q_chgs0 : chgs r [] [] = some r := rfl
@[simp] theorem q_chgs : chgs r (i :: is) (d :: ds) = (r.chg i d).bind fun r1 => chgs r1 is ds := rfl
@[simp] theorem q_put : r.put i v = match r[i]? with | some (.io _) => none | some _ => some (r.set i v.sl) | none => none := by unfold En.put; rfl
@[simp] theorem q_chg : r.chg i d = match r[i]? with | some (.ow _) => some (r.set i (.ow d)) | some (.io _) => some (r.set i (.io d)) | _ => none := by unfold En.chg; rfl
@[simp] theorem q_own : r.own? i = match r[i]? with | some (.ow d) => some d | some (.io d) => some d | _ => none := by unfold En.own?; rfl
@[simp] theorem q_sl0 : Sl.d? .no = none := rfl
@[simp] theorem q_sl1 : Sl.d? (.sh d) = some d := rfl
@[simp] theorem q_sl2 : Sl.d? (.ow d) = some d := rfl
@[simp] theorem q_sl3 : Sl.d? (.io d) = some d := rfl
@[simp] theorem q_after_ok : after r ms l (.ok v ds) = match frzs r (plains ms l) with
    | none => .bad
    | some rf => if scal v.d && ds.all shal then
        (match chgs r (inouts ms l) ds with | some r1 => .ok v r1 | none => .bad)
      else (match chgs rf (inouts ms l) ds with | some r1 => .ok v r1 | none => .bad) := by
  unfold after
  cases frzs r (plains ms l) <;> rfl
@[simp] theorem q_callR {c : List D → CR} : callR ms c l r = if argsOk r ms l && apart (inouts ms l) (plains ms l) && decide (ms.length = l.length) then
    (match res r l with
      | some ds => after r ms l (c ds)
      | none => .bad) else .bad := by
  unfold callR
  split <;> rfl
@[simp] theorem q_scal : scal d = flat d := rfl
@[simp] theorem flat_non : flat .non = true := rfl
@[simp] theorem flat_bl {k : Bool} : flat (.bl k) = true := rfl
@[simp] theorem flat_int : flat (.int a) = true := rfl
@[simp] theorem flat_str {s : Str} : flat (.str s) = true := rfl
@[simp] theorem flat_lst : flat (.lst ds) = false := rfl
@[simp] theorem flat_tup : flat (.tup ds) = false := rfl
@[simp] theorem shal_lst : shal (.lst ds) = ds.all flat := rfl
@[simp] theorem outs0 {n : Nat} : outsOf r n [] = some [] := rfl
@[simp] theorem outsT {n : Nat} : outsOf r n (true :: ms) = match r[n]? with | some (.io d) => (outsOf r (n + 1) ms).map (d :: ·) | _ => none := by
  first
  | (rw [outsOf]; done)
  | (rw [outsOf]; cases r[n]? with
     | none => rfl
     | some s => cases s <;> rfl)
@[simp] theorem outsF {n : Nat} : outsOf r n (false :: ms) = outsOf r (n + 1) ms := rfl
@[simp] theorem cr_ret : (O.ret v r).cr ms = match outsOf r 0 ms with | some l => .ok v l | none => .bad := by
  show (match outsOf r 0 ms with | some l => _ | none => _) = _
  cases outsOf r 0 ms <;> rfl
@[simp] theorem cr_nx : (O.nx r).cr ms = match outsOf r 0 ms with | some l => .ok (.sh .non) l | none => .bad := by
  show (match outsOf r 0 ms with | some l => _ | none => _) = _
  cases outsOf r 0 ms <;> rfl
@[simp] theorem boolV_some {k : Bool} : boolV (some k) = some (.sh (.bl k)) := rfl
@[simp] theorem tru_bl {k : Bool} : tru (.bl k) = some k := rfl
@[simp] theorem tru_int : tru (.int a) = some (a != 0) := rfl
@[simp] theorem tru_lst : tru (.lst ds) = some (!ds.isEmpty) := rfl
@[simp] theorem bin_ii {op : Operator} : binD op (.int a) (.int b) = (binI op a b).map fun k => .sh (.int k) := rfl
@[simp] theorem bin_ll : binD .Add (.lst ds) (.lst ds2) = if ds.length + ds2.length ≤ LINE then some (.ow (.lst (ds ++ ds2))) else none := rfl
@[simp] theorem bI_add : binI .Add a b = some (a + b) := rfl
@[simp] theorem bI_sub : binI .Sub a b = some (a - b) := rfl
theorem bI_mod (h : 0 < b) : binI .Mod a b = some (a % b) := by simp [binI, h]
theorem bits_lt {n : Nat} (h : a.natAbs < 2 ^ n) : bits a ≤ n + 1 := by
  unfold bits
  rcases Nat.eq_zero_or_pos a.natAbs with e | e
  · rw [e]; simp
  · have := (Nat.log2_lt (Nat.pos_iff_ne_zero.mp e)).mpr h
    omega
theorem bI_fdiv (h : 0 < b) (h2 : b < 2 ^ 1000) : binI .FloorDiv a b = some (a / b) := by
  have := bits_lt (a := b) (n := 1000) (by omega)
  simp only [binI]
  rw [if_pos ⟨h, by omega⟩]
theorem bI_mul (n m : Nat) (h : a.natAbs < 2 ^ n) (h2 : b.natAbs < 2 ^ m) (h3 : n + m ≤ 900000) : binI .Mult a b = some (a * b) := by
  have := bits_lt h
  have := bits_lt h2
  simp only [binI]
  rw [if_pos (by omega)]
@[simp] theorem cmp_eq_ii : cmpD .Eq (.int a) (.int b) = some (decide (a = b)) := by
  simp [cmpD, okq, lay, dep, eqv]
  rfl
@[simp] theorem cmp_ne_ii : cmpD .NotEq (.int a) (.int b) = some (!decide (a = b)) := by
  simp [cmpD, okq, lay, dep, eqv]
  rfl
@[simp] theorem cmp_lt_ii : cmpD .Lt (.int a) (.int b) = some (decide (a < b)) := rfl
@[simp] theorem cmp_le_ii : cmpD .LtE (.int a) (.int b) = some (decide (a ≤ b)) := rfl
@[simp] theorem cmp_gt_ii : cmpD .Gt (.int a) (.int b) = some (decide (b < a)) := rfl
@[simp] theorem cmp_ge_ii : cmpD .GtE (.int a) (.int b) = some (decide (b ≤ a)) := rfl
@[simp] theorem bi_len_l : biD .len [.lst ds] = some (.sh (.int ds.length)) := rfl
@[simp] theorem bi_len_s {ns : List Int} : biD .len [.scr ns] = some (.sh (.int ns.length)) := rfl
@[simp] theorem bi_int_i : biD .int [.int a] = some (.sh (.int a)) := rfl
@[simp] theorem bi_list_l : biD .list [.lst ds] = some (.ow (.lst ds)) := rfl
@[simp] theorem bi_max_ii : biD .max [.int a, .int b] = some (.sh (.int (if b > a then b else a))) := rfl
@[simp] theorem bi_min_ii : biD .min [.int a, .int b] = some (.sh (.int (if b < a then b else a))) := rfl
@[simp] theorem bi_sum_il {ns : List Int} : biD .sum [.lst (ns.map .int)] = some (.sh (.int ns.sum)) := by
  show (Z.intsD (ns.map .int)).map _ = _
  rw [ints_map]
  rfl
theorem bi_sorted_il {ns : List Int} (h : ns.length < 64) : biD .sorted [il ns] = some (.ow (il (sortI ns))) := by
  show (Z.intsD (ns.map .int)).bind _ = _
  rw [ints_map]
  simp [h]
end
/-- bodies by rows -/
theorem start_eq {ms : List Bool} {n : Nat} {ds : List D} : En.start ms n ds = (ms.zipWith (fun m d => if m then Sl.io d else Sl.sh d) ds) ++ List.replicate (n - ds.length) .no := rfl
/-- _law_cell -/
def s__law_cell : List S :=
  [.ite (.val (.cmp .Lt (.var 1) (.bi .len [.var 0]))) [.ret (.idx (.var 0) (.var 1))] [],
    .ret (.bin .Mod (.bi .sum [.slc (.var 0) (.con .non) (.con (.int 1))]) (.con (.int 1000003)))]
def d__law_cell : Df := { modes := [false, false], names := 2, body := s__law_cell }
/-- _law_hash -/
def s__law_hash : List S :=
  [.asg (.v 2) (.bin .Mod (.bi .int [.bin .Add (.bin .Add (.bin .Add (.bin .Mult (.var 0) (.con (.int 1140671))) (.bin .Mult (.bin .Mult (.con (.int 27644437)) (.var 1)) (.var 1))) (.bin .Mult (.con (.int 131)) (.var 1))) (.con (.int 19))]) (.con (.int 2147483629))),
    .asg (.v 2) (.bin .Mod (.bi .int [.bin .Add (.bin .Add (.bin .Mult (.var 2) (.var 2)) (.bin .Mult (.con (.int 62089)) (.var 1))) (.con (.int 32416187))]) (.con (.int 2147483587))),
    .ret (.bin .Mod (.bi .int [.bin .Mult (.var 2) (.con (.int 48271))]) (.con (.int 2147483647)))]
def d__law_hash : Df := { modes := [false, false], names := 3, body := s__law_hash }
/-- _law_generator -/
def s__law_generator : List S :=
  [.asg (.v 2) (.call 34 [.var 0, .var 1] [] []),
    .ret (.lst [.bin .Mod (.bi .int [.bi .max [.bin .Sub (.var 2) (.bin .Pow (.con (.int 10)) (.con (.int 18))), .con (.int 0)]]) (.bin .Pow (.bin .Pow (.con (.int 10)) (.con (.int 60))) (.con (.int 10))), .bin .Mod (.bi .int [.var 2]) (.con (.int 2147483647)), .bin .Mult (.con (.int 1000)) (.var 1)])]
def d__law_generator : Df := { modes := [false, false], names := 3, body := s__law_generator }
/-- _law_random -/
def s__law_random_v1 : List S :=
  [.ite (.val (.cmp .Gt (.idx (.var 0) (.con (.int 0))) (.con (.int 0)))) [.asg (.v 2) (.bin .Mod (.bi .int [.idx (.var 0) (.con (.int 0))]) (.var 1)),
    .seti 0 (.con (.int 0)) (.bin .FloorDiv (.idx (.var 0) (.con (.int 0))) (.var 1)),
    .ret (.var 2)] [],
    .asg (.v 2) (.con (.int 0)),
    .for_ (.v 3) (.rng1 (.bin .Add (.con (.int 1)) (.bin .FloorDiv (.bits (.var 1)) (.con (.int 30))))) [.seti 0 (.con (.int 2)) (.bin .Add (.idx (.var 0) (.con (.int 2))) (.con (.int 1))),
    .asg (.v 2) (.bin .Add (.bin .Mult (.var 2) (.con (.int 2147483587))) (.call 32 [.idx (.var 0) (.con (.int 1)), .idx (.var 0) (.con (.int 2))] [] []))],
    .ret (.bin .Mod (.bi .int [.var 2]) (.var 1))]
def d__law_random_v1 : Df := { modes := [true, false], names := 4, body := s__law_random_v1 }
section
variable {Pg : Nat → Option Df} {fuel k f : Nat}
theorem m_cell (h : Pg f = some d__law_cell) (ns : List Int) (i : Nat) : ∃ v, callD Pg fuel (k + 1) f [.scr ns, .int i] = .ok (.sh (.int v)) [] := by
  rw [callD_eq h ⟨rfl, Nat.le_refl _⟩]
  by_cases c : i < ns.length
  · refine ⟨ns[i], ?_⟩
    have : (i : Int) < ns.length := by omega
    simp [d__law_cell, s__law_cell, start_eq, c, idxD, ixN]
  · refine ⟨(cut ns none (some 1)).sum % 1000003, ?_⟩
    have : ¬ (i : Int) < ns.length := by omega
    simp [d__law_cell, s__law_cell, start_eq, c, por, isNon, slcD, part?, bI_mod]
theorem m_hash (h : Pg f = some d__law_hash) (s i : Int) (hs : 0 ≤ s ∧ s < 2147483648) (hi : 0 ≤ i ∧ i < 2147483648) : ∃ v, (0 ≤ v ∧ v < 2147483647) ∧ callD Pg fuel (k + 1) f [.int s, .int i] = .ok (.sh (.int v)) [] := by
  rw [callD_eq h ⟨rfl, Nat.le_of_ble_eq_true rfl⟩]
  have md : ∀ x m : Int, 0 < m → 0 ≤ x % m ∧ x % m < m := fun x m p => ⟨Int.emod_nonneg _ (by omega), Int.emod_lt_of_pos _ p⟩
  have p1 : (2 : Nat) ^ 40 = 1099511627776 := by decide
  have p2 : (2 : Nat) ^ 80 = 1208925819614629174706176 := by decide
  have e1 : binI .Mult s 1140671 = some (s * 1140671) := bI_mul 40 40 (by omega) (by omega) (by omega)
  have e2 : binI .Mult 27644437 i = some (27644437 * i) := bI_mul 40 40 (by omega) (by omega) (by omega)
  have e3 : binI .Mult (27644437 * i) i = some (27644437 * i * i) := bI_mul 80 40 (by omega) (by omega) (by omega)
  have e4 : binI .Mult 131 i = some (131 * i) := bI_mul 40 40 (by omega) (by omega) (by omega)
  generalize g1 : (s * 1140671 + 27644437 * i * i + 131 * i + 19) % 2147483629 = x1
  have b1 := md (s * 1140671 + 27644437 * i * i + 131 * i + 19) 2147483629 (by decide)
  rw [g1] at b1
  have e5 : binI .Mult x1 x1 = some (x1 * x1) := bI_mul 40 40 (by omega) (by omega) (by omega)
  have e6 : binI .Mult 62089 i = some (62089 * i) := bI_mul 40 40 (by omega) (by omega) (by omega)
  generalize g2 : (x1 * x1 + 62089 * i + 32416187) % 2147483587 = x2
  have b2 := md (x1 * x1 + 62089 * i + 32416187) 2147483587 (by decide)
  rw [g2] at b2
  have e7 : binI .Mult x2 48271 = some (x2 * 48271) := bI_mul 40 40 (by omega) (by omega) (by omega)
  refine ⟨_, md (x2 * 48271) 2147483647 (by decide), ?_⟩
  simp [d__law_hash, s__law_hash, start_eq, e1, e2, e3, e4, g1, bI_mod, e5, e6, g2, e7]
/-- a generator, with at most so many turns behind it -/
def Gd (m : Nat) (g : D) : Prop := ∃ a b c : Int, g = .lst [.int a, .int b, .int c] ∧ (0 ≤ b ∧ b < 2147483647) ∧ (0 ≤ c ∧ c ≤ m)
theorem Gd.mono {m n : Nat} {g : D} (h : Gd m g) (l : m ≤ n) : Gd n g := by
  obtain ⟨a, b, c, e, hb, hc⟩ := h
  exact ⟨a, b, c, e, hb, by omega⟩
theorem m_generator (h34 : Pg 34 = some d__law_cell) (h : Pg f = some d__law_generator) (ns : List Int) (i : Nat) (hi : i ≤ 1000) : ∃ g, Gd (1000 * i) g ∧ callD Pg fuel (k + 2) f [.scr ns, .int i] = .ok (.ow g) [] := by
  rw [callD_eq h ⟨rfl, Nat.le_of_ble_eq_true rfl⟩]
  obtain ⟨v, e⟩ := m_cell (fuel := fuel) (k := k) h34 ns i
  have b10 : bits 10 = 4 := by decide
  have e1 : binI .Pow 10 18 = some (10 ^ 18) := by simp [binI, b10]
  have e2 : binI .Pow 10 60 = some (10 ^ 60) := by simp [binI, b10]
  have b60 := bits_lt (a := 10 ^ 60) (n := 300) (by decide)
  have e3 : binI .Pow (10 ^ 60) 10 = some ((10 ^ 60) ^ 10) := by
    simp only [binI]
    rw [if_pos ⟨by decide, by show bits (10 ^ 60) * 10 ≤ 1000000; omega⟩]
    rfl
  have e4 : binI .Mult 1000 (i : Int) = some (1000 * (i : Int)) := bI_mul 40 40 (by decide) (by omega) (by omega)
  have p0 : (0 : Int) < (10 ^ 60) ^ 10 := Int.pow_pos (Int.pow_pos (by decide))
  generalize gp : (10 : Int) ^ 60 = p60 at e2 e3 p0
  generalize gq : p60 ^ 10 = q at e3 p0
  generalize gr : (10 : Int) ^ 18 = q18 at e1
  have e5 : ∀ x, binI .Mod x q = some (x % q) := fun x => bI_mod p0
  have l3 : (3 : Nat) ≤ LINE := by decide
  refine ⟨.lst [.int ((if 0 > v - q18 then 0 else v - q18) % q), .int (v % 2147483647), .int (1000 * i)], ⟨_, _, _, rfl, ⟨Int.emod_nonneg _ (by decide), Int.emod_lt_of_pos _ (by decide)⟩, by omega⟩, ?_⟩
  simp [d__law_generator, s__law_generator, start_eq, e, h34, d__law_cell, e1, e2, e3, e4, e5, bI_mod, l3]
theorem forL_run0 {g : D → En → O} (Iv : Nat → En → Prop) (l : List D) (r : En) (h : ∀ (j : Nat) (hj : j < l.length) (r : En), Iv j r → ∃ r', g l[j] r = .nx r' ∧ Iv (j + 1) r') (h0 : Iv 0 r) : ∃ r', forL g l r = .nx r' ∧ Iv l.length r' := by
  obtain ⟨r', e, q⟩ := forL_run (f := g) Iv l 0 r (fun j x r q w => by
    rw [Nat.zero_add] at w ⊢
    obtain ⟨hj, rfl⟩ := List.getElem?_eq_some_iff.mp q
    exact h j hj r w) h0
  rw [Nat.zero_add] at q
  exact ⟨r', e, q⟩
/-- a loop by what holds ahead of each turn -/
theorem for_run {C : Cf} {t : Tg} {it : I} {body : List S} {r r1 : En} {l : List D} (Iv : Nat → En → Prop) (he : evI C it r = .ok l r1) (h : ∀ (j : Nat) (hj : j < l.length) (r : En), Iv j r → ∃ r', ((O.of (bindT t l[j] r)).then fun r3 => xs C body r3) = .nx r' ∧ Iv (j + 1) r') (h0 : Iv 0 r1) : ∃ r', x1 C (.for_ t it body) r = .nx r' ∧ Iv l.length r' := by
  obtain ⟨r', e, q⟩ := forL_run0 (g := fun x r2 => (O.of (bindT t x r2)).then fun r3 => xs C body r3) Iv l r1 h h0
  exact ⟨r', by rw [q_for, he, R.run_ok]; exact e, q⟩
theorem rng0_get (n : Int) (j : Nat) (h : j < ((rangeI 0 n 1).map D.int).length) : ((rangeI 0 n 1).map D.int)[j] = .int j := by
  simp [rangeI]
theorem rng0_len (n : Nat) : ((rangeI 0 n 1).map D.int).length = n := by
  rw [rng_len]
  omega
theorem ib_le {x : Int} {n : Nat} (h : x.natAbs < 2 ^ n) : PySem.Builtin.Int.intBits x ≤ n := by
  unfold PySem.Builtin.Int.intBits
  split
  · exact Nat.zero_le _
  · rename_i c
    have hx : x ≠ 0 := by simpa using c
    have := (Nat.log2_lt (n := x.natAbs) (k := n) (by omega)).mpr h
    omega
theorem m_random (h32 : Pg 32 = some d__law_hash) (h : Pg f = some d__law_random_v1) (m : Nat) (hm : m ≤ 1000000) (g : D) (hg : Gd m g) (L : Int) (hL : 1 ≤ L ∧ L ≤ 18446744073709551616) : ∃ v g', (0 ≤ v ∧ v < L) ∧ Gd (m + 3) g' ∧ callD Pg fuel (k + 2) f [g, .int L] = .ok (.sh (.int v)) [g'] := by
  obtain ⟨a, b, c, rfl, hb, hc⟩ := hg
  rw [callD_eq h ⟨rfl, Nat.le_of_ble_eq_true rfl⟩]
  have md : ∀ x : Int, 0 ≤ x % L ∧ x % L < L := fun x => ⟨Int.emod_nonneg _ (by omega), Int.emod_lt_of_pos _ (by omega)⟩
  have eM : ∀ x, binI .Mod x L = some (x % L) := fun x => bI_mod (by omega)
  have big : (2 : Int) ^ 1000 > 18446744073709551616 := by decide
  have eF : ∀ x, binI .FloorDiv x L = some (x / L) := fun x => bI_fdiv (by omega) (by omega)
  by_cases ha : 0 < a
  · refine ⟨a % L, .lst [.int (a / L), .int b, .int c], md a, ⟨_, b, c, rfl, hb, by omega⟩, ?_⟩
    simp [d__law_random_v1, s__law_random_v1, start_eq, idxD, atL, ixN, ha, eM, eF, setD]
  · have ib := ib_le (x := L) (n := 65) (by omega)
    have e30 : binI .FloorDiv (PySem.Builtin.Int.intBits L : Int) 30 = some ((PySem.Builtin.Int.intBits L : Int) / 30) := bI_fdiv (by decide) (by omega)
    obtain ⟨t, ht, ht3⟩ : ∃ t : Nat, 1 + (PySem.Builtin.Int.intBits L : Int) / 30 = t ∧ t ≤ 3 := ⟨1 + PySem.Builtin.Int.intBits L / 30, by omega, by omega⟩
    have er := rng1_eq (C := Cz Pg fuel (k + 1)) (b := .bin .Add (.con (.int 1)) (.bin .FloorDiv (.bits (.var 1)) (.con (.int 30)))) (r := [.io (.lst [.int a, .int b, .int c]), .sh (.int L), .sh (.int 0), .no]) (r2 := [.io (.lst [.int a, .int b, .int c]), .sh (.int L), .sh (.int 0), .no]) (y := .inr (.int t)) (j := t) (by
      simp [mtD, e30, ht]) rfl (by omega)
    have lp := for_run (t := .v 3) (body := [.seti 0 (.con (.int 2)) (.bin .Add (.idx (.var 0) (.con (.int 2))) (.con (.int 1))),
    .asg (.v 2) (.bin .Add (.bin .Mult (.var 2) (.con (.int 2147483587))) (.call 32 [.idx (.var 0) (.con (.int 1)), .idx (.var 0) (.con (.int 2))] [] []))])
      (fun i r => ∃ (c x : Int) (y : Sl), r = [.io (.lst [.int a, .int b, .int c]), .sh (.int L), .sh (.int x), y] ∧ (y = .no ∨ ∃ d, y = .sh d) ∧ (0 ≤ c ∧ c ≤ m + i) ∧ x.natAbs < 2 ^ (32 * i)) er (by
        intro j hj r hr
        rw [rng0_len] at hj
        obtain ⟨c, x, y, rfl, hy, hc, hx⟩ := hr
        rw [rng0_get]
        obtain ⟨v, hv, e⟩ := m_hash (fuel := fuel) (k := k) h32 b (c + 1) (by omega) (by omega)
        have pw : 2 ^ (32 * (j + 1)) = 2 ^ (32 * j) * 4294967296 := by rw [Nat.mul_add, Nat.pow_add]
        have le : 2 ^ (32 * j) ≤ 2 ^ 96 := Nat.pow_le_pow_right (by decide) (by omega)
        have pos : 0 < 2 ^ (32 * j) := Nat.pow_pos (by decide)
        have eX : binI .Mult x 2147483587 = some (x * 2147483587) := bI_mul 96 40 (by omega) (by decide) (by omega)
        refine ⟨_, ?_, c + 1, x * 2147483587 + v, .sh (.int j), rfl, .inr ⟨_, rfl⟩, by omega, ?_⟩
        · rcases hy with rfl | ⟨d, rfl⟩ <;> simp [bindT, idxD, atL, ixN, setD, eX, e, h32, d__law_hash]
        · rw [pw]
          generalize 2 ^ (32 * j) = P at *
          omega) ⟨c, 0, .no, rfl, .inl rfl, by omega, by decide⟩
    obtain ⟨r', e', c', x', y', rfl, hy, hc', hx'⟩ := lp
    rw [rng0_len] at hc'
    refine ⟨x' % L, .lst [.int a, .int b, .int c'], md x', ⟨a, b, c', rfl, hb, by omega⟩, ?_⟩
    simp [-q_for, d__law_random_v1, s__law_random_v1, start_eq, idxD, atL, ixN, ha, e', eM]
end
end Z
/-! YI: places drawn by a law. -/
namespace Z
open PySem (Str Operator CmpOp)
/-- _law_double -/
def s__law_double : List S :=
  [.asg (.v 1) (.con (.int 1)),
    .for_ (.v 2) (.rng1 (.var 0)) [.asg (.v 1) (.bin .Mult (.var 1) (.con (.int 2)))],
    .ret (.var 1)]
def d__law_double : Df := { modes := [false], names := 3, body := s__law_double }
/-- _law_places -/
def s__law_places_v1 : List S :=
  [.par [3, 4] [.ite (.val (.cmp .Eq (.var 1) (.con (.int 64)))) (.bin .Pow (.con (.int 2)) (.con (.int 64))) (.call 100 [.var 1] [] []), .lst []],
    .for_ (.v 5) (.rng1 (.var 2)) [.asg (.v 6) (.call 98 [.var 0, .var 3] [] []),
    .for_ (.v 7) (.rng1 (.var 2)) [.asg (.v 6) (.ite (.val (.cmp .NotIn (.var 6) (.var 4))) (.var 6) (.bin .Mod (.bi .int [.bin .Add (.var 6) (.con (.int 1))]) (.var 3)))],
    .ex (.mut .append 4 [.var 6])],
    .ret (.bi .sorted [.var 4])]
def d__law_places_v1 : Df := { modes := [true, false, false], names := 8, body := s__law_places_v1 }
/-- _law_near -/
def s__law_near : List S :=
  [.asg (.v 3) (.call 100 [.call 98 [.var 0, .bi .max [.bin .Sub (.var 1) (.con (.int 3)), .con (.int 1)]] [] []] [] []),
    .par [4, 5] [.call 98 [.var 0, .con (.int 4)] [] [], .lst []],
    .for_ (.v 6) (.rng1 (.var 2)) [.ex (.mut .append 5 [.bin .Mod (.bi .int [.bin .Add (.bin .Add (.var 4) (.bin .Mult (.var 3) (.var 6))) (.idx (.lst [.con (.int 0), .con (.int 0), .con (.int 1)]) (.call 98 [.var 0, .con (.int 3)] [] []))]) (.call 100 [.var 1] [] [])])],
    .ret (.bi .sorted [.lc (.var 8) (.t [.v 7, .v 8]) (.enm (.var 5)) [.val (.cmp .NotIn (.var 8) (.slc (.var 5) (.con .non) (.var 7)))] [7, 8]])]
def d__law_near : Df := { modes := [true, false, false], names := 9, body := s__law_near }
/-- _law_drawn -/
def s__law_drawn : List S :=
  [.asg (.v 3) (.bin .Add (.con (.int 1)) (.call 98 [.var 0, .bi .min [.var 2, .call 100 [.var 1] [] []]] [] [])),
    .ite (.val (.cmp .Eq (.call 98 [.var 0, .con (.int 3)] [] []) (.con (.int 0)))) [.ret (.call 101 [.var 0, .var 1, .var 3] [] [])] [],
    .ret (.call 99 [.var 0, .var 1, .var 3] [] [])]
def d__law_drawn : Df := { modes := [true, false, false], names := 4, body := s__law_drawn }
section
variable {Pg : Nat → Option Df} {fuel k f : Nat}
/-- a slot of a plain name -/
def Pn (y : Sl) : Prop := y = .no ∨ ∃ d, y = .sh d
theorem Gd.shal {m : Nat} {g : D} (h : Gd m g) : shal g = true := by
  obtain ⟨a, b, c, rfl, _, _⟩ := h
  rfl
theorem m_double (h : Pg f = some d__law_double) (n : Nat) (hn : n ≤ 1000) : callD Pg fuel (k + 1) f [.int n] = .ok (.sh (.int (2 ^ n))) [] := by
  rw [callD_eq h ⟨rfl, Nat.le_of_ble_eq_true rfl⟩]
  have er := rng1_eq (C := Cz Pg fuel k) (b := .var 0) (r := [.sh (.int n), .sh (.int 1), .no]) (r2 := [.sh (.int n), .sh (.int 1), .no]) (y := .inl 0) (j := n) (by simp) (by simp) (by omega)
  obtain ⟨r', e', y, rfl, hy⟩ := for_run (t := .v 2) (body := [.asg (.v 1) (.bin .Mult (.var 1) (.con (.int 2)))]) (fun i r => ∃ (y : Sl), r = [.sh (.int n), .sh (.int (2 ^ i)), y] ∧ Pn y) er (by
    intro j hj r hr
    rw [rng0_len] at hj
    rw [rng0_get]
    obtain ⟨y, rfl, hy⟩ := hr
    have eX : binI .Mult ((2 : Int) ^ j) 2 = some (2 ^ (j + 1)) := by
      rw [Int.pow_succ]
      refine bI_mul 1001 40 ?_ (by decide) (by omega)
      rw [Int.natAbs_pow]
      exact Nat.pow_lt_pow_right (by decide) (by omega)
    refine ⟨_, ?_, .sh (.int j), rfl, .inr ⟨_, rfl⟩⟩
    rcases hy with rfl | ⟨d, rfl⟩ <;> simp [bindT, eX]) ⟨.no, rfl, .inl rfl⟩
  rw [rng0_len] at e'
  simp [-q_for, d__law_double, s__law_double, start_eq, e']
theorem in_il (x : Int) (l : List Int) : cmpD .NotIn (.int x) (.lst (l.map .int)) = some (!decide (x ∈ l)) := by
  simp only [cmpD, inD, flat_il, flat_int, Bool.and_true, if_true, Option.map_some]
  congr 2
  rw [List.any_map]
  rw [Bool.eq_iff_iff]
  simp only [List.any_eq_true, decide_eq_true_eq, Function.comp]
  constructor
  · rintro ⟨y, hy, e⟩
    have : y = x := by simpa [eqv] using e
    exact this ▸ hy
  · intro hx
    exact ⟨x, hx, by simp [eqv]⟩
/-- as many unlike items need as many places -/
theorem sub_len : ∀ (l m : List Int), l.Nodup → (∀ x ∈ l, x ∈ m) → l.length ≤ m.length
  | [], _, _, _ => Nat.zero_le _
  | x :: l, m, nd, h => by
    obtain ⟨h1, h2⟩ := List.nodup_cons.mp nd
    have hx := h x List.mem_cons_self
    have ih := sub_len l (m.erase x) h2 fun y hy => by
      have : y ≠ x := fun e => h1 (e ▸ hy)
      exact (List.mem_erase_of_ne this).mpr (h y (List.mem_cons_of_mem _ hy))
    have := List.length_erase_of_mem hx
    have : 0 < m.length := List.length_pos_of_mem hx
    simp only [List.length_cons]
    omega
theorem probe {P p0 : Int} {s : Nat} (hp : 0 ≤ p0 ∧ p0 < P) (hs : (s : Int) ≤ P) (found : List Int) (hf : found.length < s) : ¬ ∀ i : Nat, i < s → (p0 + i) % P ∈ found := by
  intro h
  have md : ∀ i : Nat, i < s → (p0 + i) % P = p0 + i ∨ (p0 + i) % P = p0 + i - P := by
    intro i hi
    by_cases c : p0 + i < P
    · exact .inl (Int.emod_eq_of_lt (by omega) c)
    · right
      rw [← Int.sub_emod_right]
      exact Int.emod_eq_of_lt (by omega) (by omega)
  have := sub_len ((List.range s).map fun i : Nat => (p0 + i) % P) found (by
    refine List.pairwise_map.mpr (List.pairwise_lt_range.imp_of_mem fun {i j} hi hj lt => ?_)
    have a1 := md i (List.mem_range.mp hi)
    have a2 := md j (List.mem_range.mp hj)
    have := List.mem_range.mp hj
    omega) (fun x hx => by
    obtain ⟨i, hi, rfl⟩ := List.mem_map.mp hx
    exact h i (List.mem_range.mp hi))
  simp at this
  omega
/-- places of a width, in order -/
def Places (n w : Nat) (ps : List Int) : Prop := ps ≠ [] ∧ ps.length ≤ n ∧ ps.Pairwise (· < ·) ∧ ∀ x ∈ ps, 0 ≤ x ∧ x ≤ 2 ^ w - 1
theorem sort_lt {l : List Int} (nd : l.Nodup) : (sortI l).Pairwise (· < ·) := by
  have h1 := sortI_sorted l
  have h2 : (sortI l).Nodup := (sortI_perm l).nodup_iff.mpr nd
  exact List.Pairwise.imp₂ (fun a b h h' => by omega) h1 h2
theorem Places.mono {n n' w : Nat} {ps : List Int} (h : Places n w ps) (l : n ≤ n') : Places n' w ps := ⟨h.1, Nat.le_trans h.2.1 l, h.2.2⟩
theorem places_of {n w : Nat} {l : List Int} (hl : l ≠ []) (hn : l.length ≤ n) (nd : l.Nodup) (hr : ∀ x ∈ l, 0 ≤ x ∧ x < 2 ^ w) : Places n w (sortI l) := by
  refine ⟨fun e => hl ?_, by rw [sortI_len]; exact hn, sort_lt nd, fun x hx => ?_⟩
  · have := sortI_len l
    rw [e] at this
    exact List.eq_nil_of_length_eq_zero this.symm
  · have := hr x ((sortI_perm l).mem_iff.mp hx)
    omega
theorem pow_le64 {w : Nat} (h : w ≤ 64) : (1 : Int) ≤ 2 ^ w ∧ (2 : Int) ^ w ≤ 18446744073709551616 := by
  have h1 := Nat.pow_le_pow_right (n := 2) (by omega) h
  have h2 : 0 < 2 ^ w := Nat.pow_pos (by decide)
  have : ((2 ^ w : Nat) : Int) = 2 ^ w := by simp
  omega
theorem m_places (h32 : Pg 32 = some d__law_hash) (h98 : Pg 98 = some d__law_random_v1) (h100 : Pg 100 = some d__law_double) (h : Pg f = some d__law_places_v1) (m : Nat) (hm : m ≤ 900000) (g : D) (hg : Gd m g) (w : Nat) (hw : 1 ≤ w ∧ w ≤ 64) (s : Nat) (hs : 1 ≤ s ∧ s ≤ 20 ∧ (s : Int) ≤ 2 ^ w) :
    ∃ ps g', Places s w ps ∧ Gd (m + 3 * s) g' ∧ callD Pg fuel (k + 3) f [g, .int w, .int s] = .ok (.ow (il ps)) [g'] := by
  rw [callD_eq h ⟨rfl, Nat.le_of_ble_eq_true rfl⟩]
  obtain ⟨P1, P2⟩ := pow_le64 hw.2
  have e0 : x1 (Cz Pg fuel (k + 2)) (.par [3, 4] [.ite (.val (.cmp .Eq (.var 1) (.con (.int 64)))) (.bin .Pow (.con (.int 2)) (.con (.int 64))) (.call 100 [.var 1] [] []), .lst []]) [.io g, .sh (.int w), .sh (.int s), .no, .no, .no, .no, .no] =
      .nx [.io g, .sh (.int w), .sh (.int s), .sh (.int (2 ^ w)), .ow (il []), .no, .no, .no] := by
    have b2 : bits 2 = 2 := by decide
    have eP : binI .Pow 2 64 = some (2 ^ 64) := by
      simp only [binI, b2]
      rfl
    have e100 := m_double (fuel := fuel) (k := k + 1) h100 w (by omega)
    have n2 : ([3, 4] : List Nat).Nodup := by decide
    by_cases c : w = 64
    · subst c
      simp [eP, puts]
    · have c' : ¬ (w : Int) = 64 := by omega
      simp [c, c', h100, d__law_double, e100, puts]
  generalize gP : (2 : Int) ^ w = P at *
  have er := rng1_eq (C := Cz Pg fuel (k + 2)) (b := .var 2) (r := [.io g, .sh (.int w), .sh (.int s), .sh (.int P), .ow (il []), .no, .no, .no]) (r2 := [.io g, .sh (.int w), .sh (.int s), .sh (.int P), .ow (il []), .no, .no, .no]) (y := .inl 2) (j := s) (by simp) (by simp) (by omega)
  obtain ⟨r', e', g', found, y5, y6, y7, rfl, hy5, hy6, hy7, hl, nd, hr, hg'⟩ := for_run (t := .v 5) (body := [.asg (.v 6) (.call 98 [.var 0, .var 3] [] []),
    .for_ (.v 7) (.rng1 (.var 2)) [.asg (.v 6) (.ite (.val (.cmp .NotIn (.var 6) (.var 4))) (.var 6) (.bin .Mod (.bi .int [.bin .Add (.var 6) (.con (.int 1))]) (.var 3)))],
    .ex (.mut .append 4 [.var 6])]) (fun t r => ∃ (g : D) (found : List Int) (y5 y6 y7 : Sl), r = [.io g, .sh (.int w), .sh (.int s), .sh (.int P), .ow (il found), y5, y6, y7] ∧ Pn y5 ∧ Pn y6 ∧ Pn y7 ∧ found.length = t ∧ found.Nodup ∧ (∀ x ∈ found, 0 ≤ x ∧ x < P) ∧ Gd (m + 3 * t) g) er (by
    intro t ht r hr
    rw [rng0_len] at ht
    rw [rng0_get]
    obtain ⟨g, found, y5, y6, y7, rfl, hy5, hy6, hy7, hl, nd, hr, hg⟩ := hr
    obtain ⟨p0, g', hp0, hg', e1⟩ := m_random (fuel := fuel) (k := k) h32 h98 (m + 3 * t) (by omega) g hg P ⟨by omega, by omega⟩
    have er2 := rng1_eq (C := Cz Pg fuel (k + 2)) (b := .var 2) (r := [.io g', .sh (.int w), .sh (.int s), .sh (.int P), .ow (il found), .sh (.int t), .sh (.int p0), y7]) (r2 := [.io g', .sh (.int w), .sh (.int s), .sh (.int P), .ow (il found), .sh (.int t), .sh (.int p0), y7]) (y := .inl 2) (j := s) (by simp) (by simp) (by omega)
    obtain ⟨r', e', p, y7', rfl, hy7', hp, hq⟩ := for_run (t := .v 7) (body := [.asg (.v 6) (.ite (.val (.cmp .NotIn (.var 6) (.var 4))) (.var 6) (.bin .Mod (.bi .int [.bin .Add (.var 6) (.con (.int 1))]) (.var 3)))]) (fun j r => ∃ (p : Int) (y7 : Sl), r = [.io g', .sh (.int w), .sh (.int s), .sh (.int P), .ow (il found), .sh (.int t), .sh (.int p), y7] ∧ Pn y7 ∧ (0 ≤ p ∧ p < P) ∧
        (p ∉ found ∨ (p = (p0 + j) % P ∧ ∀ i : Nat, i < j → (p0 + i) % P ∈ found))) er2 (by
      intro j hj r hr
      rw [rng0_len] at hj
      rw [rng0_get]
      obtain ⟨p, y7, rfl, hy7, hp, hq⟩ := hr
      have eM : ∀ x, binI .Mod x P = some (x % P) := fun x => bI_mod (by omega)
      by_cases c : p ∈ found
      · refine ⟨_, ?_, (p + 1) % P, .sh (.int j), rfl, .inr ⟨_, rfl⟩, ⟨Int.emod_nonneg _ (by omega), Int.emod_lt_of_pos _ (by omega)⟩, ?_⟩
        · rcases hy7 with rfl | ⟨d, rfl⟩ <;> simp [bindT, in_il, c, eM]
        · rcases hq with n | ⟨e, hq⟩
          · exact absurd c n
          · right
            refine ⟨?_, fun i hi => ?_⟩
            · rw [e, Int.emod_add_emod]
              congr 1
              omega
            · by_cases ij : i < j
              · exact hq i ij
              · have : i = j := by omega
                subst this
                rw [← e]
                exact c
      · refine ⟨_, ?_, p, .sh (.int j), rfl, .inr ⟨_, rfl⟩, hp, .inl c⟩
        rcases hy7 with rfl | ⟨d, rfl⟩ <;> simp [bindT, in_il, c, eM]) ⟨p0, y7, rfl, hy7, hp0, .inr ⟨by rw [show p0 + ((0 : Nat) : Int) = p0 by simp, Int.emod_eq_of_lt hp0.1 hp0.2], fun i hi => by omega⟩⟩
    rw [rng0_len] at hq
    have np : p ∉ found := by
      rcases hq with n | ⟨_, hq⟩
      · exact n
      · exact absurd hq (probe hp0 hs.2.2 found (by omega))
    have ll : found.length < LINE := Nat.lt_of_lt_of_le (show found.length < 1000 by omega) (line_le (Nat.le_refl _))
    refine ⟨_, ?_, g', found ++ [p], .sh (.int t), .sh (.int p), y7', rfl, .inr ⟨_, rfl⟩, .inr ⟨_, rfl⟩, hy7', by simp [hl], ?_, ?_, ?_⟩
    · rcases hy5 with rfl | ⟨d, rfl⟩ <;> rcases hy6 with rfl | ⟨d', rfl⟩ <;> simp [-q_for, bindT, h98, d__law_random_v1, e1, hg'.shal, e', lstAt, muD, ll]
    · exact List.nodup_append.mpr ⟨nd, by simp, fun a ha b hb => by simp at hb; subst hb; exact fun e => np (e ▸ ha)⟩
    · intro x hx
      rcases List.mem_append.mp hx with hx | hx
      · exact hr x hx
      · simp at hx
        subst hx
        exact hp
    · exact hg'.mono (by omega)) ⟨g, [], .no, .no, .no, rfl, .inl rfl, .inl rfl, .inl rfl, rfl, List.nodup_nil, by simp, hg⟩
  rw [rng0_len] at hl hg'
  refine ⟨sortI found, g', places_of (fun e => by subst e; simp at hl; omega) (by omega) nd (by rw [gP]; exact hr), hg', ?_⟩
  have es := bi_sorted_il (ns := found) (by omega)
  simp [-q_for, -q_par, d__law_places_v1, s__law_places_v1, start_eq, e0, e', es]
end
end Z
/-! YJ: near places, drawn places. -/
namespace Z
open PySem (Str Operator CmpOp)
/-- each item that is new -/
def dd : List Int → List Int → List Int
  | _, [] => []
  | s, x :: l => if x ∈ s then dd (s ++ [x]) l else x :: dd (s ++ [x]) l
theorem dd_sub : ∀ (s l : List Int), ∀ x ∈ dd s l, x ∈ l ∧ x ∉ s
  | _, [], x, h => by cases h
  | s, y :: l, x, h => by
    unfold dd at h
    split at h
    · have := dd_sub (s ++ [y]) l x h
      simp at this ⊢
      exact ⟨.inr this.1, this.2.1⟩
    · rename_i c
      rcases List.mem_cons.mp h with rfl | h
      · exact ⟨List.mem_cons_self, c⟩
      · have := dd_sub (s ++ [y]) l x h
        simp at this ⊢
        exact ⟨.inr this.1, this.2.1⟩
theorem dd_nodup : ∀ (s l : List Int), (dd s l).Nodup
  | _, [] => List.nodup_nil
  | s, y :: l => by
    unfold dd
    split
    · exact dd_nodup _ l
    · refine List.nodup_cons.mpr ⟨fun h => ?_, dd_nodup _ l⟩
      have := (dd_sub (s ++ [y]) l y h).2
      simp at this
theorem dd_len : ∀ (s l : List Int), (dd s l).length ≤ l.length
  | _, [] => Nat.le_refl _
  | s, y :: l => by
    unfold dd
    have := dd_len (s ++ [y]) l
    split
    · simp; omega
    · simp; omega
/-- the comprehension that keeps each new item -/
def ddG (F : List Int) : D → Option D := fun d => match d with
  | .tup [.int i, .int p] => if p ∈ F.take i.toNat then none else some (.int p)
  | _ => none
theorem dd_run (F : List Int) : ∀ (s l : List Int), F = s ++ l → List.filterMap (ddG F) ((List.range' s.length l.length).zipWith (fun (k : Nat) d => D.tup [.int k, d]) (l.map .int)) = (dd s l).map .int
  | _, [], _ => rfl
  | s, y :: l, e => by
    have ih := dd_run F (s ++ [y]) l (by rw [e]; simp)
    rw [List.length_append] at ih
    have tk : F.take s.length = s := by rw [e]; simp
    simp only [List.length_cons, List.range'_succ, List.map_cons, List.zipWith_cons_cons, List.filterMap_cons, ddG, Int.toNat_natCast, tk, dd]
    simp only [List.length_singleton] at ih
    by_cases c : y ∈ s
    · simp only [c, if_true]
      exact ih
    · simp only [c, if_false, List.map_cons]
      exact congrArg _ ih
theorem enum_il (l : List Int) : enumD (l.map .int) = (List.range' 0 l.length).zipWith (fun (k : Nat) d => D.tup [.int k, d]) (l.map .int) := by
  unfold enumD
  rw [List.length_map, List.range_eq_range']
theorem enum_mem {l : List Int} {x : D} (h : x ∈ enumD (l.map .int)) : ∃ (i : Nat) (p : Int), x = .tup [.int i, .int p] ∧ i < l.length ∧ l[i]? = some p := by
  unfold enumD at h
  obtain ⟨i, hi, e⟩ := List.getElem_of_mem h
  simp at hi e
  exact ⟨i, l[i], e.symm, hi, by simp [hi]⟩
theorem enum_len (l : List Int) : (enumD (l.map .int)).length = l.length := by simp [enumD]
theorem cut_take (l : List Int) (i : Nat) : cut (l.map D.int) none (some (i : Int)) = (l.take i).map D.int := by
  show ((l.map D.int).drop 0).take ((if (i : Int) < 0 then ((i : Int) + ((l.map D.int).length : Nat)).toNat else min (i : Int).toNat (l.map D.int).length) - 0) = _
  rw [if_neg (by omega), Int.toNat_natCast, List.drop_zero, Nat.sub_zero, List.length_map, List.map_take, List.take_eq_take_iff]
  simp
theorem in_take (x : Int) (i : Nat) (l : List Int) : cmpD .NotIn (.int x) (.lst ((l.map .int).take i)) = some (!decide (x ∈ l.take i)) := by
  rw [← List.map_take, in_il]
section
variable {Pg : Nat → Option Df} {fuel k f : Nat}
theorem m_near (h32 : Pg 32 = some d__law_hash) (h98 : Pg 98 = some d__law_random_v1) (h100 : Pg 100 = some d__law_double) (h : Pg f = some d__law_near) (m : Nat) (hm : m ≤ 900000) (g : D) (hg : Gd m g) (w : Nat) (hw : 1 ≤ w ∧ w ≤ 64) (s : Nat) (hs : 1 ≤ s ∧ s ≤ 20) :
    ∃ ps g', Places s w ps ∧ Gd (m + 6 + 3 * s) g' ∧ callD Pg fuel (k + 3) f [g, .int w, .int s] = .ok (.ow (il ps)) [g'] := by
  rw [callD_eq h ⟨rfl, Nat.le_of_ble_eq_true rfl⟩]
  obtain ⟨P1, P2⟩ := pow_le64 hw.2
  obtain ⟨v1, g1, hv1, hg1, e1⟩ := m_random (fuel := fuel) (k := k) h32 h98 m (by omega) g hg (if 1 > (w : Int) - 3 then 1 else (w : Int) - 3) (by split <;> omega)
  obtain ⟨n1, rfl⟩ : ∃ n1 : Nat, v1 = n1 := ⟨v1.toNat, by omega⟩
  have hn1 : n1 ≤ 64 := by
    have := hv1.2
    split at this <;> omega
  have e2 := m_double (fuel := fuel) (k := k + 1) h100 n1 (by omega)
  obtain ⟨v4, g4, hv4, hg4, e4⟩ := m_random (fuel := fuel) (k := k) h32 h98 (m + 3) (by omega) g1 hg1 4 (by decide)
  have ew := m_double (fuel := fuel) (k := k + 1) h100 w (by omega)
  obtain ⟨Q1, Q2⟩ := pow_le64 (w := n1) hn1
  generalize gP : (2 : Int) ^ w = P at *
  generalize gQ : (2 : Int) ^ n1 = Q at *
  have er := rng1_eq (C := Cz Pg fuel (k + 2)) (b := .var 2) (r := [.io g4, .sh (.int w), .sh (.int s), .sh (.int Q), .sh (.int v4), .ow (.lst []), .no, .no, .no]) (r2 := [.io g4, .sh (.int w), .sh (.int s), .sh (.int Q), .sh (.int v4), .ow (.lst []), .no, .no, .no]) (y := .inl 2) (j := s) (by simp) (by simp) (by omega)
  obtain ⟨r', e', g', found, y6, rfl, hy6, hl, hr, hg'⟩ := for_run (t := .v 6) (body := [.ex (.mut .append 5 [.bin .Mod (.bi .int [.bin .Add (.bin .Add (.var 4) (.bin .Mult (.var 3) (.var 6))) (.idx (.lst [.con (.int 0), .con (.int 0), .con (.int 1)]) (.call 98 [.var 0, .con (.int 3)] [] []))]) (.call 100 [.var 1] [] [])])])
    (fun t r => ∃ (g : D) (found : List Int) (y6 : Sl), r = [.io g, .sh (.int w), .sh (.int s), .sh (.int Q), .sh (.int v4), .ow (il found), y6, .no, .no] ∧ Pn y6 ∧ found.length = t ∧ (∀ x ∈ found, 0 ≤ x ∧ x < P) ∧ Gd (m + 6 + 3 * t) g) er (by
    intro t ht r hr
    rw [rng0_len] at ht
    rw [rng0_get]
    obtain ⟨g, found, y6, rfl, hy6, hl, hr, hg⟩ := hr
    obtain ⟨v, g', hv, hg', e3⟩ := m_random (fuel := fuel) (k := k) h32 h98 (m + 6 + 3 * t) (by omega) g hg 3 (by decide)
    have eX : binI .Mult Q (t : Int) = some (Q * t) := bI_mul 80 40 (by omega) (by omega) (by omega)
    have eM : ∀ x, binI .Mod x P = some (x % P) := fun x => bI_mod (by omega)
    obtain ⟨z, ez⟩ : ∃ z : Int, idxD (.lst [.int 0, .int 0, .int 1]) (.int v) = some (.int z) := by
      rcases (by omega : v = 0 ∨ v = 1 ∨ v = 2) with rfl | rfl | rfl
      · exact ⟨0, rfl⟩
      · exact ⟨0, rfl⟩
      · exact ⟨1, rfl⟩
    have ll : found.length < LINE := Nat.lt_of_lt_of_le (show found.length < 1000 by omega) (line_le (Nat.le_refl _))
    refine ⟨_, ?_, g', found ++ [(v4 + Q * t + z) % P], .sh (.int t), rfl, .inr ⟨_, rfl⟩, by simp [hl], ?_, hg'.mono (by omega)⟩
    · rcases hy6 with rfl | ⟨d, rfl⟩ <;> simp [bindT, h98, d__law_random_v1, e3, hg'.shal, eX, ez, h100, d__law_double, ew, eM, lstAt, muD, ll]
    · intro x hx
      rcases List.mem_append.mp hx with hx | hx
      · exact hr x hx
      · simp at hx
        subst hx
        exact ⟨Int.emod_nonneg _ (by omega), Int.emod_lt_of_pos _ (by omega)⟩) ⟨g4, [], .no, rfl, .inl rfl, rfl, by simp, hg4⟩
  rw [rng0_len] at hl hg'
  have ll := dd_len [] found
  have ne : dd [] found ≠ [] := by
    cases found with
    | nil => simp at hl; omega
    | cons x l => simp [dd]
  have pl : Places s w (sortI (dd [] found)) := places_of ne (by omega) (dd_nodup _ _) (by rw [gP]; exact fun x hx => hr x (dd_sub [] found x hx).1)
  refine ⟨_, g', pl, hg', ?_⟩
  have es := bi_sorted_il (ns := dd [] found) (by omega)
  have el := lc_run (C := Cz Pg fuel (k + 2)) (e := .var 8) (t := .t [.v 7, .v 8]) (it := .enm (.var 5)) (ts := [.val (.cmp .NotIn (.var 8) (.slc (.var 5) (.con .non) (.var 7)))]) (own := [7, 8])
    (r := [.io g', .sh (.int w), .sh (.int s), .sh (.int Q), .sh (.int v4), .ow (il found), y6, .no, .no]) (r1 := [.io g', .sh (.int w), .sh (.int s), .sh (.int Q), .sh (.int v4), .sh (il found), y6, .no, .no])
    (l := enumD (found.map .int)) (ddG found) (by simp [lstD]) (by rcases hy6 with rfl | ⟨d, rfl⟩ <;> rfl) rfl (line_le (by rw [enum_len]; omega)) (by
      intro x hx
      obtain ⟨i, p, rfl, hi, hp⟩ := enum_mem hx
      refine ⟨[.io g', .sh (.int w), .sh (.int s), .sh (.int Q), .sh (.int v4), .sh (il found), y6, .sh (.int i), .sh (.int p)], ?_, rfl⟩
      by_cases c : p ∈ found.take i
      · simp [lcF, wip, bindT, bindTs, por, isNon, slcD, part?, cut_take, in_take, ddG, c]
      · simp [lcF, wip, bindT, bindTs, por, isNon, slcD, part?, cut_take, in_take, ddG, c])
  have eq := dd_run found [] found rfl
  rw [List.length_nil, ← enum_il] at eq
  rw [eq] at el
  have th : thawL [.io g', .sh (.int w), .sh (.int s), .sh (.int Q), .sh (.int v4), .ow (il found), y6, .no, .no] ((dd [] found).map .int) [.io g', .sh (.int w), .sh (.int s), .sh (.int Q), .sh (.int v4), .sh (il found), y6, .no, .no] =
      .ok (.ow (il (dd [] found))) [.io g', .sh (.int w), .sh (.int s), .sh (.int Q), .sh (.int v4), .ow (il found), y6, .no, .no] := by
    rcases hy6 with rfl | ⟨d, rfl⟩ <;> simp [thawL, thw, thw1, flat_il, hg'.shal] <;> exact fun _ _ => rfl
  rw [th] at el
  simp [-q_for, d__law_near, s__law_near, start_eq, h98, h100, d__law_random_v1, d__law_double, e1, hg1.shal, e2, e4, hg4.shal, e', el, es, puts]
theorem m_drawn (h32 : Pg 32 = some d__law_hash) (h98 : Pg 98 = some d__law_random_v1) (h100 : Pg 100 = some d__law_double) (h99 : Pg 99 = some d__law_places_v1) (h101 : Pg 101 = some d__law_near) (h : Pg f = some d__law_drawn) (m : Nat) (hm : m ≤ 800000) (g : D) (hg : Gd m g) (w : Nat) (hw : 1 ≤ w ∧ w ≤ 64) (most : Nat) (hmo : 1 ≤ most ∧ most ≤ 20) :
    ∃ ps g', Places most w ps ∧ Gd (m + 12 + 3 * most) g' ∧ callD Pg fuel (k + 4) f [g, .int w, .int most] = .ok (.ow (il ps)) [g'] := by
  rw [callD_eq h ⟨rfl, Nat.le_of_ble_eq_true rfl⟩]
  obtain ⟨P1, P2⟩ := pow_le64 hw.2
  have ew := m_double (fuel := fuel) (k := k + 2) h100 w (by omega)
  obtain ⟨v1, g1, hv1, hg1, e1⟩ := m_random (fuel := fuel) (k := k + 1) h32 h98 m (by omega) g hg (if (2 : Int) ^ w < (most : Int) then (2 : Int) ^ w else (most : Int)) (by split <;> omega)
  have hs : v1 + 1 ≤ most ∧ v1 + 1 ≤ 2 ^ w := by
    have := hv1.2
    split at this <;> omega
  obtain ⟨s, hs1⟩ : ∃ s : Nat, 1 + v1 = s := ⟨(1 + v1).toNat, by omega⟩
  obtain ⟨v2, g2, hv2, hg2, e2⟩ := m_random (fuel := fuel) (k := k + 1) h32 h98 (m + 3) (by omega) g1 hg1 3 (by decide)
  by_cases c : v2 = 0
  · obtain ⟨ps, g', hp, hg', e3⟩ := m_near (fuel := fuel) (k := k) h32 h98 h100 h101 (m + 3 + 3) (by omega) g2 hg2 w hw s (by omega)
    refine ⟨ps, g', hp.mono (by omega), hg'.mono (by omega), ?_⟩
    simp [d__law_drawn, s__law_drawn, start_eq, h98, h99, h100, h101, d__law_random_v1, d__law_double, d__law_near, ew, e1, hg1.shal, hs1, e2, hg2.shal, c, e3, hg'.shal]
  · obtain ⟨ps, g', hp, hg', e3⟩ := m_places (fuel := fuel) (k := k) h32 h98 h100 h99 (m + 3 + 3) (by omega) g2 hg2 w hw s (by omega)
    refine ⟨ps, g', hp.mono (by omega), hg'.mono (by omega), ?_⟩
    simp [d__law_drawn, s__law_drawn, start_eq, h98, h99, h100, h101, d__law_random_v1, d__law_double, d__law_places_v1, ew, e1, hg1.shal, hs1, e2, hg2.shal, c, e3, hg'.shal]
end
end Z
/-! YK: by rests, falling. -/
namespace Z
open PySem (Str Operator CmpOp)
/-- _law_twos -/
def s__law_twos_v2 : List S :=
  [.asg (.v 1) (.con (.int 0)),
    .whl (.and (.val (.cmp .NotEq (.var 0) (.con (.int 0)))) (.val (.cmp .Eq (.bin .Mod (.bi .int [.var 0]) (.con (.int 2))) (.con (.int 0))))) [.par [0, 1] [.bin .FloorDiv (.var 0) (.con (.int 2)), .bin .Add (.var 1) (.con (.int 1))]],
    .ret (.var 1)]
def d__law_twos_v2 : Df := { modes := [false], names := 2, body := s__law_twos_v2 }
/-- _law_by_rests -/
def s__law_by_rests : List S :=
  [.ite (.val (.cmp .Lt (.bi .len [.var 0]) (.con (.int 2)))) [.ret (.bin .Mult (.lst [.con (.int 0)]) (.bi .len [.var 0]))] [],
    .asg (.v 1) (.call 111 [.lc (.bin .FloorDiv (.var 3) (.con (.int 2))) (.v 3) (.e (.var 0)) [.val (.cmp .Eq (.bin .Mod (.bi .int [.var 3]) (.con (.int 2))) (.con (.int 0)))] [3]] [] []),
    .asg (.v 2) (.call 111 [.lc (.bin .FloorDiv (.var 3) (.con (.int 2))) (.v 3) (.e (.var 0)) [.val (.cmp .Eq (.bin .Mod (.bi .int [.var 3]) (.con (.int 2))) (.con (.int 1)))] [3]] [] []),
    .ret (.bi .sorted [.bin .Add (.lc (.bin .Add (.var 4) (.var 5)) (.t [.v 4, .v 5]) (.enm (.var 1)) [] [4, 5]) (.lc (.bin .Add (.var 4) (.var 5)) (.t [.v 4, .v 5]) (.enm (.var 2)) [] [4, 5])])]
def d__law_by_rests : Df := { modes := [false], names := 6, body := s__law_by_rests }
/-- _law_falling -/
def s__law_falling : List S :=
  [.par [1, 2] [.lst [.con (.int 0)], .con (.int 0)],
    .for_ (.v 3) (.rng2 (.con (.int 1)) (.var 0)) [.asg (.v 2) (.bin .Add (.var 2) (.call 103 [.var 3] [] [])),
    .ex (.mut .append 1 [.var 2])],
    .ret (.slc (.var 1) (.con .non) (.var 0))]
def d__law_falling : Df := { modes := [false], names := 4, body := s__law_falling }
section
variable {Pg : Nat → Option Df} {fuel k f : Nat}
theorem eaG_run : ∀ (c : Nat) (l : List Int), List.filterMap (fun d => match d with | D.tup [.int i, .int p] => some (D.int (i + p)) | _ => none) ((List.range' c l.length).zipWith (fun (k : Nat) d => D.tup [.int k, d]) (l.map .int)) = (ea c 1 l).map .int
  | _, [] => rfl
  | c, y :: l => by
    have ih := eaG_run (c + 1) l
    simp only [List.length_cons, List.range'_succ, List.map_cons, List.zipWith_cons_cons, List.filterMap_cons, ea]
    exact congrArg _ ih
/-- numbers raised by their places -/
theorem m_raise {C : Cf} {i a b : Nat} {r r1 : En} (l : List Int) (hl : l.length ≤ 1000) (hi : evI C (.enm (.var i)) r = .ok (enumD (l.map .int)) r1) (ho : ownFree r1 [a, b] = true)
    (hr : ∀ x y, lcF (.t [.v a, .v b]) (evC C []) (ev C (.bin .Add (.var a) (.var b))) [a, b] (.tup [.int x, .int y]) (wip r1 [a, b]) = .ok (some (.int (x + y))) (((wip r1 [a, b]).set a (.sh (.int x))).set b (.sh (.int y)))) (hw : ∀ x y, wip (((wip r1 [a, b]).set a (.sh (.int x))).set b (.sh (.int y))) [a, b] = wip r1 [a, b]) :
    ev C (.lc (.bin .Add (.var a) (.var b)) (.t [.v a, .v b]) (.enm (.var i)) [] [a, b]) r = thawL r ((ea 0 1 l).map .int) r1 := by
  rw [lc_run (fun d => match d with | D.tup [.int i, .int p] => some (D.int (i + p)) | _ => none) hi ho (by simp [tgS, tgSs]) (line_le (by rw [enum_len]; exact hl)) (fun x hx => by
    obtain ⟨j, p, rfl, _, _⟩ := enum_mem hx
    exact ⟨_, hr j p, hw j p⟩)]
  have := eaG_run 0 l
  rw [← enum_il] at this
  rw [this]
  rfl
theorem half_run (b : Int) : ∀ l : List Int, List.filterMap (fun d => match d with | D.int p => if p % 2 = b then some (D.int (p / 2)) else none | _ => none) (l.map .int) = (half b l).map .int
  | [] => rfl
  | x :: l => by
    simp only [List.map_cons, List.filterMap_cons]
    by_cases c : x % 2 = b
    · simp only [c, if_true, half_yes c]
      exact congrArg _ (half_run b l)
    · simp only [c, if_false, half_no c]
      exact half_run b l
theorem m_half {C : Cf} (b : Int) (r : En) (l : List Int) (hl : l.length ≤ 1000) (y1 y2 y4 y5 : Sl) :
    ev C (.lc (.bin .FloorDiv (.var 3) (.con (.int 2))) (.v 3) (.e (.var 0)) [.val (.cmp .Eq (.bin .Mod (.bi .int [.var 3]) (.con (.int 2))) (.con (.int b)))] [3]) [.sh (il l), y1, y2, .no, y4, y5] =
      thawL [.sh (il l), y1, y2, .no, y4, y5] ((half b l).map .int) [.sh (il l), y1, y2, .no, y4, y5] := by
  rw [lc_run (l := l.map .int) (r1 := [.sh (il l), y1, y2, .no, y4, y5]) (fun d => match d with | D.int p => if p % 2 = b then some (D.int (p / 2)) else none | _ => none) (by simp [itemsD]) rfl rfl (line_le (by rw [List.length_map]; exact hl)) (fun x hx => by
    obtain ⟨p, _, rfl⟩ := List.mem_map.mp hx
    have eF : binI .FloorDiv p 2 = some (p / 2) := bI_fdiv (by decide) (by omega)
    refine ⟨[.sh (il l), y1, y2, .sh (.int p), y4, y5], ?_, rfl⟩
    by_cases c : p % 2 = b
    · simp [lcF, wip, bindT, bI_mod, c, eF]
    · simp [lcF, wip, bindT, bI_mod, c, eF])]
  rw [half_run]
theorem half_le (b : Int) (l : List Int) : (half b l).length ≤ l.length := by
  unfold half
  rw [List.length_map]
  exact List.length_filter_le _ _
theorem m_by_rests (h111 : Pg 111 = some d__law_by_rests) : ∀ (d k : Nat) (ps : List Int), Wi d ps → ps.length ≤ 20 → callD Pg fuel (k + d + 1) 111 [il ps] = .ok (.ow (il (br d ps))) []
  | d, k, ps, hw, hl => by
    by_cases c : ps.length < 2
    · have e : br d ps = List.replicate ps.length 0 := by
        cases d <;> simp [br, c]
      rw [callD_eq h111 ⟨rfl, Nat.le_of_ble_eq_true rfl⟩, e]
      have c' : (ps.length : Int) < 2 := by omega
      have bz := bin_zeros_ev (C := Cz Pg fuel (k + d)) (r := [.sh (il ps), .no, .no, .no, .no, .no]) (b := .bi .len [.var 0]) (n := ps.length) (by simp) (by omega)
      simp [-q_bin, d__law_by_rests, s__law_by_rests, start_eq, c', bz]
    · match d, hw with
      | 0, hw => exact absurd (wi_zero hw) c
      | d + 1, hw =>
        have i0 := m_by_rests h111 d k (half 0 ps) (half_wi (.inl rfl) hw) (Nat.le_trans (half_le _ _) hl)
        have i1 := m_by_rests h111 d k (half 1 ps) (half_wi (.inr rfl) hw) (Nat.le_trans (half_le _ _) hl)
        have l0 : (br d (half 0 ps)).length ≤ 20 := by rw [br_len]; exact Nat.le_trans (half_le _ _) hl
        have l1 : (br d (half 1 ps)).length ≤ 20 := by rw [br_len]; exact Nat.le_trans (half_le _ _) hl
        show callD Pg fuel (k + d + 1 + 1) 111 _ = _
        rw [callD_eq h111 ⟨rfl, Nat.le_of_ble_eq_true rfl⟩, br_eq]
        have c' : ¬ (ps.length : Int) < 2 := by omega
        have t0 := m_half (C := Cz Pg fuel (k + d + 1)) 0 [] ps (by omega) .no .no .no .no
        have t1 := m_half (C := Cz Pg fuel (k + d + 1)) 1 [] ps (by omega) (.ow (il (br d (half 0 ps)))) .no .no .no
        simp [thawL, thw, thw1, flat_il] at t0 t1
        have q0 := m_raise (C := Cz Pg fuel (k + d + 1)) (i := 1) (a := 4) (b := 5) (r := [.sh (il ps), .ow (il (br d (half 0 ps))), .ow (il (br d (half 1 ps))), .no, .no, .no]) (r1 := [.sh (il ps), .sh (il (br d (half 0 ps))), .ow (il (br d (half 1 ps))), .no, .no, .no]) (br d (half 0 ps)) (by omega) (by simp [lstD]) rfl (by intro x y; simp [lcF, wip, bindT, bindTs]) (by intro x y; rfl)
        have q1 := m_raise (C := Cz Pg fuel (k + d + 1)) (i := 2) (a := 4) (b := 5) (r := [.sh (il ps), .ow (il (br d (half 0 ps))), .ow (il (br d (half 1 ps))), .no, .no, .no]) (r1 := [.sh (il ps), .ow (il (br d (half 0 ps))), .sh (il (br d (half 1 ps))), .no, .no, .no]) (br d (half 1 ps)) (by omega) (by simp [lstD]) rfl (by intro x y; simp [lcF, wip, bindT, bindTs]) (by intro x y; rfl)
        have es : biD .sorted [.lst ((ea 0 1 (br d (half 0 ps))).map .int ++ (ea 0 1 (br d (half 1 ps))).map .int)] = some (.ow (il (sortI (ea 0 1 (br d (half 0 ps)) ++ ea 0 1 (br d (half 1 ps)))))) := by
          rw [← List.map_append]
          exact bi_sorted_il (by rw [List.length_append, ea_len, ea_len]; omega)
        have ll : (ea 0 1 (br d (half 0 ps))).length + (ea 0 1 (br d (half 1 ps))).length ≤ LINE := line_le (by rw [ea_len, ea_len]; omega)
        simp [thawL, thw, thw1, flat_il] at q0 q1
        simp [d__law_by_rests, s__law_by_rests, start_eq, c', t0, t1, h111, i0, i1, q0, q1, es, ll]
theorem twos2_loop {C : Cf} : ∀ (m : Nat) (n : Int) (f : Int), n ≠ 0 → n.natAbs < 2 ^ m →
    ∃ n' : Int, whlL (evT C (.and (.val (.cmp .NotEq (.var 0) (.con (.int 0)))) (.val (.cmp .Eq (.bin .Mod (.bi .int [.var 0]) (.con (.int 2))) (.con (.int 0)))))) (xs C [.par [0, 1] [.bin .FloorDiv (.var 0) (.con (.int 2)), .bin .Add (.var 1) (.con (.int 1))]]) (m + 1) [.sh (.int n), .sh (.int f)] = .nx [.sh (.int n'), .sh (.int (f + v2 n))]
  | 0, n, f, h, b => by
    exfalso
    have : n.natAbs < 1 := b
    omega
  | m + 1, n, f, h, b => by
    rw [whlL]
    by_cases e : n % 2 = 0
    · have hn : n / 2 ≠ 0 := by omega
      have hb : (n / 2).natAbs < 2 ^ m := by
        have : 2 ^ (m + 1) = 2 * 2 ^ m := by rw [Nat.pow_succ, Nat.mul_comm]
        omega
      obtain ⟨n', q⟩ := twos2_loop (C := C) m (n / 2) (f + 1) hn hb
      refine ⟨n', ?_⟩
      have eF : binI .FloorDiv n 2 = some (n / 2) := bI_fdiv (by decide) (by omega)
      have hv : f + (v2 n : Int) = f + 1 + (v2 (n / 2) : Int) := by rw [v2_even h e]; omega
      rw [hv, ← q]
      simp [h, bI_mod, e, eF, puts]
    · refine ⟨n, ?_⟩
      rw [v2_odd e]
      simp [h, bI_mod, e]
theorem m_twos2 (h : Pg f = some d__law_twos_v2) (m : Nat) (n : Int) (hn : n ≠ 0) (hb : n.natAbs < 2 ^ m) (hf : m + 1 ≤ fuel) : callD Pg fuel (k + 1) f [.int n] = .ok (.sh (.int (v2 n))) [] := by
  rw [callD_eq h ⟨rfl, Nat.le_of_ble_eq_true rfl⟩]
  obtain ⟨fu, rfl⟩ : ∃ f, fuel = f + 1 := ⟨fuel - 1, by omega⟩
  have hb2 : n.natAbs < 2 ^ fu := Nat.lt_of_lt_of_le hb (Nat.pow_le_pow_right (by decide) (by omega))
  obtain ⟨n', q⟩ := twos2_loop (C := Cz Pg (fu + 1) k) fu n 0 hn hb2
  have q2 : x1 (Cz Pg (fu + 1) k) (.whl (.and (.val (.cmp .NotEq (.var 0) (.con (.int 0)))) (.val (.cmp .Eq (.bin .Mod (.bi .int [.var 0]) (.con (.int 2))) (.con (.int 0))))) [.par [0, 1] [.bin .FloorDiv (.var 0) (.con (.int 2)), .bin .Add (.var 1) (.con (.int 1))]]) [.sh (.int n), .sh (.int 0)] = .nx [.sh (.int n'), .sh (.int (v2 n))] := by
    rw [q_whl]
    rw [Int.zero_add] at q
    exact q
  simp [-q_whl, d__law_twos_v2, s__law_twos_v2, start_eq, q2]
theorem rng1_get (n : Int) (j : Nat) (h : j < ((rangeI 1 n 1).map D.int).length) : ((rangeI 1 n 1).map D.int)[j] = .int ((j + 1 : Nat) : Int) := by
  simp [rangeI]
  omega
theorem m_falling (h103 : Pg 103 = some d__law_twos_v2) (h : Pg f = some d__law_falling) (n : Nat) (hn : 1 ≤ n ∧ n ≤ 1000) (hf : 100 ≤ fuel) : callD Pg fuel (k + 2) f [.int n] = .ok (.ow (il (fl 0 n))) [] := by
  rw [callD_eq h ⟨rfl, Nat.le_of_ble_eq_true rfl⟩]
  have er := rng2_eq (C := Cz Pg fuel (k + 1)) (a := .con (.int 1)) (b := .var 0) (r := [.sh (.int n), .ow (.lst [.int 0]), .sh (.int 0), .no]) (r1 := [.sh (.int n), .ow (.lst [.int 0]), .sh (.int 0), .no]) (r2 := [.sh (.int n), .ow (.lst [.int 0]), .sh (.int 0), .no]) (x := .inr (.int 1)) (y := .inl 0) (i := 1) (j := n) (by simp) (by simp) (by simp) (by omega) (by omega)
  obtain ⟨r', e', y, rfl, hy⟩ := for_run (t := .v 3) (body := [.asg (.v 2) (.bin .Add (.var 2) (.call 103 [.var 3] [] [])), .ex (.mut .append 1 [.var 2])]) (fun i r => ∃ (y : Sl), r = [.sh (.int n), .ow (il (fl 0 (i + 1))), .sh (.int (fa i)), y] ∧ Pn y) er (by
    intro j hj r hr
    rw [rng_len] at hj
    rw [rng1_get]
    obtain ⟨y, rfl, hy⟩ := hr
    have e1 := m_twos2 (fuel := fuel) (k := k) h103 64 ((j + 1 : Nat) : Int) (by omega) (by omega) (by omega)
    have ll : (fl 0 (j + 1)).length < LINE := Nat.lt_of_lt_of_le (show (fl 0 (j + 1)).length < 1000 by simp [fl]; omega) (line_le (Nat.le_refl _))
    have es : fl 0 (j + 1 + 1) = fl 0 (j + 1) ++ [((fa j : Nat) : Int) + (v2 ((j + 1 : Nat) : Int) : Nat)] := by
      rw [fl_succ 0 (j + 1)]
      simp [fa]
    refine ⟨_, ?_, .sh (.int (j + 1 : Nat)), rfl, .inr ⟨_, rfl⟩⟩
    rw [es]
    have ef : ((fa (j + 1) : Nat) : Int) = (fa j : Nat) + (v2 ((j + 1 : Nat) : Int) : Nat) := by simp [fa]
    rw [ef]
    generalize ((j + 1 : Nat) : Int) = z at *
    rcases hy with rfl | ⟨d, rfl⟩ <;> simp [bindT, h103, d__law_twos_v2, e1, lstAt, muD, ll]) ⟨.no, rfl, .inl rfl⟩
  rw [rng_len, show ((n : Int) - 1).toNat = n - 1 by omega, show n - 1 + 1 = n by omega] at e'
  have ec : cut ((fl 0 n).map D.int) none (some (n : Int)) = (fl 0 n).map D.int := by
    rw [cut_take]
    rw [List.take_of_length_le (by simp [fl])]
  simp [-q_for, d__law_falling, s__law_falling, start_eq, puts, e', por, isNon, slcD, part?, ec]
end
end Z
/-! YL: the law of numbers by rests. -/
namespace Z
open PySem (Str Operator CmpOp)
/-- _law_steps_right -/
def s__law_steps_right : List S :=
  [.par [1, 2, 3] [.bin .Add (.con (.int 1)) (.call 98 [.var 0, .con (.int 10)] [] []), .call 98 [.var 0, .con (.int 1000)] [] [], .call 98 [.var 0, .con (.int 9)] [] []],
    .asg (.v 4) (.bin .Mult (.call 100 [.var 3] [] []) (.bin .Add (.con (.int 1)) (.bin .Mult (.con (.int 2)) (.call 98 [.var 0, .con (.int 9)] [] [])))),
    .asg (.v 5) (.lc (.bin .Add (.var 8) (.bin .Mult (.var 3) (.var 7))) (.t [.v 7, .v 8]) (.enm (.call 112 [.var 1] [] [])) [] [7, 8]),
    .ite (.val (.cmp .NotEq (.idx (.call 96 [.con (.int 64), .lc (.bin .Add (.var 2) (.bin .Mult (.var 4) (.var 7))) (.v 7) (.rng1 (.var 1)) [] [7]] [] []) (.con (.int 1))) (.var 5))) [.ret (.con (.bl false))] [],
    .asg (.v 6) (.bin .Add (.con (.int 1)) (.call 98 [.var 0, .con (.int 3)] [] [])),
    .ret (.cmp .Eq (.idx (.call 96 [.var 6, .bi .lrange [.call 100 [.var 6] [] []]] [] []) (.con (.int 1))) (.call 112 [.call 100 [.var 6] [] []] [] []))]
def d__law_steps_right : Df := { modes := [true], names := 9, body := s__law_steps_right }
/-- _law_right -/
def s__law_right_v4 : List S :=
  [.asg (.v 2) (.call 102 [.var 0, .var 1, .con (.int 12)] [] []),
    .asg (.v 3) (.call 111 [.var 2] [] []),
    .ite (.val (.cmp .NotEq (.idx (.call 96 [.var 1, .var 2] [] []) (.con (.int 1))) (.var 3))) [.ret (.con (.bl false))] [],
    .asg (.v 4) (.call 98 [.var 0, .bi .len [.var 2]] [] []),
    .asg (.v 5) (.bin .Add (.slc (.var 2) (.con .non) (.var 4)) (.slc (.var 2) (.bin .Add (.var 4) (.con (.int 1))) (.con .non))),
    .ite (.val (.cmp .NotEq (.var 5) (.lst []))) [.asg (.v 6) (.idx (.call 96 [.var 1, .var 5] [] []) (.con (.int 1))),
    .ite (.or (.val (.cmp .NotEq (.var 6) (.call 111 [.var 5] [] []))) (.val (.cmp .NotEq (.lc (.con (.int 1)) (.t [.v 9, .v 10]) (.zip false [.var 3, .var 6]) [.val (.cmp .Lt (.var 10) (.var 9))] [9, 10]) (.lst [])))) [.ret (.con (.bl false))] [],
    .ite (.val (.cmp .NotEq (.lc (.con (.int 1)) (.t [.v 10, .v 11]) (.zip false [.var 6, .slc (.var 3) (.con (.int 1)) (.con .non)]) [.val (.cmp .Gt (.var 10) (.var 11))] [10, 11]) (.lst []))) [.ret (.con (.bl false))] []] [],
    .asg (.v 7) (.call 98 [.var 0, .call 100 [.var 1] [] []] [] []),
    .asg (.v 8) (.ite (.val (.cmp .NotIn (.var 7) (.var 2))) (.bi .sorted [.bin .Add (.var 2) (.lst [.var 7])]) (.var 2)),
    .ret (.cmp .Eq (.lc (.con (.int 1)) (.t [.v 9, .v 10]) (.zip false [.var 3, .idx (.call 96 [.var 1, .var 8] [] []) (.con (.int 1))]) [.val (.cmp .Gt (.var 10) (.var 9))] [9, 10]) (.lst []))]
def d__law_right_v4 : Df := { modes := [true, false], names := 12, body := s__law_right_v4 }
/-- the defs that a good row and its checks reach -/
structure GB (Pg : Nat → Option Df) : Prop where
  h0 : Pg 0 = some d_is_whole
  h1 : Pg 1 = some d_is_between
  h3 : Pg 3 = some d_power_of_two
  h4 : Pg 4 = some d_twos
  h5 : Pg 5 = some d_good_row
  h8 : Pg 8 = some d_is_width
  h9 : Pg 9 = some d_check_width
  h10 : Pg 10 = some d_is_of_width
  h11 : Pg 11 = some d_rises
  h12 : Pg 12 = some d_are_places
  h13 : Pg 13 = some d_check_places
/-- the defs that good_order reaches -/
structure GO (Pg : Nat → Option Df) : Prop extends GB Pg where
  h96 : Pg 96 = some d_good_order
section
variable {Pg : Nat → Option Df} {fuel k f : Nat}
/-- places of any number of a width -/
def PlW (w : Nat) (ps : List Int) : Prop := ps ≠ [] ∧ ps.Pairwise (· < ·) ∧ ∀ x ∈ ps, 0 ≤ x ∧ x ≤ 2 ^ w - 1
theorem Places.plW {n w : Nat} {ps : List Int} (h : Places n w ps) : PlW w ps := ⟨h.1, h.2.2.1, h.2.2.2⟩
theorem PlW.wi {w : Nat} {ps : List Int} (h : PlW w ps) : Wi w ps := ⟨h.2.1.imp fun h => Int.ne_of_lt h, fun x hx => by have := h.2.2 x hx; omega⟩
theorem m_nums (G : GO Pg) (w : Nat) (hw : 1 ≤ w ∧ w ≤ 64) (hf : 1000 ≤ fuel) (ps : List Int) (hl : ps.length ≤ 900) (h : PlW w ps) : ∃ o, callD Pg fuel (k + 6) 96 [.int w, il ps] = .ok (.sh (.tup [o, il (br w ps)])) [] := by
  have e := m_good_order (fuel := fuel) (k := k) G.h0 G.h1 G.h3 G.h4 G.h5 G.h8 G.h9 G.h10 G.h11 G.h12 G.h13 G.h96 w hw.1 hw.2 (by omega) ps (by omega) (by omega) h.1 h.2.1 h.2.2
  have q : (gr ps.length ps (List.replicate ps.length 0)).2 = br w ps := nums_br h.wi
  rw [q] at e
  exact ⟨_, e⟩
theorem m_by_rests' (h111 : Pg 111 = some d__law_by_rests) (w : Nat) (hw : w ≤ 64) (ps : List Int) (h : Wi w ps) (hl : ps.length ≤ 20) : callD Pg fuel (k + 70) 111 [il ps] = .ok (.ow (il (br w ps))) [] := by
  have e := m_by_rests (fuel := fuel) h111 w (k + 69 - w) ps h hl
  rw [show k + 69 - w + w + 1 = k + 70 by omega] at e
  exact e
theorem lc_none {C : Cf} {e : E} {t : Tg} {it : I} {ts : List Z.T} {own : List Nat} {r r1 : En} {l : List D} (hi : evI C it r = .ok l r1) (ho : ownFree r1 own = true) (ht : (tgS t).all own.contains = true) (hl : l.length ≤ 1000)
    (h : ∀ x ∈ l, ∃ r5, lcF t (evC C ts) (ev C e) own x (wip r1 own) = .ok none r5 ∧ wip r5 own = wip r1 own) : ev C (.lc e t it ts own) r = thawL r [] r1 := by
  rw [lc_run (fun _ => none) hi ho ht (line_le hl) h, List.filterMap_eq_nil_iff.mpr fun _ _ => rfl]
theorem zip_mem {a b : List Int} {x : D} (h : x ∈ zip2D (a.map .int) (b.map .int)) : ∃ (i : Nat) (h1 : i < a.length) (h2 : i < b.length), x = .tup [.int a[i], .int b[i]] := by
  obtain ⟨i, hi, q⟩ := List.getElem_of_mem h
  have hi2 := hi
  simp only [zip2D, List.length_zipWith, List.length_map, Nat.lt_min] at hi2
  simp only [zip2D, List.getElem_zipWith, List.getElem_map] at q
  exact ⟨i, hi2.1, hi2.2, q.symm⟩
theorem cut_drop (l : List Int) (i : Nat) : cut (l.map D.int) (some ((i : Int) + 1)) none = (l.drop (i + 1)).map D.int := by
  have e : sIx (l.map D.int).length 0 (some ((i : Int) + 1)) = min (i + 1) l.length := by
    show (if (i : Int) + 1 < 0 then ((i : Int) + 1 + ((l.map D.int).length : Nat)).toNat else min ((i : Int) + 1).toNat _) = _
    rw [if_neg (by omega), List.length_map, show ((i : Int) + 1).toNat = i + 1 by omega]
  unfold cut
  rw [e]
  show ((l.map D.int).drop _).take ((l.map D.int).length - _) = _
  rw [List.take_of_length_le (by simp), List.map_drop]
  by_cases c : i + 1 ≤ l.length
  · rw [Nat.min_eq_left c]
  · rw [Nat.min_eq_right (by omega), List.drop_of_length_le (by simp), List.drop_of_length_le (by simp; omega)]
theorem m_right (G : GO Pg) (h32 : Pg 32 = some d__law_hash) (h98 : Pg 98 = some d__law_random_v1) (h100 : Pg 100 = some d__law_double) (h99 : Pg 99 = some d__law_places_v1) (h101 : Pg 101 = some d__law_near) (h102 : Pg 102 = some d__law_drawn) (h111 : Pg 111 = some d__law_by_rests) (h : Pg f = some d__law_right_v4)
    (hf : 1000 ≤ fuel) (m : Nat) (hm : m ≤ 700000) (g : D) (hg : Gd m g) (w : Nat) (hw : 1 ≤ w ∧ w ≤ 64) : ∃ g', Gd (m + 54) g' ∧ callD Pg fuel (k + 71) f [g, .int w] = .ok (.sh (.bl true)) [g'] := by
  rw [callD_eq h ⟨rfl, Nat.le_of_ble_eq_true rfl⟩]
  obtain ⟨ps, g1, hp, hg1, e1⟩ := m_drawn (fuel := fuel) (k := k + 66) h32 h98 h100 h99 h101 h102 m (by omega) g hg w hw 12 (by omega)
  rw [show ((12 : Nat) : Int) = 12 from rfl] at e1
  have wi := hp.plW.wi
  have e2 := m_by_rests' (fuel := fuel) (k := k) h111 w hw.2 ps wi (by have := hp.2.1; omega)
  obtain ⟨o3, e3⟩ := m_nums (fuel := fuel) (k := k + 64) G w hw hf ps (by have := hp.2.1; omega) hp.plW
  have pos : 0 < ps.length := List.length_pos_iff.mpr hp.1
  have l12 := hp.2.1
  obtain ⟨v4, g4, hv4, hg4, e4⟩ := m_random (fuel := fuel) (k := k + 68) h32 h98 (m + 48) (by omega) g1 hg1 (ps.length : Int) (by omega)
  obtain ⟨at_, rfl⟩ : ∃ n : Nat, v4 = n := ⟨v4.toNat, by omega⟩
  have hat : at_ < ps.length := by omega
  obtain ⟨P1, P2⟩ := pow_le64 hw.2
  have e5 := m_double (fuel := fuel) (k := k + 69) h100 w (by omega)
  obtain ⟨v7, g7, hv7, hg7, e7⟩ := m_random (fuel := fuel) (k := k + 68) h32 h98 (m + 51) (by omega) g4 hg4 (2 ^ w) ⟨P1, P2⟩
  refine ⟨g7, hg7.mono (by omega), ?_⟩
  -- the place left out
  generalize gl : ps.take at_ ++ ps.drop (at_ + 1) = less
  have split : ps = ps.take at_ ++ ps[at_] :: ps.drop (at_ + 1) := by
    rw [← List.drop_eq_getElem_cons hat, List.take_append_drop]
  have pw : Pw (br w ps) (br w less) := by
    have := br_less_pw (d := w) (l1 := ps.take at_) (l2 := ps.drop (at_ + 1)) (x := ps[at_]) (by rw [← split]; exact wi)
    rw [← split, gl] at this
    exact this
  have ll : less.length + 1 = ps.length := by
    rw [← gl]
    simp
    omega
  have sub : less.Sublist ps := by
    rw [← gl]
    conv => rhs; rw [split]
    exact List.Sublist.append_left (List.sublist_cons_self _ _) _
  have c5 : cut (ps.map D.int) none (some (at_ : Int)) = (ps.take at_).map D.int := cut_take ps at_
  have c6 := cut_drop ps at_
  have c7 : cut (br w ps |>.map D.int) (some 1) none = ((br w ps).drop 1).map D.int := cut_drop (br w ps) 0
  have il5 : (ps.take at_).map D.int ++ (ps.drop (at_ + 1)).map D.int = less.map D.int := by rw [← List.map_append, gl]
  have ln5 : ((ps.take at_).map D.int).length + ((ps.drop (at_ + 1)).map D.int).length ≤ LINE := line_le (by simp; omega)
  generalize (ps.take at_).map D.int = A5 at c5 il5 ln5
  generalize (ps.drop (at_ + 1)).map D.int = B5 at c6 il5 ln5
  -- the place put in
  have more : ∃ ms : List Int, PlW w ms ∧ ms.length ≤ 13 ∧ (∀ (i : Nat) (h1 : i < (br w ps).length) (h2 : i < (br w ms).length), (br w ms)[i] ≤ (br w ps)[i]) ∧
      (v7 ∈ ps → ms = ps) ∧ (v7 ∉ ps → ms = sortI (ps ++ [v7])) := by
    by_cases c : v7 ∈ ps
    · exact ⟨ps, hp.plW, by omega, fun i h1 h2 => Int.le_refl _, fun _ => rfl, fun n => absurd c n⟩
    · have nd : (ps ++ [v7]).Nodup := List.nodup_append.mpr ⟨wi.1, by simp, fun a ha b hb => by simp at hb; subst hb; exact fun e => c (e ▸ ha)⟩
      have rg : ∀ x ∈ ps ++ [v7], 0 ≤ x ∧ x ≤ 2 ^ w - 1 := fun x hx => by
        rcases List.mem_append.mp hx with hx | hx
        · exact hp.2.2.2 x hx
        · simp at hx
          subst hx
          omega
      have pl : PlW w (sortI (ps ++ [v7])) := ⟨fun e => by have := sortI_len (ps ++ [v7]); rw [e] at this; simp at this, sort_lt nd, fun x hx => rg x ((sortI_perm _).mem_iff.mp hx)⟩
      have pw2 := br_more_pw (d := w) (l := ps) (x := v7) pl.wi (sortI_perm (ps ++ [v7]))
      refine ⟨_, pl, by rw [sortI_len]; simp; omega, fun i h1 h2 => ?_, fun y => absurd y c, fun _ => rfl⟩
      refine (pw2 i h1 ?_).1
      rw [br_len] at h1 ⊢
      rw [sortI_len]
      simp
      exact h1
  obtain ⟨ms, plm, lm, dom, my, mn⟩ := more
  obtain ⟨o8, e8⟩ := m_nums (fuel := fuel) (k := k + 64) G w hw hf ms (by omega) plm
  have dl := br_len w ps
  have tl := br_len w less
  generalize gd : br w ps = due at *
  generalize gt : br w less = told at *
  generalize gm : br w ms = more at *
  have nms := br_len w ms
  rw [gm] at nms
  have C : ∀ y5 y6 y8, ((y5 = .sh (il less) ∧ y6 = .sh (il told)) ∨ (y5 = .ow (.lst []) ∧ y6 = .no)) → (y8 = .sh (il ms) ∨ y8 = .ow (il ms)) →
      ev (Cz Pg fuel (k + 70)) (.lc (.con (.int 1)) (.t [.v 9, .v 10]) (.zip false [.var 3, .idx (.call 96 [.var 1, .var 8] [] []) (.con (.int 1))]) [.val (.cmp .Gt (.var 10) (.var 9))] [9, 10]) [.io g7, .sh (.int w), .sh (il ps), .ow (il due), .sh (.int at_), y5, y6, .sh (.int v7), y8, .no, .no, .no] =
      .ok (.ow (.lst [])) [.io g7, .sh (.int w), .sh (il ps), .ow (il due), .sh (.int at_), y5, y6, .sh (.int v7), y8, .no, .no, .no] := by
    intro y5 y6 y8 h56 h8
    rw [lc_none (r1 := [.io g7, .sh (.int w), .sh (il ps), .sh (il due), .sh (.int at_), y5, y6, .sh (.int v7), .sh (il ms), .no, .no, .no]) (l := zip2D (due.map .int) (more.map .int))]
    · rcases h56 with ⟨rfl, rfl⟩ | ⟨rfl, rfl⟩ <;> rcases h8 with rfl | rfl <;> simp [thawL, thw, thw1, flat_il, hg7.shal] <;> exact fun _ _ => rfl
    · rcases h8 with rfl | rfl <;> simp [G.h96, d_good_order, e8, idxD, atL, ixN, zipD, lstD]
    · rfl
    · rfl
    · simp [zip2D]; omega
    · intro x hx
      obtain ⟨i, h1, h2, rfl⟩ := zip_mem hx
      have := dom i h1 h2
      have n : ¬ due[i] < more[i] := by omega
      refine ⟨[.io g7, .sh (.int w), .sh (il ps), .sh (il due), .sh (.int at_), y5, y6, .sh (.int v7), .sh (il ms), .sh (.int due[i]), .sh (.int more[i]), .no], ?_, rfl⟩
      simp [lcF, wip, bindT, bindTs, n]
  have A : ev (Cz Pg fuel (k + 70)) (.lc (.con (.int 1)) (.t [.v 9, .v 10]) (.zip false [.var 3, .var 6]) [.val (.cmp .Lt (.var 10) (.var 9))] [9, 10]) [.io g4, .sh (.int w), .sh (il ps), .ow (il due), .sh (.int at_), .sh (il less), .sh (il told), .no, .no, .no, .no, .no] =
      .ok (.ow (.lst [])) [.io g4, .sh (.int w), .sh (il ps), .ow (il due), .sh (.int at_), .sh (il less), .sh (il told), .no, .no, .no, .no, .no] := by
    rw [lc_none (r1 := [.io g4, .sh (.int w), .sh (il ps), .sh (il due), .sh (.int at_), .sh (il less), .sh (il told), .no, .no, .no, .no, .no]) (l := zip2D (due.map .int) (told.map .int))]
    · simp [thawL, thw, thw1, flat_il, hg4.shal]
    · simp [zipD, lstD]
    · rfl
    · rfl
    · simp [zip2D]; omega
    · intro x hx
      obtain ⟨i, h1, h2, rfl⟩ := zip_mem hx
      have := (pw i h2 (by omega)).1
      have n : ¬ told[i] < due[i] := by omega
      refine ⟨[.io g4, .sh (.int w), .sh (il ps), .sh (il due), .sh (.int at_), .sh (il less), .sh (il told), .no, .no, .sh (.int due[i]), .sh (.int told[i]), .no], ?_, rfl⟩
      simp [lcF, wip, bindT, bindTs, n]
  have B : ev (Cz Pg fuel (k + 70)) (.lc (.con (.int 1)) (.t [.v 10, .v 11]) (.zip false [.var 6, .slc (.var 3) (.con (.int 1)) (.con .non)]) [.val (.cmp .Gt (.var 10) (.var 11))] [10, 11]) [.io g4, .sh (.int w), .sh (il ps), .ow (il due), .sh (.int at_), .sh (il less), .sh (il told), .no, .no, .no, .no, .no] =
      .ok (.ow (.lst [])) [.io g4, .sh (.int w), .sh (il ps), .ow (il due), .sh (.int at_), .sh (il less), .sh (il told), .no, .no, .no, .no, .no] := by
    rw [lc_none (r1 := [.io g4, .sh (.int w), .sh (il ps), .ow (il due), .sh (.int at_), .sh (il less), .sh (il told), .no, .no, .no, .no, .no]) (l := zip2D (told.map .int) ((due.drop 1).map .int))]
    · simp [thawL, thw, thw1, flat_il, hg4.shal]
    · simp [zipD, lstD, por, isNon, slcD, part?, c7]
    · rfl
    · rfl
    · simp [zip2D]; omega
    · intro x hx
      obtain ⟨i, h1, h2, rfl⟩ := zip_mem hx
      have := (pw i h1 (by simp at h2; omega)).2
      have e : (due.drop 1)[i] = due[i + 1]'(by simp at h2; omega) := by
        rw [List.getElem_drop]
        congr 1
        omega
      have n : ¬ (due.drop 1)[i] < told[i] := by rw [e]; omega
      refine ⟨[.io g4, .sh (.int w), .sh (il ps), .ow (il due), .sh (.int at_), .sh (il less), .sh (il told), .no, .no, .no, .sh (.int told[i]), .sh (.int (due.drop 1)[i])], ?_, rfl⟩
      generalize (due.drop 1)[i] = z at *
      simp [lcF, wip, bindT, bindTs, n]
  have en : cmpD .Eq (.lst []) (.lst []) = some true := cmp_il_eq [] []
  have nn : cmpD .NotEq (.lst []) (.lst []) = some false := cmp_il_ne [] []
  have dd1 : cmpD .NotEq (il due) (il due) = some false := by rw [cmp_il_ne]; simp
  have tt1 : cmpD .NotEq (il told) (il told) = some false := by rw [cmp_il_ne]; simp
  have lg : ps.length + (0 + 1) ≤ LINE := line_le (by omega)
  have es : v7 ∉ ps → biD .sorted [.lst (ps.map .int ++ [.int v7])] = some (.ow (il ms)) := fun c => by
    rw [mn c]
    have := bi_sorted_il (ns := ps ++ [v7]) (by simp; omega)
    rw [← this]
    show _ = biD .sorted [.lst ((ps ++ [v7]).map .int)]
    rw [List.map_append]
    rfl
  by_cases hl0 : less = []
  · have em : (less.map D.int) = [] := by rw [hl0]; rfl
    by_cases c : v7 ∈ ps
    · have C1 := C (.ow (.lst [])) .no (.sh (il ms)) (.inr ⟨rfl, rfl⟩) (.inl rfl)
      rw [my c] at C1
      simp [d__law_right_v4, s__law_right_v4, start_eq, h102, d__law_drawn, e1, hg1.shal, h111, d__law_by_rests, e2, G.h96, d_good_order, e3, idxD, atL, ixN, dd1, h98, d__law_random_v1, e4, hg4.shal, por, isNon, slcD, part?, c5, c6, il5, ln5, nn, h100, d__law_double, e5, e7, hg7.shal, in_il, en, em, c, C1]
    · have C1 := C (.ow (.lst [])) .no (.ow (il ms)) (.inr ⟨rfl, rfl⟩) (.inr rfl)
      have es := es c
      simp [d__law_right_v4, s__law_right_v4, start_eq, h102, d__law_drawn, e1, hg1.shal, h111, d__law_by_rests, e2, G.h96, d_good_order, e3, idxD, atL, ixN, dd1, h98, d__law_random_v1, e4, hg4.shal, por, isNon, slcD, part?, c5, c6, il5, ln5, nn, h100, d__law_double, e5, e7, hg7.shal, in_il, en, em, c, C1, es, lg]
  · have n5 : cmpD .NotEq (.lst (less.map .int)) (.lst []) = some true := by rw [cmp_il_nnil]; simp [hl0]
    have pl5 : PlW w less := ⟨hl0, hp.2.2.1.sublist sub, fun x hx => hp.2.2.2 x (sub.subset hx)⟩
    obtain ⟨o6, e6⟩ := m_nums (fuel := fuel) (k := k + 64) G w hw hf less (by omega) pl5
    have e6' := m_by_rests' (fuel := fuel) (k := k) h111 w hw.2 less pl5.wi (by omega)
    rw [gt] at e6 e6'
    by_cases c : v7 ∈ ps
    · have C1 := C (.sh (il less)) (.sh (il told)) (.sh (il ms)) (.inl ⟨rfl, rfl⟩) (.inl rfl)
      rw [my c] at C1
      simp [d__law_right_v4, s__law_right_v4, start_eq, h102, d__law_drawn, e1, hg1.shal, h111, d__law_by_rests, e2, G.h96, d_good_order, e3, idxD, atL, ixN, dd1, h98, d__law_random_v1, e4, hg4.shal, por, isNon, slcD, part?, c5, c6, il5, ln5, nn, h100, d__law_double, e5, e7, hg7.shal, in_il, en, n5, e6, e6', tt1, A, B, c, C1]
    · have C1 := C (.sh (il less)) (.sh (il told)) (.ow (il ms)) (.inl ⟨rfl, rfl⟩) (.inr rfl)
      have es := es c
      simp [d__law_right_v4, s__law_right_v4, start_eq, h102, d__law_drawn, e1, hg1.shal, h111, d__law_by_rests, e2, G.h96, d_good_order, e3, idxD, atL, ixN, dd1, h98, d__law_random_v1, e4, hg4.shal, por, isNon, slcD, part?, c5, c6, il5, ln5, nn, h100, d__law_double, e5, e7, hg7.shal, in_il, en, n5, e6, e6', tt1, A, B, c, C1, es, lg]
end
end Z
/-! YM: even steps; the law of numbers by rests. -/
namespace Z
open PySem (Str Operator CmpOp)
/-- law -/
def s_law_v6 : List S :=
  [.for_ (.v 1) (.rng1 (.con (.int 2))) [.asg (.v 2) (.call 35 [.var 0, .var 1] [] []),
    .ite (.or (.not (.val (.call 114 [.var 2, .bin .Add (.con (.int 1)) (.call 98 [.var 2, .con (.int 6)] [] [])] [] []))) (.not (.val (.call 114 [.var 2, .bin .Add (.con (.int 1)) (.call 98 [.var 2, .con (.int 64)] [] [])] [] [])))) [.ret (.con (.bl false))] [],
    .ite (.not (.val (.call 113 [.var 2] [] []))) [.ret (.con (.bl false))] []],
    .ite (.or (.val (.cmp .NotEq (.idx (.call 96 [.con (.int 64), .bi .lrange [.con (.int 20)]] [] []) (.con (.int 1))) (.call 112 [.con (.int 20)] [] []))) (.val (.cmp .NotEq (.idx (.call 96 [.con (.int 64), .lst [.bin .Pow (.con (.int 2)) (.con (.int 63)), .bin .Add (.bin .Pow (.con (.int 2)) (.con (.int 63))) (.con (.int 1)), .bin .Add (.bin .Pow (.con (.int 2)) (.con (.int 63))) (.con (.int 3))]] [] []) (.con (.int 1))) (.lst [.con (.int 0), .con (.int 0), .con (.int 1)])))) [.ret (.con (.bl false))] [],
    .ret (.cmp .Eq (.idx (.call 96 [.con (.int 4), .lst [.con (.int 0), .con (.int 4), .con (.int 8), .con (.int 12)]] [] []) (.con (.int 1))) (.lst [.con (.int 0), .con (.int 2), .con (.int 5), .con (.int 7)]))]
def d_law_v6 : Df := { modes := [false], names := 3, body := s_law_v6 }
section
variable {Pg : Nat → Option Df} {fuel k f : Nat}
theorem bi_lrange_i {n : Nat} (h : n ≤ 1000) : biD .lrange [.int n] = some (.ow (il (ap 0 1 n))) := by
  have e : rgOk 0 n = true := by
    unfold rgOk
    rw [sm62_of (by omega) (by omega), sm62_of (by omega) (by omega)]
    simp
    omega
  show (if rgOk 0 n = true then _ else none) = _
  rw [if_pos e]
  congr 3
  unfold rangeI rangeN ap
  simp
theorem ap_plw {w : Nat} {a s : Int} {n : Nat} (hn : 0 < n) (ha : 0 ≤ a) (hs : 0 < s) (hb : a + s * n ≤ 2 ^ w) : PlW w (ap a s n) := by
  refine ⟨fun e => ?_, ?_, fun x hx => ?_⟩
  · have := ap_len a s n
    rw [e] at this
    simp at this
    omega
  · refine List.pairwise_map.mpr (List.pairwise_lt_range.imp fun {i j} h => ?_)
    have : s * (i : Int) < s * (j : Int) := Int.mul_lt_mul_of_pos_left (by omega) hs
    omega
  · obtain ⟨i, hi, rfl⟩ := List.mem_map.mp hx
    have hi := List.mem_range.mp hi
    have h1 : 0 ≤ s * (i : Int) := Int.mul_nonneg (by omega) (by omega)
    have h2 : s * ((i : Int) + 1) ≤ s * (n : Int) := Int.mul_le_mul_of_nonneg_left (by omega) (by omega)
    rw [Int.mul_add] at h2
    omega
theorem m_ap (G : GO Pg) (w : Nat) (hw : 1 ≤ w ∧ w ≤ 64) (hf : 1000 ≤ fuel) (t : Nat) (a s : Int) (n : Nat) (hn : 0 < n ∧ n ≤ 900) (ha : 0 ≤ a) (hs : s % 2 = 1) (hs0 : 0 < s) (hb : a + (2 ^ t * s) * n ≤ 2 ^ w) :
    ∃ o, callD Pg fuel (k + 6) 96 [.int w, il (ap a (2 ^ t * s) n)] = .ok (.sh (.tup [o, il (fl t n)])) [] := by
  have p2 : (0 : Int) < 2 ^ t := Int.pow_pos (by decide)
  have pl : PlW w (ap a (2 ^ t * s) n) := ap_plw hn.1 ha (Int.mul_pos p2 hs0) hb
  obtain ⟨o, e⟩ := m_nums (fuel := fuel) (k := k) G w hw hf _ (by rw [ap_len]; exact hn.2) pl
  rw [br_ap w t a s n hs pl.wi] at e
  exact ⟨o, e⟩
theorem fl_raise (t n : Nat) : ∀ (c : Nat), List.filterMap (fun d => match d with | D.tup [.int i, .int p] => some (D.int (p + (t : Int) * i)) | _ => none) ((List.range' c n).zipWith (fun (k : Nat) d => D.tup [.int k, d]) (((List.range' c n).map fun i => ((fa i + 0 * i : Nat) : Int)).map .int)) = ((List.range' c n).map fun i => ((fa i + t * i : Nat) : Int)).map .int := by
  induction n with
  | zero => intro c; rfl
  | succ n ih =>
    intro c
    have := ih (c + 1)
    simp only [List.range'_succ, List.map_cons, List.zipWith_cons_cons, List.filterMap_cons]
    rw [this]
    have e : ((fa c + 0 * c : Nat) : Int) + (t : Int) * (c : Nat) = ((fa c + t * c : Nat) : Int) := by simp
    rw [e]
theorem fl_enum (t n : Nat) : List.filterMap (fun d => match d with | D.tup [.int i, .int p] => some (D.int (p + (t : Int) * i)) | _ => none) (enumD ((fl 0 n).map .int)) = (fl t n).map .int := by
  have := fl_raise t n 0
  rw [enum_il]
  unfold fl
  rw [List.length_map, List.length_range, List.range_eq_range']
  exact this
theorem m_steps (G : GO Pg) (h32 : Pg 32 = some d__law_hash) (h98 : Pg 98 = some d__law_random_v1) (h100 : Pg 100 = some d__law_double) (h103 : Pg 103 = some d__law_twos_v2) (h112 : Pg 112 = some d__law_falling) (h : Pg f = some d__law_steps_right)
    (hf : 1000 ≤ fuel) (m : Nat) (hm : m ≤ 700000) (g : D) (hg : Gd m g) : ∃ g', Gd (m + 15) g' ∧ callD Pg fuel (k + 71) f [g] = .ok (.sh (.bl true)) [g'] := by
  rw [callD_eq h ⟨rfl, Nat.le_of_ble_eq_true rfl⟩]
  obtain ⟨v1, g1, hv1, hg1, e1⟩ := m_random (fuel := fuel) (k := k + 68) h32 h98 m (by omega) g hg 10 (by decide)
  obtain ⟨v2, g2, hv2, hg2, e2⟩ := m_random (fuel := fuel) (k := k + 68) h32 h98 (m + 3) (by omega) g1 hg1 1000 (by decide)
  obtain ⟨v3, g3, hv3, hg3, e3⟩ := m_random (fuel := fuel) (k := k + 68) h32 h98 (m + 6) (by omega) g2 hg2 9 (by decide)
  obtain ⟨v4, g4, hv4, hg4, e4⟩ := m_random (fuel := fuel) (k := k + 68) h32 h98 (m + 9) (by omega) g3 hg3 9 (by decide)
  obtain ⟨v5, g5, hv5, hg5, e5⟩ := m_random (fuel := fuel) (k := k + 68) h32 h98 (m + 12) (by omega) g4 hg4 3 (by decide)
  refine ⟨g5, hg5, ?_⟩
  obtain ⟨n, hn, hn1⟩ : ∃ n : Nat, 1 + v1 = n ∧ 1 ≤ n ∧ n ≤ 10 := ⟨(1 + v1).toNat, by omega, by omega⟩
  obtain ⟨t, rfl, ht⟩ : ∃ t : Nat, v3 = t ∧ t ≤ 8 := ⟨v3.toNat, by omega, by omega⟩
  obtain ⟨w, hw, hw1⟩ : ∃ w : Nat, 1 + v5 = w ∧ 1 ≤ w ∧ w ≤ 3 := ⟨(1 + v5).toNat, by omega, by omega⟩
  have d3 := m_double (fuel := fuel) (k := k + 69) h100 t (by omega)
  have dw := m_double (fuel := fuel) (k := k + 69) h100 w (by omega)
  have p2 : (0 : Int) < 2 ^ t := Int.pow_pos (by decide)
  have p3 : (2 : Int) ^ t ≤ 256 := by
    have := Nat.pow_le_pow_right (n := 2) (by omega) ht
    have e : ((2 ^ t : Nat) : Int) = 2 ^ t := by simp
    omega
  have x1' : binI .Mult 2 v4 = some (2 * v4) := bI_mul 40 40 (by decide) (by omega) (by omega)
  have x2' : binI .Mult (2 ^ t) (1 + 2 * v4) = some (2 ^ t * (1 + 2 * v4)) := bI_mul 40 40 (by omega) (by omega) (by omega)
  have bs : (2 : Int) ^ t * (1 + 2 * v4) ≤ 256 * 17 := Int.mul_le_mul p3 (by omega) (by omega) (by omega)
  have b0 : (0 : Int) < 2 ^ t * (1 + 2 * v4) := Int.mul_pos p2 (by omega)
  have bn : (2 : Int) ^ t * (1 + 2 * v4) * n ≤ 256 * 17 * 10 := Int.mul_le_mul bs (by omega) (by omega) (by omega)
  obtain ⟨o6, e6⟩ := m_ap (fuel := fuel) (k := k + 64) G 64 (by omega) hf t v2 (1 + 2 * v4) n (by omega) hv2.1 (by omega) (by omega) (by
    have : (2 : Int) ^ 64 = 18446744073709551616 := by decide
    omega)
  have f1 := m_falling (fuel := fuel) (k := k + 68) h103 h112 n (by omega) (by omega)
  obtain ⟨W, hW, hW1⟩ : ∃ W : Nat, (2 : Int) ^ w = W ∧ 1 ≤ W ∧ W ≤ 8 := by
    have := Nat.pow_le_pow_right (n := 2) (by omega) hw1.2
    have : 0 < 2 ^ w := Nat.pow_pos (by decide)
    exact ⟨2 ^ w, by simp, by omega, by omega⟩
  obtain ⟨o7, e7⟩ := m_ap (fuel := fuel) (k := k + 64) G w (by omega) hf 0 0 1 W (by omega) (by decide) (by decide) (by decide) (by rw [hW]; simp)
  rw [show (2 : Int) ^ 0 * 1 = 1 by decide] at e7
  have f2 := m_falling (fuel := fuel) (k := k + 68) h103 h112 W (by omega) (by omega)
  have lr := bi_lrange_i (n := W) (by omega)
  rw [hW] at dw
  generalize gs : (2 : Int) ^ t * (1 + 2 * v4) = st at *
  generalize gp : (2 : Int) ^ t = pt at *
  -- the numbers that are due
  have A : ev (Cz Pg fuel (k + 70)) (.lc (.bin .Add (.var 8) (.bin .Mult (.var 3) (.var 7))) (.t [.v 7, .v 8]) (.enm (.call 112 [.var 1] [] [])) [] [7, 8]) [.io g4, .sh (.int n), .sh (.int v2), .sh (.int t), .sh (.int st), .no, .no, .no, .no] =
      .ok (.ow (il (fl t n))) [.io g4, .sh (.int n), .sh (.int v2), .sh (.int t), .sh (.int st), .no, .no, .no, .no] := by
    rw [lc_run (r1 := [.io g4, .sh (.int n), .sh (.int v2), .sh (.int t), .sh (.int st), .no, .no, .no, .no]) (l := enumD ((fl 0 n).map .int)) (fun d => match d with | D.tup [.int i, .int p] => some (D.int (p + (t : Int) * i)) | _ => none)]
    · rw [fl_enum]
      simp [thawL, thw, thw1, flat_il, hg4.shal]
    · simp [h112, d__law_falling, f1, lstD]
    · rfl
    · rfl
    · exact line_le (by rw [enum_len]; simp [fl]; omega)
    · intro x hx
      obtain ⟨i, p, rfl, hi, hp⟩ := enum_mem hx
      simp [fl] at hi
      have em : binI .Mult (t : Int) (i : Int) = some ((t : Int) * i) := bI_mul 40 40 (by omega) (by omega) (by omega)
      refine ⟨[.io g4, .sh (.int n), .sh (.int v2), .sh (.int t), .sh (.int st), .no, .no, .sh (.int i), .sh (.int p)], ?_, rfl⟩
      simp [lcF, wip, bindT, bindTs, em]
  have B : ev (Cz Pg fuel (k + 70)) (.lc (.bin .Add (.var 2) (.bin .Mult (.var 4) (.var 7))) (.v 7) (.rng1 (.var 1)) [] [7]) [.io g4, .sh (.int n), .sh (.int v2), .sh (.int t), .sh (.int st), .ow (il (fl t n)), .no, .no, .no] =
      .ok (.ow (il (ap v2 st n))) [.io g4, .sh (.int n), .sh (.int v2), .sh (.int t), .sh (.int st), .ow (il (fl t n)), .no, .no, .no] := by
    rw [lc_run (r1 := [.io g4, .sh (.int n), .sh (.int v2), .sh (.int t), .sh (.int st), .ow (il (fl t n)), .no, .no, .no]) (l := (rangeI 0 n 1).map .int) (fun d => match d with | D.int i => some (D.int (v2 + st * i)) | _ => none)]
    · have e : List.filterMap (fun d => match d with | D.int i => some (D.int (v2 + st * i)) | _ => none) ((rangeI 0 n 1).map D.int) = (ap v2 st n).map .int := by
        unfold ap rangeI rangeN
        rw [if_pos rfl, List.map_map, List.map_map, List.filterMap_map]
        rw [show ((n : Int) - 0).toNat = n by omega, List.filterMap_eq_map.symm]
        congr 1
        funext i
        simp
      rw [e]
      simp [thawL, thw, thw1, flat_il, hg4.shal]
    · exact rng1_eq (y := .inl 1) (by simp) (by simp) (by omega)
    · rfl
    · rfl
    · exact line_le (by rw [rng0_len]; omega)
    · intro x hx
      obtain ⟨j, hj, rfl⟩ := List.getElem_of_mem hx
      rw [rng0_len] at hj
      rw [rng0_get]
      have em : binI .Mult st (j : Int) = some (st * j) := bI_mul 40 40 (by omega) (by omega) (by omega)
      refine ⟨[.io g4, .sh (.int n), .sh (.int v2), .sh (.int t), .sh (.int st), .ow (il (fl t n)), .no, .sh (.int j), .no], ?_, rfl⟩
      simp [lcF, wip, bindT, bindTs, em]
  rw [show ((64 : Nat) : Int) = 64 from rfl] at e6
  have nn : ∀ l : List Int, cmpD .NotEq (il l) (il l) = some false := fun l => by rw [cmp_il_ne]; simp
  have ee : ∀ l : List Int, cmpD .Eq (il l) (il l) = some true := fun l => by rw [cmp_il_eq]; simp
  simp [d__law_steps_right, s__law_steps_right, start_eq, h98, d__law_random_v1, e1, hg1.shal, hn, e2, hg2.shal, e3, hg3.shal, puts, h100, d__law_double, d3, e4, hg4.shal, x1', x2', gs, A, B, G.h96, d_good_order, e6, idxD, atL, ixN, nn, e5, hg5.shal, hw, dw, lr, e7, h112, d__law_falling, f2, ee]
theorem nums_big : br 64 [9223372036854775808, 9223372036854775809, 9223372036854775811] = [0, 0, 1] := by
  rw [← nums_br ⟨by decide, by decide⟩]
  have a1 : v2 1 = 0 := v2_odd (by decide)
  have a2 : v2 3 = 0 := v2_odd (by decide)
  have a3 : v2 2 = 1 := by rw [v2_even (by decide) (by decide), show (2 : Int) / 2 = 1 by decide, a1]
  simp [nums, gr, mi, gsum, a1, a2, a3]
theorem fl_four : fl 2 4 = [0, 2, 5, 7] := by
  have a1 : v2 1 = 0 := v2_odd (by decide)
  have a2 : v2 3 = 0 := v2_odd (by decide)
  have a3 : v2 2 = 1 := by rw [v2_even (by decide) (by decide), show (2 : Int) / 2 = 1 by decide, a1]
  show [((fa 0 + 2 * 0 : Nat) : Int), ((fa 1 + 2 * 1 : Nat) : Int), ((fa 2 + 2 * 2 : Nat) : Int), ((fa 3 + 2 * 3 : Nat) : Int)] = _
  have f0 : fa 0 = 0 := rfl
  have f1 : fa 1 = 0 := by show fa 0 + v2 1 = 0; rw [a1, f0]
  have f2 : fa 2 = 1 := by show fa 1 + v2 2 = 1; rw [a3, f1]
  have f3 : fa 3 = 1 := by show fa 2 + v2 3 = 1; rw [a2, f2]
  rw [f0, f1, f2, f3]
  rfl
/-- a slot that is not a changed parameter -/
def Po (y : Sl) : Prop := y = .no ∨ (∃ d, y = .sh d) ∨ ∃ d, y = .ow d
theorem m_law06 (G : GO Pg) (h34 : Pg 34 = some d__law_cell) (h35 : Pg 35 = some d__law_generator) (h32 : Pg 32 = some d__law_hash) (h98 : Pg 98 = some d__law_random_v1) (h100 : Pg 100 = some d__law_double) (h99 : Pg 99 = some d__law_places_v1) (h101 : Pg 101 = some d__law_near) (h102 : Pg 102 = some d__law_drawn) (h111 : Pg 111 = some d__law_by_rests)
    (h103 : Pg 103 = some d__law_twos_v2) (h112 : Pg 112 = some d__law_falling) (h113 : Pg 113 = some d__law_steps_right) (h114 : Pg 114 = some d__law_right_v4) (h : Pg f = some d_law_v6) (hf : 1000 ≤ fuel) (ns : List Int) :
    callD Pg fuel (k + 72) f [.scr ns] = .ok (.sh (.bl true)) [] := by
  rw [callD_eq h ⟨rfl, Nat.le_of_ble_eq_true rfl⟩]
  have er := rng1_eq (C := Cz Pg fuel (k + 71)) (b := .con (.int 2)) (r := [.sh (.scr ns), .no, .no]) (r2 := [.sh (.scr ns), .no, .no]) (y := .inr (.int 2)) (j := ((2 : Nat) : Int)) (by simp) (by simp) (by omega)
  obtain ⟨r', e', y1, y2, rfl, hy1, hy2⟩ := for_run (t := .v 1) (body := [.asg (.v 2) (.call 35 [.var 0, .var 1] [] []),
    .ite (.or (.not (.val (.call 114 [.var 2, .bin .Add (.con (.int 1)) (.call 98 [.var 2, .con (.int 6)] [] [])] [] []))) (.not (.val (.call 114 [.var 2, .bin .Add (.con (.int 1)) (.call 98 [.var 2, .con (.int 64)] [] [])] [] [])))) [.ret (.con (.bl false))] [],
    .ite (.not (.val (.call 113 [.var 2] [] []))) [.ret (.con (.bl false))] []]) (fun _ r => ∃ (y1 y2 : Sl), r = [.sh (.scr ns), y1, y2] ∧ Pn y1 ∧ Po y2) er (by
    intro j hj r hr
    rw [rng0_len] at hj
    rw [rng0_get]
    obtain ⟨y1, y2, rfl, hy1, hy2⟩ := hr
    obtain ⟨g0, hg0, e0⟩ := m_generator (fuel := fuel) (k := k + 69) h34 h35 ns j (by omega)
    obtain ⟨v1, g1, hv1, hg1, e1⟩ := m_random (fuel := fuel) (k := k + 69) h32 h98 (1000 * j) (by omega) g0 hg0 6 (by decide)
    obtain ⟨w1, hw1⟩ : ∃ w : Nat, 1 + v1 = w := ⟨(1 + v1).toNat, by omega⟩
    obtain ⟨g2, hg2, e2⟩ := m_right (fuel := fuel) (k := k) G h32 h98 h100 h99 h101 h102 h111 h114 hf (1000 * j + 3) (by omega) g1 hg1 w1 (by omega)
    obtain ⟨v3, g3, hv3, hg3, e3⟩ := m_random (fuel := fuel) (k := k + 69) h32 h98 (1000 * j + 57) (by omega) g2 hg2 64 (by decide)
    obtain ⟨w3, hw3⟩ : ∃ w : Nat, 1 + v3 = w := ⟨(1 + v3).toNat, by omega⟩
    obtain ⟨g4, hg4, e4⟩ := m_right (fuel := fuel) (k := k) G h32 h98 h100 h99 h101 h102 h111 h114 hf (1000 * j + 60) (by omega) g3 hg3 w3 (by omega)
    obtain ⟨g5, hg5, e5⟩ := m_steps (fuel := fuel) (k := k) G h32 h98 h100 h103 h112 h113 hf (1000 * j + 114) (by omega) g4 hg4
    refine ⟨_, ?_, .sh (.int j), .ow g5, rfl, .inr ⟨_, rfl⟩, .inr (.inr ⟨_, rfl⟩)⟩
    rcases hy1 with rfl | ⟨d, rfl⟩ <;> rcases hy2 with rfl | ⟨d', rfl⟩ | ⟨d', rfl⟩ <;>
    simp [bindT, h35, d__law_generator, e0, h98, d__law_random_v1, e1, hg1.shal, hw1, h114, d__law_right_v4, e2, hg2.shal, e3, hg3.shal, hw3, e4, hg4.shal, h113, d__law_steps_right, e5, hg5.shal]) ⟨.no, .no, rfl, .inl rfl, .inl rfl⟩
  have nn : ∀ l : List Int, cmpD .NotEq (il l) (il l) = some false := fun l => by rw [cmp_il_ne]; simp
  have ee : ∀ l : List Int, cmpD .Eq (il l) (il l) = some true := fun l => by rw [cmp_il_eq]; simp
  have p64 : (2 : Int) ^ 64 = 18446744073709551616 := by decide
  obtain ⟨o7, e7⟩ := m_ap (fuel := fuel) (k := k + 65) G 64 (by omega) hf 0 0 1 20 (by omega) (by decide) (by decide) (by decide) (by rw [p64]; decide)
  rw [show (2 : Int) ^ 0 * 1 = 1 by decide, show ((64 : Nat) : Int) = 64 from rfl] at e7
  have f7 := m_falling (fuel := fuel) (k := k + 69) h103 h112 20 (by omega) (by omega)
  have lr := bi_lrange_i (n := 20) (by omega)
  rw [show ((20 : Nat) : Int) = 20 from rfl] at f7 lr
  obtain ⟨o8, e8⟩ := m_nums (fuel := fuel) (k := k + 65) G 64 (by omega) hf [9223372036854775808, 9223372036854775809, 9223372036854775811] (by decide) ⟨by decide, by decide, by rw [p64]; decide⟩
  rw [nums_big, show ((64 : Nat) : Int) = 64 from rfl] at e8
  obtain ⟨o9, e9⟩ := m_ap (fuel := fuel) (k := k + 65) G 4 (by omega) hf 2 0 1 4 (by omega) (by decide) (by decide) (by decide) (by decide)
  rw [fl_four, show ap 0 (2 ^ 2 * 1) 4 = [0, 4, 8, 12] from rfl, show ((4 : Nat) : Int) = 4 from rfl] at e9
  have b2 : bits 2 = 2 := by decide
  have eP : binI .Pow 2 63 = some 9223372036854775808 := by
    simp only [binI, b2]
    rfl
  have n3 : cmpD .NotEq (.lst [.int 0, .int 0, .int 1]) (.lst [.int 0, .int 0, .int 1]) = some false := nn [0, 0, 1]
  have n4 : cmpD .Eq (.lst [.int 0, .int 2, .int 5, .int 7]) (.lst [.int 0, .int 2, .int 5, .int 7]) = some true := ee [0, 2, 5, 7]
  simp only [il, List.map_cons, List.map_nil] at e8 e9
  rcases hy1 with rfl | ⟨d, rfl⟩ <;> rcases hy2 with rfl | ⟨d', rfl⟩ | ⟨d', rfl⟩ <;>
  simp [-q_for, d_law_v6, s_law_v6, start_eq, e', G.h96, d_good_order, lr, e7, idxD, atL, ixN, h112, d__law_falling, f7, nn, eP, e8, n3, e9, n4]
end
end Z
/-! YN: repr of plain data. -/
namespace Z
open PySem (Str Operator CmpOp PyData)
def CpsOk (s : Str) : Prop := ∀ c ∈ s.cps.toList, c < 0x110000
theorem cps_app {a b : Str} (ha : CpsOk a) (hb : CpsOk b) : CpsOk (a ++ b) := by
  intro c hc
  have hc : c ∈ (a.cps ++ b.cps).toList := hc
  rw [Array.toList_append, List.mem_append] at hc
  exact hc.elim (ha c) (hb c)
theorem cps_of (s : String) : CpsOk (Str.ofString s) := by
  intro c hc
  rw [PySem.Str.ofString_eq_toList] at hc
  obtain ⟨ch, _, rfl⟩ := List.mem_map.mp hc
  have := ch.valid
  show ch.val.toNat < 0x110000
  rcases this with h | ⟨_, h⟩
  · have : ch.val.toNat < 0xd800 := h
    omega
  · exact h
theorem cps_from : ∀ (ts : List Str) (k : Nat) (acc : Str), CpsOk acc → (∀ t ∈ ts, CpsOk t) → CpsOk (PySem.textFrom k acc ts)
  | [], _, _, h, _ => h
  | t :: ts, k, acc, h, ht => by
    unfold PySem.textFrom
    exact cps_from ts _ _ (cps_app (cps_app h (cps_of _)) (ht t List.mem_cons_self)) fun u m => ht u (List.mem_cons_of_mem _ m)
theorem cps_join {s : Str} (hs : CpsOk s) : ∀ ts : List Str, (∀ t ∈ ts, CpsOk t) → CpsOk (PySem.Str.join s ts)
  | [], _ => by intro c hc; cases hc
  | [x], h => h x List.mem_cons_self
  | x :: y :: r, h => by
    show CpsOk (x ++ s ++ PySem.Str.join s (y :: r))
    exact cps_app (cps_app (h x List.mem_cons_self) hs) (cps_join hs (y :: r) fun t m => h t (List.mem_cons_of_mem _ m))
theorem cps_list (ts : List Str) (h : ∀ t ∈ ts, CpsOk t) : CpsOk (PySem.listText ts) := cps_app (cps_from ts 0 _ (cps_of _) h) (cps_of _)
theorem cps_tuple (ts : List Str) (h : ∀ t ∈ ts, CpsOk t) : CpsOk (PySem.tupleText ts) := cps_app (cps_app (cps_of _) (cps_join (cps_of _) ts h)) (cps_of _)
/-! data of whole numbers, truth values, None, lists and tuples of them -/
mutual
def pln (B : Nat) : D → Bool
  | .non => true
  | .bl _ => true
  | .int i => decide (i.natAbs < 10 ^ B)
  | .lst l => plns B l
  | .tup l => plns B l
  | _ => false
def plns (B : Nat) : List D → Bool
  | [] => true
  | x :: xs => pln B x && plns B xs
end
mutual
theorem cps_shown (B : Nat) : ∀ d : D, pln B d = true → CpsOk (pyT d).shown
  | .non, _ => cps_of _
  | .bl b, _ => by cases b <;> exact cps_of _
  | .int i, _ => cps_of _
  | .lst l, h => by
    simp only [pyT, PyData.shown]
    exact cps_list _ (cps_showns B l (by simpa only [pln] using h))
  | .tup l, h => by
    simp only [pyT, PyData.shown]
    exact cps_tuple _ (cps_showns B l (by simpa only [pln] using h))
  | .str _, h => by simp [pln] at h
  | .dct _ _, h => by simp [pln] at h
  | .fn _, h => by simp [pln] at h
  | .exn _ _, h => by simp [pln] at h
  | .scr _, h => by simp [pln] at h
theorem cps_showns (B : Nat) : ∀ l : List D, plns B l = true → ∀ t ∈ PyData.shownAll (pyTs l), CpsOk t
  | [], _, t, m => by cases m
  | x :: l, h, t, m => by
    simp only [plns, Bool.and_eq_true] at h
    simp only [pyTs, PyData.shownAll] at m
    rcases List.mem_cons.mp m with rfl | m
    · exact cps_shown B x h.1
    · exact cps_showns B l h.2 t m
end
mutual
theorem shb_of (B : Nat) (hB : 0 < B) (h2 : B ≤ 500) : ∀ d : D, pln B d = true → (pyT d).showable = true ∧ (pyT d).leavesShort (B + 8) = true ∧ lay d = true
  | .non, _ => ⟨rfl, rfl, rfl⟩
  | .bl b, _ => ⟨rfl, rfl, rfl⟩
  | .int i, h => by
    have h' : i.natAbs < 10 ^ B := by simpa [pln] using h
    refine ⟨?_, ?_, rfl⟩
    · simp only [pyT, PyData.showable, decide_eq_true_eq]
      rcases Nat.eq_zero_or_pos i.natAbs with e | e
      · rw [e]; decide
      · refine (Nat.log2_lt (by omega)).mpr ?_
        have a : (10 : Nat) ^ B ≤ 10 ^ 500 := Nat.pow_le_pow_right (by decide) h2
        have b : (10 : Nat) ^ 500 ≤ 2 ^ 1920 := by decide +kernel
        omega
    · simp only [pyT, PyData.leavesShort, decide_eq_true_eq]
      have := PySem.int_text_length_le10 hB h'
      show (Str.ofString (toString i)).length ≤ B + 8
      rw [PySem.ofString_length]
      omega
  | .lst l, h => by
    obtain ⟨a, b, c⟩ := shbs_of B hB h2 l (by simpa only [pln] using h)
    exact ⟨by simpa only [pyT, PyData.showable] using a, by simpa only [pyT, PyData.leavesShort] using b, by simpa only [lay] using c⟩
  | .tup l, h => by
    obtain ⟨a, b, c⟩ := shbs_of B hB h2 l (by simpa only [pln] using h)
    exact ⟨by simpa only [pyT, PyData.showable] using a, by simpa only [pyT, PyData.leavesShort] using b, by simpa only [lay] using c⟩
  | .str _, h => by simp [pln] at h
  | .dct _ _, h => by simp [pln] at h
  | .fn _, h => by simp [pln] at h
  | .exn _ _, h => by simp [pln] at h
  | .scr _, h => by simp [pln] at h
theorem shbs_of (B : Nat) (hB : 0 < B) (h2 : B ≤ 500) : ∀ l : List D, plns B l = true → PyData.showableAll (pyTs l) = true ∧ PyData.leavesShortAll (B + 8) (pyTs l) = true ∧ lays l = true
  | [], _ => ⟨rfl, rfl, rfl⟩
  | x :: l, h => by
    simp only [plns, Bool.and_eq_true] at h
    obtain ⟨a, b, c⟩ := shb_of B hB h2 x h.1
    obtain ⟨a', b', c'⟩ := shbs_of B hB h2 l h.2
    refine ⟨?_, ?_, ?_⟩
    · simp only [pyTs, PyData.showableAll, a, a', Bool.and_self]
    · simp only [pyTs, PyData.leavesShortAll, b, b', Bool.and_self]
    · simp only [lays, c, c', Bool.and_self]
end
/-- repr of plain data that is small -/
theorem bi_repr_of {d : D} (B : Nat) (hB : 0 < B) (h2 : B ≤ 500) (h : pln B d = true) (hd : dep d ≤ 64) (hw : (B + 10) * (pyT d).weight + (B + 8) ≤ 16777216) : biD .repr [d] = some (.sh (.str (pyT d).shown)) := by
  obtain ⟨a, b, c⟩ := shb_of B hB h2 d h
  have e := PyData.shown_le (B + 8) (by omega) (pyT d) b
  rw [show B + 8 + 2 = B + 10 from rfl] at e
  have L : (LINE : Nat) = 16777216 := rfl
  show (reprD d).map _ = _
  unfold reprD okq
  rw [a, c, decide_eq_true hd, decide_eq_true (by omega)]
  rfl
theorem str_same {s : Str} (h : CpsOk s) : cmpD .NotEq (.str s) (.str s) = some false ∧ cmpD .Eq (.str s) (.str s) = some true := by
  have e : okq (.str s) = true := by
    unfold okq
    simp only [lay, dep]
    rw [Bool.and_eq_true]
    refine ⟨?_, rfl⟩
    unfold PyData.strOk
    rw [Array.all_eq_true_iff_forall_mem]
    intro c hc
    simpa using h c (Array.mem_toList_iff.mpr hc)
  simp [cmpD, e, eqv]
theorem repr_same {d : D} (B : Nat) (h : pln B d = true) : cmpD .NotEq (.str (pyT d).shown) (.str (pyT d).shown) = some false := (str_same (cps_shown B d h)).1
theorem bi_repr_int {i : Int} (h : i.natAbs < 10 ^ 100) : biD .repr [.int i] = some (.sh (.str (pyT (.int i)).shown)) := by
  refine bi_repr_of 100 (by decide) (by decide) (by simpa [pln] using h) (by simp [dep]) ?_
  simp only [pyT, PyData.weight]
  have : (if (i == 0) = true then 0 else i.natAbs.log2 + 1) ≤ 400 := by
    split
    · omega
    · rename_i c
      have hx : i ≠ 0 := by simpa using c
      have a : (10 : Nat) ^ 100 ≤ 2 ^ 350 := by decide +kernel
      have := (Nat.log2_lt (n := i.natAbs) (k := 350) (by omega)).mpr (by omega)
      omega
  generalize (if (i == 0) = true then 0 else i.natAbs.log2 + 1) = z at this
  omega
end Z
/-! YO: the least twos of so many places. -/
namespace Z
/-! ### twos of all differences -/
/-- twos between a place and a row -/
def btw (l : List Int) (p : Int) : Nat := (l.map fun q => v2 (p - q)).sum
def at2 : List Int → Nat
  | [] => 0
  | x :: l => btw l x + at2 l
theorem v2_neg (n : Int) : v2 (-n) = v2 n := by
  by_cases h : n = 0
  · subst h; rfl
  · by_cases e : n % 2 = 0
    · rw [v2_even h e, v2_even (by omega) (by omega), show -n / 2 = -(n / 2) by omega, v2_neg (n / 2)]
    · rw [v2_odd e, v2_odd (by omega)]
termination_by n.natAbs
decreasing_by omega
theorem v2_sub (a b : Int) : v2 (a - b) = v2 (b - a) := by rw [← v2_neg, Int.neg_sub]
theorem btw_cons (x : Int) (l : List Int) (p : Int) : btw (x :: l) p = v2 (p - x) + btw l p := rfl
theorem btw_app (l m : List Int) (p : Int) : btw (l ++ m) p = btw l p + btw m p := by simp [btw]
theorem btw_perm {l m : List Int} (h : l.Perm m) (p : Int) : btw l p = btw m p := (h.map _).sum_nat
theorem at2_perm {l m : List Int} (h : l.Perm m) : at2 l = at2 m := by
  induction h with
  | nil => rfl
  | cons x p ih => show btw _ x + at2 _ = btw _ x + at2 _; rw [btw_perm p, ih]
  | swap x y l =>
    show btw (x :: l) y + (btw l x + at2 l) = btw (y :: l) x + (btw l y + at2 l)
    rw [btw_cons, btw_cons, v2_sub y x]
    omega
  | trans _ _ h1 h2 => exact h1.trans h2
theorem at2_snoc (l : List Int) (x : Int) : at2 (l ++ [x]) = at2 l + btw l x := by
  rw [at2_perm (List.perm_append_comm : (l ++ [x]).Perm ([x] ++ l))]
  show btw l x + at2 l = _
  omega
/-- as a law sums it up -/
theorem at2_rows : ∀ (l m : List Int), ((List.range' m.length l.length).map fun i => btw ((m ++ l).take i) ((m ++ l).getD i 0)).sum + at2 m = at2 (m ++ l)
  | [], m => by simp
  | x :: l, m => by
    have ih := at2_rows l (m ++ [x])
    rw [List.append_assoc, List.length_append] at ih
    simp only [List.length_cons, List.range'_succ, List.map_cons, List.sum_cons]
    have e1 : (m ++ x :: l).take m.length = m := by simp
    have e2 : (m ++ x :: l).getD m.length 0 = x := by simp
    rw [e1, e2, ← show [x] ++ l = x :: l from rfl, ← ih, at2_snoc]
    simp only [List.length_singleton]
    omega
theorem at2_range (l : List Int) : ((List.range l.length).map fun i => btw (l.take i) (l.getD i 0)).sum = at2 l := by
  have := at2_rows l []
  rw [List.range_eq_range']
  simpa [at2] using this
/-- the numbers of an order -/
def no (s : Int → Int) : List Int → List Int
  | [] => []
  | t :: l => s t :: no (fun p => s p + v2 (p - t)) l
theorem no_sum : ∀ (l : List Int) (s : Int → Int), (no s l).sum = (l.map s).sum + at2 l
  | [], _ => rfl
  | t :: l, s => by
    have ih := no_sum l fun p => s p + v2 (p - t)
    have e : ∀ l : List Int, (l.map fun p => s p + (v2 (p - t) : Int)).sum = (l.map s).sum + (btw l t : Int) := by
      intro l
      induction l with
      | nil => rfl
      | cons x l ih =>
        simp only [List.map_cons, List.sum_cons, ih, btw_cons, v2_sub t x]
        omega
    simp only [no, List.sum_cons, List.map_cons, at2, ih, e]
    omega
theorem no_take : ∀ (k : Nat) (l : List Int) (s : Int → Int), (no s l).take k = no s (l.take k)
  | 0, _, _ => by simp [no]
  | _ + 1, [], _ => by simp [no]
  | k + 1, t :: l, s => by simp [no, no_take k l]
theorem gr_no : ∀ (n : Nat) (left : List Int) (s : Int → Int), left.length = n → (gr n left (left.map s)).2 = no s (gr n left (left.map s)).1 ∧ (gr n left (left.map s)).1.Perm left
  | 0, left, s, h => by
    have : left = [] := List.eq_nil_of_length_eq_zero h
    subst this
    exact ⟨rfl, .refl _⟩
  | n + 1, left, s, h => by
    have hs : left.map s ≠ [] := fun e => by
      have := congrArg List.length e
      simp at this
      subst this
      simp at h
    have i1 := mi_lt hs
    have i2 : mi (left.map s) < left.length := by simpa using i1
    generalize gi : mi (left.map s) = i at *
    have g1 : left.getD i 0 = left[i] := by simp [i2]
    have g2 : (left.map s).getD i 0 = s left[i] := by simp [i2]
    have em : ∀ (l : List Int) (i : Nat), (l.map s).eraseIdx i = (l.eraseIdx i).map s := by
      intro l
      induction l with
      | nil => intro i; rfl
      | cons x l ih =>
        intro i
        cases i with
        | zero => rfl
        | succ i => simp [ih i]
    have gz : ∀ l : List Int, gsum left[i] (l.map s) l = l.map fun p => s p + v2 (p - left[i]) := by
      intro l
      induction l with
      | nil => rfl
      | cons x l ih =>
        simp only [gsum, List.map_cons, List.zipWith_cons_cons] at ih ⊢
        rw [ih]
    obtain ⟨q1, q2⟩ := gr_no n (left.eraseIdx i) (fun p => s p + v2 (p - left[i])) (by rw [List.length_eraseIdx_of_lt i2]; omega)
    have e : gr (n + 1) left (left.map s) = (left[i] :: (gr n (left.eraseIdx i) ((left.eraseIdx i).map fun p => s p + v2 (p - left[i]))).1, s left[i] :: (gr n (left.eraseIdx i) ((left.eraseIdx i).map fun p => s p + v2 (p - left[i]))).2) := by
      show (left.getD (mi (left.map s)) 0 :: _, (left.map s).getD (mi (left.map s)) 0 :: _) = _
      rw [gi, g1, g2, em, gz]
    rw [e]
    refine ⟨?_, ?_⟩
    · show s left[i] :: _ = s left[i] :: no _ _
      rw [q1]
    · show (left[i] :: _).Perm left
      refine (q2.cons _).trans ?_
      have : left = left.take i ++ left[i] :: left.drop (i + 1) := by
        rw [← List.drop_eq_getElem_cons i2, List.take_append_drop]
      conv => rhs; rw [this]
      rw [List.eraseIdx_eq_take_drop_succ]
      exact List.perm_middle.symm
/-- the order of a row of places -/
def ord (ps : List Int) : List Int := (gr ps.length ps (List.replicate ps.length 0)).1
theorem zeros_map (ps : List Int) : List.replicate ps.length (0 : Int) = ps.map fun _ => 0 := by
  rw [List.map_const']
theorem ord_perm (ps : List Int) : (ord ps).Perm ps := by
  unfold ord
  rw [zeros_map]
  exact (gr_no _ ps (fun _ => 0) rfl).2
theorem nums_no (ps : List Int) : nums ps = no (fun _ => 0) (ord ps) := by
  unfold nums ord
  rw [zeros_map]
  exact (gr_no _ ps (fun _ => 0) rfl).1
theorem zsum (l : List Int) : (l.map fun _ => (0 : Int)).sum = 0 := by
  induction l with
  | nil => rfl
  | cons x l ih => simp [ih]
theorem nums_sum (ps : List Int) (k : Nat) : ((nums ps).take k).sum = at2 ((ord ps).take k) := by
  rw [nums_no, no_take, no_sum, zsum]
  omega
theorem nums_all (ps : List Int) : (nums ps).sum = at2 ps := by
  have := nums_sum ps ps.length
  rw [← at2_perm (ord_perm ps)]
  have l1 : (nums ps).length = ps.length := by unfold nums; exact (gr_len _ _ _).2
  have l2 : (ord ps).length = ps.length := by unfold ord; exact (gr_len _ _ _).1
  rw [List.take_of_length_le (by omega), List.take_of_length_le (by omega)] at this
  exact this
/-- with fewer places no number is less -/
def Dm (a b : List Int) : Prop := b.length ≤ a.length ∧ ∀ (i : Nat) (h : i < b.length) (h2 : i < a.length), a[i] ≤ b[i]
theorem Dm.trans {a b c : List Int} (h : Dm a b) (h2 : Dm b c) : Dm a c := ⟨Nat.le_trans h2.1 h.1, fun i q q2 => Int.le_trans (h.2 i (by have := h2.1; omega) q2) (h2.2 i q (by have := h2.1; omega))⟩
theorem br_sub {d : Nat} {l m : List Int} (s : l.Sublist m) : Wi d m → Dm (br d m) (br d l) := by
  have key : ∀ (pre : List Int), Wi d (pre ++ m) → Dm (br d (pre ++ m)) (br d (pre ++ l)) := by
    induction s with
    | slnil => exact fun pre h => ⟨Nat.le_refl _, fun i _ _ => Int.le_refl _⟩
    | @cons l m x s ih =>
      intro pre h
      have h2 : Wi d (pre ++ m) := ⟨(h.1).sublist (List.Sublist.append_left (List.sublist_cons_self _ _) _), fun p hp => h.2 p (by
        rcases List.mem_append.mp hp with hp | hp
        · exact List.mem_append_left _ hp
        · exact List.mem_append_right _ (List.mem_cons_of_mem _ hp))⟩
      have pw := br_less_pw h
      have l1 := br_len d (pre ++ x :: m)
      have l2 := br_len d (pre ++ m)
      simp at l1 l2
      exact Dm.trans ⟨by omega, fun i q q2 => (pw i q (by omega)).1⟩ (ih pre h2)
    | @cons_cons l m x s ih =>
      intro pre h
      have := ih (pre ++ [x]) (by simpa using h)
      simpa using this
  exact fun h => by simpa using key [] (by simpa using h)
theorem dm_sum : ∀ (a b : List Int), Dm a b → (a.take b.length).sum ≤ b.sum
  | _, [], _ => by simp
  | [], y :: b, h => by have := h.1; simp at this
  | x :: a, y :: b, h => by
    have h0 : x ≤ y := h.2 0 (by simp) (by simp)
    have := dm_sum a b ⟨by simpa using h.1, fun i q q2 => h.2 (i + 1) (by simpa using q) (by simpa using q2)⟩
    simp only [List.length_cons, List.take_succ_cons, List.sum_cons]
    omega
/-- the least of the twos of so many places -/
theorem least_le {d : Nat} {t ps : List Int} (s : t.Sublist ps) (h : Wi d ps) : ((br d ps).take t.length).sum ≤ (at2 t : Int) := by
  have h2 : Wi d t := ⟨h.1.sublist s, fun p hp => h.2 p (s.subset hp)⟩
  have := dm_sum _ _ (br_sub s h)
  rw [br_len] at this
  rw [← nums_all t, nums_br h2]
  exact this
theorem filter_perm {l m : List Int} (hl : l.Nodup) (s : ∀ x ∈ m, x ∈ l) (hm : m.Nodup) : (l.filter fun x => decide (x ∈ m)).Perm m := by
  rw [List.perm_ext_iff_of_nodup (hl.sublist List.filter_sublist) hm]
  intro x
  simp only [List.mem_filter, decide_eq_true_eq]
  exact ⟨fun h => h.2, fun h => ⟨s x h, h⟩⟩
theorem least_is {d : Nat} {ps : List Int} (h : Wi d ps) (k : Nat) (hk : k ≤ ps.length) : ∃ t : List Int, t.Sublist ps ∧ t.length = k ∧ (at2 t : Int) = ((br d ps).take k).sum := by
  have nd : ((ord ps).take k).Nodup := ((ord_perm ps).nodup_iff.mpr h.1).sublist (List.take_sublist _ _)
  have p := filter_perm h.1 (fun x hx => (ord_perm ps).mem_iff.mp (List.mem_of_mem_take hx)) nd
  refine ⟨ps.filter fun x => decide (x ∈ (ord ps).take k), List.filter_sublist, ?_, ?_⟩
  · rw [p.length_eq, List.length_take, (ord_perm ps).length_eq]
    omega
  · rw [at2_perm p, ← nums_sum, nums_br h]
end Z
namespace Z
open PySem (Str Operator CmpOp)
/-- check_number -/
def s_check_number : List S :=
  [.ite (.not (.val (.call 1 [.var 0, .var 1, .var 2] [] []))) [.nev] []]
def d_check_number : Df := { modes := [false, false, false], names := 3, body := s_check_number }
/-- least_twos -/
def s_least_twos : List S :=
  [.ex (.call 9 [.var 0] [] []),
    .ex (.call 13 [.var 0, .var 1] [] []),
    .ex (.call 2 [.var 2, .con (.int 0), .bi .len [.var 1]] [] []),
    .ret (.bi .sum [.slc (.idx (.call 5 [.var 1] [] []) (.con (.int 1))) (.con .non) (.var 2)])]
def d_least_twos : Df := { modes := [false, false, false], names := 3, body := s_least_twos }
/-- _law_between -/
def s__law_between : List S :=
  [.ret (.bi .sum [.lc (.call 103 [.bin .Sub (.var 1) (.var 2)] [] []) (.v 2) (.e (.var 0)) [] [2]])]
def d__law_between : Df := { modes := [false, false], names := 3, body := s__law_between }
/-- _law_all_twos -/
def s__law_all_twos : List S :=
  [.ret (.bi .sum [.lc (.call 104 [.slc (.var 0) (.con .non) (.var 1), .idx (.var 0) (.var 1)] [] []) (.v 1) (.rng1 (.bi .len [.var 0])) [] [1]])]
def d__law_all_twos : Df := { modes := [false], names := 2, body := s__law_all_twos }
/-- _law_chosen -/
def s__law_chosen : List S :=
  [.asg (.v 2) (.lst [.lst []]),
    .for_ (.v 3) (.e (.var 0)) [.asg (.v 2) (.bin .Add (.var 2) (.lc (.bin .Add (.var 4) (.lst [.var 3])) (.v 4) (.e (.var 2)) [.val (.cmp .Lt (.bi .len [.var 4]) (.var 1))] [4]))],
    .ret (.lc (.var 4) (.v 4) (.e (.var 2)) [.val (.cmp .Eq (.bi .len [.var 4]) (.var 1))] [4])]
def d__law_chosen : Df := { modes := [false, false], names := 5, body := s__law_chosen }
/-- _law_small_right -/
def s__law_small_right : List S :=
  [.asg (.v 2) (.call 102 [.var 0, .var 1, .con (.int 6)] [] []),
    .for_ (.v 3) (.rng1 (.bin .Add (.bi .len [.var 2]) (.con (.int 1)))) [.asg (.v 4) (.bi .min [.lc (.call 117 [.var 5] [] []) (.v 5) (.e (.call 118 [.var 2, .var 3] [] [])) [] [5]]),
    .ite (.or (.val (.cmp .NotEq (.bi .repr [.call 116 [.var 1, .var 2, .var 3] [] []]) (.bi .repr [.var 4]))) (.val (.cmp .NotEq (.call 116 [.var 3, .var 2, .var 1] [2, 1, 0] []) (.var 4)))) [.ret (.con (.bl false))] []],
    .ret (.con (.bl true))]
def d__law_small_right : Df := { modes := [true, false], names := 6, body := s__law_small_right }
section
variable {Pg : Nat → Option Df} {fuel k f : Nat} {C : Cf}
@[simp] theorem q_callK {es : List E} {r : En} {i : Nat} {is : List Nat} : ev C (.call f es (i :: is) []) r = (evA C es r).bind fun ys r1 => match permL ys (i :: is), C.modes f with
    | some xs, some ms => callR ms (C.call f) xs r1
    | _, _ => .bad := by
  simp only [ev]
  congr 1
  funext ys r1
  first
  | (simp only [List.map_nil, List.append_nil, permO, List.isEmpty_cons, Bool.false_eq_true, if_false]; done)
  | (simp only [List.map_nil, List.append_nil, permO, List.isEmpty_cons, Bool.false_eq_true, if_false]
     cases permL ys (i :: is) with
     | none => rfl
     | some xs => cases C.modes f <;> rfl)
@[simp] theorem q_perm0 {A : Type} {l : List A} : permL l [] = some [] := rfl
@[simp] theorem q_perm {A : Type} {l : List A} {i : Nat} {is : List Nat} : permL l (i :: is) = (l[i]?).bind fun a => (permL l is).map (a :: ·) := rfl
theorem m_check_number (G : GB Pg) (h : Pg f = some d_check_number) (n a b : Int) (hn : a ≤ n ∧ n ≤ b) : callD Pg fuel (k + 3) f [.int n, .int a, .int b] = .ok (.sh .non) [] := by
  rw [callD_eq h ⟨rfl, Nat.le_refl _⟩]
  have e := m_is_between G.h0 G.h1 fuel k n a b
  rw [decide_eq_true hn] at e
  simp [d_check_number, s_check_number, start_eq, G.h1, d_is_between, e]
theorem m_row (G : GB Pg) (w : Nat) (hw : w ≤ 64) (hf : 1000 ≤ fuel) (ps : List Int) (hl : ps.length ≤ 900) (h : PlW w ps) : callD Pg fuel (k + 2) 5 [il ps] = .ok (.sh (.tup [il (ord ps), il (br w ps)])) [] := by
  have e := m_good_row (fuel := fuel) (k := k) G.h4 G.h5 64 (by omega) ps (by omega) (by omega) h.wi.1 fun p hp q hq => by
    have a1 := h.2.2 p hp
    have a2 := h.2.2 q hq
    have := (pow_le64 hw).2
    omega
  rw [← nums_br h.wi]
  exact e
theorem m_order (G : GO Pg) (w : Nat) (hw : 1 ≤ w ∧ w ≤ 64) (hf : 1000 ≤ fuel) (ps : List Int) (hl : ps.length ≤ 900) (h : PlW w ps) : callD Pg fuel (k + 6) 96 [.int w, il ps] = .ok (.sh (.tup [il (ord ps), il (br w ps)])) [] := by
  have e := m_good_order (fuel := fuel) (k := k) G.h0 G.h1 G.h3 G.h4 G.h5 G.h8 G.h9 G.h10 G.h11 G.h12 G.h13 G.h96 w hw.1 hw.2 (by omega) ps (by omega) (by omega) h.1 h.2.1 h.2.2
  rw [← nums_br h.wi]
  exact e
/-- the least twos of c places -/
def lt (w : Nat) (ps : List Int) (c : Nat) : Int := ((br w ps).take c).sum
theorem m_least (G : GB Pg) (h2 : Pg 2 = some d_check_number) (h : Pg f = some d_least_twos) (w : Nat) (hw : 1 ≤ w ∧ w ≤ 64) (hf : 1000 ≤ fuel) (ps : List Int) (hl : ps.length ≤ 900) (hp : PlW w ps) (c : Nat) (hc : c ≤ ps.length) :
    callD Pg fuel (k + 7) f [.int w, il ps, .int c] = .ok (.sh (.int (lt w ps c))) [] := by
  rw [callD_eq h ⟨rfl, Nat.le_refl _⟩]
  have e1 := m_check_width G.h0 G.h1 G.h8 G.h9 fuel (k + 2) (w : Int) (by omega)
  have e2 := m_check_places (fuel := fuel) (k := k + 1) G.h0 G.h1 G.h3 G.h8 G.h9 G.h10 G.h11 G.h12 G.h13 w hw.1 hw.2 ps (by omega) hp.1 hp.2.1 hp.2.2
  have e3 := m_check_number (fuel := fuel) (k := k + 3) G h2 (c : Int) 0 (ps.length : Int) (by omega)
  have e4 := m_row (fuel := fuel) (k := k + 4) G w hw.2 hf ps hl hp
  have ec := cut_take (br w ps) c
  unfold lt
  generalize (br w ps).take c = X at *
  simp [d_least_twos, s_least_twos, start_eq, G.h9, G.h13, h2, G.h5, d_check_width, d_check_places, d_check_number, d_good_row, e1, e2, e3, e4, idxD, atL, ixN, por, isNon, slcD, part?, ec]
theorem sum_cast (l : List Nat) : (l.map fun n => ((n : Nat) : Int)).sum = ((l.sum : Nat) : Int) := by
  induction l with
  | nil => rfl
  | cons x l ih => simp only [List.map_cons, List.sum_cons, ih]; omega
theorem m_between (h103 : Pg 103 = some d__law_twos_v2) (h : Pg f = some d__law_between) (hf : 1000 ≤ fuel) (row : List Int) (p : Int) (hl : row.length ≤ 1000) (hr : ∀ q ∈ row, q ≠ p ∧ (p - q).natAbs < 2 ^ 64) : callD Pg fuel (k + 2) f [il row, .int p] = .ok (.sh (.int (btw row p))) [] := by
  rw [callD_eq h ⟨rfl, Nat.le_of_ble_eq_true rfl⟩]
  have e : ev (Cz Pg fuel (k + 1)) (.lc (.call 103 [.bin .Sub (.var 1) (.var 2)] [] []) (.v 2) (.e (.var 0)) [] [2]) [.sh (il row), .sh (.int p), .no] = .ok (.ow (.lst ((row.map fun q => (v2 (p - q) : Int)).map .int))) [.sh (il row), .sh (.int p), .no] := by
    rw [lc_run (r1 := [.sh (il row), .sh (.int p), .no]) (l := row.map .int) (fun d => match d with | D.int q => some (D.int (v2 (p - q) : Nat)) | _ => none)]
    · have q : List.filterMap (fun d => match d with | D.int q => some (D.int (v2 (p - q) : Nat)) | _ => none) (row.map D.int) = (row.map fun q => (v2 (p - q) : Int)).map .int := by
        clear hl hr
        induction row with
        | nil => rfl
        | cons x l ih => simp only [List.map_cons, List.filterMap_cons, ih]
      rw [q]
      simp [thawL, thw, thw1]
    · simp [itemsD]
    · rfl
    · rfl
    · exact line_le (by rw [List.length_map]; exact hl)
    · intro x hx
      obtain ⟨q, hq, rfl⟩ := List.mem_map.mp hx
      obtain ⟨n1, n2⟩ := hr q hq
      have e1 := m_twos2 (fuel := fuel) (k := k) h103 64 (p - q) (by omega) n2 (by omega)
      refine ⟨[.sh (il row), .sh (.int p), .sh (.int q)], ?_, rfl⟩
      simp [lcF, wip, bindT, h103, d__law_twos_v2, e1]
  have es : biD .sum [.lst ((row.map fun q => (v2 (p - q) : Int)).map .int)] = some (.sh (.int (btw row p))) := by
    rw [bi_sum_il]
    unfold btw
    rw [← sum_cast, List.map_map]
    rfl
  generalize (row.map fun q => (v2 (p - q) : Int)).map D.int = X at *
  simp [d__law_between, s__law_between, start_eq, e, es]
theorem m_all_twos (h103 : Pg 103 = some d__law_twos_v2) (h104 : Pg 104 = some d__law_between) (h : Pg f = some d__law_all_twos) (hf : 1000 ≤ fuel) (row : List Int) (hl : row.length ≤ 900) (nd : row.Nodup) (hr : ∀ q ∈ row, ∀ p ∈ row, (p - q).natAbs < 2 ^ 64) : callD Pg fuel (k + 3) f [il row] = .ok (.sh (.int (at2 row))) [] := by
  rw [callD_eq h ⟨rfl, Nat.le_of_ble_eq_true rfl⟩]
  have e : ev (Cz Pg fuel (k + 2)) (.lc (.call 104 [.slc (.var 0) (.con .non) (.var 1), .idx (.var 0) (.var 1)] [] []) (.v 1) (.rng1 (.bi .len [.var 0])) [] [1]) [.sh (il row), .no] = .ok (.ow (.lst (((List.range row.length).map fun i => (btw (row.take i) (row.getD i 0) : Int)).map .int))) [.sh (il row), .no] := by
    rw [lc_run (r1 := [.sh (il row), .no]) (l := (rangeI 0 row.length 1).map .int) (fun d => match d with | D.int i => some (D.int (btw (row.take i.toNat) (row.getD i.toNat 0) : Nat)) | _ => none)]
    · have q : List.filterMap (fun d => match d with | D.int i => some (D.int (btw (row.take i.toNat) (row.getD i.toNat 0) : Nat)) | _ => none) ((rangeI 0 row.length 1).map D.int) = ((List.range row.length).map fun i => (btw (row.take i) (row.getD i 0) : Int)).map .int := by
        unfold rangeI rangeN
        rw [if_pos rfl, List.map_map, List.map_map, List.filterMap_map, show ((row.length : Int) - 0).toNat = row.length by omega, List.filterMap_eq_map.symm]
        congr 1
        funext i
        simp
      rw [q]
      simp [thawL, thw, thw1]
    · exact rng1_eq (y := .inr (.int row.length)) (by simp) (by simp) (by omega)
    · rfl
    · rfl
    · exact line_le (by rw [rng0_len]; omega)
    · intro x hx
      obtain ⟨j, hj, rfl⟩ := List.getElem_of_mem hx
      rw [rng0_len] at hj
      rw [rng0_get]
      have g1 : row.getD j 0 = row[j] := by simp [hj]
      have e1 := m_between (fuel := fuel) (k := k) h103 h104 hf (row.take j) row[j] (by simp; omega) (fun q hq => by
        refine ⟨fun e => ?_, hr q (List.mem_of_mem_take hq) _ (List.getElem_mem _)⟩
        obtain ⟨i, hi, e2⟩ := List.getElem_of_mem hq
        rw [List.length_take] at hi
        rw [List.getElem_take] at e2
        exact List.pairwise_iff_getElem.mp nd i j (by omega) hj (by omega) (e2.trans e))
      have ec := cut_take row j
      have ei : idxD (il row) (.int j) = some (.int row[j]) := at_il row j hj
      refine ⟨[.sh (il row), .sh (.int j)], ?_, rfl⟩
      simp only [Int.toNat_natCast, g1]
      generalize row.take j = X at *
      simp [lcF, wip, bindT, por, isNon, slcD, part?, ec, ei, h104, d__law_between, e1]
  have es : biD .sum [.lst (((List.range row.length).map fun i => (btw (row.take i) (row.getD i 0) : Int)).map .int)] = some (.sh (.int (at2 row))) := by
    rw [bi_sum_il, ← at2_range, ← sum_cast, List.map_map]
    rfl
  generalize ((List.range row.length).map fun i => (btw (row.take i) (row.getD i 0) : Int)).map D.int = X at *
  simp [d__law_all_twos, s__law_all_twos, start_eq, e, es]
end
end Z
/-! YP: the law of the least twos. -/
namespace Z
open PySem (Str Operator CmpOp)
/-- _law_great_right -/
def s__law_great_right_v1 : List S :=
  [.par [2, 3] [.call 102 [.var 0, .var 1, .con (.int 14)] [] [], .con (.int 0)],
    .asg (.v 4) (.idx (.call 96 [.var 1, .var 2] [] []) (.con (.int 0))),
    .for_ (.v 5) (.e (.lst [.call 98 [.var 0, .bin .Add (.bi .len [.var 2]) (.con (.int 1))] [] [], .bi .len [.var 2]])) [.asg (.v 6) (.call 116 [.var 1, .var 2, .var 5] [] []),
    .ite (.or (.val (.cmp .NotEq (.call 117 [.slc (.var 4) (.con .non) (.var 5)] [] []) (.var 6))) (.val (.cmp .Lt (.var 6) (.var 3)))) [.ret (.con (.bl false))] [],
    .asg (.v 7) (.bi .list [.var 2]),
    .for_ (.v 8) (.rng1 (.bin .Sub (.bi .len [.var 2]) (.var 5))) [.asg (.v 9) (.call 98 [.var 0, .bi .len [.var 7]] [] []),
    .asg (.v 7) (.bin .Add (.slc (.var 7) (.con .non) (.var 9)) (.slc (.var 7) (.bin .Add (.var 9) (.con (.int 1))) (.con .non)))],
    .ite (.val (.cmp .Lt (.call 117 [.var 7] [] []) (.var 6))) [.ret (.con (.bl false))] [],
    .asg (.v 3) (.var 6)],
    .ret (.con (.bl true))]
def d__law_great_right_v1 : Df := { modes := [true, false], names := 10, body := s__law_great_right_v1 }
/-- law -/
def s_law_v7 : List S :=
  [.for_ (.v 1) (.rng1 (.con (.int 2))) [.asg (.v 2) (.call 35 [.var 0, .var 1] [] []),
    .ite (.or (.not (.val (.call 119 [.var 2, .bin .Add (.con (.int 1)) (.call 98 [.var 2, .con (.int 5)] [] [])] [] []))) (.not (.val (.call 119 [.var 2, .bin .Add (.con (.int 1)) (.call 98 [.var 2, .con (.int 64)] [] [])] [] [])))) [.ret (.con (.bl false))] [],
    .ite (.not (.val (.call 120 [.var 2, .bin .Add (.con (.int 5)) (.call 98 [.var 2, .con (.int 60)] [] [])] [] []))) [.ret (.con (.bl false))] []],
    .ite (.or (.val (.cmp .NotEq (.call 116 [.con (.int 64), .bi .lrange [.con (.int 64)], .con (.int 32)] [] []) (.con (.int 416)))) (.val (.cmp .NotEq (.call 116 [.con (.int 64), .bi .lrange [.con (.int 64)], .con (.int 0)] [] []) (.con (.int 0))))) [.ret (.con (.bl false))] [],
    .ite (.val (.cmp .NotEq (.lc (.call 116 [.con (.int 4), .lst [.con (.int 0), .con (.int 1), .con (.int 2), .con (.int 4)], .var 3] [] []) (.v 3) (.rng1 (.con (.int 5))) [] [3]) (.lst [.con (.int 0), .con (.int 0), .con (.int 0), .con (.int 1), .con (.int 4)]))) [.ret (.con (.bl false))] [],
    .ret (.cmp .Eq (.call 116 [.con (.int 64), .lst [.con (.int 0), .bin .Pow (.con (.int 2)) (.con (.int 62)), .bin .Pow (.con (.int 2)) (.con (.int 63))], .con (.int 3)] [] []) (.bin .Add (.bin .Add (.con (.int 62)) (.con (.int 63))) (.con (.int 62))))]
def d_law_v7 : Df := { modes := [false], names := 4, body := s_law_v7 }
/-- lots of at most so many -/
def chS (c : Nat) : List (List Int) → List Int → List (List Int)
  | F, [] => F
  | F, x :: l => chS c (F ++ (F.filter fun T => decide (T.length < c)).map (· ++ [x])) l
def chosen (ps : List Int) (c : Nat) : List (List Int) := (chS c [[]] ps).filter fun T => decide (T.length = c)
theorem chS_mem (c : Nat) : ∀ (l p : List Int) (F : List (List Int)), (∀ T, T ∈ F ↔ T.Sublist p ∧ T.length ≤ c) → ∀ T, T ∈ chS c F l ↔ T.Sublist (p ++ l) ∧ T.length ≤ c
  | [], p, F, h, T => by simpa [chS] using h T
  | x :: l, p, F, h, T => by
    have := chS_mem c l (p ++ [x]) (F ++ (F.filter fun T => decide (T.length < c)).map (· ++ [x])) (fun T => by
      rw [List.mem_append, h, List.mem_map, List.sublist_append_iff]
      constructor
      · rintro (⟨a, b⟩ | ⟨U, hU, rfl⟩)
        · exact ⟨⟨T, [], by simp, a, List.nil_sublist _⟩, b⟩
        · obtain ⟨m, lt⟩ := List.mem_filter.mp hU
          have lt := of_decide_eq_true lt
          exact ⟨⟨U, [x], rfl, ((h U).mp m).1, .refl _⟩, by simp; omega⟩
      · rintro ⟨⟨a, b, rfl, sa, sb⟩, hl⟩
        rcases b with _ | ⟨y, b⟩
        · left
          simp at hl ⊢
          exact ⟨sa, hl⟩
        · right
          have hb := sb.length_le
          simp only [List.length_cons, List.length_nil] at hb
          have : b = [] := List.eq_nil_of_length_eq_zero (by omega)
          subst this
          have : y = x := by
            have := sb.subset List.mem_cons_self
            simpa using this
          subst this
          simp at hl
          exact ⟨a, List.mem_filter.mpr ⟨(h a).mpr ⟨sa, by omega⟩, decide_eq_true (by omega)⟩, rfl⟩) T
    rw [List.append_assoc] at this
    exact this
theorem chosen_mem (ps : List Int) (c : Nat) (T : List Int) : T ∈ chosen ps c ↔ T.Sublist ps ∧ T.length = c := by
  unfold chosen
  rw [List.mem_filter, chS_mem c ps [] [[]] (fun T => by
    simp
    rintro rfl; simp), decide_eq_true_iff, List.nil_append]
  constructor
  · rintro ⟨⟨a, _⟩, b⟩; exact ⟨a, b⟩
  · rintro ⟨a, b⟩; exact ⟨⟨a, by omega⟩, b⟩
theorem chS_len (c : Nat) : ∀ (l : List Int) (F : List (List Int)), (chS c F l).length ≤ F.length * 2 ^ l.length
  | [], F => by simp [chS]
  | x :: l, F => by
    have := chS_len c l (F ++ (F.filter fun T => decide (T.length < c)).map (· ++ [x]))
    have h2 := List.length_filter_le (fun T : List Int => decide (T.length < c)) F
    simp only [List.length_append, List.length_map, List.length_cons, Nat.pow_succ] at this ⊢
    refine Nat.le_trans this ?_
    rw [Nat.mul_comm (2 ^ l.length) 2, ← Nat.mul_assoc]
    exact Nat.mul_le_mul_right _ (by omega)
theorem chS_app (c : Nat) : ∀ (l m : List Int) (F : List (List Int)), chS c F (l ++ m) = chS c (chS c F l) m
  | [], _, _ => rfl
  | x :: l, m, F => chS_app c l m _
abbrev ils (F : List (List Int)) : List D := F.map fun T => il T
section
variable {Pg : Nat → Option Df} {fuel k f : Nat}
theorem m_chosen (h : Pg f = some d__law_chosen) (ps : List Int) (hl : ps.length ≤ 6) (c : Nat) : callD Pg fuel (k + 1) f [il ps, .int c] = .ok (.ow (.lst (ils (chosen ps c)))) [] := by
  rw [callD_eq h ⟨rfl, Nat.le_of_ble_eq_true rfl⟩]
  have small : ∀ n : Nat, n ≤ 6 → (2 : Nat) ^ n ≤ 64 := fun n h => Nat.pow_le_pow_right (n := 2) (by omega) h
  obtain ⟨r', e', y2, y3, rfl, hy3⟩ := for_run (C := Cz Pg fuel k) (t := .v 3) (it := .e (.var 0)) (body := [.asg (.v 2) (.bin .Add (.var 2) (.lc (.bin .Add (.var 4) (.lst [.var 3])) (.v 4) (.e (.var 2)) [.val (.cmp .Lt (.bi .len [.var 4]) (.var 1))] [4]))])
    (r := [.sh (il ps), .sh (.int c), .ow (.lst [.lst []]), .no, .no]) (r1 := [.sh (il ps), .sh (.int c), .ow (.lst [.lst []]), .no, .no]) (l := ps.map .int)
    (fun j r => ∃ (F : List (List Int)) (y3 : Sl), r = [.sh (il ps), .sh (.int c), .ow (.lst (ils F)), y3, .no] ∧ Pn y3 ∧ F = chS c [[]] (ps.take j)) (by simp [itemsD]) (by
    intro j hj r hr
    rw [List.length_map] at hj
    obtain ⟨F, y3, rfl, hy3, hF⟩ := hr
    have lF : F.length ≤ 64 := by
      rw [hF]
      refine Nat.le_trans (chS_len c _ _) ?_
      simp
      exact small _ (by omega)
    have hF2 : F ++ (F.filter fun T => decide (T.length < c)).map (· ++ [ps[j]]) = chS c [[]] (ps.take (j + 1)) := by
      rw [List.take_succ_eq_append_getElem hj, chS_app, ← hF]
      rfl
    have lT : ∀ T ∈ F, T.length ≤ 6 := by
      intro T hT
      rw [hF] at hT
      have := ((chS_mem c (ps.take j) [] [[]] (fun T => by
        simp
        rintro rfl; simp) T).mp hT).1.length_le
      simp at this
      omega
    rw [List.getElem_map]
    have lc1 : ev (Cz Pg fuel k) (.lc (.bin .Add (.var 4) (.lst [.var 3])) (.v 4) (.e (.var 2)) [.val (.cmp .Lt (.bi .len [.var 4]) (.var 1))] [4]) [.sh (il ps), .sh (.int c), .ow (.lst (ils F)), .sh (.int ps[j]), .no] =
        thawL [.sh (il ps), .sh (.int c), .ow (.lst (ils F)), .sh (.int ps[j]), .no] (ils ((F.filter fun T => decide (T.length < c)).map (· ++ [ps[j]]))) [.sh (il ps), .sh (.int c), .sh (.lst (ils F)), .sh (.int ps[j]), .no] := by
      rw [lc_run (l := ils F) (r1 := [.sh (il ps), .sh (.int c), .sh (.lst (ils F)), .sh (.int ps[j]), .no]) (fun d => match d with | .lst l => if l.length < c then some (.lst (l ++ [.int ps[j]])) else none | _ => none)]
      · congr 1
        clear lF hF hF2 lT
        induction F with
        | nil => rfl
        | cons T F ih =>
          simp only [ils, List.map_cons, List.filterMap_cons, List.length_map] at ih ⊢
          by_cases q : T.length < c
          · simp only [if_pos q, List.filter_cons, decide_eq_true q, if_true, List.map_cons]
            rw [← ih]
            simp
          · simp only [if_neg q, List.filter_cons, decide_eq_false q, Bool.false_eq_true, if_false]
            exact ih
      · simp [itemsD]
      · rfl
      · rfl
      · exact line_le (by rw [List.length_map]; omega)
      · intro x hx
        obtain ⟨T, hT, rfl⟩ := List.mem_map.mp hx
        have := lT T hT
        have ll : T.length + (0 + 1) ≤ LINE := line_le (by omega)
        refine ⟨[.sh (il ps), .sh (.int c), .sh (.lst (ils F)), .sh (.int ps[j]), .sh (il T)], ?_, rfl⟩
        by_cases q : T.length < c
        · have q' : (T.length : Int) < c := by omega
          simp [lcF, wip, bindT, q, q', ll]
        · have q' : ¬ (T.length : Int) < c := by omega
          simp [lcF, wip, bindT, q, q', ll]
    have th : ∀ G : List (List Int), ∃ y2, thawL [.sh (il ps), .sh (.int c), .ow (.lst (ils F)), .sh (.int ps[j]), .no] (ils G) [.sh (il ps), .sh (.int c), .sh (.lst (ils F)), .sh (.int ps[j]), .no] = .ok (.ow (.lst (ils G))) [.sh (il ps), .sh (.int c), y2, .sh (.int ps[j]), .no] ∧ (y2 = .sh (.lst (ils F)) ∨ y2 = .ow (.lst (ils F))) := by
      intro G
      unfold thawL
      split
      · by_cases q : shal (.lst (ils F)) = true
        · exact ⟨.ow (.lst (ils F)), by simp [thw, thw1, q], .inr rfl⟩
        · exact ⟨.sh (.lst (ils F)), by simp [thw, thw1, q], .inl rfl⟩
      · exact ⟨.sh (.lst (ils F)), rfl, .inl rfl⟩
    obtain ⟨y2, th, h2⟩ := th ((F.filter fun T => decide (T.length < c)).map (· ++ [ps[j]]))
    rw [th] at lc1
    refine ⟨_, ?_, F ++ (F.filter fun T => decide (T.length < c)).map (· ++ [ps[j]]), .sh (.int ps[j]), rfl, .inr ⟨_, rfl⟩, hF2⟩
    have lm := List.length_filter_le (fun T : List Int => decide (T.length < c)) F
    have ll : (ils F).length + (ils ((F.filter fun T => decide (T.length < c)).map (· ++ [ps[j]]))).length ≤ LINE := line_le (by simp only [List.length_map]; omega)
    have ea : ils F ++ ils ((F.filter fun T => decide (T.length < c)).map (· ++ [ps[j]])) = ils (F ++ (F.filter fun T => decide (T.length < c)).map (· ++ [ps[j]])) := by
      show _ = (F ++ _).map _
      rw [List.map_append]
    generalize ils (F ++ (F.filter fun T => decide (T.length < c)).map (· ++ [ps[j]])) = Z1 at *
    generalize ils ((F.filter fun T => decide (T.length < c)).map (· ++ [ps[j]])) = Z2 at *
    generalize ils F = Z3 at *
    rcases hy3 with rfl | ⟨d, rfl⟩ <;> rcases h2 with rfl | rfl <;> simp [bindT, lc1, ll, ea]) ⟨[[]], .no, rfl, .inl rfl, rfl⟩
  have hc : (ps.map D.int).length = ps.length := List.length_map ..
  rw [hc, List.take_length] at hy3
  obtain ⟨hy3, hF⟩ := hy3
  have lF : y2.length ≤ 64 := by
    rw [hF]
    refine Nat.le_trans (chS_len c _ _) ?_
    simp
    exact small _ hl
  have lc2 : ev (Cz Pg fuel k) (.lc (.var 4) (.v 4) (.e (.var 2)) [.val (.cmp .Eq (.bi .len [.var 4]) (.var 1))] [4]) [.sh (il ps), .sh (.int c), .ow (.lst (ils y2)), y3, .no] =
      thawL [.sh (il ps), .sh (.int c), .ow (.lst (ils y2)), y3, .no] (ils (chosen ps c)) [.sh (il ps), .sh (.int c), .sh (.lst (ils y2)), y3, .no] := by
    rw [lc_run (l := ils y2) (r1 := [.sh (il ps), .sh (.int c), .sh (.lst (ils y2)), y3, .no]) (fun d => match d with | .lst l => if l.length = c then some (.lst l) else none | _ => none)]
    · congr 1
      unfold chosen
      rw [← hF]
      clear lF hF e'
      induction y2 with
      | nil => rfl
      | cons T F ih =>
        simp only [ils, List.map_cons, List.filterMap_cons, List.length_map] at ih ⊢
        by_cases q : T.length = c
        · simp only [if_pos q, List.filter_cons, decide_eq_true q, if_true, List.map_cons]
          rw [← ih]
        · simp only [if_neg q, List.filter_cons, decide_eq_false q, Bool.false_eq_true, if_false]
          exact ih
    · simp [itemsD]
    · rcases hy3 with rfl | ⟨d, rfl⟩ <;> rfl
    · rfl
    · exact line_le (by rw [List.length_map]; omega)
    · intro x hx
      obtain ⟨T, hT, rfl⟩ := List.mem_map.mp hx
      refine ⟨[.sh (il ps), .sh (.int c), .sh (.lst (ils y2)), y3, .sh (il T)], ?_, rfl⟩
      by_cases q : T.length = c
      · have q' : (T.length : Int) = c := by omega
        simp [lcF, wip, bindT, q, q']
      · have q' : ¬ (T.length : Int) = c := by omega
        simp [lcF, wip, bindT, q, q']
  obtain ⟨r2, th⟩ : ∃ r2, thawL [.sh (il ps), .sh (.int c), .ow (.lst (ils y2)), y3, .no] (ils (chosen ps c)) [.sh (il ps), .sh (.int c), .sh (.lst (ils y2)), y3, .no] = .ok (.ow (.lst (ils (chosen ps c)))) r2 := by
    unfold thawL
    split
    · split
      · exact ⟨_, rfl⟩
      · exact ⟨_, rfl⟩
    · exact ⟨_, rfl⟩
  rw [th] at lc2
  simp [-q_for, d__law_chosen, s__law_chosen, start_eq, e', lc2]
end
end Z
/-! YQ: the law of the least twos. -/
namespace Z
open PySem (Str Operator CmpOp)
section
variable {Pg : Nat → Option Df} {fuel k f : Nat}
/-- what the law of the least twos reaches -/
structure L7 (Pg : Nat → Option Df) : Prop extends GO Pg where
  h2 : Pg 2 = some d_check_number
  h116 : Pg 116 = some d_least_twos
  h34 : Pg 34 = some d__law_cell
  h35 : Pg 35 = some d__law_generator
  h32 : Pg 32 = some d__law_hash
  h98 : Pg 98 = some d__law_random_v1
  h99 : Pg 99 = some d__law_places_v1
  h100 : Pg 100 = some d__law_double
  h101 : Pg 101 = some d__law_near
  h102 : Pg 102 = some d__law_drawn
  h103 : Pg 103 = some d__law_twos_v2
  h104 : Pg 104 = some d__law_between
  h117 : Pg 117 = some d__law_all_twos
  h118 : Pg 118 = some d__law_chosen
  h119 : Pg 119 = some d__law_small_right
  h120 : Pg 120 = some d__law_great_right_v1
theorem PlW.near {w : Nat} {ps : List Int} (h : PlW w ps) (hw : w ≤ 64) : ∀ q ∈ ps, ∀ p ∈ ps, (p - q).natAbs < 2 ^ 64 := fun q hq p hp => by
  have a1 := h.2.2 q hq
  have a2 := h.2.2 p hp
  have := (pow_le64 hw).2
  omega
theorem min_is {l : List Int} {m : Int} (hm : m ∈ l) (h : ∀ y ∈ l, m ≤ y) : biD .min [il l] = some (.sh (.int m)) := by
  have hn : l ≠ [] := fun e => by subst e; cases hm
  rw [bi_min_il hn]
  obtain ⟨h1, _⟩ := mi_at hn
  have a := h1 m hm
  have b := h _ (List.getElem_mem (mi_lt hn))
  rw [Int.le_antisymm a b]
theorem lt_nonneg (w : Nat) (ps : List Int) (h : PlW w ps) (c : Nat) (hc : c ≤ ps.length) : 0 ≤ lt w ps c := by
  obtain ⟨t, _, _, e⟩ := least_is h.wi c hc
  unfold lt
  rw [← e]
  omega
/-- the twos of so many places near one another -/
theorem at2_le (t : List Int) (near : ∀ q ∈ t, ∀ p ∈ t, (p - q).natAbs < 2 ^ 64) : at2 t ≤ 64 * t.length * t.length := by
  have v : ∀ (m : Nat) (n : Int), n.natAbs < 2 ^ m → v2 n ≤ m := by
    intro m
    induction m with
    | zero =>
      intro n hn
      have : n = 0 := by have : n.natAbs < 1 := hn; omega
      subst this
      rw [v2]
      simp
    | succ m ih =>
      intro n hn
      by_cases z : n = 0
      · subst z; rw [v2]; simp
      · by_cases e : n % 2 = 0
        · rw [v2_even z e]
          have : 2 ^ (m + 1) = 2 * 2 ^ m := by rw [Nat.pow_succ, Nat.mul_comm]
          have := ih (n / 2) (by omega)
          omega
        · rw [v2_odd e]
          omega
  have b : ∀ (l : List Int) (p : Int), (∀ q ∈ l, (p - q).natAbs < 2 ^ 64) → btw l p ≤ 64 * l.length := by
    intro l p
    induction l with
    | nil => intro _; exact Nat.zero_le _
    | cons x l ih =>
      intro hx
      rw [btw_cons]
      have := v 64 (p - x) (hx x List.mem_cons_self)
      have := ih fun q hq => hx q (List.mem_cons_of_mem _ hq)
      simp only [List.length_cons]
      omega
  have a : ∀ l : List Int, (∀ q ∈ l, ∀ p ∈ l, (p - q).natAbs < 2 ^ 64) → at2 l ≤ 64 * l.length * l.length := by
    intro l
    induction l with
    | nil => intro _; exact Nat.zero_le _
    | cons x l ih =>
      intro hx
      have h1 := b l x fun q hq => hx q (List.mem_cons_of_mem _ hq) x List.mem_cons_self
      have h2 := ih fun q hq p hp => hx q (List.mem_cons_of_mem _ hq) p (List.mem_cons_of_mem _ hp)
      show btw l x + at2 l ≤ _
      simp only [List.length_cons]
      have e2 : 64 * (l.length + 1) * (l.length + 1) = 64 * l.length * l.length + 128 * l.length + 64 := by
        simp only [Nat.mul_add, Nat.add_mul, Nat.mul_one]
        omega
      omega
  exact a t near
theorem lt_small (w : Nat) (hw : w ≤ 64) (ps : List Int) (h : PlW w ps) (hl : ps.length ≤ 100) (c : Nat) (hc : c ≤ ps.length) : (lt w ps c).natAbs < 10 ^ 100 := by
  obtain ⟨t, s, l, e⟩ := least_is h.wi c hc
  unfold lt
  rw [← e]
  have near : ∀ q ∈ t, ∀ p ∈ t, (p - q).natAbs < 2 ^ 64 := fun q hq p hp => h.near hw q (s.subset hq) p (s.subset hp)
  have := at2_le t near
  have h3 : 64 * t.length * t.length ≤ 64 * 100 * 100 := Nat.mul_le_mul (Nat.mul_le_mul_left _ (by omega)) (by omega)
  have p : (640000 : Nat) < 10 ^ 100 := by decide +kernel
  omega
theorem m_small (G : L7 Pg) (hf : 1000 ≤ fuel) (m : Nat) (hm : m ≤ 700000) (g : D) (hg : Gd m g) (w : Nat) (hw : 1 ≤ w ∧ w ≤ 64) : ∃ g', Gd (m + 30) g' ∧ callD Pg fuel (k + 9) 119 [g, .int w] = .ok (.sh (.bl true)) [g'] := by
  rw [callD_eq G.h119 ⟨rfl, Nat.le_of_ble_eq_true rfl⟩]
  obtain ⟨ps, g1, hp, hg1, e1⟩ := m_drawn (fuel := fuel) (k := k + 4) G.h32 G.h98 G.h100 G.h99 G.h101 G.h102 m (by omega) g hg w hw 6 (by omega)
  rw [show ((6 : Nat) : Int) = 6 from rfl] at e1
  refine ⟨g1, hg1, ?_⟩
  have l6 := hp.2.1
  have er := rng1_eq (C := Cz Pg fuel (k + 8)) (b := .bin .Add (.bi .len [.var 2]) (.con (.int 1))) (r := [.io g1, .sh (.int w), .ow (il ps), .no, .no, .no]) (r2 := [.io g1, .sh (.int w), .ow (il ps), .no, .no, .no]) (y := .inr (.int ((ps.length + 1 : Nat) : Int))) (j := ((ps.length + 1 : Nat) : Int)) (by simp) (by simp) (by omega)
  obtain ⟨r', e', y2, y3, y4, rfl, hy2, hy3, hy4⟩ := for_run (t := .v 3) (body := [.asg (.v 4) (.bi .min [.lc (.call 117 [.var 5] [] []) (.v 5) (.e (.call 118 [.var 2, .var 3] [] [])) [] [5]]),
    .ite (.or (.val (.cmp .NotEq (.bi .repr [.call 116 [.var 1, .var 2, .var 3] [] []]) (.bi .repr [.var 4]))) (.val (.cmp .NotEq (.call 116 [.var 3, .var 2, .var 1] [2, 1, 0] []) (.var 4)))) [.ret (.con (.bl false))] []])
    (fun _ r => ∃ y2 y3 y4, r = [.io g1, .sh (.int w), y2, y3, y4, .no] ∧ (y2 = .ow (il ps) ∨ y2 = .sh (il ps)) ∧ Pn y3 ∧ Pn y4) er (by
    intro c hc r hr
    rw [rng0_len] at hc
    rw [rng0_get]
    obtain ⟨y2, y3, y4, rfl, hy2, hy3, hy4⟩ := hr
    have e2 := m_chosen (fuel := fuel) (k := k + 7) G.h118 ps l6 c
    have e3 := m_least (fuel := fuel) (k := k + 1) G.toGB G.h2 G.h116 w hw hf ps (by omega) hp.plW c (by omega)
    have lc1 : ev (Cz Pg fuel (k + 8)) (.lc (.call 117 [.var 5] [] []) (.v 5) (.e (.call 118 [.var 2, .var 3] [] [])) [] [5]) [.io g1, .sh (.int w), y2, .sh (.int c), y4, .no] =
        thawL [.io g1, .sh (.int w), y2, .sh (.int c), y4, .no] (((chosen ps c).map fun T => (at2 T : Int)).map .int) [.io g1, .sh (.int w), .sh (il ps), .sh (.int c), y4, .no] := by
      rw [lc_run (l := ils (chosen ps c)) (r1 := [.io g1, .sh (.int w), .sh (il ps), .sh (.int c), y4, .no]) (fun d => match d with | .lst l => (intsD l).map fun T => D.int (at2 T : Nat) | _ => none)]
      · congr 1
        generalize chosen ps c = F
        induction F with
        | nil => rfl
        | cons T F ih =>
          simp only [ils, List.map_cons, List.filterMap_cons, ints_map, Option.map_some] at ih ⊢
          rw [ih]
      · rcases hy2 with rfl | rfl <;> simp [G.h118, d__law_chosen, e2, itemsD]
      · rcases hy4 with rfl | ⟨d, rfl⟩ <;> rfl
      · rfl
      · rw [List.length_map]
        refine line_le (Nat.le_trans (List.length_filter_le _ _) (Nat.le_trans (chS_len c ps _) ?_))
        have : 2 ^ ps.length ≤ 2 ^ 6 := Nat.pow_le_pow_right (by decide) l6
        simp
        omega
      · intro x hx
        obtain ⟨T, hT, rfl⟩ := List.mem_map.mp hx
        obtain ⟨sT, lT⟩ := (chosen_mem ps c T).mp hT
        have := sT.length_le
        have e4 := m_all_twos (fuel := fuel) (k := k + 5) G.h103 G.h104 G.h117 hf T (by omega) (hp.plW.wi.1.sublist sT) (fun q hq p hq' => hp.plW.near hw.2 q (sT.subset hq) p (sT.subset hq'))
        refine ⟨[.io g1, .sh (.int w), .sh (il ps), .sh (.int c), y4, .sh (il T)], ?_, ?_⟩
        · simp only [ints_map, Option.map_some]
          rcases hy4 with rfl | ⟨d, rfl⟩ <;> simp [lcF, wip, bindT, G.h117, d__law_all_twos, e4]
        · rfl
    obtain ⟨y2', th, hy2'⟩ : ∃ y2', thawL [.io g1, .sh (.int w), y2, .sh (.int c), y4, .no] (((chosen ps c).map fun T => (at2 T : Int)).map .int) [.io g1, .sh (.int w), .sh (il ps), .sh (.int c), y4, .no] =
        .ok (.ow (il ((chosen ps c).map fun T => (at2 T : Int)))) [.io g1, .sh (.int w), y2', .sh (.int c), y4, .no] ∧ (y2' = .ow (il ps) ∨ y2' = .sh (il ps)) := by
      refine ⟨y2, ?_, hy2⟩
      rcases hy2 with rfl | rfl <;> rcases hy4 with rfl | ⟨d, rfl⟩ <;> simp [thawL, thw, thw1, flat_il, hg1.shal] <;> exact fun _ _ => rfl
    rw [th] at lc1
    have mn : biD .min [il ((chosen ps c).map fun T => (at2 T : Int))] = some (.sh (.int (lt w ps c))) := by
      refine min_is ?_ fun y hy => ?_
      · obtain ⟨t, s, l, e⟩ := least_is hp.plW.wi c (by omega)
        exact List.mem_map.mpr ⟨t, (chosen_mem ps c t).mpr ⟨s, l⟩, e⟩
      · obtain ⟨T, hT, rfl⟩ := List.mem_map.mp hy
        obtain ⟨sT, lT⟩ := (chosen_mem ps c T).mp hT
        have := least_le sT hp.plW.wi
        rw [lT] at this
        exact this
    have sm := lt_small w hw.2 ps hp.plW (by omega) c (by omega)
    have rp := bi_repr_int sm
    have rs := repr_same (d := .int (lt w ps c)) 100 (by simpa [pln] using sm)
    generalize (chosen ps c).map (fun T => (at2 T : Int)) = X at *
    generalize lt w ps c = v at *
    generalize (pyT (.int v)).shown = z at *
    refine ⟨[.io g1, .sh (.int w), y2', .sh (.int c), .sh (.int v), .no], ?_, _, _, _, rfl, hy2', .inr ⟨_, rfl⟩, .inr ⟨_, rfl⟩⟩
    rcases hy3 with rfl | ⟨d, rfl⟩ <;> rcases hy2' with rfl | rfl <;> rcases hy4 with rfl | ⟨d', rfl⟩ <;> simp [bindT, lc1, mn, G.h116, d_least_twos, e3, rp, rs]) ⟨_, _, _, rfl, .inl rfl, .inl rfl, .inl rfl⟩
  simp [-q_for, d__law_small_right, s__law_small_right, start_eq, G.h102, d__law_drawn, e1, hg1.shal, e']
end
end Z
/-! YR: the law of the least twos, great places; the law. -/
namespace Z
open PySem (Str Operator CmpOp)
theorem at2_app_le (l m : List Int) : at2 l ≤ at2 (m ++ l) := by
  induction m with
  | nil => exact Nat.le_refl _
  | cons x m ih => exact Nat.le_trans ih (Nat.le_add_left _ _)
theorem lt_at2 {w : Nat} {ps : List Int} (h : Wi w ps) (c : Nat) : lt w ps c = at2 ((ord ps).take c) := by
  unfold lt
  rw [← nums_br h, nums_sum]
theorem lt_all {w : Nat} {ps : List Int} (h : Wi w ps) : lt w ps ps.length = at2 ps := by
  rw [lt_at2 h, List.take_of_length_le (by rw [(ord_perm ps).length_eq]; exact Nat.le_refl _), at2_perm (ord_perm ps)]
theorem lt_mono {w : Nat} {ps : List Int} (h : Wi w ps) (c : Nat) : lt w ps c ≤ lt w ps ps.length := by
  rw [lt_at2 h, lt_all h, ← at2_perm (ord_perm ps)]
  have e : at2 (ord ps) = at2 ((ord ps).drop c ++ (ord ps).take c) := at2_perm (by
    conv => lhs; rw [← List.take_append_drop c (ord ps)]
    exact List.perm_append_comm)
  rw [e]
  have := at2_app_le ((ord ps).take c) ((ord ps).drop c)
  omega
section
variable {Pg : Nat → Option Df} {fuel k f : Nat}
theorem m_great (G : L7 Pg) (hf : 1000 ≤ fuel) (m : Nat) (hm : m ≤ 700000) (g : D) (hg : Gd m g) (w : Nat) (hw : 1 ≤ w ∧ w ≤ 64) : ∃ g', Gd (m + 141) g' ∧ callD Pg fuel (k + 9) 120 [g, .int w] = .ok (.sh (.bl true)) [g'] := by
  rw [callD_eq G.h120 ⟨rfl, Nat.le_of_ble_eq_true rfl⟩]
  obtain ⟨ps, g1, hp, hg1, e1⟩ := m_drawn (fuel := fuel) (k := k + 4) G.h32 G.h98 G.h100 G.h99 G.h101 G.h102 m (by omega) g hg w hw 14 (by omega)
  rw [show ((14 : Nat) : Int) = 14 from rfl] at e1
  have l14 := hp.2.1
  have pl := hp.plW
  have wi := pl.wi
  have e2 := m_order (fuel := fuel) (k := k + 2) G.toGO w hw hf ps (by omega) pl
  obtain ⟨v, g2, hv, hg2, e3⟩ := m_random (fuel := fuel) (k := k + 6) G.h32 G.h98 (m + 12 + 3 * 14) (by omega) g1 hg1 ((ps.length : Int) + 1) (by omega)
  obtain ⟨c1, rfl⟩ : ∃ c : Nat, v = c := ⟨v.toNat, by omega⟩
  have hc1 : c1 ≤ ps.length := by omega
  have op := ord_perm ps
  have ol := op.length_eq
  have ond : (ord ps).Nodup := op.nodup_iff.mpr wi.1
  -- one turn
  have step : ∀ (c : Nat), c ≤ ps.length → ∀ (mm : Nat), mm ≤ 800000 → ∀ (g : D), Gd mm g → ∀ (b : Int), b ≤ lt w ps c → ∀ y5 y6 y7 y8 y9, Pn y5 → Pn y6 → Po y7 → Pn y8 → Pn y9 →
      ∃ g' y7' y8' y9', ((O.of (bindT (.v 5) (.int c) [.io g, .sh (.int w), .sh (il ps), .sh (.int b), .sh (il (ord ps)), y5, y6, y7, y8, y9])).then fun r3 => xs (Cz Pg fuel (k + 8)) [.asg (.v 6) (.call 116 [.var 1, .var 2, .var 5] [] []),
    .ite (.or (.val (.cmp .NotEq (.call 117 [.slc (.var 4) (.con .non) (.var 5)] [] []) (.var 6))) (.val (.cmp .Lt (.var 6) (.var 3)))) [.ret (.con (.bl false))] [],
    .asg (.v 7) (.bi .list [.var 2]),
    .for_ (.v 8) (.rng1 (.bin .Sub (.bi .len [.var 2]) (.var 5))) [.asg (.v 9) (.call 98 [.var 0, .bi .len [.var 7]] [] []),
    .asg (.v 7) (.bin .Add (.slc (.var 7) (.con .non) (.var 9)) (.slc (.var 7) (.bin .Add (.var 9) (.con (.int 1))) (.con .non)))],
    .ite (.val (.cmp .Lt (.call 117 [.var 7] [] []) (.var 6))) [.ret (.con (.bl false))] [],
    .asg (.v 3) (.var 6)] r3) = .nx [.io g', .sh (.int w), .sh (il ps), .sh (.int (lt w ps c)), .sh (il (ord ps)), .sh (.int c), .sh (.int (lt w ps c)), y7', y8', y9'] ∧ Po y7' ∧ Pn y8' ∧ Pn y9' ∧ Gd (mm + 42) g' := by
    intro c hc mm hmm g hg b hb y5 y6 y7 y8 y9 h5 h6 h7 h8 h9
    have e4 := m_least (fuel := fuel) (k := k + 1) G.toGB G.h2 G.h116 w hw hf ps (by omega) pl c hc
    have e5 := m_all_twos (fuel := fuel) (k := k + 5) G.h103 G.h104 G.h117 hf ((ord ps).take c) (by simp; omega) (ond.sublist (List.take_sublist _ _)) (fun q hq p hq' => pl.near hw.2 q (op.mem_iff.mp (List.mem_of_mem_take hq)) p (op.mem_iff.mp (List.mem_of_mem_take hq')))
    rw [← lt_at2 wi] at e5
    have ec := cut_take (ord ps) c
    have er := rng1_eq (C := Cz Pg fuel (k + 8)) (b := .bin .Sub (.bi .len [.var 2]) (.var 5)) (r := [.io g, .sh (.int w), .sh (il ps), .sh (.int b), .sh (il (ord ps)), .sh (.int c), .sh (.int (lt w ps c)), .ow (il ps), y8, y9]) (r2 := [.io g, .sh (.int w), .sh (il ps), .sh (.int b), .sh (il (ord ps)), .sh (.int c), .sh (.int (lt w ps c)), .ow (il ps), y8, y9])
      (y := .inr (.int ((ps.length - c : Nat) : Int))) (j := ((ps.length - c : Nat) : Int)) (by simp; omega) (by simp) (by omega)
    obtain ⟨r', e', g', left, y8', y9', rfl, h8', h9', sl, ll, hg'⟩ := for_run (t := .v 8) (body := [.asg (.v 9) (.call 98 [.var 0, .bi .len [.var 7]] [] []),
    .asg (.v 7) (.bin .Add (.slc (.var 7) (.con .non) (.var 9)) (.slc (.var 7) (.bin .Add (.var 9) (.con (.int 1))) (.con .non)))])
      (fun i r => ∃ (g : D) (left : List Int) (y8 y9 : Sl), r = [.io g, .sh (.int w), .sh (il ps), .sh (.int b), .sh (il (ord ps)), .sh (.int c), .sh (.int (lt w ps c)), .ow (il left), y8, y9] ∧ Pn y8 ∧ Pn y9 ∧ left.Sublist ps ∧ left.length + i = ps.length ∧ Gd (mm + 3 * i) g) er (by
      intro i hi r hr
      rw [rng0_len] at hi
      rw [rng0_get]
      obtain ⟨g, left, y8, y9, rfl, h8, h9, sl, ll, hg⟩ := hr
      obtain ⟨v, g', hv, hg', e6⟩ := m_random (fuel := fuel) (k := k + 6) G.h32 G.h98 (mm + 3 * i) (by omega) g hg (left.length : Int) (by omega)
      obtain ⟨a, rfl⟩ : ∃ a : Nat, v = a := ⟨v.toNat, by omega⟩
      have ha : a < left.length := by omega
      have c5 := cut_take left a
      have c6 := cut_drop left a
      have ln : ((left.take a).map D.int).length + ((left.drop (a + 1)).map D.int).length ≤ LINE := line_le (by simp; omega)
      have ap' : (left.take a).map D.int ++ (left.drop (a + 1)).map D.int = (left.take a ++ left.drop (a + 1)).map D.int := by rw [List.map_append]
      have ll2 : (left.take a ++ left.drop (a + 1)).length + 1 = left.length := by simp; omega
      have sl2 : (left.take a ++ left.drop (a + 1)).Sublist left := by
        conv => rhs; rw [← List.take_append_drop a left, List.drop_eq_getElem_cons ha]
        exact List.Sublist.append_left (List.sublist_cons_self _ _) _
      generalize left.take a ++ left.drop (a + 1) = left2 at *
      generalize (left.take a).map D.int = A5 at *
      generalize (left.drop (a + 1)).map D.int = B5 at *
      refine ⟨_, ?_, g', left2, .sh (.int i), .sh (.int a), rfl, .inr ⟨_, rfl⟩, .inr ⟨_, rfl⟩, sl2.trans sl, by omega, hg'.mono (by omega)⟩
      rcases h8 with rfl | ⟨d, rfl⟩ <;> rcases h9 with rfl | ⟨d', rfl⟩ <;> simp [bindT, G.h98, d__law_random_v1, e6, hg'.shal, por, isNon, slcD, part?, c5, c6, ln, ap']) ⟨g, ps, y8, y9, rfl, h8, h9, .refl _, rfl, hg⟩
    rw [rng0_len] at ll hg'
    have e7 := m_all_twos (fuel := fuel) (k := k + 5) G.h103 G.h104 G.h117 hf left (by omega) (wi.1.sublist sl) (fun q hq p hq' => pl.near hw.2 q (sl.subset hq) p (sl.subset hq'))
    have le := least_le sl wi
    rw [show left.length = c by omega] at le
    have le : lt w ps c ≤ at2 left := le
    have nl : ¬ (at2 left : Int) < lt w ps c := by omega
    have nb : ¬ lt w ps c < b := by omega
    refine ⟨g', .ow (il left), y8', y9', ?_, .inr (.inr ⟨_, rfl⟩), h8', h9', hg'.mono (by omega)⟩
    generalize (ord ps).take c = X at *
    rcases h5 with rfl | ⟨d, rfl⟩ <;> rcases h6 with rfl | ⟨d', rfl⟩ <;> rcases h7 with rfl | ⟨d2, rfl⟩ | ⟨d2, rfl⟩ <;>
    simp [-q_for, bindT, G.h116, d_least_twos, e4, G.h117, d__law_all_twos, e5, por, isNon, slcD, part?, ec, nb, e', e7, nl]
  obtain ⟨r', e', g', b, y5, y6, y7, y8, y9, rfl, h5, h6, h7, h8, h9, _, _, hg'⟩ := for_run (C := Cz Pg fuel (k + 8)) (t := .v 5) (it := .e (.lst [.call 98 [.var 0, .bin .Add (.bi .len [.var 2]) (.con (.int 1))] [] [], .bi .len [.var 2]])) (body := [.asg (.v 6) (.call 116 [.var 1, .var 2, .var 5] [] []),
    .ite (.or (.val (.cmp .NotEq (.call 117 [.slc (.var 4) (.con .non) (.var 5)] [] []) (.var 6))) (.val (.cmp .Lt (.var 6) (.var 3)))) [.ret (.con (.bl false))] [],
    .asg (.v 7) (.bi .list [.var 2]),
    .for_ (.v 8) (.rng1 (.bin .Sub (.bi .len [.var 2]) (.var 5))) [.asg (.v 9) (.call 98 [.var 0, .bi .len [.var 7]] [] []),
    .asg (.v 7) (.bin .Add (.slc (.var 7) (.con .non) (.var 9)) (.slc (.var 7) (.bin .Add (.var 9) (.con (.int 1))) (.con .non)))],
    .ite (.val (.cmp .Lt (.call 117 [.var 7] [] []) (.var 6))) [.ret (.con (.bl false))] [],
    .asg (.v 3) (.var 6)]) (r := [.io g1, .sh (.int w), .sh (il ps), .sh (.int 0), .sh (il (ord ps)), .no, .no, .no, .no, .no]) (r1 := [.io g2, .sh (.int w), .sh (il ps), .sh (.int 0), .sh (il (ord ps)), .no, .no, .no, .no, .no]) (l := [.int c1, .int ps.length])
    (fun j r => ∃ (g : D) (b : Int) (y5 y6 y7 y8 y9 : Sl), r = [.io g, .sh (.int w), .sh (il ps), .sh (.int b), .sh (il (ord ps)), y5, y6, y7, y8, y9] ∧ Pn y5 ∧ Pn y6 ∧ Po y7 ∧ Pn y8 ∧ Pn y9 ∧ (j = 0 → b ≤ lt w ps c1) ∧ (j = 1 → b ≤ lt w ps ps.length) ∧ Gd (m + 57 + 42 * j) g) (by
    simp [G.h98, d__law_random_v1, e3, hg2.shal, itemsD]) (by
    intro j hj r hr
    obtain ⟨g, b, y5, y6, y7, y8, y9, rfl, h5, h6, h7, h8, h9, b0, b1, hg⟩ := hr
    obtain rfl | rfl : j = 0 ∨ j = 1 := by simp at hj; omega
    · obtain ⟨g', y7', y8', y9', e, q7, q8, q9, hg'⟩ := step c1 hc1 (m + 57 + 42 * 0) (by omega) g hg b (b0 rfl) y5 y6 y7 y8 y9 h5 h6 h7 h8 h9
      exact ⟨_, e, g', _, _, _, _, _, _, rfl, .inr ⟨_, rfl⟩, .inr ⟨_, rfl⟩, q7, q8, q9, (fun z => by omega), (fun _ => lt_mono wi c1), hg'⟩
    · obtain ⟨g', y7', y8', y9', e, q7, q8, q9, hg'⟩ := step ps.length (Nat.le_refl _) (m + 57 + 42 * 1) (by omega) g hg b (b1 rfl) y5 y6 y7 y8 y9 h5 h6 h7 h8 h9
      exact ⟨_, e, g', _, _, _, _, _, _, rfl, .inr ⟨_, rfl⟩, .inr ⟨_, rfl⟩, q7, q8, q9, (fun z => by omega), (fun z => by omega), hg'⟩)
    ⟨g2, 0, _, _, _, _, _, rfl, .inl rfl, .inl rfl, .inl rfl, .inl rfl, .inl rfl, (fun _ => lt_nonneg w ps pl c1 hc1), (fun z => by omega), hg2.mono (by omega)⟩
  refine ⟨g', hg'.mono (by simp), ?_⟩
  simp [-q_for, d__law_great_right_v1, s__law_great_right_v1, start_eq, G.h102, d__law_drawn, e1, hg1.shal, puts, G.h96, d_good_order, e2, idxD, atL, ixN, e']
end
end Z
/-! YS: the law of the least twos, joined. -/
namespace Z
open PySem (Str Operator CmpOp)
def fb : Nat → Nat → Nat
  | 0, _ => 0
  | d + 1, n => n / 2 + fb d (n / 2)
theorem fa_fb : ∀ (d n : Nat), n < 2 ^ d → fa n = fb d n
  | 0, n, h => by
    have : n = 0 := by simp at h; omega
    subst this
    rfl
  | d + 1, n, h => by
    rw [fa_half, fb, fa_fb d (n / 2) (by rw [Nat.pow_succ] at h; omega)]
theorem lt_ap (t n c : Nat) (hn : 0 < n ∧ n ≤ 900) (w : Nat) (hb : (2 : Int) ^ t * n ≤ 2 ^ w) : lt w (ap 0 (2 ^ t) n) c = ((fl t n).take c).sum := by
  have p2 : (0 : Int) < 2 ^ t := Int.pow_pos (by decide)
  have pl : PlW w (ap 0 (2 ^ t * 1) n) := ap_plw hn.1 (by decide) (by omega) (by rw [Int.mul_one]; omega)
  have := br_ap w t 0 1 n (by decide) pl.wi
  rw [Int.mul_one] at this
  unfold lt
  rw [this]
theorem fl_fb (n : Nat) (h : n ≤ 64) : fl 0 n = (List.range n).map fun i => ((fb 6 i : Nat) : Int) := by
  unfold fl
  apply List.map_congr_left
  intro i hi
  have := List.mem_range.mp hi
  rw [Nat.zero_mul, Nat.add_zero, fa_fb 6 i (by omega)]
theorem v2_pow : ∀ n : Nat, v2 ((2 : Int) ^ n) = n
  | 0 => v2_odd (by decide)
  | n + 1 => by
    have p : (0 : Int) < 2 ^ n := Int.pow_pos (by decide)
    have e : (2 : Int) ^ (n + 1) = 2 * 2 ^ n := by rw [Int.pow_succ]; omega
    rw [v2_even (by omega) (by omega), show (2 : Int) ^ (n + 1) / 2 = 2 ^ n by omega, v2_pow n]
theorem lt_416 : lt 64 (ap 0 1 64) 32 = 416 := by
  have := lt_ap 0 64 32 (by omega) 64 (by decide)
  rw [show (2 : Int) ^ 0 = 1 from rfl] at this
  rw [this, fl_fb 64 (by omega)]
  decide
theorem lt_zero (w : Nat) (ps : List Int) : lt w ps 0 = 0 := rfl
theorem br_four : br 4 [0, 1, 2, 4] = [0, 0, 1, 3] := by
  rw [← nums_br ⟨by decide, by decide⟩]
  have a1 : v2 1 = 0 := v2_odd (by decide)
  have a2 : v2 2 = 1 := v2_pow 1
  have a3 : v2 3 = 0 := v2_odd (by decide)
  have a4 : v2 4 = 2 := v2_pow 2
  simp [nums, gr, mi, gsum, a1, a2, a3, a4]
theorem at2_far : at2 [0, 4611686018427387904, 9223372036854775808] = 187 := by
  have a1 : v2 4611686018427387904 = 62 := v2_pow 62
  have a2 : v2 9223372036854775808 = 63 := v2_pow 63
  have b1 : v2 (-4611686018427387904) = 62 := by rw [v2_neg, a1]
  have b2 : v2 (-9223372036854775808) = 63 := by rw [v2_neg, a2]
  simp [at2, btw, a1, a2, b1, b2]
@[simp high] theorem q_lst5 {C : Cf} {r : En} {a b c d e : E} : ev C (.lst [a, b, c, d, e]) r = (evs C [a, b, c, d, e] r).bind fun ds r1 => .ok (.ow (.lst ds)) r1 := q_lstS (by simp)
section
variable {Pg : Nat → Option Df} {fuel k f : Nat}
theorem m_law07 (G : L7 Pg) (h : Pg f = some d_law_v7) (hf : 1000 ≤ fuel) (ns : List Int) : callD Pg fuel (k + 10) f [.scr ns] = .ok (.sh (.bl true)) [] := by
  rw [callD_eq h ⟨rfl, Nat.le_of_ble_eq_true rfl⟩]
  have er := rng1_eq (C := Cz Pg fuel (k + 9)) (b := .con (.int 2)) (r := [.sh (.scr ns), .no, .no, .no]) (r2 := [.sh (.scr ns), .no, .no, .no]) (y := .inr (.int 2)) (j := ((2 : Nat) : Int)) (by simp) (by simp) (by omega)
  obtain ⟨r', e', y1, y2, rfl, hy1, hy2⟩ := for_run (t := .v 1) (body := [.asg (.v 2) (.call 35 [.var 0, .var 1] [] []),
    .ite (.or (.not (.val (.call 119 [.var 2, .bin .Add (.con (.int 1)) (.call 98 [.var 2, .con (.int 5)] [] [])] [] []))) (.not (.val (.call 119 [.var 2, .bin .Add (.con (.int 1)) (.call 98 [.var 2, .con (.int 64)] [] [])] [] [])))) [.ret (.con (.bl false))] [],
    .ite (.not (.val (.call 120 [.var 2, .bin .Add (.con (.int 5)) (.call 98 [.var 2, .con (.int 60)] [] [])] [] []))) [.ret (.con (.bl false))] []]) (fun _ r => ∃ (y1 y2 : Sl), r = [.sh (.scr ns), y1, y2, .no] ∧ Pn y1 ∧ Po y2) er (by
    intro j hj r hr
    rw [rng0_len] at hj
    rw [rng0_get]
    obtain ⟨y1, y2, rfl, hy1, hy2⟩ := hr
    obtain ⟨g0, hg0, e0⟩ := m_generator (fuel := fuel) (k := k + 7) G.h34 G.h35 ns j (by omega)
    obtain ⟨v1, g1, hv1, hg1, e1⟩ := m_random (fuel := fuel) (k := k + 7) G.h32 G.h98 (1000 * j) (by omega) g0 hg0 5 (by decide)
    obtain ⟨w1, hw1⟩ : ∃ w : Nat, 1 + v1 = w := ⟨(1 + v1).toNat, by omega⟩
    obtain ⟨g2, hg2, e2⟩ := m_small (fuel := fuel) (k := k) G hf (1000 * j + 3) (by omega) g1 hg1 w1 (by omega)
    obtain ⟨v3, g3, hv3, hg3, e3⟩ := m_random (fuel := fuel) (k := k + 7) G.h32 G.h98 (1000 * j + 33) (by omega) g2 hg2 64 (by decide)
    obtain ⟨w3, hw3⟩ : ∃ w : Nat, 1 + v3 = w := ⟨(1 + v3).toNat, by omega⟩
    obtain ⟨g4, hg4, e4⟩ := m_small (fuel := fuel) (k := k) G hf (1000 * j + 36) (by omega) g3 hg3 w3 (by omega)
    obtain ⟨v5, g5, hv5, hg5, e5⟩ := m_random (fuel := fuel) (k := k + 7) G.h32 G.h98 (1000 * j + 66) (by omega) g4 hg4 60 (by decide)
    obtain ⟨w5, hw5⟩ : ∃ w : Nat, 5 + v5 = w := ⟨(5 + v5).toNat, by omega⟩
    obtain ⟨g6, hg6, e6⟩ := m_great (fuel := fuel) (k := k) G hf (1000 * j + 69) (by omega) g5 hg5 w5 (by omega)
    refine ⟨_, ?_, .sh (.int j), .ow g6, rfl, .inr ⟨_, rfl⟩, .inr (.inr ⟨_, rfl⟩)⟩
    rcases hy1 with rfl | ⟨d, rfl⟩ <;> rcases hy2 with rfl | ⟨d', rfl⟩ | ⟨d', rfl⟩ <;>
    simp [bindT, G.h35, d__law_generator, e0, G.h98, d__law_random_v1, e1, hg1.shal, hw1, G.h119, d__law_small_right, e2, hg2.shal, e3, hg3.shal, hw3, e4, hg4.shal, e5, hg5.shal, hw5, G.h120, d__law_great_right_v1, e6, hg6.shal]) ⟨.no, .no, rfl, .inl rfl, .inl rfl⟩
  have lr := bi_lrange_i (n := 64) (by omega)
  rw [show ((64 : Nat) : Int) = 64 from rfl] at lr
  have pa : PlW 64 (ap 0 1 64) := ap_plw (by omega) (by decide) (by decide) (by decide)
  have e7 := m_least (fuel := fuel) (k := k + 2) G.toGB G.h2 G.h116 64 (by omega) hf (ap 0 1 64) (by rw [ap_len]; omega) pa 32 (by rw [ap_len]; omega)
  have e8 := m_least (fuel := fuel) (k := k + 2) G.toGB G.h2 G.h116 64 (by omega) hf (ap 0 1 64) (by rw [ap_len]; omega) pa 0 (by rw [ap_len]; omega)
  rw [lt_416, show ((64 : Nat) : Int) = 64 from rfl, show ((32 : Nat) : Int) = 32 from rfl] at e7
  rw [lt_zero, show ((64 : Nat) : Int) = 64 from rfl, show ((0 : Nat) : Int) = 0 from rfl] at e8
  have p64 : (2 : Int) ^ 64 = 18446744073709551616 := by decide
  have pf : PlW 64 [0, 4611686018427387904, 9223372036854775808] := ⟨by decide, by decide, by rw [p64]; decide⟩
  have e9 := m_least (fuel := fuel) (k := k + 2) G.toGB G.h2 G.h116 64 (by omega) hf [0, 4611686018427387904, 9223372036854775808] (by decide) pf 3 (by decide)
  have l3 := lt_all pf.wi
  rw [show [(0 : Int), 4611686018427387904, 9223372036854775808].length = 3 from rfl, at2_far] at l3
  rw [l3, show ((64 : Nat) : Int) = 64 from rfl, show ((3 : Nat) : Int) = 3 from rfl] at e9
  have p4 : PlW 4 [0, 1, 2, 4] := ⟨by decide, by decide, by decide⟩
  have b2 : bits 2 = 2 := by decide
  have eP : binI .Pow 2 63 = some 9223372036854775808 := by
    simp only [binI, b2]
    rfl
  have eQ : binI .Pow 2 62 = some 4611686018427387904 := by
    simp only [binI, b2]
    rfl
  have lc1 : ∀ y1 y2, Pn y1 → Po y2 → ev (Cz Pg fuel (k + 9)) (.lc (.call 116 [.con (.int 4), .lst [.con (.int 0), .con (.int 1), .con (.int 2), .con (.int 4)], .var 3] [] []) (.v 3) (.rng1 (.con (.int 5))) [] [3]) [.sh (.scr ns), y1, y2, .no] =
      thawL [.sh (.scr ns), y1, y2, .no] [.int 0, .int 0, .int 0, .int 1, .int 4] [.sh (.scr ns), y1, y2, .no] := by
    intro y1 y2 hy1 hy2
    rw [lc_run (r1 := [.sh (.scr ns), y1, y2, .no]) (l := (rangeI 0 ((5 : Nat) : Int) 1).map .int) (fun d => match d with | D.int i => some (D.int (lt 4 [0, 1, 2, 4] i.toNat)) | _ => none)]
    · congr 1
      show [D.int (lt 4 [0, 1, 2, 4] 0), D.int (lt 4 [0, 1, 2, 4] 1), D.int (lt 4 [0, 1, 2, 4] 2), D.int (lt 4 [0, 1, 2, 4] 3), D.int (lt 4 [0, 1, 2, 4] 4)] = _
      unfold lt
      rw [br_four]
      rfl
    · exact rng1_eq (y := .inr (.int 5)) (by simp) (by simp) (by omega)
    · rfl
    · rfl
    · exact line_le (by rw [rng0_len]; omega)
    · intro x hx
      obtain ⟨j, hj, rfl⟩ := List.getElem_of_mem hx
      rw [rng0_len] at hj
      rw [rng0_get]
      have e := m_least (fuel := fuel) (k := k + 2) G.toGB G.h2 G.h116 4 (by omega) hf [0, 1, 2, 4] (by decide) p4 j (by simp; omega)
      simp only [il, List.map_cons, List.map_nil] at e
      rw [show ((4 : Nat) : Int) = 4 from rfl] at e
      refine ⟨[.sh (.scr ns), y1, y2, .sh (.int j)], ?_, rfl⟩
      simp only [Int.toNat_natCast]
      simp [lcF, wip, bindT, G.h116, d_least_twos, e]
  obtain ⟨r5, th⟩ : ∃ r5, thawL [.sh (.scr ns), y1, y2, .no] [.int 0, .int 0, .int 0, .int 1, .int 4] [.sh (.scr ns), y1, y2, .no] = .ok (.ow (.lst [.int 0, .int 0, .int 0, .int 1, .int 4])) r5 := by
    unfold thawL
    split
    · split
      · exact ⟨_, rfl⟩
      · exact ⟨_, rfl⟩
    · exact ⟨_, rfl⟩
  have lc1 := lc1 y1 y2 hy1 hy2
  rw [th] at lc1
  have nn : cmpD .NotEq (.lst [.int 0, .int 0, .int 0, .int 1, .int 4]) (.lst [.int 0, .int 0, .int 0, .int 1, .int 4]) = some false := by
    have := cmp_il_ne [0, 0, 0, 1, 4] [0, 0, 0, 1, 4]
    simp only [il, List.map_cons, List.map_nil] at this
    rw [this]
    simp
  simp only [il, List.map_cons, List.map_nil] at e9
  simp [-q_for, d_law_v7, s_law_v7, start_eq, e', G.h116, d_least_twos, lr, e7, e8, lc1, nn, eP, eQ, e9]
end
end Z
/-! YU: codes: counts of items, sizes; what laws of codes draw. -/
namespace Z
open PySem (Str Operator CmpOp)
/-- items_counted -/
def s_items_counted : List S :=
  [.ret (.bi .len [.lc (.var 3) (.v 3) (.e (.slc (.var 1) (.con .non) (.var 2))) [.val (.cmp .Lt (.var 3) (.var 0))] [3]])]
def d_items_counted : Df := { modes := [false, false, false], names := 4, body := s_items_counted }
/-- check_code -/
def s_check_code : List S :=
  [.ex (.call 13 [.var 0, .var 1] [] []),
    .ex (.call 2 [.var 2, .con (.int 0), .con .non] [] [])]
def d_check_code : Df := { modes := [false, false, false], names := 3, body := s_check_code }
/-- size_power -/
def s_size_power : List S :=
  [.ret (.bi .sum [.lc (.bin .Sub (.var 0) (.var 3)) (.v 3) (.e (.slc (.var 1) (.con .non) (.call 7 [.var 0, .var 1, .var 2] [] []))) [] [3]])]
def d_size_power : Df := { modes := [false, false, false], names := 4, body := s_size_power }
/-- item_count -/
def s_item_count : List S :=
  [.ex (.call 19 [.var 0, .var 1, .var 2] [] []),
    .ret (.call 7 [.var 0, .idx (.call 5 [.var 1] [] []) (.con (.int 1)), .var 2] [] [])]
def d_item_count : Df := { modes := [false, false, false], names := 3, body := s_item_count }
/-- how_many_codewords -/
def s_how_many_codewords : List S :=
  [.ex (.call 19 [.var 0, .var 1, .var 2] [] []),
    .ret (.call 3 [.call 211 [.var 0, .idx (.call 5 [.var 1] [] []) (.con (.int 1)), .var 2] [] []] [] [])]
def d_how_many_codewords : Df := { modes := [false, false, false], names := 3, body := s_how_many_codewords }
/-- check_any_places -/
def s_check_any_places : List S :=
  [.ite (.not (.val (.call 12 [.con (.int 64), .var 0] [] []))) [.nev] [],
    .ex (.call 2 [.var 1, .con (.int 0), .con .non] [] [])]
def d_check_any_places : Df := { modes := [false, false], names := 2, body := s_check_any_places }
/-- item_widths -/
def s_item_widths : List S :=
  [.ex (.call 226 [.var 0, .var 1] [] []),
    .ret (.lc (.bin .Add (.var 2) (.con (.int 1))) (.v 2) (.e (.slc (.idx (.call 5 [.var 0] [] []) (.con (.int 1))) (.con .non) (.var 1))) [] [2])]
def d_item_widths : Df := { modes := [false, false], names := 3, body := s_item_widths }
/-- width_for -/
def s_width_for : List S :=
  [.ex (.call 226 [.var 0, .var 1] [] []),
    .ex (.call 2 [.var 2, .con (.int 0), .con .non] [] []),
    .asg (.v 3) (.idx (.call 5 [.var 0] [] []) (.con (.int 1))),
    .for_ (.v 4) (.rng2 (.bi .max [.bits (.idx (.var 0) (.neg (.con (.int 1)))), .con (.int 1)]) (.bin .Add (.con (.int 64)) (.con (.int 1)))) [.ite (.val (.cmp .GtE (.call 211 [.var 4, .var 3, .var 1] [] []) (.var 2))) [.ret (.var 4)] []],
    .ret (.con .non)]
def d_width_for : Df := { modes := [false, false, false], names := 5, body := s_width_for }
/-- _law_random -/
def s__law_random_v2 : List S :=
  [.ite (.val (.cmp .Gt (.idx (.var 0) (.con (.int 0))) (.con (.int 0)))) [.asg (.v 2) (.bin .Mod (.bi .int [.idx (.var 0) (.con (.int 0))]) (.var 1)),
    .seti 0 (.con (.int 0)) (.bin .FloorDiv (.idx (.var 0) (.con (.int 0))) (.var 1)),
    .ret (.var 2)] [],
    .asg (.v 2) (.con (.int 0)),
    .for_ (.v 3) (.rng1 (.bin .Add (.con (.int 1)) (.bin .FloorDiv (.bits (.var 1)) (.con (.int 30))))) [.seti 0 (.con (.int 2)) (.bin .Add (.idx (.var 0) (.con (.int 2))) (.con (.int 1))),
    .asg (.v 2) (.bin .Add (.bin .Mult (.var 2) (.con (.int 2147483587))) (.call 32 [.idx (.var 0) (.con (.int 1)), .idx (.var 0) (.con (.int 2))] [] []))],
    .ret (.bin .Mod (.bi .int [.var 2]) (.var 1))]
def d__law_random_v2 : Df := { modes := [true, false], names := 4, body := s__law_random_v2 }
/-- _law_two -/
def s__law_two : List S :=
  [.ret (.bin .LShift (.con (.int 1)) (.bi .int [.var 0]))]
def d__law_two : Df := { modes := [false], names := 1, body := s__law_two }
/-- _law_places -/
def s__law_places_v2 : List S :=
  [.asg (.v 3) (.lst []),
    .for_ (.v 4) (.rng1 (.bin .Add (.con (.int 1)) (.call 184 [.var 0, .var 2] [] []))) [.asg (.v 5) (.call 184 [.var 0, .call 185 [.var 1] [] []] [] []),
    .ite (.val (.cmp .NotIn (.var 5) (.var 3))) [.ex (.mut .append 3 [.var 5])] []],
    .ret (.bi .sorted [.var 3])]
def d__law_places_v2 : Df := { modes := [true, false, false], names := 6, body := s__law_places_v2 }
/-- _law_twos -/
def s__law_twos_v1 : List S :=
  [.asg (.v 1) (.con (.int 0)),
    .whl (.val (.cmp .Eq (.bin .Mod (.bi .int [.var 0]) (.con (.int 2))) (.con (.int 0)))) [.par [0, 1] [.bin .FloorDiv (.var 0) (.con (.int 2)), .bin .Add (.var 1) (.con (.int 1))]],
    .ret (.var 1)]
def d__law_twos_v1 : Df := { modes := [false], names := 2, body := s__law_twos_v1 }
/-- _law_good -/
def s__law_good_v1 : List S :=
  [.par [1, 2, 3] [.slc (.var 0) (.con .non) (.con (.int 1)), .lst [.con (.int 0)], .slc (.var 0) (.con (.int 1)) (.con .non)],
    .whl (.val (.cmp .NotEq (.var 3) (.lst []))) [.asg (.v 4) (.lc (.bi .sum [.lc (.call 79 [.bin .Sub (.var 6) (.var 7)] [] []) (.v 7) (.e (.var 1)) [] [7]]) (.v 6) (.e (.var 3)) [] [6]),
    .asg (.v 5) (.mth .index (.var 4) [.bi .min [.var 4]]),
    .par [1, 2, 3] [.bin .Add (.var 1) (.lst [.idx (.var 3) (.var 5)]), .bin .Add (.var 2) (.lst [.idx (.var 4) (.var 5)]), .bin .Add (.slc (.var 3) (.con .non) (.var 5)) (.slc (.var 3) (.bin .Add (.var 5) (.con (.int 1))) (.con .non))]],
    .ret (.tup [.var 1, .var 2])]
def d__law_good_v1 : Df := { modes := [false], names := 8, body := s__law_good_v1 }
/-- _law_bits -/
def s__law_bits : List S :=
  [.asg (.v 1) (.con (.int 1)),
    .whl (.val (.cmp .GtE (.idx (.var 0) (.bin .Sub (.bi .len [.var 0]) (.con (.int 1)))) (.call 185 [.var 1] [] []))) [.asg (.v 1) (.bin .Add (.var 1) (.con (.int 1)))],
    .ret (.var 1)]
def d__law_bits : Df := { modes := [false], names := 2, body := s__law_bits }
section
variable {Pg : Nat → Option Df} {fuel k f : Nat} {C : Cf}
theorem bI_shl {n : Nat} (h : n ≤ 100000) : binI .LShift 1 (n : Int) = some (2 ^ n) := by
  have b1 : bits 1 = 1 := by decide
  simp only [binI, b1]
  rw [if_pos (by omega), Int.toNat_natCast, Int.one_mul]
theorem m_pow (h3 : Pg 3 = some d_power_of_two) (n : Nat) (hn : n ≤ 100000) : callD Pg fuel (k + 1) 3 [.int n] = .ok (.sh (.int (2 ^ n))) [] := by
  rw [callD_eq h3 ⟨rfl, Nat.le_refl _⟩]
  have e := bI_shl hn
  simp [d_power_of_two, s_power_of_two, start_eq, e]
theorem m_two (h : Pg f = some d__law_two) (n : Nat) (hn : n ≤ 100000) : callD Pg fuel (k + 1) f [.int n] = .ok (.sh (.int (2 ^ n))) [] := by
  rw [callD_eq h ⟨rfl, Nat.le_refl _⟩]
  have e := bI_shl hn
  simp [d__law_two, s__law_two, start_eq, e]
theorem m_between_none (G : GB Pg) (n a : Int) (h : a ≤ n) : callD Pg fuel (k + 2) 1 [.int n, .int a, .non] = .ok (.sh (.bl true)) [] := by
  rw [callD_eq G.h1 ⟨rfl, Nat.le_refl _⟩]
  have e := m_is_whole G.h0 fuel k n
  simp [d_is_between, s_is_between, start_eq, G.h0, d_is_whole, e, cmpD, isD, ordI, h]
theorem m_check_from (G : GB Pg) (h : Pg f = some d_check_number) (n a : Int) (hn : a ≤ n) : callD Pg fuel (k + 3) f [.int n, .int a, .non] = .ok (.sh .non) [] := by
  rw [callD_eq h ⟨rfl, Nat.le_refl _⟩]
  have e := m_between_none (fuel := fuel) (k := k) G n a hn
  simp [d_check_number, s_check_number, start_eq, G.h1, d_is_between, e]
theorem m_check_code (G : GB Pg) (h2 : Pg 2 = some d_check_number) (h : Pg f = some d_check_code) (w : Nat) (hw : 1 ≤ w ∧ w ≤ 64) (ps : List Int) (hl : ps.length ≤ 900) (hp : PlW w ps) (c : Int) (hc : 0 ≤ c) : callD Pg fuel (k + 6) f [.int w, il ps, .int c] = .ok (.sh .non) [] := by
  rw [callD_eq h ⟨rfl, Nat.le_refl _⟩]
  have e2 := m_check_places (fuel := fuel) (k := k) G.h0 G.h1 G.h3 G.h8 G.h9 G.h10 G.h11 G.h12 G.h13 w hw.1 hw.2 ps (by omega) hp.1 hp.2.1 hp.2.2
  have e3 := m_check_from (fuel := fuel) (k := k + 2) G h2 c 0 hc
  simp [d_check_code, s_check_code, start_eq, G.h13, d_check_places, e2, h2, d_check_number, e3]
theorem m_check_any (G : GB Pg) (h2 : Pg 2 = some d_check_number) (h : Pg f = some d_check_any_places) (ps : List Int) (hl : ps.length ≤ 900) (hp : PlW 64 ps) (c : Int) (hc : 0 ≤ c) : callD Pg fuel (k + 6) f [il ps, .int c] = .ok (.sh .non) [] := by
  rw [callD_eq h ⟨rfl, Nat.le_refl _⟩]
  have e2 := m_are_places (fuel := fuel) (k := k + 1) G.h0 G.h1 G.h3 G.h10 G.h11 G.h12 64 (by omega) ps (by omega) hp.1 hp.2.1 hp.2.2
  rw [show ((64 : Nat) : Int) = 64 from rfl] at e2
  have e3 := m_check_from (fuel := fuel) (k := k + 2) G h2 c 0 hc
  simp [d_check_any_places, s_check_any_places, start_eq, G.h12, d_are_places, e2, h2, d_check_number, e3]
/-- the numbers below a width among the first so many -/
def cnt_w (w : Int) (ns : List Int) (c : Nat) : List Int := (ns.take c).filter fun n => decide (n < w)
theorem cut_some (l : List Int) (c : Int) (hc : 0 ≤ c) : cut (l.map D.int) none (some c) = (l.take c.toNat).map D.int := by
  have := cut_take l c.toNat
  rw [show ((c.toNat : Nat) : Int) = c by omega] at this
  exact this
theorem filt_run (p : Int → Bool) : ∀ l : List Int, List.filterMap (fun d => match d with | D.int n => if p n = true then some (D.int n) else none | _ => none) (l.map D.int) = (l.filter p).map .int
  | [] => rfl
  | x :: l => by
    simp only [List.map_cons, List.filterMap_cons, List.filter_cons]
    cases h : p x
    · simp only [Bool.false_eq_true, if_false]
      exact filt_run p l
    · simp only [if_true]
      exact congrArg _ (filt_run p l)
theorem m_counted (h : Pg f = some d_items_counted) (w : Int) (ns : List Int) (hl : ns.length ≤ 900) (c : Int) (hc : 0 ≤ c) : callD Pg fuel (k + 1) f [.int w, il ns, .int c] = .ok (.sh (.int (cnt_w w ns c.toNat).length)) [] := by
  rw [callD_eq h ⟨rfl, Nat.le_of_ble_eq_true rfl⟩]
  have ec := cut_some ns c hc
  have lc1 : ev (Cz Pg fuel k) (.lc (.var 3) (.v 3) (.e (.slc (.var 1) (.con .non) (.var 2))) [.val (.cmp .Lt (.var 3) (.var 0))] [3]) [.sh (.int w), .sh (il ns), .sh (.int c), .no] = .ok (.ow (il (cnt_w w ns c.toNat))) [.sh (.int w), .sh (il ns), .sh (.int c), .no] := by
    rw [lc_run (r1 := [.sh (.int w), .sh (il ns), .sh (.int c), .no]) (l := (ns.take c.toNat).map .int) (fun d => match d with | D.int n => if decide (n < w) = true then some (D.int n) else none | _ => none)]
    · rw [filt_run]
      simp [thawL, thw, thw1, flat_il, cnt_w]
    · generalize ns.take c.toNat = X at *
      simp [por, isNon, slcD, part?, ec, itemsD]
    · rfl
    · rfl
    · exact line_le (by simp; omega)
    · intro x hx
      obtain ⟨n, hn, rfl⟩ := List.mem_map.mp hx
      refine ⟨[.sh (.int w), .sh (il ns), .sh (.int c), .sh (.int n)], ?_, rfl⟩
      by_cases q : n < w
      · simp [lcF, wip, bindT, q]
      · simp [lcF, wip, bindT, q]
  generalize cnt_w w ns c.toNat = X at *
  simp [d_items_counted, s_items_counted, start_eq, lc1]
/-- of which power of 2 a code's size is -/
def szp (w : Int) (ns : List Int) (c : Nat) : Int := ((ns.take (cnt_w w ns c).length).map fun n => w - n).sum
theorem m_szp (h7 : Pg 7 = some d_items_counted) (h : Pg f = some d_size_power) (w : Int) (ns : List Int) (hl : ns.length ≤ 900) (c : Int) (hc : 0 ≤ c) : callD Pg fuel (k + 2) f [.int w, il ns, .int c] = .ok (.sh (.int (szp w ns c.toNat))) [] := by
  rw [callD_eq h ⟨rfl, Nat.le_of_ble_eq_true rfl⟩]
  have e1 := m_counted (fuel := fuel) (k := k) h7 w ns hl c hc
  have ec := cut_take ns (cnt_w w ns c.toNat).length
  unfold szp
  generalize (cnt_w w ns c.toNat).length = n at *
  have lc1 : ev (Cz Pg fuel (k + 1)) (.lc (.bin .Sub (.var 0) (.var 3)) (.v 3) (.e (.slc (.var 1) (.con .non) (.call 7 [.var 0, .var 1, .var 2] [] []))) [] [3]) [.sh (.int w), .sh (il ns), .sh (.int c), .no] = .ok (.ow (il ((ns.take n).map fun n => w - n))) [.sh (.int w), .sh (il ns), .sh (.int c), .no] := by
    rw [lc_run (r1 := [.sh (.int w), .sh (il ns), .sh (.int c), .no]) (l := (ns.take n).map .int) (fun d => match d with | D.int n => some (D.int (w - n)) | _ => none)]
    · have q : List.filterMap (fun d => match d with | D.int n => some (D.int (w - n)) | _ => none) ((ns.take n).map D.int) = ((ns.take n).map fun n => w - n).map .int := by
        generalize ns.take n = X
        induction X with
        | nil => rfl
        | cons x l ih => simp only [List.map_cons, List.filterMap_cons, ih]
      rw [q]
      simp only [thawL, flat_il, if_true]
      simp [thw, thw1]
    · generalize ns.take n = X at *
      simp [por, isNon, h7, d_items_counted, e1, slcD, part?, ec, itemsD]
    · rfl
    · rfl
    · exact line_le (by simp; omega)
    · intro x hx
      obtain ⟨n, hn, rfl⟩ := List.mem_map.mp hx
      refine ⟨[.sh (.int w), .sh (il ns), .sh (.int c), .sh (.int n)], ?_, rfl⟩
      simp [lcF, wip, bindT]
  generalize (ns.take n).map (fun n => w - n) = X at *
  simp [d_size_power, s_size_power, start_eq, lc1]
theorem m_item_count (G : GB Pg) (h2 : Pg 2 = some d_check_number) (h7 : Pg 7 = some d_items_counted) (h19 : Pg 19 = some d_check_code) (h : Pg f = some d_item_count) (w : Nat) (hw : 1 ≤ w ∧ w ≤ 64) (hf : 1000 ≤ fuel) (ps : List Int) (hl : ps.length ≤ 900) (hp : PlW w ps) (c : Int) (hc : 0 ≤ c) :
    callD Pg fuel (k + 7) f [.int w, il ps, .int c] = .ok (.sh (.int (cnt_w w (br w ps) c.toNat).length)) [] := by
  rw [callD_eq h ⟨rfl, Nat.le_refl _⟩]
  have e1 := m_check_code (fuel := fuel) (k := k) G h2 h19 w hw ps hl hp c hc
  have e2 := m_row (fuel := fuel) (k := k + 4) G w hw.2 hf ps hl hp
  have e3 := m_counted (fuel := fuel) (k := k + 5) h7 (w : Int) (br w ps) (by rw [br_len]; exact hl) c hc
  simp [d_item_count, s_item_count, start_eq, h19, d_check_code, e1, G.h5, d_good_row, e2, idxD, atL, ixN, h7, d_items_counted, e3]
theorem m_how_many (G : GB Pg) (h2 : Pg 2 = some d_check_number) (h7 : Pg 7 = some d_items_counted) (h19 : Pg 19 = some d_check_code) (h211 : Pg 211 = some d_size_power) (h : Pg f = some d_how_many_codewords) (w : Nat) (hw : 1 ≤ w ∧ w ≤ 64) (hf : 1000 ≤ fuel) (ps : List Int) (hl : ps.length ≤ 900) (hp : PlW w ps) (c : Int) (hc : 0 ≤ c)
    (hz : 0 ≤ szp w (br w ps) c.toNat ∧ szp w (br w ps) c.toNat ≤ 100000) : callD Pg fuel (k + 7) f [.int w, il ps, .int c] = .ok (.sh (.int (2 ^ (szp w (br w ps) c.toNat).toNat))) [] := by
  rw [callD_eq h ⟨rfl, Nat.le_refl _⟩]
  have e1 := m_check_code (fuel := fuel) (k := k) G h2 h19 w hw ps hl hp c hc
  have e2 := m_row (fuel := fuel) (k := k + 4) G w hw.2 hf ps hl hp
  have e3 := m_szp (fuel := fuel) (k := k + 4) h7 h211 (w : Int) (br w ps) (by rw [br_len]; exact hl) c hc
  have e4 := m_pow (fuel := fuel) (k := k + 5) G.h3 (szp w (br w ps) c.toNat).toNat (by omega)
  rw [show (((szp w (br w ps) c.toNat).toNat : Nat) : Int) = szp w (br w ps) c.toNat by omega] at e4
  simp [d_how_many_codewords, s_how_many_codewords, start_eq, h19, d_check_code, e1, G.h5, d_good_row, e2, idxD, atL, ixN, h211, d_size_power, e3, G.h3, d_power_of_two, e4]
theorem m_item_widths (G : GB Pg) (h2 : Pg 2 = some d_check_number) (h226 : Pg 226 = some d_check_any_places) (h : Pg f = some d_item_widths) (hf : 1000 ≤ fuel) (ps : List Int) (hl : ps.length ≤ 900) (hp : PlW 64 ps) (c : Int) (hc : 0 ≤ c) :
    callD Pg fuel (k + 7) f [il ps, .int c] = .ok (.ow (il (((br 64 ps).take c.toNat).map (· + 1)))) [] := by
  rw [callD_eq h ⟨rfl, Nat.le_of_ble_eq_true rfl⟩]
  have e1 := m_check_any (fuel := fuel) (k := k) G h2 h226 ps hl hp c hc
  have e2 := m_row (fuel := fuel) (k := k + 4) G 64 (by omega) hf ps hl hp
  have ec := cut_some (br 64 ps) c hc
  have lc1 : ev (Cz Pg fuel (k + 6)) (.lc (.bin .Add (.var 2) (.con (.int 1))) (.v 2) (.e (.slc (.idx (.call 5 [.var 0] [] []) (.con (.int 1))) (.con .non) (.var 1))) [] [2]) [.sh (il ps), .sh (.int c), .no] = .ok (.ow (il (((br 64 ps).take c.toNat).map (· + 1)))) [.sh (il ps), .sh (.int c), .no] := by
    rw [lc_run (r1 := [.sh (il ps), .sh (.int c), .no]) (l := ((br 64 ps).take c.toNat).map .int) (fun d => match d with | D.int n => some (D.int (n + 1)) | _ => none)]
    · have q : List.filterMap (fun d => match d with | D.int n => some (D.int (n + 1)) | _ => none) (((br 64 ps).take c.toNat).map D.int) = (((br 64 ps).take c.toNat).map (· + 1)).map .int := by
        generalize (br 64 ps).take c.toNat = X
        induction X with
        | nil => rfl
        | cons x l ih => simp only [List.map_cons, List.filterMap_cons, ih]
      rw [q]
      simp only [thawL, flat_il, if_true]
      simp [thw, thw1]
    · generalize (br 64 ps).take c.toNat = X at *
      simp [G.h5, d_good_row, e2, idxD, atL, ixN, por, isNon, slcD, part?, ec, itemsD]
    · rfl
    · rfl
    · exact line_le (by rw [List.length_map, List.length_take, br_len]; omega)
    · intro x hx
      obtain ⟨n, hn, rfl⟩ := List.mem_map.mp hx
      refine ⟨[.sh (il ps), .sh (.int c), .sh (.int n)], ?_, rfl⟩
      simp [lcF, wip, bindT]
  generalize ((br 64 ps).take c.toNat).map (· + 1) = X at *
  simp [d_item_widths, s_item_widths, start_eq, h226, d_check_any_places, e1, lc1]
end
end Z
/-! YV: the least width for a size; places, orders and widths by a law of codes. -/
namespace Z
open PySem (Str Operator CmpOp)
theorem forL_find (q : Nat → Bool) (Iv : En → Prop) {f : D → En → O} (hf : ∀ (x : Nat) (r : En), Iv r → ∃ r', Iv r' ∧ f (.int x) r = if q x = true then .ret (.sh (.int x)) r' else .nx r') : ∀ (l : List Nat) (r : En), Iv r →
    ∃ r', Iv r' ∧ forL f (l.map fun (x : Nat) => D.int x) r = match l.find? q with | some x => .ret (.sh (.int x)) r' | none => .nx r'
  | [], r, h => ⟨r, h, rfl⟩
  | x :: l, r, h => by
    obtain ⟨r1, h1, e1⟩ := hf x r h
    by_cases c : q x = true
    · rw [if_pos c] at e1
      refine ⟨r1, h1, ?_⟩
      simp only [List.map_cons, forL, e1, O.turn_ret, List.find?_cons, c]
    · rw [if_neg c] at e1
      obtain ⟨r2, h2, e2⟩ := forL_find q Iv hf l r1 h1
      refine ⟨r2, h2, ?_⟩
      have c' : q x = false := by simpa using c
      simp only [List.map_cons, forL, e1, O.turn_nx, List.find?_cons, c']
      exact e2
theorem rng_from (a : Nat) : (rangeI a 65 1).map D.int = (List.range' a (65 - a)).map fun (x : Nat) => D.int x := by
  unfold rangeI rangeN
  rw [if_pos rfl, List.map_map, show ((65 : Int) - a).toNat = 65 - a by omega, List.range'_eq_map_range, List.map_map]
  apply List.map_congr_left
  intro i _
  simp
/-- the last -/
def lastI (ps : List Int) : Int := ps.getLastD 0
/-- the width of the greatest place -/
def topw (ps : List Int) : Nat := max (PySem.Builtin.Int.intBits (lastI ps)) 1
/-- a width is enough for a size -/
def wq (m : Int) (ns : List Int) (c w : Nat) : Bool := decide (m ≤ szp (w : Int) ns c)
def optD : Option Nat → D
  | some x => .int x
  | none => .non
section
variable {Pg : Nat → Option Df} {fuel k f : Nat} {C : Cf}
@[simp] theorem q_negc {a : Int} {r : En} : ev C (.neg (.con (.int a))) r = .ok (.sh (.int (-a))) r := by simp only [ev, R.bind_ok, Val.d_sh]
theorem last_il {ps : List Int} (h : ps ≠ []) : idxD (il ps) (.int (-1)) = some (.int (lastI ps)) := by
  have hp : 0 < ps.length := List.length_pos_iff.mpr h
  simp only [idxD, atL, ixN, List.length_map]
  rw [if_neg (by omega), if_pos (by omega), show (-1 + (ps.length : Int)).toNat = ps.length - 1 by omega, Option.bind_some, List.getElem?_map, ← List.getLast?_eq_getElem?, List.getLast?_eq_some_getLast h, Option.map_some]
  cases ps with
  | nil => exact absurd rfl h
  | cons x l => simp [lastI, List.getLastD]
theorem m_width_for (G : GB Pg) (h2 : Pg 2 = some d_check_number) (h7 : Pg 7 = some d_items_counted) (h211 : Pg 211 = some d_size_power) (h226 : Pg 226 = some d_check_any_places) (h : Pg f = some d_width_for) (hf : 1000 ≤ fuel) (ps : List Int) (hl : ps.length ≤ 900) (hp : PlW 64 ps) (c m : Int) (hc : 0 ≤ c) (hm : 0 ≤ m) :
    callD Pg fuel (k + 7) f [il ps, .int c, .int m] = .ok (.sh (optD ((List.range' (topw ps) (65 - topw ps)).find? (wq m (br 64 ps) c.toNat)))) [] := by
  rw [callD_eq h ⟨rfl, Nat.le_of_ble_eq_true rfl⟩]
  have e1 := m_check_any (fuel := fuel) (k := k) G h2 h226 ps hl hp c hc
  have e2 := m_check_from (fuel := fuel) (k := k + 3) G h2 m 0 hm
  have e3 := m_row (fuel := fuel) (k := k + 4) G 64 (by omega) hf ps hl hp
  have el := last_il hp.1
  have mem : lastI ps ∈ ps := by
    cases ps with
    | nil => exact absurd rfl hp.1
    | cons x l => simp [lastI, List.getLastD]
  have lb := hp.2.2 _ mem
  have ib := ib_le (x := lastI ps) (n := 64) (by
    have : (2 : Int) ^ 64 = 18446744073709551616 := by decide
    omega)
  have tw : (if (1 : Int) > (PySem.Builtin.Int.intBits (lastI ps) : Nat) then (1 : Int) else (PySem.Builtin.Int.intBits (lastI ps) : Nat)) = (topw ps : Nat) := by
    unfold topw
    split <;> omega
  have tl : topw ps ≤ 64 := by unfold topw; omega
  have er := rng2_eq (C := Cz Pg fuel (k + 6)) (a := .bi .max [.bits (.idx (.var 0) (.neg (.con (.int 1)))), .con (.int 1)]) (b := .bin .Add (.con (.int 64)) (.con (.int 1))) (r := [.sh (il ps), .sh (.int c), .sh (.int m), .sh (il (br 64 ps)), .no]) (r1 := [.sh (il ps), .sh (.int c), .sh (.int m), .sh (il (br 64 ps)), .no]) (r2 := [.sh (il ps), .sh (.int c), .sh (.int m), .sh (il (br 64 ps)), .no])
    (x := .inr (.int (topw ps : Nat))) (y := .inr (.int 65)) (i := (topw ps : Nat)) (j := 65) (by
      generalize topw ps = t at *
      simp [el, mtD]
      exact tw) (by simp) (by simp) (by omega) (by omega)
  rw [rng_from] at er
  obtain ⟨r', ⟨y4, rfl, hy4⟩, e'⟩ := forL_find (wq m (br 64 ps) c.toNat) (fun r => ∃ y4, r = [.sh (il ps), .sh (.int c), .sh (.int m), .sh (il (br 64 ps)), y4] ∧ Pn y4)
    (f := fun x r2 => (O.of (bindT (.v 4) x r2)).then fun r3 => xs (Cz Pg fuel (k + 6)) [.ite (.val (.cmp .GtE (.call 211 [.var 4, .var 3, .var 1] [] []) (.var 2))) [.ret (.var 4)] []] r3) (fun x r hr => by
      obtain ⟨y4, rfl, hy4⟩ := hr
      have e4 := m_szp (fuel := fuel) (k := k + 4) h7 h211 (x : Int) (br 64 ps) (by rw [br_len]; exact hl) c hc
      refine ⟨[.sh (il ps), .sh (.int c), .sh (.int m), .sh (il (br 64 ps)), .sh (.int x)], ⟨_, rfl, .inr ⟨_, rfl⟩⟩, ?_⟩
      by_cases q : m ≤ szp (x : Int) (br 64 ps) c.toNat
      · rw [if_pos (show wq m (br 64 ps) c.toNat x = true from decide_eq_true q)]
        rcases hy4 with rfl | ⟨d, rfl⟩ <;> simp [bindT, h211, d_size_power, e4, q]
      · rw [if_neg (show ¬ wq m (br 64 ps) c.toNat x = true from by unfold wq; simpa using q)]
        rcases hy4 with rfl | ⟨d, rfl⟩ <;> simp [bindT, h211, d_size_power, e4, q]) (List.range' (topw ps) (65 - topw ps)) [.sh (il ps), .sh (.int c), .sh (.int m), .sh (il (br 64 ps)), .no] ⟨_, rfl, .inl rfl⟩
  have fe : x1 (Cz Pg fuel (k + 6)) (.for_ (.v 4) (.rng2 (.bi .max [.bits (.idx (.var 0) (.neg (.con (.int 1)))), .con (.int 1)]) (.bin .Add (.con (.int 64)) (.con (.int 1)))) [.ite (.val (.cmp .GtE (.call 211 [.var 4, .var 3, .var 1] [] []) (.var 2))) [.ret (.var 4)] []]) [.sh (il ps), .sh (.int c), .sh (.int m), .sh (il (br 64 ps)), .no] =
      match (List.range' (topw ps) (65 - topw ps)).find? (wq m (br 64 ps) c.toNat) with | some x => .ret (.sh (.int x)) [.sh (il ps), .sh (.int c), .sh (.int m), .sh (il (br 64 ps)), y4] | none => .nx [.sh (il ps), .sh (.int c), .sh (.int m), .sh (il (br 64 ps)), y4] := by
    rw [q_for, er, R.run_ok]
    exact e'
  cases hfd : (List.range' (topw ps) (65 - topw ps)).find? (wq m (br 64 ps) c.toNat) with
  | some x =>
    rw [hfd] at fe
    simp [-q_for, d_width_for, s_width_for, start_eq, h226, d_check_any_places, e1, h2, d_check_number, e2, G.h5, d_good_row, e3, idxD, atL, ixN, fe, optD]
  | none =>
    rw [hfd] at fe
    simp [-q_for, d_width_for, s_width_for, start_eq, h226, d_check_any_places, e1, h2, d_check_number, e2, G.h5, d_good_row, e3, idxD, atL, ixN, fe, optD]
theorem m_places2 (h32 : Pg 32 = some d__law_hash) (h184 : Pg 184 = some d__law_random_v1) (h185 : Pg 185 = some d__law_two) (h : Pg f = some d__law_places_v2) (m : Nat) (hm : m ≤ 900000) (g : D) (hg : Gd m g) (w : Nat) (hw : 1 ≤ w ∧ w ≤ 64) (most : Nat) (hmo : 1 ≤ most ∧ most ≤ 20) :
    ∃ ps g', Places most w ps ∧ Gd (m + 3 + 3 * most) g' ∧ callD Pg fuel (k + 3) f [g, .int w, .int most] = .ok (.ow (il ps)) [g'] := by
  rw [callD_eq h ⟨rfl, Nat.le_of_ble_eq_true rfl⟩]
  obtain ⟨P1, P2⟩ := pow_le64 hw.2
  obtain ⟨v, g1, hv, hg1, e1⟩ := m_random (fuel := fuel) (k := k) h32 h184 m (by omega) g hg (most : Int) (by omega)
  obtain ⟨n, rfl⟩ : ∃ n : Nat, v = n := ⟨v.toNat, by omega⟩
  have e2 := m_two (fuel := fuel) (k := k + 1) h185 w (by omega)
  generalize gP : (2 : Int) ^ w = P at *
  have er := rng1_eq (C := Cz Pg fuel (k + 2)) (b := .bin .Add (.con (.int 1)) (.call 184 [.var 0, .var 2] [] [])) (r := [.io g, .sh (.int w), .sh (.int most), .ow (.lst []), .no, .no]) (r2 := [.io g1, .sh (.int w), .sh (.int most), .ow (.lst []), .no, .no]) (y := .inr (.int ((n + 1 : Nat) : Int))) (j := ((n + 1 : Nat) : Int)) (by
    simp [h184, d__law_random_v1, e1, hg1.shal]
    omega) (by simp) (by omega)
  obtain ⟨r', e', g', found, y4, y5, rfl, hy4, hy5, hl, hn, nd, hr, hg'⟩ := for_run (t := .v 4) (body := [.asg (.v 5) (.call 184 [.var 0, .call 185 [.var 1] [] []] [] []),
    .ite (.val (.cmp .NotIn (.var 5) (.var 3))) [.ex (.mut .append 3 [.var 5])] []]) (fun t r => ∃ (g : D) (found : List Int) (y4 y5 : Sl), r = [.io g, .sh (.int w), .sh (.int most), .ow (il found), y4, y5] ∧ Pn y4 ∧ Pn y5 ∧ found.length ≤ t ∧ (1 ≤ t → found ≠ []) ∧ found.Nodup ∧ (∀ x ∈ found, 0 ≤ x ∧ x < P) ∧ Gd (m + 3 + 3 * t) g) er (by
    intro t ht r hr
    rw [rng0_len] at ht
    rw [rng0_get]
    obtain ⟨g, found, y4, y5, rfl, hy4, hy5, hl, hn, nd, hr, hg⟩ := hr
    obtain ⟨p, g', hp, hg', e3⟩ := m_random (fuel := fuel) (k := k) h32 h184 (m + 3 + 3 * t) (by omega) g hg P (by omega)
    have ll : found.length < LINE := Nat.lt_of_lt_of_le (show found.length < 1000 by omega) (line_le (Nat.le_refl _))
    by_cases c : p ∈ found
    · refine ⟨_, ?_, g', found, .sh (.int t), .sh (.int p), rfl, .inr ⟨_, rfl⟩, .inr ⟨_, rfl⟩, by omega, fun _ e => ?_, nd, hr, hg'.mono (by omega)⟩
      · rcases hy4 with rfl | ⟨d, rfl⟩ <;> rcases hy5 with rfl | ⟨d', rfl⟩ <;> simp [bindT, h184, d__law_random_v1, h185, d__law_two, e2, e3, hg'.shal, in_il, c]
      · subst e; cases c
    · refine ⟨_, ?_, g', found ++ [p], .sh (.int t), .sh (.int p), rfl, .inr ⟨_, rfl⟩, .inr ⟨_, rfl⟩, by simp; omega, by simp, ?_, ?_, hg'.mono (by omega)⟩
      · rcases hy4 with rfl | ⟨d, rfl⟩ <;> rcases hy5 with rfl | ⟨d', rfl⟩ <;> simp [bindT, h184, d__law_random_v1, h185, d__law_two, e2, e3, hg'.shal, in_il, c, lstAt, muD, ll]
      · exact List.nodup_append.mpr ⟨nd, by simp, fun a ha b hb => by simp at hb; subst hb; exact fun e => c (e ▸ ha)⟩
      · intro x hx
        rcases List.mem_append.mp hx with hx | hx
        · exact hr x hx
        · simp at hx
          subst hx
          exact hp) ⟨g1, [], .no, .no, rfl, .inl rfl, .inl rfl, by simp, by simp, List.nodup_nil, by simp, hg1⟩
  rw [rng0_len] at hl hn hg'
  refine ⟨sortI found, g', places_of (hn (by omega)) (by omega) nd (by rw [gP]; exact hr), hg'.mono (by omega), ?_⟩
  have es := bi_sorted_il (ns := found) (by omega)
  simp [-q_for, d__law_places_v2, s__law_places_v2, start_eq, e', es]
theorem m_twos1 (h : Pg f = some d__law_twos_v1) (m : Nat) (n : Int) (hn : n ≠ 0) (hb : n.natAbs < 2 ^ m) (hf : m + 1 ≤ fuel) : callD Pg fuel (k + 1) f [.int n] = .ok (.sh (.int (v2 n))) [] := by
  rw [callD_eq h ⟨rfl, Nat.le_of_ble_eq_true rfl⟩]
  obtain ⟨fu, rfl⟩ : ∃ f, fuel = f + 1 := ⟨fuel - 1, by omega⟩
  have hb2 : n.natAbs < 2 ^ fu := Nat.lt_of_lt_of_le hb (Nat.pow_le_pow_right (by decide) (by omega))
  have lp : ∀ (m : Nat) (n : Int) (f : Int), n ≠ 0 → n.natAbs < 2 ^ m →
    ∃ n' : Int, whlL (evT (Cz Pg (fu + 1) k) (.val (.cmp .Eq (.bin .Mod (.bi .int [.var 0]) (.con (.int 2))) (.con (.int 0))))) (xs (Cz Pg (fu + 1) k) [.par [0, 1] [.bin .FloorDiv (.var 0) (.con (.int 2)), .bin .Add (.var 1) (.con (.int 1))]]) (m + 1) [.sh (.int n), .sh (.int f)] = .nx [.sh (.int n'), .sh (.int (f + v2 n))] := by
    intro m
    induction m with
    | zero =>
      intro n f h b
      exfalso
      have : n.natAbs < 1 := b
      omega
    | succ m ih =>
      intro n f h b
      rw [whlL]
      by_cases e : n % 2 = 0
      · have hn : n / 2 ≠ 0 := by omega
        have hb : (n / 2).natAbs < 2 ^ m := by
          have : 2 ^ (m + 1) = 2 * 2 ^ m := by rw [Nat.pow_succ, Nat.mul_comm]
          omega
        obtain ⟨n', q⟩ := ih (n / 2) (f + 1) hn hb
        refine ⟨n', ?_⟩
        have eF : binI .FloorDiv n 2 = some (n / 2) := bI_fdiv (by decide) (by omega)
        have hv : f + (v2 n : Int) = f + 1 + (v2 (n / 2) : Int) := by rw [v2_even h e]; omega
        rw [hv, ← q]
        simp [bI_mod, e, eF, puts]
      · refine ⟨n, ?_⟩
        rw [v2_odd e]
        simp [bI_mod, e]
  obtain ⟨n', q⟩ := lp fu n 0 hn hb2
  have q2 : x1 (Cz Pg (fu + 1) k) (.whl (.val (.cmp .Eq (.bin .Mod (.bi .int [.var 0]) (.con (.int 2))) (.con (.int 0)))) [.par [0, 1] [.bin .FloorDiv (.var 0) (.con (.int 2)), .bin .Add (.var 1) (.con (.int 1))]]) [.sh (.int n), .sh (.int 0)] = .nx [.sh (.int n'), .sh (.int (v2 n))] := by
    rw [q_whl]
    rw [Int.zero_add] at q
    exact q
  simp [-q_whl, d__law_twos_v1, s__law_twos_v1, start_eq, q2]
end
end Z
/-! YW: the good order of a law of codes; the bits of the last place. -/
namespace Z
open PySem (Str Operator CmpOp)
theorem gr_succ (n : Nat) (left : List Int) (s : Int → Int) (h : mi (left.map s) < left.length) :
    gr (n + 1) left (left.map s) = (left[mi (left.map s)] :: (gr n (left.eraseIdx (mi (left.map s))) ((left.eraseIdx (mi (left.map s))).map fun p => s p + v2 (p - left[mi (left.map s)]))).1, s left[mi (left.map s)] :: (gr n (left.eraseIdx (mi (left.map s))) ((left.eraseIdx (mi (left.map s))).map fun p => s p + v2 (p - left[mi (left.map s)]))).2) := by
  generalize gi : mi (left.map s) = i at *
  have g1 : left.getD i 0 = left[i] := by simp [h]
  have g2 : (left.map s).getD i 0 = s left[i] := by simp [h]
  have em : ∀ (l : List Int) (i : Nat), (l.map s).eraseIdx i = (l.eraseIdx i).map s := by
    intro l
    induction l with
    | nil => intro i; rfl
    | cons x l ih =>
      intro i
      cases i with
      | zero => rfl
      | succ i => simp [ih i]
  have gz : ∀ l : List Int, gsum left[i] (l.map s) l = l.map fun p => s p + v2 (p - left[i]) := by
    intro l
    induction l with
    | nil => rfl
    | cons x l ih =>
      simp only [gsum, List.map_cons, List.zipWith_cons_cons] at ih ⊢
      rw [ih]
  show (left.getD (mi (left.map s)) 0 :: _, (left.map s).getD (mi (left.map s)) 0 :: _) = _
  rw [gi, g1, g2, em, gz]
theorem btw_snoc (O : List Int) (t p : Int) : (btw (O ++ [t]) p : Int) = btw O p + (v2 (p - t) : Int) := by
  rw [btw_app]
  simp [btw]
section
variable {Pg : Nat → Option Df} {fuel k f : Nat} {C : Cf}
abbrev goodC : Z.T := .val (.cmp .NotEq (.var 3) (.lst []))
abbrev goodL : E := .lc (.bi .sum [.lc (.call 79 [.bin .Sub (.var 6) (.var 7)] [] []) (.v 7) (.e (.var 1)) [] [7]]) (.v 6) (.e (.var 3)) [] [6]
abbrev goodB : List S := [.asg (.v 4) goodL,
    .asg (.v 5) (.mth .index (.var 4) [.bi .min [.var 4]]),
    .par [1, 2, 3] [.bin .Add (.var 1) (.lst [.idx (.var 3) (.var 5)]), .bin .Add (.var 2) (.lst [.idx (.var 4) (.var 5)]), .bin .Add (.slc (.var 3) (.con .non) (.var 5)) (.slc (.var 3) (.bin .Add (.var 5) (.con (.int 1))) (.con .non))]]
/-- a slot that may be thawed -/
def Pt (y : Sl) : Prop := y = .no ∨ (∃ d, y = .sh d) ∨ ∃ l : List Int, y = .ow (il l)
theorem m_costs (h79 : Pg 79 = some d__law_twos_v1) (hf : 1000 ≤ fuel) (ps O N L : List Int) (y4 y5 : Sl) (h4 : Pt y4) (h5 : Pn y5) (hO : O.length ≤ 900) (hL : L.length ≤ 900) (hd : ∀ p ∈ L, ∀ q ∈ O, q ≠ p ∧ (p - q).natAbs < 2 ^ 64) :
    ev (Cz Pg fuel (k + 1)) goodL [.sh (il ps), .ow (il O), .ow (il N), .ow (il L), y4, y5, .no, .no] = .ok (.ow (il (L.map fun p => (btw O p : Int)))) [.sh (il ps), .ow (il O), .ow (il N), .ow (il L), y4, y5, .no, .no] := by
  have inner : ∀ p ∈ L, ev (Cz Pg fuel (k + 1)) (.lc (.call 79 [.bin .Sub (.var 6) (.var 7)] [] []) (.v 7) (.e (.var 1)) [] [7]) [.sh (il ps), .ow (il O), .ow (il N), .sh (il L), y4, y5, .sh (.int p), .no] =
      .ok (.ow (il (O.map fun q => (v2 (p - q) : Int)))) [.sh (il ps), .ow (il O), .ow (il N), .sh (il L), y4, y5, .sh (.int p), .no] := by
    intro p hp
    rw [lc_run (r1 := [.sh (il ps), .sh (il O), .ow (il N), .sh (il L), y4, y5, .sh (.int p), .no]) (l := O.map .int) (fun d => match d with | D.int q => some (D.int (v2 (p - q) : Nat)) | _ => none)]
    · have q : List.filterMap (fun d => match d with | D.int q => some (D.int (v2 (p - q) : Nat)) | _ => none) (O.map D.int) = (O.map fun q => (v2 (p - q) : Int)).map .int := by
        clear hO hd
        induction O with
        | nil => rfl
        | cons x l ih => simp only [List.map_cons, List.filterMap_cons, ih]
      rw [q]
      simp only [thawL, flat_il, if_true]
      rcases h4 with rfl | ⟨d, rfl⟩ | ⟨l, rfl⟩ <;> rcases h5 with rfl | ⟨d', rfl⟩ <;> simp [thw, thw1, flat_il] <;> exact fun _ _ => rfl
    · simp [itemsD]
    · rcases h4 with rfl | ⟨d, rfl⟩ | ⟨l, rfl⟩ <;> rcases h5 with rfl | ⟨d', rfl⟩ <;> rfl
    · rfl
    · exact line_le (by simp; omega)
    · intro x hx
      obtain ⟨q, hq, rfl⟩ := List.mem_map.mp hx
      obtain ⟨n1, n2⟩ := hd p hp q hq
      have e1 := m_twos1 (fuel := fuel) (k := k) h79 64 (p - q) (by omega) n2 (by omega)
      refine ⟨[.sh (il ps), .sh (il O), .ow (il N), .sh (il L), y4, y5, .sh (.int p), .sh (.int q)], ?_, rfl⟩
      simp [lcF, wip, bindT, h79, d__law_twos_v1, e1]
  rw [lc_run (r1 := [.sh (il ps), .ow (il O), .ow (il N), .sh (il L), y4, y5, .no, .no]) (l := L.map .int) (fun d => match d with | D.int p => some (D.int (btw O p : Nat)) | _ => none)]
  · have q : List.filterMap (fun d => match d with | D.int p => some (D.int (btw O p : Nat)) | _ => none) (L.map D.int) = (L.map fun p => (btw O p : Int)).map .int := by
      clear hL hd inner
      induction L with
      | nil => rfl
      | cons x l ih => simp only [List.map_cons, List.filterMap_cons, ih]
    rw [q]
    simp only [thawL, flat_il, if_true]
    rcases h4 with rfl | ⟨d, rfl⟩ | ⟨l, rfl⟩ <;> rcases h5 with rfl | ⟨d', rfl⟩ <;> simp [thw, thw1, flat_il] <;> exact fun _ _ => rfl
  · simp [itemsD]
  · rfl
  · rfl
  · exact line_le (by simp; omega)
  · intro x hx
    obtain ⟨p, hp, rfl⟩ := List.mem_map.mp hx
    have e1 := inner p hp
    have es : biD .sum [.lst ((O.map fun q => (v2 (p - q) : Int)).map .int)] = some (.sh (.int (btw O p))) := by
      rw [bi_sum_il]
      unfold btw
      rw [← sum_cast, List.map_map]
      rfl
    refine ⟨[.sh (il ps), .ow (il O), .ow (il N), .sh (il L), y4, y5, .sh (.int p), .no], ?_, rfl⟩
    simp only [il] at e1
    generalize (O.map fun q => (v2 (p - q) : Int)).map D.int = X at *
    simp [lcF, wip, bindT, e1, es]
theorem good_loop (h79 : Pg 79 = some d__law_twos_v1) (hf : 1000 ≤ fuel) (ps : List Int) : ∀ (n q : Nat) (O N L : List Int) (y4 y5 : Sl), Pt y4 → Pn y5 → L.length = n → O.length + n ≤ 900 → N.length + n ≤ 900 → n + 1 ≤ q → L.Nodup → (∀ p ∈ L, ∀ q ∈ L, (p - q).natAbs < 2 ^ 64) → (∀ p ∈ L, ∀ q ∈ O, q ≠ p ∧ (p - q).natAbs < 2 ^ 64) →
    ∃ z3 z4 z5, whlL (evT (Cz Pg fuel (k + 1)) goodC) (xs (Cz Pg fuel (k + 1)) goodB) q [.sh (il ps), .ow (il O), .ow (il N), .ow (il L), y4, y5, .no, .no] =
      .nx [.sh (il ps), .ow (il (O ++ (gr n L (L.map fun p => (btw O p : Int))).1)), .ow (il (N ++ (gr n L (L.map fun p => (btw O p : Int))).2)), z3, z4, z5, .no, .no]
  | 0, q, O, N, L, y4, y5, h4, h5, hl, _, _, hq, _, _, _ => by
    obtain ⟨q, rfl⟩ : ∃ p, q = p + 1 := ⟨q - 1, by omega⟩
    have e : L = [] := List.eq_nil_of_length_eq_zero hl
    subst e
    have e3 : cmpD .NotEq (il []) (D.lst []) = some false := cmp_il_ne [] []
    refine ⟨.ow (il []), y4, y5, ?_⟩
    rw [whlL]
    simp [e3, gr]
  | n + 1, q, O, N, L, y4, y5, h4, h5, hl, hO, hN, hq, nd, bd, hd => by
    obtain ⟨q, rfl⟩ : ∃ p, q = p + 1 := ⟨q - 1, by omega⟩
    have hn : L ≠ [] := fun e => by subst e; simp at hl
    generalize gs : (fun p => (btw O p : Int)) = s at *
    have hns : L.map s ≠ [] := fun e => hn (by simpa using e)
    have i0 := mi_lt hns
    have i1 : mi (L.map s) < L.length := by simpa using i0
    have gq := gr_succ n L s i1
    have e4 := m_costs (k := k) h79 hf ps O N L y4 y5 h4 h5 (by omega) (by omega) hd
    rw [gs] at e4
    have mm := mt_mi hns
    have mb := bi_min_il hns
    have ga : (L.map s)[mi (L.map s)] = s L[mi (L.map s)] := by simp
    rw [ga] at mm mb
    clear ga
    generalize gi : mi (L.map s) = i at *
    have c5 := cut_take L i
    have c6 := cut_drop L i
    have ix3 : idxD (il L) (.int i) = some (.int L[i]) := at_il L i i1
    have ix4 : idxD (il (L.map s)) (.int i) = some (.int (s L[i])) := by
      have := at_il (L.map s) i i0
      rw [List.getElem_map] at this
      exact this
    have ln1 : (O.map D.int).length + (0 + 1) ≤ LINE := line_le (by simp; omega)
    have ln2 : (N.map D.int).length + (0 + 1) ≤ LINE := line_le (by simp; omega)
    have ln : ((L.take i).map D.int).length + ((L.drop (i + 1)).map D.int).length ≤ LINE := line_le (by simp; omega)
    have ap1 : O.map D.int ++ [D.int L[i]] = (O ++ [L[i]]).map D.int := by simp
    have ap2 : N.map D.int ++ [D.int (s L[i])] = (N ++ [s L[i]]).map D.int := by simp
    have ap3 : (L.take i).map D.int ++ (L.drop (i + 1)).map D.int = (L.eraseIdx i).map D.int := by rw [← List.map_append, List.eraseIdx_eq_take_drop_succ]
    have sub : ∀ p ∈ L.eraseIdx i, p ∈ L := fun p hp => List.mem_of_mem_eraseIdx hp
    have ne : ∀ p ∈ L.eraseIdx i, L[i] ≠ p := by
      intro p hp e
      obtain ⟨j, hj, n1, e2⟩ := List.mem_eraseIdx_iff_getElem.mp hp
      rcases Nat.lt_or_gt_of_ne n1 with w | w
      · exact List.pairwise_iff_getElem.mp nd j i hj i1 w (e2.trans e.symm)
      · exact List.pairwise_iff_getElem.mp nd i j i1 hj w (e.trans e2.symm)
    have bs : (fun p => s p + (v2 (p - L[i]) : Int)) = fun p => (btw (O ++ [L[i]]) p : Int) := by
      funext p
      rw [← gs, btw_snoc]
    rw [bs] at gq
    obtain ⟨z3, z4, z5, ih⟩ := good_loop h79 hf ps n q (O ++ [L[i]]) (N ++ [s L[i]]) (L.eraseIdx i) (.ow (il (L.map s))) (.sh (.int i)) (.inr (.inr ⟨_, rfl⟩)) (.inr ⟨_, rfl⟩) (by rw [List.length_eraseIdx_of_lt i1]; omega) (by simp; omega) (by simp; omega) (by omega) (nd.eraseIdx _)
      (fun p hp q hq => bd p (sub p hp) q (sub q hq)) (fun p hp q hq => by
        rcases List.mem_append.mp hq with hq | hq
        · exact hd p (sub p hp) q hq
        · simp at hq
          subst hq
          exact ⟨ne p hp, bd p (sub p hp) _ (List.getElem_mem _)⟩)
    refine ⟨z3, z4, z5, ?_⟩
    have e3 : cmpD .NotEq (il L) (D.lst []) = some true := by
      have := cmp_il_nnil L
      rw [decide_eq_false hn] at this
      exact this
    have cnd : evT (Cz Pg fuel (k + 1)) goodC [.sh (il ps), .ow (il O), .ow (il N), .ow (il L), y4, y5, .no, .no] = .ok true [.sh (il ps), .ow (il O), .ow (il N), .ow (il L), y4, y5, .no, .no] := by
      simp [e3]
    have st : xs (Cz Pg fuel (k + 1)) goodB [.sh (il ps), .ow (il O), .ow (il N), .ow (il L), y4, y5, .no, .no] = .nx [.sh (il ps), .ow (il (O ++ [L[i]])), .ow (il (N ++ [s L[i]])), .ow (il (L.eraseIdx i)), .ow (il (L.map s)), .sh (.int i), .no, .no] := by
      have st1 : x1 (Cz Pg fuel (k + 1)) (.asg (.v 4) goodL) [.sh (il ps), .ow (il O), .ow (il N), .ow (il L), y4, y5, .no, .no] = .nx [.sh (il ps), .ow (il O), .ow (il N), .ow (il L), .ow (il (L.map s)), y5, .no, .no] := by
        rw [q_asgv, e4, R.run_ok]
        rcases h4 with rfl | ⟨d, rfl⟩ | ⟨l, rfl⟩ <;> simp
      rw [q_xs, st1, Z.O.then_nx]
      generalize (L.take i).map D.int = A5 at *
      generalize (L.drop (i + 1)).map D.int = B5 at *
      generalize L.map s = M at *
      simp only [il] at *
      generalize (O ++ [L[i]]).map D.int = A1 at *
      generalize (N ++ [s L[i]]).map D.int = A2 at *
      generalize (L.eraseIdx i).map D.int = A3 at *
      generalize O.map D.int = O' at *
      generalize N.map D.int = N' at *
      rcases h5 with rfl | ⟨d', rfl⟩ <;> simp [lstB, mb, mm, ix3, ix4, ln1, ln2, ap1, ap2, por, isNon, slcD, part?, c5, c6, ln, ap3, puts]
    rw [whlL, cnd, R.run_ok, if_pos rfl, st, Z.O.turn_nx, ih, gq]
    simp
theorem m_good1 (h79 : Pg 79 = some d__law_twos_v1) (h : Pg f = some d__law_good_v1) (hf : 1000 ≤ fuel) (ps : List Int) (hl : ps.length ≤ 800) (hn : ps ≠ []) (nd : ps.Nodup) (bd : ∀ p ∈ ps, ∀ q ∈ ps, (p - q).natAbs < 2 ^ 64) : callD Pg fuel (k + 2) f [il ps] = .ok (.sh (.tup [il (ord ps), il (nums ps)])) [] := by
  rw [callD_eq h ⟨rfl, Nat.le_of_ble_eq_true rfl⟩]
  match ps, hn, hl, nd, bd with
  | p :: L, _, hl, nd, bd =>
    obtain ⟨n1, n2⟩ := List.nodup_cons.mp nd
    obtain ⟨z3, z4, z5, e⟩ := good_loop (k := k) h79 hf (p :: L) L.length fuel [p] [0] L .no .no (.inl rfl) (.inl rfl) rfl (by simp at hl ⊢; omega) (by simp at hl ⊢; omega) (by simp at hl; omega) n2
      (fun a ha b hb => bd a (List.mem_cons_of_mem _ ha) b (List.mem_cons_of_mem _ hb)) (fun a ha b hb => by
        simp at hb
        subst hb
        exact ⟨fun e => n1 (e ▸ ha), bd a (List.mem_cons_of_mem _ ha) b List.mem_cons_self⟩)
    have mz : mi ((p :: L).map fun _ => (0 : Int)) = 0 := by
      refine mi_t (List.all_eq_true.mpr fun y hy => ?_)
      obtain ⟨_, _, rfl⟩ := List.mem_map.mp hy
      simp
    have gq := gr_succ L.length (p :: L) (fun _ => 0) (by rw [mz]; simp)
    simp only [mz, List.getElem_cons_zero, List.eraseIdx_cons_zero] at gq
    have bs : (fun q => (0 : Int) + (v2 (q - p) : Int)) = fun q => (btw [p] q : Int) := by
      funext q
      simp [btw]
    rw [bs] at gq
    have oe : ord (p :: L) = [p] ++ (gr L.length L (L.map fun q => (btw [p] q : Int))).1 := by
      unfold ord
      rw [zeros_map, show (p :: L).length = L.length + 1 from rfl, gq]
      rfl
    have ne : nums (p :: L) = [0] ++ (gr L.length L (L.map fun q => (btw [p] q : Int))).2 := by
      unfold nums
      rw [zeros_map, show (p :: L).length = L.length + 1 from rfl, gq]
      rfl
    rw [← oe, ← ne] at e
    have c1 : cut ((p :: L).map D.int) none (some 1) = [D.int p] := by
      have := cut_take (p :: L) 1
      simpa using this
    have c2 : cut ((p :: L).map D.int) (some 1) none = L.map D.int := by
      have := cut_drop (p :: L) 0
      simpa using this
    have e2 : x1 (Cz Pg fuel (k + 1)) (.whl goodC goodB) [.sh (il (p :: L)), .ow (.lst [.int p]), .ow (.lst [.int 0]), .ow (.lst (L.map .int)), .no, .no, .no, .no] = .nx [.sh (il (p :: L)), .ow (il (ord (p :: L))), .ow (il (nums (p :: L))), z3, z4, z5, .no, .no] := by
      rw [q_whl]
      exact e
    simp only [il] at e2 ⊢
    generalize (p :: L).map D.int = X at *
    simp [-q_whl, d__law_good_v1, s__law_good_v1, start_eq, por, isNon, slcD, part?, c1, c2, puts, e2]
theorem intBits_of {x : Int} {n : Nat} (h : 2 ^ n ≤ x.natAbs) (h2 : x.natAbs < 2 ^ (n + 1)) : PySem.Builtin.Int.intBits x = n + 1 := by
  have : 0 < 2 ^ n := Nat.pow_pos (by decide)
  have hx : ¬ (x == 0) = true := by simp; omega
  unfold PySem.Builtin.Int.intBits
  rw [if_neg hx, (Nat.log2_eq_iff (by omega)).mpr ⟨h, h2⟩]
theorem m_bits (h185 : Pg 185 = some d__law_two) (h : Pg f = some d__law_bits) (hf : 1000 ≤ fuel) (ps : List Int) (hn : ps ≠ []) (hr : 0 ≤ lastI ps ∧ lastI ps < 2 ^ 64) : callD Pg fuel (k + 2) f [il ps] = .ok (.sh (.int (topw ps : Nat))) [] := by
  rw [callD_eq h ⟨rfl, Nat.le_of_ble_eq_true rfl⟩]
  have hp : 0 < ps.length := List.length_pos_iff.mpr hn
  have el : idxD (.lst (ps.map .int)) (.int ((ps.length : Int) - 1)) = some (.int (lastI ps)) := by
    have := at_il ps (ps.length - 1) (by omega)
    rw [show ((ps.length - 1 : Nat) : Int) = (ps.length : Int) - 1 by omega] at this
    show atL _ _ = _
    rw [this]
    cases ps with
    | nil => exact absurd rfl hn
    | cons x l => simp [lastI, List.getLastD, List.getLast_eq_getElem]
  have p64 : (2 : Int) ^ 64 = 18446744073709551616 := by decide
  have lp : ∀ (j q x : Nat), 1 ≤ x → x + j = 64 → j + 1 ≤ q → (1 < x → (2 : Int) ^ (x - 1) ≤ lastI ps) →
      whlL (evT (Cz Pg fuel (k + 1)) (.val (.cmp .GtE (.idx (.var 0) (.bin .Sub (.bi .len [.var 0]) (.con (.int 1)))) (.call 185 [.var 1] [] [])))) (xs (Cz Pg fuel (k + 1)) [.asg (.v 1) (.bin .Add (.var 1) (.con (.int 1)))]) q [.sh (il ps), .sh (.int x)] = .nx [.sh (il ps), .sh (.int (topw ps : Nat))] := by
    intro j
    induction j with
    | zero =>
      intro q x hx hj hq hlow
      obtain ⟨q, rfl⟩ : ∃ p, q = p + 1 := ⟨q - 1, by omega⟩
      have e1 := m_two (fuel := fuel) (k := k) h185 x (by omega)
      have : x = 64 := by omega
      subst this
      have c : ¬ (2 : Int) ^ 64 ≤ lastI ps := by omega
      have tw : topw ps = 64 := by
        have l := hlow (by omega)
        have l2 : (2 : Int) ^ 63 = 9223372036854775808 := by decide
        unfold topw
        rw [intBits_of (n := 63) (by omega) (by omega)]
        rfl
      rw [whlL, tw]
      rw [show ((64 : Nat) : Int) = 64 from rfl] at e1
      generalize (2 : Int) ^ 64 = P at *
      simp [el, h185, d__law_two, e1, c]
    | succ j ih =>
      intro q x hx hj hq hlow
      obtain ⟨q, rfl⟩ : ∃ p, q = p + 1 := ⟨q - 1, by omega⟩
      have e1 := m_two (fuel := fuel) (k := k) h185 x (by omega)
      by_cases c : (2 : Int) ^ x ≤ lastI ps
      · have st := ih q (x + 1) (by omega) (by omega) (by omega) (fun _ => by simpa using c)
        rw [whlL]
        generalize (2 : Int) ^ x = P at *
        generalize topw ps = t at *
        simp [el, h185, d__law_two, e1, c]
        exact st
      · have pw : ((2 ^ x : Nat) : Int) = 2 ^ x := by simp
        have tw : topw ps = x := by
          by_cases x1 : x = 1
          · subst x1
            have : (2 : Int) ^ 1 = 2 := rfl
            unfold topw
            have := ib_le (x := lastI ps) (n := 1) (by omega)
            omega
          · have l := hlow (by omega)
            have pw2 : ((2 ^ (x - 1) : Nat) : Int) = 2 ^ (x - 1) := by simp
            unfold topw
            rw [intBits_of (n := x - 1) (by omega) (by rw [show x - 1 + 1 = x by omega]; omega)]
            omega
        rw [whlL, tw]
        generalize (2 : Int) ^ x = P at *
        simp [el, h185, d__law_two, e1, c]
  have e2 : x1 (Cz Pg fuel (k + 1)) (.whl (.val (.cmp .GtE (.idx (.var 0) (.bin .Sub (.bi .len [.var 0]) (.con (.int 1)))) (.call 185 [.var 1] [] []))) [.asg (.v 1) (.bin .Add (.var 1) (.con (.int 1)))]) [.sh (il ps), .sh (.int 1)] = .nx [.sh (il ps), .sh (.int (topw ps : Nat))] := by
    rw [q_whl]
    exact lp 63 fuel 1 (by omega) (by omega) (by omega) (fun z => by omega)
  simp [-q_whl, d__law_bits, s__law_bits, start_eq, e2]
/-! ### sizes -/
theorem cnt_sorted (w : Int) : ∀ (X : List Int), X.Pairwise (· ≤ ·) → ((X.take (X.filter fun n => decide (n < w)).length).map fun n => w - n).sum = (X.map fun n => max (w - n) 0).sum
  | [], _ => rfl
  | x :: X, s => by
    obtain ⟨s1, s2⟩ := List.pairwise_cons.mp s
    by_cases c : x < w
    · simp only [List.filter_cons, decide_eq_true c, if_true, List.length_cons, List.take_succ_cons, List.map_cons, List.sum_cons, cnt_sorted w X s2]
      omega
    · have e : X.filter (fun n => decide (n < w)) = [] := by
        rw [List.filter_eq_nil_iff]
        intro y hy
        have := s1 y hy
        simp
        omega
      have z : (X.map fun n => max (w - n) 0).sum = 0 := by
        clear e s2 s
        induction X with
        | nil => rfl
        | cons y X ih =>
          have := s1 y List.mem_cons_self
          simp only [List.map_cons, List.sum_cons, ih fun z hz => s1 z (List.mem_cons_of_mem _ hz)]
          omega
      simp only [List.filter_cons, decide_eq_false c, Bool.false_eq_true, if_false, e, List.length_nil, List.take_zero, List.map_nil, List.sum_nil, List.map_cons, List.sum_cons, z]
      omega
theorem szp_max {ns : List Int} (s : ns.Pairwise (· ≤ ·)) (w : Int) (c : Nat) : szp w ns c = ((ns.take c).map fun n => max (w - n) 0).sum := by
  have s2 : (ns.take c).Pairwise (· ≤ ·) := s.sublist (List.take_sublist _ _)
  rw [← cnt_sorted w (ns.take c) s2]
  unfold szp
  have : (cnt_w w ns c).length ≤ c := by
    unfold cnt_w
    refine Nat.le_trans (List.length_filter_le _ _) ?_
    simp
    omega
  rw [show ns.take (cnt_w w ns c).length = (ns.take c).take (cnt_w w ns c).length by rw [List.take_take, Nat.min_eq_left this]]
  rfl
theorem max_sum_step (w : Int) (X : List Int) : (X.map fun n => max (w + 1 - n) 0).sum = (X.map fun n => max (w - n) 0).sum + ((X.filter fun n => decide (n < w + 1)).length : Int) := by
  induction X with
  | nil => rfl
  | cons x X ih =>
    simp only [List.map_cons, List.sum_cons, ih, List.filter_cons]
    by_cases c : x < w + 1
    · simp only [decide_eq_true c, if_true, List.length_cons]
      omega
    · simp only [decide_eq_false c, Bool.false_eq_true, if_false]
      omega
theorem max_sum_nonneg (w : Int) (X : List Int) : 0 ≤ (X.map fun n => max (w - n) 0).sum := by
  induction X with
  | nil => exact Int.le_refl _
  | cons x X ih => simp only [List.map_cons, List.sum_cons]; omega
theorem max_sum_le (w : Nat) (X : List Int) (h : ∀ x ∈ X, 0 ≤ x) : (X.map fun n => max ((w : Int) - n) 0).sum ≤ w * X.length := by
  induction X with
  | nil => simp
  | cons x X ih =>
    have := h x List.mem_cons_self
    have := ih fun y hy => h y (List.mem_cons_of_mem _ hy)
    simp only [List.map_cons, List.sum_cons, List.length_cons]
    rw [show ((X.length + 1 : Nat) : Int) = (X.length : Int) + 1 from rfl, Int.mul_add]
    omega
theorem br_nonneg : ∀ (d : Nat) (l : List Int), ∀ x ∈ br d l, 0 ≤ x
  | 0, l, x, h => by
    have := List.eq_of_mem_replicate h
    omega
  | d + 1, l, x, h => by
    rw [br_eq] at h
    have h := (sortI_perm _).mem_iff.mp h
    have key : ∀ b, x ∈ ea 0 1 (br d (half b l)) → 0 ≤ x := fun b hb => by
      obtain ⟨i, hi, e⟩ := List.getElem_of_mem hb
      rw [ea_get] at e
      have := br_nonneg d (half b l) _ (List.getElem_mem (l := br d (half b l)) (n := i) (by rw [ea_len] at hi; exact hi))
      omega
    rcases List.mem_append.mp h with h | h
    · exact key 0 h
    · exact key 1 h
end
end Z
/-! YX: the law of every width. -/
namespace Z
open PySem (Str Operator CmpOp)
/-- _law_right -/
def s__law_right_v10 : List S :=
  [.asg (.v 1) (.call 186 [.var 0, .idx (.lst [.bin .Add (.con (.int 1)) (.call 184 [.var 0, .con (.int 10)] [] []), .bin .Add (.con (.int 1)) (.call 184 [.var 0, .con (.int 60)] [] [])]) (.call 184 [.var 0, .con (.int 2)] [] []), .con (.int 7)] [] []),
    .par [2, 3] [.call 184 [.var 0, .bin .Add (.bi .len [.var 1]) (.con (.int 2))] [] [], .call 229 [.var 1] [] []],
    .par [4, 5] [.lc (.bin .Add (.var 12) (.con (.int 1))) (.v 12) (.e (.slc (.idx (.call 187 [.var 1] [] []) (.con (.int 1))) (.con .non) (.var 2))) [] [12], .bi .list [.var 1]],
    .asg (.v 6) (.call 227 [.var 5, .var 2] [] []),
    .ite (.or (.not (.val (.isi (.var 6) .list))) (.or (.val (.cmp .NotEq (.bi .repr [.var 6]) (.bi .repr [.var 4]))) (.val (.cmp .NotEq (.var 5) (.var 1))))) [.ret (.con (.bl false))] [],
    .for_ (.v 7) (.e (.lst [.var 3, .bin .Add (.var 3) (.con (.int 1)), .bin .Add (.var 3) (.call 184 [.var 0, .bin .Sub (.con (.int 65)) (.var 3)] [] []), .con (.int 64)])) [.ite (.val (.chn .LtE .LtE (.var 3) (.var 7) (.con (.int 64)))) [.ite (.val (.cmp .NotEq (.call 212 [.var 7, .var 1, .var 2] [] []) (.bi .len [.lc (.var 13) (.v 13) (.e (.var 4)) [.val (.cmp .LtE (.var 13) (.var 7))] [13]]))) [.ret (.con (.bl false))] []] [],
    .ite (.val (.chn .LtE .Lt (.var 3) (.var 7) (.con (.int 64)))) [.asg (.v 8) (.bi .len [.lc (.var 13) (.v 13) (.e (.var 4)) [.val (.cmp .LtE (.var 13) (.bin .Add (.var 7) (.con (.int 1))))] [13]]),
    .ite (.val (.cmp .NotEq (.call 213 [.bin .Add (.var 7) (.con (.int 1)), .var 1, .var 2] [] []) (.bin .Mult (.call 213 [.var 7, .var 1, .var 2] [] []) (.call 185 [.var 8] [] [])))) [.ret (.con (.bl false))] []] []],
    .asg (.v 9) (.lc (.bi .sum [.lc (.bi .max [.bin .Add (.bin .Sub (.var 7) (.var 13)) (.con (.int 1)), .con (.int 0)]) (.v 13) (.e (.var 4)) [] [13]]) (.v 7) (.rng2 (.var 3) (.con (.int 65))) [] [7]),
    .for_ (.v 10) (.e (.lst [.con (.int 0), .idx (.var 9) (.con (.int 0)), .bin .Add (.idx (.var 9) (.con (.int 0))) (.con (.int 1)), .idx (.var 9) (.bin .Sub (.con (.int 64)) (.var 3)), .bin .Add (.idx (.var 9) (.bin .Sub (.con (.int 64)) (.var 3))) (.con (.int 1)), .call 184 [.var 0, .bin .Add (.idx (.var 9) (.bin .Sub (.con (.int 64)) (.var 3))) (.con (.int 1))] [] []])) [.asg (.v 11) (.lc (.bin .Add (.var 3) (.var 14)) (.t [.v 14, .v 15]) (.enm (.var 9)) [.val (.cmp .GtE (.var 15) (.var 10))] [14, 15]),
    .ite (.val (.cmp .NotEq (.bi .repr [.call 228 [.var 5, .var 2, .var 10] [] []]) (.bi .repr [.ite (.val (.cmp .NotEq (.var 11) (.lst []))) (.idx (.var 11) (.con (.int 0))) (.con .non)]))) [.ret (.con (.bl false))] []],
    .ex (.mut .append 6 [.con (.int 7)]),
    .ret (.cmp .Eq (.bi .repr [.call 227 [.var 5, .var 2] [] []]) (.bi .repr [.var 4]))]
def d__law_right_v10 : Df := { modes := [true], names := 16, body := s__law_right_v10 }
/-- law -/
def s_law_v17 : List S :=
  [.for_ (.v 1) (.rng1 (.con (.int 3))) [.ite (.not (.val (.callN 230 (.call 35 [.var 0, .var 1] [] []) []))) [.ret (.con (.bl false))] []],
    .par [2, 3] [.lst [.con (.int 0), .con (.int 1), .con (.int 2), .con (.int 3)], .bin .Pow (.con (.int 10)) (.con (.int 29))],
    .ite (.val (.cmp .NotEq (.lst [.call 228 [.lst [.con (.int 0), .con (.int 1)], .con (.int 2), .var 3] [] [], .call 228 [.lst [.con (.int 0), .con (.int 1)], .var 3, .con (.int 5)] [] [], .call 227 [.var 2, .var 3] [] [], .call 228 [.var 2, .var 3, .con (.int 10)] [] []]) (.lst [.con .non, .con (.int 3), .lst [.con (.int 1), .con (.int 1), .con (.int 2), .con (.int 2)], .con (.int 3)]))) [.ret (.con (.bl false))] [],
    .asg (.v 4) (.lst [.call 227 [.var 2, .con (.int 4)] [] [], .call 228 [.var 2, .con (.int 4), .con (.int 10)] [] [], .call 228 [.lst [.con (.int 0)], .con (.int 0), .con (.int 1)] [] [], .call 228 [.lst [.con (.int 0)], .con (.int 0), .con (.int 0)] [] [], .call 228 [.lst [.con (.int 0)], .con (.int 1), .con (.int 65)] [] [], .call 228 [.lst [.con (.int 0)], .con (.int 9), .con (.int 64)] [] []]),
    .ret (.and (.cmp .Eq (.var 4) (.lst [.lst [.con (.int 1), .con (.int 1), .con (.int 2), .con (.int 2)], .con (.int 3), .con .non, .con (.int 1), .con .non, .con (.int 64)])) (.cmp .Eq (.call 227 [.lst [.con (.int 0), .bin .Pow (.con (.int 2)) (.con (.int 63))], .con (.int 9)] [] []) (.lst [.con (.int 1), .con (.int 64)])))]
def d_law_v17 : Df := { modes := [false], names := 5, body := s_law_v17 }
section
variable {Pg : Nat → Option Df} {fuel k f : Nat} {C : Cf}
structure L17 (Pg : Nat → Option Df) : Prop extends GB Pg where
  h2 : Pg 2 = some d_check_number
  h7 : Pg 7 = some d_items_counted
  h19 : Pg 19 = some d_check_code
  h211 : Pg 211 = some d_size_power
  h212 : Pg 212 = some d_item_count
  h213 : Pg 213 = some d_how_many_codewords
  h226 : Pg 226 = some d_check_any_places
  h227 : Pg 227 = some d_item_widths
  h228 : Pg 228 = some d_width_for
  h32 : Pg 32 = some d__law_hash
  h184 : Pg 184 = some d__law_random_v1
  h34 : Pg 34 = some d__law_cell
  h35 : Pg 35 = some d__law_generator
  h185 : Pg 185 = some d__law_two
  h186 : Pg 186 = some d__law_places_v2
  h79 : Pg 79 = some d__law_twos_v1
  h187 : Pg 187 = some d__law_good_v1
  h229 : Pg 229 = some d__law_bits
  h230 : Pg 230 = some d__law_right_v10
theorem PlW.mono {w w' : Nat} {ps : List Int} (h : PlW w ps) (l : w ≤ w') : PlW w' ps := ⟨h.1, h.2.1, fun x hx => by
  have a := h.2.2 x hx
  have b := Nat.pow_le_pow_right (n := 2) (by omega) l
  have e1 : ((2 ^ w : Nat) : Int) = 2 ^ w := by simp
  have e2 : ((2 ^ w' : Nat) : Int) = 2 ^ w' := by simp
  omega⟩
theorem last_ge {ps : List Int} (s : ps.Pairwise (· < ·)) : ∀ x ∈ ps, x ≤ lastI ps := by
  induction ps with
  | nil => intro x h; cases h
  | cons y l ih =>
    obtain ⟨s1, s2⟩ := List.pairwise_cons.mp s
    intro x hx
    cases l with
    | nil =>
      simp at hx
      subst hx
      exact Int.le_refl _
    | cons z l =>
      have e : lastI (y :: z :: l) = lastI (z :: l) := by simp [lastI, List.getLastD]
      rw [e]
      rcases List.mem_cons.mp hx with rfl | hx
      · exact Int.le_trans (Int.le_of_lt (s1 z List.mem_cons_self)) (ih s2 z List.mem_cons_self)
      · exact ih s2 x hx
theorem topw_plw {ps : List Int} (h : PlW 64 ps) : PlW (topw ps) ps ∧ 1 ≤ topw ps ∧ topw ps ≤ 64 := by
  have mem : lastI ps ∈ ps := by
    cases ps with
    | nil => exact absurd rfl h.1
    | cons x l => simp [lastI, List.getLastD]
  have lb := h.2.2 _ mem
  have p64 : (2 : Int) ^ 64 = 18446744073709551616 := by decide
  have ib := ib_le (x := lastI ps) (n := 64) (by omega)
  have lt : lastI ps < 2 ^ topw ps := by
    have e1 : ((2 ^ topw ps : Nat) : Int) = 2 ^ topw ps := by simp
    rcases Nat.eq_zero_or_pos (lastI ps).natAbs with z | z
    · have : 0 < 2 ^ topw ps := Nat.pow_pos (by decide)
      omega
    · have h1 := (Nat.log2_lt (n := (lastI ps).natAbs) (k := (lastI ps).natAbs.log2 + 1) (by omega)).mp (Nat.lt_succ_self _)
      have h2 : (lastI ps).natAbs.log2 + 1 ≤ topw ps := by
        unfold topw PySem.Builtin.Int.intBits
        rw [if_neg (by simp; omega)]
        omega
      have := Nat.pow_le_pow_right (n := 2) (by omega) h2
      omega
  refine ⟨⟨h.1, h.2.1, fun x hx => ?_⟩, by unfold topw; omega, by unfold topw; omega⟩
  have a := h.2.2 x hx
  have b := last_ge h.2.1 x hx
  omega
theorem wt_il (l : List Int) (h : ∀ x ∈ l, x.natAbs < 10 ^ 100) : PySem.PyData.weight (pyT (il l)) ≤ 401 * l.length := by
  simp only [pyT, PySem.PyData.weight]
  induction l with
  | nil => simp [pyTs, PySem.PyData.weightAll]
  | cons x l ih =>
    have := ih fun y hy => h y (List.mem_cons_of_mem _ hy)
    have hx := h x List.mem_cons_self
    simp only [List.map_cons, pyTs, PySem.PyData.weightAll, pyT, PySem.PyData.weight, List.length_cons]
    have : (if (x == 0) = true then 0 else x.natAbs.log2 + 1) ≤ 400 := by
      split
      · omega
      · rename_i c
        have hx0 : x ≠ 0 := by simpa using c
        have a : (10 : Nat) ^ 100 ≤ 2 ^ 350 := by decide +kernel
        have := (Nat.log2_lt (n := x.natAbs) (k := 350) (by omega)).mpr (by omega)
        omega
    omega
theorem plns_il (l : List Int) (h : ∀ x ∈ l, x.natAbs < 10 ^ 100) : plns 100 (l.map D.int) = true := by
  induction l with
  | nil => rfl
  | cons x l ih =>
    simp only [List.map_cons, plns, pln, Bool.and_eq_true, decide_eq_true_eq]
    exact ⟨h x List.mem_cons_self, ih fun y hy => h y (List.mem_cons_of_mem _ hy)⟩
theorem repr_il {l : List Int} (hl : l.length ≤ 100) (h : ∀ x ∈ l, x.natAbs < 10 ^ 100) : ∃ z, biD .repr [il l] = some (.sh (.str z)) ∧ cmpD .NotEq (.str z) (.str z) = some false ∧ cmpD .Eq (.str z) (.str z) = some true := by
  have p : pln 100 (il l) = true := by simp only [pln]; exact plns_il l h
  refine ⟨_, bi_repr_of 100 (by decide) (by decide) p (by simp [dep, deps_il]) ?_, str_same (cps_shown 100 _ p)⟩
  have := wt_il l h
  omega
theorem repr_opt (x : Option Nat) (h : ∀ n, x = some n → n < 1000) : ∃ z, biD .repr [optD x] = some (.sh (.str z)) ∧ cmpD .NotEq (.str z) (.str z) = some false := by
  have p : pln 100 (optD x) = true := by
    cases x with
    | none => rfl
    | some n =>
      have := h n rfl
      have : (1000 : Nat) < 10 ^ 100 := by decide +kernel
      simp only [optD, pln, decide_eq_true_eq]
      omega
  refine ⟨_, bi_repr_of 100 (by decide) (by decide) p (by cases x <;> simp [optD, dep]) ?_, repr_same 100 p⟩
  cases x with
  | none => decide
  | some n =>
    have := h n rfl
    simp only [optD, pyT, PySem.PyData.weight]
    have : (if ((n : Int) == 0) = true then 0 else ((n : Int)).natAbs.log2 + 1) ≤ 400 := by
      split
      · omega
      · rename_i c
        have hx0 : (n : Int) ≠ 0 := by simpa using c
        have := (Nat.log2_lt (n := (n : Int).natAbs) (k := 350) (by omega)).mpr (by
          have : (1000 : Nat) < 2 ^ 350 := by decide +kernel
          omega)
        omega
    omega
@[simp high] theorem q_lst6 {C : Cf} {r : En} {a b c d e f : E} : ev C (.lst [a, b, c, d, e, f]) r = (evs C [a, b, c, d, e, f] r).bind fun ds r1 => .ok (.ow (.lst ds)) r1 := q_lstS (by simp)
/-- the sizes at all widths -/
def pws (F : Nat) (N : List Int) (c : Nat) : List Int := (List.range' F (65 - F)).map fun (x : Nat) => szp x N c
theorem pws_get (F : Nat) (N : List Int) (c i : Nat) (h : F + i ≤ 64) : idxD (il (pws F N c)) (.int i) = some (.int (szp ((F + i : Nat) : Int) N c)) := by
  have := at_il (pws F N c) i (by simp [pws]; omega)
  rw [show (pws F N c)[i]'(by simp [pws]; omega) = szp ((F + i : Nat) : Int) N c by simp [pws]] at this
  exact this
end
abbrev W17 : List S := [.ite (.val (.chn .LtE .LtE (.var 3) (.var 7) (.con (.int 64)))) [.ite (.val (.cmp .NotEq (.call 212 [.var 7, .var 1, .var 2] [] []) (.bi .len [.lc (.var 13) (.v 13) (.e (.var 4)) [.val (.cmp .LtE (.var 13) (.var 7))] [13]]))) [.ret (.con (.bl false))] []] [],
    .ite (.val (.chn .LtE .Lt (.var 3) (.var 7) (.con (.int 64)))) [.asg (.v 8) (.bi .len [.lc (.var 13) (.v 13) (.e (.var 4)) [.val (.cmp .LtE (.var 13) (.bin .Add (.var 7) (.con (.int 1))))] [13]]),
    .ite (.val (.cmp .NotEq (.call 213 [.bin .Add (.var 7) (.con (.int 1)), .var 1, .var 2] [] []) (.bin .Mult (.call 213 [.var 7, .var 1, .var 2] [] []) (.call 185 [.var 8] [] [])))) [.ret (.con (.bl false))] []] []]
theorem w17_a {Pg : Nat → Option Df} {fuel k : Nat} (h212 : Pg 212 = some d_item_count) (h213 : Pg 213 = some d_how_many_codewords) (h185 : Pg 185 = some d__law_two) (g6 : D) (pl due D1 D2 : List D) (c F x n1 n2 : Nat) (y7 y8 : Sl) (A1 A2 : Int) (h7 : Pn y7) (h8 : Pn y8) (hF : F ≤ x) (hx : x < 64)
    (i1 : callD Pg fuel k 212 [.int x, .lst pl, .int c] = .ok (.sh (.int n1)) []) (b1 : ev (Cz Pg fuel k) (.lc (.var 13) (.v 13) (.e (.var 4)) [.val (.cmp .LtE (.var 13) (.var 7))] [13]) [.io g6, .ow (.lst pl), .sh (.int c), .sh (.int F), .ow (.lst due), .sh (.lst pl), .ow (.lst due), .sh (.int x), y8, .no, .no, .no, .no, .no, .no, .no] =
        .ok (.ow (.lst D1)) [.io g6, .ow (.lst pl), .sh (.int c), .sh (.int F), .ow (.lst due), .sh (.lst pl), .ow (.lst due), .sh (.int x), y8, .no, .no, .no, .no, .no, .no, .no]) (l1 : D1.length = n1)
    (b2 : ev (Cz Pg fuel k) (.lc (.var 13) (.v 13) (.e (.var 4)) [.val (.cmp .LtE (.var 13) (.bin .Add (.var 7) (.con (.int 1))))] [13]) [.io g6, .ow (.lst pl), .sh (.int c), .sh (.int F), .ow (.lst due), .sh (.lst pl), .ow (.lst due), .sh (.int x), y8, .no, .no, .no, .no, .no, .no, .no] =
        .ok (.ow (.lst D2)) [.io g6, .ow (.lst pl), .sh (.int c), .sh (.int F), .ow (.lst due), .sh (.lst pl), .ow (.lst due), .sh (.int x), y8, .no, .no, .no, .no, .no, .no, .no]) (l2 : D2.length = n2)
    (i2 : callD Pg fuel k 213 [.int x, .lst pl, .int c] = .ok (.sh (.int A1)) []) (i3 : callD Pg fuel k 213 [.int ((x : Int) + 1), .lst pl, .int c] = .ok (.sh (.int (A1 * A2))) []) (i4 : callD Pg fuel k 185 [.int n2] = .ok (.sh (.int A2)) []) (em : binI .Mult A1 A2 = some (A1 * A2)) :
    ((O.of (bindT (.v 7) (.int x) [.io g6, .ow (.lst pl), .sh (.int c), .sh (.int F), .ow (.lst due), .sh (.lst pl), .ow (.lst due), y7, y8, .no, .no, .no, .no, .no, .no, .no])).then fun r3 => xs (Cz Pg fuel k) W17 r3) =
      .nx [.io g6, .ow (.lst pl), .sh (.int c), .sh (.int F), .ow (.lst due), .sh (.lst pl), .ow (.lst due), .sh (.int x), .sh (.int n2), .no, .no, .no, .no, .no, .no, .no] := by
  have fx : (F : Int) ≤ x := by omega
  have cl : (x : Int) ≤ 64 := by omega
  have cl2 : (x : Int) < 64 := by omega
  rcases h7 with rfl | ⟨d, rfl⟩ <;> rcases h8 with rfl | ⟨d', rfl⟩ <;> simp [bindT, fx, cl, cl2, h212, d_item_count, i1, b1, l1, b2, l2, h213, d_how_many_codewords, i2, i3, h185, d__law_two, i4, em]
theorem w17_b {Pg : Nat → Option Df} {fuel k : Nat} (h212 : Pg 212 = some d_item_count) (g6 : D) (pl due D1 : List D) (c F x n1 : Nat) (y7 y8 : Sl) (h7 : Pn y7) (h8 : Pn y8) (hF : F ≤ x) (hx : x ≤ 64) (hx2 : ¬ x < 64)
    (i1 : callD Pg fuel k 212 [.int x, .lst pl, .int c] = .ok (.sh (.int n1)) []) (b1 : ev (Cz Pg fuel k) (.lc (.var 13) (.v 13) (.e (.var 4)) [.val (.cmp .LtE (.var 13) (.var 7))] [13]) [.io g6, .ow (.lst pl), .sh (.int c), .sh (.int F), .ow (.lst due), .sh (.lst pl), .ow (.lst due), .sh (.int x), y8, .no, .no, .no, .no, .no, .no, .no] =
        .ok (.ow (.lst D1)) [.io g6, .ow (.lst pl), .sh (.int c), .sh (.int F), .ow (.lst due), .sh (.lst pl), .ow (.lst due), .sh (.int x), y8, .no, .no, .no, .no, .no, .no, .no]) (l1 : D1.length = n1) :
    ((O.of (bindT (.v 7) (.int x) [.io g6, .ow (.lst pl), .sh (.int c), .sh (.int F), .ow (.lst due), .sh (.lst pl), .ow (.lst due), y7, y8, .no, .no, .no, .no, .no, .no, .no])).then fun r3 => xs (Cz Pg fuel k) W17 r3) =
      .nx [.io g6, .ow (.lst pl), .sh (.int c), .sh (.int F), .ow (.lst due), .sh (.lst pl), .ow (.lst due), .sh (.int x), y8, .no, .no, .no, .no, .no, .no, .no] := by
  have fx : (F : Int) ≤ x := by omega
  have cl : (x : Int) ≤ 64 := by omega
  have cl2 : ¬ (x : Int) < 64 := by omega
  rcases h7 with rfl | ⟨d, rfl⟩ <;> rcases h8 with rfl | ⟨d', rfl⟩ <;> simp [bindT, fx, cl, cl2, h212, d_item_count, i1, b1, l1]
theorem w17_c {C : Cf} (g6 : D) (pl due : List D) (c F x : Nat) (y7 y8 : Sl) (h7 : Pn y7) (h8 : Pn y8) (hF : F ≤ x) (hx2 : ¬ x ≤ 64) :
    ((O.of (bindT (.v 7) (.int x) [.io g6, .ow (.lst pl), .sh (.int c), .sh (.int F), .ow (.lst due), .sh (.lst pl), .ow (.lst due), y7, y8, .no, .no, .no, .no, .no, .no, .no])).then fun r3 => xs C W17 r3) =
      .nx [.io g6, .ow (.lst pl), .sh (.int c), .sh (.int F), .ow (.lst due), .sh (.lst pl), .ow (.lst due), .sh (.int x), y8, .no, .no, .no, .no, .no, .no, .no] := by
  have fx : (F : Int) ≤ x := by omega
  have cl : ¬ (x : Int) ≤ 64 := by omega
  have cl2 : ¬ (x : Int) < 64 := by omega
  rcases h7 with rfl | ⟨d, rfl⟩ <;> rcases h8 with rfl | ⟨d', rfl⟩ <;> simp [bindT, fx, cl, cl2]
abbrev R17 : List S := [.asg (.v 11) (.lc (.bin .Add (.var 3) (.var 14)) (.t [.v 14, .v 15]) (.enm (.var 9)) [.val (.cmp .GtE (.var 15) (.var 10))] [14, 15]),
    .ite (.val (.cmp .NotEq (.bi .repr [.call 228 [.var 5, .var 2, .var 10] [] []]) (.bi .repr [.ite (.val (.cmp .NotEq (.var 11) (.lst []))) (.idx (.var 11) (.con (.int 0))) (.con .non)]))) [.ret (.con (.bl false))] []]
theorem r17 {Pg : Nat → Option Df} {fuel k : Nat} (h228 : Pg 228 = some d_width_for) (g8 : D) (pl due pw X : List D) (c F : Nat) (q : Int) (u : D) (z : PySem.Str) (y7 y8 y10 y11 : Sl) (h10 : Pn y10) (h11 : y11 = .no ∨ ∃ l : List D, y11 = .ow (.lst l))
    (L1 : ev (Cz Pg fuel k) (.lc (.bin .Add (.var 3) (.var 14)) (.t [.v 14, .v 15]) (.enm (.var 9)) [.val (.cmp .GtE (.var 15) (.var 10))] [14, 15]) [.io g8, .ow (.lst pl), .sh (.int c), .sh (.int F), .ow (.lst due), .sh (.lst pl), .ow (.lst due), y7, y8, .ow (.lst pw), .sh (.int q), y11, .no, .no, .no, .no] =
          .ok (.ow (.lst X)) [.io g8, .ow (.lst pl), .sh (.int c), .sh (.int F), .ow (.lst due), .sh (.lst pl), .ow (.lst due), y7, y8, .ow (.lst pw), .sh (.int q), y11, .no, .no, .no, .no])
    (w1 : callD Pg fuel k 228 [.lst pl, .int c, .int q] = .ok (.sh u) []) (fu : flat u = true) (z1 : biD .repr [u] = some (.sh (.str z))) (z2 : cmpD .NotEq (.str z) (.str z) = some false) (nn : cmpD .NotEq (.lst X) (.lst []) = some (!X.isEmpty)) (hX : (X = [] ∧ u = .non) ∨ ∃ Y, X = u :: Y) :
    ((O.of (bindT (.v 10) (.int q) [.io g8, .ow (.lst pl), .sh (.int c), .sh (.int F), .ow (.lst due), .sh (.lst pl), .ow (.lst due), y7, y8, .ow (.lst pw), y10, y11, .no, .no, .no, .no])).then fun r3 => xs (Cz Pg fuel k) R17 r3) =
      .nx [.io g8, .ow (.lst pl), .sh (.int c), .sh (.int F), .ow (.lst due), .sh (.lst pl), .ow (.lst due), y7, y8, .ow (.lst pw), .sh (.int q), .ow (.lst X), .no, .no, .no, .no] := by
  rcases hX with ⟨rfl, rfl⟩ | ⟨Y, rfl⟩
  · rcases h10 with rfl | ⟨d, rfl⟩ <;> rcases h11 with rfl | ⟨l, rfl⟩ <;> simp [bindT, L1, h228, d_width_for, w1, z1, nn, z2]
  · rcases h10 with rfl | ⟨d, rfl⟩ <;> rcases h11 with rfl | ⟨l, rfl⟩ <;> simp [bindT, L1, h228, d_width_for, w1, fu, z1, nn, idxD, atL, ixN, z2]
end Z
/-! YY: the law of every width: its walk. -/
namespace Z
open PySem (Str Operator CmpOp)
section
variable {Pg : Nat → Option Df} {fuel k f : Nat} {C : Cf}
set_option maxHeartbeats 8000000 in
theorem m_right17 (G : L17 Pg) (hf : 1000 ≤ fuel) (m : Nat) (hm : m ≤ 700000) (g : D) (hg : Gd m g) : ∃ g', shal g' = true ∧ callD Pg fuel (k + 10) 230 [g] = .ok (.sh (.bl true)) [g'] := by
  rw [callD_eq G.h230 ⟨rfl, Nat.le_of_ble_eq_true rfl⟩]
  obtain ⟨v1, g1, hv1, hg1, e1⟩ := m_random (fuel := fuel) (k := k + 7) G.h32 G.h184 m (by omega) g hg 10 (by decide)
  obtain ⟨v2, g2, hv2, hg2, e2⟩ := m_random (fuel := fuel) (k := k + 7) G.h32 G.h184 (m + 3) (by omega) g1 hg1 60 (by decide)
  obtain ⟨v3, g3, hv3, hg3, e3⟩ := m_random (fuel := fuel) (k := k + 7) G.h32 G.h184 (m + 6) (by omega) g2 hg2 2 (by decide)
  obtain ⟨w0, ew, hw0⟩ : ∃ w : Nat, idxD (.lst [.int (1 + v1), .int (1 + v2)]) (.int v3) = some (.int w) ∧ 1 ≤ w ∧ w ≤ 60 := by
    rcases (by omega : v3 = 0 ∨ v3 = 1) with rfl | rfl
    · refine ⟨(1 + v1).toNat, ?_, by omega⟩
      rw [show (((1 + v1).toNat : Nat) : Int) = 1 + v1 by omega]
      rfl
    · refine ⟨(1 + v2).toNat, ?_, by omega⟩
      rw [show (((1 + v2).toNat : Nat) : Int) = 1 + v2 by omega]
      rfl
  obtain ⟨ps, g4, hp, hg4, e4⟩ := m_places2 (fuel := fuel) (k := k + 6) G.h32 G.h184 G.h185 G.h186 (m + 9) (by omega) g3 hg3 w0 (by omega) 7 (by omega)
  rw [show ((7 : Nat) : Int) = 7 from rfl] at e4
  have l7 := hp.2.1
  have p64 : PlW 64 ps := hp.plW.mono (by omega)
  obtain ⟨pF, F1, F2⟩ := topw_plw p64
  obtain ⟨v5, g5, hv5, hg5, e5⟩ := m_random (fuel := fuel) (k := k + 7) G.h32 G.h184 (m + 9 + 3 + 3 * 7) (by omega) g4 hg4 ((ps.length : Int) + 2) (by omega)
  obtain ⟨c, rfl⟩ : ∃ c : Nat, v5 = c := ⟨v5.toNat, by omega⟩
  have e6 := m_bits (fuel := fuel) (k := k + 7) G.h185 G.h229 hf ps p64.1 (by
    have mem : lastI ps ∈ ps := by
      cases hps : ps with
      | nil => exact absurd hps p64.1
      | cons x l => simp [lastI, List.getLastD]
    have := p64.2.2 _ mem
    omega)
  have nb := nums_br p64.wi
  have e7 := m_good1 (fuel := fuel) (k := k + 7) G.h79 G.h187 hf ps (by omega) p64.1 p64.wi.1 (fun p hp q hq => p64.near (by omega) q hq p hp)
  have e8 := m_item_widths (fuel := fuel) (k := k + 2) G.toGB G.h2 G.h226 G.h227 hf ps (by omega) p64 (c : Int) (by omega)
  rw [Int.toNat_natCast, ← nb] at e8
  have wf : ∀ q : Int, 0 ≤ q → callD Pg fuel (k + 9) 228 [il ps, .int c, .int q] = .ok (.sh (optD ((List.range' (topw ps) (65 - topw ps)).find? (wq q (nums ps) c)))) [] := by
    intro q hq
    have := m_width_for (fuel := fuel) (k := k + 2) G.toGB G.h2 G.h7 G.h211 G.h226 G.h228 hf ps (by omega) p64 (c : Int) q (by omega) hq
    rw [Int.toNat_natCast, ← nb] at this
    exact this
  have ic : ∀ x : Nat, topw ps ≤ x → x ≤ 64 → callD Pg fuel (k + 9) 212 [.int x, il ps, .int c] = .ok (.sh (.int (cnt_w x (nums ps) c).length)) [] := by
    intro x h1 h2
    have px := pF.mono h1
    have := m_item_count (fuel := fuel) (k := k + 2) G.toGB G.h2 G.h7 G.h19 G.h212 x (by omega) hf ps (by omega) px (c : Int) (by omega)
    rw [Int.toNat_natCast, ← nums_br px.wi] at this
    exact this
  generalize gN : nums ps = N at *
  have Nlen : N.length = ps.length := by rw [nb]; exact br_len _ _
  have Nsort : N.Pairwise (· ≤ ·) := by rw [nb]; exact br_sorted _ _
  have Npos : ∀ x ∈ N, 0 ≤ x := by rw [nb]; exact br_nonneg _ _
  have Nbig : ∀ x ∈ N, x ≤ 10000 := by
    intro x hx
    have le : ∀ l : List Int, (∀ y ∈ l, 0 ≤ y) → 0 ≤ l.sum ∧ ∀ x ∈ l, x ≤ l.sum := by
      intro l
      induction l with
      | nil => exact fun _ => ⟨Int.le_refl _, fun x h => by cases h⟩
      | cons y l ih =>
        intro hp
        have a := hp y List.mem_cons_self
        obtain ⟨s, q⟩ := ih fun z hz => hp z (List.mem_cons_of_mem _ hz)
        rw [List.sum_cons]
        refine ⟨by omega, fun x hm => ?_⟩
        rcases List.mem_cons.mp hm with rfl | hm
        · omega
        · have := q x hm
          omega
    have := (le N Npos).2 x hx
    have tot : N.sum = at2 ps := by rw [← gN]; exact nums_all ps
    have a2 := at2_le ps (p64.near (by omega))
    have a3 : 64 * ps.length * ps.length ≤ 64 * 7 * 7 := Nat.mul_le_mul (Nat.mul_le_mul_left _ l7) l7
    omega
  have szN : ∀ x : Nat, x ≤ 65 → 0 ≤ szp x N c ∧ szp x N c ≤ 1000 := by
    intro x hx
    rw [szp_max Nsort]
    refine ⟨max_sum_nonneg _ _, ?_⟩
    have := max_sum_le x (N.take c) fun y hy => Npos y (List.mem_of_mem_take hy)
    have l : (N.take c).length ≤ 7 := by simp; omega
    have : (x : Int) * (N.take c).length ≤ 65 * 7 := Int.mul_le_mul (by omega) (by omega) (by omega) (by omega)
    omega
  have hmc : ∀ x : Nat, topw ps ≤ x → x ≤ 64 → callD Pg fuel (k + 9) 213 [.int x, il ps, .int c] = .ok (.sh (.int (2 ^ (szp x N c).toNat))) [] := by
    intro x h1 h2
    have px := pF.mono h1
    have s := szN x (by omega)
    have nx := nums_br px.wi
    rw [gN] at nx
    have := m_how_many (fuel := fuel) (k := k + 2) G.toGB G.h2 G.h7 G.h19 G.h211 G.h213 x (by omega) hf ps (by omega) px (c : Int) (by omega) (by rw [Int.toNat_natCast, ← nx]; omega)
    rw [Int.toNat_natCast, ← nx] at this
    exact this
  obtain ⟨due, hdue⟩ : ∃ d : List Int, (N.take c).map (· + 1) = d := ⟨_, rfl⟩
  rw [hdue] at e8
  have dlen : due.length ≤ 7 := by rw [← hdue]; simp; omega
  have dbig : ∀ x ∈ due, x.natAbs < 10 ^ 100 := by
    intro x hx
    rw [← hdue] at hx
    obtain ⟨y, hy, rfl⟩ := List.mem_map.mp hx
    have a := Nbig y (List.mem_of_mem_take hy)
    have b := Npos y (List.mem_of_mem_take hy)
    have : (20000 : Nat) < 10 ^ 100 := by decide +kernel
    omega
  obtain ⟨zd, rd1, rd2, rd3⟩ := repr_il (by omega) dbig
  generalize gF : topw ps = F at *
  have A : ev (Cz Pg fuel (k + 9)) (.lc (.bin .Add (.var 12) (.con (.int 1))) (.v 12) (.e (.slc (.idx (.call 187 [.var 1] [] []) (.con (.int 1))) (.con .non) (.var 2))) [] [12]) [.io g5, .ow (il ps), .sh (.int c), .sh (.int F), .no, .no, .no, .no, .no, .no, .no, .no, .no, .no, .no, .no] =
      .ok (.ow (il due)) [.io g5, .ow (il ps), .sh (.int c), .sh (.int F), .no, .no, .no, .no, .no, .no, .no, .no, .no, .no, .no, .no] := by
    rw [lc_run (r1 := [.io g5, .sh (il ps), .sh (.int c), .sh (.int F), .no, .no, .no, .no, .no, .no, .no, .no, .no, .no, .no, .no]) (l := (N.take c).map .int) (fun d => match d with | D.int n => some (D.int (n + 1)) | _ => none)]
    · have q : List.filterMap (fun d => match d with | D.int n => some (D.int (n + 1)) | _ => none) ((N.take c).map D.int) = due.map .int := by
        rw [← hdue]
        generalize N.take c = X
        induction X with
        | nil => rfl
        | cons x l ih => simp only [List.map_cons, List.filterMap_cons, ih]
      rw [q]
      simp only [thawL, flat_il, if_true]
      simp [thw, thw1, flat_il, hg5.shal]
    · have ec := cut_take N c
      generalize N.take c = X at *
      simp [G.h187, d__law_good_v1, e7, idxD, atL, ixN, por, isNon, slcD, part?, ec, itemsD]
    · rfl
    · rfl
    · exact line_le (by simp; omega)
    · intro x hx
      obtain ⟨n, hn, rfl⟩ := List.mem_map.mp hx
      refine ⟨[.io g5, .sh (il ps), .sh (.int c), .sh (.int F), .no, .no, .no, .no, .no, .no, .no, .no, .sh (.int n), .no, .no, .no], ?_, rfl⟩
      simp [lcF, wip, bindT]
  -- how many items count
  have B : ∀ (g6 : D), shal g6 = true → ∀ (x : Int) (b : E) (y : Int) (y8 : Sl), Pn y8 → (∀ (y13 : Sl), bor b (fun r => ev (Cz Pg fuel (k + 9)) b r) [.io g6, .ow (il ps), .sh (.int c), .sh (.int F), .sh (il due), .sh (il ps), .ow (il due), .sh (.int x), y8, .no, .no, .no, .no, y13, .no, .no] = .ok (.inr (.int y)) [.io g6, .ow (il ps), .sh (.int c), .sh (.int F), .sh (il due), .sh (il ps), .ow (il due), .sh (.int x), y8, .no, .no, .no, .no, y13, .no, .no] ∨ (b = .var 7 ∧ y = x)) →
      ev (Cz Pg fuel (k + 9)) (.lc (.var 13) (.v 13) (.e (.var 4)) [.val (.cmp .LtE (.var 13) b)] [13]) [.io g6, .ow (il ps), .sh (.int c), .sh (.int F), .ow (il due), .sh (il ps), .ow (il due), .sh (.int x), y8, .no, .no, .no, .no, .no, .no, .no] =
        .ok (.ow (il (due.filter fun d => decide (d ≤ y)))) [.io g6, .ow (il ps), .sh (.int c), .sh (.int F), .ow (il due), .sh (il ps), .ow (il due), .sh (.int x), y8, .no, .no, .no, .no, .no, .no, .no] := by
    intro g6 hg6 x b y y8 h8 hb
    rw [lc_run (r1 := [.io g6, .ow (il ps), .sh (.int c), .sh (.int F), .sh (il due), .sh (il ps), .ow (il due), .sh (.int x), y8, .no, .no, .no, .no, .no, .no, .no]) (l := due.map .int) (fun d => match d with | D.int n => if decide (n ≤ y) = true then some (D.int n) else none | _ => none)]
    · refine Eq.trans (congrArg (fun l => thawL _ l _) (filt_run (fun n => decide (n ≤ y)) due)) ?_
      simp only [thawL, flat_il, if_true]
      rcases h8 with rfl | ⟨d, rfl⟩ <;> simp [thw, thw1, flat_il, hg6] <;> exact fun _ _ => rfl
    · simp [itemsD]
    · rcases h8 with rfl | ⟨d, rfl⟩ <;> rfl
    · rfl
    · exact line_le (by simp; omega)
    · intro z hz
      obtain ⟨n, hn, rfl⟩ := List.mem_map.mp hz
      refine ⟨[.io g6, .ow (il ps), .sh (.int c), .sh (.int F), .sh (il due), .sh (il ps), .ow (il due), .sh (.int x), y8, .no, .no, .no, .no, .sh (.int n), .no, .no], ?_, rfl⟩
      rcases hb (.sh (.int n)) with hb | ⟨rfl, rfl⟩
      · by_cases q : n ≤ y
        · simp [lcF, wip, bindT, hb, q]
        · simp [lcF, wip, bindT, hb, q]
      · by_cases q : n ≤ y
        · simp [lcF, wip, bindT, q]
        · simp [lcF, wip, bindT, q]
  have cntd : ∀ x : Int, (due.filter fun d => decide (d ≤ x)).length = (cnt_w x N c).length := by
    intro x
    rw [← hdue]
    unfold cnt_w
    rw [List.filter_map, List.length_map]
    rfl
  -- the widths one by one
  obtain ⟨v6, g6, hv6, hg6, e9⟩ := m_random (fuel := fuel) (k := k + 7) G.h32 G.h184 (m + 9 + 3 + 3 * 7 + 3) (by omega) g5 hg5 (65 - (F : Int)) (by omega)
  obtain ⟨v, rfl⟩ : ∃ v : Nat, v6 = v := ⟨v6.toNat, by omega⟩
  have F6 := for_run (C := Cz Pg fuel (k + 9)) (t := .v 7) (it := .e (.lst [.var 3, .bin .Add (.var 3) (.con (.int 1)), .bin .Add (.var 3) (.call 184 [.var 0, .bin .Sub (.con (.int 65)) (.var 3)] [] []), .con (.int 64)])) (body := [.ite (.val (.chn .LtE .LtE (.var 3) (.var 7) (.con (.int 64)))) [.ite (.val (.cmp .NotEq (.call 212 [.var 7, .var 1, .var 2] [] []) (.bi .len [.lc (.var 13) (.v 13) (.e (.var 4)) [.val (.cmp .LtE (.var 13) (.var 7))] [13]]))) [.ret (.con (.bl false))] []] [],
    .ite (.val (.chn .LtE .Lt (.var 3) (.var 7) (.con (.int 64)))) [.asg (.v 8) (.bi .len [.lc (.var 13) (.v 13) (.e (.var 4)) [.val (.cmp .LtE (.var 13) (.bin .Add (.var 7) (.con (.int 1))))] [13]]),
    .ite (.val (.cmp .NotEq (.call 213 [.bin .Add (.var 7) (.con (.int 1)), .var 1, .var 2] [] []) (.bin .Mult (.call 213 [.var 7, .var 1, .var 2] [] []) (.call 185 [.var 8] [] [])))) [.ret (.con (.bl false))] []] []])
    (r := [.io g5, .ow (il ps), .sh (.int c), .sh (.int F), .ow (il due), .sh (il ps), .ow (il due), .no, .no, .no, .no, .no, .no, .no, .no, .no]) (r1 := [.io g6, .ow (il ps), .sh (.int c), .sh (.int F), .ow (il due), .sh (il ps), .ow (il due), .no, .no, .no, .no, .no, .no, .no, .no, .no])
    (l := [.int F, .int ((F + 1 : Nat) : Int), .int ((F + v : Nat) : Int), .int ((64 : Nat) : Int)])
    (fun _ r => ∃ y7 y8, r = [.io g6, .ow (il ps), .sh (.int c), .sh (.int F), .ow (il due), .sh (il ps), .ow (il due), y7, y8, .no, .no, .no, .no, .no, .no, .no] ∧ Pn y7 ∧ Pn y8) (by
      simp [G.h184, d__law_random_v1, e9, hg6.shal, itemsD]) (by
      intro j hj r hr
      obtain ⟨y7, y8, rfl, h7, h8⟩ := hr
      obtain ⟨x, hx, hx0⟩ : ∃ x : Nat, [D.int F, .int ((F + 1 : Nat) : Int), .int ((F + v : Nat) : Int), .int ((64 : Nat) : Int)][j] = .int x ∧ F ≤ x := by
        have hj : j < 4 := hj
        match j, hj with
        | 0, _ => exact ⟨F, rfl, Nat.le_refl _⟩
        | 1, _ => exact ⟨F + 1, rfl, by omega⟩
        | 2, _ => exact ⟨F + v, rfl, by omega⟩
        | 3, _ => exact ⟨64, rfl, F2⟩
      rw [hx]
      have b1 := B g6 hg6.shal (x : Int) (.var 7) (x : Int) y8 h8 (fun _ => .inr ⟨rfl, rfl⟩)
      have b2 := B g6 hg6.shal (x : Int) (.bin .Add (.var 7) (.con (.int 1))) ((x : Int) + 1) y8 h8 (fun y13 => .inl (by simp))
      have c1 := cntd x
      have c2 := cntd ((x : Int) + 1)
      have fx : (F : Int) ≤ x := by omega
      by_cases c64 : x < 64
      · have i1 := ic x hx0 (by omega)
        have i2 := hmc x hx0 (by omega)
        have i3 := hmc (x + 1) (by omega) (by omega)
        rw [show ((x + 1 : Nat) : Int) = (x : Int) + 1 from rfl] at i3
        have lw : (cnt_w ((x : Int) + 1) N c).length ≤ 7 := by
          rw [← c2]
          exact Nat.le_trans (List.length_filter_le _ _) dlen
        have i4 := m_two (fuel := fuel) (k := k + 8) G.h185 (cnt_w ((x : Int) + 1) N c).length (by omega)
        have st : szp ((x : Int) + 1) N c = szp x N c + ((cnt_w ((x : Int) + 1) N c).length : Int) := by
          rw [szp_max Nsort, szp_max Nsort, max_sum_step]
          rfl
        have z1 := szN x (by omega)
        have pe : (szp ((x : Int) + 1) N c).toNat = (szp x N c).toNat + (cnt_w ((x : Int) + 1) N c).length := by omega
        rw [pe, Int.pow_add] at i3
        have em : binI .Mult ((2 : Int) ^ (szp x N c).toNat) (2 ^ (cnt_w ((x : Int) + 1) N c).length) = some (2 ^ (szp x N c).toNat * 2 ^ (cnt_w ((x : Int) + 1) N c).length) := by
          refine bI_mul ((szp x N c).toNat + 1) ((cnt_w ((x : Int) + 1) N c).length + 1) ?_ ?_ (by omega)
          · rw [Int.natAbs_pow]; exact Nat.pow_lt_pow_right (by decide) (by omega)
          · rw [Int.natAbs_pow]; exact Nat.pow_lt_pow_right (by decide) (by omega)
        exact ⟨_, w17_a G.h212 G.h213 G.h185 g6 _ _ _ _ c F x _ _ y7 y8 _ _ h7 h8 hx0 c64 i1 b1 (by rw [List.length_map]; exact c1) b2 (by rw [List.length_map]; exact c2) i2 i3 i4 em, _, _, rfl, .inr ⟨_, rfl⟩, .inr ⟨_, rfl⟩⟩
      · by_cases cl3 : x ≤ 64
        · exact ⟨_, w17_b G.h212 g6 _ _ _ c F x _ y7 y8 h7 h8 hx0 cl3 c64 (ic x hx0 cl3) b1 (by rw [List.length_map]; exact c1), _, _, rfl, .inr ⟨_, rfl⟩, h8⟩
        · exact ⟨_, w17_c g6 _ _ c F x y7 y8 h7 h8 hx0 cl3, _, _, rfl, .inr ⟨_, rfl⟩, h8⟩) ⟨_, _, rfl, .inl rfl, .inl rfl⟩
  obtain ⟨r6, e10, y7, y8, rfl, h7, h8⟩ := F6
  -- the sizes at all widths
  have szd : ∀ x : Int, (due.map fun d => if 0 > x - d + 1 then 0 else x - d + 1).sum = szp x N c := by
    intro x
    rw [szp_max Nsort, ← hdue, List.map_map]
    congr 1
    apply List.map_congr_left
    intro n _
    simp only [Function.comp]
    split <;> omega
  have inner : ∀ (x : Int), ev (Cz Pg fuel (k + 9)) (.lc (.bi .max [.bin .Add (.bin .Sub (.var 7) (.var 13)) (.con (.int 1)), .con (.int 0)]) (.v 13) (.e (.var 4)) [] [13]) [.io g6, .ow (il ps), .sh (.int c), .sh (.int F), .ow (il due), .sh (il ps), .ow (il due), .sh (.int x), y8, .no, .no, .no, .no, .no, .no, .no] =
      .ok (.ow (il (due.map fun d => if 0 > x - d + 1 then 0 else x - d + 1))) [.io g6, .ow (il ps), .sh (.int c), .sh (.int F), .ow (il due), .sh (il ps), .ow (il due), .sh (.int x), y8, .no, .no, .no, .no, .no, .no, .no] := by
    intro x
    rw [lc_run (r1 := [.io g6, .ow (il ps), .sh (.int c), .sh (.int F), .sh (il due), .sh (il ps), .ow (il due), .sh (.int x), y8, .no, .no, .no, .no, .no, .no, .no]) (l := due.map .int) (fun d => match d with | D.int n => some (D.int (if 0 > x - n + 1 then 0 else x - n + 1)) | _ => none)]
    · have q : List.filterMap (fun d => match d with | D.int n => some (D.int (if 0 > x - n + 1 then 0 else x - n + 1)) | _ => none) (due.map D.int) = (due.map fun d => if 0 > x - d + 1 then 0 else x - d + 1).map .int := by
        clear szd B cntd rd1 dbig e8 A hdue dlen e10
        induction due with
        | nil => rfl
        | cons y l ih => simp only [List.map_cons, List.filterMap_cons, ih]
      rw [q]
      simp only [thawL, flat_il, if_true]
      rcases h8 with rfl | ⟨d, rfl⟩ <;> simp [thw, thw1, flat_il, hg6.shal] <;> exact fun _ _ => rfl
    · simp [itemsD]
    · rcases h8 with rfl | ⟨d, rfl⟩ <;> rfl
    · rfl
    · exact line_le (by simp; omega)
    · intro z hz
      obtain ⟨n, hn, rfl⟩ := List.mem_map.mp hz
      refine ⟨[.io g6, .ow (il ps), .sh (.int c), .sh (.int F), .sh (il due), .sh (il ps), .ow (il due), .sh (.int x), y8, .no, .no, .no, .no, .sh (.int n), .no, .no], ?_, rfl⟩
      simp [lcF, wip, bindT]
  have P7 : ev (Cz Pg fuel (k + 9)) (.lc (.bi .sum [.lc (.bi .max [.bin .Add (.bin .Sub (.var 7) (.var 13)) (.con (.int 1)), .con (.int 0)]) (.v 13) (.e (.var 4)) [] [13]]) (.v 7) (.rng2 (.var 3) (.con (.int 65))) [] [7]) [.io g6, .ow (il ps), .sh (.int c), .sh (.int F), .ow (il due), .sh (il ps), .ow (il due), y7, y8, .no, .no, .no, .no, .no, .no, .no] =
      .ok (.ow (il (pws F N c))) [.io g6, .ow (il ps), .sh (.int c), .sh (.int F), .ow (il due), .sh (il ps), .ow (il due), y7, y8, .no, .no, .no, .no, .no, .no, .no] := by
    have er := rng2_eq (C := Cz Pg fuel (k + 9)) (a := .var 3) (b := .con (.int 65)) (r := [.io g6, .ow (il ps), .sh (.int c), .sh (.int F), .ow (il due), .sh (il ps), .ow (il due), y7, y8, .no, .no, .no, .no, .no, .no, .no]) (r1 := [.io g6, .ow (il ps), .sh (.int c), .sh (.int F), .ow (il due), .sh (il ps), .ow (il due), y7, y8, .no, .no, .no, .no, .no, .no, .no]) (r2 := [.io g6, .ow (il ps), .sh (.int c), .sh (.int F), .ow (il due), .sh (il ps), .ow (il due), y7, y8, .no, .no, .no, .no, .no, .no, .no]) (x := .inl 3) (y := .inr (.int 65)) (i := (F : Int)) (j := 65) (by simp) (by simp) (by simp) (by omega) (by omega)
    rw [rng_from] at er
    rw [lc_run (r1 := [.io g6, .ow (il ps), .sh (.int c), .sh (.int F), .ow (il due), .sh (il ps), .ow (il due), y7, y8, .no, .no, .no, .no, .no, .no, .no]) (l := (List.range' F (65 - F)).map fun (x : Nat) => D.int x) (fun d => match d with | D.int x => some (D.int (szp x N c)) | _ => none) er]
    · have q : List.filterMap (fun d => match d with | D.int x => some (D.int (szp x N c)) | _ => none) ((List.range' F (65 - F)).map fun (x : Nat) => D.int x) = (pws F N c).map .int := by
        unfold pws
        generalize List.range' F (65 - F) = X
        induction X with
        | nil => rfl
        | cons y l ih => simp only [List.map_cons, List.filterMap_cons, ih]
      rw [q]
      simp only [thawL, flat_il, if_true]
      rcases h7 with rfl | ⟨d, rfl⟩ <;> rcases h8 with rfl | ⟨d', rfl⟩ <;> simp [thw, thw1, flat_il, hg6.shal] <;> exact fun _ _ => rfl
    · rcases h7 with rfl | ⟨d, rfl⟩ <;> rfl
    · rfl
    · exact line_le (by simp; omega)
    · intro z hz
      obtain ⟨x, hx, rfl⟩ := List.mem_map.mp hz
      have i1 := inner (x : Int)
      have es : biD .sum [.lst ((due.map fun d => if 0 > (x : Int) - d + 1 then 0 else (x : Int) - d + 1).map .int)] = some (.sh (.int (szp x N c))) := by
        rw [bi_sum_il, szd]
      simp only [il] at i1
      refine ⟨[.io g6, .ow (il ps), .sh (.int c), .sh (.int F), .ow (il due), .sh (il ps), .ow (il due), .sh (.int x), y8, .no, .no, .no, .no, .no, .no, .no], ?_, rfl⟩
      generalize (due.map fun d => if 0 > (x : Int) - d + 1 then 0 else (x : Int) - d + 1).map D.int = X at *
      rcases h7 with rfl | ⟨d, rfl⟩ <;> simp [lcF, wip, bindT, i1, es]
  -- the sizes one by one
  have sF := szN F (by omega)
  have s64 := szN 64 (by omega)
  rw [show ((64 : Nat) : Int) = 64 from rfl] at s64
  have x0 := pws_get F N c 0 (by omega)
  have x64 := pws_get F N c (64 - F) (by omega)
  rw [show ((64 - F : Nat) : Int) = 64 - (F : Int) by omega, show F + (64 - F) = 64 by omega, show ((64 : Nat) : Int) = 64 from rfl] at x64
  rw [show F + 0 = F from rfl, show ((0 : Nat) : Int) = 0 from rfl] at x0
  generalize szp (F : Int) N c = pF1 at *
  generalize hp64 : szp 64 N c = pE at *
  obtain ⟨v8, g8, hv8, hg8, e11⟩ := m_random (fuel := fuel) (k := k + 7) G.h32 G.h184 (m + 9 + 3 + 3 * 7 + 3 + 3) (by omega) g6 hg6 (pE + 1) (by omega)
  have F8 := for_run (C := Cz Pg fuel (k + 9)) (t := .v 10) (it := .e (.lst [.con (.int 0), .idx (.var 9) (.con (.int 0)), .bin .Add (.idx (.var 9) (.con (.int 0))) (.con (.int 1)), .idx (.var 9) (.bin .Sub (.con (.int 64)) (.var 3)), .bin .Add (.idx (.var 9) (.bin .Sub (.con (.int 64)) (.var 3))) (.con (.int 1)), .call 184 [.var 0, .bin .Add (.idx (.var 9) (.bin .Sub (.con (.int 64)) (.var 3))) (.con (.int 1))] [] []]))
    (body := [.asg (.v 11) (.lc (.bin .Add (.var 3) (.var 14)) (.t [.v 14, .v 15]) (.enm (.var 9)) [.val (.cmp .GtE (.var 15) (.var 10))] [14, 15]),
    .ite (.val (.cmp .NotEq (.bi .repr [.call 228 [.var 5, .var 2, .var 10] [] []]) (.bi .repr [.ite (.val (.cmp .NotEq (.var 11) (.lst []))) (.idx (.var 11) (.con (.int 0))) (.con .non)]))) [.ret (.con (.bl false))] []])
    (r := [.io g6, .ow (il ps), .sh (.int c), .sh (.int F), .ow (il due), .sh (il ps), .ow (il due), y7, y8, .ow (il (pws F N c)), .no, .no, .no, .no, .no, .no]) (r1 := [.io g8, .ow (il ps), .sh (.int c), .sh (.int F), .ow (il due), .sh (il ps), .ow (il due), y7, y8, .ow (il (pws F N c)), .no, .no, .no, .no, .no, .no])
    (l := [.int 0, .int pF1, .int (pF1 + 1), .int pE, .int (pE + 1), .int v8])
    (fun _ r => ∃ y10 y11, r = [.io g8, .ow (il ps), .sh (.int c), .sh (.int F), .ow (il due), .sh (il ps), .ow (il due), y7, y8, .ow (il (pws F N c)), y10, y11, .no, .no, .no, .no] ∧ Pn y10 ∧ (y11 = .no ∨ ∃ l : List Int, y11 = .ow (il l))) (by
      simp [x0, x64, G.h184, d__law_random_v1, e11, hg8.shal, itemsD]) (by
      intro j hj r hr
      obtain ⟨y10, y11, rfl, h10, h11⟩ := hr
      obtain ⟨q, hq, hq0⟩ : ∃ q : Int, [D.int 0, .int pF1, .int (pF1 + 1), .int pE, .int (pE + 1), .int v8][j] = .int q ∧ 0 ≤ q := by
        have hj : j < 6 := hj
        match j, hj with
        | 0, _ => exact ⟨0, rfl, Int.le_refl _⟩
        | 1, _ => exact ⟨pF1, rfl, sF.1⟩
        | 2, _ => exact ⟨pF1 + 1, rfl, by omega⟩
        | 3, _ => exact ⟨pE, rfl, s64.1⟩
        | 4, _ => exact ⟨pE + 1, rfl, by omega⟩
        | 5, _ => exact ⟨v8, rfl, hv8.1⟩
      rw [hq]
      have L1 : ev (Cz Pg fuel (k + 9)) (.lc (.bin .Add (.var 3) (.var 14)) (.t [.v 14, .v 15]) (.enm (.var 9)) [.val (.cmp .GtE (.var 15) (.var 10))] [14, 15]) [.io g8, .ow (il ps), .sh (.int c), .sh (.int F), .ow (il due), .sh (il ps), .ow (il due), y7, y8, .ow (il (pws F N c)), .sh (.int q), y11, .no, .no, .no, .no] =
          .ok (.ow (il (((List.range' F (65 - F)).filter (wq q N c)).map fun (x : Nat) => (x : Int)))) [.io g8, .ow (il ps), .sh (.int c), .sh (.int F), .ow (il due), .sh (il ps), .ow (il due), y7, y8, .ow (il (pws F N c)), .sh (.int q), y11, .no, .no, .no, .no] := by
        rw [lc_run (r1 := [.io g8, .ow (il ps), .sh (.int c), .sh (.int F), .ow (il due), .sh (il ps), .ow (il due), y7, y8, .sh (il (pws F N c)), .sh (.int q), y11, .no, .no, .no, .no]) (l := enumD ((pws F N c).map .int)) (fun d => match d with | D.tup [.int i, .int p] => if q ≤ p then some (D.int (F + i)) else none | _ => none)]
        · have qq : List.filterMap (fun d => match d with | D.tup [.int i, .int p] => if q ≤ p then some (D.int (F + i)) else none | _ => none) (enumD ((pws F N c).map D.int)) = (((List.range' F (65 - F)).filter (wq q N c)).map fun (x : Nat) => (x : Int)).map .int := by
            have gen : ∀ (n a : Nat), List.filterMap (fun d => match d with | D.tup [.int i, .int p] => if q ≤ p then some (D.int (F + i)) else none | _ => none) ((List.range' a n).zipWith (fun (k : Nat) d => D.tup [.int k, d]) (((List.range' (F + a) n).map fun (x : Nat) => szp x N c).map .int)) = (((List.range' (F + a) n).filter (wq q N c)).map fun (x : Nat) => (x : Int)).map .int := by
              intro n
              induction n with
              | zero => intro a; rfl
              | succ n ih =>
                intro a
                have := ih (a + 1)
                simp only [List.range'_succ, List.map_cons, List.zipWith_cons_cons, List.filterMap_cons, List.filter_cons]
                rw [show F + (a + 1) = F + a + 1 from rfl] at this
                by_cases cq : q ≤ szp ((F + a : Nat) : Int) N c
                · rw [if_pos cq, show wq q N c (F + a) = true from decide_eq_true cq]
                  simp only [if_true, List.map_cons]
                  exact congrArg _ this
                · rw [if_neg cq, show wq q N c (F + a) = false from decide_eq_false cq]
                  simp only [Bool.false_eq_true, if_false]
                  exact this
            rw [enum_il]
            have := gen (65 - F) 0
            unfold pws
            rw [List.length_map, List.length_range']
            exact this
          rw [qq]
          simp only [thawL, flat_il, if_true]
          rcases h7 with rfl | ⟨d, rfl⟩ <;> rcases h8 with rfl | ⟨d', rfl⟩ <;> rcases h11 with rfl | ⟨l, rfl⟩ <;> simp [thw, thw1, flat_il, hg8.shal] <;> exact fun _ _ => rfl
        · simp [lstD]
        · rfl
        · rfl
        · exact line_le (by rw [enum_len]; simp [pws]; omega)
        · intro z hz
          obtain ⟨i, p, rfl, _, _⟩ := enum_mem hz
          refine ⟨[.io g8, .ow (il ps), .sh (.int c), .sh (.int F), .ow (il due), .sh (il ps), .ow (il due), y7, y8, .sh (il (pws F N c)), .sh (.int q), y11, .no, .no, .sh (.int i), .sh (.int p)], ?_, rfl⟩
          by_cases cq : q ≤ p
          · simp [lcF, wip, bindT, bindTs, cq]
          · simp [lcF, wip, bindT, bindTs, cq]
      have w1 := wf q hq0
      obtain ⟨z, z1, z2⟩ := repr_opt ((List.range' F (65 - F)).find? (wq q N c)) (fun n hn => by
        have := List.mem_of_find?_eq_some hn
        simp at this
        omega)
      have hd : ((List.range' F (65 - F)).filter (wq q N c)).head? = (List.range' F (65 - F)).find? (wq q N c) := List.head?_filter
      have fl : flat (optD ((List.range' F (65 - F)).find? (wq q N c))) = true := by cases (List.range' F (65 - F)).find? (wq q N c) <;> rfl
      have nn : cmpD .NotEq (.lst ((((List.range' F (65 - F)).filter (wq q N c)).map fun (x : Nat) => (x : Int)).map .int)) (.lst []) = some (!((((List.range' F (65 - F)).filter (wq q N c)).map fun (x : Nat) => (x : Int)).map D.int).isEmpty) := by
        rw [cmp_il_nnil]
        cases (List.range' F (65 - F)).filter (wq q N c) <;> rfl
      refine ⟨_, r17 G.h228 g8 _ _ _ _ c F q (optD ((List.range' F (65 - F)).find? (wq q N c))) z y7 y8 y10 y11 h10 (h11.imp id fun ⟨l, e⟩ => ⟨_, e⟩) L1 w1 fl z1 z2 nn ?_, _, _, rfl, .inr ⟨_, rfl⟩, .inr ⟨_, rfl⟩⟩
      rw [← hd]
      cases (List.range' F (65 - F)).filter (wq q N c) with
      | nil => exact .inl ⟨rfl, rfl⟩
      | cons a X => exact .inr ⟨_, rfl⟩) ⟨_, _, rfl, .inl rfl, .inl rfl⟩
  obtain ⟨r8, e12, y10, y11, rfl, h10, h11⟩ := F8
  refine ⟨g8, hg8.shal, ?_⟩
  have isl : isiD (il due) .list = some true := rfl
  have nps : cmpD .NotEq (il ps) (il ps) = some false := by rw [cmp_il_ne]; simp
  have ld : (due.map D.int).length < LINE := Nat.lt_of_lt_of_le (show (due.map D.int).length < 1000 by simp; omega) (line_le (Nat.le_refl _))
  simp only [il] at *
  generalize due.map D.int = DU at *
  rcases h7 with rfl | ⟨d7, rfl⟩ <;> rcases h8 with rfl | ⟨d8, rfl⟩ <;>
  simp [-q_for, d__law_right_v10, s__law_right_v10, start_eq, G.h184, d__law_random_v1, e1, hg1.shal, e2, hg2.shal, e3, hg3.shal, ew, G.h186, d__law_places_v2, e4, hg4.shal, puts, e5, hg5.shal, G.h229, d__law_bits, e6, A, G.h227, d_item_widths, e8, isl, rd1, rd2, nps, e10, P7, e12, lstAt, muD, ld, rd3]
end
end Z
/-! YZ: the law of every width, joined. -/
namespace Z
open PySem (Str Operator CmpOp)
section
variable {Pg : Nat → Option Df} {fuel k f : Nat} {C : Cf}
theorem n_two : br 64 [0, 1] = [0, 0] := by
  rw [← nums_br ⟨by decide, by decide⟩]
  have a1 : v2 1 = 0 := v2_odd (by decide)
  simp [nums, gr, mi, gsum, a1]
theorem n_four : br 64 [0, 1, 2, 3] = [0, 0, 1, 1] := by
  rw [← nums_br ⟨by decide, by decide⟩]
  have a1 : v2 1 = 0 := v2_odd (by decide)
  have a2 : v2 2 = 1 := v2_pow 1
  have a3 : v2 3 = 0 := v2_odd (by decide)
  simp [nums, gr, mi, gsum, a1, a2, a3]
theorem n_one : br 64 [0] = [0] := br_one 64 0
theorem n_far : br 64 [0, 9223372036854775808] = [0, 63] := by
  rw [← nums_br ⟨by decide, by decide⟩]
  have a1 : v2 9223372036854775808 = 63 := v2_pow 63
  simp [nums, gr, mi, gsum, a1]
theorem find_of {F : Nat} {q : Int} {N : List Int} {c : Nat} {o : Option Nat} (h : (List.range' F (65 - F)).find? (wq q N c) = o) : optD ((List.range' F (65 - F)).find? (wq q N c)) = optD o := by rw [h]
set_option maxHeartbeats 4000000 in
theorem m_law17 (G : L17 Pg) (h : Pg f = some d_law_v17) (hf : 1000 ≤ fuel) (ns : List Int) : callD Pg fuel (k + 11) f [.scr ns] = .ok (.sh (.bl true)) [] := by
  rw [callD_eq h ⟨rfl, Nat.le_of_ble_eq_true rfl⟩]
  have er := rng1_eq (C := Cz Pg fuel (k + 10)) (b := .con (.int 3)) (r := [.sh (.scr ns), .no, .no, .no, .no]) (r2 := [.sh (.scr ns), .no, .no, .no, .no]) (y := .inr (.int 3)) (j := ((3 : Nat) : Int)) (by simp) (by simp) (by omega)
  obtain ⟨r', e', y1, rfl, hy1⟩ := for_run (t := .v 1) (body := [.ite (.not (.val (.callN 230 (.call 35 [.var 0, .var 1] [] []) []))) [.ret (.con (.bl false))] []]) (fun _ r => ∃ (y1 : Sl), r = [.sh (.scr ns), y1, .no, .no, .no] ∧ Pn y1) er (by
    intro j hj r hr
    rw [rng0_len] at hj
    rw [rng0_get]
    obtain ⟨y1, rfl, hy1⟩ := hr
    obtain ⟨g0, hg0, e0⟩ := m_generator (fuel := fuel) (k := k + 8) G.h34 G.h35 ns j (by omega)
    obtain ⟨g1, hg1, e1⟩ := m_right17 (fuel := fuel) (k := k) G hf (1000 * j) (by omega) g0 hg0
    refine ⟨_, ?_, .sh (.int j), rfl, .inr ⟨_, rfl⟩⟩
    rcases hy1 with rfl | ⟨d, rfl⟩ <;> simp [bindT, G.h35, d__law_generator, e0, G.h230, d__law_right_v10, callNR, e1]) ⟨.no, rfl, .inl rfl⟩
  have p1 : PlW 64 [0, 1] := ⟨by decide, by decide, by decide⟩
  have p2 : PlW 64 [0, 1, 2, 3] := ⟨by decide, by decide, by decide⟩
  have p3 : PlW 64 [0] := ⟨by decide, by decide, by decide⟩
  have p4 : PlW 64 [0, 9223372036854775808] := ⟨by decide, by decide, by decide⟩
  have wf : ∀ (ps : List Int), ps.length ≤ 900 → PlW 64 ps → ∀ (c m : Int), 0 ≤ c → 0 ≤ m → ∀ (o : Option Nat), (List.range' (topw ps) (65 - topw ps)).find? (wq m (br 64 ps) c.toNat) = o → callD Pg fuel (k + 10) 228 [il ps, .int c, .int m] = .ok (.sh (optD o)) [] := by
    intro ps hl hp c m hc hm o ho
    have := m_width_for (fuel := fuel) (k := k + 3) G.toGB G.h2 G.h7 G.h211 G.h226 G.h228 hf ps hl hp c m hc hm
    rw [ho] at this
    exact this
  have iw : ∀ (ps : List Int), ps.length ≤ 900 → PlW 64 ps → ∀ (c : Int), 0 ≤ c → callD Pg fuel (k + 10) 227 [il ps, .int c] = .ok (.ow (il (((br 64 ps).take c.toNat).map (· + 1)))) [] := fun ps hl hp c hc =>
    m_item_widths (fuel := fuel) (k := k + 3) G.toGB G.h2 G.h226 G.h227 hf ps hl hp c hc
  have b10 : bits 10 = 4 := by decide
  have eP : binI .Pow 10 29 = some 100000000000000000000000000000 := by
    simp only [binI, b10]
    rfl
  have b2 : bits 2 = 2 := by decide
  have eQ : binI .Pow 2 63 = some 9223372036854775808 := by
    simp only [binI, b2]
    rfl
  have a1 := wf [0, 1] (by decide) p1 2 100000000000000000000000000000 (by decide) (by decide) none (by rw [n_two]; decide +kernel)
  have a2 := wf [0, 1] (by decide) p1 100000000000000000000000000000 5 (by decide) (by decide) (some 3) (by rw [n_two]; decide +kernel)
  have a3 := iw [0, 1, 2, 3] (by decide) p2 100000000000000000000000000000 (by decide)
  have a4 := wf [0, 1, 2, 3] (by decide) p2 100000000000000000000000000000 10 (by decide) (by decide) (some 3) (by rw [n_four]; decide +kernel)
  have a5 := iw [0, 1, 2, 3] (by decide) p2 4 (by decide)
  have a6 := wf [0, 1, 2, 3] (by decide) p2 4 10 (by decide) (by decide) (some 3) (by rw [n_four]; decide +kernel)
  have a7 := wf [0] (by decide) p3 0 1 (by decide) (by decide) none (by rw [n_one]; decide +kernel)
  have a8 := wf [0] (by decide) p3 0 0 (by decide) (by decide) (some 1) (by rw [n_one]; decide +kernel)
  have a9 := wf [0] (by decide) p3 1 65 (by decide) (by decide) none (by rw [n_one]; decide +kernel)
  have a10 := wf [0] (by decide) p3 9 64 (by decide) (by decide) (some 64) (by rw [n_one]; decide +kernel)
  have a11 := iw [0, 9223372036854775808] (by decide) p4 9 (by decide)
  rw [n_four, show (((List.take (100000000000000000000000000000 : Int).toNat [(0 : Int), 0, 1, 1])).map (· + 1)) = [1, 1, 2, 2] from by decide +kernel] at a3
  rw [n_four, show (((List.take (4 : Int).toNat [(0 : Int), 0, 1, 1])).map (· + 1)) = [1, 1, 2, 2] from by decide] at a5
  rw [n_far, show (((List.take (9 : Int).toNat [(0 : Int), 63])).map (· + 1)) = [1, 64] from by decide] at a11
  clear wf iw
  simp only [il, List.map_cons, List.map_nil, optD] at a1 a2 a3 a4 a5 a6 a7 a8 a9 a10 a11
  rw [show ((3 : Nat) : Int) = 3 from rfl] at a2 a4 a6
  rw [show ((1 : Nat) : Int) = 1 from rfl] at a8
  rw [show ((64 : Nat) : Int) = 64 from rfl] at a10
  have c1 : cmpD .NotEq (.lst [.non, .int 3, .lst [.int 1, .int 1, .int 2, .int 2], .int 3]) (.lst [.non, .int 3, .lst [.int 1, .int 1, .int 2, .int 2], .int 3]) = some false := by
    simp [cmpD, okq, lay, lays, dep, deps, eqv, eqvs]
  have c2 : cmpD .Eq (.lst [.lst [.int 1, .int 1, .int 2, .int 2], .int 3, .non, .int 1, .non, .int 64]) (.lst [.lst [.int 1, .int 1, .int 2, .int 2], .int 3, .non, .int 1, .non, .int 64]) = some true := by
    simp [cmpD, okq, lay, lays, dep, deps, eqv, eqvs]
  have c3 : cmpD .Eq (.lst [.int 1, .int 64]) (.lst [.int 1, .int 64]) = some true := by
    simp [cmpD, okq, lay, lays, dep, deps, eqv, eqvs]
  rcases hy1 with rfl | ⟨d, rfl⟩ <;>
  simp [-q_for, d_law_v17, s_law_v17, start_eq, e', puts, eP, eQ, G.h227, G.h228, d_width_for, d_item_widths, a1, a2, a3, a4, a5, a6, a7, a8, a9, a10, a11, c1, c2, c3]
end
end Z
/-! VA: steps on one side: the law in plain numbers. -/
namespace Z
/-- how much so many steps tell -/
def hs (low n : Nat) : Nat := low * n + fa n
/-- so many steps are needed -/
def Cont (w : Int) (many : Int) (low n : Nat) : Prop := (n : Int) < many ∧ (hs low n : Int) < w
def IsNd (w : Int) (many : Int) (low n : Nat) : Prop := ¬ Cont w many low n ∧ ∀ m, m < n → Cont w many low m
theorem IsNd.uniq {w many : Int} {low n n' : Nat} (h : IsNd w many low n) (h' : IsNd w many low n') : n = n' := by
  rcases Nat.lt_trichotomy n n' with l | e | l
  · exact absurd (h'.2 n l) h.1
  · exact e
  · exact absurd (h.2 n' l) h'.1
theorem IsNd.le_low {w many : Int} {low n n' : Nat} (h : IsNd w many low n) (h' : IsNd w many (low + 1) n') : n' ≤ n := by
  refine Classical.byContradiction fun c => h.1 ?_
  obtain ⟨a, b⟩ := h'.2 n (by omega)
  refine ⟨a, ?_⟩
  have : hs (low + 1) n = hs low n + n := by unfold hs; rw [Nat.add_mul]; omega
  omega
theorem IsNd.le_w {w w' many : Int} {low n n' : Nat} (hw : w ≤ w') (h : IsNd w many low n) (h' : IsNd w' many low n') : n ≤ n' := by
  refine Classical.byContradiction fun c => h'.1 ?_
  obtain ⟨a, b⟩ := h.2 n' (by omega)
  exact ⟨a, by omega⟩
theorem IsNd.le_many {w many : Int} {low n : Nat} (h0 : 0 ≤ many) (h : IsNd w many low n) : (n : Int) ≤ many := by
  rcases Nat.eq_zero_or_pos n with rfl | p
  · exact h0
  · have := (h.2 (n - 1) (by omega)).1
    omega
theorem v2_mul_pow (t : Nat) (n : Int) (hn : n ≠ 0) : v2 (2 ^ t * n) = t + v2 n := by
  induction t with
  | zero => simp
  | succ t ih =>
    have p : (0 : Int) < 2 ^ t := Int.pow_pos (by decide)
    have e : (2 : Int) ^ (t + 1) * n = 2 * (2 ^ t * n) := by rw [Int.pow_succ, Int.mul_comm (2 ^ t) 2, Int.mul_assoc]
    have z : (2 : Int) ^ t * n ≠ 0 := Int.mul_ne_zero (by omega) hn
    rw [v2_even (by rw [e]; omega) (by rw [e]; omega), e, show 2 * ((2 : Int) ^ t * n) / 2 = 2 ^ t * n by omega, ih]
    omega
theorem ap_cons (a s : Int) (n : Nat) : ap a s (n + 1) = a :: ap (a + s) s n := by
  unfold ap
  rw [List.range_succ_eq_map, List.map_cons, List.map_map]
  congr 1
  · simp
  · apply List.map_congr_left
    intro i _
    simp only [Function.comp]
    rw [show ((i + 1 : Nat) : Int) = (i : Int) + 1 from rfl, Int.mul_add]
    omega
theorem hs_succ (t n : Nat) : hs t (n + 1) = hs t n + (t + v2 ((n + 1 : Nat) : Int)) := by
  unfold hs
  show t * (n + 1) + (fa n + v2 ((n + 1 : Nat) : Int)) = _
  rw [Nat.mul_add]
  omega
theorem btw_above (t : Nat) : ∀ (n : Nat) (a : Int), btw (ap a (2 ^ t) n) (a + 2 ^ t * (n : Nat)) = hs t n
  | 0, a => by simp [btw, ap, hs, fa]
  | n + 1, a => by
    have ih := btw_above t n (a + 2 ^ t)
    rw [ap_cons, btw_cons, hs_succ]
    have e : a + 2 ^ t * ((n + 1 : Nat) : Int) = a + 2 ^ t + 2 ^ t * (n : Nat) := by
      rw [show ((n + 1 : Nat) : Int) = (n : Int) + 1 from rfl, Int.mul_add]
      omega
    rw [e, ih]
    have e2 : a + 2 ^ t + 2 ^ t * (n : Nat) - a = 2 ^ t * ((n + 1 : Nat) : Int) := by
      rw [show ((n + 1 : Nat) : Int) = (n : Int) + 1 from rfl, Int.mul_add]
      omega
    rw [e2, v2_mul_pow t _ (by omega)]
    omega
theorem btw_below (t : Nat) (a : Int) : ∀ (n : Nat), btw (ap (a + 2 ^ t) (2 ^ t) n) a = hs t n
  | 0 => by simp [btw, ap, hs, fa]
  | n + 1 => by
    have ih := btw_below t a n
    rw [ap_succ, btw_app, ih, hs_succ]
    have e : a - (a + 2 ^ t + 2 ^ t * (n : Nat)) = -(2 ^ t * ((n + 1 : Nat) : Int)) := by
      rw [show ((n + 1 : Nat) : Int) = (n : Int) + 1 from rfl, Int.mul_add]
      omega
    simp only [btw, List.map_cons, List.map_nil, List.sum_cons, List.sum_nil, e, v2_neg]
    rw [v2_mul_pow t _ (by omega)]
    omega
/-- beside a row of places, a place among more has no fewer twos than the numbers -/
theorem cost_ge {d : Nat} {S S' : List Int} {p : Int} (h : Wi d S) (hp : p ∈ S) (np : p ∉ S') (sub : ∀ x ∈ S', x ∈ S) (nd : S'.Nodup) (i : Nat) (hi : i < S'.length) (e : ∀ j, j ≤ i → (br d S)[j]? = (nums S')[j]?) :
    ((nums S')[i]?.getD 0) ≤ btw ((ord S').take i) p := by
  have op := ord_perm S'
  have on : (ord S').Nodup := op.nodup_iff.mpr nd
  have nd2 : (p :: (ord S').take i).Nodup := List.nodup_cons.mpr ⟨fun m => np (op.mem_iff.mp (List.mem_of_mem_take m)), on.sublist (List.take_sublist _ _)⟩
  have pm := filter_perm (m := p :: (ord S').take i) h.1 (fun x hx => by
    rcases List.mem_cons.mp hx with rfl | hx
    · exact hp
    · exact sub x (op.mem_iff.mp (List.mem_of_mem_take hx))) nd2
  have ll : (p :: (ord S').take i).length = i + 1 := by
    simp [op.length_eq]
    omega
  have le := least_le (t := S.filter fun x => decide (x ∈ p :: (ord S').take i)) List.filter_sublist h
  rw [at2_perm pm, pm.length_eq, ll] at le
  have s1 := nums_sum S' i
  have ln : (nums S').length = S'.length := by unfold nums; exact (gr_len _ _ _).2
  have tk : (br d S).take (i + 1) = (nums S').take (i + 1) := by
    apply List.ext_getElem?
    intro j
    rw [List.getElem?_take, List.getElem?_take]
    split
    · exact e j (by omega)
    · rfl
  rw [tk, List.take_succ_eq_append_getElem (by omega), List.sum_append] at le
  have ea : (at2 (p :: (ord S').take i) : Int) = btw ((ord S').take i) p + at2 ((ord S').take i) := by
    show ((btw _ p + at2 _ : Nat) : Int) = _
    omega
  rw [ea, ← s1] at le
  rw [List.getElem?_eq_getElem (by omega)]
  simp only [Option.getD_some]
  simp at le
  omega
theorem fl_get (t n j : Nat) (h : j < n) : (fl t n)[j]? = some ((hs t j : Nat) : Int) := by
  unfold fl
  rw [List.getElem?_map, List.getElem?_range h]
  simp only [Option.map_some, hs]
  congr 2
  omega
end Z
/-! VB: what follows from words at other places. -/
namespace Z
open PySem (Str Operator CmpOp)
/-- bits_at -/
def s_bits_at : List S :=
  [.ite (.val (.cmp .In (.var 4) (.var 1))) [.ret (.var 0)] [],
    .par [5, 6] [.var 0, .con (.int 0)],
    .for_ (.t [.v 7, .v 8]) (.zip true [.slc (.var 1) (.con .non) (.var 3), .slc (.var 2) (.con .non) (.var 3)]) [.asg (.v 5) (.bi .min [.var 5, .bin .Add (.bi .max [.con (.int 0), .bin .Sub (.var 0) (.var 8)]) (.var 6)]),
    .aug 6 .Add (.call 4 [.bin .Sub (.var 4) (.var 7)] [] [])],
    .ret (.ite (.val (.cmp .Lt (.bi .len [.var 1]) (.var 3))) (.bi .min [.var 5, .var 6]) (.var 5))]
def d_bits_at : Df := { modes := [false, false, false, false, false], names := 9, body := s_bits_at }
/-- check_part -/
def s_check_part_v1 : List S :=
  [.ite (.or (.not (.val (.isi (.var 1) .list))) (.val (.cmp .NotEq (.lc (.var 2) (.v 2) (.e (.var 1)) [.or (.not (.val (.call 0 [.var 2] [] []))) (.val (.cmp .NotIn (.var 2) (.var 0)))] [2]) (.lst [])))) [.nev] [],
    .ite (.not (.val (.call 11 [.var 1] [] []))) [.nev] []]
def d_check_part_v1 : Df := { modes := [false, false], names := 3, body := s_check_part_v1 }
/-- check_place -/
def s_check_place : List S :=
  [.ite (.or (.not (.val (.call 0 [.var 1] [] []))) (.val (.cmp .NotIn (.var 1) (.var 0)))) [.nev] []]
def d_check_place : Df := { modes := [false, false], names := 2, body := s_check_place }
/-- bits_list -/
def s_bits_list : List S :=
  [.asg (.t [.v 4, .v 5]) (.call 5 [.var 3] [] []),
    .ret (.lc (.call 363 [.var 0, .var 4, .var 5, .var 2, .var 6] [] []) (.v 6) (.e (.var 1)) [] [6])]
def d_bits_list : Df := { modes := [false, false, false, false], names := 7, body := s_bits_list }
/-- check_allowed -/
def s_check_allowed : List S :=
  [.ex (.call 376 [.var 0, .var 1] [] []),
    .ex (.call 377 [.var 0, .var 2] [] []),
    .ite (.val (.cmp .In (.var 2) (.var 1))) [.nev] []]
def d_check_allowed : Df := { modes := [false, false, false], names := 3, body := s_check_allowed }
/-- follows -/
def s_follows : List S :=
  [.ex (.call 19 [.var 0, .var 1, .var 2] [] []),
    .ex (.call 407 [.var 1, .var 3, .var 4] [] []),
    .ret (.cmp .Eq (.idx (.call 378 [.var 0, .lst [.var 4], .var 2, .var 3] [] []) (.con (.int 0))) (.var 0))]
def d_follows : Df := { modes := [false, false, false, false, false], names := 5, body := s_follows }
/-- steps_needed -/
def s_steps_needed : List S :=
  [.ex (.call 9 [.var 0] [] []),
    .ex (.call 2 [.var 1, .con (.int 0), .con .non] [] []),
    .ex (.call 2 [.var 2, .con (.int 0), .con (.int 64)] [] []),
    .par [3, 4] [.con (.int 0), .con (.int 0)],
    .whl (.and (.val (.cmp .Lt (.var 3) (.var 1))) (.val (.cmp .Lt (.var 4) (.var 0)))) [.aug 3 .Add (.con (.int 1)),
    .aug 4 .Add (.bin .Add (.call 4 [.var 3] [] []) (.var 2))],
    .ret (.var 3)]
def d_steps_needed : Df := { modes := [false, false, false], names := 5, body := s_steps_needed }
/-- _law_random -/
def s__law_random : List S :=
  [.ite (.val (.cmp .Gt (.idx (.var 0) (.con (.int 0))) (.con (.int 0)))) [.asg (.v 2) (.bin .Mod (.bi .int [.idx (.var 0) (.con (.int 0))]) (.var 1)),
    .seti 0 (.con (.int 0)) (.bin .FloorDiv (.idx (.var 0) (.con (.int 0))) (.var 1)),
    .ret (.var 2)] [],
    .asg (.v 2) (.con (.int 0)),
    .for_ (.v 3) (.rng1 (.bin .Add (.con (.int 1)) (.bin .FloorDiv (.bits (.var 1)) (.con (.int 30))))) [.seti 0 (.con (.int 2)) (.bin .Add (.idx (.var 0) (.con (.int 2))) (.con (.int 1))),
    .asg (.v 2) (.bin .Add (.bin .Mult (.var 2) (.con (.int 2147483587))) (.call 32 [.idx (.var 0) (.con (.int 1)), .idx (.var 0) (.con (.int 2))] [] []))],
    .ret (.bin .Mod (.bi .int [.var 2]) (.var 1))]
def d__law_random : Df := { modes := [true, false], names := 4, body := s__law_random }
section
variable {Pg : Nat → Option Df} {fuel k f : Nat} {C : Cf}
theorem in_il' (x : Int) (l : List Int) : cmpD .In (.int x) (.lst (l.map .int)) = some (decide (x ∈ l)) := by
  have h := in_il x l
  simp only [cmpD] at h ⊢
  cases c : inD (.int x) (.lst (l.map .int)) with
  | none => rw [c] at h; cases h
  | some b =>
    rw [c] at h
    simp at h
    simp [← h]
theorem m_bits_at (h4 : Pg 4 = some d_twos) (h : Pg f = some d_bits_at) (hf : 1000 ≤ fuel) (w : Nat) (O N : List Int) (c : Nat) (p : Int) (hl : O.length = N.length) (hO : O.length ≤ 900) (np : p ∉ O) (near : ∀ o ∈ O, (p - o).natAbs < 2 ^ 64) (cost : ∀ (i : Nat) (h : i < N.length), N[i] ≤ btw (O.take i) p) :
    callD Pg fuel (k + 2) f [.int w, il O, il N, .int c, .int p] = .ok (.sh (.int (if O.length < c then min (w : Int) (btw O p) else w))) [] := by
  rw [callD_eq h ⟨rfl, Nat.le_of_ble_eq_true rfl⟩]
  have c1 := cut_take O c
  have c2 := cut_take N c
  obtain ⟨r', e', y7, y8, rfl, h7, h8⟩ := for_run (C := Cz Pg fuel (k + 1)) (t := .t [.v 7, .v 8]) (it := .zip true [.slc (.var 1) (.con .non) (.var 3), .slc (.var 2) (.con .non) (.var 3)])
    (body := [.asg (.v 5) (.bi .min [.var 5, .bin .Add (.bi .max [.con (.int 0), .bin .Sub (.var 0) (.var 8)]) (.var 6)]), .aug 6 .Add (.call 4 [.bin .Sub (.var 4) (.var 7)] [] [])])
    (r := [.sh (.int w), .sh (il O), .sh (il N), .sh (.int c), .sh (.int p), .sh (.int w), .sh (.int 0), .no, .no]) (r1 := [.sh (.int w), .sh (il O), .sh (il N), .sh (.int c), .sh (.int p), .sh (.int w), .sh (.int 0), .no, .no]) (l := zip2D ((O.take c).map .int) ((N.take c).map .int))
    (fun j r => ∃ y7 y8, r = [.sh (.int w), .sh (il O), .sh (il N), .sh (.int c), .sh (.int p), .sh (.int w), .sh (.int (btw (O.take j) p : Nat)), y7, y8] ∧ Pn y7 ∧ Pn y8) (by
      have ll : (O.take c).length = (N.take c).length := by simp; omega
      generalize O.take c = X at *
      generalize N.take c = Y at *
      simp [por, isNon, slcD, part?, c1, c2, zipD, lstD, ll]) (by
      intro j hj r hr
      have hj2 : j < c ∧ j < O.length := by
        simp only [zip2D, List.length_zipWith, List.length_map, List.length_take] at hj
        omega
      obtain ⟨y7, y8, rfl, h7, h8⟩ := hr
      have ex : (zip2D ((O.take c).map D.int) ((N.take c).map D.int))[j] = .tup [.int (O[j]'hj2.2), .int (N[j]'(by omega))] := by
        simp [zip2D]
      rw [ex]
      have hc := cost j (by omega)
      have tw := m_twos (fuel := fuel) h4 k 64 (p - O[j]'hj2.2) (by
        have : O[j]'hj2.2 ∈ O := List.getElem_mem _
        intro z
        have : p = O[j]'hj2.2 := by omega
        exact np (this ▸ List.getElem_mem _)) (near _ (List.getElem_mem _)) (by omega)
      have b2 : btw (O.take (j + 1)) p = btw (O.take j) p + v2 (p - O[j]'hj2.2) := by
        rw [List.take_succ_eq_append_getElem hj2.2, btw_app]
        simp [btw]
      generalize gb : btw (O.take j) p = b at *
      rw [b2]
      generalize O[j]'hj2.2 = o at *
      generalize N[j]'(by omega) = n at *
      obtain ⟨M, m1, m2⟩ : ∃ M : Int, biD .max [.int 0, .int ((w : Int) - n)] = some (.sh (.int M)) ∧ (w : Int) - n ≤ M := by
        refine ⟨_, rfl, ?_⟩
        split <;> omega
      have m3 : biD .min [.int w, .int (M + b)] = some (.sh (.int w)) := by
        rw [bi_min_ii, if_neg (by omega)]
      refine ⟨_, ?_, .sh (.int o), .sh (.int n), rfl, .inr ⟨_, rfl⟩, .inr ⟨_, rfl⟩⟩
      rcases h7 with rfl | ⟨d, rfl⟩ <;> rcases h8 with rfl | ⟨d', rfl⟩ <;> simp [-bi_max_ii, -bi_min_ii, bindT, bindTs, m1, m3, h4, d_twos, tw]) ⟨_, _, by simp [btw], .inl rfl, .inl rfl⟩
  have zl : (zip2D ((O.take c).map D.int) ((N.take c).map D.int)).length = min c O.length := by
    simp [zip2D]
    omega
  rw [zl] at e'
  have ni : cmpD .In (.int p) (il O) = some false := by
    rw [in_il']
    simp [np]
  by_cases lc : O.length < c
  · rw [if_pos lc]
    rw [show O.take (min c O.length) = O from List.take_of_length_le (by omega)] at e'
    have lc' : (O.length : Int) < c := by omega
    have mn : biD .min [.int w, .int (btw O p : Nat)] = some (.sh (.int (min (w : Int) (btw O p)))) := by
      rw [bi_min_ii]
      congr 3
      split <;> omega
    generalize (btw O p : Int) = b at *
    simp [-q_for, -bi_min_ii, d_bits_at, s_bits_at, start_eq, ni, puts, e', lc', mn]
  · rw [if_neg lc]
    have lc' : ¬ (O.length : Int) < c := by omega
    simp [-q_for, d_bits_at, s_bits_at, start_eq, ni, puts, e', lc']
theorem m_check_part (G : GB Pg) (h : Pg f = some d_check_part_v1) (S A : List Int) (hl : A.length ≤ 900) (sub : ∀ x ∈ A, x ∈ S) (hs : A.Pairwise (· < ·)) : callD Pg fuel (k + 2) f [il S, il A] = .ok (.sh .non) [] := by
  rw [callD_eq h ⟨rfl, Nat.le_of_ble_eq_true rfl⟩]
  have lc1 : ev (Cz Pg fuel (k + 1)) (.lc (.var 2) (.v 2) (.e (.var 1)) [.or (.not (.val (.call 0 [.var 2] [] []))) (.val (.cmp .NotIn (.var 2) (.var 0)))] [2]) [.sh (il S), .sh (il A), .no] = .ok (.ow (.lst [])) [.sh (il S), .sh (il A), .no] := by
    rw [lc_none (r1 := [.sh (il S), .sh (il A), .no]) (l := A.map .int)]
    · simp [thawL, thw, thw1]
    · simp [itemsD]
    · rfl
    · rfl
    · simp; omega
    · intro x hx
      obtain ⟨a, ha, rfl⟩ := List.mem_map.mp hx
      have e1 := m_is_whole G.h0 fuel k a
      have m := sub a ha
      refine ⟨[.sh (il S), .sh (il A), .sh (.int a)], ?_, rfl⟩
      simp [lcF, wip, bindT, G.h0, d_is_whole, e1, in_il, m]
  have e2 := m_rises (fuel := fuel) (k := k) G.h11 A (by omega) hs
  have isl : isiD (il A) .list = some true := rfl
  have nn : cmpD .NotEq (.lst []) (.lst []) = some false := cmp_il_ne [] []
  simp [d_check_part_v1, s_check_part_v1, start_eq, isl, lc1, nn, G.h11, d_rises, e2]
theorem m_check_place (G : GB Pg) (h : Pg f = some d_check_place) (S : List Int) (p : Int) (hp : p ∈ S) : callD Pg fuel (k + 2) f [il S, .int p] = .ok (.sh .non) [] := by
  rw [callD_eq h ⟨rfl, Nat.le_of_ble_eq_true rfl⟩]
  have e1 := m_is_whole G.h0 fuel k p
  simp [d_check_place, s_check_place, start_eq, G.h0, d_is_whole, e1, in_il, hp]
theorem m_check_allowed (G : GB Pg) (h376 : Pg 376 = some d_check_part_v1) (h377 : Pg 377 = some d_check_place) (h : Pg f = some d_check_allowed) (S A : List Int) (hl : A.length ≤ 900) (sub : ∀ x ∈ A, x ∈ S) (hs : A.Pairwise (· < ·)) (p : Int) (hp : p ∈ S) (np : p ∉ A) : callD Pg fuel (k + 3) f [il S, il A, .int p] = .ok (.sh .non) [] := by
  rw [callD_eq h ⟨rfl, Nat.le_of_ble_eq_true rfl⟩]
  have e1 := m_check_part (fuel := fuel) (k := k) G h376 S A hl sub hs
  have e2 := m_check_place (fuel := fuel) (k := k) G h377 S p hp
  have ni : cmpD .In (.int p) (il A) = some false := by
    rw [in_il']
    simp [np]
  simp [d_check_allowed, s_check_allowed, start_eq, h376, h377, d_check_part_v1, d_check_place, e1, e2, ni]
theorem m_follows0 (G : GB Pg) (h2 : Pg 2 = some d_check_number) (h19 : Pg 19 = some d_check_code) (h363 : Pg 363 = some d_bits_at) (h376 : Pg 376 = some d_check_part_v1) (h377 : Pg 377 = some d_check_place) (h378 : Pg 378 = some d_bits_list) (h407 : Pg 407 = some d_check_allowed) (h : Pg f = some d_follows) (hf : 1000 ≤ fuel)
    (w : Nat) (hw : 1 ≤ w ∧ w ≤ 64) (S : List Int) (hS : PlW w S) (lS : S.length ≤ 800) (c : Nat) (A : List Int) (hA : A.Sublist S) (p : Int) (hp : p ∈ S) (np : p ∉ A) (B : Int) (e4 : callD Pg fuel (k + 5) 363 [.int w, il (ord A), il (nums A), .int c, .int p] = .ok (.sh (.int B)) []) :
    callD Pg fuel (k + 7) f [.int w, il S, .int c, il A, .int p] = .ok (.sh (.bl (decide (B = w)))) [] := by
  rw [callD_eq h ⟨rfl, Nat.le_of_ble_eq_true rfl⟩]
  have lA := hA.length_le
  have e1 := m_check_code (fuel := fuel) (k := k) G h2 h19 w hw S (by omega) hS (c : Int) (by omega)
  have e2 := m_check_allowed (fuel := fuel) (k := k + 3) G h376 h377 h407 S A (by omega) (fun x hx => hA.subset hx) (hS.2.1.sublist hA) p hp np
  have nr := hS.near hw.2
  have e3 := m_good_row (fuel := fuel) (k := k + 3) G.h4 G.h5 64 (by omega) A (by omega) (by omega) (hS.wi.1.sublist hA) (fun a ha b hb => nr b (hA.subset hb) a (hA.subset ha))
  have e3 : callD Pg fuel (k + 5) 5 [il A] = .ok (.sh (.tup [il (ord A), il (nums A)])) [] := e3
  have bl : callD Pg fuel (k + 6) 378 [.int w, .lst [.int p], .int c, il A] = .ok (.ow (.lst [.int B])) [] := by
    rw [callD_eq h378 ⟨rfl, Nat.le_of_ble_eq_true rfl⟩]
    have lc1 : ev (Cz Pg fuel (k + 5)) (.lc (.call 363 [.var 0, .var 4, .var 5, .var 2, .var 6] [] []) (.v 6) (.e (.var 1)) [] [6]) [.sh (.int w), .sh (.lst [.int p]), .sh (.int c), .sh (il A), .sh (il (ord A)), .sh (il (nums A)), .no] = .ok (.ow (.lst [.int B])) [.sh (.int w), .sh (.lst [.int p]), .sh (.int c), .sh (il A), .sh (il (ord A)), .sh (il (nums A)), .no] := by
      rw [lc_run (r1 := [.sh (.int w), .sh (.lst [.int p]), .sh (.int c), .sh (il A), .sh (il (ord A)), .sh (il (nums A)), .no]) (l := [.int p]) (fun _ => some (.int B))]
      · simp [thawL, thw, thw1]
      · simp [itemsD]
      · rfl
      · rfl
      · exact line_le (by simp)
      · intro x hx
        simp at hx
        subst hx
        refine ⟨[.sh (.int w), .sh (.lst [.int p]), .sh (.int c), .sh (il A), .sh (il (ord A)), .sh (il (nums A)), .sh (.int p)], ?_, rfl⟩
        simp [lcF, wip, bindT, h363, d_bits_at, e4]
    simp [d_bits_list, s_bits_list, start_eq, G.h5, d_good_row, e3, bindT, bindTs, lc1]
  simp [d_follows, s_follows, start_eq, h19, d_check_code, e1, h407, d_check_allowed, e2, h378, d_bits_list, bl, idxD, atL, ixN]
theorem m_follows (G : GB Pg) (h2 : Pg 2 = some d_check_number) (h19 : Pg 19 = some d_check_code) (h363 : Pg 363 = some d_bits_at) (h376 : Pg 376 = some d_check_part_v1) (h377 : Pg 377 = some d_check_place) (h378 : Pg 378 = some d_bits_list) (h407 : Pg 407 = some d_check_allowed) (h : Pg f = some d_follows) (hf : 1000 ≤ fuel)
    (w : Nat) (hw : 1 ≤ w ∧ w ≤ 64) (S : List Int) (hS : PlW w S) (lS : S.length ≤ 800) (c : Nat) (A : List Int) (hA : A.Sublist S) (p : Int) (hp : p ∈ S) (np : p ∉ A) (cost : ∀ (i : Nat) (h : i < (nums A).length), (nums A)[i] ≤ btw ((ord A).take i) p) :
    callD Pg fuel (k + 7) f [.int w, il S, .int c, il A, .int p] = .ok (.sh (.bl (decide (¬ A.length < c ∨ w ≤ btw A p)))) [] := by
  have lA := hA.length_le
  have nr := hS.near hw.2
  have op := ord_perm A
  have e4 := m_bits_at (fuel := fuel) (k := k + 3) G.h4 h363 hf w (ord A) (nums A) c p (by rw [op.length_eq]; exact ((gr_len _ _ _).2).symm) (by rw [op.length_eq]; omega) (fun m => np (op.mem_iff.mp m)) (fun o ho => nr o (hA.subset (op.mem_iff.mp ho)) p hp) cost
  rw [btw_perm op, op.length_eq] at e4
  rw [m_follows0 G h2 h19 h363 h376 h377 h378 h407 h hf w hw S hS lS c A hA p hp np _ e4]
  have dc : decide ((if A.length < c then min (w : Int) (btw A p) else (w : Int)) = w) = decide (¬ A.length < c ∨ w ≤ btw A p) := by
    rw [decide_eq_decide]
    split <;> rename_i q
    · constructor
      · intro e; right; omega
      · rintro (e | e)
        · exact absurd q e
        · omega
    · exact ⟨fun _ => .inl q, fun _ => rfl⟩
  rw [dc]
end
end Z
/-! VC: how many steps are needed. -/
namespace Z
open PySem (Str Operator CmpOp)
/-- _law_twos -/
def s__law_twos_v3 : List S :=
  [.ite (.val (.cmp .Eq (.var 0) (.con (.int 0)))) [.ret (.con (.int 999))] [],
    .asg (.v 1) (.con (.int 0)),
    .whl (.val (.cmp .Eq (.bin .Mod (.bi .int [.var 0]) (.con (.int 2))) (.con (.int 0)))) [.par [0, 1] [.bin .FloorDiv (.var 0) (.con (.int 2)), .bin .Add (.var 1) (.con (.int 1))]],
    .ret (.var 1)]
def d__law_twos_v3 : Df := { modes := [false], names := 2, body := s__law_twos_v3 }
/-- _law_power -/
def s__law_power_v2 : List S :=
  [.asg (.v 1) (.con (.int 1)),
    .for_ (.v 2) (.rng1 (.var 0)) [.asg (.v 1) (.bin .Mult (.var 1) (.con (.int 2)))],
    .ret (.var 1)]
def d__law_power_v2 : Df := { modes := [false], names := 3, body := s__law_power_v2 }
/-- _law_due -/
def s__law_due_v1 : List S :=
  [.par [3, 4] [.con (.int 0), .con (.int 0)],
    .whl (.and (.val (.cmp .Lt (.var 3) (.var 1))) (.val (.cmp .Lt (.var 4) (.var 0)))) [.asg (.v 3) (.bin .Add (.var 3) (.con (.int 1))),
    .asg (.v 4) (.bin .Add (.bin .Add (.var 4) (.var 2)) (.call 350 [.var 3] [] []))],
    .ret (.var 3)]
def d__law_due_v1 : Df := { modes := [false, false, false], names := 5, body := s__law_due_v1 }
/-- _law_side_right -/
def s__law_side_right : List S :=
  [.asg (.v 4) (.call 354 [.var 2] [] []),
    .asg (.v 5) (.bin .Sub (.bin .Sub (.call 354 [.var 0] [] []) (.con (.int 1))) (.bin .Mult (.bin .Add (.var 3) (.con (.int 2))) (.var 4))),
    .ite (.val (.cmp .Lt (.var 5) (.con (.int 0)))) [.ret (.con (.bl true))] [],
    .for_ (.v 6) (.e (.lst [.con (.int 0), .var 5])) [.for_ (.v 7) (.e (.lst [.bin .Sub (.var 3) (.con (.int 1)), .var 3])) [.asg (.v 8) (.lc (.bin .Add (.var 6) (.bin .Mult (.var 4) (.var 9))) (.v 9) (.rng1 (.bin .Add (.var 7) (.con (.int 1)))) [] [9]),
    .ite (.and (.val (.cmp .GtE (.var 7) (.con (.int 0)))) (.val (.cmp .NotEq (.call 412 [.var 0, .var 8, .var 1, .slc (.var 8) (.con (.int 1)) (.con .non), .idx (.var 8) (.con (.int 0))] [] []) (.cmp .Eq (.var 7) (.var 3))))) [.ret (.con (.bl false))] [],
    .ite (.and (.val (.cmp .GtE (.var 7) (.con (.int 0)))) (.val (.cmp .NotEq (.call 412 [.var 0, .var 8, .var 1, .slc (.var 8) (.con .non) (.var 7), .idx (.var 8) (.var 7)] [] []) (.cmp .Eq (.var 7) (.var 3))))) [.ret (.con (.bl false))] []]],
    .ret (.con (.bl true))]
def d__law_side_right : Df := { modes := [false, false, false, false], names := 10, body := s__law_side_right }
/-- _law_steps_right -/
def s__law_steps_right_v1 : List S :=
  [.par [1, 2, 3] [.bin .Add (.con (.int 1)) (.call 33 [.var 0, .con (.int 64)] [] []), .call 33 [.var 0, .con (.int 70)] [] [], .call 33 [.var 0, .con (.int 20)] [] []],
    .asg (.v 4) (.call 427 [.var 1, .var 2, .var 3] [] []),
    .ite (.or (.val (.cmp .NotEq (.bi .repr [.var 4]) (.bi .repr [.call 428 [.var 1, .var 2, .var 3] [] []]))) (.val (.cmp .Gt (.var 4) (.var 2)))) [.ret (.con (.bl false))] [],
    .ite (.or (.val (.cmp .Gt (.call 427 [.var 1, .var 2, .bin .Add (.var 3) (.con (.int 1))] [] []) (.var 4))) (.val (.cmp .Lt (.call 427 [.bi .min [.bin .Add (.var 1) (.con (.int 1)), .con (.int 64)], .var 2, .var 3] [] []) (.var 4)))) [.ret (.con (.bl false))] [],
    .ret (.or (.cmp .Gt (.var 4) (.con (.int 12))) (.call 429 [.var 1, .var 2, .var 3, .var 4] [] []))]
def d__law_steps_right_v1 : Df := { modes := [true], names := 5, body := s__law_steps_right_v1 }
/-- law -/
def s_law_v35 : List S :=
  [.for_ (.v 1) (.rng1 (.con (.int 3))) [.ite (.not (.val (.callN 430 (.call 35 [.var 0, .var 1] [] []) []))) [.ret (.con (.bl false))] []],
    .asg (.v 2) (.lst [.call 427 [.con (.int 64), .con (.int 66), .con (.int 16)] [] [], .call 427 [.con (.int 64), .con (.int 66), .con (.int 0)] [] [], .call 427 [.con (.int 3), .con (.int 3), .con (.int 1)] [] [], .call 427 [.con (.int 8), .con (.int 2), .con (.int 1)] [] [], .call 427 [.con (.int 9), .con (.int 0), .con (.int 3)] [] []]),
    .ite (.or (.val (.cmp .NotEq (.bi .repr [.var 2]) (.bi .repr [.lst [.con (.int 4), .con (.int 66), .con (.int 2), .con (.int 2), .con (.int 0)]]))) (.or (.val (.cmp .NotEq (.call 427 [.con (.int 64), .bin .Pow (.con (.int 10)) (.con (.int 29)), .con (.int 64)] [] []) (.con (.int 1)))) (.val (.cmp .NotEq (.call 427 [.con (.int 64), .bin .Pow (.con (.int 10)) (.con (.int 29)), .con (.int 0)] [] []) (.con (.int 66)))))) [.ret (.con (.bl false))] [],
    .ret (.and (.cmp .Is (.call 412 [.con (.int 3), .lst [.con (.int 0), .con (.int 2), .con (.int 4)], .con (.int 3), .lst [.con (.int 0), .con (.int 4)], .con (.int 2)] [] []) (.con (.bl false))) (.cmp .Is (.call 412 [.con (.int 3), .lst [.con (.int 0), .con (.int 2), .con (.int 4)], .con (.int 3), .lst [.con (.int 2), .con (.int 4)], .con (.int 0)] [] []) (.con (.bl true))))]
def d_law_v35 : Df := { modes := [false], names := 3, body := s_law_v35 }
theorem fa_big : 64 ≤ fa 128 := by
  rw [fa_fb 8 128 (by decide)]
  decide
section
variable {Pg : Nat → Option Df} {fuel k f : Nat} {C : Cf}
@[simp] theorem cmp_ne_bb {a b : Bool} : cmpD .NotEq (.bl a) (.bl b) = some (!(a == b)) := by
  simp [cmpD, okq, lay, dep, eqv]
/-- a loop that counts steps -/
theorem steps_loop {body : List S} (w many : Int) (low : Nat) (hw : w ≤ 64) (hb : ∀ n : Nat, n ≤ 128 → xs C body [.sh (.int w), .sh (.int many), .sh (.int low), .sh (.int n), .sh (.int (hs low n : Nat))] = .nx [.sh (.int w), .sh (.int many), .sh (.int low), .sh (.int (n + 1 : Nat)), .sh (.int (hs low (n + 1) : Nat))]) :
    ∀ (j q n : Nat), n + j = 128 → j + 1 ≤ q → (∀ m, m < n → Cont w many low m) → ∃ n', n' ≤ 128 ∧ IsNd w many low n' ∧
      whlL (evT C (.and (.val (.cmp .Lt (.var 3) (.var 1))) (.val (.cmp .Lt (.var 4) (.var 0))))) (xs C body) q [.sh (.int w), .sh (.int many), .sh (.int low), .sh (.int n), .sh (.int (hs low n : Nat))] = .nx [.sh (.int w), .sh (.int many), .sh (.int low), .sh (.int n'), .sh (.int (hs low n' : Nat))] := by
  intro j
  induction j with
  | zero =>
    intro q n hn hq hc
    obtain ⟨q, rfl⟩ : ∃ p, q = p + 1 := ⟨q - 1, by omega⟩
    have : n = 128 := by omega
    subst this
    have big : 64 ≤ hs low 128 := Nat.le_trans fa_big (Nat.le_add_left _ _)
    refine ⟨128, Nat.le_refl _, ⟨fun c => ?_, hc⟩, ?_⟩
    · have := c.2; omega
    · rw [whlL]
      have n2 : ¬ (hs low 128 : Int) < w := by omega
      by_cases c : (128 : Int) < many
      · simp [c, n2]
      · simp [c]
  | succ j ih =>
    intro q n hn hq hc
    obtain ⟨q, rfl⟩ : ∃ p, q = p + 1 := ⟨q - 1, by omega⟩
    by_cases c : Cont w many low n
    · obtain ⟨n', a, b, e⟩ := ih q (n + 1) (by omega) (by omega) (fun m hm => by
        by_cases z : m = n
        · exact z ▸ c
        · exact hc m (by omega))
      refine ⟨n', a, b, ?_⟩
      have t : evT C (.and (.val (.cmp .Lt (.var 3) (.var 1))) (.val (.cmp .Lt (.var 4) (.var 0)))) [.sh (.int w), .sh (.int many), .sh (.int low), .sh (.int n), .sh (.int (hs low n : Nat))] = .ok true [.sh (.int w), .sh (.int many), .sh (.int low), .sh (.int n), .sh (.int (hs low n : Nat))] := by
        simp [c.1, c.2]
      rw [whlL, t, R.run_ok, if_pos rfl, hb n (by omega), O.turn_nx, e]
    · refine ⟨n, by omega, ⟨c, hc⟩, ?_⟩
      rw [whlL]
      by_cases c1 : (n : Int) < many
      · have c2 : ¬ (hs low n : Int) < w := fun z => c ⟨c1, z⟩
        simp [c1, c2]
      · simp [c1]
theorem m_steps_needed (G : GB Pg) (h2 : Pg 2 = some d_check_number) (h : Pg f = some d_steps_needed) (hf : 1000 ≤ fuel) (w : Nat) (hw : 1 ≤ w ∧ w ≤ 64) (many : Int) (hm : 0 ≤ many) (low : Nat) (hl : low ≤ 64) :
    ∃ n, n ≤ 128 ∧ IsNd w many low n ∧ callD Pg fuel (k + 5) f [.int w, .int many, .int low] = .ok (.sh (.int n)) [] := by
  obtain ⟨n, a, b, e⟩ := steps_loop (C := Cz Pg fuel (k + 4)) (body := [.aug 3 .Add (.con (.int 1)), .aug 4 .Add (.bin .Add (.call 4 [.var 3] [] []) (.var 2))]) w many low (by omega) (fun n hn => by
    have e1 := m_twos (fuel := fuel) G.h4 (k + 3) 64 ((n : Int) + 1) (by omega) (by omega) (by omega)
    rw [hs_succ]
    have ee : ((hs low n + (low + v2 ((n + 1 : Nat) : Int)) : Nat) : Int) = (hs low n : Int) + ((v2 ((n : Int) + 1) : Int) + low) := by
      rw [show ((n + 1 : Nat) : Int) = (n : Int) + 1 from rfl]
      omega
    rw [ee, show ((n + 1 : Nat) : Int) = (n : Int) + 1 from rfl]
    simp [G.h4, d_twos, e1]) 128 fuel 0 (by omega) (by omega) (fun m hm => by omega)
  refine ⟨n, a, b, ?_⟩
  rw [callD_eq h ⟨rfl, Nat.le_of_ble_eq_true rfl⟩]
  have e1 := m_check_width G.h0 G.h1 G.h8 G.h9 fuel k (w : Int) (by omega)
  have e2 := m_check_from (fuel := fuel) (k := k + 1) G h2 many 0 hm
  have e3 := m_check_number (fuel := fuel) (k := k + 1) G h2 (low : Int) 0 64 (by omega)
  have e4 : x1 (Cz Pg fuel (k + 4)) (.whl (.and (.val (.cmp .Lt (.var 3) (.var 1))) (.val (.cmp .Lt (.var 4) (.var 0)))) [.aug 3 .Add (.con (.int 1)), .aug 4 .Add (.bin .Add (.call 4 [.var 3] [] []) (.var 2))]) [.sh (.int w), .sh (.int many), .sh (.int low), .sh (.int 0), .sh (.int 0)] = .nx [.sh (.int w), .sh (.int many), .sh (.int low), .sh (.int n), .sh (.int (hs low n : Nat))] := by
    rw [q_whl]
    have z : hs low 0 = 0 := rfl
    rw [z] at e
    exact e
  simp [-q_whl, d_steps_needed, s_steps_needed, start_eq, G.h9, d_check_width, e1, h2, d_check_number, e2, e3, puts, e4]
theorem m_twos3 (h : Pg f = some d__law_twos_v3) (m : Nat) (n : Int) (hn : n ≠ 0) (hb : n.natAbs < 2 ^ m) (hf : m + 1 ≤ fuel) : callD Pg fuel (k + 1) f [.int n] = .ok (.sh (.int (v2 n))) [] := by
  rw [callD_eq h ⟨rfl, Nat.le_of_ble_eq_true rfl⟩]
  obtain ⟨fu, rfl⟩ : ∃ f, fuel = f + 1 := ⟨fuel - 1, by omega⟩
  have hb2 : n.natAbs < 2 ^ fu := Nat.lt_of_lt_of_le hb (Nat.pow_le_pow_right (by decide) (by omega))
  have lp : ∀ (m : Nat) (n : Int) (f : Int), n ≠ 0 → n.natAbs < 2 ^ m →
    ∃ n' : Int, whlL (evT (Cz Pg (fu + 1) k) (.val (.cmp .Eq (.bin .Mod (.bi .int [.var 0]) (.con (.int 2))) (.con (.int 0))))) (xs (Cz Pg (fu + 1) k) [.par [0, 1] [.bin .FloorDiv (.var 0) (.con (.int 2)), .bin .Add (.var 1) (.con (.int 1))]]) (m + 1) [.sh (.int n), .sh (.int f)] = .nx [.sh (.int n'), .sh (.int (f + v2 n))] := by
    intro m
    induction m with
    | zero =>
      intro n f h b
      exfalso
      have : n.natAbs < 1 := b
      omega
    | succ m ih =>
      intro n f h b
      rw [whlL]
      by_cases e : n % 2 = 0
      · have hn : n / 2 ≠ 0 := by omega
        have hb : (n / 2).natAbs < 2 ^ m := by
          have : 2 ^ (m + 1) = 2 * 2 ^ m := by rw [Nat.pow_succ, Nat.mul_comm]
          omega
        obtain ⟨n', q⟩ := ih (n / 2) (f + 1) hn hb
        refine ⟨n', ?_⟩
        have eF : binI .FloorDiv n 2 = some (n / 2) := bI_fdiv (by decide) (by omega)
        have hv : f + (v2 n : Int) = f + 1 + (v2 (n / 2) : Int) := by rw [v2_even h e]; omega
        rw [hv, ← q]
        simp [bI_mod, e, eF, puts]
      · refine ⟨n, ?_⟩
        rw [v2_odd e]
        simp [bI_mod, e]
  obtain ⟨n', q⟩ := lp fu n 0 hn hb2
  have q2 : x1 (Cz Pg (fu + 1) k) (.whl (.val (.cmp .Eq (.bin .Mod (.bi .int [.var 0]) (.con (.int 2))) (.con (.int 0)))) [.par [0, 1] [.bin .FloorDiv (.var 0) (.con (.int 2)), .bin .Add (.var 1) (.con (.int 1))]]) [.sh (.int n), .sh (.int 0)] = .nx [.sh (.int n'), .sh (.int (v2 n))] := by
    rw [q_whl]
    rw [Int.zero_add] at q
    exact q
  simp [-q_whl, d__law_twos_v3, s__law_twos_v3, start_eq, hn, q2]
theorem m_due (h350 : Pg 350 = some d__law_twos_v3) (h : Pg f = some d__law_due_v1) (hf : 1000 ≤ fuel) (w : Nat) (hw : 1 ≤ w ∧ w ≤ 64) (many : Int) (low : Nat) :
    ∃ n, n ≤ 128 ∧ IsNd w many low n ∧ callD Pg fuel (k + 2) f [.int w, .int many, .int low] = .ok (.sh (.int n)) [] := by
  obtain ⟨n, a, b, e⟩ := steps_loop (C := Cz Pg fuel (k + 1)) (body := [.asg (.v 3) (.bin .Add (.var 3) (.con (.int 1))), .asg (.v 4) (.bin .Add (.bin .Add (.var 4) (.var 2)) (.call 350 [.var 3] [] []))]) w many low (by omega) (fun n hn => by
    have e1 := m_twos3 (fuel := fuel) (k := k) h350 64 ((n : Int) + 1) (by omega) (by omega) (by omega)
    rw [hs_succ]
    have ee : ((hs low n + (low + v2 ((n + 1 : Nat) : Int)) : Nat) : Int) = (hs low n : Int) + low + (v2 ((n : Int) + 1) : Int) := by
      rw [show ((n + 1 : Nat) : Int) = (n : Int) + 1 from rfl]
      omega
    rw [ee, show ((n + 1 : Nat) : Int) = (n : Int) + 1 from rfl]
    simp [h350, d__law_twos_v3, e1]) 128 fuel 0 (by omega) (by omega) (fun m hm => by omega)
  refine ⟨n, a, b, ?_⟩
  rw [callD_eq h ⟨rfl, Nat.le_of_ble_eq_true rfl⟩]
  have e4 : x1 (Cz Pg fuel (k + 1)) (.whl (.and (.val (.cmp .Lt (.var 3) (.var 1))) (.val (.cmp .Lt (.var 4) (.var 0)))) [.asg (.v 3) (.bin .Add (.var 3) (.con (.int 1))), .asg (.v 4) (.bin .Add (.bin .Add (.var 4) (.var 2)) (.call 350 [.var 3] [] []))]) [.sh (.int w), .sh (.int many), .sh (.int low), .sh (.int 0), .sh (.int 0)] = .nx [.sh (.int w), .sh (.int many), .sh (.int low), .sh (.int n), .sh (.int (hs low n : Nat))] := by
    rw [q_whl]
    have z : hs low 0 = 0 := rfl
    rw [z] at e
    exact e
  simp [-q_whl, d__law_due_v1, s__law_due_v1, start_eq, puts, e4]
end
end Z
/-! VD: the law of steps on one side. -/
namespace Z
open PySem (Str Operator CmpOp)
structure L35 (Pg : Nat → Option Df) : Prop extends GB Pg where
  h2 : Pg 2 = some d_check_number
  h19 : Pg 19 = some d_check_code
  h363 : Pg 363 = some d_bits_at
  h376 : Pg 376 = some d_check_part_v1
  h377 : Pg 377 = some d_check_place
  h378 : Pg 378 = some d_bits_list
  h407 : Pg 407 = some d_check_allowed
  h412 : Pg 412 = some d_follows
  h427 : Pg 427 = some d_steps_needed
  h32 : Pg 32 = some d__law_hash
  h33 : Pg 33 = some d__law_random_v1
  h34 : Pg 34 = some d__law_cell
  h35 : Pg 35 = some d__law_generator
  h350 : Pg 350 = some d__law_twos_v3
  h354 : Pg 354 = some d__law_double
  h428 : Pg 428 = some d__law_due_v1
  h429 : Pg 429 = some d__law_side_right
  h430 : Pg 430 = some d__law_steps_right_v1
section
variable {Pg : Nat → Option Df} {fuel k f : Nat} {C : Cf}
theorem ap_cost {low z : Nat} {b : Int} {A : List Int} {p : Int} (pl : PlW 64 (ap b (2 ^ low) (z + 1))) (hp : p ∈ ap b (2 ^ low) (z + 1)) (np : p ∉ A) (sub : A.Sublist (ap b (2 ^ low) (z + 1))) (a : Int) (ea : A = ap a (2 ^ low) z) :
    ∀ (i : Nat) (h : i < (nums A).length), (nums A)[i] ≤ btw ((ord A).take i) p := by
  intro i hi
  have wS := pl.wi
  have wA : Wi 64 A := ⟨wS.1.sublist sub, fun x hx => wS.2 x (sub.subset hx)⟩
  have nA : nums A = fl low z := by
    rw [nums_br wA, ea]
    have := br_ap 64 low a 1 z (by decide) (by rw [Int.mul_one, ← ea]; exact wA)
    rw [Int.mul_one] at this
    exact this
  have nS : br 64 (ap b (2 ^ low) (z + 1)) = fl low (z + 1) := by
    have := br_ap 64 low b 1 (z + 1) (by decide) (by rw [Int.mul_one]; exact wS)
    rw [Int.mul_one] at this
    exact this
  have ln : (nums A).length = A.length := by unfold nums; exact (gr_len _ _ _).2
  have lz : A.length = z := by rw [ea, ap_len]
  have := cost_ge wS hp np (fun x hx => sub.subset hx) wA.1 i (by omega) (by
    intro j hj
    rw [nS, nA, fl_get _ _ _ (by omega), fl_get _ _ _ (by omega)])
  rw [List.getElem?_eq_getElem hi] at this
  exact this
theorem m_foll (G : L35 Pg) (hf : 1000 ≤ fuel) (w : Nat) (hw : 1 ≤ w ∧ w ≤ 64) (low c : Nat) (b : Int) (hb : 0 ≤ b) (z : Nat) (hz : z ≤ 30) (le : b + 2 ^ low * ((z + 1 : Nat) : Int) ≤ 2 ^ w) :
    callD Pg fuel (k + 7) 412 [.int w, il (ap b (2 ^ low) (z + 1)), .int c, il (ap (b + 2 ^ low) (2 ^ low) z), .int b] = .ok (.sh (.bl (decide (¬ z < c ∨ w ≤ hs low z)))) []
    ∧ callD Pg fuel (k + 7) 412 [.int w, il (ap b (2 ^ low) (z + 1)), .int c, il (ap b (2 ^ low) z), .int (b + 2 ^ low * z)] = .ok (.sh (.bl (decide (¬ z < c ∨ w ≤ hs low z)))) [] := by
  have st : (0 : Int) < 2 ^ low := Int.pow_pos (by decide)
  have pS : PlW w (ap b (2 ^ low) (z + 1)) := ap_plw (by omega) hb st le
  have p64 := pS.mono hw.2
  have l1 : (ap b (2 ^ low) (z + 1)).length = z + 1 := ap_len _ _ _
  constructor
  · have sub : (ap (b + 2 ^ low) (2 ^ low) z).Sublist (ap b (2 ^ low) (z + 1)) := by rw [ap_cons]; exact List.sublist_cons_self _ _
    have hp : b ∈ ap b (2 ^ low) (z + 1) := by rw [ap_cons]; exact List.mem_cons_self
    have np : b ∉ ap (b + 2 ^ low) (2 ^ low) z := by
      intro m
      have := pS.2.1
      rw [ap_cons] at this
      have := (List.pairwise_cons.mp this).1 _ m
      omega
    have := m_follows (fuel := fuel) (k := k) G.toGB G.h2 G.h19 G.h363 G.h376 G.h377 G.h378 G.h407 G.h412 hf w hw _ pS (by omega) c _ sub b hp np (ap_cost p64 hp np sub _ rfl)
    rw [btw_below, ap_len] at this
    exact this
  · have sub : (ap b (2 ^ low) z).Sublist (ap b (2 ^ low) (z + 1)) := by rw [ap_succ]; exact List.sublist_append_left _ _
    have hp : b + 2 ^ low * z ∈ ap b (2 ^ low) (z + 1) := by rw [ap_succ]; simp
    have np : b + 2 ^ low * z ∉ ap b (2 ^ low) z := by
      intro m
      have := pS.2.1
      rw [ap_succ] at this
      have := (List.pairwise_append.mp this).2.2 _ m _ (List.mem_singleton.mpr rfl)
      omega
    have := m_follows (fuel := fuel) (k := k) G.toGB G.h2 G.h19 G.h363 G.h376 G.h377 G.h378 G.h407 G.h412 hf w hw _ pS (by omega) c _ sub _ hp np (ap_cost p64 hp np sub _ rfl)
    rw [btw_above, ap_len] at this
    exact this
theorem nd_dec {w c low n z : Nat} (h : IsNd w c low n) (hz : z ≤ n) : decide (¬ z < c ∨ w ≤ hs low z) = decide (z = n) := by
  rw [decide_eq_decide]
  constructor
  · intro q
    refine Classical.byContradiction fun x => ?_
    have := h.2 z (by omega)
    have a := this.1
    have b := this.2
    omega
  · rintro rfl
    refine Classical.byContradiction fun x => h.1 ⟨?_, ?_⟩ <;> omega
/-- the body of the inner loop -/
def b_side : List S := [.asg (.v 8) (.lc (.bin .Add (.var 6) (.bin .Mult (.var 4) (.var 9))) (.v 9) (.rng1 (.bin .Add (.var 7) (.con (.int 1)))) [] [9]),
    .ite (.and (.val (.cmp .GtE (.var 7) (.con (.int 0)))) (.val (.cmp .NotEq (.call 412 [.var 0, .var 8, .var 1, .slc (.var 8) (.con (.int 1)) (.con .non), .idx (.var 8) (.con (.int 0))] [] []) (.cmp .Eq (.var 7) (.var 3))))) [.ret (.con (.bl false))] [],
    .ite (.and (.val (.cmp .GtE (.var 7) (.con (.int 0)))) (.val (.cmp .NotEq (.call 412 [.var 0, .var 8, .var 1, .slc (.var 8) (.con .non) (.var 7), .idx (.var 8) (.var 7)] [] []) (.cmp .Eq (.var 7) (.var 3))))) [.ret (.con (.bl false))] []]
/-- a slot of a list of ints of the def's own, or none -/
def PoL (y : Sl) : Prop := y = .no ∨ ∃ l, y = .ow (il l)
theorem side_line (w c low n : Nat) (s5 b : Int) (hl : low ≤ 64) (hn : n ≤ 30) (y8 : Sl) (hy : PoL y8) (z : Nat) (hz : z ≤ 31) :
    ev C (.lc (.bin .Add (.var 6) (.bin .Mult (.var 4) (.var 9))) (.v 9) (.rng1 (.bin .Add (.var 7) (.con (.int 1)))) [] [9]) [.sh (.int w), .sh (.int c), .sh (.int low), .sh (.int n), .sh (.int (2 ^ low)), .sh (.int s5), .sh (.int b), .sh (.int ((z : Int) - 1)), y8, .no] =
      .ok (.ow (il (ap b (2 ^ low) z))) [.sh (.int w), .sh (.int c), .sh (.int low), .sh (.int n), .sh (.int (2 ^ low)), .sh (.int s5), .sh (.int b), .sh (.int ((z : Int) - 1)), y8, .no] := by
  have lt : (2 : Int) ^ low ≤ 2 ^ 64 := by
    have := Nat.pow_le_pow_right (n := 2) (by decide) hl
    exact_mod_cast this
  have st : (0 : Int) < 2 ^ low := Int.pow_pos (by decide)
  have p64 : (2 : Int) ^ 64 = 18446744073709551616 := by decide
  generalize (2 : Int) ^ low = st' at *
  rw [lc_run (r1 := [.sh (.int w), .sh (.int c), .sh (.int low), .sh (.int n), .sh (.int st'), .sh (.int s5), .sh (.int b), .sh (.int ((z : Int) - 1)), y8, .no]) (l := (rangeI 0 z 1).map .int) (fun d => match d with | D.int i => some (D.int (b + st' * i)) | _ => none)]
  · have e : List.filterMap (fun d => match d with | D.int i => some (D.int (b + st' * i)) | _ => none) ((rangeI 0 z 1).map D.int) = (ap b st' z).map .int := by
      unfold ap rangeI rangeN
      rw [if_pos rfl, List.map_map, List.map_map, List.filterMap_map]
      rw [show ((z : Int) - 0).toNat = z by omega, List.filterMap_eq_map.symm]
      congr 1
      funext i
      simp
    rw [e]
    rcases hy with rfl | ⟨d, rfl⟩ <;> simp [thawL, thw, thw1, flat_il]
  · rcases hy with rfl | ⟨d, rfl⟩ <;> exact rng1_eq (y := .inr (.int z)) (by simp) (by simp) (by omega)
  · rcases hy with rfl | ⟨d, rfl⟩ <;> rfl
  · rfl
  · exact line_le (by rw [rng0_len]; omega)
  · intro x hx
    obtain ⟨j, hj, rfl⟩ := List.getElem_of_mem hx
    rw [rng0_len] at hj
    rw [rng0_get]
    have em : binI .Mult st' (j : Int) = some (st' * j) := bI_mul 70 70 (by omega) (by omega) (by omega)
    refine ⟨[.sh (.int w), .sh (.int c), .sh (.int low), .sh (.int n), .sh (.int st'), .sh (.int s5), .sh (.int b), .sh (.int ((z : Int) - 1)), y8, .sh (.int j)], ?_, rfl⟩
    rcases hy with rfl | ⟨d, rfl⟩ <;> simp [lcF, wip, bindT, bindTs, em]
theorem side_body (G : L35 Pg) (hf : 1000 ≤ fuel) (w : Nat) (hw : 1 ≤ w ∧ w ≤ 64) (low c n : Nat) (hl : low ≤ 64) (hn : n ≤ 30) (nd : IsNd w c low n) (s5 b : Int) (hb : 0 ≤ b) (le : b + 2 ^ low * ((n + 1 : Nat) : Int) ≤ 2 ^ w) (y8 : Sl) (hy : PoL y8) (z : Nat) (hz : z = n ∨ z = n + 1) :
    ∃ y8', PoL y8' ∧ xs (Cz Pg fuel (k + 7)) b_side [.sh (.int w), .sh (.int c), .sh (.int low), .sh (.int n), .sh (.int (2 ^ low)), .sh (.int s5), .sh (.int b), .sh (.int ((z : Int) - 1)), y8, .no] =
      .nx [.sh (.int w), .sh (.int c), .sh (.int low), .sh (.int n), .sh (.int (2 ^ low)), .sh (.int s5), .sh (.int b), .sh (.int ((z : Int) - 1)), y8', .no] := by
  have sl := side_line (C := Cz Pg fuel (k + 7)) w c low n s5 b hl hn y8 hy z (by omega)
  refine ⟨.ow (il (ap b (2 ^ low) z)), .inr ⟨_, rfl⟩, ?_⟩
  rcases Nat.eq_zero_or_pos z with rfl | pz
  · rw [show ((0 : Nat) : Int) - 1 = -1 from rfl] at sl ⊢
    generalize (il (ap b (2 ^ low) 0)) = L at *
    rcases hy with rfl | ⟨d, rfl⟩ <;> simp [b_side, sl]
  · obtain ⟨t, rfl⟩ : ∃ t, z = t + 1 := ⟨z - 1, by omega⟩
    have st : (0 : Int) < 2 ^ low := Int.pow_pos (by decide)
    have lm : (2 : Int) ^ low * ((t + 1 : Nat) : Int) ≤ 2 ^ low * ((n + 1 : Nat) : Int) := Int.mul_le_mul_of_nonneg_left (by omega) (by omega)
    obtain ⟨e1, e2⟩ := m_foll (k := k) G hf w hw low c b hb t (by omega) (by omega)
    rw [nd_dec nd (by omega)] at e1 e2
    have tt : (((t + 1 : Nat) : Int) - 1) = t := by omega
    rw [tt] at sl ⊢
    have ge : (0 : Int) ≤ t := by omega
    have dq : decide ((t : Int) = n) = decide (t = n) := by rw [decide_eq_decide]; omega
    have s1 : slcD (il (ap b (2 ^ low) (t + 1))) (.int 1) .non = some (.ow (il (ap (b + 2 ^ low) (2 ^ low) t))) := by
      rw [ap_cons]
      have := cut_drop (b :: ap (b + 2 ^ low) (2 ^ low) t) 0
      show (some (.ow (.lst (cut ((b :: ap (b + 2 ^ low) (2 ^ low) t).map .int) (some (((0 : Nat) : Int) + 1)) none))) : Option Val) = _
      rw [this]
      first | done | rfl
    have s2 : slcD (il (ap b (2 ^ low) (t + 1))) .non (.int t) = some (.ow (il (ap b (2 ^ low) t))) := by
      have c1 := cut_take (ap b (2 ^ low) (t + 1)) t
      rw [ap_succ] at c1 ⊢
      rw [List.take_left' (ap_len _ _ _)] at c1
      show (some (.ow (.lst (cut ((ap b (2 ^ low) t ++ [b + 2 ^ low * t]).map .int) none (some (t : Int))))) : Option Val) = _
      rw [c1]
      first | done | rfl
    have i1 : idxD (il (ap b (2 ^ low) (t + 1))) (.int 0) = some (.int b) := by
      rw [ap_cons]
      first | done | simp [idxD, atL, ixN]
    have i2 : idxD (il (ap b (2 ^ low) (t + 1))) (.int t) = some (.int (b + 2 ^ low * t)) := by
      refine (at_il (ap b (2 ^ low) (t + 1)) t (by rw [ap_len]; omega)).trans ?_
      simp [ap]
    generalize il (ap b (2 ^ low) (t + 1)) = L at *
    generalize (2 : Int) ^ low = stp at *
    rcases hy with rfl | ⟨d, rfl⟩ <;> simp [b_side, por, isNon, sl, ge, s1, s2, i1, i2, G.h412, d_follows, e1, e2, dq]
theorem side_inner (G : L35 Pg) (hf : 1000 ≤ fuel) (w : Nat) (hw : 1 ≤ w ∧ w ≤ 64) (low c n : Nat) (hl : low ≤ 64) (hn : n ≤ 30) (nd : IsNd w c low n) (s5 b : Int) (hb : 0 ≤ b) (le : b + 2 ^ low * ((n + 1 : Nat) : Int) ≤ 2 ^ w) (y7 y8 : Sl) (hy7 : Pn y7) (hy : PoL y8) :
    ∃ y7' y8', Pn y7' ∧ PoL y8' ∧ x1 (Cz Pg fuel (k + 7)) (.for_ (.v 7) (.e (.lst [.bin .Sub (.var 3) (.con (.int 1)), .var 3])) b_side) [.sh (.int w), .sh (.int c), .sh (.int low), .sh (.int n), .sh (.int (2 ^ low)), .sh (.int s5), .sh (.int b), y7, y8, .no] =
      .nx [.sh (.int w), .sh (.int c), .sh (.int low), .sh (.int n), .sh (.int (2 ^ low)), .sh (.int s5), .sh (.int b), y7', y8', .no] := by
  have er : evI (Cz Pg fuel (k + 7)) (.e (.lst [.bin .Sub (.var 3) (.con (.int 1)), .var 3])) [.sh (.int w), .sh (.int c), .sh (.int low), .sh (.int n), .sh (.int (2 ^ low)), .sh (.int s5), .sh (.int b), y7, y8, .no] = .ok [.int ((n : Int) - 1), .int n] [.sh (.int w), .sh (.int c), .sh (.int low), .sh (.int n), .sh (.int (2 ^ low)), .sh (.int s5), .sh (.int b), y7, y8, .no] := by
    rcases hy7 with rfl | ⟨d, rfl⟩ <;> rcases hy with rfl | ⟨d, rfl⟩ <;> simp [itemsD]
  obtain ⟨r', e', y7', y8', rfl, a, b⟩ := for_run (t := .v 7) (body := b_side) (fun _ r => ∃ (y7 y8 : Sl), r = [.sh (.int w), .sh (.int c), .sh (.int low), .sh (.int n), .sh (.int (2 ^ low)), .sh (.int s5), .sh (.int b), y7, y8, .no] ∧ Pn y7 ∧ PoL y8) er (by
    intro j hj r hr
    obtain ⟨y7, y8, rfl, h7, h8⟩ := hr
    obtain ⟨z, ez, hz⟩ : ∃ z : Nat, [D.int ((n : Int) - 1), D.int n][j] = .int ((z : Int) - 1) ∧ (z = n ∨ z = n + 1) := by
      match j, hj with
      | 0, _ => exact ⟨n, rfl, .inl rfl⟩
      | 1, _ => exact ⟨n + 1, by simp <;> omega, .inr rfl⟩
    rw [ez]
    obtain ⟨y8', p8, e8⟩ := side_body (k := k) G hf w hw low c n hl hn nd s5 b hb le y8 h8 z hz
    refine ⟨_, ?_, .sh (.int ((z : Int) - 1)), y8', rfl, .inr ⟨_, rfl⟩, p8⟩
    generalize b_side = B at *
    generalize ((z : Int) - 1) = zz at *
    rcases h7 with rfl | ⟨d, rfl⟩ <;> rcases h8 with rfl | ⟨d', rfl⟩ <;> simp [bindT, e8]) ⟨_, _, rfl, hy7, hy⟩
  exact ⟨y7', y8', a, b, e'⟩
theorem m_side_right (G : L35 Pg) (hf : 1000 ≤ fuel) (w : Nat) (hw : 1 ≤ w ∧ w ≤ 64) (low c n : Nat) (hl : low ≤ 64) (hn : n ≤ 30) (nd : IsNd w c low n) :
    callD Pg fuel (k + 8) 429 [.int w, .int c, .int low, .int n] = .ok (.sh (.bl true)) [] := by
  rw [callD_eq G.h429 ⟨rfl, Nat.le_of_ble_eq_true rfl⟩]
  have e1 := m_double (fuel := fuel) (k := k + 6) G.h354 low (by omega)
  have e2 := m_double (fuel := fuel) (k := k + 6) G.h354 w (by omega)
  have st : (0 : Int) < 2 ^ low := Int.pow_pos (by decide)
  have lt : (2 : Int) ^ low ≤ 2 ^ 64 := by
    have := Nat.pow_le_pow_right (n := 2) (by decide) hl
    exact_mod_cast this
  have p64 : (2 : Int) ^ 64 = 18446744073709551616 := by decide
  have em : binI .Mult ((n : Int) + 2) (2 ^ low) = some (((n : Int) + 2) * 2 ^ low) := bI_mul 70 70 (by omega) (by omega) (by omega)
  obtain ⟨F, hF⟩ : ∃ F : Int, (2 : Int) ^ w - 1 - ((n : Int) + 2) * 2 ^ low = F := ⟨_, rfl⟩
  by_cases neg : F < 0
  · simp [-q_for, d__law_side_right, s__law_side_right, start_eq, G.h354, d__law_double, e1, e2, em, hF, neg]
  · have dd : ((n : Int) + 2) * 2 ^ low = 2 ^ low * ((n + 1 : Nat) : Int) + 2 ^ low := by
      rw [Int.mul_comm, show (n : Int) + 2 = ((n + 1 : Nat) : Int) + 1 by omega, Int.mul_add, Int.mul_one]
    have er : ∀ y7 y8, Pn y7 → PoL y8 → evI (Cz Pg fuel (k + 7)) (.e (.lst [.con (.int 0), .var 5])) [.sh (.int w), .sh (.int c), .sh (.int low), .sh (.int n), .sh (.int (2 ^ low)), .sh (.int F), .no, y7, y8, .no] = .ok [.int 0, .int F] [.sh (.int w), .sh (.int c), .sh (.int low), .sh (.int n), .sh (.int (2 ^ low)), .sh (.int F), .no, y7, y8, .no] := by
      intro y7 y8 h7 h8
      rcases h7 with rfl | ⟨d, rfl⟩ <;> rcases h8 with rfl | ⟨d, rfl⟩ <;> simp [itemsD]
    obtain ⟨r', e', y6, y7', y8', rfl, a6, a7, a8⟩ := for_run (t := .v 6) (body := [.for_ (.v 7) (.e (.lst [.bin .Sub (.var 3) (.con (.int 1)), .var 3])) b_side]) (fun _ r => ∃ (y6 y7 y8 : Sl), r = [.sh (.int w), .sh (.int c), .sh (.int low), .sh (.int n), .sh (.int (2 ^ low)), .sh (.int F), y6, y7, y8, .no] ∧ Pn y6 ∧ Pn y7 ∧ PoL y8) (er .no .no (.inl rfl) (.inl rfl)) (by
      intro j hj r hr
      obtain ⟨y6, y7, y8, rfl, h6, h7, h8⟩ := hr
      obtain ⟨b, eb, hb, le⟩ : ∃ b : Int, [D.int 0, D.int F][j] = .int b ∧ 0 ≤ b ∧ b + 2 ^ low * ((n + 1 : Nat) : Int) ≤ 2 ^ w := by
        match j, hj with
        | 0, _ => exact ⟨0, rfl, by omega, by omega⟩
        | 1, _ => exact ⟨F, rfl, by omega, by omega⟩
      rw [eb]
      obtain ⟨y7', y8', p7, p8, e8⟩ := side_inner (k := k) G hf w hw low c n hl hn nd F b hb le y7 y8 h7 h8
      refine ⟨_, ?_, .sh (.int b), y7', y8', rfl, .inr ⟨_, rfl⟩, p7, p8⟩
      generalize b_side = B at *
      rcases h6 with rfl | ⟨d, rfl⟩ <;> rcases h7 with rfl | ⟨d, rfl⟩ <;> rcases h8 with rfl | ⟨d', rfl⟩ <;> simp [-q_for, bindT, e8]) ⟨_, _, _, rfl, .inl rfl, .inl rfl, .inl rfl⟩
    rw [b_side] at e'
    generalize (2 : Int) ^ low = stp at *
    generalize (2 : Int) ^ w = top at *
    rcases a6 with rfl | ⟨d, rfl⟩ <;> rcases a7 with rfl | ⟨d, rfl⟩ <;> rcases a8 with rfl | ⟨d', rfl⟩ <;>
    simp [-q_for, d__law_side_right, s__law_side_right, start_eq, G.h354, d__law_double, e1, e2, em, hF, neg, e']
end
end Z
/-! VE: the law of steps on one side, joined. -/
namespace Z
open PySem (Str Operator CmpOp)
section
variable {Pg : Nat → Option Df} {fuel k f : Nat} {C : Cf}
set_option maxHeartbeats 4000000 in
theorem m_steps_right35 (G : L35 Pg) (hf : 1000 ≤ fuel) (m : Nat) (hm : m ≤ 700000) (g : D) (hg : Gd m g) : ∃ g', shal g' = true ∧ callD Pg fuel (k + 9) 430 [g] = .ok (.sh (.bl true)) [g'] := by
  rw [callD_eq G.h430 ⟨rfl, Nat.le_of_ble_eq_true rfl⟩]
  obtain ⟨v1, g1, hv1, hg1, e1⟩ := m_random (fuel := fuel) (k := k + 6) G.h32 G.h33 m (by omega) g hg 64 (by decide)
  obtain ⟨v2, g2, hv2, hg2, e2⟩ := m_random (fuel := fuel) (k := k + 6) G.h32 G.h33 (m + 3) (by omega) g1 hg1 70 (by decide)
  obtain ⟨v3, g3, hv3, hg3, e3⟩ := m_random (fuel := fuel) (k := k + 6) G.h32 G.h33 (m + 6) (by omega) g2 hg2 20 (by decide)
  obtain ⟨w, hw⟩ : ∃ w : Nat, 1 + v1 = w := ⟨(1 + v1).toNat, by omega⟩
  obtain ⟨c, rfl⟩ : ∃ c : Nat, v2 = c := ⟨v2.toNat, by omega⟩
  obtain ⟨low, rfl⟩ : ∃ c : Nat, v3 = c := ⟨v3.toNat, by omega⟩
  obtain ⟨n, n1, nd, e4⟩ := m_steps_needed (fuel := fuel) (k := k + 3) G.toGB G.h2 G.h427 hf w (by omega) c (by omega) low (by omega)
  obtain ⟨n', _, nd', e5⟩ := m_due (fuel := fuel) (k := k + 6) G.h350 G.h428 hf w (by omega) c low
  obtain rfl := nd.uniq nd'
  obtain ⟨p, p1, pd, e6⟩ := m_steps_needed (fuel := fuel) (k := k + 3) G.toGB G.h2 G.h427 hf w (by omega) c (by omega) (low + 1) (by omega)
  rw [show ((low + 1 : Nat) : Int) = (low : Int) + 1 from rfl] at e6
  obtain ⟨w', hw'⟩ : ∃ w' : Nat, w' = min (w + 1) 64 := ⟨_, rfl⟩
  obtain ⟨q, q1, qd, e7⟩ := m_steps_needed (fuel := fuel) (k := k + 3) G.toGB G.h2 G.h427 hf w' (by omega) c (by omega) low (by omega)
  have mn : biD .min [.int ((w : Int) + 1), .int 64] = some (.sh (.int w')) := by
    rw [bi_min_ii]
    congr 3
    split <;> omega
  have l1 : ¬ (n : Int) > c := by
    have := nd.le_many (by omega)
    omega
  have l2 : ¬ (p : Int) > n := by
    have := nd.le_low pd
    omega
  have l3 : ¬ (q : Int) < n := by
    have := nd.le_w (by omega) qd
    omega
  have sm : (n : Int).natAbs < 10 ^ 100 := by
    have : (10 : Nat) ^ 100 > 1000 := by decide
    omega
  have rp := bi_repr_int sm
  have rs := repr_same (d := .int n) 100 (by simpa [pln] using sm)
  generalize (pyT (.int n)).shown = tx at *
  refine ⟨g3, hg3.shal, ?_⟩
  by_cases big : (n : Int) > 12
  · simp [-bi_min_ii, d__law_steps_right_v1, s__law_steps_right_v1, start_eq, G.h33, d__law_random_v1, e1, hg1.shal, e2, hg2.shal, e3, hg3.shal, hw, puts, G.h427, d_steps_needed, e4, G.h428, d__law_due_v1, e5, rp, rs, l1, e6, l2, mn, e7, l3, big]
  · have e8 := m_side_right (fuel := fuel) (k := k) G hf w (by omega) low c n (by omega) (by omega) nd
    simp [-bi_min_ii, d__law_steps_right_v1, s__law_steps_right_v1, start_eq, G.h33, d__law_random_v1, e1, hg1.shal, e2, hg2.shal, e3, hg3.shal, hw, puts, G.h427, d_steps_needed, e4, G.h428, d__law_due_v1, e5, rp, rs, l1, e6, l2, mn, e7, l3, big, G.h429, d__law_side_right, e8]
end
end Z
/-! VF: the law of steps on one side. -/
namespace Z
open PySem (Str Operator CmpOp)
section
variable {Pg : Nat → Option Df} {fuel k f : Nat} {C : Cf}
theorem nd_of {w : Int} {many : Int} {low n : Nat} (hn : n < 256) (h1 : ¬ ((n : Int) < many ∧ ((low * n + fb 8 n : Nat) : Int) < w)) (h2 : ∀ m, m < n → ((m : Int) < many ∧ ((low * m + fb 8 m : Nat) : Int) < w)) : IsNd w many low n := by
  refine ⟨fun c => h1 ⟨c.1, ?_⟩, fun m hm => ⟨(h2 m hm).1, ?_⟩⟩
  · rw [← fa_fb 8 n hn]
    exact c.2
  · have := (h2 m hm).2
    rw [← fa_fb 8 m (by omega)] at this
    exact this
theorem x_nums : nums [0, 4] = [0, 2] ∧ ord [0, 4] = [0, 4] := by
  have a1 : v2 4 = 2 := v2_pow 2
  constructor <;> simp [nums, ord, gr, mi, gsum, a1]
theorem m_bits2 (h4 : Pg 4 = some d_twos) (h : Pg f = some d_bits_at) (hf : 1000 ≤ fuel) : callD Pg fuel (k + 2) f [.int 3, il [0, 4], il [0, 2], .int 3, .int 2] = .ok (.sh (.int 2)) [] := by
  rw [callD_eq h ⟨rfl, Nat.le_of_ble_eq_true rfl⟩]
  have t1 := m_twos (fuel := fuel) h4 k 64 2 (by decide) (by decide) (by omega)
  have t2 := m_twos (fuel := fuel) h4 k 64 (-2) (by decide) (by decide) (by omega)
  have a1 : v2 2 = 1 := v2_pow 1
  rw [v2_neg] at t2
  rw [a1] at t1 t2
  have c1 : cut [D.int 0, D.int 4] none (some 3) = [D.int 0, D.int 4] := rfl
  have c2 : cut [D.int 0, D.int 2] none (some 3) = [D.int 0, D.int 2] := rfl
  have ni : cmpD .In (.int 2) (.lst [.int 0, .int 4]) = some false := by
    have := in_il' 2 [0, 4]
    simpa using this
  simp [d_bits_at, s_bits_at, start_eq, ni, puts, por, isNon, slcD, part?, c1, c2, zipD, zip2D, lstD, forL, bindT, bindTs, h4, d_twos, t1, t2, il]
set_option maxHeartbeats 4000000 in
theorem m_law35 (G : L35 Pg) (h : Pg f = some d_law_v35) (hf : 1000 ≤ fuel) (ns : List Int) : callD Pg fuel (k + 10) f [.scr ns] = .ok (.sh (.bl true)) [] := by
  rw [callD_eq h ⟨rfl, Nat.le_of_ble_eq_true rfl⟩]
  have er := rng1_eq (C := Cz Pg fuel (k + 9)) (b := .con (.int 3)) (r := [.sh (.scr ns), .no, .no]) (r2 := [.sh (.scr ns), .no, .no]) (y := .inr (.int 3)) (j := ((3 : Nat) : Int)) (by simp) (by simp) (by omega)
  obtain ⟨r', e', y1, rfl, hy1⟩ := for_run (t := .v 1) (body := [.ite (.not (.val (.callN 430 (.call 35 [.var 0, .var 1] [] []) []))) [.ret (.con (.bl false))] []]) (fun _ r => ∃ (y1 : Sl), r = [.sh (.scr ns), y1, .no] ∧ Pn y1) er (by
    intro j hj r hr
    rw [rng0_len] at hj
    rw [rng0_get]
    obtain ⟨y1, rfl, hy1⟩ := hr
    obtain ⟨g0, hg0, e0⟩ := m_generator (fuel := fuel) (k := k + 7) G.h34 G.h35 ns j (by omega)
    obtain ⟨g1, hg1, e1⟩ := m_steps_right35 (fuel := fuel) (k := k) G hf (1000 * j) (by omega) g0 hg0
    refine ⟨_, ?_, .sh (.int j), rfl, .inr ⟨_, rfl⟩⟩
    rcases hy1 with rfl | ⟨d, rfl⟩ <;> simp [bindT, G.h35, d__law_generator, e0, G.h430, d__law_steps_right_v1, callNR, e1]) ⟨.no, rfl, .inl rfl⟩
  have sn : ∀ (w : Nat) (many : Int) (low n : Nat), 1 ≤ w ∧ w ≤ 64 → 0 ≤ many → low ≤ 64 → IsNd w many low n → callD Pg fuel (k + 9) 427 [.int w, .int many, .int low] = .ok (.sh (.int n)) [] := by
    intro w many low n hw hm hl nd
    obtain ⟨n', _, nd', e⟩ := m_steps_needed (fuel := fuel) (k := k + 4) G.toGB G.h2 G.h427 hf w hw many hm low hl
    rw [nd.uniq nd']
    exact e
  have a1 := sn 64 66 16 4 (by decide) (by decide) (by decide) (nd_of (by decide) (by decide) (by decide))
  have a2 := sn 64 66 0 66 (by decide) (by decide) (by decide) (nd_of (by decide) (by decide) (by decide))
  have a3 := sn 3 3 1 2 (by decide) (by decide) (by decide) (nd_of (by decide) (by decide) (by decide))
  have a4 := sn 8 2 1 2 (by decide) (by decide) (by decide) (nd_of (by decide) (by decide) (by decide))
  have a5 := sn 9 0 3 0 (by decide) (by decide) (by decide) (nd_of (by decide) (by decide) (by decide))
  have a6 := sn 64 100000000000000000000000000000 64 1 (by decide) (by decide) (by decide) (nd_of (by decide) (by decide) (by decide))
  have a7 := sn 64 100000000000000000000000000000 0 66 (by decide) (by decide) (by decide) (nd_of (by decide) (by decide) (by decide))
  clear sn
  simp only [show ((64 : Nat) : Int) = 64 from rfl, show ((66 : Nat) : Int) = 66 from rfl, show ((16 : Nat) : Int) = 16 from rfl, show ((4 : Nat) : Int) = 4 from rfl, show ((0 : Nat) : Int) = 0 from rfl, show ((1 : Nat) : Int) = 1 from rfl, show ((2 : Nat) : Int) = 2 from rfl, show ((3 : Nat) : Int) = 3 from rfl, show ((8 : Nat) : Int) = 8 from rfl, show ((9 : Nat) : Int) = 9 from rfl] at a1 a2 a3 a4 a5 a6 a7
  have b10 : bits 10 = 4 := by decide
  have eP : binI .Pow 10 29 = some 100000000000000000000000000000 := by
    simp only [binI, b10]
    rfl
  obtain ⟨z, z1, z2, _⟩ := repr_il (l := [4, 66, 2, 2, 0]) (by decide) (by decide)
  have f1 := m_follows0 (fuel := fuel) (k := k + 2) G.toGB G.h2 G.h19 G.h363 G.h376 G.h377 G.h378 G.h407 G.h412 hf 3 (by decide) [0, 2, 4] ⟨by decide, by decide, by decide⟩ (by decide) 3 [0, 4] (by decide) 2 (by decide) (by decide) 2 (by
    rw [x_nums.1, x_nums.2]
    exact m_bits2 (k := k + 5) G.h4 G.h363 hf)
  have f2 := (m_foll (fuel := fuel) (k := k + 2) G hf 3 (by decide) 1 3 0 (by decide) 2 (by decide) (by decide)).1
  have h2 : hs 1 2 = 3 := by
    unfold hs
    rw [fa_fb 8 2 (by decide)]
    rfl
  rw [h2, show ap 0 (2 ^ 1) (2 + 1) = [0, 2, 4] from rfl, show ap (0 + 2 ^ 1) (2 ^ 1) 2 = [2, 4] from rfl] at f2
  simp only [show ((3 : Nat) : Int) = 3 from rfl] at f1 f2
  simp only [il, List.map_cons, List.map_nil] at z1 f1 f2
  simp at f1 f2
  have i1 : cmpD .Is (.bl false) (.bl false) = some true := rfl
  have i2 : cmpD .Is (.bl true) (.bl true) = some true := rfl
  rcases hy1 with rfl | ⟨d, rfl⟩ <;>
  simp [-q_for, i1, i2, d_law_v35, s_law_v35, start_eq, e', G.h427, d_steps_needed, a1, a2, a3, a4, a5, z1, z2, eP, a6, a7, G.h412, d_follows, f1, f2]
end
end Z
/-! ### the text: printed by zprint.py -/
namespace Z
open PySem PySem.Spec L2
open PyProof.Rows hiding St
def topS (i : Nat) : Stmt := PySem.Challenge.pw_anyplaces_k35_steps_on_one_side.main.body.getD i (.Pass ⟨0, 0, 0, 0⟩)
def FU : Nat := 100000
def Pl : List (Nat × Df) := [(0, d_is_whole), (1, d_is_between), (2, d_check_number), (3, d_power_of_two), (4, d_twos), (5, d_good_row), (8, d_is_width), (9, d_check_width), (10, d_is_of_width), (11, d_rises), (12, d_are_places), (13, d_check_places), (19, d_check_code), (363, d_bits_at), (376, d_check_part_v1), (377, d_check_place), (378, d_bits_list), (407, d_check_allowed), (412, d_follows), (427, d_steps_needed), (32, d__law_hash), (33, d__law_random), (34, d__law_cell), (35, d__law_generator), (350, d__law_twos_v3), (354, d__law_power_v2), (428, d__law_due_v1), (429, d__law_side_right), (430, d__law_steps_right_v1), (431, d_law_v35)]
def Pg (n : Nat) : Option Df := Pl.lookup n
/-- the names of the module -/
structure Mz (T : Tb) : Prop where
  m_bool : T.mg "bool" = none
  m_int : T.mg "int" = none
  m_isinstance : T.mg "isinstance" = none
  m_len : T.mg "len" = none
  m_list : T.mg "list" = none
  m_max : T.mg "max" = none
  m_min : T.mg "min" = none
  m_range : T.mg "range" = none
  m_repr : T.mg "repr" = none
  m_sum : T.mg "sum" = none
  m_zip : T.mg "zip" = none
  g_MOST_BITS : ∃ t, T.mg "MOST_BITS" = some (.int 64 t)
  g_MOST_WIDTH : ∃ t, T.mg "MOST_WIDTH" = some (.int 64 t)
/-- every def at a depth -/
structure Fm (T : Tb) (k : Nat) : Prop where
  c_is_whole : Cal T k "is_whole" [false] (callD Pg FU k 0)
  c_is_between : Cal T k "is_between" [false, false, false] (callD Pg FU k 1)
  c_check_number : Cal T k "check_number" [false, false, false] (callD Pg FU k 2)
  c_power_of_two : Cal T k "power_of_two" [false] (callD Pg FU k 3)
  c_twos : Cal T k "twos" [false] (callD Pg FU k 4)
  c_good_row : Cal T k "good_row" [false] (callD Pg FU k 5)
  c_is_width : Cal T k "is_width" [false] (callD Pg FU k 8)
  c_check_width : Cal T k "check_width" [false] (callD Pg FU k 9)
  c_is_of_width : Cal T k "is_of_width" [false, false] (callD Pg FU k 10)
  c_rises : Cal T k "rises" [false] (callD Pg FU k 11)
  c_are_places : Cal T k "are_places" [false, false] (callD Pg FU k 12)
  c_check_places : Cal T k "check_places" [false, false] (callD Pg FU k 13)
  c_check_code : Cal T k "check_code" [false, false, false] (callD Pg FU k 19)
  c_bits_at : Cal T k "bits_at" [false, false, false, false, false] (callD Pg FU k 363)
  c_check_part : Cal T k "check_part" [false, false] (callD Pg FU k 376)
  c_check_place : Cal T k "check_place" [false, false] (callD Pg FU k 377)
  c_bits_list : Cal T k "bits_list" [false, false, false, false] (callD Pg FU k 378)
  c_check_allowed : Cal T k "check_allowed" [false, false, false] (callD Pg FU k 407)
  c_follows : Cal T k "follows" [false, false, false, false, false] (callD Pg FU k 412)
  c_steps_needed : Cal T k "steps_needed" [false, false, false] (callD Pg FU k 427)
  c__law_hash : Cal T k "_law_hash" [false, false] (callD Pg FU k 32)
  c__law_random : Cal T k "_law_random" [true, false] (callD Pg FU k 33)
  c__law_cell : Cal T k "_law_cell" [false, false] (callD Pg FU k 34)
  c__law_generator : Cal T k "_law_generator" [false, false] (callD Pg FU k 35)
  c__law_twos : Cal T k "_law_twos" [false] (callD Pg FU k 350)
  c__law_power : Cal T k "_law_power" [false] (callD Pg FU k 354)
  c__law_due : Cal T k "_law_due" [false, false, false] (callD Pg FU k 428)
  c__law_side_right : Cal T k "_law_side_right" [false, false, false, false] (callD Pg FU k 429)
  c__law_steps_right : Cal T k "_law_steps_right" [true] (callD Pg FU k 430)
  c_law : Cal T k "law" [false] (callD Pg FU k 431)
theorem sc_is_whole : FnScope ["value"] ["value"] (defScope (topS 7)) := ⟨rfl, rfl, rfl, by decide +kernel, rfl, by decide +kernel, by decide +kernel⟩
set_option maxHeartbeats 4000000 in
theorem b_is_whole {T : Tb} {k : Nat} (z : Mz T) (h : Fm T k) : ∀ (f : Addr) (cdv : Value) (A : Around) (outer : List PySem.Env) (s : Shared) (H : Hp) (E : XK), CB T k (asDef T ["value"] "is_whole" (defScope (topS 7)) f cdv A outer s H E) → DSs T (Cq Pg FU k) (asDef T ["value"] "is_whole" (defScope (topS 7)) f cdv A outer s H E) (defBody (topS 7)) s_is_whole :=
  fun f cdv A outer s H E w =>
    ss_cons (s_ret (e_and w (e_isi w .int (b_var 0 rfl (.inl rfl)) (pe_bltn rfl z.m_int (by first | exact PyProof.Rows.boot_int | exact PySem.boot_int) rfl) z.m_isinstance) (e_one (e_not w (b_of (e_isi w .bool (b_var 0 rfl (.inl rfl)) (pe_bltn rfl z.m_bool (by first | exact PyProof.Rows.boot_bool | exact PySem.boot_bool) rfl) z.m_isinstance))))))
    (ss_nil)
theorem sc_is_between : FnScope ["value", "low", "high"] ["value", "low", "high"] (defScope (topS 8)) := ⟨rfl, rfl, rfl, by decide +kernel, rfl, by decide +kernel, by decide +kernel⟩
set_option maxHeartbeats 4000000 in
theorem b_is_between {T : Tb} {k : Nat} (z : Mz T) (h : Fm T k) : ∀ (f : Addr) (cdv : Value) (A : Around) (outer : List PySem.Env) (s : Shared) (H : Hp) (E : XK), CB T k (asDef T ["value", "low", "high"] "is_between" (defScope (topS 8)) f cdv A outer s H E) → DSs T (Cq Pg FU k) (asDef T ["value", "low", "high"] "is_between" (defScope (topS 8)) f cdv A outer s H E) (defBody (topS 8)) s_is_between :=
  fun f cdv A outer s H E w =>
    ss_cons (s_if (t_not (t_val w (b_of (e_fn w h.c_is_whole rfl (a_cons (b_var 0 rfl (.inl rfl)) (a_nil)))))) (ss_cons (s_ret (e_bool))
    (ss_nil)) (ss_nil))
    (ss_cons (s_ret (e_and w (e_or w (e_cmp w (b_var 1 rfl (.inl rfl)) (b_of (e_none))) (e_one (e_cmp w (b_var 0 rfl (.inl rfl)) (b_var 1 rfl (.inl rfl))))) (e_one (e_or w (e_cmp w (b_var 2 rfl (.inl rfl)) (b_of (e_none))) (e_one (e_cmp w (b_var 0 rfl (.inl rfl)) (b_var 2 rfl (.inl rfl))))))))
    (ss_nil))
theorem sc_check_number : FnScope ["number", "low", "high"] ["number", "low", "high"] (defScope (topS 9)) := ⟨rfl, rfl, rfl, by decide +kernel, rfl, by decide +kernel, by decide +kernel⟩
set_option maxHeartbeats 4000000 in
theorem b_check_number {T : Tb} {k : Nat} (z : Mz T) (h : Fm T k) : ∀ (f : Addr) (cdv : Value) (A : Around) (outer : List PySem.Env) (s : Shared) (H : Hp) (E : XK), CB T k (asDef T ["number", "low", "high"] "check_number" (defScope (topS 9)) f cdv A outer s H E) → DSs T (Cq Pg FU k) (asDef T ["number", "low", "high"] "check_number" (defScope (topS 9)) f cdv A outer s H E) (defBody (topS 9)) s_check_number :=
  fun f cdv A outer s H E w =>
    ss_cons (s_if (t_not (t_val w (b_of (e_fn w h.c_is_between rfl (a_cons (b_var 0 rfl (.inl rfl)) (a_cons (b_var 1 rfl (.inl rfl)) (a_cons (b_var 2 rfl (.inl rfl)) (a_nil)))))))) (ss_cons (s_nev)
    (ss_nil)) (ss_nil))
    (ss_nil)
theorem sc_power_of_two : FnScope ["many"] ["many"] (defScope (topS 10)) := ⟨rfl, rfl, rfl, by decide +kernel, rfl, by decide +kernel, by decide +kernel⟩
set_option maxHeartbeats 4000000 in
theorem b_power_of_two {T : Tb} {k : Nat} (z : Mz T) (h : Fm T k) : ∀ (f : Addr) (cdv : Value) (A : Around) (outer : List PySem.Env) (s : Shared) (H : Hp) (E : XK), CB T k (asDef T ["many"] "power_of_two" (defScope (topS 10)) f cdv A outer s H E) → DSs T (Cq Pg FU k) (asDef T ["many"] "power_of_two" (defScope (topS 10)) f cdv A outer s H E) (defBody (topS 10)) s_power_of_two :=
  fun f cdv A outer s H E w =>
    ss_cons (s_ret (e_bin w (b_of (e_int)) (b_var 0 rfl (.inl rfl))))
    (ss_nil)
theorem sc_twos : FnScope ["number", "found"] ["number"] (defScope (topS 11)) := ⟨rfl, rfl, rfl, by decide +kernel, rfl, by decide +kernel, by decide +kernel⟩
set_option maxHeartbeats 4000000 in
theorem b_twos {T : Tb} {k : Nat} (z : Mz T) (h : Fm T k) : ∀ (f : Addr) (cdv : Value) (A : Around) (outer : List PySem.Env) (s : Shared) (H : Hp) (E : XK), CB T k (asDef T ["number", "found"] "twos" (defScope (topS 11)) f cdv A outer s H E) → DSs T (Cq Pg FU k) (asDef T ["number", "found"] "twos" (defScope (topS 11)) f cdv A outer s H E) (defBody (topS 11)) s_twos :=
  fun f cdv A outer s H E w =>
    ss_cons (s_set w 1 (e_int) rfl (.inl rfl) (.inr rfl))
    (ss_cons (s_whl (t_cmp w (b_of (e_bin w (b_var 0 rfl (.inl rfl)) (b_of (e_int)))) (b_of (e_int))) (ss_cons (s_par2 w 0 1 (v_cons (e_bin w (b_var 0 rfl (.inl rfl)) (b_of (e_int))) (v_cons (e_bin w (b_var 1 rfl (.inl rfl)) (b_of (e_int))) (v_nil))) rfl rfl rfl rfl)
    (ss_nil)))
    (ss_cons (s_retv 1 (L2.pe_var rfl (.inl rfl)))
    (ss_nil)))
theorem sc_good_row : FnScope ["places", "order", "numbers", "left", "sums", "at", "taken", "have", "place"] ["places"] (defScope (topS 12)) := ⟨rfl, rfl, rfl, by decide +kernel, rfl, by decide +kernel, by decide +kernel⟩
set_option maxHeartbeats 4000000 in
theorem b_good_row {T : Tb} {k : Nat} (z : Mz T) (h : Fm T k) : ∀ (f : Addr) (cdv : Value) (A : Around) (outer : List PySem.Env) (s : Shared) (H : Hp) (E : XK), CB T k (asDef T ["places", "order", "numbers", "left", "sums", "at", "taken", "have", "place"] "good_row" (defScope (topS 12)) f cdv A outer s H E) → DSs T (Cq Pg FU k) (asDef T ["places", "order", "numbers", "left", "sums", "at", "taken", "have", "place"] "good_row" (defScope (topS 12)) f cdv A outer s H E) (defBody (topS 12)) s_good_row :=
  fun f cdv A outer s H E w =>
    ss_cons (s_parT w (n_cons w 1 (n_cons w 2 (n_cons w 3 (n_cons w 4 (n_nil) rfl (.inl rfl) (.inr rfl)) rfl (.inl rfl) (.inr rfl)) rfl (.inl rfl) (.inr rfl)) rfl (.inl rfl) (.inr rfl)) (v_cons (e_lst (l_nil)) (v_cons (e_lst (l_nil)) (v_cons (e_biT (bi := .list) (bi_list w.eK) z.m_list (by first | exact PyProof.Rows.boot_list | exact PySem.boot_list) (a_cons (b_var 0 rfl (.inl rfl)) (a_nil))) (v_cons (e_bin w (b_of (e_lst (l_cons (e_int) (l_nil)))) (b_of (e_biB (bi := .len) (bi_len w.eK) z.m_len (by first | exact PyProof.Rows.boot_len | exact PySem.boot_len) (a_cons (b_var 0 rfl (.inl rfl)) (a_nil))))) (v_nil))))))
    (ss_cons (s_whl (t_cmp w (b_var 3 rfl (.inl rfl)) (b_of (e_lst (l_nil)))) (ss_cons (s_set w 5 (e_index w (b_var 4 rfl (.inl rfl)) (b_of (e_biB (bi := .min) (bi_min w.eK w.calm) z.m_min (by first | exact PyProof.Rows.boot_min | exact PySem.boot_min) (a_cons (b_var 4 rfl (.inl rfl)) (a_nil))))) rfl (.inl rfl) (.inr rfl))
    (ss_cons (s_set w 6 (e_popAt w 3 (L2.pe_var rfl (.inl rfl)) (e_var 5 rfl (.inl rfl))) rfl (.inr rfl) (.inl rfl))
    (ss_cons (s_ex (e_append w 1 (L2.pe_var rfl (.inl rfl)) (e_var 6 rfl (.inr (.inl rfl)))))
    (ss_cons (s_ex (e_append w 2 (L2.pe_var rfl (.inl rfl)) (e_popAt w 4 (L2.pe_var rfl (.inl rfl)) (e_var 5 rfl (.inl rfl)))))
    (ss_cons (s_setc w 4 [("have", 7), ("place", 8)] rfl rfl rfl (i_zs w (l_cons (e_var 4 rfl (.inl rfl)) (l_cons (e_var 3 rfl (.inl rfl)) (l_nil))) z.m_zip) (fun _ _ _ _ _ => g_t (w.blk _ _ _ _ _) (gs_cons (g_v (w.blk _ _ _ _ _) 7 rfl (.inl rfl) (.inr rfl)) (gs_cons (g_v (w.blk _ _ _ _ _) 8 rfl (.inl rfl) (.inr rfl)) (gs_nil)))) (fun _ _ _ _ _ => c_nil) (fun _ _ _ _ _ => e_bin (w.blk _ _ _ _ _) (b_var 7 rfl (.inl rfl)) (b_of (e_fn (w.blk _ _ _ _ _) h.c_twos rfl (a_cons (b_of (e_bin (w.blk _ _ _ _ _) (b_var 8 rfl (.inl rfl)) (b_var 6 rfl (.inr (.inl rfl))))) (a_nil))))) (blkOk_by (by kernel_rfl)))
    (ss_nil)))))))
    (ss_cons (s_ret (e_tup (l_cons (e_var 1 rfl (.inl rfl)) (l_cons (e_var 2 rfl (.inl rfl)) (l_nil)))))
    (ss_nil)))
theorem sc_is_width : FnScope ["value"] ["value"] (defScope (topS 14)) := ⟨rfl, rfl, rfl, by decide +kernel, rfl, by decide +kernel, by decide +kernel⟩
set_option maxHeartbeats 4000000 in
theorem b_is_width {T : Tb} {k : Nat} (z : Mz T) (h : Fm T k) : ∀ (f : Addr) (cdv : Value) (A : Around) (outer : List PySem.Env) (s : Shared) (H : Hp) (E : XK), CB T k (asDef T ["value"] "is_width" (defScope (topS 14)) f cdv A outer s H E) → DSs T (Cq Pg FU k) (asDef T ["value"] "is_width" (defScope (topS 14)) f cdv A outer s H E) (defBody (topS 14)) s_is_width :=
  fun f cdv A outer s H E w =>
    ss_cons (s_ret (e_fn w h.c_is_between rfl (a_cons (b_var 0 rfl (.inl rfl)) (a_cons (b_of (e_int)) (a_cons (b_of (e_gint z.g_MOST_WIDTH)) (a_nil))))))
    (ss_nil)
theorem sc_check_width : FnScope ["width"] ["width"] (defScope (topS 15)) := ⟨rfl, rfl, rfl, by decide +kernel, rfl, by decide +kernel, by decide +kernel⟩
set_option maxHeartbeats 4000000 in
theorem b_check_width {T : Tb} {k : Nat} (z : Mz T) (h : Fm T k) : ∀ (f : Addr) (cdv : Value) (A : Around) (outer : List PySem.Env) (s : Shared) (H : Hp) (E : XK), CB T k (asDef T ["width"] "check_width" (defScope (topS 15)) f cdv A outer s H E) → DSs T (Cq Pg FU k) (asDef T ["width"] "check_width" (defScope (topS 15)) f cdv A outer s H E) (defBody (topS 15)) s_check_width :=
  fun f cdv A outer s H E w =>
    ss_cons (s_if (t_not (t_val w (b_of (e_fn w h.c_is_width rfl (a_cons (b_var 0 rfl (.inl rfl)) (a_nil)))))) (ss_cons (s_nev)
    (ss_nil)) (ss_nil))
    (ss_nil)
theorem sc_is_of_width : FnScope ["width", "value"] ["width", "value"] (defScope (topS 16)) := ⟨rfl, rfl, rfl, by decide +kernel, rfl, by decide +kernel, by decide +kernel⟩
set_option maxHeartbeats 4000000 in
theorem b_is_of_width {T : Tb} {k : Nat} (z : Mz T) (h : Fm T k) : ∀ (f : Addr) (cdv : Value) (A : Around) (outer : List PySem.Env) (s : Shared) (H : Hp) (E : XK), CB T k (asDef T ["width", "value"] "is_of_width" (defScope (topS 16)) f cdv A outer s H E) → DSs T (Cq Pg FU k) (asDef T ["width", "value"] "is_of_width" (defScope (topS 16)) f cdv A outer s H E) (defBody (topS 16)) s_is_of_width :=
  fun f cdv A outer s H E w =>
    ss_cons (s_ret (e_fn w h.c_is_between rfl (a_cons (b_var 1 rfl (.inl rfl)) (a_cons (b_of (e_int)) (a_cons (b_of (e_bin w (b_of (e_fn w h.c_power_of_two rfl (a_cons (b_var 0 rfl (.inl rfl)) (a_nil)))) (b_of (e_int)))) (a_nil))))))
    (ss_nil)
theorem sc_rises : FnScope ["numbers", "at"] ["numbers"] (defScope (topS 17)) := ⟨rfl, rfl, rfl, by decide +kernel, rfl, by decide +kernel, by decide +kernel⟩
set_option maxHeartbeats 4000000 in
theorem b_rises {T : Tb} {k : Nat} (z : Mz T) (h : Fm T k) : ∀ (f : Addr) (cdv : Value) (A : Around) (outer : List PySem.Env) (s : Shared) (H : Hp) (E : XK), CB T k (asDef T ["numbers", "at"] "rises" (defScope (topS 17)) f cdv A outer s H E) → DSs T (Cq Pg FU k) (asDef T ["numbers", "at"] "rises" (defScope (topS 17)) f cdv A outer s H E) (defBody (topS 17)) s_rises :=
  fun f cdv A outer s H E w =>
    ss_cons (s_ret (e_cmp w (b_of (e_lc w [("at", 1)] (i_rng2 (b_of (e_int)) (b_of (e_biB (bi := .len) (bi_len w.eK) z.m_len (by first | exact PyProof.Rows.boot_len | exact PySem.boot_len) (a_cons (b_var 0 rfl (.inr (.inl rfl))) (a_nil)))) z.m_range) (fun _ _ _ _ _ => g_v (w.blk _ _ _ _ _) 1 rfl (.inl rfl) (.inr rfl)) (fun _ _ _ _ _ => c_one (t_cmp (w.blk _ _ _ _ _) (b_of (e_idx (w.blk _ _ _ _ _) (b_var 0 rfl (.inr (.inl rfl))) (b_of (e_bin (w.blk _ _ _ _ _) (b_var 1 rfl (.inl rfl)) (b_of (e_int)))))) (b_of (e_idx (w.blk _ _ _ _ _) (b_var 0 rfl (.inr (.inl rfl))) (b_var 1 rfl (.inl rfl)))))) (fun _ _ _ _ _ => e_var 1 rfl (.inl rfl)) (blkOk_by (by kernel_rfl)))) (b_of (e_lst (l_nil)))))
    (ss_nil)
theorem sc_are_places : FnScope ["width", "value", "item"] ["width", "value"] (defScope (topS 18)) := ⟨rfl, rfl, rfl, by decide +kernel, rfl, by decide +kernel, by decide +kernel⟩
set_option maxHeartbeats 4000000 in
theorem b_are_places {T : Tb} {k : Nat} (z : Mz T) (h : Fm T k) : ∀ (f : Addr) (cdv : Value) (A : Around) (outer : List PySem.Env) (s : Shared) (H : Hp) (E : XK), CB T k (asDef T ["width", "value", "item"] "are_places" (defScope (topS 18)) f cdv A outer s H E) → DSs T (Cq Pg FU k) (asDef T ["width", "value", "item"] "are_places" (defScope (topS 18)) f cdv A outer s H E) (defBody (topS 18)) s_are_places :=
  fun f cdv A outer s H E w =>
    ss_cons (s_if (t_w (w_or (t_not (t_val w (b_of (e_isi w .list (b_var 1 rfl (.inl rfl)) (pe_bltn rfl z.m_list (by first | exact PyProof.Rows.boot_list | exact PySem.boot_list) rfl) z.m_isinstance)))) (w_or1 (t_cmp w (b_var 1 rfl (.inl rfl)) (b_of (e_lst (l_nil))))))) (ss_cons (s_ret (e_bool))
    (ss_nil)) (ss_nil))
    (ss_cons (s_ret (e_and w (e_cmp w (b_of (e_lc w [("item", 2)] (i_seq w (e_var 1 rfl (.inl rfl))) (fun _ _ _ _ _ => g_v (w.blk _ _ _ _ _) 2 rfl (.inl rfl) (.inr rfl)) (fun _ _ _ _ _ => c_one (t_not (t_val (w.blk _ _ _ _ _) (b_of (e_fn (w.blk _ _ _ _ _) h.c_is_of_width rfl (a_cons (b_var 0 rfl (.inr (.inl rfl))) (a_cons (b_var 2 rfl (.inl rfl)) (a_nil)))))))) (fun _ _ _ _ _ => e_var 2 rfl (.inl rfl)) (blkOk_by (by kernel_rfl)))) (b_of (e_lst (l_nil)))) (e_one (e_fn w h.c_rises rfl (a_cons (b_var 1 rfl (.inl rfl)) (a_nil))))))
    (ss_nil))
theorem sc_check_places : FnScope ["width", "places"] ["width", "places"] (defScope (topS 19)) := ⟨rfl, rfl, rfl, by decide +kernel, rfl, by decide +kernel, by decide +kernel⟩
set_option maxHeartbeats 4000000 in
theorem b_check_places {T : Tb} {k : Nat} (z : Mz T) (h : Fm T k) : ∀ (f : Addr) (cdv : Value) (A : Around) (outer : List PySem.Env) (s : Shared) (H : Hp) (E : XK), CB T k (asDef T ["width", "places"] "check_places" (defScope (topS 19)) f cdv A outer s H E) → DSs T (Cq Pg FU k) (asDef T ["width", "places"] "check_places" (defScope (topS 19)) f cdv A outer s H E) (defBody (topS 19)) s_check_places :=
  fun f cdv A outer s H E w =>
    ss_cons (s_ex (e_fn w h.c_check_width rfl (a_cons (b_var 0 rfl (.inl rfl)) (a_nil))))
    (ss_cons (s_if (t_not (t_val w (b_of (e_fn w h.c_are_places rfl (a_cons (b_var 0 rfl (.inl rfl)) (a_cons (b_var 1 rfl (.inl rfl)) (a_nil))))))) (ss_cons (s_nev)
    (ss_nil)) (ss_nil))
    (ss_nil))
theorem sc_check_code : FnScope ["width", "places", "count"] ["width", "places", "count"] (defScope (topS 21)) := ⟨rfl, rfl, rfl, by decide +kernel, rfl, by decide +kernel, by decide +kernel⟩
set_option maxHeartbeats 4000000 in
theorem b_check_code {T : Tb} {k : Nat} (z : Mz T) (h : Fm T k) : ∀ (f : Addr) (cdv : Value) (A : Around) (outer : List PySem.Env) (s : Shared) (H : Hp) (E : XK), CB T k (asDef T ["width", "places", "count"] "check_code" (defScope (topS 21)) f cdv A outer s H E) → DSs T (Cq Pg FU k) (asDef T ["width", "places", "count"] "check_code" (defScope (topS 21)) f cdv A outer s H E) (defBody (topS 21)) s_check_code :=
  fun f cdv A outer s H E w =>
    ss_cons (s_ex (e_fn w h.c_check_places rfl (a_cons (b_var 0 rfl (.inl rfl)) (a_cons (b_var 1 rfl (.inl rfl)) (a_nil)))))
    (ss_cons (s_ex (e_fn w h.c_check_number rfl (a_cons (b_var 2 rfl (.inl rfl)) (a_cons (b_of (e_int)) (a_cons (b_of (e_none)) (a_nil))))))
    (ss_nil))
theorem sc_bits_at : FnScope ["width", "order", "numbers", "count", "place", "found", "cost", "taken", "number"] ["width", "order", "numbers", "count", "place"] (defScope (topS 22)) := ⟨rfl, rfl, rfl, by decide +kernel, rfl, by decide +kernel, by decide +kernel⟩
set_option maxHeartbeats 4000000 in
theorem b_bits_at {T : Tb} {k : Nat} (z : Mz T) (h : Fm T k) : ∀ (f : Addr) (cdv : Value) (A : Around) (outer : List PySem.Env) (s : Shared) (H : Hp) (E : XK), CB T k (asDef T ["width", "order", "numbers", "count", "place", "found", "cost", "taken", "number"] "bits_at" (defScope (topS 22)) f cdv A outer s H E) → DSs T (Cq Pg FU k) (asDef T ["width", "order", "numbers", "count", "place", "found", "cost", "taken", "number"] "bits_at" (defScope (topS 22)) f cdv A outer s H E) (defBody (topS 22)) s_bits_at :=
  fun f cdv A outer s H E w =>
    ss_cons (s_if (t_cmp w (b_var 4 rfl (.inl rfl)) (b_var 1 rfl (.inl rfl))) (ss_cons (s_retv 0 (L2.pe_var rfl (.inl rfl)))
    (ss_nil)) (ss_nil))
    (ss_cons (s_par2 w 5 6 (v_cons (e_var 0 rfl (.inl rfl)) (v_cons (e_int) (v_nil))) rfl rfl rfl rfl)
    (ss_cons (s_for w (i_zs w (l_cons (e_slc w (b_var 1 rfl (.inl rfl)) (p_none) (p_some (b_var 3 rfl (.inl rfl)))) (l_cons (e_slc w (b_var 2 rfl (.inl rfl)) (p_none) (p_some (b_var 3 rfl (.inl rfl)))) (l_nil))) z.m_zip) (g_t w (gs_cons (g_v w 7 rfl (.inl rfl) (.inr rfl)) (gs_cons (g_v w 8 rfl (.inl rfl) (.inr rfl)) (gs_nil)))) (ss_cons (s_set w 5 (e_biB (bi := .min) (bi_min w.eK w.calm) z.m_min (by first | exact PyProof.Rows.boot_min | exact PySem.boot_min) (a_cons (b_var 5 rfl (.inl rfl)) (a_cons (b_of (e_bin w (b_of (e_biB (bi := .max) (bi_max w.eK w.calm) z.m_max (by first | exact PyProof.Rows.boot_max | exact PySem.boot_max) (a_cons (b_of (e_int)) (a_cons (b_of (e_bin w (b_var 0 rfl (.inl rfl)) (b_var 8 rfl (.inl rfl)))) (a_nil))))) (b_var 6 rfl (.inl rfl)))) (a_nil)))) rfl (.inl rfl) (.inr rfl))
    (ss_cons (s_augA w 6 (e_fn w h.c_twos rfl (a_cons (b_of (e_bin w (b_var 4 rfl (.inl rfl)) (b_var 7 rfl (.inl rfl)))) (a_nil))) rfl (.inl rfl) (.inr rfl))
    (ss_nil))))
    (ss_cons (s_ret (e_ite (t_cmp w (b_of (e_biB (bi := .len) (bi_len w.eK) z.m_len (by first | exact PyProof.Rows.boot_len | exact PySem.boot_len) (a_cons (b_var 1 rfl (.inl rfl)) (a_nil)))) (b_var 3 rfl (.inl rfl))) (e_biB (bi := .min) (bi_min w.eK w.calm) z.m_min (by first | exact PyProof.Rows.boot_min | exact PySem.boot_min) (a_cons (b_var 5 rfl (.inl rfl)) (a_cons (b_var 6 rfl (.inl rfl)) (a_nil)))) (e_var 5 rfl (.inl rfl))))
    (ss_nil))))
theorem sc_check_part : FnScope ["places", "part", "item"] ["places", "part"] (defScope (topS 24)) := ⟨rfl, rfl, rfl, by decide +kernel, rfl, by decide +kernel, by decide +kernel⟩
set_option maxHeartbeats 4000000 in
theorem b_check_part {T : Tb} {k : Nat} (z : Mz T) (h : Fm T k) : ∀ (f : Addr) (cdv : Value) (A : Around) (outer : List PySem.Env) (s : Shared) (H : Hp) (E : XK), CB T k (asDef T ["places", "part", "item"] "check_part" (defScope (topS 24)) f cdv A outer s H E) → DSs T (Cq Pg FU k) (asDef T ["places", "part", "item"] "check_part" (defScope (topS 24)) f cdv A outer s H E) (defBody (topS 24)) s_check_part_v1 :=
  fun f cdv A outer s H E w =>
    ss_cons (s_if (t_w (w_or (t_not (t_val w (b_of (e_isi w .list (b_var 1 rfl (.inl rfl)) (pe_bltn rfl z.m_list (by first | exact PyProof.Rows.boot_list | exact PySem.boot_list) rfl) z.m_isinstance)))) (w_or1 (t_cmp w (b_of (e_lc w [("item", 2)] (i_seq w (e_var 1 rfl (.inl rfl))) (fun _ _ _ _ _ => g_v (w.blk _ _ _ _ _) 2 rfl (.inl rfl) (.inr rfl)) (fun _ _ _ _ _ => c_one (t_w (w_or (t_not (t_val (w.blk _ _ _ _ _) (b_of (e_fn (w.blk _ _ _ _ _) h.c_is_whole rfl (a_cons (b_var 2 rfl (.inl rfl)) (a_nil)))))) (w_or1 (t_cmp (w.blk _ _ _ _ _) (b_var 2 rfl (.inl rfl)) (b_var 0 rfl (.inr (.inl rfl)))))))) (fun _ _ _ _ _ => e_var 2 rfl (.inl rfl)) (blkOk_by (by kernel_rfl)))) (b_of (e_lst (l_nil))))))) (ss_cons (s_nev)
    (ss_nil)) (ss_nil))
    (ss_cons (s_if (t_not (t_val w (b_of (e_fn w h.c_rises rfl (a_cons (b_var 1 rfl (.inl rfl)) (a_nil)))))) (ss_cons (s_nev)
    (ss_nil)) (ss_nil))
    (ss_nil))
theorem sc_check_place : FnScope ["places", "place"] ["places", "place"] (defScope (topS 25)) := ⟨rfl, rfl, rfl, by decide +kernel, rfl, by decide +kernel, by decide +kernel⟩
set_option maxHeartbeats 4000000 in
theorem b_check_place {T : Tb} {k : Nat} (z : Mz T) (h : Fm T k) : ∀ (f : Addr) (cdv : Value) (A : Around) (outer : List PySem.Env) (s : Shared) (H : Hp) (E : XK), CB T k (asDef T ["places", "place"] "check_place" (defScope (topS 25)) f cdv A outer s H E) → DSs T (Cq Pg FU k) (asDef T ["places", "place"] "check_place" (defScope (topS 25)) f cdv A outer s H E) (defBody (topS 25)) s_check_place :=
  fun f cdv A outer s H E w =>
    ss_cons (s_if (t_w (w_or (t_not (t_val w (b_of (e_fn w h.c_is_whole rfl (a_cons (b_var 1 rfl (.inl rfl)) (a_nil)))))) (w_or1 (t_cmp w (b_var 1 rfl (.inl rfl)) (b_var 0 rfl (.inl rfl)))))) (ss_cons (s_nev)
    (ss_nil)) (ss_nil))
    (ss_nil)
theorem sc_bits_list : FnScope ["width", "places", "count", "asked", "order", "numbers", "place"] ["width", "places", "count", "asked"] (defScope (topS 26)) := ⟨rfl, rfl, rfl, by decide +kernel, rfl, by decide +kernel, by decide +kernel⟩
set_option maxHeartbeats 4000000 in
theorem b_bits_list {T : Tb} {k : Nat} (z : Mz T) (h : Fm T k) : ∀ (f : Addr) (cdv : Value) (A : Around) (outer : List PySem.Env) (s : Shared) (H : Hp) (E : XK), CB T k (asDef T ["width", "places", "count", "asked", "order", "numbers", "place"] "bits_list" (defScope (topS 26)) f cdv A outer s H E) → DSs T (Cq Pg FU k) (asDef T ["width", "places", "count", "asked", "order", "numbers", "place"] "bits_list" (defScope (topS 26)) f cdv A outer s H E) (defBody (topS 26)) s_bits_list :=
  fun f cdv A outer s H E w =>
    ss_cons (s_asgT w (e_fn w h.c_good_row rfl (a_cons (b_var 3 rfl (.inl rfl)) (a_nil))) (g_t w (gs_cons (g_v w 4 rfl (.inr rfl) (.inl rfl)) (gs_cons (g_v w 5 rfl (.inr rfl) (.inl rfl)) (gs_nil)))))
    (ss_cons (s_ret (e_lc w [("place", 6)] (i_seq w (e_var 1 rfl (.inl rfl))) (fun _ _ _ _ _ => g_v (w.blk _ _ _ _ _) 6 rfl (.inl rfl) (.inr rfl)) (fun _ _ _ _ _ => c_nil) (fun _ _ _ _ _ => e_fn (w.blk _ _ _ _ _) h.c_bits_at rfl (a_cons (b_var 0 rfl (.inr (.inl rfl))) (a_cons (b_var 4 rfl (.inr (.inl rfl))) (a_cons (b_var 5 rfl (.inr (.inl rfl))) (a_cons (b_var 2 rfl (.inr (.inl rfl))) (a_cons (b_var 6 rfl (.inl rfl)) (a_nil))))))) (blkOk_by (by kernel_rfl))))
    (ss_nil))
theorem sc_check_allowed : FnScope ["places", "allowed", "place"] ["places", "allowed", "place"] (defScope (topS 29)) := ⟨rfl, rfl, rfl, by decide +kernel, rfl, by decide +kernel, by decide +kernel⟩
set_option maxHeartbeats 4000000 in
theorem b_check_allowed {T : Tb} {k : Nat} (z : Mz T) (h : Fm T k) : ∀ (f : Addr) (cdv : Value) (A : Around) (outer : List PySem.Env) (s : Shared) (H : Hp) (E : XK), CB T k (asDef T ["places", "allowed", "place"] "check_allowed" (defScope (topS 29)) f cdv A outer s H E) → DSs T (Cq Pg FU k) (asDef T ["places", "allowed", "place"] "check_allowed" (defScope (topS 29)) f cdv A outer s H E) (defBody (topS 29)) s_check_allowed :=
  fun f cdv A outer s H E w =>
    ss_cons (s_ex (e_fn w h.c_check_part rfl (a_cons (b_var 0 rfl (.inl rfl)) (a_cons (b_var 1 rfl (.inl rfl)) (a_nil)))))
    (ss_cons (s_ex (e_fn w h.c_check_place rfl (a_cons (b_var 0 rfl (.inl rfl)) (a_cons (b_var 2 rfl (.inl rfl)) (a_nil)))))
    (ss_cons (s_if (t_cmp w (b_var 2 rfl (.inl rfl)) (b_var 1 rfl (.inl rfl))) (ss_cons (s_nev)
    (ss_nil)) (ss_nil))
    (ss_nil)))
theorem sc_follows : FnScope ["width", "places", "count", "allowed", "place"] ["width", "places", "count", "allowed", "place"] (defScope (topS 30)) := ⟨rfl, rfl, rfl, by decide +kernel, rfl, by decide +kernel, by decide +kernel⟩
set_option maxHeartbeats 4000000 in
theorem b_follows {T : Tb} {k : Nat} (z : Mz T) (h : Fm T k) : ∀ (f : Addr) (cdv : Value) (A : Around) (outer : List PySem.Env) (s : Shared) (H : Hp) (E : XK), CB T k (asDef T ["width", "places", "count", "allowed", "place"] "follows" (defScope (topS 30)) f cdv A outer s H E) → DSs T (Cq Pg FU k) (asDef T ["width", "places", "count", "allowed", "place"] "follows" (defScope (topS 30)) f cdv A outer s H E) (defBody (topS 30)) s_follows :=
  fun f cdv A outer s H E w =>
    ss_cons (s_ex (e_fn w h.c_check_code rfl (a_cons (b_var 0 rfl (.inl rfl)) (a_cons (b_var 1 rfl (.inl rfl)) (a_cons (b_var 2 rfl (.inl rfl)) (a_nil))))))
    (ss_cons (s_ex (e_fn w h.c_check_allowed rfl (a_cons (b_var 1 rfl (.inl rfl)) (a_cons (b_var 3 rfl (.inl rfl)) (a_cons (b_var 4 rfl (.inl rfl)) (a_nil))))))
    (ss_cons (s_ret (e_cmp w (b_of (e_idx w (b_of (e_fn w h.c_bits_list rfl (a_cons (b_var 0 rfl (.inl rfl)) (a_cons (b_of (e_lst (l_cons (e_var 4 rfl (.inl rfl)) (l_nil)))) (a_cons (b_var 2 rfl (.inl rfl)) (a_cons (b_var 3 rfl (.inl rfl)) (a_nil))))))) (b_of (e_int)))) (b_var 0 rfl (.inl rfl))))
    (ss_nil)))
theorem sc_steps_needed : FnScope ["width", "count", "bits", "found", "reached"] ["width", "count", "bits"] (defScope (topS 31)) := ⟨rfl, rfl, rfl, by decide +kernel, rfl, by decide +kernel, by decide +kernel⟩
set_option maxHeartbeats 4000000 in
theorem b_steps_needed {T : Tb} {k : Nat} (z : Mz T) (h : Fm T k) : ∀ (f : Addr) (cdv : Value) (A : Around) (outer : List PySem.Env) (s : Shared) (H : Hp) (E : XK), CB T k (asDef T ["width", "count", "bits", "found", "reached"] "steps_needed" (defScope (topS 31)) f cdv A outer s H E) → DSs T (Cq Pg FU k) (asDef T ["width", "count", "bits", "found", "reached"] "steps_needed" (defScope (topS 31)) f cdv A outer s H E) (defBody (topS 31)) s_steps_needed :=
  fun f cdv A outer s H E w =>
    ss_cons (s_ex (e_fn w h.c_check_width rfl (a_cons (b_var 0 rfl (.inl rfl)) (a_nil))))
    (ss_cons (s_ex (e_fn w h.c_check_number rfl (a_cons (b_var 1 rfl (.inl rfl)) (a_cons (b_of (e_int)) (a_cons (b_of (e_none)) (a_nil))))))
    (ss_cons (s_ex (e_fn w h.c_check_number rfl (a_cons (b_var 2 rfl (.inl rfl)) (a_cons (b_of (e_int)) (a_cons (b_of (e_gint z.g_MOST_BITS)) (a_nil))))))
    (ss_cons (s_parT w (n_cons w 3 (n_cons w 4 (n_nil) rfl (.inl rfl) (.inr rfl)) rfl (.inl rfl) (.inr rfl)) (v_cons (e_int) (v_cons (e_int) (v_nil))))
    (ss_cons (s_whl (t_w (w_and (t_cmp w (b_var 3 rfl (.inl rfl)) (b_var 1 rfl (.inl rfl))) (w_and1 (t_cmp w (b_var 4 rfl (.inl rfl)) (b_var 0 rfl (.inl rfl)))))) (ss_cons (s_augA w 3 (e_int) rfl (.inl rfl) (.inr rfl))
    (ss_cons (s_augA w 4 (e_bin w (b_of (e_fn w h.c_twos rfl (a_cons (b_var 3 rfl (.inl rfl)) (a_nil)))) (b_var 2 rfl (.inl rfl))) rfl (.inl rfl) (.inr rfl))
    (ss_nil))))
    (ss_cons (s_retv 3 (L2.pe_var rfl (.inl rfl)))
    (ss_nil))))))
theorem sc__law_hash : FnScope ["_law_seed", "_law_index", "_law_mixed"] ["_law_seed", "_law_index"] (defScope (topS 33)) := ⟨rfl, rfl, rfl, by decide +kernel, rfl, by decide +kernel, by decide +kernel⟩
set_option maxHeartbeats 4000000 in
theorem b__law_hash {T : Tb} {k : Nat} (z : Mz T) (h : Fm T k) : ∀ (f : Addr) (cdv : Value) (A : Around) (outer : List PySem.Env) (s : Shared) (H : Hp) (E : XK), CB T k (asDef T ["_law_seed", "_law_index", "_law_mixed"] "_law_hash" (defScope (topS 33)) f cdv A outer s H E) → DSs T (Cq Pg FU k) (asDef T ["_law_seed", "_law_index", "_law_mixed"] "_law_hash" (defScope (topS 33)) f cdv A outer s H E) (defBody (topS 33)) s__law_hash :=
  fun f cdv A outer s H E w =>
    ss_cons (s_set w 2 (e_bin w (b_of (e_biT (bi := .int) (bi_int) z.m_int (by first | exact PyProof.Rows.boot_int | exact PySem.boot_int) (a_cons (b_of (e_bin w (b_of (e_bin w (b_of (e_bin w (b_of (e_bin w (b_var 0 rfl (.inl rfl)) (b_of (e_int)))) (b_of (e_bin w (b_of (e_bin w (b_of (e_int)) (b_var 1 rfl (.inl rfl)))) (b_var 1 rfl (.inl rfl)))))) (b_of (e_bin w (b_of (e_int)) (b_var 1 rfl (.inl rfl)))))) (b_of (e_int)))) (a_nil)))) (b_of (e_int))) rfl (.inl rfl) (.inr rfl))
    (ss_cons (s_set w 2 (e_bin w (b_of (e_biT (bi := .int) (bi_int) z.m_int (by first | exact PyProof.Rows.boot_int | exact PySem.boot_int) (a_cons (b_of (e_bin w (b_of (e_bin w (b_of (e_bin w (b_var 2 rfl (.inl rfl)) (b_var 2 rfl (.inl rfl)))) (b_of (e_bin w (b_of (e_int)) (b_var 1 rfl (.inl rfl)))))) (b_of (e_int)))) (a_nil)))) (b_of (e_int))) rfl (.inl rfl) (.inr rfl))
    (ss_cons (s_ret (e_bin w (b_of (e_biT (bi := .int) (bi_int) z.m_int (by first | exact PyProof.Rows.boot_int | exact PySem.boot_int) (a_cons (b_of (e_bin w (b_var 2 rfl (.inl rfl)) (b_of (e_int)))) (a_nil)))) (b_of (e_int))))
    (ss_nil)))
theorem sc__law_random : FnScope ["_law_generator_here", "_law_bound", "_law_drawn", "_law_turn"] ["_law_generator_here", "_law_bound"] (defScope (topS 34)) := ⟨rfl, rfl, rfl, by decide +kernel, rfl, by decide +kernel, by decide +kernel⟩
set_option maxHeartbeats 4000000 in
theorem b__law_random {T : Tb} {k : Nat} (z : Mz T) (h : Fm T k) : ∀ (f : Addr) (cdv : Value) (A : Around) (outer : List PySem.Env) (s : Shared) (H : Hp) (E : XK), CB T k (asDef T ["_law_generator_here", "_law_bound", "_law_drawn", "_law_turn"] "_law_random" (defScope (topS 34)) f cdv A outer s H E) → DSs T (Cq Pg FU k) (asDef T ["_law_generator_here", "_law_bound", "_law_drawn", "_law_turn"] "_law_random" (defScope (topS 34)) f cdv A outer s H E) (defBody (topS 34)) s__law_random :=
  fun f cdv A outer s H E w =>
    ss_cons (s_if (t_cmp w (b_of (e_idx w (b_var 0 rfl (.inl rfl)) (b_of (e_int)))) (b_of (e_int))) (ss_cons (s_set w 2 (e_bin w (b_of (e_biT (bi := .int) (bi_int) z.m_int (by first | exact PyProof.Rows.boot_int | exact PySem.boot_int) (a_cons (b_of (e_idx w (b_var 0 rfl (.inl rfl)) (b_of (e_int)))) (a_nil)))) (b_var 1 rfl (.inl rfl))) rfl (.inl rfl) (.inr rfl))
    (ss_cons (s_seti 0 (e_bin w (b_of (e_idx w (b_var 0 rfl (.inl rfl)) (b_of (e_int)))) (b_var 1 rfl (.inl rfl))) (L2.pe_var rfl (.inl rfl)) (e_int))
    (ss_cons (s_retv 2 (L2.pe_var rfl (.inl rfl)))
    (ss_nil)))) (ss_nil))
    (ss_cons (s_set w 2 (e_int) rfl (.inl rfl) (.inr rfl))
    (ss_cons (s_for w (i_rng1 (b_of (e_bin w (b_of (e_int)) (b_of (e_bin w (b_of (e_bits (b_var 1 rfl (.inl rfl)))) (b_of (e_int)))))) z.m_range) (g_v w 3 rfl (.inl rfl) (.inr rfl)) (ss_cons (s_seti 0 (e_bin w (b_of (e_idx w (b_var 0 rfl (.inl rfl)) (b_of (e_int)))) (b_of (e_int))) (L2.pe_var rfl (.inl rfl)) (e_int))
    (ss_cons (s_set w 2 (e_bin w (b_of (e_bin w (b_var 2 rfl (.inl rfl)) (b_of (e_int)))) (b_of (e_fn w h.c__law_hash rfl (a_cons (b_of (e_idx w (b_var 0 rfl (.inl rfl)) (b_of (e_int)))) (a_cons (b_of (e_idx w (b_var 0 rfl (.inl rfl)) (b_of (e_int)))) (a_nil)))))) rfl (.inl rfl) (.inr rfl))
    (ss_nil))))
    (ss_cons (s_ret (e_bin w (b_of (e_biT (bi := .int) (bi_int) z.m_int (by first | exact PyProof.Rows.boot_int | exact PySem.boot_int) (a_cons (b_var 2 rfl (.inl rfl)) (a_nil)))) (b_var 1 rfl (.inl rfl))))
    (ss_nil))))
theorem sc__law_cell : FnScope ["_law_script", "_law_index"] ["_law_script", "_law_index"] (defScope (topS 35)) := ⟨rfl, rfl, rfl, by decide +kernel, rfl, by decide +kernel, by decide +kernel⟩
set_option maxHeartbeats 4000000 in
theorem b__law_cell {T : Tb} {k : Nat} (z : Mz T) (h : Fm T k) : ∀ (f : Addr) (cdv : Value) (A : Around) (outer : List PySem.Env) (s : Shared) (H : Hp) (E : XK), CB T k (asDef T ["_law_script", "_law_index"] "_law_cell" (defScope (topS 35)) f cdv A outer s H E) → DSs T (Cq Pg FU k) (asDef T ["_law_script", "_law_index"] "_law_cell" (defScope (topS 35)) f cdv A outer s H E) (defBody (topS 35)) s__law_cell :=
  fun f cdv A outer s H E w =>
    ss_cons (s_if (t_cmp w (b_var 1 rfl (.inl rfl)) (b_of (e_biB (bi := .len) (bi_len w.eK) z.m_len (by first | exact PyProof.Rows.boot_len | exact PySem.boot_len) (a_cons (b_var 0 rfl (.inl rfl)) (a_nil))))) (ss_cons (s_ret (e_idx w (b_var 0 rfl (.inl rfl)) (b_var 1 rfl (.inl rfl))))
    (ss_nil)) (ss_nil))
    (ss_cons (s_ret (e_bin w (b_of (e_biB (bi := .sum) (bi_sum w.eK w.calm) z.m_sum (by first | exact PyProof.Rows.boot_sum | exact PySem.boot_sum) (a_cons (b_of (e_slc w (b_var 0 rfl (.inl rfl)) (p_none) (p_some (b_of (e_int))))) (a_nil)))) (b_of (e_int))))
    (ss_nil))
theorem sc__law_generator : FnScope ["_law_script", "_law_index", "_law_seed"] ["_law_script", "_law_index"] (defScope (topS 36)) := ⟨rfl, rfl, rfl, by decide +kernel, rfl, by decide +kernel, by decide +kernel⟩
set_option maxHeartbeats 4000000 in
theorem b__law_generator {T : Tb} {k : Nat} (z : Mz T) (h : Fm T k) : ∀ (f : Addr) (cdv : Value) (A : Around) (outer : List PySem.Env) (s : Shared) (H : Hp) (E : XK), CB T k (asDef T ["_law_script", "_law_index", "_law_seed"] "_law_generator" (defScope (topS 36)) f cdv A outer s H E) → DSs T (Cq Pg FU k) (asDef T ["_law_script", "_law_index", "_law_seed"] "_law_generator" (defScope (topS 36)) f cdv A outer s H E) (defBody (topS 36)) s__law_generator :=
  fun f cdv A outer s H E w =>
    ss_cons (s_set w 2 (e_fn w h.c__law_cell rfl (a_cons (b_var 0 rfl (.inl rfl)) (a_cons (b_var 1 rfl (.inl rfl)) (a_nil)))) rfl (.inl rfl) (.inr rfl))
    (ss_cons (s_ret (e_lst (l_cons (e_bin w (b_of (e_biT (bi := .int) (bi_int) z.m_int (by first | exact PyProof.Rows.boot_int | exact PySem.boot_int) (a_cons (b_of (e_biB (bi := .max) (bi_max w.eK w.calm) z.m_max (by first | exact PyProof.Rows.boot_max | exact PySem.boot_max) (a_cons (b_of (e_bin w (b_var 2 rfl (.inl rfl)) (b_of (e_bin w (b_of (e_int)) (b_of (e_int)))))) (a_cons (b_of (e_int)) (a_nil))))) (a_nil)))) (b_of (e_bin w (b_of (e_bin w (b_of (e_int)) (b_of (e_int)))) (b_of (e_int))))) (l_cons (e_bin w (b_of (e_biT (bi := .int) (bi_int) z.m_int (by first | exact PyProof.Rows.boot_int | exact PySem.boot_int) (a_cons (b_var 2 rfl (.inl rfl)) (a_nil)))) (b_of (e_int))) (l_cons (e_bin w (b_of (e_int)) (b_var 1 rfl (.inl rfl))) (l_nil))))))
    (ss_nil))
theorem sc__law_twos : FnScope ["_law_number", "_law_found"] ["_law_number"] (defScope (topS 37)) := ⟨rfl, rfl, rfl, by decide +kernel, rfl, by decide +kernel, by decide +kernel⟩
set_option maxHeartbeats 4000000 in
theorem b__law_twos {T : Tb} {k : Nat} (z : Mz T) (h : Fm T k) : ∀ (f : Addr) (cdv : Value) (A : Around) (outer : List PySem.Env) (s : Shared) (H : Hp) (E : XK), CB T k (asDef T ["_law_number", "_law_found"] "_law_twos" (defScope (topS 37)) f cdv A outer s H E) → DSs T (Cq Pg FU k) (asDef T ["_law_number", "_law_found"] "_law_twos" (defScope (topS 37)) f cdv A outer s H E) (defBody (topS 37)) s__law_twos_v3 :=
  fun f cdv A outer s H E w =>
    ss_cons (s_if (t_cmp w (b_var 0 rfl (.inl rfl)) (b_of (e_int))) (ss_cons (s_ret (e_int))
    (ss_nil)) (ss_nil))
    (ss_cons (s_set w 1 (e_int) rfl (.inl rfl) (.inr rfl))
    (ss_cons (s_whl (t_cmp w (b_of (e_bin w (b_of (e_biT (bi := .int) (bi_int) z.m_int (by first | exact PyProof.Rows.boot_int | exact PySem.boot_int) (a_cons (b_var 0 rfl (.inl rfl)) (a_nil)))) (b_of (e_int)))) (b_of (e_int))) (ss_cons (s_par2 w 0 1 (v_cons (e_bin w (b_var 0 rfl (.inl rfl)) (b_of (e_int))) (v_cons (e_bin w (b_var 1 rfl (.inl rfl)) (b_of (e_int))) (v_nil))) rfl rfl rfl rfl)
    (ss_nil)))
    (ss_cons (s_retv 1 (L2.pe_var rfl (.inl rfl)))
    (ss_nil))))
theorem sc__law_power : FnScope ["_law_times", "_law_found", "_law_turn"] ["_law_times"] (defScope (topS 41)) := ⟨rfl, rfl, rfl, by decide +kernel, rfl, by decide +kernel, by decide +kernel⟩
set_option maxHeartbeats 4000000 in
theorem b__law_power {T : Tb} {k : Nat} (z : Mz T) (h : Fm T k) : ∀ (f : Addr) (cdv : Value) (A : Around) (outer : List PySem.Env) (s : Shared) (H : Hp) (E : XK), CB T k (asDef T ["_law_times", "_law_found", "_law_turn"] "_law_power" (defScope (topS 41)) f cdv A outer s H E) → DSs T (Cq Pg FU k) (asDef T ["_law_times", "_law_found", "_law_turn"] "_law_power" (defScope (topS 41)) f cdv A outer s H E) (defBody (topS 41)) s__law_power_v2 :=
  fun f cdv A outer s H E w =>
    ss_cons (s_set w 1 (e_int) rfl (.inl rfl) (.inr rfl))
    (ss_cons (s_for w (i_rng1 (b_var 0 rfl (.inl rfl)) z.m_range) (g_v w 2 rfl (.inl rfl) (.inr rfl)) (ss_cons (s_set w 1 (e_bin w (b_var 1 rfl (.inl rfl)) (b_of (e_int))) rfl (.inl rfl) (.inr rfl))
    (ss_nil)))
    (ss_cons (s_retv 1 (L2.pe_var rfl (.inl rfl)))
    (ss_nil)))
theorem sc__law_due : FnScope ["_law_bits", "_law_many", "_law_low", "_law_found", "_law_reached"] ["_law_bits", "_law_many", "_law_low"] (defScope (topS 43)) := ⟨rfl, rfl, rfl, by decide +kernel, rfl, by decide +kernel, by decide +kernel⟩
set_option maxHeartbeats 4000000 in
theorem b__law_due {T : Tb} {k : Nat} (z : Mz T) (h : Fm T k) : ∀ (f : Addr) (cdv : Value) (A : Around) (outer : List PySem.Env) (s : Shared) (H : Hp) (E : XK), CB T k (asDef T ["_law_bits", "_law_many", "_law_low", "_law_found", "_law_reached"] "_law_due" (defScope (topS 43)) f cdv A outer s H E) → DSs T (Cq Pg FU k) (asDef T ["_law_bits", "_law_many", "_law_low", "_law_found", "_law_reached"] "_law_due" (defScope (topS 43)) f cdv A outer s H E) (defBody (topS 43)) s__law_due_v1 :=
  fun f cdv A outer s H E w =>
    ss_cons (s_parT w (n_cons w 3 (n_cons w 4 (n_nil) rfl (.inl rfl) (.inr rfl)) rfl (.inl rfl) (.inr rfl)) (v_cons (e_int) (v_cons (e_int) (v_nil))))
    (ss_cons (s_whl (t_w (w_and (t_cmp w (b_var 3 rfl (.inl rfl)) (b_var 1 rfl (.inl rfl))) (w_and1 (t_cmp w (b_var 4 rfl (.inl rfl)) (b_var 0 rfl (.inl rfl)))))) (ss_cons (s_set w 3 (e_bin w (b_var 3 rfl (.inl rfl)) (b_of (e_int))) rfl (.inl rfl) (.inr rfl))
    (ss_cons (s_set w 4 (e_bin w (b_of (e_bin w (b_var 4 rfl (.inl rfl)) (b_var 2 rfl (.inl rfl)))) (b_of (e_fn w h.c__law_twos rfl (a_cons (b_var 3 rfl (.inl rfl)) (a_nil))))) rfl (.inl rfl) (.inr rfl))
    (ss_nil))))
    (ss_cons (s_retv 3 (L2.pe_var rfl (.inl rfl)))
    (ss_nil)))
theorem sc__law_side_right : FnScope ["_law_bits", "_law_many", "_law_low", "_law_needed", "_law_step", "_law_first", "_law_begin", "_law_size", "_law_line", "_law_at"] ["_law_bits", "_law_many", "_law_low", "_law_needed"] (defScope (topS 44)) := ⟨rfl, rfl, rfl, by decide +kernel, rfl, by decide +kernel, by decide +kernel⟩
set_option maxHeartbeats 4000000 in
theorem b__law_side_right {T : Tb} {k : Nat} (z : Mz T) (h : Fm T k) : ∀ (f : Addr) (cdv : Value) (A : Around) (outer : List PySem.Env) (s : Shared) (H : Hp) (E : XK), CB T k (asDef T ["_law_bits", "_law_many", "_law_low", "_law_needed", "_law_step", "_law_first", "_law_begin", "_law_size", "_law_line", "_law_at"] "_law_side_right" (defScope (topS 44)) f cdv A outer s H E) → DSs T (Cq Pg FU k) (asDef T ["_law_bits", "_law_many", "_law_low", "_law_needed", "_law_step", "_law_first", "_law_begin", "_law_size", "_law_line", "_law_at"] "_law_side_right" (defScope (topS 44)) f cdv A outer s H E) (defBody (topS 44)) s__law_side_right :=
  fun f cdv A outer s H E w =>
    ss_cons (s_set w 4 (e_fn w h.c__law_power rfl (a_cons (b_var 2 rfl (.inl rfl)) (a_nil))) rfl (.inr rfl) (.inl rfl))
    (ss_cons (s_set w 5 (e_bin w (b_of (e_bin w (b_of (e_fn w h.c__law_power rfl (a_cons (b_var 0 rfl (.inl rfl)) (a_nil)))) (b_of (e_int)))) (b_of (e_bin w (b_of (e_bin w (b_var 3 rfl (.inl rfl)) (b_of (e_int)))) (b_var 4 rfl (.inr (.inl rfl)))))) rfl (.inl rfl) (.inr rfl))
    (ss_cons (s_if (t_cmp w (b_var 5 rfl (.inl rfl)) (b_of (e_int))) (ss_cons (s_ret (e_bool))
    (ss_nil)) (ss_nil))
    (ss_cons (s_for w (i_seq w (e_lst (l_cons (e_int) (l_cons (e_var 5 rfl (.inl rfl)) (l_nil))))) (g_v w 6 rfl (.inr rfl) (.inl rfl)) (ss_cons (s_for w (i_seq w (e_lst (l_cons (e_bin w (b_var 3 rfl (.inl rfl)) (b_of (e_int))) (l_cons (e_var 3 rfl (.inl rfl)) (l_nil))))) (g_v w 7 rfl (.inl rfl) (.inr rfl)) (ss_cons (s_setc w 8 [("_law_at", 9)] rfl rfl rfl (i_rng1 (b_of (e_bin w (b_var 7 rfl (.inl rfl)) (b_of (e_int)))) z.m_range) (fun _ _ _ _ _ => g_v (w.blk _ _ _ _ _) 9 rfl (.inl rfl) (.inr rfl)) (fun _ _ _ _ _ => c_nil) (fun _ _ _ _ _ => e_bin (w.blk _ _ _ _ _) (b_var 6 rfl (.inr (.inl rfl))) (b_of (e_bin (w.blk _ _ _ _ _) (b_var 4 rfl (.inr (.inl rfl))) (b_var 9 rfl (.inl rfl))))) (blkOk_by (by kernel_rfl)))
    (ss_cons (s_if (t_w (w_and (t_cmp w (b_var 7 rfl (.inl rfl)) (b_of (e_int))) (w_and1 (t_cmp w (b_of (e_fn w h.c_follows rfl (a_cons (b_var 0 rfl (.inl rfl)) (a_cons (b_var 8 rfl (.inl rfl)) (a_cons (b_var 1 rfl (.inl rfl)) (a_cons (b_of (e_slc w (b_var 8 rfl (.inl rfl)) (p_some (b_of (e_int))) (p_none))) (a_cons (b_of (e_idx w (b_var 8 rfl (.inl rfl)) (b_of (e_int)))) (a_nil)))))))) (b_of (e_cmp w (b_var 7 rfl (.inl rfl)) (b_var 3 rfl (.inl rfl)))))))) (ss_cons (s_ret (e_bool))
    (ss_nil)) (ss_nil))
    (ss_cons (s_if (t_w (w_and (t_cmp w (b_var 7 rfl (.inl rfl)) (b_of (e_int))) (w_and1 (t_cmp w (b_of (e_fn w h.c_follows rfl (a_cons (b_var 0 rfl (.inl rfl)) (a_cons (b_var 8 rfl (.inl rfl)) (a_cons (b_var 1 rfl (.inl rfl)) (a_cons (b_of (e_slc w (b_var 8 rfl (.inl rfl)) (p_none) (p_some (b_var 7 rfl (.inl rfl))))) (a_cons (b_of (e_idx w (b_var 8 rfl (.inl rfl)) (b_var 7 rfl (.inl rfl)))) (a_nil)))))))) (b_of (e_cmp w (b_var 7 rfl (.inl rfl)) (b_var 3 rfl (.inl rfl)))))))) (ss_cons (s_ret (e_bool))
    (ss_nil)) (ss_nil))
    (ss_nil)))))
    (ss_nil)))
    (ss_cons (s_ret (e_bool))
    (ss_nil)))))
theorem sc__law_steps_right : FnScope ["_law_generator_here", "_law_bits", "_law_many", "_law_low", "_law_needed"] ["_law_generator_here"] (defScope (topS 45)) := ⟨rfl, rfl, rfl, by decide +kernel, rfl, by decide +kernel, by decide +kernel⟩
set_option maxHeartbeats 4000000 in
theorem b__law_steps_right {T : Tb} {k : Nat} (z : Mz T) (h : Fm T k) : ∀ (f : Addr) (cdv : Value) (A : Around) (outer : List PySem.Env) (s : Shared) (H : Hp) (E : XK), CB T k (asDef T ["_law_generator_here", "_law_bits", "_law_many", "_law_low", "_law_needed"] "_law_steps_right" (defScope (topS 45)) f cdv A outer s H E) → DSs T (Cq Pg FU k) (asDef T ["_law_generator_here", "_law_bits", "_law_many", "_law_low", "_law_needed"] "_law_steps_right" (defScope (topS 45)) f cdv A outer s H E) (defBody (topS 45)) s__law_steps_right_v1 :=
  fun f cdv A outer s H E w =>
    ss_cons (s_par3 w 1 2 3 (v_cons (e_bin w (b_of (e_int)) (b_of (e_fn w h.c__law_random rfl (a_cons (b_var 0 rfl (.inl rfl)) (a_cons (b_of (e_int)) (a_nil)))))) (v_cons (e_fn w h.c__law_random rfl (a_cons (b_var 0 rfl (.inl rfl)) (a_cons (b_of (e_int)) (a_nil)))) (v_cons (e_fn w h.c__law_random rfl (a_cons (b_var 0 rfl (.inl rfl)) (a_cons (b_of (e_int)) (a_nil)))) (v_nil)))) rfl rfl rfl rfl rfl rfl)
    (ss_cons (s_set w 4 (e_fn w h.c_steps_needed rfl (a_cons (b_var 1 rfl (.inl rfl)) (a_cons (b_var 2 rfl (.inl rfl)) (a_cons (b_var 3 rfl (.inl rfl)) (a_nil))))) rfl (.inl rfl) (.inr rfl))
    (ss_cons (s_if (t_w (w_or (t_cmp w (b_of (e_biB (bi := .repr) (bi_repr w.eK w.grd (by have := w.room.un; omega)) z.m_repr (by first | exact PyProof.Rows.boot_repr | exact PySem.boot_repr) (a_cons (b_var 4 rfl (.inl rfl)) (a_nil)))) (b_of (e_biB (bi := .repr) (bi_repr w.eK w.grd (by have := w.room.un; omega)) z.m_repr (by first | exact PyProof.Rows.boot_repr | exact PySem.boot_repr) (a_cons (b_of (e_fn w h.c__law_due rfl (a_cons (b_var 1 rfl (.inl rfl)) (a_cons (b_var 2 rfl (.inl rfl)) (a_cons (b_var 3 rfl (.inl rfl)) (a_nil)))))) (a_nil))))) (w_or1 (t_cmp w (b_var 4 rfl (.inl rfl)) (b_var 2 rfl (.inl rfl)))))) (ss_cons (s_ret (e_bool))
    (ss_nil)) (ss_nil))
    (ss_cons (s_if (t_w (w_or (t_cmp w (b_of (e_fn w h.c_steps_needed rfl (a_cons (b_var 1 rfl (.inl rfl)) (a_cons (b_var 2 rfl (.inl rfl)) (a_cons (b_of (e_bin w (b_var 3 rfl (.inl rfl)) (b_of (e_int)))) (a_nil)))))) (b_var 4 rfl (.inl rfl))) (w_or1 (t_cmp w (b_of (e_fn w h.c_steps_needed rfl (a_cons (b_of (e_biB (bi := .min) (bi_min w.eK w.calm) z.m_min (by first | exact PyProof.Rows.boot_min | exact PySem.boot_min) (a_cons (b_of (e_bin w (b_var 1 rfl (.inl rfl)) (b_of (e_int)))) (a_cons (b_of (e_int)) (a_nil))))) (a_cons (b_var 2 rfl (.inl rfl)) (a_cons (b_var 3 rfl (.inl rfl)) (a_nil)))))) (b_var 4 rfl (.inl rfl)))))) (ss_cons (s_ret (e_bool))
    (ss_nil)) (ss_nil))
    (ss_cons (s_ret (e_or w (e_cmp w (b_var 4 rfl (.inl rfl)) (b_of (e_int))) (e_one (e_fn w h.c__law_side_right rfl (a_cons (b_var 1 rfl (.inl rfl)) (a_cons (b_var 2 rfl (.inl rfl)) (a_cons (b_var 3 rfl (.inl rfl)) (a_cons (b_var 4 rfl (.inl rfl)) (a_nil)))))))))
    (ss_nil)))))
theorem sc_law : FnScope ["_law_script", "_law_index", "_law_told"] ["_law_script"] (defScope (topS 46)) := ⟨rfl, rfl, rfl, by decide +kernel, rfl, by decide +kernel, by decide +kernel⟩
set_option maxHeartbeats 4000000 in
theorem b_law {T : Tb} {k : Nat} (z : Mz T) (h : Fm T k) : ∀ (f : Addr) (cdv : Value) (A : Around) (outer : List PySem.Env) (s : Shared) (H : Hp) (E : XK), CB T k (asDef T ["_law_script", "_law_index", "_law_told"] "law" (defScope (topS 46)) f cdv A outer s H E) → DSs T (Cq Pg FU k) (asDef T ["_law_script", "_law_index", "_law_told"] "law" (defScope (topS 46)) f cdv A outer s H E) (defBody (topS 46)) s_law_v35 :=
  fun f cdv A outer s H E w =>
    ss_cons (s_for w (i_rng1 (b_of (e_int)) z.m_range) (g_v w 1 rfl (.inl rfl) (.inr rfl)) (ss_cons (s_if (t_not (t_val w (b_of (e_fnN w h.c__law_steps_right rfl (e_fn w h.c__law_generator rfl (a_cons (b_var 0 rfl (.inl rfl)) (a_cons (b_var 1 rfl (.inl rfl)) (a_nil)))) (a_nil))))) (ss_cons (s_ret (e_bool))
    (ss_nil)) (ss_nil))
    (ss_nil)))
    (ss_cons (s_set w 2 (e_lst (l_cons (e_fn w h.c_steps_needed rfl (a_cons (b_of (e_int)) (a_cons (b_of (e_int)) (a_cons (b_of (e_int)) (a_nil))))) (l_cons (e_fn w h.c_steps_needed rfl (a_cons (b_of (e_int)) (a_cons (b_of (e_int)) (a_cons (b_of (e_int)) (a_nil))))) (l_cons (e_fn w h.c_steps_needed rfl (a_cons (b_of (e_int)) (a_cons (b_of (e_int)) (a_cons (b_of (e_int)) (a_nil))))) (l_cons (e_fn w h.c_steps_needed rfl (a_cons (b_of (e_int)) (a_cons (b_of (e_int)) (a_cons (b_of (e_int)) (a_nil))))) (l_cons (e_fn w h.c_steps_needed rfl (a_cons (b_of (e_int)) (a_cons (b_of (e_int)) (a_cons (b_of (e_int)) (a_nil))))) (l_nil))))))) rfl (.inl rfl) (.inr rfl))
    (ss_cons (s_if (t_w (w_or (t_cmp w (b_of (e_biB (bi := .repr) (bi_repr w.eK w.grd (by have := w.room.un; omega)) z.m_repr (by first | exact PyProof.Rows.boot_repr | exact PySem.boot_repr) (a_cons (b_var 2 rfl (.inl rfl)) (a_nil)))) (b_of (e_biB (bi := .repr) (bi_repr w.eK w.grd (by have := w.room.un; omega)) z.m_repr (by first | exact PyProof.Rows.boot_repr | exact PySem.boot_repr) (a_cons (b_of (e_lst (l_cons (e_int) (l_cons (e_int) (l_cons (e_int) (l_cons (e_int) (l_cons (e_int) (l_nil)))))))) (a_nil))))) (w_or (t_cmp w (b_of (e_fn w h.c_steps_needed rfl (a_cons (b_of (e_int)) (a_cons (b_of (e_bin w (b_of (e_int)) (b_of (e_int)))) (a_cons (b_of (e_int)) (a_nil)))))) (b_of (e_int))) (w_or1 (t_cmp w (b_of (e_fn w h.c_steps_needed rfl (a_cons (b_of (e_int)) (a_cons (b_of (e_bin w (b_of (e_int)) (b_of (e_int)))) (a_cons (b_of (e_int)) (a_nil)))))) (b_of (e_int))))))) (ss_cons (s_ret (e_bool))
    (ss_nil)) (ss_nil))
    (ss_cons (s_ret (e_and w (e_cmp w (b_of (e_fn w h.c_follows rfl (a_cons (b_of (e_int)) (a_cons (b_of (e_lst (l_cons (e_int) (l_cons (e_int) (l_cons (e_int) (l_nil)))))) (a_cons (b_of (e_int)) (a_cons (b_of (e_lst (l_cons (e_int) (l_cons (e_int) (l_nil))))) (a_cons (b_of (e_int)) (a_nil)))))))) (b_of (e_bool))) (e_one (e_cmp w (b_of (e_fn w h.c_follows rfl (a_cons (b_of (e_int)) (a_cons (b_of (e_lst (l_cons (e_int) (l_cons (e_int) (l_cons (e_int) (l_nil)))))) (a_cons (b_of (e_int)) (a_cons (b_of (e_lst (l_cons (e_int) (l_cons (e_int) (l_nil))))) (a_cons (b_of (e_int)) (a_nil)))))))) (b_of (e_bool))))))
    (ss_nil))))
/-- the defs as they stand -/
structure Lz (T : Tb) : Prop where
  z : Mz T
  d_is_whole : ∃ f fd, DfAt T "is_whole" (topS 7) ["value"] ["value"] f fd
  d_is_between : ∃ f fd, DfAt T "is_between" (topS 8) ["value", "low", "high"] ["value", "low", "high"] f fd
  d_check_number : ∃ f fd, DfAt T "check_number" (topS 9) ["number", "low", "high"] ["number", "low", "high"] f fd
  d_power_of_two : ∃ f fd, DfAt T "power_of_two" (topS 10) ["many"] ["many"] f fd
  d_twos : ∃ f fd, DfAt T "twos" (topS 11) ["number", "found"] ["number"] f fd
  d_good_row : ∃ f fd, DfAt T "good_row" (topS 12) ["places", "order", "numbers", "left", "sums", "at", "taken", "have", "place"] ["places"] f fd
  d_is_width : ∃ f fd, DfAt T "is_width" (topS 14) ["value"] ["value"] f fd
  d_check_width : ∃ f fd, DfAt T "check_width" (topS 15) ["width"] ["width"] f fd
  d_is_of_width : ∃ f fd, DfAt T "is_of_width" (topS 16) ["width", "value"] ["width", "value"] f fd
  d_rises : ∃ f fd, DfAt T "rises" (topS 17) ["numbers", "at"] ["numbers"] f fd
  d_are_places : ∃ f fd, DfAt T "are_places" (topS 18) ["width", "value", "item"] ["width", "value"] f fd
  d_check_places : ∃ f fd, DfAt T "check_places" (topS 19) ["width", "places"] ["width", "places"] f fd
  d_check_code : ∃ f fd, DfAt T "check_code" (topS 21) ["width", "places", "count"] ["width", "places", "count"] f fd
  d_bits_at : ∃ f fd, DfAt T "bits_at" (topS 22) ["width", "order", "numbers", "count", "place", "found", "cost", "taken", "number"] ["width", "order", "numbers", "count", "place"] f fd
  d_check_part : ∃ f fd, DfAt T "check_part" (topS 24) ["places", "part", "item"] ["places", "part"] f fd
  d_check_place : ∃ f fd, DfAt T "check_place" (topS 25) ["places", "place"] ["places", "place"] f fd
  d_bits_list : ∃ f fd, DfAt T "bits_list" (topS 26) ["width", "places", "count", "asked", "order", "numbers", "place"] ["width", "places", "count", "asked"] f fd
  d_check_allowed : ∃ f fd, DfAt T "check_allowed" (topS 29) ["places", "allowed", "place"] ["places", "allowed", "place"] f fd
  d_follows : ∃ f fd, DfAt T "follows" (topS 30) ["width", "places", "count", "allowed", "place"] ["width", "places", "count", "allowed", "place"] f fd
  d_steps_needed : ∃ f fd, DfAt T "steps_needed" (topS 31) ["width", "count", "bits", "found", "reached"] ["width", "count", "bits"] f fd
  d__law_hash : ∃ f fd, DfAt T "_law_hash" (topS 33) ["_law_seed", "_law_index", "_law_mixed"] ["_law_seed", "_law_index"] f fd
  d__law_random : ∃ f fd, DfAt T "_law_random" (topS 34) ["_law_generator_here", "_law_bound", "_law_drawn", "_law_turn"] ["_law_generator_here", "_law_bound"] f fd
  d__law_cell : ∃ f fd, DfAt T "_law_cell" (topS 35) ["_law_script", "_law_index"] ["_law_script", "_law_index"] f fd
  d__law_generator : ∃ f fd, DfAt T "_law_generator" (topS 36) ["_law_script", "_law_index", "_law_seed"] ["_law_script", "_law_index"] f fd
  d__law_twos : ∃ f fd, DfAt T "_law_twos" (topS 37) ["_law_number", "_law_found"] ["_law_number"] f fd
  d__law_power : ∃ f fd, DfAt T "_law_power" (topS 41) ["_law_times", "_law_found", "_law_turn"] ["_law_times"] f fd
  d__law_due : ∃ f fd, DfAt T "_law_due" (topS 43) ["_law_bits", "_law_many", "_law_low", "_law_found", "_law_reached"] ["_law_bits", "_law_many", "_law_low"] f fd
  d__law_side_right : ∃ f fd, DfAt T "_law_side_right" (topS 44) ["_law_bits", "_law_many", "_law_low", "_law_needed", "_law_step", "_law_first", "_law_begin", "_law_size", "_law_line", "_law_at"] ["_law_bits", "_law_many", "_law_low", "_law_needed"] f fd
  d__law_steps_right : ∃ f fd, DfAt T "_law_steps_right" (topS 45) ["_law_generator_here", "_law_bits", "_law_many", "_law_low", "_law_needed"] ["_law_generator_here"] f fd
  d_law : ∃ f fd, DfAt T "law" (topS 46) ["_law_script", "_law_index", "_law_told"] ["_law_script"] f fd
theorem fam {T : Tb} (l : Lz T) : ∀ k : Nat, Fm T k
  | 0 => ⟨let ⟨_, _, q⟩ := l.d_is_whole; cal_zero q, let ⟨_, _, q⟩ := l.d_is_between; cal_zero q, let ⟨_, _, q⟩ := l.d_check_number; cal_zero q, let ⟨_, _, q⟩ := l.d_power_of_two; cal_zero q, let ⟨_, _, q⟩ := l.d_twos; cal_zero q, let ⟨_, _, q⟩ := l.d_good_row; cal_zero q, let ⟨_, _, q⟩ := l.d_is_width; cal_zero q, let ⟨_, _, q⟩ := l.d_check_width; cal_zero q, let ⟨_, _, q⟩ := l.d_is_of_width; cal_zero q, let ⟨_, _, q⟩ := l.d_rises; cal_zero q, let ⟨_, _, q⟩ := l.d_are_places; cal_zero q, let ⟨_, _, q⟩ := l.d_check_places; cal_zero q, let ⟨_, _, q⟩ := l.d_check_code; cal_zero q, let ⟨_, _, q⟩ := l.d_bits_at; cal_zero q, let ⟨_, _, q⟩ := l.d_check_part; cal_zero q, let ⟨_, _, q⟩ := l.d_check_place; cal_zero q, let ⟨_, _, q⟩ := l.d_bits_list; cal_zero q, let ⟨_, _, q⟩ := l.d_check_allowed; cal_zero q, let ⟨_, _, q⟩ := l.d_follows; cal_zero q, let ⟨_, _, q⟩ := l.d_steps_needed; cal_zero q, let ⟨_, _, q⟩ := l.d__law_hash; cal_zero q, let ⟨_, _, q⟩ := l.d__law_random; cal_zero q, let ⟨_, _, q⟩ := l.d__law_cell; cal_zero q, let ⟨_, _, q⟩ := l.d__law_generator; cal_zero q, let ⟨_, _, q⟩ := l.d__law_twos; cal_zero q, let ⟨_, _, q⟩ := l.d__law_power; cal_zero q, let ⟨_, _, q⟩ := l.d__law_due; cal_zero q, let ⟨_, _, q⟩ := l.d__law_side_right; cal_zero q, let ⟨_, _, q⟩ := l.d__law_steps_right; cal_zero q, let ⟨_, _, q⟩ := l.d_law; cal_zero q⟩
  | k + 1 => ⟨let ⟨_, _, q⟩ := l.d_is_whole; cal_step (df := d_is_whole) (i := 0) q rfl rfl rfl (b_is_whole l.z (fam l k)), let ⟨_, _, q⟩ := l.d_is_between; cal_step (df := d_is_between) (i := 1) q rfl rfl rfl (b_is_between l.z (fam l k)), let ⟨_, _, q⟩ := l.d_check_number; cal_step (df := d_check_number) (i := 2) q rfl rfl rfl (b_check_number l.z (fam l k)), let ⟨_, _, q⟩ := l.d_power_of_two; cal_step (df := d_power_of_two) (i := 3) q rfl rfl rfl (b_power_of_two l.z (fam l k)), let ⟨_, _, q⟩ := l.d_twos; cal_step (df := d_twos) (i := 4) q rfl rfl rfl (b_twos l.z (fam l k)), let ⟨_, _, q⟩ := l.d_good_row; cal_step (df := d_good_row) (i := 5) q rfl rfl rfl (b_good_row l.z (fam l k)), let ⟨_, _, q⟩ := l.d_is_width; cal_step (df := d_is_width) (i := 8) q rfl rfl rfl (b_is_width l.z (fam l k)), let ⟨_, _, q⟩ := l.d_check_width; cal_step (df := d_check_width) (i := 9) q rfl rfl rfl (b_check_width l.z (fam l k)), let ⟨_, _, q⟩ := l.d_is_of_width; cal_step (df := d_is_of_width) (i := 10) q rfl rfl rfl (b_is_of_width l.z (fam l k)), let ⟨_, _, q⟩ := l.d_rises; cal_step (df := d_rises) (i := 11) q rfl rfl rfl (b_rises l.z (fam l k)), let ⟨_, _, q⟩ := l.d_are_places; cal_step (df := d_are_places) (i := 12) q rfl rfl rfl (b_are_places l.z (fam l k)), let ⟨_, _, q⟩ := l.d_check_places; cal_step (df := d_check_places) (i := 13) q rfl rfl rfl (b_check_places l.z (fam l k)), let ⟨_, _, q⟩ := l.d_check_code; cal_step (df := d_check_code) (i := 19) q rfl rfl rfl (b_check_code l.z (fam l k)), let ⟨_, _, q⟩ := l.d_bits_at; cal_step (df := d_bits_at) (i := 363) q rfl rfl rfl (b_bits_at l.z (fam l k)), let ⟨_, _, q⟩ := l.d_check_part; cal_step (df := d_check_part_v1) (i := 376) q rfl rfl rfl (b_check_part l.z (fam l k)), let ⟨_, _, q⟩ := l.d_check_place; cal_step (df := d_check_place) (i := 377) q rfl rfl rfl (b_check_place l.z (fam l k)), let ⟨_, _, q⟩ := l.d_bits_list; cal_step (df := d_bits_list) (i := 378) q rfl rfl rfl (b_bits_list l.z (fam l k)), let ⟨_, _, q⟩ := l.d_check_allowed; cal_step (df := d_check_allowed) (i := 407) q rfl rfl rfl (b_check_allowed l.z (fam l k)), let ⟨_, _, q⟩ := l.d_follows; cal_step (df := d_follows) (i := 412) q rfl rfl rfl (b_follows l.z (fam l k)), let ⟨_, _, q⟩ := l.d_steps_needed; cal_step (df := d_steps_needed) (i := 427) q rfl rfl rfl (b_steps_needed l.z (fam l k)), let ⟨_, _, q⟩ := l.d__law_hash; cal_step (df := d__law_hash) (i := 32) q rfl rfl rfl (b__law_hash l.z (fam l k)), let ⟨_, _, q⟩ := l.d__law_random; cal_step (df := d__law_random) (i := 33) q rfl rfl rfl (b__law_random l.z (fam l k)), let ⟨_, _, q⟩ := l.d__law_cell; cal_step (df := d__law_cell) (i := 34) q rfl rfl rfl (b__law_cell l.z (fam l k)), let ⟨_, _, q⟩ := l.d__law_generator; cal_step (df := d__law_generator) (i := 35) q rfl rfl rfl (b__law_generator l.z (fam l k)), let ⟨_, _, q⟩ := l.d__law_twos; cal_step (df := d__law_twos_v3) (i := 350) q rfl rfl rfl (b__law_twos l.z (fam l k)), let ⟨_, _, q⟩ := l.d__law_power; cal_step (df := d__law_power_v2) (i := 354) q rfl rfl rfl (b__law_power l.z (fam l k)), let ⟨_, _, q⟩ := l.d__law_due; cal_step (df := d__law_due_v1) (i := 428) q rfl rfl rfl (b__law_due l.z (fam l k)), let ⟨_, _, q⟩ := l.d__law_side_right; cal_step (df := d__law_side_right) (i := 429) q rfl rfl rfl (b__law_side_right l.z (fam l k)), let ⟨_, _, q⟩ := l.d__law_steps_right; cal_step (df := d__law_steps_right_v1) (i := 430) q rfl rfl rfl (b__law_steps_right l.z (fam l k)), let ⟨_, _, q⟩ := l.d_law; cal_step (df := d_law_v35) (i := 431) q rfl rfl rfl (b_law l.z (fam l k))⟩
theorem bn_is_whole : ∀ (kV doc pm : Value) (an : Option Addr) (cdv ct : Value) (us : List Value), us.length = [("value" : Str)].length → bindArgs (PySem.W.fnOf "is_whole" "is_whole" (defArgs (topS 7)) (defBody (topS 7)) (defScope (topS 7)) .none kV doc pm an cdv ct) ⟨us, []⟩ = pure ((["value"] : List Str).zip us) :=
  fun _ _ _ _ _ _ us hl => match us, hl with | [_], _ => rfl
theorem bn_is_between : ∀ (kV doc pm : Value) (an : Option Addr) (cdv ct : Value) (us : List Value), us.length = [("value" : Str), ("low" : Str), ("high" : Str)].length → bindArgs (PySem.W.fnOf "is_between" "is_between" (defArgs (topS 8)) (defBody (topS 8)) (defScope (topS 8)) .none kV doc pm an cdv ct) ⟨us, []⟩ = pure ((["value", "low", "high"] : List Str).zip us) :=
  fun _ _ _ _ _ _ us hl => match us, hl with | [_, _, _], _ => rfl
theorem bn_check_number : ∀ (kV doc pm : Value) (an : Option Addr) (cdv ct : Value) (us : List Value), us.length = [("number" : Str), ("low" : Str), ("high" : Str)].length → bindArgs (PySem.W.fnOf "check_number" "check_number" (defArgs (topS 9)) (defBody (topS 9)) (defScope (topS 9)) .none kV doc pm an cdv ct) ⟨us, []⟩ = pure ((["number", "low", "high"] : List Str).zip us) :=
  fun _ _ _ _ _ _ us hl => match us, hl with | [_, _, _], _ => rfl
theorem bn_power_of_two : ∀ (kV doc pm : Value) (an : Option Addr) (cdv ct : Value) (us : List Value), us.length = [("many" : Str)].length → bindArgs (PySem.W.fnOf "power_of_two" "power_of_two" (defArgs (topS 10)) (defBody (topS 10)) (defScope (topS 10)) .none kV doc pm an cdv ct) ⟨us, []⟩ = pure ((["many"] : List Str).zip us) :=
  fun _ _ _ _ _ _ us hl => match us, hl with | [_], _ => rfl
theorem bn_twos : ∀ (kV doc pm : Value) (an : Option Addr) (cdv ct : Value) (us : List Value), us.length = [("number" : Str)].length → bindArgs (PySem.W.fnOf "twos" "twos" (defArgs (topS 11)) (defBody (topS 11)) (defScope (topS 11)) .none kV doc pm an cdv ct) ⟨us, []⟩ = pure ((["number"] : List Str).zip us) :=
  fun _ _ _ _ _ _ us hl => match us, hl with | [_], _ => rfl
theorem bn_good_row : ∀ (kV doc pm : Value) (an : Option Addr) (cdv ct : Value) (us : List Value), us.length = [("places" : Str)].length → bindArgs (PySem.W.fnOf "good_row" "good_row" (defArgs (topS 12)) (defBody (topS 12)) (defScope (topS 12)) .none kV doc pm an cdv ct) ⟨us, []⟩ = pure ((["places"] : List Str).zip us) :=
  fun _ _ _ _ _ _ us hl => match us, hl with | [_], _ => rfl
theorem bn_is_width : ∀ (kV doc pm : Value) (an : Option Addr) (cdv ct : Value) (us : List Value), us.length = [("value" : Str)].length → bindArgs (PySem.W.fnOf "is_width" "is_width" (defArgs (topS 14)) (defBody (topS 14)) (defScope (topS 14)) .none kV doc pm an cdv ct) ⟨us, []⟩ = pure ((["value"] : List Str).zip us) :=
  fun _ _ _ _ _ _ us hl => match us, hl with | [_], _ => rfl
theorem bn_check_width : ∀ (kV doc pm : Value) (an : Option Addr) (cdv ct : Value) (us : List Value), us.length = [("width" : Str)].length → bindArgs (PySem.W.fnOf "check_width" "check_width" (defArgs (topS 15)) (defBody (topS 15)) (defScope (topS 15)) .none kV doc pm an cdv ct) ⟨us, []⟩ = pure ((["width"] : List Str).zip us) :=
  fun _ _ _ _ _ _ us hl => match us, hl with | [_], _ => rfl
theorem bn_is_of_width : ∀ (kV doc pm : Value) (an : Option Addr) (cdv ct : Value) (us : List Value), us.length = [("width" : Str), ("value" : Str)].length → bindArgs (PySem.W.fnOf "is_of_width" "is_of_width" (defArgs (topS 16)) (defBody (topS 16)) (defScope (topS 16)) .none kV doc pm an cdv ct) ⟨us, []⟩ = pure ((["width", "value"] : List Str).zip us) :=
  fun _ _ _ _ _ _ us hl => match us, hl with | [_, _], _ => rfl
theorem bn_rises : ∀ (kV doc pm : Value) (an : Option Addr) (cdv ct : Value) (us : List Value), us.length = [("numbers" : Str)].length → bindArgs (PySem.W.fnOf "rises" "rises" (defArgs (topS 17)) (defBody (topS 17)) (defScope (topS 17)) .none kV doc pm an cdv ct) ⟨us, []⟩ = pure ((["numbers"] : List Str).zip us) :=
  fun _ _ _ _ _ _ us hl => match us, hl with | [_], _ => rfl
theorem bn_are_places : ∀ (kV doc pm : Value) (an : Option Addr) (cdv ct : Value) (us : List Value), us.length = [("width" : Str), ("value" : Str)].length → bindArgs (PySem.W.fnOf "are_places" "are_places" (defArgs (topS 18)) (defBody (topS 18)) (defScope (topS 18)) .none kV doc pm an cdv ct) ⟨us, []⟩ = pure ((["width", "value"] : List Str).zip us) :=
  fun _ _ _ _ _ _ us hl => match us, hl with | [_, _], _ => rfl
theorem bn_check_places : ∀ (kV doc pm : Value) (an : Option Addr) (cdv ct : Value) (us : List Value), us.length = [("width" : Str), ("places" : Str)].length → bindArgs (PySem.W.fnOf "check_places" "check_places" (defArgs (topS 19)) (defBody (topS 19)) (defScope (topS 19)) .none kV doc pm an cdv ct) ⟨us, []⟩ = pure ((["width", "places"] : List Str).zip us) :=
  fun _ _ _ _ _ _ us hl => match us, hl with | [_, _], _ => rfl
theorem bn_check_code : ∀ (kV doc pm : Value) (an : Option Addr) (cdv ct : Value) (us : List Value), us.length = [("width" : Str), ("places" : Str), ("count" : Str)].length → bindArgs (PySem.W.fnOf "check_code" "check_code" (defArgs (topS 21)) (defBody (topS 21)) (defScope (topS 21)) .none kV doc pm an cdv ct) ⟨us, []⟩ = pure ((["width", "places", "count"] : List Str).zip us) :=
  fun _ _ _ _ _ _ us hl => match us, hl with | [_, _, _], _ => rfl
theorem bn_bits_at : ∀ (kV doc pm : Value) (an : Option Addr) (cdv ct : Value) (us : List Value), us.length = [("width" : Str), ("order" : Str), ("numbers" : Str), ("count" : Str), ("place" : Str)].length → bindArgs (PySem.W.fnOf "bits_at" "bits_at" (defArgs (topS 22)) (defBody (topS 22)) (defScope (topS 22)) .none kV doc pm an cdv ct) ⟨us, []⟩ = pure ((["width", "order", "numbers", "count", "place"] : List Str).zip us) :=
  fun _ _ _ _ _ _ us hl => match us, hl with | [_, _, _, _, _], _ => rfl
theorem bn_check_part : ∀ (kV doc pm : Value) (an : Option Addr) (cdv ct : Value) (us : List Value), us.length = [("places" : Str), ("part" : Str)].length → bindArgs (PySem.W.fnOf "check_part" "check_part" (defArgs (topS 24)) (defBody (topS 24)) (defScope (topS 24)) .none kV doc pm an cdv ct) ⟨us, []⟩ = pure ((["places", "part"] : List Str).zip us) :=
  fun _ _ _ _ _ _ us hl => match us, hl with | [_, _], _ => rfl
theorem bn_check_place : ∀ (kV doc pm : Value) (an : Option Addr) (cdv ct : Value) (us : List Value), us.length = [("places" : Str), ("place" : Str)].length → bindArgs (PySem.W.fnOf "check_place" "check_place" (defArgs (topS 25)) (defBody (topS 25)) (defScope (topS 25)) .none kV doc pm an cdv ct) ⟨us, []⟩ = pure ((["places", "place"] : List Str).zip us) :=
  fun _ _ _ _ _ _ us hl => match us, hl with | [_, _], _ => rfl
theorem bn_bits_list : ∀ (kV doc pm : Value) (an : Option Addr) (cdv ct : Value) (us : List Value), us.length = [("width" : Str), ("places" : Str), ("count" : Str), ("asked" : Str)].length → bindArgs (PySem.W.fnOf "bits_list" "bits_list" (defArgs (topS 26)) (defBody (topS 26)) (defScope (topS 26)) .none kV doc pm an cdv ct) ⟨us, []⟩ = pure ((["width", "places", "count", "asked"] : List Str).zip us) :=
  fun _ _ _ _ _ _ us hl => match us, hl with | [_, _, _, _], _ => rfl
theorem bn_check_allowed : ∀ (kV doc pm : Value) (an : Option Addr) (cdv ct : Value) (us : List Value), us.length = [("places" : Str), ("allowed" : Str), ("place" : Str)].length → bindArgs (PySem.W.fnOf "check_allowed" "check_allowed" (defArgs (topS 29)) (defBody (topS 29)) (defScope (topS 29)) .none kV doc pm an cdv ct) ⟨us, []⟩ = pure ((["places", "allowed", "place"] : List Str).zip us) :=
  fun _ _ _ _ _ _ us hl => match us, hl with | [_, _, _], _ => rfl
theorem bn_follows : ∀ (kV doc pm : Value) (an : Option Addr) (cdv ct : Value) (us : List Value), us.length = [("width" : Str), ("places" : Str), ("count" : Str), ("allowed" : Str), ("place" : Str)].length → bindArgs (PySem.W.fnOf "follows" "follows" (defArgs (topS 30)) (defBody (topS 30)) (defScope (topS 30)) .none kV doc pm an cdv ct) ⟨us, []⟩ = pure ((["width", "places", "count", "allowed", "place"] : List Str).zip us) :=
  fun _ _ _ _ _ _ us hl => match us, hl with | [_, _, _, _, _], _ => rfl
theorem bn_steps_needed : ∀ (kV doc pm : Value) (an : Option Addr) (cdv ct : Value) (us : List Value), us.length = [("width" : Str), ("count" : Str), ("bits" : Str)].length → bindArgs (PySem.W.fnOf "steps_needed" "steps_needed" (defArgs (topS 31)) (defBody (topS 31)) (defScope (topS 31)) .none kV doc pm an cdv ct) ⟨us, []⟩ = pure ((["width", "count", "bits"] : List Str).zip us) :=
  fun _ _ _ _ _ _ us hl => match us, hl with | [_, _, _], _ => rfl
theorem bn__law_hash : ∀ (kV doc pm : Value) (an : Option Addr) (cdv ct : Value) (us : List Value), us.length = [("_law_seed" : Str), ("_law_index" : Str)].length → bindArgs (PySem.W.fnOf "_law_hash" "_law_hash" (defArgs (topS 33)) (defBody (topS 33)) (defScope (topS 33)) .none kV doc pm an cdv ct) ⟨us, []⟩ = pure ((["_law_seed", "_law_index"] : List Str).zip us) :=
  fun _ _ _ _ _ _ us hl => match us, hl with | [_, _], _ => rfl
theorem bn__law_random : ∀ (kV doc pm : Value) (an : Option Addr) (cdv ct : Value) (us : List Value), us.length = [("_law_generator_here" : Str), ("_law_bound" : Str)].length → bindArgs (PySem.W.fnOf "_law_random" "_law_random" (defArgs (topS 34)) (defBody (topS 34)) (defScope (topS 34)) .none kV doc pm an cdv ct) ⟨us, []⟩ = pure ((["_law_generator_here", "_law_bound"] : List Str).zip us) :=
  fun _ _ _ _ _ _ us hl => match us, hl with | [_, _], _ => rfl
theorem bn__law_cell : ∀ (kV doc pm : Value) (an : Option Addr) (cdv ct : Value) (us : List Value), us.length = [("_law_script" : Str), ("_law_index" : Str)].length → bindArgs (PySem.W.fnOf "_law_cell" "_law_cell" (defArgs (topS 35)) (defBody (topS 35)) (defScope (topS 35)) .none kV doc pm an cdv ct) ⟨us, []⟩ = pure ((["_law_script", "_law_index"] : List Str).zip us) :=
  fun _ _ _ _ _ _ us hl => match us, hl with | [_, _], _ => rfl
theorem bn__law_generator : ∀ (kV doc pm : Value) (an : Option Addr) (cdv ct : Value) (us : List Value), us.length = [("_law_script" : Str), ("_law_index" : Str)].length → bindArgs (PySem.W.fnOf "_law_generator" "_law_generator" (defArgs (topS 36)) (defBody (topS 36)) (defScope (topS 36)) .none kV doc pm an cdv ct) ⟨us, []⟩ = pure ((["_law_script", "_law_index"] : List Str).zip us) :=
  fun _ _ _ _ _ _ us hl => match us, hl with | [_, _], _ => rfl
theorem bn__law_twos : ∀ (kV doc pm : Value) (an : Option Addr) (cdv ct : Value) (us : List Value), us.length = [("_law_number" : Str)].length → bindArgs (PySem.W.fnOf "_law_twos" "_law_twos" (defArgs (topS 37)) (defBody (topS 37)) (defScope (topS 37)) .none kV doc pm an cdv ct) ⟨us, []⟩ = pure ((["_law_number"] : List Str).zip us) :=
  fun _ _ _ _ _ _ us hl => match us, hl with | [_], _ => rfl
theorem bn__law_power : ∀ (kV doc pm : Value) (an : Option Addr) (cdv ct : Value) (us : List Value), us.length = [("_law_times" : Str)].length → bindArgs (PySem.W.fnOf "_law_power" "_law_power" (defArgs (topS 41)) (defBody (topS 41)) (defScope (topS 41)) .none kV doc pm an cdv ct) ⟨us, []⟩ = pure ((["_law_times"] : List Str).zip us) :=
  fun _ _ _ _ _ _ us hl => match us, hl with | [_], _ => rfl
theorem bn__law_due : ∀ (kV doc pm : Value) (an : Option Addr) (cdv ct : Value) (us : List Value), us.length = [("_law_bits" : Str), ("_law_many" : Str), ("_law_low" : Str)].length → bindArgs (PySem.W.fnOf "_law_due" "_law_due" (defArgs (topS 43)) (defBody (topS 43)) (defScope (topS 43)) .none kV doc pm an cdv ct) ⟨us, []⟩ = pure ((["_law_bits", "_law_many", "_law_low"] : List Str).zip us) :=
  fun _ _ _ _ _ _ us hl => match us, hl with | [_, _, _], _ => rfl
theorem bn__law_side_right : ∀ (kV doc pm : Value) (an : Option Addr) (cdv ct : Value) (us : List Value), us.length = [("_law_bits" : Str), ("_law_many" : Str), ("_law_low" : Str), ("_law_needed" : Str)].length → bindArgs (PySem.W.fnOf "_law_side_right" "_law_side_right" (defArgs (topS 44)) (defBody (topS 44)) (defScope (topS 44)) .none kV doc pm an cdv ct) ⟨us, []⟩ = pure ((["_law_bits", "_law_many", "_law_low", "_law_needed"] : List Str).zip us) :=
  fun _ _ _ _ _ _ us hl => match us, hl with | [_, _, _, _], _ => rfl
theorem bn__law_steps_right : ∀ (kV doc pm : Value) (an : Option Addr) (cdv ct : Value) (us : List Value), us.length = [("_law_generator_here" : Str)].length → bindArgs (PySem.W.fnOf "_law_steps_right" "_law_steps_right" (defArgs (topS 45)) (defBody (topS 45)) (defScope (topS 45)) .none kV doc pm an cdv ct) ⟨us, []⟩ = pure ((["_law_generator_here"] : List Str).zip us) :=
  fun _ _ _ _ _ _ us hl => match us, hl with | [_], _ => rfl
theorem bn_law : ∀ (kV doc pm : Value) (an : Option Addr) (cdv ct : Value) (us : List Value), us.length = [("_law_script" : Str)].length → bindArgs (PySem.W.fnOf "law" "law" (defArgs (topS 46)) (defBody (topS 46)) (defScope (topS 46)) .none kV doc pm an cdv ct) ⟨us, []⟩ = pure ((["_law_script"] : List Str).zip us) :=
  fun _ _ _ _ _ _ us hl => match us, hl with | [_], _ => rfl
/-- what the top must have written -/
structure Kz (K : PySem.W.Frag) : Prop where
  d_is_whole : ∃ f fd, DfQ K "is_whole" (topS 7) ["value"] f fd
  d_is_between : ∃ f fd, DfQ K "is_between" (topS 8) ["value", "low", "high"] f fd
  d_check_number : ∃ f fd, DfQ K "check_number" (topS 9) ["number", "low", "high"] f fd
  d_power_of_two : ∃ f fd, DfQ K "power_of_two" (topS 10) ["many"] f fd
  d_twos : ∃ f fd, DfQ K "twos" (topS 11) ["number"] f fd
  d_good_row : ∃ f fd, DfQ K "good_row" (topS 12) ["places"] f fd
  d_is_width : ∃ f fd, DfQ K "is_width" (topS 14) ["value"] f fd
  d_check_width : ∃ f fd, DfQ K "check_width" (topS 15) ["width"] f fd
  d_is_of_width : ∃ f fd, DfQ K "is_of_width" (topS 16) ["width", "value"] f fd
  d_rises : ∃ f fd, DfQ K "rises" (topS 17) ["numbers"] f fd
  d_are_places : ∃ f fd, DfQ K "are_places" (topS 18) ["width", "value"] f fd
  d_check_places : ∃ f fd, DfQ K "check_places" (topS 19) ["width", "places"] f fd
  d_check_code : ∃ f fd, DfQ K "check_code" (topS 21) ["width", "places", "count"] f fd
  d_bits_at : ∃ f fd, DfQ K "bits_at" (topS 22) ["width", "order", "numbers", "count", "place"] f fd
  d_check_part : ∃ f fd, DfQ K "check_part" (topS 24) ["places", "part"] f fd
  d_check_place : ∃ f fd, DfQ K "check_place" (topS 25) ["places", "place"] f fd
  d_bits_list : ∃ f fd, DfQ K "bits_list" (topS 26) ["width", "places", "count", "asked"] f fd
  d_check_allowed : ∃ f fd, DfQ K "check_allowed" (topS 29) ["places", "allowed", "place"] f fd
  d_follows : ∃ f fd, DfQ K "follows" (topS 30) ["width", "places", "count", "allowed", "place"] f fd
  d_steps_needed : ∃ f fd, DfQ K "steps_needed" (topS 31) ["width", "count", "bits"] f fd
  d__law_hash : ∃ f fd, DfQ K "_law_hash" (topS 33) ["_law_seed", "_law_index"] f fd
  d__law_random : ∃ f fd, DfQ K "_law_random" (topS 34) ["_law_generator_here", "_law_bound"] f fd
  d__law_cell : ∃ f fd, DfQ K "_law_cell" (topS 35) ["_law_script", "_law_index"] f fd
  d__law_generator : ∃ f fd, DfQ K "_law_generator" (topS 36) ["_law_script", "_law_index"] f fd
  d__law_twos : ∃ f fd, DfQ K "_law_twos" (topS 37) ["_law_number"] f fd
  d__law_power : ∃ f fd, DfQ K "_law_power" (topS 41) ["_law_times"] f fd
  d__law_due : ∃ f fd, DfQ K "_law_due" (topS 43) ["_law_bits", "_law_many", "_law_low"] f fd
  d__law_side_right : ∃ f fd, DfQ K "_law_side_right" (topS 44) ["_law_bits", "_law_many", "_law_low", "_law_needed"] f fd
  d__law_steps_right : ∃ f fd, DfQ K "_law_steps_right" (topS 45) ["_law_generator_here"] f fd
  d_law : ∃ f fd, DfQ K "law" (topS 46) ["_law_script"] f fd
  m_bool : PySem.W.nsIn K mainGlobals "bool" = some none
  m_int : PySem.W.nsIn K mainGlobals "int" = some none
  m_isinstance : PySem.W.nsIn K mainGlobals "isinstance" = some none
  m_len : PySem.W.nsIn K mainGlobals "len" = some none
  m_list : PySem.W.nsIn K mainGlobals "list" = some none
  m_max : PySem.W.nsIn K mainGlobals "max" = some none
  m_min : PySem.W.nsIn K mainGlobals "min" = some none
  m_range : PySem.W.nsIn K mainGlobals "range" = some none
  m_repr : PySem.W.nsIn K mainGlobals "repr" = some none
  m_sum : PySem.W.nsIn K mainGlobals "sum" = some none
  m_zip : PySem.W.nsIn K mainGlobals "zip" = some none
  g_MOST_BITS : ∃ t, PySem.W.nsIn K mainGlobals "MOST_BITS" = some (some (.int 64 t))
  g_MOST_WIDTH : ∃ t, PySem.W.nsIn K mainGlobals "MOST_WIDTH" = some (some (.int 64 t))
theorem Kz.lz {K : PySem.W.Frag} (q : Kz K) {P : Program} {w : World} {mg : Str → Option Value} {h bs : Heap} (inK : K.In h) (G : h.Ns mainGlobals mg) : Lz (tbOf P w K mg bs) where
  z := {
    m_bool := PySem.W.mg_none_of inK G q.m_bool,
    m_int := PySem.W.mg_none_of inK G q.m_int,
    m_isinstance := PySem.W.mg_none_of inK G q.m_isinstance,
    m_len := PySem.W.mg_none_of inK G q.m_len,
    m_list := PySem.W.mg_none_of inK G q.m_list,
    m_max := PySem.W.mg_none_of inK G q.m_max,
    m_min := PySem.W.mg_none_of inK G q.m_min,
    m_range := PySem.W.mg_none_of inK G q.m_range,
    m_repr := PySem.W.mg_none_of inK G q.m_repr,
    m_sum := PySem.W.mg_none_of inK G q.m_sum,
    m_zip := PySem.W.mg_none_of inK G q.m_zip,
    g_MOST_BITS := let ⟨t, e⟩ := q.g_MOST_BITS; ⟨t, PySem.W.mg_of inK G e⟩,
    g_MOST_WIDTH := let ⟨t, e⟩ := q.g_MOST_WIDTH; ⟨t, PySem.W.mg_of inK G e⟩ }
  d_is_whole := let ⟨f, fd, e⟩ := q.d_is_whole; ⟨f, fd, e.at sc_is_whole inK G⟩
  d_is_between := let ⟨f, fd, e⟩ := q.d_is_between; ⟨f, fd, e.at sc_is_between inK G⟩
  d_check_number := let ⟨f, fd, e⟩ := q.d_check_number; ⟨f, fd, e.at sc_check_number inK G⟩
  d_power_of_two := let ⟨f, fd, e⟩ := q.d_power_of_two; ⟨f, fd, e.at sc_power_of_two inK G⟩
  d_twos := let ⟨f, fd, e⟩ := q.d_twos; ⟨f, fd, e.at sc_twos inK G⟩
  d_good_row := let ⟨f, fd, e⟩ := q.d_good_row; ⟨f, fd, e.at sc_good_row inK G⟩
  d_is_width := let ⟨f, fd, e⟩ := q.d_is_width; ⟨f, fd, e.at sc_is_width inK G⟩
  d_check_width := let ⟨f, fd, e⟩ := q.d_check_width; ⟨f, fd, e.at sc_check_width inK G⟩
  d_is_of_width := let ⟨f, fd, e⟩ := q.d_is_of_width; ⟨f, fd, e.at sc_is_of_width inK G⟩
  d_rises := let ⟨f, fd, e⟩ := q.d_rises; ⟨f, fd, e.at sc_rises inK G⟩
  d_are_places := let ⟨f, fd, e⟩ := q.d_are_places; ⟨f, fd, e.at sc_are_places inK G⟩
  d_check_places := let ⟨f, fd, e⟩ := q.d_check_places; ⟨f, fd, e.at sc_check_places inK G⟩
  d_check_code := let ⟨f, fd, e⟩ := q.d_check_code; ⟨f, fd, e.at sc_check_code inK G⟩
  d_bits_at := let ⟨f, fd, e⟩ := q.d_bits_at; ⟨f, fd, e.at sc_bits_at inK G⟩
  d_check_part := let ⟨f, fd, e⟩ := q.d_check_part; ⟨f, fd, e.at sc_check_part inK G⟩
  d_check_place := let ⟨f, fd, e⟩ := q.d_check_place; ⟨f, fd, e.at sc_check_place inK G⟩
  d_bits_list := let ⟨f, fd, e⟩ := q.d_bits_list; ⟨f, fd, e.at sc_bits_list inK G⟩
  d_check_allowed := let ⟨f, fd, e⟩ := q.d_check_allowed; ⟨f, fd, e.at sc_check_allowed inK G⟩
  d_follows := let ⟨f, fd, e⟩ := q.d_follows; ⟨f, fd, e.at sc_follows inK G⟩
  d_steps_needed := let ⟨f, fd, e⟩ := q.d_steps_needed; ⟨f, fd, e.at sc_steps_needed inK G⟩
  d__law_hash := let ⟨f, fd, e⟩ := q.d__law_hash; ⟨f, fd, e.at sc__law_hash inK G⟩
  d__law_random := let ⟨f, fd, e⟩ := q.d__law_random; ⟨f, fd, e.at sc__law_random inK G⟩
  d__law_cell := let ⟨f, fd, e⟩ := q.d__law_cell; ⟨f, fd, e.at sc__law_cell inK G⟩
  d__law_generator := let ⟨f, fd, e⟩ := q.d__law_generator; ⟨f, fd, e.at sc__law_generator inK G⟩
  d__law_twos := let ⟨f, fd, e⟩ := q.d__law_twos; ⟨f, fd, e.at sc__law_twos inK G⟩
  d__law_power := let ⟨f, fd, e⟩ := q.d__law_power; ⟨f, fd, e.at sc__law_power inK G⟩
  d__law_due := let ⟨f, fd, e⟩ := q.d__law_due; ⟨f, fd, e.at sc__law_due inK G⟩
  d__law_side_right := let ⟨f, fd, e⟩ := q.d__law_side_right; ⟨f, fd, e.at sc__law_side_right inK G⟩
  d__law_steps_right := let ⟨f, fd, e⟩ := q.d__law_steps_right; ⟨f, fd, e.at sc__law_steps_right inK G⟩
  d_law := let ⟨f, fd, e⟩ := q.d_law; ⟨f, fd, e.at sc_law inK G⟩
/-- the law, called -/
theorem law_fn {K : PySem.W.Frag} (q : Kz K) (k : Nat) {P : Program} {w : World} {mg : Str → Option Value} {fa : Addr} {h : Heap} (inK : K.In h) (G : h.Ns mainGlobals mg) (hf : mg "law" = some (.ref fa)) :
    ∃ fd : FuncData, (∀ (s : Shared) (u : Value), BindsTo s fd ⟨[u], []⟩ [("_law_script", u)]) ∧ ∀ bs : Heap, K.In bs → bs.Ns mainGlobals mg → FnG (tbOf P w K mg bs) (k + 1) fa fd ["_law_script"] (spD (tbOf P w K mg bs) [false] (callD Pg FU (k + 1) 431)) := by
  obtain ⟨f, fd, e⟩ := q.d_law
  cases hf.symm.trans (PySem.W.mg_of inK G e.ns)
  exact ⟨fd, fun s u => .of_eq (e.bn [u] rfl), fun bs _ _ => fng_step (df := d_law_v35) (i := 431) (e.at sc_law inK G) rfl rfl rfl (b_law (q.lz inK G).z (fam (q.lz inK G) k))⟩
end Z
namespace Z
def DEP : Nat := 120
theorem ans : ∀ ns : List Int, ns.length ≤ 63 → callD Pg FU (DEP + 1) 431 [.scr ns] = .ok (.sh (.bl true)) [] := fun ns _ =>
  m_law35 (k := 111) (f := 431) ⟨⟨rfl, rfl, rfl, rfl, rfl, rfl, rfl, rfl, rfl, rfl, rfl⟩, rfl, rfl, rfl, rfl, rfl, rfl, rfl, rfl, rfl, rfl, rfl, rfl, rfl, rfl, rfl, rfl, rfl, rfl⟩ rfl (Nat.le_of_ble_eq_true rfl) ns
end Z
open PySem PySem.W PyProof.Rows
set_option maxHeartbeats 0 in
theorem PySem.Challenge.cw_anyplaces_k35_steps_on_one_side_holds : PySem.Challenge.rw_anyplaces_k35_steps_on_one_side.Holds := by
  w_on; o_law; k_head; (case hw => w_witness2)
  k_fill
  refine Z.head_of (l := PySem.Challenge.rw_anyplaces_k35_steps_on_one_side) (n := 63) (k := Z.DEP + 1) (x := "_law_script") (c := Z.callD Z.Pg Z.FU (Z.DEP + 1) 431) rfl (by decide) rfl ⟨rfl, by decide, by decide⟩ (fun w h Y => PySem.W.kIn_of Y) ?F Z.ans
  case F =>
    intro w mg fa h KX G hmg
    refine' Z.law_fn ?zq Z.DEP KX G hmg
    case zq =>
      refine' ⟨?d_is_whole, ?d_is_between, ?d_check_number, ?d_power_of_two, ?d_twos, ?d_good_row, ?d_is_width, ?d_check_width, ?d_is_of_width, ?d_rises, ?d_are_places, ?d_check_places, ?d_check_code, ?d_bits_at, ?d_check_part, ?d_check_place, ?d_bits_list, ?d_check_allowed, ?d_follows, ?d_steps_needed, ?d__law_hash, ?d__law_random, ?d__law_cell, ?d__law_generator, ?d__law_twos, ?d__law_power, ?d__law_due, ?d__law_side_right, ?d__law_steps_right, ?d_law, ?m_bool, ?m_int, ?m_isinstance, ?m_len, ?m_list, ?m_max, ?m_min, ?m_range, ?m_repr, ?m_sum, ?m_zip, ?g_MOST_BITS, ?g_MOST_WIDTH⟩
      (case d_is_whole => refine' ⟨_, Z.dfq_mk Z.bn_is_whole ?a ?l ?c ?k⟩; (case a => k_is); (case l => k_is); (case c => k_is); (case k => k_is))
      (case d_is_between => refine' ⟨_, Z.dfq_mk Z.bn_is_between ?a ?l ?c ?k⟩; (case a => k_is); (case l => k_is); (case c => k_is); (case k => k_is))
      (case d_check_number => refine' ⟨_, Z.dfq_mk Z.bn_check_number ?a ?l ?c ?k⟩; (case a => k_is); (case l => k_is); (case c => k_is); (case k => k_is))
      (case d_power_of_two => refine' ⟨_, Z.dfq_mk Z.bn_power_of_two ?a ?l ?c ?k⟩; (case a => k_is); (case l => k_is); (case c => k_is); (case k => k_is))
      (case d_twos => refine' ⟨_, Z.dfq_mk Z.bn_twos ?a ?l ?c ?k⟩; (case a => k_is); (case l => k_is); (case c => k_is); (case k => k_is))
      (case d_good_row => refine' ⟨_, Z.dfq_mk Z.bn_good_row ?a ?l ?c ?k⟩; (case a => k_is); (case l => k_is); (case c => k_is); (case k => k_is))
      (case d_is_width => refine' ⟨_, Z.dfq_mk Z.bn_is_width ?a ?l ?c ?k⟩; (case a => k_is); (case l => k_is); (case c => k_is); (case k => k_is))
      (case d_check_width => refine' ⟨_, Z.dfq_mk Z.bn_check_width ?a ?l ?c ?k⟩; (case a => k_is); (case l => k_is); (case c => k_is); (case k => k_is))
      (case d_is_of_width => refine' ⟨_, Z.dfq_mk Z.bn_is_of_width ?a ?l ?c ?k⟩; (case a => k_is); (case l => k_is); (case c => k_is); (case k => k_is))
      (case d_rises => refine' ⟨_, Z.dfq_mk Z.bn_rises ?a ?l ?c ?k⟩; (case a => k_is); (case l => k_is); (case c => k_is); (case k => k_is))
      (case d_are_places => refine' ⟨_, Z.dfq_mk Z.bn_are_places ?a ?l ?c ?k⟩; (case a => k_is); (case l => k_is); (case c => k_is); (case k => k_is))
      (case d_check_places => refine' ⟨_, Z.dfq_mk Z.bn_check_places ?a ?l ?c ?k⟩; (case a => k_is); (case l => k_is); (case c => k_is); (case k => k_is))
      (case d_check_code => refine' ⟨_, Z.dfq_mk Z.bn_check_code ?a ?l ?c ?k⟩; (case a => k_is); (case l => k_is); (case c => k_is); (case k => k_is))
      (case d_bits_at => refine' ⟨_, Z.dfq_mk Z.bn_bits_at ?a ?l ?c ?k⟩; (case a => k_is); (case l => k_is); (case c => k_is); (case k => k_is))
      (case d_check_part => refine' ⟨_, Z.dfq_mk Z.bn_check_part ?a ?l ?c ?k⟩; (case a => k_is); (case l => k_is); (case c => k_is); (case k => k_is))
      (case d_check_place => refine' ⟨_, Z.dfq_mk Z.bn_check_place ?a ?l ?c ?k⟩; (case a => k_is); (case l => k_is); (case c => k_is); (case k => k_is))
      (case d_bits_list => refine' ⟨_, Z.dfq_mk Z.bn_bits_list ?a ?l ?c ?k⟩; (case a => k_is); (case l => k_is); (case c => k_is); (case k => k_is))
      (case d_check_allowed => refine' ⟨_, Z.dfq_mk Z.bn_check_allowed ?a ?l ?c ?k⟩; (case a => k_is); (case l => k_is); (case c => k_is); (case k => k_is))
      (case d_follows => refine' ⟨_, Z.dfq_mk Z.bn_follows ?a ?l ?c ?k⟩; (case a => k_is); (case l => k_is); (case c => k_is); (case k => k_is))
      (case d_steps_needed => refine' ⟨_, Z.dfq_mk Z.bn_steps_needed ?a ?l ?c ?k⟩; (case a => k_is); (case l => k_is); (case c => k_is); (case k => k_is))
      (case d__law_hash => refine' ⟨_, Z.dfq_mk Z.bn__law_hash ?a ?l ?c ?k⟩; (case a => k_is); (case l => k_is); (case c => k_is); (case k => k_is))
      (case d__law_random => refine' ⟨_, Z.dfq_mk Z.bn__law_random ?a ?l ?c ?k⟩; (case a => k_is); (case l => k_is); (case c => k_is); (case k => k_is))
      (case d__law_cell => refine' ⟨_, Z.dfq_mk Z.bn__law_cell ?a ?l ?c ?k⟩; (case a => k_is); (case l => k_is); (case c => k_is); (case k => k_is))
      (case d__law_generator => refine' ⟨_, Z.dfq_mk Z.bn__law_generator ?a ?l ?c ?k⟩; (case a => k_is); (case l => k_is); (case c => k_is); (case k => k_is))
      (case d__law_twos => refine' ⟨_, Z.dfq_mk Z.bn__law_twos ?a ?l ?c ?k⟩; (case a => k_is); (case l => k_is); (case c => k_is); (case k => k_is))
      (case d__law_power => refine' ⟨_, Z.dfq_mk Z.bn__law_power ?a ?l ?c ?k⟩; (case a => k_is); (case l => k_is); (case c => k_is); (case k => k_is))
      (case d__law_due => refine' ⟨_, Z.dfq_mk Z.bn__law_due ?a ?l ?c ?k⟩; (case a => k_is); (case l => k_is); (case c => k_is); (case k => k_is))
      (case d__law_side_right => refine' ⟨_, Z.dfq_mk Z.bn__law_side_right ?a ?l ?c ?k⟩; (case a => k_is); (case l => k_is); (case c => k_is); (case k => k_is))
      (case d__law_steps_right => refine' ⟨_, Z.dfq_mk Z.bn__law_steps_right ?a ?l ?c ?k⟩; (case a => k_is); (case l => k_is); (case c => k_is); (case k => k_is))
      (case d_law => refine' ⟨_, Z.dfq_mk Z.bn_law ?a ?l ?c ?k⟩; (case a => k_is); (case l => k_is); (case c => k_is); (case k => k_is))
      (case m_bool => k_is)
      (case m_int => k_is)
      (case m_isinstance => k_is)
      (case m_len => k_is)
      (case m_list => k_is)
      (case m_max => k_is)
      (case m_min => k_is)
      (case m_range => k_is)
      (case m_repr => k_is)
      (case m_sum => k_is)
      (case m_zip => k_is)
      (case g_MOST_BITS => refine' ⟨_, Eq.trans ?g ?h⟩; (case g => k_is); (case h => exact rfl))
      (case g_MOST_WIDTH => refine' ⟨_, Eq.trans ?g ?h⟩; (case g => k_is); (case h => exact rfl))
