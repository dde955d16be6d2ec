import PyProof.Rows.All
import PyProof.EqLayable
import KE.SortData
import PyProof.ReprReads
import HandS.ForMost
import HandS.ForExc
import HandS.Wide
import HandS.Defaults
import HandS.Style
import HandS.TupAny
import HandS.Deep
import HandS.IsInst
import HandS.Conv
import HandS.WideBits
import HandS.RaiseMore
import PyProof.ReprRoads
import HandS.Flow
import HandS.NoneIn
import PyProof.LongRange
import PyProof.ListRange
import HandS.Dict
import HandS.Small
import HandS.TupLen
import HandS.DictComp
import KE.KDictZip
import HandS.SetFor
import HandS.Strs
import PyProof.Rows.SortShellAny
import PySem.Challenge.RW_anyplaces_k60_whole_bits_that_parts_say
set_option autoImplicit false
set_option linter.all false
set_option Elab.async false
set_option maxRecDepth 100000
/-! ZA: data as trees, a small language, its evaluator. No machine in sight. -/
namespace Z
open PySem (Str Operator CmpOp)
abbrev Ky := Sum Int Str
inductive D where
  | non
  | bl (b : Bool)
  | int (i : Int)
  | str (s : Str)
  | lst (l : List D)
  | tup (l : List D)
  | dct (ks : List Ky) (vs : List D)
  /-- a dict of tuples; its values are all True -/
  | dts (ks : List (List Ky))
  | fn (f : Nat)
  | exn (c : Nat) (v : D)
  | scr (l : List Int)
instance : Inhabited D := ⟨.non⟩
inductive Sl where
  | no
  | sh (d : D)
  | ow (d : D)
  | io (d : D)
abbrev En := List Sl
inductive Val where
  | sh (d : D)
  | ow (d : D)
def Val.d : Val → D
  | .sh d => d
  | .ow d => d
def Val.sl : Val → Sl
  | .sh d => .sh d
  | .ow d => .ow d
def Sl.d? : Sl → Option D
  | .no => none
  | .sh d => some d
  | .ow d => some d
  | .io d => some d
@[simp] theorem Val.d_sh (d : D) : (Val.sh d).d = d := rfl
@[simp] theorem Val.d_ow (d : D) : (Val.ow d).d = d := rfl
@[simp] theorem Val.sl_sh (d : D) : (Val.sh d).sl = .sh d := rfl
@[simp] theorem Val.sl_ow (d : D) : (Val.ow d).sl = .ow d := rfl
/-- an outcome: a value and the slots; an error of a class, with its value; nothing known -/
inductive R (A : Type) where
  | ok (a : A) (r : En)
  | exc (c : Nat) (v : D) (r : En)
  | bad
def R.bind {A B : Type} (x : R A) (f : A → En → R B) : R B :=
  match x with
  | .ok a r => f a r
  | .exc c v r => .exc c v r
  | .bad => .bad
@[simp] theorem R.bind_ok {A B : Type} (a : A) (r : En) (f : A → En → R B) : (R.ok a r).bind f = f a r := rfl
@[simp] theorem R.bind_exc {A B : Type} (c : Nat) (v : D) (r : En) (f : A → En → R B) : (R.exc c v r).bind f = .exc c v r := rfl
@[simp] theorem R.bind_bad {A B : Type} (f : A → En → R B) : (R.bad : R A).bind f = .bad := rfl
def R.of {A : Type} (x : Option A) (r : En) : R A :=
  match x with
  | some a => .ok a r
  | none => .bad
@[simp] theorem R.of_some {A : Type} (a : A) (r : En) : R.of (some a) r = .ok a r := rfl
@[simp] theorem R.of_none {A : Type} (r : En) : R.of (none : Option A) r = .bad := rfl
/-! ### equality, truth, kinds -/
mutual
def eqv : D → D → Bool
  | .non, .non => true
  | .bl a, .bl b => a == b
  | .bl a, .int j => (if a then 1 else 0) == j
  | .int i, .bl b => i == (if b then 1 else 0)
  | .int i, .int j => i == j
  | .str x, .str y => x == y
  | .lst xs, .lst ys => eqvs xs ys
  | .tup xs, .tup ys => eqvs xs ys
  | _, _ => false
def eqvs : List D → List D → Bool
  | [], [] => true
  | x :: xs, y :: ys => eqv x y && eqvs xs ys
  | _, _ => false
end
mutual
def lay : D → Bool
  | .non => true
  | .bl _ => true
  | .int _ => true
  | .str x => PySem.PyData.strOk x
  | .lst xs => lays xs
  | .tup xs => lays xs
  | _ => false
def lays : List D → Bool
  | [] => true
  | x :: xs => lay x && lays xs
end
mutual
def dep : D → Nat
  | .lst xs => deps xs + 1
  | .tup xs => deps xs + 1
  | _ => 0
def deps : List D → Nat
  | [] => 0
  | x :: xs => max (dep x) (deps xs)
end
/-- what == may be asked of -/
def okq (d : D) : Bool := lay d && decide (dep d ≤ 64)
def flat : D → Bool
  | .non => true
  | .bl _ => true
  | .int _ => true
  | .str _ => true
  | _ => false
def LINE : Nat := 16777216
def tru : D → Option Bool
  | .non => some false
  | .bl b => some b
  | .int i => some (i != 0)
  | .str s => if s.length ≤ LINE then some (s.length != 0) else none
  | .lst l => some (!l.isEmpty)
  | .tup l => some (!l.isEmpty)
  | .dct ks _ => some (!ks.isEmpty)
  | _ => none
/-! ### operators -/
def bits (i : Int) : Nat := i.natAbs.log2 + 1
def binI (op : Operator) (i j : Int) : Option Int :=
  match op with
  | .Add => some (i + j)
  | .Sub => some (i - j)
  | .Mult => if bits i + bits j ≤ 1000000 then some (i * j) else none
  | .FloorDiv => if 0 < j ∧ bits j ≤ 9000 then some (i / j) else none
  | .Mod => if 0 < j then some (i % j) else none
  | .Pow => if 0 ≤ j ∧ bits i * j.toNat ≤ 1000000 then some (i ^ j.toNat) else none
  | .LShift => if 0 ≤ j ∧ bits i + j.toNat ≤ 1000000 then some (i * 2 ^ j.toNat) else none
  | .RShift => if 0 ≤ j then some (i / 2 ^ j.toNat) else none
  | .BitAnd => some (PySem.Builtin.bitAnd i j)
  | .BitOr => some (PySem.Builtin.bitOr i j)
  | .BitXor => some (PySem.Builtin.bitXor i j)
  | _ => none
def binD (op : Operator) (a b : D) : Option Val :=
  match a, b with
  | .int i, .int j => (binI op i j).map fun k => .sh (.int k)
  | .str x, .str y => match op with
    | .Add => if x.length + y.length ≤ LINE then some (.sh (.str (x ++ y))) else none
    | _ => none
  | .lst x, .lst y => match op with
    | .Add => if x.length + y.length ≤ LINE then some (.ow (.lst (x ++ y))) else none
    | _ => none
  | .lst x, .int n => match op with
    | .Mult => if n.natAbs ≤ LINE ∧ x.length * n.toNat ≤ LINE then some (.ow (.lst (List.replicate n.toNat x).flatten)) else none
    | _ => none
  | .tup x, .tup y => match op with
    | .Add => if x.length + y.length ≤ LINE then some (.sh (.tup (x ++ y))) else none
    | _ => none
  | _, _ => none
def ordI (op : CmpOp) (i j : Int) : Option Bool :=
  match op with
  | .Lt => some (decide (i < j))
  | .LtE => some (decide (i ≤ j))
  | .Gt => some (decide (j < i))
  | .GtE => some (decide (j ≤ i))
  | _ => none
def isD (a b : D) : Option Bool :=
  match b with
  | .non => some (match a with | .non => true | _ => false)
  | .bl k => match a with
    | .bl c => some (c == k)
    | _ => none
  | _ => none
def inD (a b : D) : Option Bool :=
  match b with
  | .lst xs => if flat a && xs.all flat then some (xs.any fun x => eqv x a) else if okq a && okq (.lst xs) then some (xs.any fun x => eqv x a) else none
  | .tup xs => if flat a && xs.all flat then some (xs.any fun x => eqv x a) else none
  | _ => none
/-- a list of any things beside an empty one -/
def nilq (a b : D) : Option Bool :=
  match a, b with
  | .lst (_ :: _), .lst [] => some false
  | _, _ => none
def cmpD (op : CmpOp) (a b : D) : Option Bool :=
  match op with
  | .Eq => if okq a && okq b then some (eqv a b) else nilq a b
  | .NotEq => if okq a && okq b then some (!eqv a b) else (nilq a b).map (!·)
  | .Is => isD a b
  | .IsNot => (isD a b).map (!·)
  | .In => inD a b
  | .NotIn => (inD a b).map (!·)
  | op => match a, b with
    | .int i, .int j => ordI op i j
    | _, _ => none
/-! ### places in lists -/
def ixN (n : Nat) (i : Int) : Option Nat := if 0 ≤ i then (if i < n then some i.toNat else none) else if -(n : Int) ≤ i then some (i + n).toNat else none
def atL (l : List D) (i : Int) : Option D := (ixN l.length i).bind fun j => l[j]?
def idxD (a i : D) : Option D :=
  match i with
  | .int k => match a with
    | .lst l => atL l k
    | .tup l => atL l k
    | .scr l => ((ixN l.length k).bind fun j => l[j]?).map D.int
    | _ => none
  | _ => none
/-- a bound of a slice: n where it is left out is d -/
def sIx (n d : Nat) : Option Int → Nat
  | none => d
  | some v => if v < 0 then (v + (n : Int)).toNat else min v.toNat n
def cut {A : Type} (l : List A) (lo hi : Option Int) : List A := (l.drop (sIx l.length 0 lo)).take (sIx l.length l.length hi - sIx l.length 0 lo)
def part? : D → Option (Option Int)
  | .non => some none
  | .int i => some (some i)
  | _ => none
def slcD (a lo hi : D) : Option Val :=
  match part? lo, part? hi with
  | some l, some h => match a with
    | .lst xs => some (.ow (.lst (cut xs l h)))
    | .scr xs => some (.ow (.lst ((cut xs l h).map .int)))
    | _ => none
  | _, _ => none
def revD (a : D) : Option Val :=
  match a with
  | .lst xs => some (.ow (.lst xs.reverse))
  | _ => none
/-! ### built-in functions -/
def intsD : List D → Option (List Int)
  | [] => some []
  | .int i :: r => (intsD r).map (i :: ·)
  | _ => none
def minI : List Int → Option Int
  | [] => none
  | x :: r => some (r.foldl min x)
def maxI : List Int → Option Int
  | [] => none
  | x :: r => some (r.foldl max x)
def sortI (l : List Int) : List Int := l.mergeSort (fun a b => decide (a ≤ b))
def rangeN (lo hi st : Int) : Nat := if st = 1 then (hi - lo).toNat else if st = -1 then (lo - hi).toNat else if 0 < st then ((hi - lo + st - 1) / st).toNat else ((lo - hi + (-st) - 1) / (-st)).toNat
def rangeI (lo hi st : Int) : List Int := (List.range (rangeN lo hi st)).map fun (k : Nat) => lo + k * st
inductive BI where
  | len | sum | sorted | min | max | abs | int | list | tuple | repr | bool | lrange | set | dict | str
def lenD : D → Option Nat
  | .lst l => some l.length
  | .tup l => some l.length
  | .dct ks _ => some ks.length
  | .scr l => some l.length
  | .str s => if s.length ≤ LINE then some s.length else none
  | _ => none
def seqD : D → Option (List D)
  | .lst l => some l
  | .tup l => some l
  | _ => none
mutual
def pyT : D → PySem.PyData
  | .non => .none
  | .bl b => .bool b
  | .int i => .int i
  | .str s => .str s
  | .lst l => .list (pyTs l)
  | .tup l => .tuple (pyTs l)
  | _ => .none
def pyTs : List D → List PySem.PyData
  | [] => []
  | d :: ds => pyT d :: pyTs ds
end
def reprD (d : D) : Option Str := if okq d && (pyT d).showable && decide ((pyT d).shown.length ≤ LINE) then some (pyT d).shown else none
def lenF : List D → Option Val
  | [d] => (lenD d).map fun n => .sh (.int n)
  | _ => none
def sumF : List D → Option Val
  | [.lst l] => (intsD l).map fun ns => .sh (.int ns.sum)
  | _ => none
def tupn : D → Bool
  | .tup (_ :: _) => true
  | _ => false
def othr : D → Bool
  | .non => false
  | .tup _ => false
  | _ => true
/-- things of one kind that can be sorted -/
def srtOk (l : List D) : Bool := okq (.lst l) && (l.all fun a => l.all fun b => PySem.W.alike (pyT a) (pyT b)) && (l.all tupn || l.all othr)
def sortF : List D → Option Val
  | [.lst l] => match intsD l with
    | some ns => if ns.length < 64 then some (.ow (.lst ((sortI ns).map .int))) else none
    | none => if srtOk l = true then some (.ow (.lst (l.mergeSort (PySem.W.dataLe false pyT)))) else none
  | _ => none
/-- each once -/
def nubI : List Int → List Int
  | [] => []
  | x :: l => if x ∈ l then nubI l else x :: nubI l
def sdI (ns : List Int) : List Int := sortI (nubI ns)
def srsD : D → Option Val
  | .lst l => (intsD l).bind fun ns => if ns.length ≤ 200 then some (.ow (.lst ((sdI ns).map .int))) else none
  | _ => none
def minF : List D → Option Val
  | [.lst l] => (intsD l).bind fun ns => (minI ns).map fun m => .sh (.int m)
  | [.int i, .int j] => some (.sh (.int (if j < i then j else i)))
  | _ => none
def maxF : List D → Option Val
  | [.lst l] => (intsD l).bind fun ns => (maxI ns).map fun m => .sh (.int m)
  | [.int i, .int j] => some (.sh (.int (if j > i then j else i)))
  | _ => none
def absF : List D → Option Val
  | [.int i] => some (.sh (.int (if i < 0 then -i else i)))
  | _ => none
def intF : List D → Option Val
  | [.int i] => some (.sh (.int i))
  | [.bl b] => some (.sh (.int (if b then 1 else 0)))
  | _ => none
def listF : List D → Option Val
  | [d] => (seqD d).map fun l => .ow (.lst l)
  | _ => none
def tupleF : List D → Option Val
  | [.lst l] => some (.sh (.tup l))
  | _ => none
def reprF : List D → Option Val
  | [d] => (reprD d).map fun s => .sh (.str s)
  | _ => none
/-- without a subtraction from a power of two: so no test runs away -/
def sm62 (i : Int) : Bool := Nat.ble i.natAbs 4000000000000000000
theorem sm62_iff {i : Int} : sm62 i = true ↔ -(2 ^ 62) ≤ i ∧ i < 2 ^ 62 ∧ i.natAbs ≤ 4000000000000000000 := by
  unfold sm62
  rw [Nat.ble_eq]
  omega
def rgOk (a b : Int) : Bool := decide ((b - a).toNat ≤ 1048576)
def lrangeF : List D → Option Val
  | [.int n] => if rgOk 0 n then some (.ow (.lst ((rangeI 0 n 1).map .int))) else none
  | [.int a, .int b] => if rgOk a b then some (.ow (.lst ((rangeI a b 1).map .int))) else none
  | _ => none
/-- pairs of a number and a thing -/
def pairsD : List D → Option (List (Int × D))
  | [] => some []
  | .tup [.int i, d] :: r => (pairsD r).map ((i, d) :: ·)
  | _ => none
def dictF : List D → Option Val
  | [.lst l] => (pairsD l).bind fun ps => if decide (ps.map (·.1)).Nodup = true then some (.ow (.dct (ps.map fun p => .inl p.1) (ps.map (·.2)))) else none
  | _ => none
def biD (b : BI) (ds : List D) : Option Val :=
  match b with
  | .len => lenF ds
  | .sum => sumF ds
  | .sorted => sortF ds
  | .min => minF ds
  | .max => maxF ds
  | .abs => absF ds
  | .int => intF ds
  | .list => listF ds
  | .tuple => tupleF ds
  | .repr => reprF ds
  | .lrange => lrangeF ds
  | .dict => dictF ds
  | _ => none
inductive Ty where
  | int | bool | str | list | tuple | dict | cls (c : Nat)
def isiD (d : D) (t : Ty) : Option Bool :=
  match t, d with
  | .cls _, _ => none
  | _, .fn _ => none
  | _, .exn _ _ => none
  | _, .scr _ => none
  | _, .dts _ => none
  | .int, .int _ => some true
  | .int, .bl _ => some true
  | .bool, .bl _ => some true
  | .str, .str _ => some true
  | .list, .lst _ => some true
  | .tuple, .tup _ => some true
  | .dict, .dct _ _ => some true
  | _, _ => some false
inductive MT where
  | index | bitlen | count
def indexD (x : D) (l : List D) : Option Nat := (List.range l.length).find? fun k => match l[k]? with | some y => eqv y x | none => false
def mtD (m : MT) (o : D) (ds : List D) : Option D :=
  match m, o, ds with
  | .index, .lst l, [x] => if flat x && l.all flat then (indexD x l).map fun k => .int k else none
  | .bitlen, .int i, [] => some (.int (PySem.Builtin.Int.intBits i))
  | _, _, _ => none
inductive MU where
  | append | pop | popAt | reverse | remove
/-- a method that changes: the new thing, what it hands back -/
def muD (m : MU) (o : D) (ds : List D) : Option (D × D) :=
  match m, o, ds with
  | .append, .lst l, [x] => if l.length < LINE then some (.lst (l ++ [x]), .non) else none
  | .pop, .lst l, [] => (l[l.length - 1]?).map fun y => (.lst l.dropLast, y)
  | .popAt, .lst l, [.int i] => if l.length ≤ LINE then (ixN l.length i).bind fun k => (l[k]?).map fun y => (.lst (l.eraseIdx k), y) else none
  | .reverse, .lst l, [] => some (.lst l.reverse, .non)
  | .remove, .lst l, [.int k] => (intsD l).bind fun ns => if k ∈ ns then some (.lst ((ns.eraseIdx (ns.idxOf k)).map .int), .non) else none
  | _, _, _ => none
def setD (o i v : D) : Option D :=
  match o, i with
  | .lst l, .int k => (ixN l.length k).map fun j => .lst (l.set j v)
  | _, _ => none
def keyD : D → Option Ky
  | .int i => some (.inl i)
  | .str s => some (.inr s)
  | _ => none
def keysD : List D → Option (List Ky)
  | [] => some []
  | d :: ds => (keyD d).bind fun k => (keysD ds).map (k :: ·)
/-- a dict of tuples gets one -/
def dputD (o k v : D) : Option D :=
  match o, k, v with
  | .dts ks, .tup l, .bl true => if ks.length < 100000 then (keysD l).map fun k => .dts (if (ks.any fun x => decide (x = k)) = true then ks else ks ++ [k]) else none
  | _, _, _ => none
/-! ### the language -/
inductive Tg where
  | v (i : Nat)
  | t (ts : List Tg)
mutual
inductive E where
  | var (i : Nat)
  | con (d : D)
  | neg (a : E)
  | not (a : E)
  | bin (op : Operator) (a b : E)
  | cmp (op : CmpOp) (a b : E)
  | chn (op op' : CmpOp) (a b c : E)
  | and (a b : E)
  | or (a b : E)
  | ite (c : T) (a b : E)
  | lst (es : List E)
  | tup (es : List E)
  | idx (a i : E)
  | slc (a lo hi : E)
  | rev (a : E)
  | lc (elt : E) (t : Tg) (it : I) (ifs : List T) (own : List Nat)
  /-- sorted(set(xs)) -/
  | srs (a : E)
  | lc2 (elt : E) (t : Tg) (it : I) (ifs : List T) (t1 : Tg) (it1 : I) (ifs1 : List T) (own own1 : List Nat)
  | call (f : Nat) (es : List E) (perm : List Nat) (dfl : List D)
  | callO (f : Nat) (es : List E)
  /-- {} that will hold tuples -/
  | dnt
  /-- len of a dict of tuples -/
  | dlen (i : Nat)
  /-- {} -/
  | dk0
  /-- list(x) of a dict of tuples -/
  | dls (i : Nat)
  /-- {x: y for x, y in ..} of plain names -/
  | dcz (i j : Nat) (it : I)
  /-- dict(zip(.., .., strict=True)) -/
  | dzp (es : List E)
  /-- x[k] of a dict of numbers -/
  | dget (i : Nat) (k : E)
  /-- tuple in x, or not in x, of a dict of tuples -/
  | din (neg : Bool) (k : E) (i : Nat)
  | callN (f : Nat) (e : E) (es : List E)
  | bi (b : BI) (es : List E)
  | mth (m : MT) (o : E) (es : List E)
  | bits (o : E)
  | mut (m : MU) (i : Nat) (es : List E)
  | isi (e : E) (t : Ty)
/-- a test -/
inductive T where
  | val (e : E)
  | not (t : T)
  | and (a b : T)
  | or (a b : T)
  | ite (c a b : T)
/-- what is walked -/
inductive I where
  | e (e : E)
  | rng1 (a : E)
  | rng2 (a b : E)
  | rng3 (a b c : E)
  | enm (a : E)
  | zip (strict : Bool) (es : List E)
  | rvd (a : E)
  /-- zip(.., strict=True) that was stored ahead under the name of slot i -/
  | zv (i : Nat) (es : List E)
  /-- the keys of a dict of tuples, which is given up -/
  | dk (i : Nat)
end
inductive S where
  | asg (t : Tg) (e : E)
  | par (ts : List Nat) (es : List E)
  | aug (i : Nat) (op : Operator) (e : E)
  | seti (i : Nat) (x e : E)
  | ex (e : E)
  | ret (e : E)
  | retN
  | ite (c : T) (a b : List S)
  | for_ (t : Tg) (it : I) (b : List S)
  /-- one's own list of numbers walked; it stays one's own -/
  | forO (t : Tg) (i : Nat) (b : List S)
  | whl (c : T) (b : List S)
  | brk
  | cnt
  | pass
  | rse (c : Nat) (es : List E)
  | nev
  /-- x[tuple] = True -/
  | dput (i : Nat) (k v : E)
  | try_ (b : List S) (c : Nat) (i : Option Nat) (h : List S)
/-- a def: which parameters are changed, how many names, the body -/
structure Df where
  modes : List Bool
  names : Nat
  body : List S
/-- what a call yields: its value, the changed parameters' things -/
inductive CR where
  | ok (v : Val) (outs : List D)
  | exc (c : Nat) (v : D) (outs : List D)
  | bad
structure Cf where
  call : Nat → List D → CR
  modes : Nat → Option (List Bool)
  fuel : Nat
/-! ### slots -/
def En.rd (r : En) (i : Nat) : Option D := (r[i]?).bind Sl.d?
def En.put (r : En) (i : Nat) (v : Val) : Option En :=
  match r[i]? with
  | some (.io _) => none
  | some _ => some (r.set i v.sl)
  | none => none
/-- the thing that a slot owns, changed -/
def En.chg (r : En) (i : Nat) (d : D) : Option En :=
  match r[i]? with
  | some (.ow _) => some (r.set i (.ow d))
  | some (.io _) => some (r.set i (.io d))
  | _ => none
def En.own? (r : En) (i : Nat) : Option D :=
  match r[i]? with
  | some (.ow d) => some d
  | some (.io d) => some d
  | _ => none
def lstAt (r : En) (i : Nat) : Bool :=
  match r.own? i with
  | some (.lst _) => true
  | _ => false
def frz1 (r : En) (i : Nat) : Option En :=
  match r[i]? with
  | some (.ow d) => some (r.set i (.sh d))
  | some (.io _) => none
  | _ => some r
def frzs (r : En) : List Nat → Option En
  | [] => some r
  | i :: is => (frz1 r i).bind fun r1 => frzs r1 is
def wip (r : En) : List Nat → En
  | [] => r
  | i :: is => (wip r is).set i .no
/-- behind a comprehension: its own names as they were -/
def back (r0 r : En) : List Nat → En
  | [] => r
  | i :: is => (back r0 r is).set i (r0.getD i .no)
/-- a thing whose items are no things -/
def shal : D → Bool
  | .lst l => l.all flat
  | .dct _ vs => vs.all flat
  | .dts _ => true
  | _ => false
/-- a slot as it was, if what it owns is shallow -/
def thw1 (x y : Sl) : Option Sl :=
  match x, y with
  | .no, _ => some .no
  | .sh d, _ => some (.sh d)
  | .ow _, .ow d => if shal d then some (.ow d) else none
  | .ow _, .sh d => if shal d then some (.ow d) else none
  | .io _, .io d => if shal d then some (.io d) else none
  | _, _ => none
def thw : En → En → Option En
  | [], [] => some []
  | x :: xs, y :: ys => (thw1 x y).bind fun z => (thw xs ys).map (z :: ·)
  | _, _ => none
/-- behind a comprehension of flat items: names that were only walked stay one's own -/
def thawL (r : En) (ds : List D) (rb : En) : R Val :=
  if ds.all flat = true then
    (match thw r rb with | some r2 => .ok (.ow (.lst ds)) r2 | none => .ok (.ow (.lst ds)) rb)
  else .ok (.ow (.lst ds)) rb
def ownFree (r : En) (l : List Nat) : Bool := l.all fun i => match r[i]? with | some (.io _) => false | some _ => true | none => false
mutual
/-- the slots of a target -/
def tgS : Tg → List Nat
  | .v i => [i]
  | .t ts => tgSs ts
def tgSs : List Tg → List Nat
  | [] => []
  | t :: ts => tgS t ++ tgSs ts
end
mutual
def bindT : Tg → D → En → Option En
  | .v i, d, r => r.put i (.sh d)
  | .t ts, d, r => match d with
    | .tup ds => bindTs ts ds r
    | .lst ds => bindTs ts ds r
    | _ => none
def bindTs : List Tg → List D → En → Option En
  | [], [], r => some r
  | t :: ts, d :: ds, r => (bindT t d r).bind fun r1 => bindTs ts ds r1
  | _, _, _ => none
end
def isVar : E → Option Nat
  | .var i => some i
  | _ => none
/-- borrowed names are read at the end -/
def res (r : En) : List (Nat ⊕ D) → Option (List D)
  | [] => some []
  | .inl i :: xs => (r.rd i).bind fun d => (res r xs).map (d :: ·)
  | .inr d :: xs => (res r xs).map (d :: ·)
def scal : D → Bool := flat
/-- arguments for a def: the changed ones must be owned names or new things -/
def argsOk (r : En) : List Bool → List (Nat ⊕ D) → Bool
  | [], [] => true
  | true :: ms, .inl i :: xs => (r.own? i).isSome && argsOk r ms xs
  | true :: _, .inr _ :: _ => false
  | false :: ms, _ :: xs => argsOk r ms xs
  | _, _ => false
def inouts : List Bool → List (Nat ⊕ D) → List Nat
  | true :: ms, .inl i :: xs => i :: inouts ms xs
  | _ :: ms, _ :: xs => inouts ms xs
  | _, _ => []
def plains : List Bool → List (Nat ⊕ D) → List Nat
  | false :: ms, .inl i :: xs => i :: plains ms xs
  | _ :: ms, _ :: xs => plains ms xs
  | _, _ => []
def chgs (r : En) : List Nat → List D → Option En
  | [], [] => some r
  | i :: is, d :: ds => (r.chg i d).bind fun r1 => chgs r1 is ds
  | _, _ => none
def apart (l m : List Nat) : Bool := decide l.Nodup && l.all fun i => !m.contains i
def permL {A : Type} (l : List A) : List Nat → Option (List A)
  | [] => some []
  | i :: is => (l[i]?).bind fun a => (permL l is).map (a :: ·)
/-- arguments in the order of the parameters; none given: as written -/
def permO (l : List (Nat ⊕ D)) (p : List Nat) : Option (List (Nat ⊕ D)) := if p.isEmpty = true then some l else permL l p
/-- behind a call: names that were only looked at stay one's own if the answer is no thing -/
def after (r : En) (ms : List Bool) (xs : List (Nat ⊕ D)) (c : CR) : R Val :=
  match frzs r (plains ms xs) with
  | none => .bad
  | some rf => match c with
    | .ok v outs => if scal v.d && outs.all shal then
        (match chgs r (inouts ms xs) outs with | some r1 => .ok v r1 | none => .bad)
      else (match chgs rf (inouts ms xs) outs with | some r1 => .ok v r1 | none => .bad)
    | _ => .bad
/-- a call whose first argument is a new thing, changed by the def and then let go -/
def callNR (ms : List Bool) (c : List D → CR) (d : D) (ys : List (Nat ⊕ D)) (r2 : En) : R Val :=
  match ms with
  | true :: ms => if ms.all (fun b => !b) && decide (ms.length = ys.length) then
      (match frzs r2 (plains ms ys), res r2 ys with
        | some rf, some ds => (match c (d :: ds) with | .ok q _ => .ok q rf | _ => .bad)
        | _, _ => .bad) else .bad
  | _ => .bad
/-- a call by its arguments -/
def callR (ms : List Bool) (c : List D → CR) (xs : List (Nat ⊕ D)) (r1 : En) : R Val :=
  if argsOk r1 ms xs && apart (inouts ms xs) (plains ms xs) && decide (ms.length = xs.length) then
    (match res r1 xs with
      | some ds => after r1 ms xs (c ds)
      | none => .bad) else .bad
/-- what is handed back is no thing that the caller holds -/
def keepV : Val → Bool
  | .sh d => flat d
  | .ow d => shal d
/-- a call whose looked-at arguments stay one's own, as the answer is no thing or a new list of no things -/
def callRO (ms : List Bool) (c : List D → CR) (xs : List (Nat ⊕ D)) (r1 : En) : R Val :=
  if argsOk r1 ms xs && apart (inouts ms xs) (plains ms xs) && decide (ms.length = xs.length) then
    (match res r1 xs with
      | some ds => match frzs r1 (plains ms xs) with
        | none => .bad
        | some _ => match c ds with
          | .ok v outs => if keepV v && outs.all shal then
              (match chgs r1 (inouts ms xs) outs with | some r2 => .ok v r2 | none => .bad) else .bad
          | _ => .bad
      | none => .bad) else .bad
def enumD (l : List D) : List D := (List.range l.length).zipWith (fun (k : Nat) d => D.tup [.int k, d]) l
def zip2D (a b : List D) : List D := a.zipWith (fun x y => D.tup [x, y]) b
def zip3D : List D → List D → List D → List D
  | x :: xs, y :: ys, z :: zs => D.tup [x, y, z] :: zip3D xs ys zs
  | _, _, _ => []
/-- what is walked -/
def itemsD : D → Option (List D)
  | .lst l => some l
  | .tup l => some l
  | _ => none
def lstD : D → Option (List D)
  | .lst l => some l
  | _ => none
def rngD : List D → Option (List D)
  | [.int n] => if sm62 n then some ((rangeI 0 n 1).map .int) else none
  | [.int a, .int b] => if sm62 a && sm62 b then some ((rangeI a b 1).map .int) else none
  | [.int a, .int b, .int c] => if sm62 a && sm62 b && decide (c = -1) then some ((rangeI a b (-1)).map .int) else none
  | _ => none
def zipD (strict : Bool) : List D → Option (List D)
  | [a, b] => (lstD a).bind fun l => (lstD b).bind fun m => if !strict || l.length == m.length then some (zip2D l m) else none
  | [a, b, c] => (lstD a).bind fun l => (lstD b).bind fun m => (lstD c).bind fun n => if l.length == m.length && m.length == n.length then some (zip3D l m n) else none
  | _ => none
/-- within a comprehension no error is carried -/
def R.nox {A : Type} : R A → R A
  | .exc _ _ _ => .bad
  | x => x
@[simp] theorem R.nox_ok {A : Type} (a : A) (r : En) : (R.ok a r).nox = .ok a r := rfl
/-- a comprehension's outer turns: each adds to what is made -/
def lcA (f : D → List D → En → R (List D)) : List D → List D → En → R (List D)
  | [], acc, r => .ok acc r
  | x :: xs, acc, r => (f x acc r).nox.bind fun acc1 r1 => lcA f xs acc1 r1
def lcL (f : D → En → R (Option D)) : List D → List D → En → R (List D)
  | [], acc, r => .ok acc r
  | x :: xs, acc, r => (f x r).nox.bind fun o r1 => match o with
    | some y => if acc.length < LINE then lcL f xs (acc ++ [y]) r1 else .bad
    | none => lcL f xs acc r1
/-! ### evaluation -/
def kyD : Ky → D
  | .inl i => .int i
  | .inr s => .str s
def tupK (k : List Ky) : D := .tup (k.map kyD)
/-- slots that hold nothing of their own -/
def noAt (r : En) (l : List Nat) : Bool := l.all fun i => match r[i]? with
  | some .no => true
  | some (.sh _) => true
  | _ => false
def dgetL : List Ky → List D → Int → Option D
  | k :: ks, d :: ds, n => if k = .inl n then some d else dgetL ks ds n
  | _, _, _ => none
/-- an argument: a name is only looked at -/
def bor (e : E) (f : En → R Val) (r : En) : R (Nat ⊕ D) :=
  match isVar e with
  | some i => if (r.rd i).isSome = true then .ok (.inl i) r else .bad
  | none => (f r).bind fun v r1 => .ok (.inr v.d) r1
def isNon : E → Bool
  | .con .non => true
  | _ => false
/-- an end of a slice -/
def por (e : E) (f : En → R Val) (r : En) : R (Nat ⊕ D) :=
  if isNon e then .ok (.inr .non) r else (bor e f r).bind fun x r1 => R.of (match res r1 [x] with | some [.int i] => some (.inr (.int i)) | _ => none) r1
def lstB (r : En) (x : Nat ⊕ D) : Bool :=
  match res r [x] with
  | some [.lst _] => true
  | _ => false
def op1 (f : D → Option Val) (x : Nat ⊕ D) (r : En) : R Val := R.of (match res r [x] with | some [a] => f a | _ => none) r
def op2 (f : D → D → Option Val) (x y : Nat ⊕ D) (r : En) : R Val := R.of (match res r [x, y] with | some [a, b] => f a b | _ => none) r
def op3 (f : D → D → D → Option Val) (x y z : Nat ⊕ D) (r : En) : R Val := R.of (match res r [x, y, z] with | some [a, b, c] => f a b c | _ => none) r
def opn (f : List D → Option Val) (xs : List (Nat ⊕ D)) (r : En) : R Val := R.of ((res r xs).bind f) r
def boolV (x : Option Bool) : Option Val := x.map fun k => .sh (.bl k)
mutual
def ev (C : Cf) : E → En → R Val
  | .var i, r => match r[i]? with
    | some (.sh d) => .ok (.sh d) r
    | some (.ow d) => .ok (.sh d) (r.set i (.sh d))
    | _ => .bad
  | .con d, r => .ok (.sh d) r
  | .neg a, r => (ev C a r).bind fun v r1 => match v.d with
    | .int i => .ok (.sh (.int (-i))) r1
    | _ => .bad
  | .not a, r => (bor a (fun r => ev C a r) r).bind fun x r1 => op1 (fun u => boolV ((tru u).map (!·))) x r1
  | .bin op a b, r => (bor a (fun r => ev C a r) r).bind fun x r1 => (bor b (fun r => ev C b r) r1).bind fun y r2 => op2 (binD op) x y r2
  | .cmp op a b, r => (bor a (fun r => ev C a r) r).bind fun x r1 => (bor b (fun r => ev C b r) r1).bind fun y r2 => op2 (fun u v => boolV (cmpD op u v)) x y r2
  | .chn op op' a b c, r => (bor a (fun r => ev C a r) r).bind fun x r1 => (bor b (fun r => ev C b r) r1).bind fun y r2 => (op2 (fun u v => boolV (cmpD op u v)) x y r2).bind fun q r3 => match q.d with
    | .bl true => (bor c (fun r => ev C c r) r3).bind fun z r4 => op2 (fun u v => boolV (cmpD op' u v)) y z r4
    | .bl false => .ok (.sh (.bl false)) r3
    | _ => .bad
  | .and a b, r => (ev C a r).bind fun x r1 => match tru x.d with
    | some true => (ev C b r1).bind fun y r2 => .ok (.sh y.d) r2
    | some false => .ok (.sh x.d) r1
    | none => .bad
  | .or a b, r => (ev C a r).bind fun x r1 => match tru x.d with
    | some false => (ev C b r1).bind fun y r2 => .ok (.sh y.d) r2
    | some true => .ok (.sh x.d) r1
    | none => .bad
  | .ite c a b, r => (evT C c r).bind fun k r1 => if k = true then ev C a r1 else ev C b r1
  | .lst es, r => (evs C es r).bind fun ds r1 => if ds.length ≤ LINE then .ok (.ow (.lst ds)) r1 else .bad
  | .tup es, r => (evs C es r).bind fun ds r1 => if ds.length ≤ LINE then .ok (.sh (.tup ds)) r1 else .bad
  | .idx a b, r => (bor a (fun r => ev C a r) r).bind fun x r1 => (bor b (fun r => ev C b r) r1).bind fun y r2 => op2 (fun u v => (idxD u v).map .sh) x y r2
  | .slc a lo hi, r => (bor a (fun r => ev C a r) r).bind fun x r1 => (por lo (fun r => ev C lo r) r1).bind fun y r2 => (por hi (fun r => ev C hi r) r2).bind fun z r3 => op3 slcD x y z r3
  | .rev a, r => (bor a (fun r => ev C a r) r).bind fun x r1 => op1 revD x r1
  | .lc elt t it ifs own, r => (evI C it r).bind fun l r1 => if ownFree r1 own && (tgS t).all own.contains then
      (lcL (fun x r2 => (R.of (bindT t x (wip r2 own)) r2).bind fun r3 _ => (evC C ifs r3).bind fun k r4 => if k = true then (ev C elt r4).bind fun v r5 => .ok (some v.d) r5 else .ok none r4) l [] (wip r1 own)).bind fun ds r6 =>
        thawL r ds (back r1 r6 own) else .bad
  | .srs a, r => (ev C a r).bind fun v r1 => R.of (srsD v.d) r1
  | .lc2 elt t it ifs t1 it1 ifs1 own own1, r => (evI C it r).bind fun l r1 => if ownFree r1 own && (tgS t).all own.contains && ((tgS t1).all own1.contains && own1.all own.contains) then
      (lcA (fun x acc r2 => (R.of (bindT t x (wip r2 own)) r2).bind fun r3 _ => (evC C ifs r3).bind fun k r4 => if k = true then
        (evI C it1 r4).bind fun l1 r5 => lcL (fun x r2 => (R.of (bindT t1 x (wip r2 own1)) r2).bind fun r3 _ => (evC C ifs1 r3).bind fun k r4 => if k = true then (ev C elt r4).bind fun v r5 => .ok (some v.d) r5 else .ok none r4) l1 acc r5 else .ok acc r4) l [] (wip r1 own)).bind fun ds r6 =>
        thawL r ds (back r1 r6 own) else .bad
  | .call f es perm dfl, r => (evA C es r).bind fun ys r1 => match permO (ys ++ dfl.map .inr) perm, C.modes f with
    | some xs, some ms => callR ms (C.call f) xs r1
    | _, _ => .bad
  | .dnt, r => .ok (.ow (.dts [])) r
  | .dlen i, r => match r[i]? with
    | some (.ow (.dts ks)) => .ok (.sh (.int ks.length)) r
    | _ => .bad
  | .dk0, r => .ok (.ow (.dct [] [])) r
  | .dls i, r => match r[i]? with
    | some (.ow (.dts ks)) => .ok (.ow (.lst (ks.map tupK))) r
    | _ => .bad
  | .dcz i j it, r => (evI C it r).bind fun l r1 => if noAt r1 [i, j] && decide (i ≠ j) && decide (l.length ≤ 100000) then R.of (dictF [.lst l]) r1 else .bad
  | .dzp es, r => (evs C es r).bind fun ds r1 => R.of ((zipD true ds).bind fun l => dictF [.lst l]) r1
  | .dget i k, r => if (r.rd i).isSome = true then (ev C k r).bind fun v r1 => match r1.rd i, v.d with
    | some (.dct ks vs), .int n => R.of ((dgetL ks vs n).map .sh) r1
    | _, _ => .bad else .bad
  | .din neg k i, r => (ev C k r).bind fun v r1 => match r1[i]?, v.d with
    | some (.ow (.dts ks)), .tup l => (match keysD l with
      | some kk => .ok (.sh (.bl (xor neg (ks.any fun x => decide (x = kk))))) r1
      | none => .bad)
    | _, _ => .bad
  | .callO f es, r => (evA C es r).bind fun ys r1 => match C.modes f with
    | some ms => callRO ms (C.call f) ys r1
    | none => .bad
  | .callN f e es, r => (ev C e r).bind fun v r1 => (evA C es r1).bind fun ys r2 => match v, C.modes f with
    | .ow d, some ms => callNR ms (C.call f) d ys r2
    | _, _ => .bad
  | .bi b es, r => (evA C es r).bind fun xs r1 => opn (biD b) xs r1
  | .bits o, r => (bor o (fun r => ev C o r) r).bind fun x r1 => op1 (fun d => (mtD .bitlen d []).map Val.sh) x r1
  | .mth m o es, r => (bor o (fun r => ev C o r) r).bind fun x r1 => if lstB r1 x = true then (evA C es r1).bind fun xs r2 => opn (fun l => match l with | d :: ds => (mtD m d ds).map Val.sh | [] => none) (x :: xs) r2 else .bad
  | .mut m i es, r => if lstAt r i then (evs C es r).bind fun ds r1 => (R.of ((r1.own? i).bind fun o => (muD m o ds).bind fun p => (r1.chg i p.1).map fun r2 => (Val.sh p.2, r2)) r1).bind (fun q _ => .ok q.1 q.2) else .bad
  | .isi a t, r => (bor a (fun r => ev C a r) r).bind fun x r1 => op1 (fun u => boolV (isiD u t)) x r1
def evs (C : Cf) : List E → En → R (List D)
  | [], r => .ok [] r
  | e :: es, r => (ev C e r).bind fun v r1 => (evs C es r1).bind fun vs r2 => .ok (v.d :: vs) r2
def evA (C : Cf) : List E → En → R (List (Nat ⊕ D))
  | [], r => .ok [] r
  | e :: es, r => (bor e (fun r => ev C e r) r).bind fun x r1 => (evA C es r1).bind fun xs r2 => .ok (x :: xs) r2
def evT (C : Cf) : T → En → R Bool
  | .val e, r => (bor e (fun r => ev C e r) r).bind fun x r1 => R.of (match res r1 [x] with | some [a] => tru a | _ => none) r1
  | .not a, r => (evT C a r).bind fun b r1 => .ok (!b) r1
  | .and a b, r => (evT C a r).bind fun k r1 => if k = true then evT C b r1 else .ok false r1
  | .or a b, r => (evT C a r).bind fun k r1 => if k = true then .ok true r1 else evT C b r1
  | .ite c a b, r => (evT C c r).bind fun k r1 => if k = true then evT C a r1 else evT C b r1
def evC (C : Cf) : List T → En → R Bool
  | [], r => .ok true r
  | e :: es, r => (evT C e r).bind fun k r1 => if k = true then evC C es r1 else .ok false r1
def evI (C : Cf) : I → En → R (List D)
  | .e a, r => (ev C a r).bind fun v r1 => R.of (itemsD v.d) r1
  | .rng1 a, r => (bor a (fun r => ev C a r) r).bind fun x r1 => R.of (match res r1 [x] with | some [u] => rngD [u] | _ => none) r1
  | .rng2 a b, r => (bor a (fun r => ev C a r) r).bind fun x r1 => (bor b (fun r => ev C b r) r1).bind fun y r2 => R.of (match res r2 [x, y] with | some [u, v] => rngD [u, v] | _ => none) r2
  | .rng3 a b c, r => (bor a (fun r => ev C a r) r).bind fun x r1 => (bor b (fun r => ev C b r) r1).bind fun y r2 => (bor c (fun r => ev C c r) r2).bind fun z r3 => R.of (match res r3 [x, y, z] with | some [u, v, w] => rngD [u, v, w] | _ => none) r3
  | .enm a, r => (ev C a r).bind fun v r1 => R.of ((lstD v.d).map enumD) r1
  | .zip s es, r => (evs C es r).bind fun ds r1 => R.of (zipD s ds) r1
  | .rvd a, r => (ev C a r).bind fun v r1 => R.of ((lstD v.d).map List.reverse) r1
  | .zv i es, r => match r[i]? with
    | some .no => (evs C es r).bind fun ds r1 => R.of (zipD true ds) r1
    | _ => .bad
  | .dk i, r => match r[i]? with
    | some (.ow (.dts ks)) => .ok (ks.map tupK) (r.set i .no)
    | _ => .bad
end
/-- behind a statement -/
inductive O where
  | nx (r : En)
  | ret (v : Val) (r : En)
  | brk (r : En)
  | cnt (r : En)
  | exc (c : Nat) (v : D) (r : En)
  | bad
def R.run {A : Type} (x : R A) (f : A → En → O) : O :=
  match x with
  | .ok a r => f a r
  | .exc c v r => .exc c v r
  | .bad => .bad
@[simp] theorem R.run_ok {A : Type} (a : A) (r : En) (f : A → En → O) : (R.ok a r).run f = f a r := rfl
@[simp] theorem R.run_exc {A : Type} (c : Nat) (v : D) (r : En) (f : A → En → O) : (R.exc c v r).run f = .exc c v r := rfl
@[simp] theorem R.run_bad {A : Type} (f : A → En → O) : (R.bad : R A).run f = .bad := rfl
def O.of (x : Option En) : O :=
  match x with
  | some r => .nx r
  | none => .bad
def O.then (x : O) (f : En → O) : O :=
  match x with
  | .nx r => f r
  | x => x
/-- behind a loop's turn -/
def O.turn (x : O) (f : En → O) : O :=
  match x with
  | .nx r => f r
  | .cnt r => f r
  | .brk r => .nx r
  | x => x
@[simp] theorem O.of_some (r : En) : O.of (some r) = .nx r := rfl
@[simp] theorem O.of_none : O.of none = .bad := rfl
@[simp] theorem O.then_nx (r : En) (f : En → O) : (O.nx r).then f = f r := rfl
@[simp] theorem O.then_ret (v : Val) (r : En) (f : En → O) : (O.ret v r).then f = .ret v r := rfl
@[simp] theorem O.then_brk (r : En) (f : En → O) : (O.brk r).then f = .brk r := rfl
@[simp] theorem O.then_cnt (r : En) (f : En → O) : (O.cnt r).then f = .cnt r := rfl
@[simp] theorem O.then_exc (c : Nat) (v : D) (r : En) (f : En → O) : (O.exc c v r).then f = .exc c v r := rfl
@[simp] theorem O.turn_nx (r : En) (f : En → O) : (O.nx r).turn f = f r := rfl
@[simp] theorem O.turn_cnt (r : En) (f : En → O) : (O.cnt r).turn f = f r := rfl
@[simp] theorem O.turn_brk (r : En) (f : En → O) : (O.brk r).turn f = .nx r := rfl
@[simp] theorem O.turn_ret (v : Val) (r : En) (f : En → O) : (O.ret v r).turn f = .ret v r := rfl
@[simp] theorem O.turn_exc (c : Nat) (v : D) (r : En) (f : En → O) : (O.exc c v r).turn f = .exc c v r := rfl
def forL (f : D → En → O) : List D → En → O
  | [], r => .nx r
  | x :: xs, r => (f x r).turn fun r1 => forL f xs r1
def heldI (i : Nat) (ns : List Int) (r : En) : Bool :=
  match r[i]? with
  | some (.io (.lst es)) => decide (intsD es = some ns)
  | _ => false
def O.held (i : Nat) (ns : List Int) : O → O
  | .nx r => if heldI i ns r = true then .nx r else .bad
  | .cnt r => if heldI i ns r = true then .cnt r else .bad
  | .brk r => if heldI i ns r = true then .brk r else .bad
  | x => x
def forO (i : Nat) (f : D → En → O) (r : En) : O :=
  match r[i]? with
  | some (.ow (.lst ds)) => match intsD ds with
    | some ns => (forL (fun x r2 => (f x r2).held i ns) ds (r.set i (.io (.lst ds)))).then fun r1 => .nx (r1.set i (.ow (.lst ds)))
    | none => .bad
  | _ => .bad
def whlL (c : En → R Bool) (b : En → O) : Nat → En → O
  | 0, _ => .bad
  | n + 1, r => (c r).run fun k r1 => if k = true then (b r1).turn fun r2 => whlL c b n r2 else .nx r1
def puts (r : En) : List Nat → List Val → Option En
  | [], [] => some r
  | i :: is, v :: vs => (r.put i v).bind fun r1 => puts r1 is vs
  | _, _ => none
def evV (C : Cf) : List E → En → R (List Val)
  | [], r => .ok [] r
  | e :: es, r => (ev C e r).bind fun v r1 => (evV C es r1).bind fun vs r2 => .ok (v :: vs) r2
def retV (C : Cf) (e : E) (r : En) : R Val :=
  match isVar e with
  | some i => match r[i]? with
    | some (.sh d) => .ok (.sh d) r
    | some (.ow d) => .ok (.ow d) r
    | _ => .bad
  | none => ev C e r
mutual
def xs (C : Cf) : List S → En → O
  | [], r => .nx r
  | s :: ss, r => (x1 C s r).then fun r1 => xs C ss r1
def x1 (C : Cf) : S → En → O
  | .asg t e, r => (ev C e r).run fun v r1 => match t with
    | .v i => O.of (r1.put i v)
    | .t ts => O.of (bindT (.t ts) v.d r1)
  | .par is es, r => (evV C es r).run fun vs r1 => if is.Nodup then O.of (puts r1 is vs) else .bad
  | .aug i op e, r => match r.rd i with
    | some (.int x) => (ev C e r).run fun v r1 => match v.d with
      | .int y => match binI op x y with
        | some z => O.of (r1.put i (.sh (.int z)))
        | none => .bad
      | _ => .bad
    | _ => .bad
  | .seti i x e, r => (ev C e r).run fun v r1 => if (r1.own? i).isSome = true then (ev C x r1).run fun k r2 => O.of ((r2.own? i).bind fun o => (setD o k.d v.d).bind fun d => r2.chg i d) else .bad
  | .ex e, r => (ev C e r).run fun _ r1 => .nx r1
  | .ret e, r => (retV C e r).run fun v r1 => .ret v r1
  | .retN, r => .ret (.sh .non) r
  | .ite c a b, r => (evT C c r).run fun k r1 => if k = true then xs C a r1 else xs C b r1
  | .for_ t it b, r => (evI C it r).run fun l r1 => forL (fun x r2 => (O.of (bindT t x r2)).then fun r3 => xs C b r3) l r1
  | .forO t i b, r => forO i (fun x r2 => (O.of (bindT t x r2)).then fun r3 => xs C b r3) r
  | .whl c b, r => whlL (evT C c) (xs C b) C.fuel r
  | .brk, r => .brk r
  | .cnt, r => .cnt r
  | .pass, r => .nx r
  | .nev, _ => .bad
  | .dput i a b, r => (ev C b r).run fun v r1 => if (r1.own? i).isSome = true then (ev C a r1).run fun k r2 => O.of ((r2.own? i).bind fun o => (dputD o k.d v.d).bind fun d => r2.chg i d) else .bad
  | .rse c es, r => (evs C es r).run fun ds r1 => match ds with
    | [d] => .exc c d r1
    | [] => .exc c .non r1
    | _ => .bad
  | .try_ _ _ _ _, _ => .bad
end
def En.start (ms : List Bool) (n : Nat) (ds : List D) : En := (ms.zipWith (fun m d => if m then Sl.io d else Sl.sh d) ds) ++ List.replicate (n - ds.length) .no
def outsOf (r : En) : Nat → List Bool → Option (List D)
  | _, [] => some []
  | i, true :: ms => match r[i]? with
    | some (.io d) => (outsOf r (i + 1) ms).map (d :: ·)
    | _ => none
  | i, false :: ms => outsOf r (i + 1) ms
def O.cr (ms : List Bool) : O → CR
  | .nx r => match outsOf r 0 ms with | some l => .ok (.sh .non) l | none => .bad
  | .ret v r => match outsOf r 0 ms with | some l => .ok v l | none => .bad
  | .exc c v r => match outsOf r 0 ms with | some l => .exc c v l | none => .bad
  | _ => .bad
def callD (P : Nat → Option Df) (fuel : Nat) : Nat → Nat → List D → CR
  | 0, _, _ => .bad
  | k + 1, f, ds => match P f with
    | none => .bad
    | some df => if ds.length = df.modes.length ∧ ds.length ≤ df.names then
        (xs { call := callD P fuel k, modes := fun g => (P g).map (·.modes), fuel := fuel } df.body (En.start df.modes df.names ds)).cr df.modes
      else .bad
end Z
/-! ZB: how data trees lie in the tracked heap; slots; what a step may change. -/
namespace Z
open PySem PySem.Spec L2
open PyProof.Rows hiding St
/-- what a law's text fixes -/
structure Tb where
  P : Program
  w : World
  K : PySem.W.Frag
  mg : Str → Option Value
  base : Heap
  adr : Nat → Addr
abbrev Ext (H H' : Hp) : Prop := Same H H'
theorem sqL_ext {K : PySem.W.Frag} {H H' : Hp} {a : Addr} {xs : List V} (e : Ext H H') (h : SqL K H a xs) : SqL K H' a xs := e.seq h
mutual
def Rep (T : Tb) (H : Hp) : D → V → Prop
  | .non, v => v = .non
  | .bl b, v => v = .bl b
  | .int i, v => v = .int i
  | .str s, v => v = .str s
  | .lst ds, v => ∃ a xs, v = .ref a ∧ H a = some (.lst xs) ∧ Reps T H ds xs
  | .tup ds, v => ∃ a xs, v = .ref a ∧ H a = some (.tup xs) ∧ Reps T H ds xs
  | .dct ks ds, v => ∃ a kvs, v = .ref a ∧ H a = some (.dK kvs) ∧ kvs.map (·.1) = ks ∧ Reps T H ds (kvs.map (·.2))
  | .dts ks, v => ∃ a, v = .ref a ∧ H a = some (.dT (ks.map fun k => (k, V.bl true)))
  | .fn f, v => v = .ref (T.adr f)
  | .exn _ _, _ => False
  | .scr ns, v => ∃ a, v = .ref a ∧ SqL T.K H a (ns.map V.int)
def Reps (T : Tb) (H : Hp) : List D → List V → Prop
  | [], vs => vs = []
  | d :: ds, vs => ∃ v r, vs = v :: r ∧ Rep T H d v ∧ Reps T H ds r
end
mutual
theorem Rep.ext {T : Tb} {H H' : Hp} (e : Ext H H') : ∀ (d : D) (v : V), Rep T H d v → Rep T H' d v
  | .non, _, h => h
  | .bl _, _, h => h
  | .int _, _, h => h
  | .str _, _, h => h
  | .lst ds, v, h => by
    simp only [Rep] at h ⊢
    obtain ⟨a, xs, h1, h2, h3⟩ := h
    exact ⟨a, xs, h1, e _ _ h2, Reps.ext e ds xs h3⟩
  | .tup ds, v, h => by
    simp only [Rep] at h ⊢
    obtain ⟨a, xs, h1, h2, h3⟩ := h
    exact ⟨a, xs, h1, e _ _ h2, Reps.ext e ds xs h3⟩
  | .dct ks ds, v, h => by
    simp only [Rep] at h ⊢
    obtain ⟨a, kvs, h1, h2, h3, h4⟩ := h
    exact ⟨a, kvs, h1, e _ _ h2, h3, Reps.ext e ds _ h4⟩
  | .dts _, v, h => by
    simp only [Rep] at h ⊢
    obtain ⟨a, h1, h2⟩ := h
    exact ⟨a, h1, e _ _ h2⟩
  | .fn _, _, h => h
  | .exn _ _, _, h => h
  | .scr _, v, h => by
    simp only [Rep] at h ⊢
    obtain ⟨a, h1, h2⟩ := h
    exact ⟨a, h1, sqL_ext e h2⟩
theorem Reps.ext {T : Tb} {H H' : Hp} (e : Ext H H') : ∀ (ds : List D) (vs : List V), Reps T H ds vs → Reps T H' ds vs
  | [], _, h => h
  | d :: ds, vs, h => by
    simp only [Reps] at h ⊢
    obtain ⟨v, r, h1, h2, h3⟩ := h
    exact ⟨v, r, h1, Rep.ext e d v h2, Reps.ext e ds r h3⟩
end
section
variable {T : Tb} {H : Hp}
theorem Reps.nil : Reps T H [] [] := by simp only [Reps]
theorem Reps.cons {d : D} {v : V} {ds : List D} {vs : List V} (h : Rep T H d v) (t : Reps T H ds vs) : Reps T H (d :: ds) (v :: vs) := by
  simp only [Reps]; exact ⟨v, vs, rfl, h, t⟩
theorem Reps.of_nil {vs : List V} (h : Reps T H [] vs) : vs = [] := by simpa only [Reps] using h
theorem Reps.of_cons {d : D} {ds : List D} {vs : List V} (h : Reps T H (d :: ds) vs) : ∃ v r, vs = v :: r ∧ Rep T H d v ∧ Reps T H ds r := by
  simpa only [Reps] using h
theorem Reps.length : ∀ {ds : List D} {vs : List V}, Reps T H ds vs → vs.length = ds.length
  | [], _, h => by rw [h.of_nil]; rfl
  | d :: ds, _, h => by
    obtain ⟨v, r, rfl, _, h2⟩ := h.of_cons
    simp [Reps.length h2]
theorem Reps.get : ∀ {ds : List D} {vs : List V} {i : Nat} {d : D}, Reps T H ds vs → ds[i]? = some d → ∃ v, vs[i]? = some v ∧ Rep T H d v
  | [], _, _, _, _, e => by simp at e
  | d :: ds, _, 0, d', h, e => by
    obtain ⟨v, r, rfl, h1, h2⟩ := h.of_cons
    simp at e; subst e
    exact ⟨v, by simp, h1⟩
  | d :: ds, _, i + 1, d', h, e => by
    obtain ⟨v, r, rfl, h1, h2⟩ := h.of_cons
    obtain ⟨u, e1, q⟩ := Reps.get (i := i) h2 (by simpa using e)
    exact ⟨u, by simpa using e1, q⟩
theorem Reps.append : ∀ {ds es : List D} {vs us : List V}, Reps T H ds vs → Reps T H es us → Reps T H (ds ++ es) (vs ++ us)
  | [], _, _, _, h, t => by rw [h.of_nil]; exact t
  | d :: ds, _, _, _, h, t => by
    obtain ⟨v, r, rfl, h1, h2⟩ := h.of_cons
    exact .cons h1 (Reps.append h2 t)
theorem Reps.take : ∀ {ds : List D} {vs : List V} (n : Nat), Reps T H ds vs → Reps T H (ds.take n) (vs.take n)
  | _, _, 0, _ => by simp; exact .nil
  | [], _, _ + 1, h => by rw [h.of_nil]; simp; exact .nil
  | d :: ds, _, n + 1, h => by
    obtain ⟨v, r, rfl, h1, h2⟩ := h.of_cons
    simpa using Reps.cons h1 (Reps.take n h2)
theorem Reps.drop : ∀ {ds : List D} {vs : List V} (n : Nat), Reps T H ds vs → Reps T H (ds.drop n) (vs.drop n)
  | _, _, 0, h => by simpa using h
  | [], _, _ + 1, h => by rw [h.of_nil]; simp; exact .nil
  | d :: ds, _, n + 1, h => by
    obtain ⟨v, r, rfl, h1, h2⟩ := h.of_cons
    simpa using Reps.drop n h2
theorem Reps.reverse : ∀ {ds : List D} {vs : List V}, Reps T H ds vs → Reps T H ds.reverse vs.reverse
  | [], _, h => by rw [h.of_nil]; simp; exact .nil
  | d :: ds, _, h => by
    obtain ⟨v, r, rfl, h1, h2⟩ := h.of_cons
    simpa using (Reps.reverse h2).append (.cons h1 .nil)
theorem Reps.set : ∀ {ds : List D} {vs : List V} {d : D} {v : V} (i : Nat), Reps T H ds vs → Rep T H d v → Reps T H (ds.set i d) (vs.set i v)
  | [], _, _, _, _, h, _ => by rw [h.of_nil]; simp; exact .nil
  | d :: ds, _, _, _, 0, h, q => by
    obtain ⟨v, r, rfl, h1, h2⟩ := h.of_cons
    simpa using Reps.cons q h2
  | d :: ds, _, _, _, i + 1, h, q => by
    obtain ⟨v, r, rfl, h1, h2⟩ := h.of_cons
    simpa using Reps.cons h1 (Reps.set i h2 q)
theorem Reps.eraseIdx : ∀ {ds : List D} {vs : List V} (i : Nat), Reps T H ds vs → Reps T H (ds.eraseIdx i) (vs.eraseIdx i)
  | [], _, _, h => by rw [h.of_nil]; simp; exact .nil
  | d :: ds, _, 0, h => by
    obtain ⟨v, r, rfl, h1, h2⟩ := h.of_cons
    simpa using h2
  | d :: ds, _, i + 1, h => by
    obtain ⟨v, r, rfl, h1, h2⟩ := h.of_cons
    simpa using Reps.cons h1 (Reps.eraseIdx i h2)
theorem Reps.dropLast {ds : List D} {vs : List V} (h : Reps T H ds vs) : Reps T H ds.dropLast vs.dropLast := by
  rw [List.dropLast_eq_take, List.dropLast_eq_take, h.length]
  exact h.take _
theorem Reps.rep {ds : List D} {vs : List V} (h : Reps T H ds vs) : ∀ n : Nat, Reps T H (List.replicate n ds).flatten (List.replicate n vs).flatten
  | 0 => by simp; exact .nil
  | n + 1 => by
    rw [List.replicate_succ, List.replicate_succ, List.flatten_cons, List.flatten_cons]
    exact h.append (h.rep n)
theorem Reps.toIs : ∀ {ds : List D} {vs : List V} {ns : List Int}, Reps T H ds vs → Z.intsD ds = some ns → vs = ns.map V.int
  | [], _, ns, h, e => by
    simp [Z.intsD] at e; subst e
    rw [h.of_nil]; rfl
  | d :: ds, _, ns, h, e => by
    obtain ⟨v, r, rfl, h1, h2⟩ := h.of_cons
    cases d with
    | int i =>
      simp only [Z.intsD] at e
      cases e2 : Z.intsD ds with
      | none => rw [e2] at e; cases e
      | some ms =>
        rw [e2] at e
        simp at e; subst e
        simp only [Rep] at h1
        rw [h1, Reps.toIs h2 e2]; rfl
    | _ => simp [Z.intsD] at e
theorem Reps.of_ints (T : Tb) (H : Hp) : ∀ ns : List Int, Reps T H (ns.map D.int) (ns.map V.int)
  | [] => .nil
  | n :: ns => by
    simp only [List.map_cons]
    exact .cons (by simp only [Rep]) (Reps.of_ints T H ns)
theorem ints_map (ns : List Int) : Z.intsD (ns.map D.int) = some ns := by
  induction ns with
  | nil => rfl
  | cons n ns ih => simp [Z.intsD, ih]
end
/-- an owned thing: its object may be changed, its items lie in P -/
def RepO (T : Tb) (P H : Hp) (a : Addr) (d : D) : Prop :=
  match d with
  | .lst ds => ∃ xs, H a = some (.lst xs) ∧ Reps T P ds xs
  | .dct ks ds => ∃ kvs, H a = some (.dK kvs) ∧ kvs.map (·.1) = ks ∧ Reps T P ds (kvs.map (·.2))
  | .dts ks => H a = some (.dT (ks.map fun k => (k, V.bl true)))
  | _ => False
def OwnAt (r : En) (i : Nat) : Prop := ∃ d, r[i]? = some (.ow d) ∨ r[i]? = some (.io d)
def Own (σ : St) (r : En) (a : Addr) : Prop := ∃ i, OwnAt r i ∧ σ[i]? = some (some (.ref a))
structure RS (T : Tb) (P H : Hp) (σ : St) (r : En) : Prop where
  sub : Ext P H
  len : r.length = σ.length
  sh : ∀ (i : Nat) (d : D), r[i]? = some (Sl.sh d) → ∃ v, σ[i]? = some (some v) ∧ Rep T P d v
  own : ∀ (i : Nat) (d : D), (r[i]? = some (Sl.ow d) ∨ r[i]? = some (Sl.io d)) → ∃ a, σ[i]? = some (some (.ref a)) ∧ P a = none ∧ RepO T P H a d
  dis : ∀ (i j : Nat) (a : Addr), OwnAt r i → OwnAt r j → σ[i]? = some (some (.ref a)) → σ[j]? = some (some (.ref a)) → i = j
theorem RepO.some {T : Tb} {P H : Hp} {a : Addr} {d : D} (h : RepO T P H a d) : ∃ o, H a = some o := by
  cases d with
  | lst ds => obtain ⟨xs, e, _⟩ := h; exact ⟨_, e⟩
  | dct ks ds => obtain ⟨xs, e, _⟩ := h; exact ⟨_, e⟩
  | dts ks => exact ⟨_, h⟩
  | _ => exact False.elim h
theorem RepO.move {T : Tb} {P H P' H' : Hp} {a : Addr} {d : D} (h : RepO T P H a d) (e : Ext P P') (k : H' a = H a) : RepO T P' H' a d := by
  cases d with
  | lst ds => obtain ⟨xs, h1, h2⟩ := h; exact ⟨xs, by rw [k]; exact h1, Reps.ext e _ _ h2⟩
  | dct ks ds => obtain ⟨xs, h1, h2, h3⟩ := h; exact ⟨xs, by rw [k]; exact h1, h2, Reps.ext e _ _ h3⟩
  | dts ks => exact k.trans h
  | _ => exact False.elim h
/-- an owned thing is a thing -/
theorem RepO.rep {T : Tb} {P H P' : Hp} {a : Addr} {d : D} (h : RepO T P H a d) (e : Ext P P') (k : P' a = H a) : Rep T P' d (.ref a) := by
  cases d with
  | lst ds =>
    obtain ⟨xs, h1, h2⟩ := h
    simp only [Rep]
    exact ⟨a, xs, rfl, k.trans h1, Reps.ext e _ _ h2⟩
  | dct ks ds =>
    obtain ⟨xs, h1, h2, h3⟩ := h
    simp only [Rep]
    exact ⟨a, xs, rfl, k.trans h1, h2, Reps.ext e _ _ h3⟩
  | dts ks =>
    simp only [Rep]
    exact ⟨a, rfl, k.trans h⟩
  | _ => exact False.elim h
/-- nothing, or a tuple -/
def NT (H : Hp) (b : Addr) : Prop := ∀ o, H b = some o → ∃ xs, o = HO.tup xs
theorem NT.of {H : Hp} {b : Addr} (h : H b = none) : NT H b := fun o e => by rw [h] at e; cases e
theorem nt_lst {H : Hp} {b : Addr} {xs : List V} (h : H b = some (.lst xs)) : ¬ NT H b := fun n => by
  obtain ⟨_, e⟩ := n _ h
  cases e
theorem RepO.nt {T : Tb} {P H : Hp} {a : Addr} {d : D} (h : RepO T P H a d) : ¬ NT H a := fun n => by
  cases d with
  | lst ds => obtain ⟨xs, e, _⟩ := h; obtain ⟨_, e2⟩ := n _ e; cases e2
  | dct ks ds => obtain ⟨xs, e, _⟩ := h; obtain ⟨_, e2⟩ := n _ e; cases e2
  | dts ks => obtain ⟨_, e2⟩ := n _ h; cases e2
  | _ => exact False.elim h
/-- what a step may change: O are the owned ones -/
structure Stp (O : Addr → Prop) (P H P' H' : Hp) : Prop where
  pp : Ext P P'
  fr : ∀ b o, H b = some o → ¬ O b → H' b = some o
  dm : ∀ b, H' b = none → H b = none
  nw : ∀ b, P' b ≠ none → P b ≠ none ∨ NT H b ∨ O b
theorem Stp.refl {O : Addr → Prop} {P H : Hp} : Stp O P H P H := ⟨.refl _, fun _ _ h _ => h, fun _ h => h, fun _ h => .inl h⟩
theorem Stp.trans {O O1 : Addr → Prop} {P H P1 H1 P2 H2 : Hp} (a : Stp O P H P1 H1) (b : Stp O1 P1 H1 P2 H2) (s : ∀ c, O1 c → O c ∨ H c = none) : Stp O P H P2 H2 where
  pp := a.pp.trans b.pp
  fr := fun c o h n => b.fr c o (a.fr c o h n) fun z => (s c z).elim n fun e => by rw [e] at h; cases h
  dm := fun c h => a.dm c (b.dm c h)
  nw := fun c h => by
    rcases b.nw c h with h | h | h
    · exact a.nw c h
    · by_cases oc : O c
      · exact .inr (.inr oc)
      · exact .inr (.inl fun o e => h o (a.fr c o e oc))
    · rcases s c h with h | h
      · exact .inr (.inr h)
      · exact .inr (.inl (.of h))
def kle : Sl → Sl → Prop
  | .io _, .io _ => True
  | .ow _, .ow _ => True
  | .ow _, .sh _ => True
  | .ow _, .no => True
  | .sh _, .sh _ => True
  | .no, .no => True
  | _, _ => False
theorem kle.refl : ∀ x : Sl, kle x x
  | .no => trivial
  | .sh _ => trivial
  | .ow _ => trivial
  | .io _ => trivial
theorem kle.trans {x y z : Sl} (h1 : kle x y) (h2 : kle y z) : kle x z := by
  cases x <;> cases y <;> first | exact False.elim h1 | (cases z <;> first | trivial | exact False.elim h2)
def Kd (r r' : En) : Prop := r'.length = r.length ∧ ∀ (i : Nat) (x x' : Sl), r[i]? = some x → r'[i]? = some x' → kle x x'
theorem Kd.refl (r : En) : Kd r r := ⟨rfl, fun i x x' h h' => by rw [h] at h'; cases h'; exact kle.refl x⟩
theorem Kd.trans {r r1 r2 : En} (a : Kd r r1) (b : Kd r1 r2) : Kd r r2 := ⟨b.1.trans a.1, fun i x x' h h' => by
  have hi : i < r1.length := by
    rw [a.1]
    exact (List.getElem?_eq_some_iff.mp h).1
  exact (a.2 i x _ h (List.getElem?_eq_getElem hi)).trans (b.2 i _ x' (List.getElem?_eq_getElem hi) h')⟩
theorem Kd.own {r r' : En} (k : Kd r r') {i : Nat} (h : OwnAt r' i) : OwnAt r i := by
  obtain ⟨d, h⟩ := h
  have hi : i < r.length := by
    rw [← k.1]
    rcases h with h | h <;> exact (List.getElem?_eq_some_iff.mp h).1
  have q := List.getElem?_eq_getElem hi
  rcases h with h | h
  · have z := k.2 i _ _ q h
    cases e : r[i] with
    | ow d' => exact ⟨d', .inl (by rw [q, e])⟩
    | _ => rw [e] at z; exact False.elim z
  · have z := k.2 i _ _ q h
    cases e : r[i] with
    | io d' => exact ⟨d', .inr (by rw [q, e])⟩
    | _ => rw [e] at z; exact False.elim z
theorem Kd.owns {σ : St} {r r' : En} (k : Kd r r') {a : Addr} (h : Own σ r' a) : Own σ r a := let ⟨i, h1, h2⟩ := h; ⟨i, k.own h1, h2⟩
/-- behind a step: the slots' values stay, their things may have changed -/
structure Aft (T : Tb) (σ : St) (P H : Hp) (r : En) (P' H' : Hp) (r' : En) : Prop where
  rs : RS T P' H' σ r'
  st : Stp (Own σ r) P H P' H'
  kd : Kd r r'
theorem Aft.refl {T : Tb} {σ : St} {P H : Hp} {r : En} (h : RS T P H σ r) : Aft T σ P H r P H r := ⟨h, .refl, .refl _⟩
theorem Aft.trans {T : Tb} {σ : St} {P H P1 H1 P2 H2 : Hp} {r r1 r2 : En} (a : Aft T σ P H r P1 H1 r1) (b : Aft T σ P1 H1 r1 P2 H2 r2) : Aft T σ P H r P2 H2 r2 :=
  ⟨b.rs, a.st.trans b.st fun _ h => .inl (a.kd.owns h), a.kd.trans b.kd⟩
/-- a result: a thing of P, or a new one that no one else holds -/
def RV (T : Tb) (H P' H' : Hp) (v : Val) (u : V) : Prop :=
  match v with
  | .sh d => Rep T P' d u
  | .ow d => ∃ a, u = .ref a ∧ P' a = none ∧ RepO T P' H' a d ∧ H a = none
section
variable {T : Tb} {σ : St} {P H P' H' : Hp} {r r' : En}
theorem RS.ownNT (h : RS T P H σ r) {a : Addr} (o : Own σ r a) : ¬ NT H a := by
  obtain ⟨i, ⟨d, hd⟩, hs⟩ := o
  obtain ⟨b, e, _, q⟩ := h.own i d hd
  rw [hs] at e
  cases e
  exact q.nt
theorem RS.ownsome (h : RS T P H σ r) {a : Addr} (o : Own σ r a) : ∃ x, H a = some x := by
  obtain ⟨i, ⟨d, hd⟩, hs⟩ := o
  obtain ⟨b, e, _, q⟩ := h.own i d hd
  rw [hs] at e; cases e
  exact q.some
theorem RS.ownfree (h : RS T P H σ r) {a : Addr} (o : Own σ r a) : P a = none := by
  obtain ⟨i, ⟨d, hd⟩, hs⟩ := o
  obtain ⟨b, e, n, q⟩ := h.own i d hd
  rw [hs] at e; cases e
  exact n
/-- more is settled -/
theorem RS.grow (h : RS T P H σ r) (e : Ext P P') (k : Ext P' H') (fr : ∀ a, Own σ r a → P' a = none ∧ H' a = H a) : RS T P' H' σ r where
  sub := k
  len := h.len
  sh := fun i d q => let ⟨v, e1, e2⟩ := h.sh i d q; ⟨v, e1, Rep.ext e _ _ e2⟩
  own := fun i d q => by
    obtain ⟨a, e1, e2, e3⟩ := h.own i d q
    obtain ⟨n, z⟩ := fr a ⟨i, ⟨d, q⟩, e1⟩
    exact ⟨a, e1, n, e3.move e z⟩
  dis := h.dis
theorem upd_sub {b : Addr} {o : HO} (e : Ext P H) (n : P b = none) : Ext P (upd H b o) := fun c u h => by
  rw [upd_ne (ne_of_none h n)]
  exact e c u h
theorem upd_ext {b : Addr} {o : HO} (n : P b = none) : Ext P (upd P b o) := fun c u h => by
  rw [upd_ne (ne_of_none h n)]; exact h
/-- a new thing is laid and settled -/
theorem Aft.laid (h : RS T P H σ r) {p : Addr} {o : HO} (n : H p = none) : Aft T σ P H r (upd P p o) (upd H p o) r := by
  have np : P p = none := h.sub.free n
  have ho : ∀ a, Own σ r a → a ≠ p := fun a q z => by
    obtain ⟨x, e⟩ := h.ownsome q
    rw [z, n] at e; cases e
  refine ⟨h.grow (upd_ext np) (fun c u e => ?_) fun a q => ⟨by rw [upd_ne (ho a q)]; exact h.ownfree q, by rw [upd_ne (ho a q)]⟩, ⟨upd_ext np, fun c u e _ => ?_, fun c e => ?_, fun c e => ?_⟩, .refl _⟩
  · by_cases z : c = p
    · subst z; rw [upd_same] at e; cases e; exact upd_same
    · rw [upd_ne z] at e ⊢; exact h.sub c u e
  · rw [upd_ne (ne_of_none e n)]; exact e
  · by_cases z : c = p
    · subst z; exact n
    · rw [upd_ne z] at e; exact e
  · by_cases z : c = p
    · subst z; exact .inr (.inl (.of n))
    · rw [upd_ne z] at e; exact .inl e
/-- a new thing is laid, not settled -/
theorem Aft.laidO (h : RS T P H σ r) {p : Addr} {o : HO} (n : H p = none) : Aft T σ P H r P (upd H p o) r := by
  have ho : ∀ a, Own σ r a → a ≠ p := fun a q z => by
    obtain ⟨x, e⟩ := h.ownsome q
    rw [z, n] at e; cases e
  refine ⟨h.grow (.refl _) (upd_sub h.sub (h.sub.free n)) fun a q => ⟨h.ownfree q, by rw [upd_ne (ho a q)]⟩, ⟨.refl _, fun c u e _ => ?_, fun c e => ?_, fun c e => .inl e⟩, .refl _⟩
  · rw [upd_ne (ne_of_none e n)]; exact e
  · by_cases z : c = p
    · subst z; exact n
    · rw [upd_ne z] at e; exact e
/-- a result is settled -/
theorem RV.settle {v : Val} {u : V} (h0 : RS T P H σ r) (h : Aft T σ P H r P' H' r') (q : RV T H P' H' v u) : ∃ P2, Aft T σ P H r P2 H' r' ∧ Ext P' P2 ∧ Rep T P2 v.d u := by
  cases v with
  | sh d => exact ⟨P', h, .refl _, q⟩
  | ow d =>
    obtain ⟨a, rfl, n, ro, fa⟩ := q
    obtain ⟨o, e⟩ := ro.some
    have ex : Ext P' (upd P' a o) := upd_ext n
    have ho : ∀ b, Own σ r' b → b ≠ a := fun b z y => by
      subst y
      obtain ⟨x, w⟩ := h0.ownsome (h.kd.owns z)
      rw [fa] at w; cases w
    refine ⟨upd P' a o, ⟨h.rs.grow ex (fun c x y => ?_) fun b z => ⟨by rw [upd_ne (ho b z)]; exact h.rs.ownfree z, rfl⟩, ⟨h.st.pp.trans ex, h.st.fr, h.st.dm, fun c z => ?_⟩, h.kd⟩, ex, ?_⟩
    · by_cases z : c = a
      · subst z; rw [upd_same] at y; cases y; exact e
      · rw [upd_ne z] at y; exact h.rs.sub c x y
    · by_cases y : c = a
      · subst y; exact .inr (.inl (.of fa))
      · rw [upd_ne y] at z; exact h.st.nw c z
    · exact ro.rep ex (by rw [upd_same, e])
end
section
variable {T : Tb} {P H : Hp}
theorem flat_rep {P' : Hp} {d : D} {u : V} (f : flat d = true) (h : Rep T P d u) : Rep T P' d u := by
  cases d <;> first | (simp only [Rep] at h ⊢; exact h) | cases f
theorem flats_rep {P' : Hp} : ∀ {ds : List D} {us : List V}, ds.all flat = true → Reps T P ds us → Reps T P' ds us
  | [], us, _, h => by rw [h.of_nil]; exact .nil
  | d :: ds, us, f, h => by
    obtain ⟨v, t, rfl, h1, h2⟩ := h.of_cons
    simp only [List.all_cons, Bool.and_eq_true] at f
    exact .cons (flat_rep f.1 h1) (flats_rep f.2 h2)
theorem shal_repO {P' : Hp} {a : Addr} {d : D} (s : shal d = true) (h : RepO T P H a d) : RepO T P' H a d := by
  cases d with
  | lst ds => obtain ⟨xs, e, q⟩ := h; exact ⟨xs, e, flats_rep s q⟩
  | dct ks ds => obtain ⟨xs, e, q, q2⟩ := h; exact ⟨xs, e, q, flats_rep s q2⟩
  | dts ks => exact h
  | _ => exact False.elim h
theorem rep_repO {P' H' : Hp} {a : Addr} {d : D} (s : shal d = true) (h : Rep T P' d (.ref a)) (e : Ext P' H') : RepO T P H' a d := by
  cases d with
  | lst ds =>
    simp only [Rep] at h
    obtain ⟨b, xs, e1, e2, e3⟩ := h
    cases e1
    exact ⟨xs, e _ _ e2, flats_rep s e3⟩
  | dct ks ds =>
    simp only [Rep] at h
    obtain ⟨b, kvs, e1, e2, e3, e4⟩ := h
    cases e1
    exact ⟨kvs, e _ _ e2, e3, flats_rep s e4⟩
  | dts ks =>
    simp only [Rep] at h
    obtain ⟨b, e1, e2⟩ := h
    cases e1
    exact e _ _ e2
  | _ => cases s
theorem thw_get : ∀ {r rb r2 : En}, thw r rb = some r2 → r2.length = r.length ∧ r2.length = rb.length ∧ ∀ (j : Nat) (z : Sl), r2[j]? = some z → ∃ x y, r[j]? = some x ∧ rb[j]? = some y ∧ thw1 x y = some z
  | [], [], r2, h => by cases h; exact ⟨rfl, rfl, fun j z e => by simp at e⟩
  | [], _ :: _, _, h => by cases h
  | _ :: _, [], _, h => by cases h
  | x :: r, y :: rb, r2, h => by
    simp only [thw] at h
    cases c : thw1 x y with
    | none => rw [c] at h; cases h
    | some w =>
      rw [c] at h
      cases c2 : thw r rb with
      | none => rw [c2] at h; cases h
      | some r3 =>
        rw [c2] at h
        cases h
        obtain ⟨l1, l2, g⟩ := thw_get c2
        refine ⟨by simp [l1], by simp [l2], fun j z e => ?_⟩
        cases j with
        | zero => simp at e; subst e; exact ⟨x, y, rfl, rfl, c⟩
        | succ j => simpa using g j z (by simpa using e)
/-- names that were only walked are given back -/
theorem thw_ok {σ : St} {r rb r2 : En} {P' H' : Hp} (rs : RS T P H σ r) (a : Aft T σ P H r P' H' rb) (h : thw r rb = some r2) : Aft T σ P H r P H' r2 := by
  obtain ⟨l1, l2, g⟩ := thw_get h
  have inv : ∀ (j : Nat) (z : Sl), r2[j]? = some z → ∃ x y, r[j]? = some x ∧ rb[j]? = some y ∧ ((x = .no ∧ z = .no) ∨ (∃ d, x = .sh d ∧ z = .sh d) ∨ (∃ d d', x = .ow d ∧ (y = .ow d' ∨ y = .sh d') ∧ shal d' = true ∧ z = .ow d') ∨ (∃ d d', x = .io d ∧ y = .io d' ∧ shal d' = true ∧ z = .io d')) := fun j z e => by
    obtain ⟨x, y, h1, h2, h3⟩ := g j z e
    refine ⟨x, y, h1, h2, ?_⟩
    cases x with
    | no => simp [thw1] at h3; exact .inl ⟨rfl, h3.symm⟩
    | sh d => simp [thw1] at h3; exact .inr (.inl ⟨d, rfl, h3.symm⟩)
    | ow d =>
      cases y with
      | ow d' => simp [thw1] at h3; exact .inr (.inr (.inl ⟨d, d', rfl, .inl rfl, h3.1, h3.2.symm⟩))
      | sh d' => simp [thw1] at h3; exact .inr (.inr (.inl ⟨d, d', rfl, .inr rfl, h3.1, h3.2.symm⟩))
      | _ => simp [thw1] at h3
    | io d =>
      cases y with
      | io d' => simp [thw1] at h3; exact .inr (.inr (.inr ⟨d, d', rfl, rfl, h3.1, h3.2.symm⟩))
      | _ => simp [thw1] at h3
  have ownJ : ∀ j, OwnAt r2 j → OwnAt r j := fun j ⟨d, o⟩ => by
    rcases o with o | o
    · obtain ⟨x, y, h1, _, q⟩ := inv j _ o
      rcases q with ⟨_, q⟩ | ⟨_, _, q⟩ | ⟨d1, d2, rfl, _, _, q⟩ | ⟨d1, d2, rfl, _, _, q⟩
      · cases q
      · cases q
      · exact ⟨d1, .inl h1⟩
      · cases q
    · obtain ⟨x, y, h1, _, q⟩ := inv j _ o
      rcases q with ⟨_, q⟩ | ⟨_, _, q⟩ | ⟨d1, d2, rfl, _, _, q⟩ | ⟨d1, d2, rfl, _, _, q⟩
      · cases q
      · cases q
      · cases q
      · exact ⟨d1, .inr h1⟩
  refine ⟨⟨fun b o e => a.rs.sub _ _ (a.st.pp _ _ e), by rw [l1]; exact rs.len, fun j d e => ?_, fun j d e => ?_, fun i j b o1 o2 => rs.dis i j b (ownJ i o1) (ownJ j o2)⟩, ⟨.refl _, a.st.fr, a.st.dm, fun b e => .inl e⟩, ⟨l1, fun j x z h1 h2 => ?_⟩⟩
  · obtain ⟨x, y, h1, _, q⟩ := inv j _ e
    rcases q with ⟨_, q⟩ | ⟨d', rfl, q⟩ | ⟨_, _, _, _, _, q⟩ | ⟨_, _, _, _, _, q⟩
    · cases q
    · cases q; exact rs.sh j d h1
    · cases q
    · cases q
  · have key : ∃ d1 y, (r[j]? = some (.ow d1) ∨ r[j]? = some (.io d1)) ∧ rb[j]? = some y ∧ (y = .ow d ∨ y = .sh d ∨ y = .io d) ∧ shal d = true := by
      rcases e with e | e
      · obtain ⟨x, y, h1, h2, q⟩ := inv j _ e
        rcases q with ⟨_, q⟩ | ⟨_, _, q⟩ | ⟨d1, d2, rfl, hy, hs, q⟩ | ⟨d1, d2, rfl, _, _, q⟩
        · cases q
        · cases q
        · cases q; exact ⟨d1, y, .inl h1, h2, hy.elim .inl fun w => .inr (.inl w), hs⟩
        · cases q
      · obtain ⟨x, y, h1, h2, q⟩ := inv j _ e
        rcases q with ⟨_, q⟩ | ⟨_, _, q⟩ | ⟨d1, d2, rfl, _, _, q⟩ | ⟨d1, d2, rfl, hy, hs, q⟩
        · cases q
        · cases q
        · cases q
        · cases q; exact ⟨d1, y, .inr h1, h2, .inr (.inr hy), hs⟩
    obtain ⟨d1, y, h1, h2, hy, hs⟩ := key
    obtain ⟨b, e1, e2, _⟩ := rs.own j d1 h1
    refine ⟨b, e1, e2, ?_⟩
    rcases hy with rfl | rfl | rfl
    · obtain ⟨c, q1, _, q3⟩ := a.rs.own j d (.inl h2)
      rw [e1] at q1; cases q1
      exact shal_repO hs q3
    · obtain ⟨u, q1, q2⟩ := a.rs.sh j d h2
      rw [e1] at q1; cases q1
      exact rep_repO hs q2 a.rs.sub
    · obtain ⟨c, q1, _, q3⟩ := a.rs.own j d (.inr h2)
      rw [e1] at q1; cases q1
      exact shal_repO hs q3
  · obtain ⟨x', y, h3, _, q⟩ := inv j _ h2
    rw [h1] at h3; cases h3
    rcases q with ⟨rfl, rfl⟩ | ⟨_, rfl, rfl⟩ | ⟨_, _, rfl, _, _, rfl⟩ | ⟨_, _, rfl, _, _, rfl⟩ <;> trivial
end
end Z
/-! ZC: the judgement, the rules of expressions. -/
namespace Z
open PySem PySem.Spec L2
open PyProof.Rows hiding St
/-- what is wanted of an error: its class, its value, the slots, the heap -/
abbrev WX := Nat → V → St → Hp → Prop
abbrev Rel (A B : Type) := Hp → Hp → Hp → A → B → Prop
def Go {A B : Type} (T : Tb) (W : WX) (rel : Rel A B) (σ : St) (P H : Hp) (r : En) (x : R A) (Q : B → Hp → Prop) : Prop :=
  match x with
  | .ok a r' => ∀ u P' H', Aft T σ P H r P' H' r' → rel H P' H' a u → Q u H'
  | .exc c d r' => ∀ u P' H', Aft T σ P H r P' H' r' → Rep T P' d u → W c u σ H'
  | .bad => False
def Anti {A B : Type} (rel : Rel A B) : Prop := ∀ (H H1 P' H' : Hp) (a : A) (u : B), (∀ b, H1 b = none → H b = none) → rel H1 P' H' a u → rel H P' H' a u
abbrev relV (T : Tb) : Rel Val V := fun H P' H' v u => RV T H P' H' v u
abbrev relSs (T : Tb) : Rel (List D) (List V) := fun _ P' _ ds us => Reps T P' ds us
def RB (T : Tb) (σ : St) (P : Hp) (x : Nat ⊕ D) (u : V) : Prop :=
  match x with
  | .inl i => σ[i]? = some (some u)
  | .inr d => Rep T P d u
def RBs (T : Tb) (σ : St) (P : Hp) : List (Nat ⊕ D) → List V → Prop
  | [], us => us = []
  | x :: xs, us => ∃ u r, us = u :: r ∧ RB T σ P x u ∧ RBs T σ P xs r
abbrev relB (T : Tb) (σ : St) : Rel (Nat ⊕ D) V := fun _ P' _ x u => RB T σ P' x u
abbrev relBs (T : Tb) (σ : St) : Rel (List (Nat ⊕ D)) (List V) := fun _ P' _ x u => RBs T σ P' x u
abbrev relK : Rel Bool Bool := fun _ _ _ a b => b = a
theorem anti_V (T : Tb) : Anti (relV T) := fun H H1 P' H' v u h q => by
  cases v with
  | sh d => exact q
  | ow d => obtain ⟨a, e, n, ro, f⟩ := q; exact ⟨a, e, n, ro, h a f⟩
theorem anti_Ss (T : Tb) : Anti (relSs T) := fun _ _ _ _ _ _ _ q => q
theorem anti_B (T : Tb) (σ : St) : Anti (relB T σ) := fun _ _ _ _ _ _ _ q => q
theorem anti_Bs (T : Tb) (σ : St) : Anti (relBs T σ) := fun _ _ _ _ _ _ _ q => q
theorem anti_K : Anti relK := fun _ _ _ _ _ _ _ q => q
section
variable {A B B' : Type} {T : Tb} {W : WX} {rel : Rel A B} {σ : St} {P H P1 H1 : Hp} {r r1 : En} {x : R A} {Q Q' : B → Hp → Prop}
theorem Go.step (an : Anti rel) (a : Aft T σ P H r P1 H1 r1) (h : Go T W rel σ P H r x Q) : Go T W rel σ P1 H1 r1 x Q := by
  cases x with
  | ok v r' => exact fun u P' H' b q => h u P' H' (a.trans b) (an _ _ _ _ _ _ a.st.dm q)
  | exc c d r' => exact fun u P' H' b q => h u P' H' (a.trans b) q
  | bad => exact h
theorem Go.mono (h : Go T W rel σ P H r x Q) (k : ∀ u H', Q u H' → Q' u H') : Go T W rel σ P H r x Q' := by
  cases x with
  | ok v r' => exact fun u P' H' b q => k _ _ (h u P' H' b q)
  | exc c d r' => exact h
  | bad => exact h
/-- a step of a chain -/
theorem Go.bind {C C' : Type} {rel' : Rel C C'} {Q2 : C' → Hp → Prop} {g : A → En → R C} (an : Anti rel') (h : Go T W rel' σ P H r (x.bind g) Q2) :
    Go T W rel σ P H r x fun u H1 => ∃ P1 r1 v, Aft T σ P H r P1 H1 r1 ∧ rel H P1 H1 v u ∧ x = .ok v r1 ∧ Go T W rel' σ P1 H1 r1 (g v r1) Q2 := by
  cases x with
  | ok v r' => exact fun u P' H' b q => ⟨P', r', v, b, q, rfl, Go.step an b h⟩
  | exc c d r' => exact h
  | bad => exact h
end
section
variable {A B : Type} {T : Tb} {W : WX} {rel : Rel A B} {σ : St} {P H : Hp} {r : En} {Q : B → Hp → Prop}
/-- .. whose value is settled -/
theorem Go.bindS {x : R Val} {g : Val → En → R A} (rs : RS T P H σ r) (an : Anti rel) (h : Go T W rel σ P H r (x.bind g) Q) :
    Go T W (relV T) σ P H r x fun u H1 => ∃ P1 r1 v, Aft T σ P H r P1 H1 r1 ∧ Rep T P1 v.d u ∧ x = .ok v r1 ∧ Go T W rel σ P1 H1 r1 (g v r1) Q := by
  refine (Go.bind an h).mono fun u H1 ⟨P1, r1, v, a, q, e, h1⟩ => ?_
  obtain ⟨P2, a2, ex, rp⟩ := RV.settle rs a q
  refine ⟨P2, r1, v, a2, rp, e, ?_⟩
  cases x with
  | ok v' r' => cases e; exact Go.step an a2 h
  | exc c d r' => cases e
  | bad => cases e
end
/-! ### readings -/
def tE (T : Tb) (W : WX) (f : En → R Val) : TE := fun σ H Q => ∃ P r, RS T P H σ r ∧ Go T W (relV T) σ P H r (f r) Q
def tB (T : Tb) (W : WX) (f : En → R (Nat ⊕ D)) : TE := fun σ H Q => ∃ P r, RS T P H σ r ∧ Go T W (relB T σ) σ P H r (f r) Q
def tS (T : Tb) (W : WX) (f : En → R (List D)) : TA := fun σ H Q => ∃ P r, RS T P H σ r ∧ Go T W (relSs T) σ P H r (f r) Q
def tA (T : Tb) (W : WX) (f : En → R (List (Nat ⊕ D))) : TA := fun σ H Q => ∃ P r, RS T P H σ r ∧ Go T W (relBs T σ) σ P H r (f r) Q
def tK (T : Tb) (W : WX) (f : En → R Bool) : TT := fun σ H Q => ∃ P r, RS T P H σ r ∧ Go T W relK σ P H r (f r) Q
theorem peImp {X : Cx} {e : PySem.Expr} {t t' : TE} (h : PE X e t) (k : ∀ σ H Q, t' σ H Q → t σ H Q) : PE X e t' := ⟨fun pins s σ H Q I q => h.run pins s σ H Q I (k _ _ _ q)⟩
theorem ptImp {X : Cx} {e : PySem.Expr} {t t' : TT} (h : PT X e t) (k : ∀ σ H Q, t' σ H Q → t σ H Q) : PT X e t' := ⟨fun pins s σ H Q I q => h.run pins s σ H Q I (k _ _ _ q)⟩
theorem paImp {X : Cx} {e : List PySem.Expr} {t t' : TA} (h : PA X e t) (k : ∀ σ H Q, t' σ H Q → t σ H Q) : PA X e t' := ⟨fun pos pins s σ H Q I q => h.run pos pins s σ H Q I (k _ _ _ q)⟩
/-! ### what an argument is -/
/-- a thing of P, or an owned one -/
def RA (T : Tb) (P H : Hp) (d : D) (u : V) : Prop := Rep T P d u ∨ ∃ a, u = .ref a ∧ P a = none ∧ RepO T P H a d
def RAs (T : Tb) (P H : Hp) : List D → List V → Prop
  | [], us => us = []
  | x :: xs, us => ∃ u r, us = u :: r ∧ RA T P H x u ∧ RAs T P H xs r
section
variable {T : Tb} {W : WX} {σ : St} {P H P1 H1 : Hp} {r : En}
theorem RS.rd (h : RS T P H σ r) {i : Nat} {d : D} {u : V} (e : r.rd i = some d) (q : σ[i]? = some (some u)) : RA T P H d u := by
  unfold En.rd at e
  cases c : r[i]? with
  | none => rw [c] at e; cases e
  | some x =>
    rw [c] at e
    cases x with
    | no => cases e
    | sh d' =>
      cases e
      obtain ⟨v, e1, e2⟩ := h.sh i d c
      rw [q] at e1; cases e1
      exact .inl e2
    | ow d' =>
      cases e
      obtain ⟨a, e1, n, e2⟩ := h.own i d (.inl c)
      rw [q] at e1; cases e1
      exact .inr ⟨a, rfl, n, e2⟩
    | io d' =>
      cases e
      obtain ⟨a, e1, n, e2⟩ := h.own i d (.inr c)
      rw [q] at e1; cases e1
      exact .inr ⟨a, rfl, n, e2⟩
theorem RB.ext {x : Nat ⊕ D} {u : V} (e : Ext P P1) (h : RB T σ P x u) : RB T σ P1 x u := by
  cases x with
  | inl i => exact h
  | inr d => exact Rep.ext e _ _ h
theorem RBs.ext (e : Ext P P1) : ∀ {xs : List (Nat ⊕ D)} {us : List V}, RBs T σ P xs us → RBs T σ P1 xs us
  | [], _, h => h
  | x :: xs, _, h => by
    obtain ⟨u, t, e1, h1, h2⟩ := h
    exact ⟨u, t, e1, h1.ext e, RBs.ext e h2⟩
/-- borrowed names are read -/
theorem res_ok (rs : RS T P H σ r) : ∀ {xs : List (Nat ⊕ D)} {us : List V} {ds : List D}, RBs T σ P xs us → res r xs = some ds → RAs T P H ds us
  | [], _, _, h, e => by cases e; exact h
  | x :: xs, _, ds, h, e => by
    obtain ⟨u, t, rfl, h1, h2⟩ := h
    cases x with
    | inl i =>
      simp only [res] at e
      cases c : r.rd i with
      | none => rw [c] at e; cases e
      | some d =>
        rw [c] at e
        cases c2 : res r xs with
        | none => rw [c2] at e; cases e
        | some ds' =>
          rw [c2] at e; cases e
          exact ⟨u, t, rfl, rs.rd c h1, res_ok rs h2 c2⟩
    | inr d =>
      simp only [res] at e
      cases c2 : res r xs with
      | none => rw [c2] at e; cases e
      | some ds' =>
        rw [c2] at e; cases e
        exact ⟨u, t, rfl, .inl h1, res_ok rs h2 c2⟩
theorem RA.lst (rs : RS T P H σ r) {l : List D} {u : V} (h : RA T P H (.lst l) u) : ∃ a xs, u = .ref a ∧ H a = some (.lst xs) ∧ Reps T P l xs := by
  rcases h with h | ⟨a, e, n, h⟩
  · simp only [Rep] at h
    obtain ⟨a, xs, e, h1, h2⟩ := h
    exact ⟨a, xs, e, rs.sub _ _ h1, h2⟩
  · obtain ⟨xs, h1, h2⟩ := h
    exact ⟨a, xs, e, h1, h2⟩
theorem RA.tup (rs : RS T P H σ r) {l : List D} {u : V} (h : RA T P H (.tup l) u) : ∃ a xs, u = .ref a ∧ H a = some (.tup xs) ∧ Reps T P l xs := by
  rcases h with h | ⟨a, e, n, h⟩
  · simp only [Rep] at h
    obtain ⟨a, xs, e, h1, h2⟩ := h
    exact ⟨a, xs, e, rs.sub _ _ h1, h2⟩
  · exact False.elim h
theorem RA.int {i : Int} {u : V} (h : RA T P H (.int i) u) : u = .int i := by
  rcases h with h | ⟨a, e, n, h⟩
  · simpa only [Rep] using h
  · exact False.elim h
theorem RA.str {i : Str} {u : V} (h : RA T P H (.str i) u) : u = .str i := by
  rcases h with h | ⟨a, e, n, h⟩
  · simpa only [Rep] using h
  · exact False.elim h
theorem RA.bl {i : Bool} {u : V} (h : RA T P H (.bl i) u) : u = .bl i := by
  rcases h with h | ⟨a, e, n, h⟩
  · simpa only [Rep] using h
  · exact False.elim h
theorem RA.non {u : V} (h : RA T P H .non u) : u = .non := by
  rcases h with h | ⟨a, e, n, h⟩
  · simpa only [Rep] using h
  · exact False.elim h
theorem RA.scr (rs : RS T P H σ r) {l : List Int} {u : V} (h : RA T P H (.scr l) u) : ∃ a, u = .ref a ∧ SqL T.K H a (l.map V.int) := by
  rcases h with h | ⟨a, e, n, h⟩
  · simp only [Rep] at h
    obtain ⟨a, e, h1⟩ := h
    exact ⟨a, e, sqL_ext rs.sub h1⟩
  · exact False.elim h
/-- an argument as a thing of the whole heap -/
theorem RA.rep (rs : RS T P H σ r) {d : D} {u : V} (h : RA T P H d u) : Rep T H d u := by
  rcases h with h | ⟨a, e, n, h⟩
  · exact Rep.ext rs.sub _ _ h
  · subst e; exact h.rep rs.sub rfl
end
end Z
/-! ZD: operators, comparisons, truth by data. -/
namespace Z
open PySem PySem.Spec L2
open PyProof.Rows hiding St
theorem LINE_eq : LINE = sizeLine := by rw [sizeLine_eq]; rfl
theorem bits_le (i : Int) : Builtin.Int.intBits i ≤ bits i := by
  unfold Builtin.Int.intBits bits
  split <;> omega
section
variable {X : Cx} {T : Tb} {W : WX}
theorem op_ints (op : Operator) : OpR X (binaryOp op) (fun x y H Q => ∃ i j k, x = .int i ∧ y = .int j ∧ binI op i j = some k ∧ Q (.int k) H) := by
  intro pins s σ H x y v u Q I rx ry h
  obtain ⟨i, j, k, rfl, rfl, e, q⟩ := h
  have bl : bitsLine = 134217728 := by decide
  cases op with
  | Add => simp only [binI, Option.some.injEq] at e; subst e; exact op_add pins s σ H _ _ v u Q I rx ry ⟨i, j, rfl, rfl, q⟩
  | Sub => simp only [binI, Option.some.injEq] at e; subst e; exact op_sub pins s σ H _ _ v u Q I rx ry ⟨i, j, rfl, rfl, q⟩
  | Mult =>
    simp only [binI] at e
    split at e
    · rename_i h
      cases e
      exact op_mulW pins s σ H _ _ v u Q I rx ry ⟨i, j, rfl, rfl, by unfold CMulW; unfold bits at h; omega, q⟩
    · cases e
  | FloorDiv =>
    simp only [binI] at e
    split at e
    · rename_i h
      cases e
      exact op_fdivW pins s σ H _ _ v u Q I rx ry ⟨i, j, rfl, rfl, ⟨h.1, by have := h.2; unfold bits at this; omega⟩, q⟩
    · cases e
  | Mod =>
    simp only [binI] at e
    split at e
    · rename_i h
      cases e
      exact op_mod pins s σ H _ _ v u Q I rx ry ⟨i, j, rfl, rfl, h, q⟩
    · cases e
  | Pow =>
    simp only [binI] at e
    split at e
    · rename_i h
      cases e
      obtain ⟨t, rfl⟩ := rx
      obtain ⟨t', rfl⟩ := ry
      refine PyProof.Rows.pow_int h.1 ?_ ⟨.int _, H, I.tok _, ⟨_, rfl⟩, q⟩
      have h1 := Nat.le_trans (Nat.mul_le_mul_right j.toNat (bits_le i)) h.2
      have h2 : ((Builtin.Int.intBits i * j.toNat : Nat) : Int) ≤ ((1000000 : Nat) : Int) := Int.ofNat_le.mpr h1
      have h3 : ((j.toNat : Nat) : Int) = j := Int.toNat_of_nonneg h.1
      rw [Int.natCast_mul, h3] at h2
      exact Int.le_trans h2 (by decide)
    · cases e
  | LShift =>
    simp only [binI] at e
    split at e
    · rename_i h
      cases e
      obtain ⟨t, rfl⟩ := rx
      obtain ⟨t', rfl⟩ := ry
      refine PyProof.Rows.lshift_int h.1 ?_ ⟨.int _, H, I.tok _, ⟨_, rfl⟩, q⟩
      have h1 := bits_le i
      have h2 := h.2
      have h3 : ((j.toNat : Nat) : Int) = j := Int.toNat_of_nonneg h.1
      have h4 : ((Builtin.Int.intBits i : Nat) : Int) + j ≤ 1000000 := by omega
      exact Int.le_trans h4 (by decide)
    · cases e
  | RShift =>
    simp only [binI] at e
    split at e
    · rename_i h
      cases e
      exact op_shr pins s σ H _ _ v u Q I rx ry ⟨i, j, rfl, rfl, h, q⟩
    · cases e
  | BitAnd => simp only [binI, Option.some.injEq] at e; subst e; exact op_and pins s σ H _ _ v u Q I rx ry ⟨i, j, rfl, rfl, q⟩
  | BitOr => simp only [binI, Option.some.injEq] at e; subst e; exact op_or pins s σ H _ _ v u Q I rx ry ⟨i, j, rfl, rfl, q⟩
  | BitXor => simp only [binI, Option.some.injEq] at e; subst e; exact op_xor pins s σ H _ _ v u Q I rx ry ⟨i, j, rfl, rfl, q⟩
  | _ => simp [binI] at e
/-- an operation of two arguments, by data -/
def rD2 (T : Tb) (W : WX) (g : D → D → Option Val) : R2 := fun x y H Q => ∃ a b v σ P r, RS T P H σ r ∧ RA T P H a x ∧ RA T P H b y ∧ g a b = some v ∧ Go T W (relV T) σ P H r (.ok v r) Q
def rD1 (T : Tb) (W : WX) (g : D → Option Val) : V → Hp → VK → Prop := fun x H Q => ∃ a v σ P r, RS T P H σ r ∧ RA T P H a x ∧ g a = some v ∧ Go T W (relV T) σ P H r (.ok v r) Q
def rDn (T : Tb) (W : WX) (g : List D → Option Val) : List V → Hp → VK → Prop := fun xs H Q => ∃ as v σ P r, RS T P H σ r ∧ RAs T P H as xs ∧ g as = some v ∧ Go T W (relV T) σ P H r (.ok v r) Q
section
variable {σ : St} {P H : Hp} {r : En} {Q : VK}
theorem Go.here {d : D} {u : V} (rs : RS T P H σ r) (h : Go T W (relV T) σ P H r (.ok (.sh d) r) Q) (q : Rep T P d u) : Q u H := h u P H (.refl rs) q
theorem Go.newL {ds : List D} {xs : List V} {p : Addr} (rs : RS T P H σ r) (h : Go T W (relV T) σ P H r (.ok (.ow (.lst ds)) r) Q) (n : H p = none) (q : Reps T P ds xs) : Q (.ref p) (upd H p (.lst xs)) :=
  h _ P _ (Aft.laidO rs n) ⟨p, rfl, rs.sub.free n, ⟨xs, upd_same, q⟩, n⟩
theorem Go.newT {ds : List D} {xs : List V} {p : Addr} (rs : RS T P H σ r) (h : Go T W (relV T) σ P H r (.ok (.sh (.tup ds)) r) Q) (n : H p = none) (q : Reps T P ds xs) : Q (.ref p) (upd H p (.tup xs)) := by
  refine h _ (upd P p (.tup xs)) _ (Aft.laid rs n) ?_
  show Rep T _ (.tup ds) _
  simp only [Rep]
  exact ⟨p, xs, rfl, upd_same, Reps.ext (upd_ext (rs.sub.free n)) _ _ q⟩
end
theorem op_binD (hK : X.K = T.K) (op : Operator) : OpR X (binaryOp op) (rD2 T W (binD op)) := by
  intro pins s σ0 H x y v u Q I rx ry h
  obtain ⟨a, b, w, σ, P, r, rs, ha, hb, e, q⟩ := h
  cases a with
  | int i =>
    cases b with
    | int j =>
      simp only [binD] at e
      cases e2 : binI op i j with
      | none => rw [e2] at e; cases e
      | some k =>
        rw [e2] at e; cases e
        exact op_ints op pins s σ0 H x y v u Q I rx ry ⟨i, j, k, ha.int, hb.int, e2, q.here rs (by simp only [Rep])⟩
    | _ => simp [binD] at e
  | str i =>
    cases b with
    | str j =>
      cases op with
      | Add =>
        simp only [binD] at e
        split at e
        · rename_i hl
          cases e
          exact op_add_str pins s σ0 H x y v u Q I rx ry ⟨i, j, ha.str, hb.str, by rw [← LINE_eq]; exact hl, q.here rs (by simp only [Rep])⟩
        · cases e
      | _ => simp [binD] at e
    | _ => simp [binD] at e
  | lst l =>
    cases b with
    | lst m =>
      cases op with
      | Add =>
        simp only [binD] at e
        split at e
        · rename_i hl
          cases e
          obtain ⟨p1, xs, e1, h1, q1⟩ := ha.lst rs
          obtain ⟨p2, ys, e2, h2, q2⟩ := hb.lst rs
          exact op_cat pins s σ0 H x y v u Q I rx ry ⟨p1, p2, xs, ys, e1, e2, h1, h2, by rw [← LINE_eq, q1.length, q2.length]; exact hl, fun p n => q.newL rs n (q1.append q2)⟩
        · cases e
      | _ => simp [binD] at e
    | int n =>
      cases op with
      | Mult =>
        simp only [binD] at e
        split at e
        · rename_i hl
          cases e
          obtain ⟨p1, xs, e1, h1, q1⟩ := ha.lst rs
          exact op_rep pins s σ0 H x y v u Q I rx ry ⟨p1, n, xs, e1, hb.int, h1, by have := hl.1; have L : (LINE : Nat) = 16777216 := rfl; omega, by have := hl.1; have L : (LINE : Nat) = 16777216 := rfl; omega, by rw [← LINE_eq, q1.length]; exact hl.2, fun p n' => q.newL rs n' (q1.rep _)⟩
        · cases e
      | _ => simp [binD] at e
    | _ => simp [binD] at e
  | tup l =>
    cases b with
    | tup m =>
      cases op with
      | Add =>
        simp only [binD] at e
        split at e
        · rename_i hl
          cases e
          obtain ⟨p1, xs, e1, h1, q1⟩ := ha.tup rs
          obtain ⟨p2, ys, e2, h2, q2⟩ := hb.tup rs
          have ra : Rep T P (.tup l) x := ha.resolve_right (by rintro ⟨_, _, _, h⟩; exact h)
          have rb : Rep T P (.tup m) y := hb.resolve_right (by rintro ⟨_, _, _, h⟩; exact h)
          refine op_catA pins s σ0 H x y v u Q I rx ry ⟨p1, p2, xs, ys, e1, e2, .inl (.inl h1), .inl (.inl h2), by rw [← LINE_eq, q1.length, q2.length]; exact hl, fun z => ?_, fun _ z => ?_, fun _ _ p n => q.newT rs n (q1.append q2)⟩
          · have : l = [] := by
              have := q1.length
              rw [z] at this
              exact List.length_eq_zero_iff.mp this.symm
            subst this
            rw [e2] at rb
            exact q.here rs rb
          · have : m = [] := by
              have := q2.length
              rw [z] at this
              exact List.length_eq_zero_iff.mp this.symm
            subst this
            rw [e1] at ra
            rw [List.append_nil] at q
            exact q.here rs ra
        · cases e
      | _ => simp [binD] at e
    | _ => simp [binD] at e
  | _ => simp [binD] at e
/-! ### comparisons -/
mutual
theorem dp_of {K : PySem.W.Frag} {H : Hp} (hT : T.K = K) : ∀ (d : D) (u : V), lay d = true → Rep T H d u → Dp K H u (pyT d)
  | .non, u, _, h => by simp only [Rep] at h; subst h; simp only [pyT]; exact .non
  | .bl b, u, _, h => by simp only [Rep] at h; subst h; simp only [pyT]; exact .bl b
  | .int i, u, _, h => by simp only [Rep] at h; subst h; simp only [pyT]; exact .int i
  | .str s, u, _, h => by simp only [Rep] at h; subst h; simp only [pyT]; exact .str s
  | .lst l, u, hl, h => by
    simp only [Rep] at h
    obtain ⟨a, xs, rfl, h1, h2⟩ := h
    simp only [pyT]
    simp only [lay] at hl
    exact .lst (.inl (.inl h1)) (dps_of hT l xs hl h2)
  | .tup l, u, hl, h => by
    simp only [Rep] at h
    obtain ⟨a, xs, rfl, h1, h2⟩ := h
    simp only [pyT]
    simp only [lay] at hl
    exact .tup (.inl (.inl h1)) (dps_of hT l xs hl h2)
  | .dct _ _, _, hl, _ => by simp [lay] at hl
  | .dts _, _, hl, _ => by simp [lay] at hl
  | .fn _, _, hl, _ => by simp [lay] at hl
  | .exn _ _, _, hl, _ => by simp [lay] at hl
  | .scr _, _, hl, _ => by simp [lay] at hl
theorem dps_of {K : PySem.W.Frag} {H : Hp} (hT : T.K = K) : ∀ (ds : List D) (us : List V), lays ds = true → Reps T H ds us → DpAll K H us (pyTs ds)
  | [], us, _, h => by rw [h.of_nil]; simp only [pyTs]; exact .nil
  | d :: ds, us, hl, h => by
    obtain ⟨v, t, rfl, h1, h2⟩ := h.of_cons
    simp only [lays, Bool.and_eq_true] at hl
    simp only [pyTs]
    exact .cons (dp_of hT d v hl.1 h1) (dps_of hT ds t hl.2 h2)
end
mutual
theorem canLay_pyT : ∀ d : D, lay d = true → (pyT d).canLay0 = true
  | .non, _ => by simp [pyT, PyData.canLay0]
  | .bl b, _ => by simp [pyT, PyData.canLay0]
  | .int i, _ => by simp [pyT, PyData.canLay0]
  | .str s, h => by simpa [pyT, PyData.canLay0, lay] using h
  | .lst l, h => by simp only [pyT, PyData.canLay0]; exact canLays_pyT l (by simpa only [lay] using h)
  | .tup l, h => by simp only [pyT, PyData.canLay0]; exact canLays_pyT l (by simpa only [lay] using h)
  | .dct _ _, hl => by simp [lay] at hl
  | .dts _, hl => by simp [lay] at hl
  | .fn _, hl => by simp [lay] at hl
  | .exn _ _, hl => by simp [lay] at hl
  | .scr _, hl => by simp [lay] at hl
theorem canLays_pyT : ∀ ds : List D, lays ds = true → PyData.canLayAll0 (pyTs ds) = true
  | [], _ => by simp [pyTs, PyData.canLayAll0]
  | d :: ds, h => by
    simp only [lays, Bool.and_eq_true] at h
    simp only [pyTs, PyData.canLayAll0, Bool.and_eq_true]
    exact ⟨canLay_pyT d h.1, canLays_pyT ds h.2⟩
end
mutual
theorem depth_pyT : ∀ d : D, (pyT d).depth = dep d
  | .non => by simp [pyT, PyData.depth, dep]
  | .bl b => by simp [pyT, PyData.depth, dep]
  | .int i => by simp [pyT, PyData.depth, dep]
  | .str s => by simp [pyT, PyData.depth, dep]
  | .lst l => by simp only [pyT, PyData.depth, dep]; rw [depths_pyT l]
  | .tup l => by simp only [pyT, PyData.depth, dep]; rw [depths_pyT l]
  | .dct _ _ => by simp [pyT, PyData.depth, dep]
  | .dts _ => by simp [pyT, PyData.depth, dep]
  | .fn _ => by simp [pyT, PyData.depth, dep]
  | .exn _ _ => by simp [pyT, PyData.depth, dep]
  | .scr _ => by simp [pyT, PyData.depth, dep]
theorem depths_pyT : ∀ ds : List D, PyData.depthAll (pyTs ds) = deps ds
  | [] => by simp [pyTs, PyData.depthAll, deps]
  | d :: ds => by simp only [pyTs, PyData.depthAll, deps]; rw [depth_pyT d, depths_pyT ds]
end
theorem shaped_pyT {d : D} (h : okq d = true) : SeqAt.shaped (pyT d) = true := by
  unfold okq at h
  simp only [Bool.and_eq_true, decide_eq_true_eq] at h
  unfold SeqAt.shaped
  rw [canLay_pyT d h.1, depth_pyT d, decide_eq_true h.2]; rfl
mutual
theorem eqv_pyT : ∀ d e : D, lay d = true → lay e = true → PyData.eqv (pyT d) (pyT e) = eqv d e
  | .lst xs, e, h1, h2 => by
    simp only [lay] at h1
    cases e with
    | lst ys => simp only [lay] at h2; simp only [pyT, PyData.eqv, eqv]; exact eqvs_pyT xs ys h1 h2
    | dct _ _ => simp [lay] at h2
    | dts _ => simp [lay] at h2
    | fn _ => simp [lay] at h2
    | exn _ _ => simp [lay] at h2
    | scr _ => simp [lay] at h2
    | _ => simp [pyT, PyData.eqv, eqv]
  | .tup xs, e, h1, h2 => by
    simp only [lay] at h1
    cases e with
    | tup ys => simp only [lay] at h2; simp only [pyT, PyData.eqv, eqv]; exact eqvs_pyT xs ys h1 h2
    | dct _ _ => simp [lay] at h2
    | dts _ => simp [lay] at h2
    | fn _ => simp [lay] at h2
    | exn _ _ => simp [lay] at h2
    | scr _ => simp [lay] at h2
    | _ => simp [pyT, PyData.eqv, eqv]
  | .non, e, _, h2 => by cases e <;> first | (simp [lay] at h2; done) | simp [pyT, PyData.eqv, eqv]
  | .bl b, e, _, h2 => by cases e <;> first | (simp [lay] at h2; done) | simp [pyT, PyData.eqv, eqv]
  | .int b, e, _, h2 => by cases e <;> first | (simp [lay] at h2; done) | simp [pyT, PyData.eqv, eqv]
  | .str b, e, _, h2 => by
    cases e with
    | str c => simp [pyT, PyData.eqv, eqv]
    | _ => first | (simp [lay] at h2; done) | simp [pyT, PyData.eqv, eqv]
  | .dct _ _, _, h1, _ => by simp [lay] at h1
  | .dts _, _, h1, _ => by simp [lay] at h1
  | .fn _, _, h1, _ => by simp [lay] at h1
  | .exn _ _, _, h1, _ => by simp [lay] at h1
  | .scr _, _, h1, _ => by simp [lay] at h1
theorem eqvs_pyT : ∀ ds es : List D, lays ds = true → lays es = true → PyData.eqvAll (pyTs ds) (pyTs es) = eqvs ds es
  | [], [], _, _ => by simp [pyTs, PyData.eqvAll, eqvs]
  | [], _ :: _, _, _ => by simp [pyTs, PyData.eqvAll, eqvs]
  | _ :: _, [], _, _ => by simp [pyTs, PyData.eqvAll, eqvs]
  | d :: ds, e :: es, h1, h2 => by
    simp only [lays, Bool.and_eq_true] at h1 h2
    simp only [pyTs, PyData.eqvAll, eqvs]
    rw [eqv_pyT d e h1.1 h2.1, eqvs_pyT ds es h1.2 h2.2]
end
theorem rep_flatV {H : Hp} {d : D} {u : V} (f : flat d = true) (h : Rep T H d u) : flatV u = true := by
  cases d <;> simp [flat] at f <;> (simp only [Rep] at h; subst h; rfl)
theorem rep_eqV {H : Hp} {d e : D} {u v : V} (f : flat d = true) (g : flat e = true) (h : Rep T H d u) (h' : Rep T H e v) : eqV u v = eqv d e := by
  cases d <;> simp [flat] at f <;> cases e <;> simp [flat] at g <;> (simp only [Rep] at h h'; subst h; subst h'; simp [eqV, eqv])
end
end Z
/-! ZE: comparisons, truth, subscripts, built-in functions and methods, by data. -/
namespace Z
open PySem PySem.Spec L2
open PyProof.Rows hiding St
section
variable {X : Cx} {T : Tb} {W : WX}
theorem all_flatV {H : Hp} : ∀ {ds : List D} {us : List V}, Reps T H ds us → ds.all flat = true → us.all flatV = true
  | [], _, h, _ => by rw [h.of_nil]; rfl
  | d :: ds, _, h, f => by
    obtain ⟨v, t, rfl, h1, h2⟩ := h.of_cons
    simp only [List.all_cons, Bool.and_eq_true] at f ⊢
    exact ⟨rep_flatV f.1 h1, all_flatV h2 f.2⟩
theorem any_eqV {H : Hp} {d : D} {u : V} (fd : flat d = true) (hd : Rep T H d u) : ∀ {ds : List D} {us : List V}, Reps T H ds us → ds.all flat = true → (us.any fun y => eqV y u) = ds.any fun y => eqv y d
  | [], _, h, _ => by rw [h.of_nil]; rfl
  | e :: ds, _, h, f => by
    obtain ⟨v, t, rfl, h1, h2⟩ := h.of_cons
    simp only [List.all_cons, Bool.and_eq_true] at f
    simp only [List.any_cons]
    rw [rep_eqV f.1 fd h1 hd, any_eqV fd hd h2 f.2]
theorem flat_RA {P P' H : Hp} {d : D} {u : V} (f : flat d = true) (h : RA T P H d u) : Rep T P' d u := by
  rcases h with h | ⟨a, e, n, h⟩
  · cases d <;> simp [flat] at f <;> (simp only [Rep] at h ⊢; exact h)
  · cases d <;> simp [flat] at f <;> exact False.elim h
theorem any_pyT (a : D) (ha : lay a = true) : ∀ l : List D, lays l = true → ((pyTs l).any fun z => PyData.eqv z (pyT a)) = l.any fun x => eqv x a
  | [], _ => rfl
  | x :: l, h => by
    simp only [lays, Bool.and_eq_true] at h
    simp only [pyTs, List.any_cons]
    rw [eqv_pyT x a h.1 ha, any_pyT a ha l h.2]
theorem nil_cmp (hu : X.A.units + 65 < cLine) {pins : List (Addr × Obj)} {s : Shared} {σ0 σ : St} {P H : Hp} {r : En} {x y : V} {v u : Value} {Q : V → Hp → Prop} {a b : D} {k : Bool} (I : Inv X pins σ0 H s) (rx : RelV x v) (ry : RelV y u) (rs : RS T P H σ r) (ha : RA T P H a x) (hb : RA T P H b y) (e : nilq a b = some k) :
    (Q (.bl k) H → wpAny (model X.prog X.w) X.A (compareOp .Eq v u) (EP X pins σ0 Q) X.xe s) ∧ (Q (.bl (!k)) H → wpAny (model X.prog X.w) X.A (compareOp .NotEq v u) (EP X pins σ0 Q) X.xe s) := by
  unfold nilq at e
  split at e
  · rename_i d l
    cases e
    obtain ⟨p, xs, rfl, h1, h2⟩ := ha.lst rs
    obtain ⟨q, ys, rfl, h3, h4⟩ := hb.lst rs
    have : ys = [] := List.eq_nil_of_length_eq_zero h4.length
    subst this
    cases rx
    cases ry
    obtain ⟨its, rv, hl, hz⟩ := I.list (.inl (.inl h1))
    obtain ⟨its2, rv2, hl2, hz2⟩ := I.list (.inl (.inl h3))
    have z1 : its.length ≠ 0 := by
      have e1 := h2.length
      have e2 := rv.length
      simp only [List.length_cons] at e1
      omega
    have z2 : its2.length = 0 := by
      have e2 := rv2.length
      simpa using e2.symm
    have hsz : (its.toArray.size != its2.toArray.size) = true := by
      rw [bne_iff_ne, List.size_toArray, List.size_toArray]
      omega
    exact ⟨fun f => SeqAt.eq_list_lengthsAt hl.isList hl2.isList hsz (by omega) ⟨.bl _, H, I, rfl, f⟩, fun f => SeqAt.RcNeAt.lists_lengths hl.isList hl2.isList hsz (by omega) _ _ _ _ ⟨.bl _, H, I, rfl, f⟩⟩
  · cases e
theorem op_cmpD (hK : X.K = T.K) (hu : X.A.units + 65 < cLine) (op : CmpOp) : OpR X (compareOp op) (rD2 T W (fun a b => boolV (cmpD op a b))) := by
  intro pins s σ0 H x y v u Q I rx ry h
  obtain ⟨a, b, w, σ, P, r, rs, ha, hb, e, q⟩ := h
  unfold boolV at e
  dsimp only at e
  cases e2 : cmpD op a b with
  | none => rw [e2] at e; cases e
  | some k =>
    rw [e2] at e
    cases e
    have fin : Q (.bl k) H := q.here rs (by simp only [Rep])
    have ord : ∀ (hop : ∀ a b, cmpD op a b = match a, b with | .int i, .int j => ordI op i j | _, _ => none), ∃ i j, x = .int i ∧ y = .int j ∧ ordI op i j = some k := fun hop => by
      rw [hop] at e2
      cases a with
      | int i =>
        cases b with
        | int j => exact ⟨i, j, ha.int, hb.int, e2⟩
        | _ => cases e2
      | _ => cases e2
    cases op with
    | Eq =>
      simp only [cmpD] at e2
      split at e2
      · rename_i hq
        rw [Bool.and_eq_true] at hq
        cases e2
        have l1 : lay a = true := by have := hq.1; unfold okq at this; rw [Bool.and_eq_true] at this; exact this.1
        have l2 : lay b = true := by have := hq.2; unfold okq at this; rw [Bool.and_eq_true] at this; exact this.1
        refine op_eqD (by omega) pins s σ0 H x y v u Q I rx ry ⟨pyT a, pyT b, dp_of hK.symm a x l1 (ha.rep rs), dp_of hK.symm b y l2 (hb.rep rs), shaped_pyT hq.1, shaped_pyT hq.2, ?_⟩
        rw [eqv_pyT a b l1 l2]
        exact fin
      · exact (nil_cmp hu I rx ry rs ha hb e2).1 fin
    | NotEq =>
      simp only [cmpD] at e2
      split at e2
      · rename_i hq
        rw [Bool.and_eq_true] at hq
        cases e2
        have l1 : lay a = true := by have := hq.1; unfold okq at this; rw [Bool.and_eq_true] at this; exact this.1
        have l2 : lay b = true := by have := hq.2; unfold okq at this; rw [Bool.and_eq_true] at this; exact this.1
        refine op_neD (by omega) pins s σ0 H x y v u Q I rx ry ⟨pyT a, pyT b, dp_of hK.symm a x l1 (ha.rep rs), dp_of hK.symm b y l2 (hb.rep rs), shaped_pyT hq.1, shaped_pyT hq.2, ?_⟩
        rw [eqv_pyT a b l1 l2]
        exact fin
      · cases c : nilq a b with
        | none => rw [c] at e2; cases e2
        | some k' =>
          rw [c] at e2
          cases e2
          exact (nil_cmp hu I rx ry rs ha hb c).2 fin
    | Lt =>
      obtain ⟨i, j, rfl, rfl, z⟩ := ord fun _ _ => rfl
      cases z
      exact op_lt pins s σ0 H _ _ v u Q I rx ry ⟨i, j, rfl, rfl, fin⟩
    | LtE =>
      obtain ⟨i, j, rfl, rfl, z⟩ := ord fun _ _ => rfl
      cases z
      exact op_le pins s σ0 H _ _ v u Q I rx ry ⟨i, j, rfl, rfl, fin⟩
    | Gt =>
      obtain ⟨i, j, rfl, rfl, z⟩ := ord fun _ _ => rfl
      cases z
      exact op_gt pins s σ0 H _ _ v u Q I rx ry ⟨i, j, rfl, rfl, fin⟩
    | GtE =>
      obtain ⟨i, j, rfl, rfl, z⟩ := ord fun _ _ => rfl
      cases z
      exact op_ge pins s σ0 H _ _ v u Q I rx ry ⟨i, j, rfl, rfl, fin⟩
    | Is =>
      simp only [cmpD] at e2
      cases b with
      | non =>
        simp only [isD] at e2
        refine op_isN pins s σ0 H x y v u Q I rx ry ⟨hb.non, ?_⟩
        have : decide (x = V.non) = k := by
          cases e2
          cases a with
          | non => rw [ha.non]; rfl
          | bl _ => rw [ha.bl]; rfl
          | int _ => rw [ha.int]; rfl
          | str _ => rw [ha.str]; rfl
          | lst _ => obtain ⟨p, xs, e, _⟩ := ha.lst rs; rw [e]; rfl
          | tup _ => obtain ⟨p, xs, e, _⟩ := ha.tup rs; rw [e]; rfl
          | dct _ _ =>
            have z := ha.rep rs
            simp only [Rep] at z
            obtain ⟨p, xs, e, _⟩ := z; rw [e]; rfl
          | dts _ =>
            have z := ha.rep rs
            simp only [Rep] at z
            obtain ⟨p, e, _⟩ := z; rw [e]; rfl
          | fn _ =>
            have z := ha.rep rs
            simp only [Rep] at z
            rw [z]; rfl
          | exn _ _ =>
            have z := ha.rep rs
            simp only [Rep] at z
          | scr _ => obtain ⟨p, e, _⟩ := ha.scr rs; rw [e]; rfl
        rw [this]
        exact fin
      | bl c =>
        simp only [isD] at e2
        cases a with
        | bl d =>
          cases e2
          refine op_isBl pins s σ0 H x y v u Q I rx ry ⟨d, c, ha.bl, hb.bl, ?_⟩
          have z : decide (d = c) = (d == c) := (Bool.beq_eq_decide_eq d c).symm
          rw [z]
          exact fin
        | _ => cases e2
      | _ => simp [isD] at e2
    | IsNot =>
      simp only [cmpD] at e2
      cases b with
      | non =>
        simp only [isD] at e2
        refine op_notN pins s σ0 H x y v u Q I rx ry ⟨hb.non, ?_⟩
        have : (!decide (x = V.non)) = k := by
          cases e2
          cases a with
          | non => rw [ha.non]; rfl
          | bl _ => rw [ha.bl]; rfl
          | int _ => rw [ha.int]; rfl
          | str _ => rw [ha.str]; rfl
          | lst _ => obtain ⟨p, xs, e, _⟩ := ha.lst rs; rw [e]; rfl
          | tup _ => obtain ⟨p, xs, e, _⟩ := ha.tup rs; rw [e]; rfl
          | dct _ _ =>
            have z := ha.rep rs
            simp only [Rep] at z
            obtain ⟨p, xs, e, _⟩ := z; rw [e]; rfl
          | dts _ =>
            have z := ha.rep rs
            simp only [Rep] at z
            obtain ⟨p, e, _⟩ := z; rw [e]; rfl
          | fn _ =>
            have z := ha.rep rs
            simp only [Rep] at z
            rw [z]; rfl
          | exn _ _ =>
            have z := ha.rep rs
            simp only [Rep] at z
          | scr _ => obtain ⟨p, e, _⟩ := ha.scr rs; rw [e]; rfl
        rw [this]
        exact fin
      | bl c =>
        simp only [isD] at e2
        cases a with
        | bl d =>
          cases e2
          refine op_notBl pins s σ0 H x y v u Q I rx ry ⟨d, c, ha.bl, hb.bl, ?_⟩
          have z : decide (d = c) = (d == c) := (Bool.beq_eq_decide_eq d c).symm
          rw [z]
          exact fin
        | _ => cases e2
      | _ => simp [isD] at e2
    | In =>
      simp only [cmpD] at e2
      cases b with
      | lst l =>
        simp only [inD] at e2
        split at e2
        · rename_i hf
          rw [Bool.and_eq_true] at hf
          cases e2
          obtain ⟨p, xs, e, h1, h2⟩ := hb.lst rs
          have hx : Rep T P a x := flat_RA hf.1 ha
          refine op_in_seq pins s σ0 H x y v u Q I rx ry ⟨p, xs, e, .inl (.inl (.inl h1)), rep_flatV hf.1 hx, all_flatV h2 hf.2, ?_⟩
          have z : inV x xs = l.any fun x => eqv x a := any_eqV hf.1 hx h2 hf.2
          simp only [Bool.false_eq_true, if_false]
          rw [z]
          exact fin
        · split at e2
          · rename_i hq
            rw [Bool.and_eq_true] at hq
            cases e2
            have l1 : lay a = true := by have := hq.1; unfold okq at this; rw [Bool.and_eq_true] at this; exact this.1
            have l2 : lay (.lst l) = true := by have := hq.2; unfold okq at this; rw [Bool.and_eq_true] at this; exact this.1
            refine op_inD hu pins s σ0 H x y v u Q I rx ry ⟨pyT a, pyTs l, dp_of hK.symm a x l1 (ha.rep rs), dp_of hK.symm (.lst l) y l2 (hb.rep rs), shaped_pyT hq.1, shaped_pyT hq.2, ?_⟩
            rw [any_pyT a l1 l (by simpa only [lay] using l2)]
            exact fin
          · cases e2
      | tup l =>
        simp only [inD] at e2
        split at e2
        · rename_i hf
          rw [Bool.and_eq_true] at hf
          cases e2
          obtain ⟨p, xs, e, h1, h2⟩ := hb.tup rs
          have hx : Rep T P a x := flat_RA hf.1 ha
          refine op_in_seq pins s σ0 H x y v u Q I rx ry ⟨p, xs, e, .inr (.inl (.inl h1)), rep_flatV hf.1 hx, all_flatV h2 hf.2, ?_⟩
          have z : inV x xs = l.any fun x => eqv x a := any_eqV hf.1 hx h2 hf.2
          simp only [Bool.false_eq_true, if_false]
          rw [z]
          exact fin
        · cases e2
      | _ => simp [inD] at e2
    | NotIn =>
      simp only [cmpD] at e2
      cases b with
      | lst l =>
        simp only [inD] at e2
        split at e2
        · rename_i hf
          rw [Bool.and_eq_true] at hf
          cases e2
          obtain ⟨p, xs, e, h1, h2⟩ := hb.lst rs
          have hx : Rep T P a x := flat_RA hf.1 ha
          refine op_notIn_seq pins s σ0 H x y v u Q I rx ry ⟨p, xs, e, .inl (.inl (.inl h1)), rep_flatV hf.1 hx, all_flatV h2 hf.2, ?_⟩
          have z : inV x xs = l.any fun x => eqv x a := any_eqV hf.1 hx h2 hf.2
          simp only [if_true]
          rw [z]
          exact fin
        · split at e2
          · rename_i hq
            rw [Bool.and_eq_true] at hq
            cases e2
            have l1 : lay a = true := by have := hq.1; unfold okq at this; rw [Bool.and_eq_true] at this; exact this.1
            have l2 : lay (.lst l) = true := by have := hq.2; unfold okq at this; rw [Bool.and_eq_true] at this; exact this.1
            refine op_notInD hu pins s σ0 H x y v u Q I rx ry ⟨pyT a, pyTs l, dp_of hK.symm a x l1 (ha.rep rs), dp_of hK.symm (.lst l) y l2 (hb.rep rs), shaped_pyT hq.1, shaped_pyT hq.2, ?_⟩
            rw [any_pyT a l1 l (by simpa only [lay] using l2)]
            exact fin
          · cases e2
      | tup l =>
        simp only [inD] at e2
        split at e2
        · rename_i hf
          rw [Bool.and_eq_true] at hf
          cases e2
          obtain ⟨p, xs, e, h1, h2⟩ := hb.tup rs
          have hx : Rep T P a x := flat_RA hf.1 ha
          refine op_notIn_seq pins s σ0 H x y v u Q I rx ry ⟨p, xs, e, .inr (.inl (.inl h1)), rep_flatV hf.1 hx, all_flatV h2 hf.2, ?_⟩
          have z : inV x xs = l.any fun x => eqv x a := any_eqV hf.1 hx h2 hf.2
          simp only [if_true]
          rw [z]
          exact fin
        · cases e2
      | _ => simp [inD] at e2
/-! ### truth -/
theorem reps_isEmpty {H : Hp} {ds : List D} {us : List V} (h : Reps T H ds us) : us.isEmpty = ds.isEmpty := by
  have e := h.length
  cases ds with
  | nil => rw [h.of_nil]; rfl
  | cons d ds =>
    cases us with
    | nil => simp at e
    | cons _ _ => rfl
theorem truV_of {σ : St} {P H : Hp} {r : En} (hK : X.K = T.K) (rs : RS T P H σ r) {d : D} {u : V} {k : Bool} (h : RA T P H d u) (e : tru d = some k) : TruV X.K u H k := by
  cases d with
  | non => rw [h.non]; cases e; exact rfl
  | bl b => rw [h.bl]; cases e; exact rfl
  | int i => rw [h.int]; cases e; exact rfl
  | str s =>
    rw [h.str]
    simp only [tru] at e
    split at e
    · rename_i hl
      cases e
      refine ⟨by rw [← LINE_eq]; exact hl, ?_⟩
      show (s.length != 0) = ((s.length : Int) != 0)
      by_cases z : s.length = 0
      · rw [z]; rfl
      · have z1 : (s.length != 0) = true := by simpa using z
        have z2 : ((s.length : Int) != 0) = true := by simp; omega
        rw [z1, z2]
    · cases e
  | lst l =>
    obtain ⟨p, xs, e1, h1, h2⟩ := h.lst rs
    rw [e1]
    cases e
    exact .inl ⟨xs, .inl (.inl h1), by rw [reps_isEmpty h2]⟩
  | tup l =>
    obtain ⟨p, xs, e1, h1, h2⟩ := h.tup rs
    rw [e1]
    cases e
    exact .inr (.inl ⟨xs, .inl (.inl h1), by rw [reps_isEmpty h2]⟩)
  | dct ks vs =>
    have z := h.rep rs
    simp only [Rep] at z
    obtain ⟨p, kvs, e1, h1, h2, h3⟩ := z
    rw [e1]
    cases e
    refine .inr (.inr ⟨kvs, h1, ?_⟩)
    rw [← h2]
    cases kvs <;> rfl
  | dts _ => cases e
  | fn _ => cases e
  | exn _ _ => cases e
  | scr _ => cases e
end
end Z
/-! ZF: subscripts, slices, built-in functions and methods, by data. -/
namespace Z
open PySem PySem.Spec L2
open PyProof.Rows hiding St
section
variable {X : Cx} {T : Tb} {W : WX}
theorem ixN_eq : Z.ixN = L2.ixN := rfl
theorem atL_rep {H : Hp} {ds : List D} {us : List V} {k : Int} {d : D} (h : Reps T H ds us) (e : atL ds k = some d) : ∃ u, atI us k = some u ∧ Rep T H d u := by
  unfold atL at e
  unfold atI
  rw [h.length, ← ixN_eq]
  cases c : Z.ixN ds.length k with
  | none => rw [c] at e; cases e
  | some j =>
    rw [c] at e
    obtain ⟨u, e1, q⟩ := h.get (show ds[j]? = some d from e)
    exact ⟨u, e1, q⟩
theorem ix_D (hK : X.K = T.K) : IxR X (rD2 T W (fun u v => (idxD u v).map .sh)) := by
  intro value slice pins s σ0 H x y v u Q I rx ry h hs
  obtain ⟨a, b, w, σ, P, r, rs, ha, hb, e, q⟩ := h
  dsimp only at e
  cases b with
  | int k =>
    cases a with
    | lst l =>
      simp only [idxD] at e
      cases c : atL l k with
      | none => rw [c] at e; cases e
      | some d =>
        rw [c] at e; cases e
        obtain ⟨p, xs, e1, h1, h2⟩ := ha.lst rs
        obtain ⟨z, e2, q2⟩ := atL_rep h2 c
        exact ix_list value slice pins s σ0 H x y v u Q I rx ry ⟨p, xs, k, z, e1, hb.int, .inl (.inl h1), e2, q.here rs q2⟩ hs
    | tup l =>
      simp only [idxD] at e
      cases c : atL l k with
      | none => rw [c] at e; cases e
      | some d =>
        rw [c] at e; cases e
        obtain ⟨p, xs, e1, h1, h2⟩ := ha.tup rs
        obtain ⟨z, e2, q2⟩ := atL_rep h2 c
        exact ix_tup value slice pins s σ0 H x y v u Q I rx ry ⟨p, xs, k, z, e1, hb.int, .inl (.inl h1), e2, q.here rs q2⟩ hs
    | scr l =>
      simp only [idxD] at e
      cases c : (Z.ixN l.length k).bind fun j => l[j]? with
      | none => rw [c] at e; cases e
      | some i =>
        rw [c] at e; cases e
        obtain ⟨p, e1, h1⟩ := ha.scr rs
        refine ix_list value slice pins s σ0 H x y v u Q I rx ry ⟨p, _, k, .int i, e1, hb.int, by rw [hK]; exact h1, ?_, q.here rs (by simp only [Rep])⟩ hs
        unfold atI
        rw [List.length_map, ← ixN_eq]
        cases c2 : Z.ixN l.length k with
        | none => rw [c2] at c; cases c
        | some j =>
          rw [c2] at c
          have c' : l[j]? = some i := c
          show (l.map V.int)[j]? = _
          rw [List.getElem?_map, c']; rfl
    | _ => simp [idxD] at e
  | _ => simp [idxD] at e
theorem cut_eq {A : Type} (l : List A) (lo hi : Option Int) : cut l lo hi = (l.drop (HT.sIx l.length 0 lo)).take (HT.sIx l.length l.length hi - HT.sIx l.length 0 lo) := by
  unfold cut
  have z : ∀ n d o, Z.sIx n d o = HT.sIx n d o := fun n d o => by cases o <;> rfl
  rw [z, z]
theorem cut_rep {H : Hp} {ds : List D} {us : List V} (lo hi : Option Int) (h : Reps T H ds us) : Reps T H (cut ds lo hi) (cutV us lo hi) := by
  rw [cut_eq]
  unfold cutV
  rw [h.length]
  exact (h.drop _).take _
def rSl (T : Tb) (W : WX) : V → Option Int → Option Int → Hp → VK → Prop := fun x lo hi H Q => ∃ a b c v σ P r, RS T P H σ r ∧ RA T P H a x ∧ part? b = some lo ∧ part? c = some hi ∧ slcD a b c = some v ∧ Go T W (relV T) σ P H r (.ok v r) Q
theorem sl_D (hK : X.K = T.K) : SlR X (rSl T W) := by
  intro pins s σ0 H x v vl vu lo hi sl Q I rx hs pl pu h
  obtain ⟨a, b, c, w, σ, P, r, rs, ha, hb, hc, e, q⟩ := h
  unfold slcD at e
  rw [hb, hc] at e
  cases a with
  | lst l =>
    cases e
    obtain ⟨p, xs, e1, h1, h2⟩ := ha.lst rs
    exact sl_list pins s σ0 H x v vl vu lo hi sl Q I rx hs pl pu ⟨p, xs, e1, .inl (.inl h1), fun p' n => q.newL rs n (cut_rep lo hi h2)⟩
  | scr l =>
    cases e
    obtain ⟨p, e1, h1⟩ := ha.scr rs
    refine sl_list pins s σ0 H x v vl vu lo hi sl Q I rx hs pl pu ⟨p, _, e1, by rw [hK]; exact h1, fun p' n => q.newL rs n ?_⟩
    have z : cutV (l.map V.int) lo hi = (cut l lo hi).map V.int := by
      rw [cut_eq]
      unfold cutV
      rw [List.length_map, List.map_take, List.map_drop]
    rw [z]
    exact Reps.of_ints T P _
  | _ => cases e
/-! ### built-in functions -/
theorem ra1 {P H : Hp} {d : D} {ds : List D} {us : List V} (h : RAs T P H (d :: ds) us) : ∃ u t, us = u :: t ∧ RA T P H d u ∧ RAs T P H ds t := h
theorem ra0 {P H : Hp} {us : List V} (h : RAs T P H [] us) : us = [] := h
theorem lenV_of {σ : St} {P H : Hp} {r : En} (hK : X.K = T.K) (rs : RS T P H σ r) {d : D} {u : V} {n : Nat} (h : RA T P H d u) (hd : ∀ ks vs, d ≠ .dct ks vs) (e : lenD d = some n) : LenV X.K u H n := by
  cases d with
  | lst l =>
    obtain ⟨p, xs, e1, h1, h2⟩ := h.lst rs
    cases e; rw [e1, ← h2.length]
    exact .inl ⟨xs, .inl (.inl h1), rfl⟩
  | tup l =>
    obtain ⟨p, xs, e1, h1, h2⟩ := h.tup rs
    cases e; rw [e1, ← h2.length]
    exact .inr ⟨xs, .inl (.inl h1), rfl⟩
  | scr l =>
    obtain ⟨p, e1, h1⟩ := h.scr rs
    cases e; rw [e1]
    exact .inl ⟨_, by rw [hK]; exact h1, by rw [List.length_map]⟩
  | str s =>
    rw [h.str]
    simp only [lenD] at e
    split at e
    · rename_i hl
      cases e
      exact ⟨by rw [← LINE_eq]; exact hl, rfl⟩
    · cases e
  | dct ks vs => exact absurd rfl (hd ks vs)
  | _ => cases e
theorem bi_len (hK : X.K = T.K) : CallR X (.builtin "len") (rDn T W (biD .len)) := by
  intro pins s σ0 H xs us Q I r0 h
  obtain ⟨as, w, σ, P, r, rs, ha, e, q⟩ := h
  replace e : lenF as = some w := e
  unfold lenF at e
  split at e
  · rename_i d
    obtain ⟨u, t, rfl, h1, h2⟩ := ra1 ha
    obtain rfl := ra0 h2
    cases c : lenD d with
    | none => rw [c] at e; cases e
    | some n =>
      rw [c] at e; cases e
      have fin : Q (.int (n : Nat)) H := q.here rs (by simp only [Rep])
      by_cases hd : ∃ ks vs, d = .dct ks vs
      · obtain ⟨ks, vs, rfl⟩ := hd
        have z := h1.rep rs
        simp only [Rep] at z
        obtain ⟨p, kvs, rfl, z1, z2, z3⟩ := z
        refine call_lenD pins s σ0 H _ us Q I r0 ⟨p, kvs, rfl, z1, ?_⟩
        cases c
        rw [← z2, List.length_map] at fin
        exact fin
      · exact call_len pins s σ0 H _ us Q I r0 ⟨u, n, rfl, lenV_of hK rs h1 (fun ks vs e => hd ⟨ks, vs, e⟩) c, fin⟩
  · cases e
theorem ints_rep {σ : St} {P H : Hp} {r : En} (hK : X.K = T.K) (rs : RS T P H σ r) {l : List D} {ns : List Int} {u : V} (h : RA T P H (.lst l) u) (e : Z.intsD l = some ns) : ∃ p, u = .ref p ∧ SqL X.K H p (ns.map V.int) := by
  obtain ⟨p, xs, e1, h1, h2⟩ := h.lst rs
  exact ⟨p, e1, .inl (.inl (by rw [← h2.toIs e]; exact h1))⟩
theorem bi_sum (hK : X.K = T.K) (hc : X.calm = true) : CallR X (.builtin "sum") (rDn T W (biD .sum)) := by
  intro pins s σ0 H xs us Q I r0 h
  obtain ⟨as, w, σ, P, r, rs, ha, e, q⟩ := h
  replace e : sumF as = some w := e
  unfold sumF at e
  split at e
  · rename_i l
    obtain ⟨u, t, rfl, h1, h2⟩ := ra1 ha
    obtain rfl := ra0 h2
    cases c : Z.intsD l with
    | none => rw [c] at e; cases e
    | some ns =>
      rw [c] at e; cases e
      obtain ⟨p, rfl, z⟩ := ints_rep hK rs h1 c
      exact cr_sum hc pins s σ0 H _ us Q I r0 ⟨p, ns, rfl, z, q.here rs (by simp only [Rep])⟩
  · cases e
theorem foldl_min : ∀ (l : List Int) (a : Int), (l.foldl min a = a ∨ l.foldl min a ∈ l) ∧ l.foldl min a ≤ a ∧ ∀ y ∈ l, l.foldl min a ≤ y
  | [], a => ⟨.inl rfl, Int.le_refl _, fun _ h => by cases h⟩
  | b :: l, a => by
    obtain ⟨h1, h2, h3⟩ := foldl_min l (min a b)
    simp only [List.foldl_cons]
    refine ⟨?_, by omega, fun y hy => ?_⟩
    · rcases h1 with h1 | h1
      · rw [h1]
        by_cases z : a ≤ b
        · exact .inl (by omega)
        · exact .inr (by rw [show min a b = b by omega]; exact List.mem_cons_self)
      · exact .inr (List.mem_cons_of_mem _ h1)
    · rcases List.mem_cons.mp hy with rfl | hy
      · omega
      · exact h3 y hy
theorem foldl_max : ∀ (l : List Int) (a : Int), (l.foldl max a = a ∨ l.foldl max a ∈ l) ∧ a ≤ l.foldl max a ∧ ∀ y ∈ l, y ≤ l.foldl max a
  | [], a => ⟨.inl rfl, Int.le_refl _, fun _ h => by cases h⟩
  | b :: l, a => by
    obtain ⟨h1, h2, h3⟩ := foldl_max l (max a b)
    simp only [List.foldl_cons]
    refine ⟨?_, by omega, fun y hy => ?_⟩
    · rcases h1 with h1 | h1
      · rw [h1]
        by_cases z : b ≤ a
        · exact .inl (by omega)
        · exact .inr (by rw [show max a b = b by omega]; exact List.mem_cons_self)
      · exact .inr (List.mem_cons_of_mem _ h1)
    · rcases List.mem_cons.mp hy with rfl | hy
      · omega
      · exact h3 y hy
theorem minI_spec {ns : List Int} {m : Int} (h : minI ns = some m) : m ∈ ns ∧ ∀ y ∈ ns, m ≤ y := by
  cases ns with
  | nil => cases h
  | cons a l =>
    cases h
    obtain ⟨h1, h2, h3⟩ := foldl_min l a
    refine ⟨?_, fun y hy => ?_⟩
    · rcases h1 with h1 | h1
      · rw [h1]; exact List.mem_cons_self
      · exact List.mem_cons_of_mem _ h1
    · rcases List.mem_cons.mp hy with rfl | hy
      · exact h2
      · exact h3 y hy
theorem maxI_spec {ns : List Int} {m : Int} (h : maxI ns = some m) : m ∈ ns ∧ ∀ y ∈ ns, y ≤ m := by
  cases ns with
  | nil => cases h
  | cons a l =>
    cases h
    obtain ⟨h1, h2, h3⟩ := foldl_max l a
    refine ⟨?_, fun y hy => ?_⟩
    · rcases h1 with h1 | h1
      · rw [h1]; exact List.mem_cons_self
      · exact List.mem_cons_of_mem _ h1
    · rcases List.mem_cons.mp hy with rfl | hy
      · exact h2
      · exact h3 y hy
theorem bi_min (hK : X.K = T.K) (hc : X.calm = true) : CallR X (.builtin "min") (rDn T W (biD .min)) := by
  intro pins s σ0 H xs us Q I r0 h
  obtain ⟨as, w, σ, P, r, rs, ha, e, q⟩ := h
  replace e : minF as = some w := e
  unfold minF at e
  split at e
  · rename_i l
    obtain ⟨u, t, rfl, h1, h2⟩ := ra1 ha
    obtain rfl := ra0 h2
    cases c : Z.intsD l with
    | none => rw [c] at e; cases e
    | some ns =>
      rw [c] at e
      obtain ⟨p, rfl, z⟩ := ints_rep hK rs h1 c
      simp only [Option.bind_some] at e
      cases c2 : minI ns with
      | none => rw [c2] at e; cases e
      | some m =>
        rw [c2] at e; cases e
        obtain ⟨m1, m2⟩ := minI_spec c2
        refine cr_min hc pins s σ0 H _ us Q I r0 ⟨p, ns, rfl, z, List.length_pos_of_mem m1, fun m' k1 k2 => ?_⟩
        have z1 := k2 m m1
        have z2 := m2 m' k1
        rw [show m' = m by omega]
        exact q.here rs (by simp only [Rep])
  · rename_i i j
    obtain ⟨u, t, rfl, h1, h2⟩ := ra1 ha
    obtain ⟨u', t', rfl, h3, h4⟩ := ra1 h2
    obtain rfl := ra0 h4
    cases e
    exact call_min2 hc pins s σ0 H _ us Q I r0 ⟨i, j, by rw [h1.int, h3.int], q.here rs (by simp only [Rep])⟩
  · cases e
theorem bi_max (hK : X.K = T.K) (hc : X.calm = true) : CallR X (.builtin "max") (rDn T W (biD .max)) := by
  intro pins s σ0 H xs us Q I r0 h
  obtain ⟨as, w, σ, P, r, rs, ha, e, q⟩ := h
  replace e : maxF as = some w := e
  unfold maxF at e
  split at e
  · rename_i l
    obtain ⟨u, t, rfl, h1, h2⟩ := ra1 ha
    obtain rfl := ra0 h2
    cases c : Z.intsD l with
    | none => rw [c] at e; cases e
    | some ns =>
      rw [c] at e
      obtain ⟨p, rfl, z⟩ := ints_rep hK rs h1 c
      simp only [Option.bind_some] at e
      cases c2 : maxI ns with
      | none => rw [c2] at e; cases e
      | some m =>
        rw [c2] at e; cases e
        obtain ⟨m1, m2⟩ := maxI_spec c2
        refine cr_max hc pins s σ0 H _ us Q I r0 ⟨p, ns, rfl, z, List.length_pos_of_mem m1, fun m' k1 k2 => ?_⟩
        have z1 := k2 m m1
        have z2 := m2 m' k1
        rw [show m' = m by omega]
        exact q.here rs (by simp only [Rep])
  · rename_i i j
    obtain ⟨u, t, rfl, h1, h2⟩ := ra1 ha
    obtain ⟨u', t', rfl, h3, h4⟩ := ra1 h2
    obtain rfl := ra0 h4
    cases e
    exact call_max2 hc pins s σ0 H _ us Q I r0 ⟨i, j, by rw [h1.int, h3.int], q.here rs (by simp only [Rep])⟩
  · cases e
theorem bi_int : CallR X (.type "int") (rDn T W (biD .int)) := by
  intro pins s σ0 H xs us Q I r0 h
  obtain ⟨as, w, σ, P, r, rs, ha, e, q⟩ := h
  replace e : intF as = some w := e
  unfold intF at e
  split at e
  · rename_i i
    obtain ⟨u, t, rfl, h1, h2⟩ := ra1 ha
    obtain rfl := ra0 h2
    cases e
    exact call_int1 pins s σ0 H _ us Q I r0 (.inl ⟨i, by rw [h1.int], q.here rs (by simp only [Rep])⟩)
  · rename_i i
    obtain ⟨u, t, rfl, h1, h2⟩ := ra1 ha
    obtain rfl := ra0 h2
    cases e
    exact call_int1 pins s σ0 H _ us Q I r0 (.inr ⟨i, by rw [h1.bl], q.here rs (by simp only [Rep])⟩)
  · cases e
theorem bi_list (hK : X.K = T.K) : CallR X (.type "list") (rDn T W (biD .list)) := by
  intro pins s σ0 H xs us Q I r0 h
  obtain ⟨as, w, σ, P, r, rs, ha, e, q⟩ := h
  replace e : listF as = some w := e
  unfold listF at e
  split at e
  · rename_i d
    obtain ⟨u, t, rfl, h1, h2⟩ := ra1 ha
    obtain rfl := ra0 h2
    cases d with
    | lst l =>
      simp only [seqD, Option.map_some] at e
      cases e
      obtain ⟨p, xs, rfl, z1, z2⟩ := h1.lst rs
      exact call_list_of pins s σ0 H _ us Q I r0 ⟨p, xs, rfl, .inl (.inl (.inl z1)), fun l n => q.newL rs n z2⟩
    | tup l =>
      simp only [seqD, Option.map_some] at e
      cases e
      obtain ⟨p, xs, rfl, z1, z2⟩ := h1.tup rs
      exact call_list_of pins s σ0 H _ us Q I r0 ⟨p, xs, rfl, .inr (.inl (.inl z1)), fun l n => q.newL rs n z2⟩
    | _ => cases e
  · cases e
theorem bi_tuple (hK : X.K = T.K) : CallR X (.type "tuple") (rDn T W (biD .tuple)) := by
  intro pins s σ0 H xs us Q I r0 h
  obtain ⟨as, w, σ, P, r, rs, ha, e, q⟩ := h
  replace e : tupleF as = some w := e
  unfold tupleF at e
  split at e
  · rename_i l
    obtain ⟨u, t, rfl, h1, h2⟩ := ra1 ha
    obtain rfl := ra0 h2
    cases e
    obtain ⟨p, xs, rfl, z1, z2⟩ := h1.lst rs
    exact call_tuple_of pins s σ0 H _ us Q I r0 ⟨p, xs, rfl, .inl ⟨.inl (.inl z1), fun l n => q.newT rs n z2⟩⟩
  · cases e
theorem sortI_uniq {ns ms : List Int} (p : ms.Perm ns) (s : ms.Pairwise (· ≤ ·)) : ms = sortI ns := by
  have h1 : (sortI ns).Perm ns := List.mergeSort_perm ns _
  have h2 : (sortI ns).Pairwise (fun a b => decide (a ≤ b) = true) := List.pairwise_mergeSort (fun a b c h h' => by simp only [decide_eq_true_eq] at *; omega) (fun a b => by simp only [Bool.or_eq_true, decide_eq_true_eq]; omega) ns
  have h3 : (sortI ns).Pairwise (· ≤ ·) := h2.imp fun h => of_decide_eq_true h
  exact (p.trans h1.symm).eq_of_pairwise (fun a b _ _ h h' => by omega) s h3
theorem lays_mem : ∀ {l : List D}, lays l = true → ∀ x ∈ l, lay x = true
  | _ :: _, h, y, hy => by
    simp only [lays, Bool.and_eq_true] at h
    rcases List.mem_cons.mp hy with rfl | hy
    · exact h.1
    · exact lays_mem h.2 y hy
theorem dep_mem : ∀ (l : List D), ∀ b ∈ l, dep b ≤ deps l
  | x :: l, b, hb => by
    simp only [deps]
    rcases List.mem_cons.mp hb with rfl | hb
    · omega
    · have := dep_mem l b hb
      omega
def RvD (T : Tb) (P : Hp) (v : Value) (d : D) : Prop := ∃ x, RelV x v ∧ Rep T P d x
theorem each_rv {P : Hp} : ∀ {ds : List D} {xs : List V} {us : List Value}, Reps T P ds xs → Vals xs us → PySem.W.EachIs (RvD T P) us ds
  | [], xs, us, h, r => by
    obtain rfl := h.of_nil
    cases r
    exact .nil
  | d :: ds, xs, us, h, r => by
    obtain ⟨v, t, rfl, h1, h2⟩ := h.of_cons
    cases r with
    | cons r1 r2 => exact .cons ⟨v, r1, h1⟩ (each_rv h2 r2)
theorem each_vals {P : Hp} : ∀ {ds : List D} {us : List Value}, PySem.W.EachIs (RvD T P) us ds → ∃ ys, Vals ys us ∧ Reps T P ds ys
  | _, _, .nil => ⟨[], .nil, .nil⟩
  | _, _, .cons ⟨x, r, h⟩ t => by
    obtain ⟨ys, r2, h2⟩ := each_vals t
    exact ⟨x :: ys, .cons r r2, .cons h h2⟩
theorem each_reads {P : Hp} (hK : T.K = X.K) {pins : List (Addr × Obj)} {s : Shared} {σ0 σ : St} {H : Hp} {r : En} (I : Inv X pins σ0 H s) (rs : RS T P H σ r) : ∀ {ds : List D} {us : List Value}, lays ds = true → PySem.W.EachIs (RvD T P) us ds → PySem.W.EachIs (fun v d => ∃ as, Reads s.heap v (pyT d) as) us ds
  | _, _, _, .nil => .nil
  | d :: ds, _, hl, .cons ⟨x, rr, h⟩ t => by
    simp only [lays, Bool.and_eq_true] at hl
    have z : Rep T H d x := Rep.ext rs.sub d x h
    obtain ⟨as, q⟩ := Dp.reads I _ _ _ (dp_of hK d x hl.1 z) rr
    exact .cons ⟨as, q⟩ (each_reads hK I rs hl.2 t)
theorem bi_sorted (hK : X.K = T.K) (hu : X.A.units + 200 < cLine) : CallR X (.builtin "sorted") (rDn T W (biD .sorted)) := by
  intro pins s σ0 H xs us Q I r0 h
  obtain ⟨as, w, σ, P, r, rs, ha, e, q⟩ := h
  replace e : sortF as = some w := e
  unfold sortF at e
  split at e
  · rename_i l
    obtain ⟨u, t, rfl, h1, h2⟩ := ra1 ha
    obtain rfl := ra0 h2
    cases c : Z.intsD l with
    | some ns =>
      rw [c] at e
      dsimp only at e
      split at e
      · rename_i hl
        cases e
        obtain ⟨p, rfl, z⟩ := ints_rep hK rs h1 c
        refine cr_sorted pins s σ0 H _ us Q I r0 ⟨p, ns, rfl, z, hl, fun ns' p' h3 h4 n => ?_⟩
        rw [sortI_uniq h3 h4]
        exact q.newL rs n (Reps.of_ints T P _)
      · cases e
    | none =>
      rw [c] at e
      dsimp only at e
      split at e
      · rename_i hs
        cases e
        unfold srtOk at hs
        rw [Bool.and_eq_true, Bool.and_eq_true] at hs
        obtain ⟨⟨hq, hal⟩, hk⟩ := hs
        have l2 : lay (.lst l) = true := by have := hq; unfold okq at this; rw [Bool.and_eq_true] at this; exact this.1
        have ld : dep (.lst l) ≤ 64 := by have := hq; unfold okq at this; rw [Bool.and_eq_true, decide_eq_true_eq] at this; exact this.2
        have ll : lays l = true := by simpa only [lay] using l2
        obtain ⟨p, xs, rfl, z1, z2⟩ := h1.lst rs
        obtain ⟨its, rv, hl, hz⟩ := I.list (.inl (.inl z1))
        rw [Vals.ref1 r0]
        have e1 := each_rv z2 rv
        have e2 := each_reads hK.symm I rs ll e1
        refine PySem.W.sorted_data hl.isList e1 e2 ?_ ?_ (by rw [← e1.length]; rw [← rv.length]; exact hz) (fun b hb => ?_) fun out ho eo => ?_
        · intro d hd d' hd'
          obtain ⟨x, hx, rfl⟩ := List.mem_map.mp hd
          obtain ⟨y, hy, rfl⟩ := List.mem_map.mp hd'
          exact List.all_eq_true.mp (List.all_eq_true.mp hal x hx) y hy
        · rcases (Bool.or_eq_true _ _).mp hk with hk | hk
          · refine .inl fun d hd => ?_
            obtain ⟨x, hx, rfl⟩ := List.mem_map.mp hd
            have := List.all_eq_true.mp hk x hx
            cases x with
            | tup t =>
              cases t with
              | nil => cases this
              | cons a t => exact ⟨pyT a, pyTs t, by simp only [pyT, pyTs]⟩
            | _ => cases this
          · refine .inr fun d hd => ?_
            obtain ⟨x, hx, rfl⟩ := List.mem_map.mp hd
            have := List.all_eq_true.mp hk x hx
            have lx : lay x = true := lays_mem ll x hx
            cases x <;> simp [othr, lay, pyT] at this lx ⊢
        · have := dep_mem l b hb
          rw [depth_pyT]
          simp only [dep] at ld
          omega
        · obtain ⟨ys, vy, ry⟩ := each_vals eo
          obtain ⟨ep, he'⟩ := PyProof.Rows.sortedAll_at s.heap its out.toArray
          have hlen : ys.length ≤ sizeLine := by
            rw [vy.length, ho, ← e1.length, ← rv.length]
            exact hz
          exact ⟨.ref _, upd H (s.heap.objs.size + 1) (.lst ys), I.laid (t' := s.toks) (fun _ _ => PyProof.Rows.sortedAll_old) (Nat.le_succ _) ⟨hlen, out, ep, vy, he'⟩, rfl, q.newL rs (I.hok.fresh (Nat.le_succ _)) ry⟩
      · cases e
  · cases e
theorem bi_repr (hK : X.K = T.K) (hg : X.A.guards = some []) (hu : X.A.units + 200 < cLine) : CallR X (.builtin "repr") (rDn T W (biD .repr)) := by
  intro pins s σ0 H xs us Q I r0 h
  obtain ⟨as, w, σ, P, r, rs, ha, e, q⟩ := h
  replace e : reprF as = some w := e
  unfold reprF at e
  split at e
  · rename_i d
    obtain ⟨u, t, rfl, h1, h2⟩ := ra1 ha
    obtain rfl := ra0 h2
    unfold reprD at e
    split at e
    rotate_left
    · cases e
    · rename_i hd
      simp only [Bool.and_eq_true, decide_eq_true_eq] at hd
      obtain ⟨⟨hq, hs⟩, hz⟩ := hd
      cases e
      have hz' : (pyT d).shown.length ≤ sizeLine := by rw [← LINE_eq]; exact hz
      have hl : lay d = true := by unfold okq at hq; rw [Bool.and_eq_true] at hq; exact hq.1
      have hdp : dep d ≤ 64 := by unfold okq at hq; rw [Bool.and_eq_true, decide_eq_true_eq] at hq; exact hq.2
      have fin : Q (.str (pyT d).shown) H := q.here rs (by simp only [Rep])
      obtain ⟨uv, rfl, rv⟩ := vals1 r0
      cases d with
      | non =>
        rw [h1.non] at rv
        cases rv
        simp only [pyT, PyData.shown] at fin
        exact PySem.P.repr_of_none ⟨.str _, H, I.tok _, ⟨_, rfl⟩, fin⟩
      | bl b =>
        rw [h1.bl] at rv
        cases rv
        simp only [pyT, PyData.shown] at fin
        exact PySem.P.repr_of_bool ⟨.str _, H, I.tok _, ⟨_, rfl⟩, fin⟩
      | int i =>
        rw [h1.int] at rv
        obtain ⟨t, rfl⟩ := rv
        simp only [pyT, PyData.shown] at fin
        simp only [pyT, PyData.showable, decide_eq_true_eq] at hs
        exact PySem.P.repr_of_int hs ⟨.str _, H, I.tok _, ⟨_, rfl⟩, fin⟩
      | str x =>
        rw [h1.str] at rv
        obtain ⟨t, rfl⟩ := rv
        simp only [pyT, PyData.shown] at fin hz'
        exact PySem.P.repr_of_str ⟨.str _, H, I.tok _, ⟨_, rfl⟩, fin⟩ hz'
      | lst l =>
        have hdp' : Dp X.K H u (pyT (.lst l)) := dp_of hK.symm _ _ hl (h1.rep rs)
        obtain ⟨p, xs, rfl, _⟩ := h1.lst rs
        cases rv
        obtain ⟨as, rd⟩ := Dp.reads I _ _ _ hdp' rfl
        refine PySem.repr_of_reads' rd hs (PyData.noDict_hsm (PyData.hasDict_of_canLay _ (canLay_pyT _ hl))) hg (by rw [depth_pyT]; omega) (fun _ _ e => e) (fun h' t tk hk => ⟨.str _, H, I.kept hk, ⟨_, rfl⟩, fin⟩) hz'
      | tup l =>
        have hdp' : Dp X.K H u (pyT (.tup l)) := dp_of hK.symm _ _ hl (h1.rep rs)
        obtain ⟨p, xs, rfl, _⟩ := h1.tup rs
        cases rv
        obtain ⟨as, rd⟩ := Dp.reads I _ _ _ hdp' rfl
        refine PySem.repr_of_reads' rd hs (PyData.noDict_hsm (PyData.hasDict_of_canLay _ (canLay_pyT _ hl))) hg (by rw [depth_pyT]; omega) (fun _ _ e => e) (fun h' t tk hk => ⟨.str _, H, I.kept hk, ⟨_, rfl⟩, fin⟩) hz'
      | _ => simp [lay] at hl
  · cases e
/-! ### isinstance -/
def tyName : Ty → String
  | .int => "int"
  | .bool => "bool"
  | .str => "str"
  | .list => "list"
  | .tuple => "tuple"
  | .dict => "dict"
  | .cls _ => ""
theorem isi_D (hK : X.K = T.K) (t : Ty) (ht : ∀ c, t ≠ .cls c) : CallR X (.builtin "isinstance") (fun xs H Q => ∃ x, xs = [x, .ty (tyName t)] ∧ rD1 T W (fun u => boolV (isiD u t)) x H Q) := by
  intro pins s σ0 H xs us Q I r0 h
  obtain ⟨x, rfl, a, w, σ, P, r, rs, ha, e, q⟩ := h
  dsimp only [boolV] at e
  cases c : isiD a t with
  | none => rw [c] at e; cases e
  | some k =>
    rw [c] at e; cases e
    have fin : Q (.bl k) H := q.here rs (by simp only [Rep])
    have go : ∀ (n : String), TyOf X.K H x (.type n) → PySem.W.kitOne X.K (.type n) (.type (tyName t)) = some k → wpAny (model X.prog X.w) X.A (call (.builtin "isinstance") us) (EP X pins σ0 Q) X.xe s := fun n ty e =>
      call_isi pins s σ0 H _ us Q I r0 ⟨x, .ty (tyName t), .type n, .type (tyName t), k, rfl, .ty _, .base ty, e, fin⟩
    cases a with
    | non =>
      obtain rfl := ha.non
      refine go "NoneType" .non ?_
      cases t <;> simp [isiD] at c <;> subst c <;> exact kit_ty (by decide +kernel)
    | bl b =>
      obtain rfl := ha.bl
      refine go "bool" (.bl b) ?_
      cases t <;> simp [isiD] at c <;> subst c <;> exact kit_ty (by decide +kernel)
    | int b =>
      obtain rfl := ha.int
      refine go "int" (.int b) ?_
      cases t <;> simp [isiD] at c <;> subst c <;> exact kit_ty (by decide +kernel)
    | str b =>
      obtain rfl := ha.str
      refine go "str" (.str b) ?_
      cases t <;> simp [isiD] at c <;> subst c <;> exact kit_ty (by decide +kernel)
    | lst b =>
      obtain ⟨p, xs, rfl, z, _⟩ := ha.lst rs
      refine go "list" (.lst z) ?_
      cases t <;> simp [isiD] at c <;> subst c <;> exact kit_ty (by decide +kernel)
    | tup b =>
      obtain ⟨p, xs, rfl, z, _⟩ := ha.tup rs
      refine go "tuple" (.tup z) ?_
      cases t <;> simp [isiD] at c <;> subst c <;> exact kit_ty (by decide +kernel)
    | dct ks vs =>
      have z := ha.rep rs
      simp only [Rep] at z
      obtain ⟨p, kvs, rfl, z1, z2, z3⟩ := z
      refine go "dict" (.dK z1) ?_
      cases t <;> simp [isiD] at c <;> subst c <;> exact kit_ty (by decide +kernel)
    | dts _ => cases t <;> simp [isiD] at c
    | fn _ => cases t <;> simp [isiD] at c
    | exn _ _ => cases t <;> simp [isiD] at c
    | scr _ => cases t <;> simp [isiD] at c
end
end Z
/-! ZG: the rules of expressions: each wants the rules of its parts. -/
namespace Z
open PySem PySem.Spec L2
open PyProof.Rows hiding St
section
variable {X : Cx} {T : Tb} {W : WX} {e : PySem.Expr} {fa fb fc : En → R (Nat ⊕ D)}
theorem rb2 {σ : St} {P P' : Hp} {x y : Nat ⊕ D} {u v : V} (h : RB T σ P x u) (e : Ext P P') (h' : RB T σ P' y v) : RBs T σ P' [x, y] [u, v] := ⟨u, _, rfl, h.ext e, v, _, rfl, h', rfl⟩
theorem res1 {σ : St} {P H : Hp} {r : En} (rs : RS T P H σ r) {x : Nat ⊕ D} {u : V} (h : RB T σ P x u) {l : List D} (e : res r [x] = some l) : ∃ a, l = [a] ∧ RA T P H a u := by
  have z := res_ok rs (show RBs T σ P [x] [u] from ⟨u, _, rfl, h, rfl⟩) e
  match l, z with
  | [], z => cases z
  | [a], ⟨u', t, e1, z, _⟩ => cases e1; exact ⟨a, rfl, z⟩
  | _ :: _ :: _, ⟨_, _, e1, _, ⟨_, _, e2, _⟩⟩ => cases e1; cases e2
theorem res2 {σ : St} {P H : Hp} {r : En} (rs : RS T P H σ r) {x y : Nat ⊕ D} {u v : V} (h : RBs T σ P [x, y] [u, v]) {l : List D} (e : res r [x, y] = some l) : ∃ a b, l = [a, b] ∧ RA T P H a u ∧ RA T P H b v := by
  have z := res_ok rs h e
  match l, z with
  | [], z => cases z
  | [a], ⟨_, _, e1, _, e2⟩ => cases e1; cases e2
  | [a, b], ⟨_, _, e1, z1, ⟨_, _, e2, z2, _⟩⟩ => cases e1; cases e2; exact ⟨a, b, rfl, z1, z2⟩
  | _ :: _ :: _ :: _, ⟨_, _, e1, _, ⟨_, _, e2, _, ⟨_, _, e3, _⟩⟩⟩ => cases e1; cases e2; cases e3
/-- an operation of two -/
theorem de_op2 {g : D → D → Option Val} (h : PE X e (tOp (rD2 T W g) (tB T W fa) (tB T W fb))) : PE X e (tE T W fun r => (fa r).bind fun x r1 => (fb r1).bind fun y r2 => op2 g x y r2) := by
  refine peImp h fun σ H Q ⟨P, r, rs, go⟩ => ⟨P, r, rs, (Go.bind (anti_V T) go).mono fun u H1 ⟨P1, r1, x, a1, q1, e1, go1⟩ => ⟨P1, r1, a1.rs, (Go.bind (anti_V T) go1).mono fun v H2 ⟨P2, r2, y, a2, q2, e2, go2⟩ => ?_⟩⟩
  unfold op2 at go2
  cases c : res r2 [x, y] with
  | none => rw [c] at go2; exact go2.elim
  | some l =>
    obtain ⟨a, b, rfl, h1, h2⟩ := res2 a2.rs (rb2 q1 a2.st.pp q2) c
    rw [c] at go2
    dsimp only at go2
    cases c2 : g a b with
    | none => rw [c2] at go2; exact go2.elim
    | some w => rw [c2] at go2; exact ⟨a, b, w, σ, P2, r2, a2.rs, h1, h2, c2, go2⟩
theorem de_op1 {g : D → Option Val} (h : PE X e (tUn (rD1 T W g) (tB T W fa))) : PE X e (tE T W fun r => (fa r).bind fun x r1 => op1 g x r1) := by
  refine peImp h fun σ H Q ⟨P, r, rs, go⟩ => ⟨P, r, rs, (Go.bind (anti_V T) go).mono fun u H1 ⟨P1, r1, x, a1, q1, e1, go1⟩ => ?_⟩
  unfold op1 at go1
  cases c : res r1 [x] with
  | none => rw [c] at go1; exact go1.elim
  | some l =>
    obtain ⟨a, rfl, h1⟩ := res1 a1.rs q1 c
    rw [c] at go1
    dsimp only at go1
    cases c2 : g a with
    | none => rw [c2] at go1; exact go1.elim
    | some w => rw [c2] at go1; exact ⟨a, w, σ, P1, r1, a1.rs, h1, c2, go1⟩
theorem de_opn {g : List D → Option Val} {f : En → R (List (Nat ⊕ D))} (h : PE X e (tCB (rDn T W g) (tA T W f))) : PE X e (tE T W fun r => (f r).bind fun xs r1 => opn g xs r1) := by
  refine peImp h fun σ H Q ⟨P, r, rs, go⟩ => ⟨P, r, rs, (Go.bind (anti_V T) go).mono fun us H1 ⟨P1, r1, xs, a1, q1, e1, go1⟩ => ?_⟩
  unfold opn at go1
  cases c : res r1 xs with
  | none => rw [c] at go1; exact go1.elim
  | some l =>
    rw [c] at go1
    simp only [Option.bind_some] at go1
    cases c2 : g l with
    | none => rw [c2] at go1; exact go1.elim
    | some w => rw [c2] at go1; exact ⟨l, w, σ, P1, r1, a1.rs, res_ok a1.rs q1 c, c2, go1⟩
/-- an argument that is no name -/
theorem db_of {f : En → R Val} (h : PE X e (tE T W f)) : PE X e (tB T W fun r => (f r).bind fun v r1 => .ok (.inr v.d) r1) :=
  peImp h fun σ H Q ⟨P, r, rs, go⟩ => ⟨P, r, rs, (Go.bindS rs (anti_B T σ) go).mono fun u H1 ⟨P1, r1, v, a1, q1, e1, go1⟩ => go1 u P1 H1 (.refl a1.rs) q1⟩
theorem db_var {i : Nat} (h : PE X e (tVar i)) : PE X e (tB T W fun r => if (r.rd i).isSome = true then .ok (.inl i) r else .bad) := by
  refine peImp h fun σ H Q ⟨P, r, rs, go⟩ => ?_
  dsimp only at go
  by_cases c : (r.rd i).isSome = true
  · rw [if_pos c] at go
    obtain ⟨d, c⟩ := Option.isSome_iff_exists.mp c
    have z : ∃ v, σ[i]? = some (some v) := by
      unfold En.rd at c
      cases c1 : r[i]? with
      | none => rw [c1] at c; cases c
      | some x =>
        rw [c1] at c
        cases x with
        | no => cases c
        | sh d' => obtain ⟨v, e1, _⟩ := rs.sh i d' c1; exact ⟨v, e1⟩
        | ow d' => obtain ⟨a, e1, _⟩ := rs.own i d' (.inl c1); exact ⟨_, e1⟩
        | io d' => obtain ⟨a, e1, _⟩ := rs.own i d' (.inr c1); exact ⟨_, e1⟩
    obtain ⟨v, z⟩ := z
    exact ⟨v, z, go v P H (.refl rs) z⟩
  · rw [if_neg c] at go
    exact go.elim
theorem setD_own {σ : St} {P H : Hp} {r : En} {i : Nat} {d : D} (rs : RS T P H σ r) (h : r[i]? = some (.ow d)) : ∃ P' u, Aft T σ P H r P' H (r.set i (.sh d)) ∧ Rep T P' d u ∧ σ[i]? = some (some u) := by
  obtain ⟨a, e, n, ro⟩ := rs.own i d (.inl h)
  obtain ⟨o, ho⟩ := ro.some
  have ex : Ext P (upd P a o) := upd_ext n
  have hi : i < r.length := (List.getElem?_eq_some_iff.mp h).1
  have oi : OwnAt r i := ⟨d, .inl h⟩
  have get : ∀ (j : Nat) (x : Sl), (r.set i (.sh d))[j]? = some x → (j = i ∧ x = .sh d) ∨ (j ≠ i ∧ r[j]? = some x) := fun j x q => by
    by_cases z : j = i
    · subst z
      rw [List.getElem?_set_self hi] at q
      exact .inl ⟨rfl, (Option.some.inj q).symm⟩
    · rw [List.getElem?_set_ne (Ne.symm z)] at q
      exact .inr ⟨z, q⟩
  have rp : Rep T (upd P a o) d (.ref a) := ro.rep ex (by rw [upd_same, ho])
  refine ⟨upd P a o, .ref a, ⟨⟨fun c x y => ?_, by rw [List.length_set]; exact rs.len, fun j d' q => ?_, fun j d' q => ?_, fun j k b q1 q2 => ?_⟩, ⟨ex, fun _ _ e _ => e, fun _ e => e, fun c z => ?_⟩, ⟨by rw [List.length_set], fun j x x' q1 q2 => ?_⟩⟩, rp, e⟩
  · by_cases z : c = a
    · subst z; rw [upd_same] at y; cases y; exact ho
    · rw [upd_ne z] at y; exact rs.sub c x y
  · rcases get j _ q with ⟨rfl, z⟩ | ⟨z, q⟩
    · cases z; exact ⟨_, e, rp⟩
    · obtain ⟨v, e1, e2⟩ := rs.sh j d' q
      exact ⟨v, e1, Rep.ext ex _ _ e2⟩
  · have q' : j ≠ i ∧ (r[j]? = some (.ow d') ∨ r[j]? = some (.io d')) := by
      rcases q with q | q
      · rcases get j _ q with ⟨rfl, z⟩ | ⟨z, q⟩
        · cases z
        · exact ⟨z, .inl q⟩
      · rcases get j _ q with ⟨rfl, z⟩ | ⟨z, q⟩
        · cases z
        · exact ⟨z, .inr q⟩
    obtain ⟨b, e1, n1, ro1⟩ := rs.own j d' q'.2
    have hb : b ≠ a := fun z => q'.1 (rs.dis j i b ⟨d', q'.2⟩ oi e1 (by rw [z]; exact e))
    exact ⟨b, e1, by rw [upd_ne hb]; exact n1, ro1.move ex rfl⟩
  · have h1 : OwnAt r j := by
      obtain ⟨d1, q1⟩ := q1
      rcases q1 with q1 | q1
      · rcases get j _ q1 with ⟨rfl, z⟩ | ⟨z, q⟩
        · cases z
        · exact ⟨d1, .inl q⟩
      · rcases get j _ q1 with ⟨rfl, z⟩ | ⟨z, q⟩
        · cases z
        · exact ⟨d1, .inr q⟩
    have h2 : OwnAt r k := by
      obtain ⟨d1, q2⟩ := q2
      rcases q2 with q2 | q2
      · rcases get k _ q2 with ⟨rfl, z⟩ | ⟨z, q⟩
        · cases z
        · exact ⟨d1, .inl q⟩
      · rcases get k _ q2 with ⟨rfl, z⟩ | ⟨z, q⟩
        · cases z
        · exact ⟨d1, .inr q⟩
    exact rs.dis j k b h1 h2
  · by_cases z' : c = a
    · subst z'; exact .inr (.inr ⟨i, oi, e⟩)
    · rw [upd_ne z'] at z; exact .inl z
  · rcases get j _ q2 with ⟨rfl, z⟩ | ⟨z, q⟩
    · rw [h] at q1; cases q1; subst z; exact trivial
    · rw [q1] at q; cases q; exact kle.refl x
theorem de_var {C : Cf} {i : Nat} (h : PE X e (tVar i)) : PE X e (tE T W (ev C (.var i))) := by
  refine peImp h fun σ H Q ⟨P, r, rs, go⟩ => ?_
  simp only [ev] at go
  cases c : r[i]? with
  | none => rw [c] at go; exact go.elim
  | some x =>
    rw [c] at go
    cases x with
    | no => exact go.elim
    | sh d => obtain ⟨v, e1, e2⟩ := rs.sh i d c; exact ⟨v, e1, go v P H (.refl rs) e2⟩
    | ow d =>
      obtain ⟨P', u, a, q, e1⟩ := setD_own rs c
      exact ⟨u, e1, go u P' H a q⟩
    | io d => exact go.elim
theorem de_con {C : Cf} {d : D} {v : V} (h : PE X e (tC v)) (q : ∀ H, Rep T H d v) : PE X e (tE T W (ev C (.con d))) := by
  refine peImp h fun σ H Q ⟨P, r, rs, go⟩ => ?_
  simp only [ev] at go
  exact go v P H (.refl rs) (q P)
theorem de_not (hK : X.K = T.K) (ha : PE X e (tB T W fa)) {pos : Pos} : PE X (.UnaryOp .Not e pos) (tE T W fun r => (fa r).bind fun x r1 => op1 (fun u => boolV ((tru u).map (!·))) x r1) := by
  refine de_op1 (peImp (pe_notT ha) fun σ H Q h => ?_)
  obtain ⟨P, r, rs, go⟩ := h
  refine ⟨P, r, rs, go.mono fun u H1 ⟨a, v, σ', P1, r1, rs1, ra, hv, go1⟩ => ?_⟩
  dsimp only at hv
  cases c : tru a with
  | none => rw [c] at hv; cases hv
  | some k =>
    rw [c] at hv
    cases hv
    exact ⟨k, truV_of hK rs1 ra c, go1.here rs1 (by simp only [Rep])⟩
theorem de_and (hK : X.K = T.K) {a b : PySem.Expr} {rest : List PySem.Expr} {pos : Pos} {f g : En → R Val} (ha : PE X a (tE T W f)) (hb : PE X (.BoolOp .And (b :: rest) pos) (tE T W g)) :
    PE X (.BoolOp .And (a :: b :: rest) pos) (tE T W fun r => (f r).bind fun x r1 => match tru x.d with
      | some true => (g r1).bind fun y r2 => .ok (.sh y.d) r2
      | some false => .ok (.sh x.d) r1
      | none => .bad) := by
  refine peImp (pe_andT ha hb) fun σ H Q ⟨P, r, rs, go⟩ => ⟨P, r, rs, (Go.bindS rs (anti_V T) go).mono fun u H1 ⟨P1, r1, v, a1, q1, e1, go1⟩ => ?_⟩
  cases c : tru v.d with
  | none => rw [c] at go1; exact go1.elim
  | some k =>
    refine ⟨k, truV_of hK a1.rs (.inl q1) c, ?_⟩
    rw [c] at go1
    cases k with
    | true =>
      rw [if_pos rfl]
      refine ⟨P1, r1, a1.rs, (Go.bindS a1.rs (anti_V T) go1).mono fun u2 H2 ⟨P2, r2, v2, a2, q2, e2, go2⟩ => ?_⟩
      exact go2 u2 P2 H2 (.refl a2.rs) q2
    | false =>
      rw [if_neg Bool.false_ne_true]
      exact go1 u P1 H1 (.refl a1.rs) q1
theorem de_or (hK : X.K = T.K) {a b : PySem.Expr} {rest : List PySem.Expr} {pos : Pos} {f g : En → R Val} (ha : PE X a (tE T W f)) (hb : PE X (.BoolOp .Or (b :: rest) pos) (tE T W g)) :
    PE X (.BoolOp .Or (a :: b :: rest) pos) (tE T W fun r => (f r).bind fun x r1 => match tru x.d with
      | some false => (g r1).bind fun y r2 => .ok (.sh y.d) r2
      | some true => .ok (.sh x.d) r1
      | none => .bad) := by
  refine peImp (pe_orT ha hb) fun σ H Q ⟨P, r, rs, go⟩ => ⟨P, r, rs, (Go.bindS rs (anti_V T) go).mono fun u H1 ⟨P1, r1, v, a1, q1, e1, go1⟩ => ?_⟩
  cases c : tru v.d with
  | none => rw [c] at go1; exact go1.elim
  | some k =>
    refine ⟨k, truV_of hK a1.rs (.inl q1) c, ?_⟩
    rw [c] at go1
    cases k with
    | false =>
      rw [if_neg Bool.false_ne_true]
      refine ⟨P1, r1, a1.rs, (Go.bindS a1.rs (anti_V T) go1).mono fun u2 H2 ⟨P2, r2, v2, a2, q2, e2, go2⟩ => ?_⟩
      exact go2 u2 P2 H2 (.refl a2.rs) q2
    | true =>
      rw [if_pos rfl]
      exact go1 u P1 H1 (.refl a1.rs) q1
theorem de_ite {c a b : PySem.Expr} {pos : Pos} {f g : En → R Val} {t : En → R Bool} (hc : PT X c (tK T W t)) (ha : PE X a (tE T W f)) (hb : PE X b (tE T W g)) :
    PE X (.IfExp c a b pos) (tE T W fun r => (t r).bind fun k r1 => if k = true then f r1 else g r1) := by
  refine peImp (pe_ifExp hc ha hb) fun σ H Q ⟨P, r, rs, go⟩ => ⟨P, r, rs, (Go.bind (anti_V T) go).mono fun u H1 ⟨P1, r1, k, a1, q1, e1, go1⟩ => ?_⟩
  subst q1
  cases u with
  | true => rw [if_pos rfl] at go1 ⊢; exact ⟨P1, r1, a1.rs, go1⟩
  | false => rw [if_neg Bool.false_ne_true] at go1 ⊢; exact ⟨P1, r1, a1.rs, go1⟩
/-! lists of expressions -/
def notStar : PySem.Expr → Bool
  | .Starred _ _ => false
  | _ => true
theorem star_one {e : PySem.Expr} (h : notStar e = true) (es : List PySem.Expr) (env : PySem.Env) : starEach (e :: es) env = (false, eval e env) :: starEach es env := by
  cases e <;> first | rfl | cases h
theorem star_all : ∀ {es : List PySem.Expr}, es.all notStar = true → ∀ (env : PySem.Env) (pos : Pos), (backTo pos (starEach es env)).any (·.1) = false
  | [], _, _, _ => rfl
  | e :: es, h, env, pos => by
    simp only [List.all_cons, Bool.and_eq_true] at h
    rw [star_one h.1]
    have ih := star_all h.2 env pos
    cases es with
    | nil => rfl
    | cons e2 es2 =>
      simp only [List.all_cons, Bool.and_eq_true] at h
      rw [star_one h.2.1] at ih ⊢
      simpa [backTo] using ih
theorem ds_nil {C : Cf} : PA X [] (tS T W (evs C [])) := paImp pa_nil fun σ H Q ⟨P, r, rs, go⟩ => by
  simp only [evs] at go
  exact go [] P H (.refl rs) Reps.nil
theorem ds_cons {es : List PySem.Expr} {f : En → R Val} {g : En → R (List D)} (hs : notStar e = true) (ha : PE X e (tE T W f)) (hb : PA X es (tS T W g)) :
    PA X (e :: es) (tS T W fun r => (f r).bind fun v r1 => (g r1).bind fun vs r2 => .ok (v.d :: vs) r2) := by
  refine paImp (pa_cons ha hb (star_one hs es X.env)) fun σ H Q ⟨P, r, rs, go⟩ => ⟨P, r, rs, (Go.bindS rs (anti_Ss T) go).mono fun u H1 ⟨P1, r1, v, a1, q1, e1, go1⟩ => ⟨P1, r1, a1.rs, (Go.bind (anti_Ss T) go1).mono fun us H2 ⟨P2, r2, vs, a2, q2, e2, go2⟩ => ?_⟩⟩
  exact go2 (u :: us) P2 H2 (.refl a2.rs) (.cons (Rep.ext a2.st.pp _ _ q1) q2)
theorem da_nil {C : Cf} : PA X [] (tA T W (evA C [])) := paImp pa_nil fun σ H Q ⟨P, r, rs, go⟩ => by
  simp only [evA] at go
  exact go [] P H (.refl rs) rfl
theorem da_cons {es : List PySem.Expr} {g : En → R (List (Nat ⊕ D))} (hs : notStar e = true) (ha : PE X e (tB T W fa)) (hb : PA X es (tA T W g)) :
    PA X (e :: es) (tA T W fun r => (fa r).bind fun x r1 => (g r1).bind fun xs r2 => .ok (x :: xs) r2) := by
  refine paImp (pa_cons ha hb (star_one hs es X.env)) fun σ H Q ⟨P, r, rs, go⟩ => ⟨P, r, rs, (Go.bind (anti_Bs T σ) go).mono fun u H1 ⟨P1, r1, x, a1, q1, e1, go1⟩ => ⟨P1, r1, a1.rs, (Go.bind (anti_Bs T σ) go1).mono fun us H2 ⟨P2, r2, xs, a2, q2, e2, go2⟩ => ?_⟩⟩
  exact go2 (u :: us) P2 H2 (.refl a2.rs) ⟨u, us, rfl, q1.ext a2.st.pp, q2⟩
theorem de_lst {es : List PySem.Expr} {pos : Pos} {g : En → R (List D)} (h : PA X es (tS T W g)) : PE X (.List es pos) (tE T W fun r => (g r).bind fun ds r1 => if ds.length ≤ LINE then .ok (.ow (.lst ds)) r1 else .bad) := by
  refine peImp (pe_lst h) fun σ H Q ⟨P, r, rs, go⟩ => ⟨P, r, rs, (Go.bind (anti_V T) go).mono fun us H1 ⟨P1, r1, ds, a1, q1, e1, go1⟩ => ?_⟩
  by_cases hl : ds.length ≤ LINE
  · rw [if_pos hl] at go1
    exact ⟨by rw [q1.length, ← LINE_eq]; exact hl, fun p n => go1.newL a1.rs n q1⟩
  · rw [if_neg hl] at go1; exact go1.elim
theorem de_tup {es : List PySem.Expr} {k : Nat} {pos : Pos} {g : En → R (List D)} (h : PA X es (tS T W g)) : PE X (.Tuple es k pos) (tE T W fun r => (g r).bind fun ds r1 => if ds.length ≤ LINE then .ok (.sh (.tup ds)) r1 else .bad) := by
  refine peImp (pe_tup h) fun σ H Q ⟨P, r, rs, go⟩ => ⟨P, r, rs, (Go.bind (anti_V T) go).mono fun us H1 ⟨P1, r1, ds, a1, q1, e1, go1⟩ => ?_⟩
  by_cases hl : ds.length ≤ LINE
  · rw [if_pos hl] at go1
    exact ⟨by rw [q1.length, ← LINE_eq]; exact hl, fun p n => go1.newT a1.rs n q1⟩
  · rw [if_neg hl] at go1; exact go1.elim
end
end Z
/-! ZH: slots stored, targets, what is walked. -/
namespace Z
open PySem PySem.Spec L2
open PyProof.Rows hiding St
/-- owned by a local name -/
def OwnL (σ : St) (r : En) (a : Addr) : Prop := ∃ (i : Nat) (d : D), r[i]? = some (Sl.ow d) ∧ σ[i]? = some (some (.ref a))
/-- behind a statement: slots may have been stored -/
structure AftS (T : Tb) (σ : St) (P H : Hp) (r : En) (σ' : St) (P' H' : Hp) (r' : En) : Prop where
  rs : RS T P' H' σ' r'
  st : Stp (Own σ r) P H P' H'
  ow : ∀ b, Own σ' r' b → Own σ r b ∨ H b = none
  ol : ∀ b, OwnL σ' r' b → OwnL σ r b ∨ H b = none
  io : ∀ (i : Nat) (d : D), r[i]? = some (Sl.io d) → (∃ d', r'[i]? = some (Sl.io d')) ∧ σ'[i]? = σ[i]?
  len : r'.length = r.length
section
variable {T : Tb} {W : WX} {σ σ1 σ2 : St} {P H P1 H1 P2 H2 : Hp} {r r1 r2 : En}
theorem AftS.refl (h : RS T P H σ r) : AftS T σ P H r σ P H r := ⟨h, .refl, fun _ h => .inl h, fun _ h => .inl h, fun i d h => ⟨⟨d, h⟩, rfl⟩, rfl⟩
theorem AftS.trans (a : AftS T σ P H r σ1 P1 H1 r1) (b : AftS T σ1 P1 H1 r1 σ2 P2 H2 r2) : AftS T σ P H r σ2 P2 H2 r2 where
  rs := b.rs
  st := a.st.trans b.st a.ow
  ow := fun c h => by
    rcases b.ow c h with h | h
    · exact a.ow c h
    · exact .inr (a.st.dm c h)
  ol := fun c h => by
    rcases b.ol c h with h | h
    · exact a.ol c h
    · exact .inr (a.st.dm c h)
  io := fun i d h => by
    obtain ⟨⟨d1, h1⟩, e1⟩ := a.io i d h
    obtain ⟨h2, e2⟩ := b.io i d1 h1
    exact ⟨h2, e2.trans e1⟩
  len := b.len.trans a.len
theorem Aft.toS (a : Aft T σ P H r P1 H1 r1) : AftS T σ P H r σ P1 H1 r1 where
  rs := a.rs
  st := a.st
  ow := fun c h => .inl (a.kd.owns h)
  ol := fun c ⟨i, d, h, e⟩ => by
    have hi : i < r.length := by rw [← a.kd.1]; exact (List.getElem?_eq_some_iff.mp h).1
    have q := List.getElem?_eq_getElem hi
    have z := a.kd.2 i _ _ q h
    cases c : r[i] with
    | ow d' => exact .inl ⟨i, d', by rw [q, c], e⟩
    | _ => rw [c] at z; exact False.elim z
  io := fun i d h => by
    have hi : i < r1.length := by rw [a.kd.1]; exact (List.getElem?_eq_some_iff.mp h).1
    have q := List.getElem?_eq_getElem hi
    have z := a.kd.2 i _ _ h q
    cases e : r1[i] with
    | io d' => exact ⟨⟨d', by rw [q, e]⟩, rfl⟩
    | _ => rw [e] at z; exact False.elim z
  len := a.kd.1
theorem RS.get (h : RS T P H σ r) {i : Nat} {x : Sl} (e : r[i]? = some x) : i < r.length ∧ i < σ.length := by
  have := (List.getElem?_eq_some_iff.mp e).1
  exact ⟨this, by rw [← h.len]; exact this⟩
theorem set_get {A : Type} {l : List A} {i j : Nat} {a x : A} (hi : i < l.length) (q : (l.set i a)[j]? = some x) : (j = i ∧ x = a) ∨ (j ≠ i ∧ l[j]? = some x) := by
  by_cases z : j = i
  · subst z
    rw [List.getElem?_set_self hi] at q
    exact .inl ⟨rfl, (Option.some.inj q).symm⟩
  · rw [List.getElem?_set_ne (Ne.symm z)] at q
    exact .inr ⟨z, q⟩
/-- a value that may be stored at a slot -/
def RW (T : Tb) (σ : St) (H0 P H : Hp) (r : En) (v : Val) (u : V) : Prop :=
  match v with
  | .sh d => Rep T P d u
  | .ow d => ∃ a, u = .ref a ∧ P a = none ∧ RepO T P H a d ∧ ¬ Own σ r a ∧ H0 a = none
theorem RV.rw {H0 : Hp} {v : Val} {u : V} (h : RV T H0 P H v u) (fr : ∀ b, Own σ r b → H0 b ≠ none) : RW T σ H0 P H r v u := by
  cases v with
  | sh d => exact h
  | ow d => obtain ⟨a, e, n, ro, f⟩ := h; exact ⟨a, e, n, ro, fun o => fr a o f, f⟩
/-- a slot is stored -/
theorem put_ok {σ0 : St} {P0 H0 : Hp} {r0 : En} (a : AftS T σ0 P0 H0 r0 σ P H r) {i : Nat} {v : Val} {u : V} (q : RW T σ H0 P H r v u) (e : r.put i v = some r1) :
    AftS T σ0 P0 H0 r0 (σ.set i (some u)) P H r1 := by
  have h := a.rs
  unfold En.put at e
  cases c : r[i]? with
  | none => rw [c] at e; cases e
  | some x =>
    rw [c] at e
    obtain ⟨hi, hs⟩ := h.get c
    have nio : ∀ d, x ≠ .io d := fun d z => by subst z; cases e
    have e1 : r1 = r.set i v.sl := by
      cases x with
      | io d => exact absurd rfl (nio d)
      | _ => exact (Option.some.inj e).symm
    subst e1
    have ownI : ∀ (j : Nat) (d : D), ((r.set i v.sl)[j]? = some (Sl.ow d) ∨ (r.set i v.sl)[j]? = some (Sl.io d)) → (j = i ∧ v = .ow d) ∨ (j ≠ i ∧ (r[j]? = some (Sl.ow d) ∨ r[j]? = some (Sl.io d))) := fun j d z => by
      rcases z with z | z
      · rcases set_get hi z with ⟨e1, e2⟩ | ⟨n, e2⟩
        · cases v with
          | sh d' => cases e2
          | ow d' => cases e2; exact .inl ⟨e1, rfl⟩
        · exact .inr ⟨n, .inl e2⟩
      · rcases set_get hi z with ⟨e1, e2⟩ | ⟨n, e2⟩
        · cases v <;> cases e2
        · exact .inr ⟨n, .inr e2⟩
    have noti : ∀ d, v = .ow d → ∃ a, u = .ref a ∧ P a = none ∧ RepO T P H a d ∧ ¬ Own σ r a ∧ H0 a = none := fun d z => by
      subst z
      exact q
    refine ⟨⟨h.sub, by rw [List.length_set, List.length_set]; exact h.len, fun j d z => ?_, fun j d z => ?_, fun j k b o1 o2 s1 s2 => ?_⟩, a.st, fun b o => ?_, fun b o => ?_, fun j d z => ?_, by rw [List.length_set]; exact a.len⟩
    · rcases set_get hi z with ⟨e1, e2⟩ | ⟨n, e2⟩
      · subst e1
        cases v with
        | sh d' => cases e2; exact ⟨u, List.getElem?_set_self hs, q⟩
        | ow d' => cases e2
      · obtain ⟨w, e3, e4⟩ := h.sh j d e2
        exact ⟨w, by rw [List.getElem?_set_ne (Ne.symm n)]; exact e3, e4⟩
    · rcases ownI j d z with ⟨e1, e2⟩ | ⟨n, e2⟩
      · subst e1
        obtain ⟨b, e3, n, ro, _⟩ := noti d e2
        exact ⟨b, by rw [List.getElem?_set_self hs, e3], n, ro⟩
      · obtain ⟨b, e3, e4, e5⟩ := h.own j d e2
        exact ⟨b, by rw [List.getElem?_set_ne (Ne.symm n)]; exact e3, e4, e5⟩
    · obtain ⟨d1, o1⟩ := o1
      obtain ⟨d2, o2⟩ := o2
      rcases ownI j d1 o1 with ⟨e1, z1⟩ | ⟨n1, z1⟩
      · subst e1
        rcases ownI k d2 o2 with ⟨e2, z2⟩ | ⟨n2, z2⟩
        · exact e2.symm
        · obtain ⟨c, e, _, _, no, _⟩ := noti d1 z1
          rw [List.getElem?_set_self hs, e] at s1
          rw [List.getElem?_set_ne (Ne.symm n2)] at s2
          cases s1
          exact absurd ⟨k, ⟨d2, z2⟩, s2⟩ no
      · rcases ownI k d2 o2 with ⟨e2, z2⟩ | ⟨n2, z2⟩
        · subst e2
          obtain ⟨c, e, _, _, no, _⟩ := noti d2 z2
          rw [List.getElem?_set_self hs, e] at s2
          rw [List.getElem?_set_ne (Ne.symm n1)] at s1
          cases s2
          exact absurd ⟨j, ⟨d1, z1⟩, s1⟩ no
        · rw [List.getElem?_set_ne (Ne.symm n1)] at s1
          rw [List.getElem?_set_ne (Ne.symm n2)] at s2
          exact h.dis j k b ⟨d1, z1⟩ ⟨d2, z2⟩ s1 s2
    · obtain ⟨j, ⟨d, o⟩, s⟩ := o
      rcases ownI j d o with ⟨e1, z⟩ | ⟨n, z⟩
      · subst e1
        obtain ⟨c, e, n, ro, _, f⟩ := noti d z
        rw [List.getElem?_set_self hs, e] at s
        cases s
        exact .inr f
      · rw [List.getElem?_set_ne (Ne.symm n)] at s
        exact a.ow b ⟨j, ⟨d, z⟩, s⟩
    · obtain ⟨j, d, o, s⟩ := o
      rcases set_get hi o with ⟨e1, e2⟩ | ⟨n, e2⟩
      · subst e1
        cases v with
        | sh d' => cases e2
        | ow d' =>
          cases e2
          obtain ⟨c, e, n, ro, _, f⟩ := noti d rfl
          rw [List.getElem?_set_self hs, e] at s
          cases s
          exact .inr f
      · rw [List.getElem?_set_ne (Ne.symm n)] at s
        exact a.ol b ⟨j, d, e2, s⟩
    · obtain ⟨⟨d', z1⟩, z2⟩ := a.io j d z
      have n : i ≠ j := fun y => by subst y; rw [c] at z1; cases z1; exact nio d' rfl
      exact ⟨⟨d', by rw [List.getElem?_set_ne n]; exact z1⟩, (List.getElem?_set_ne n).trans z2⟩
/-- a step within a statement -/
theorem AftS.step (a : AftS T σ P H r σ1 P1 H1 r1) (b : Aft T σ1 P1 H1 r1 P2 H2 r2) : AftS T σ P H r σ1 P2 H2 r2 := a.trans b.toS
/-! ### targets -/
/-- a target takes a settled thing: outside its slots nothing changes -/
def gD (T : Tb) (t : Tg) : TG := fun v σ H Q => ∃ P r d r', RS T P H σ r ∧ Rep T P d v ∧ bindT t d r = some r' ∧ ∀ σ', AftS T σ P H r σ' P H r' → σ'.length = σ.length → (∀ j, j ∉ tgS t → σ'[j]? = σ[j]?) → Q σ' H
def gDs (T : Tb) (ts : List Tg) : TGs := fun vs σ H Q => ∃ P r ds r', RS T P H σ r ∧ Reps T P ds vs ∧ bindTs ts ds r = some r' ∧ ∀ σ', AftS T σ P H r σ' P H r' → σ'.length = σ.length → (∀ j, j ∉ tgSs ts → σ'[j]? = σ[j]?) → Q σ' H
end
section
variable {X : Cx} {T : Tb}
theorem pgImp {tg : PySem.Expr} {t t' : TG} (h : PG X tg t) (k : ∀ v σ H Q, t' v σ H Q → t v σ H Q) : PG X tg t' := ⟨fun pins s σ H v u Q I r q => h.run pins s σ H v u Q I r (k _ _ _ _ q)⟩
theorem pgsImp {tg : List PySem.Expr} {t t' : TGs} (h : PGs X tg t) (k : ∀ v σ H Q, t' v σ H Q → t v σ H Q) : PGs X tg t' := ⟨fun pins s σ H v u Q I r q => h.run pins s σ H v u Q I r (k _ _ _ _ q)⟩
theorem dg_v {tg : PySem.Expr} {i : Nat} (h : PG X tg (gName i)) : PG X tg (gD T (.v i)) := pgImp h fun v σ H Q ⟨P, r, d, r', rs, rp, e, q⟩ => by
  simp only [bindT] at e
  have z := put_ok (AftS.refl rs) (v := .sh d) (show RW T σ H P H r (.sh d) v from rp) e
  exact q _ z (by rw [List.length_set]) fun j hj => by
    simp only [tgS, List.mem_singleton] at hj
    exact List.getElem?_set_ne (Ne.symm hj)
theorem dgs_nil : PGs X [] (gDs T []) := pgsImp pgs_nil fun v σ H Q ⟨P, r, ds, r', rs, rp, e, q⟩ => by
  cases ds with
  | nil =>
    simp only [bindTs, Option.some.injEq] at e
    subst e
    exact ⟨rp.of_nil, q σ (.refl rs) rfl fun _ _ => rfl⟩
  | cons d ds => simp [bindTs] at e
theorem dgs_cons {e : PySem.Expr} {es : List PySem.Expr} {t : Tg} {ts : List Tg} (h1 : PG X e (gD T t)) (h2 : PGs X es (gDs T ts)) (hs : (assignEach (e :: es) X.env).map (·.2) = assign e X.env :: (assignEach es X.env).map (·.2)) : PGs X (e :: es) (gDs T (t :: ts)) :=
  pgsImp (pgs_cons h1 h2 hs) fun v σ H Q ⟨P, r, ds, r', rs, rp, e, q⟩ => by
  cases ds with
  | nil => simp [bindTs] at e
  | cons d ds =>
    obtain ⟨u, us, rfl, p1, p2⟩ := rp.of_cons
    simp only [bindTs] at e
    cases c : bindT t d r with
    | none => rw [c] at e; cases e
    | some r1 =>
      rw [c] at e
      refine ⟨u, us, rfl, P, r, d, r1, rs, p1, c, fun σ1 a1 l1 o1 => ?_⟩
      refine ⟨P, r1, ds, r', a1.rs, p2, e, fun σ2 a2 l2 o2 => ?_⟩
      refine q σ2 (a1.trans a2) (l2.trans l1) fun j hj => ?_
      simp only [tgSs, List.mem_append, not_or] at hj
      exact (o2 j hj.2).trans (o1 j hj.1)
theorem pg_or {e : PySem.Expr} {t u : TG} (h1 : PG X e t) (h2 : PG X e u) : PG X e (fun v σ H Q => t v σ H Q ∨ u v σ H Q) := ⟨fun pins s σ H v w Q I r q => q.elim (h1.run pins s σ H v w Q I r) (h2.run pins s σ H v w Q I r)⟩
theorem bindTs_len : ∀ (ts : List Tg) (ds : List D) (r r' : En), bindTs ts ds r = some r' → ts.length = ds.length := by
  intro ts
  induction ts with
  | nil => intro ds r r' e; cases ds with
    | nil => rfl
    | cons _ _ => simp [bindTs] at e
  | cons t ts ih => intro ds r r' e; cases ds with
    | nil => simp [bindTs] at e
    | cons d ds =>
      simp only [bindTs] at e
      cases c : bindT t d r with
      | none => rw [c] at e; cases e
      | some r1 => rw [c] at e; simp [ih ds r1 r' e]
theorem dg_t (hc : X.calm = true) {es : List PySem.Expr} {k : Nat} {pos : Pos} {ts : List Tg} {n : Nat} (h : PGs X es (gDs T ts)) (hn : (assignEach es X.env).length = n) (hl : ts.length = n) (hst : (assignEach es X.env).findIdx? (·.1) = none) :
    PG X (.Tuple es k pos) (gD T (.t ts)) := pgImp (pg_or (pg_tup hc h hn hst) (pg_unl hc h hn hst)) fun v σ H Q ⟨P, r, d, r', rs, rp, e, q⟩ => by
  cases d with
  | tup ds =>
    simp only [bindT] at e
    simp only [Rep] at rp
    obtain ⟨a, xs, e1, h1, h2⟩ := rp
    exact .inl ⟨a, xs, e1, .inl (.inl (rs.sub _ _ h1)), by rw [h2.length, ← bindTs_len ts ds r r' e, hl], P, r, ds, r', rs, h2, e, fun σ' a' l o => q σ' a' l fun j hj => o j (by simpa only [tgS] using hj)⟩
  | lst ds =>
    simp only [bindT] at e
    simp only [Rep] at rp
    obtain ⟨a, xs, e1, h1, h2⟩ := rp
    exact .inr ⟨a, xs, e1, .inl (.inl (rs.sub _ _ h1)), by rw [h2.length, ← bindTs_len ts ds r r' e, hl], P, r, ds, r', rs, h2, e, fun σ' a' l o => q σ' a' l fun j hj => o j (by simpa only [tgS] using hj)⟩
  | _ => simp [bindT] at e
end
end Z
/-! ZI: what is walked; comprehensions. -/
namespace Z
open PySem PySem.Spec L2
open PyProof.Rows hiding St
/-- an iterator that gives just these things, whatever more is settled meanwhile -/
structure Wk (T : Tb) (P : Hp) (J : It) (ds : List D) : Prop where
  go : ∀ i H, i < ds.length → Ext P H → J.go i H
  stop : ∀ H, Ext P H → J.stop ds.length H
  yld : ∀ i d H x H' Pc, ds[i]? = some d → Ext P Pc → Ext Pc H → J.yld i H x H' → (H' = H ∧ Rep T Pc d x) ∨ ∃ p xs es, H p = none ∧ H' = upd H p (.tup xs) ∧ x = .ref p ∧ d = .tup es ∧ Reps T Pc es xs
theorem Wk.mono {T : Tb} {P P' : Hp} {J : It} {ds : List D} (h : Wk T P J ds) (e : Ext P P') : Wk T P' J ds :=
  ⟨fun i H l k => h.go i H l (e.trans k), fun H k => h.stop H (e.trans k), fun i d H x H' Pc l k1 k2 y => h.yld i d H x H' Pc l (e.trans k1) k2 y⟩
abbrev relI (T : Tb) : Rel (List D) It := fun _ P' _ ds J => Wk T P' J ds
theorem anti_I (T : Tb) : Anti (relI T) := fun _ _ _ _ _ _ _ q => q
def tI (T : Tb) (W : WX) (f : En → R (List D)) : TI := fun σ H R => ∃ P r, RS T P H σ r ∧ Go T W (relI T) σ P H r (f r) R
section
variable {X : Cx} {T : Tb} {W : WX} {tg l : PySem.Expr}
theorem piImp {t t' : TI} (h : PI X tg l t) (k : ∀ σ H Q, t' σ H Q → t σ H Q) : PI X tg l t' := ⟨fun pins s σ H Q I q => h.run pins s σ H Q I (k _ _ _ q)⟩
theorem wk_list {P : Hp} {a : Addr} {xs : List V} {ds : List D} (h : P a = some (.lst xs)) (q : Reps T P ds xs) : Wk T P (Itl T.K a) ds where
  go := fun i H hi e => by
    have z : i < xs.length := by rw [q.length]; exact hi
    exact ⟨xs, xs[i], .inl (.inl (e _ _ h)), List.getElem?_eq_getElem z⟩
  stop := fun H e => ⟨xs, .inl (.inl (e _ _ h)), by rw [q.length]; exact Nat.le_refl _⟩
  yld := fun i d H x H' Pc hd e1 e2 y => by
    obtain ⟨rfl, y⟩ := y
    obtain ⟨u, eu, ru⟩ := q.get hd
    have z := y xs (.inl (.inl (e2 _ _ (e1 _ _ h))))
    rw [eu] at z; cases z
    exact .inl ⟨rfl, Rep.ext e1 _ _ ru⟩
theorem wk_tup {P : Hp} {a : Addr} {xs : List V} {ds : List D} (h : P a = some (.tup xs)) (q : Reps T P ds xs) : Wk T P (Itt T.K a) ds where
  go := fun i H hi e => by
    have z : i < xs.length := by rw [q.length]; exact hi
    exact ⟨xs, xs[i], .inl (.inl (e _ _ h)), List.getElem?_eq_getElem z⟩
  stop := fun H e => ⟨xs, .inl (.inl (e _ _ h)), by rw [q.length]; exact Nat.le_refl _⟩
  yld := fun i d H x H' Pc hd e1 e2 y => by
    obtain ⟨rfl, y⟩ := y
    obtain ⟨u, eu, ru⟩ := q.get hd
    have z := y xs (.inl (.inl (e2 _ _ (e1 _ _ h))))
    rw [eu] at z; cases z
    exact .inl ⟨rfl, Rep.ext e1 _ _ ru⟩
/-- a list or a tuple -/
theorem di_seq (hK : X.K = T.K) {f : En → R Val} (he : PE X l (tE T W f)) : PI X tg l (tI T W fun r => (f r).bind fun v r1 => R.of (itemsD v.d) r1) := by
  refine ⟨fun pins s σ H Q I ⟨P, r, rs, go⟩ => ?_⟩
  refine thn (he.run pins s σ H _ I ⟨P, r, rs, Go.bindS rs (anti_I T) go⟩) fun v s1 ⟨x, H1, I1, r1, P1, rr, w, a1, q1, e1, go1⟩ => ?_
  cases c : w.d with
  | lst ds =>
    rw [c] at go1 q1
    simp only [Rep] at q1
    obtain ⟨a, xs, rfl, h1, h2⟩ := q1
    cases r1
    have hq : SqL X.K H1 a xs := .inl (.inl (a1.rs.sub _ _ h1))
    obtain ⟨its, rv, p, hz⟩ := I1.list hq
    refine wpAny_pyIter_list p.isList ⟨s1.heap.objs.size, [s1.heap.objs.size], _, _, H1, rfl, I1.kept (t' := s1.toks) fun b o e => Heap.get?_push_of_some _ e, turn_list a _, ⟨_, Heap.get?_push_size _ rfl, rfl, rfl⟩, fun b hb => ?_, ?_⟩
    · obtain rfl : b = s1.heap.objs.size := by simpa using hb
      exact I1.fpOk (Nat.le_refl _) (I1.hok.fresh (Nat.le_refl _))
    · rw [hK]
      exact go1 _ P1 H1 (.refl a1.rs) (wk_list h1 h2)
  | tup ds =>
    rw [c] at go1 q1
    simp only [Rep] at q1
    obtain ⟨a, xs, rfl, h1, h2⟩ := q1
    cases r1
    have hq : SqT X.K H1 a xs := .inl (.inl (a1.rs.sub _ _ h1))
    obtain ⟨its, rv, p, hz⟩ := I1.tuple hq
    refine wpAny_pyIter_tuple (show s1.heap.IsTuple a its.toArray from p) ⟨s1.heap.objs.size, [s1.heap.objs.size], _, _, H1, rfl, I1.kept (t' := s1.toks) fun b o e => Heap.get?_push_of_some _ e, turn_tuple a _, ⟨_, Heap.get?_push_size _ rfl, rfl, rfl⟩, fun b hb => ?_, ?_⟩
    · obtain rfl : b = s1.heap.objs.size := by simpa using hb
      exact I1.fpOk (Nat.le_refl _) (I1.hok.fresh (Nat.le_refl _))
    · rw [hK]
      exact go1 _ P1 H1 (.refl a1.rs) (wk_tup h1 h2)
  | _ => rw [c] at go1; exact go1.elim
theorem rangeI_get {a b : Int} {i : Nat} {d : D} (h : ((rangeI a b 1).map D.int)[i]? = some d) : d = .int (a + i) := by
  unfold rangeI at h
  rw [List.getElem?_map, List.getElem?_map] at h
  by_cases z : i < rangeN a b 1
  · rw [List.getElem?_range z] at h
    simp at h
    exact h.symm
  · rw [List.getElem?_eq_none (by simpa using Nat.le_of_not_lt z)] at h
    cases h
theorem wk_rng (P : Hp) (a b : Int) : Wk T P (Itr a (b - a).toNat) ((rangeI a b 1).map D.int) where
  go := fun i H hi _ => by
    have z : i < (b - a).toNat := by simpa only [rangeI, rangeN, List.length_map, List.length_range, if_true] using hi
    exact z
  stop := fun H _ => by
    show (b - a).toNat ≤ _
    simp [rangeI, rangeN]
  yld := fun i d H x H' Pc hd _ _ y => by
    obtain ⟨rfl, rfl⟩ := y
    rw [rangeI_get hd]
    exact .inl ⟨rfl, by simp only [Rep]⟩
section
variable {fa fb fc : En → R (Nat ⊕ D)}
theorem di_rng1 {a : PySem.Expr} {p pos : Pos} (hg : Gl X "range") (hm : X.mg "range" = none) (hs : notStar a = true) (ha : PE X a (tB T W fa)) :
    PI X tg (.Call (.Name "range" p) [a] [] pos) (tI T W fun r => (fa r).bind fun x r1 => R.of (match res r1 [x] with | some [u] => rngD [u] | _ => none) r1) := by
  refine piImp (pi_range1 hg hm (pa_cons ha pa_nil (star_one hs _ _)) (star_one hs [] X.env)) fun σ H Q ⟨P, r, rs, go⟩ => ⟨P, r, rs, (Go.bind (anti_I T) go).mono fun us H1 ⟨P1, r1, x, a1, q1, e1, go1⟩ => ?_⟩
  cases c : res r1 [x] with
  | none => rw [c] at go1; exact go1.elim
  | some ds =>
    obtain ⟨d, rfl, z1⟩ := res1 a1.rs q1 c
    rw [c] at go1
    dsimp only at go1
    cases d with
    | int n =>
      simp only [rngD] at go1
      split at go1
      · rename_i hn
        rw [sm62_iff] at hn
        refine ⟨n, by rw [z1.int], hn.1, hn.2.1, go1 _ P1 H1 (.refl a1.rs) ?_⟩
        have z := wk_rng (T := T) P1 0 n
        rw [Int.sub_zero] at z
        exact z
      · exact go1.elim
    | _ => exact go1.elim
theorem di_rng2 {a b : PySem.Expr} {p pos : Pos} (hg : Gl X "range") (hm : X.mg "range" = none) (hs : notStar a = true) (hs' : notStar b = true) (ha : PE X a (tB T W fa)) (hb : PE X b (tB T W fb)) :
    PI X tg (.Call (.Name "range" p) [a, b] [] pos) (tI T W fun r => (fa r).bind fun x r1 => (fb r1).bind fun y r2 => R.of (match res r2 [x, y] with | some [u, v] => rngD [u, v] | _ => none) r2) := by
  refine piImp (pi_range2 hg hm (pa_cons ha (pa_cons hb pa_nil (star_one hs' _ _)) (star_one hs _ _)) (by rw [star_one hs, star_one hs']; rfl) (by rw [star_one hs']; rfl)) fun σ H Q ⟨P, r, rs, go⟩ => ⟨P, r, rs, (Go.bind (anti_I T) go).mono fun u H1 ⟨P1, r1, x, a1, q1, e1, go1⟩ => ⟨P1, r1, a1.rs, (Go.bind (anti_I T) go1).mono fun v H2 ⟨P2, r2, y, a2, q2, e2, go2⟩ => ?_⟩⟩
  cases c : res r2 [x, y] with
  | none => rw [c] at go2; exact go2.elim
  | some ds =>
    obtain ⟨d, d', rfl, z1, z2⟩ := res2 a2.rs (rb2 q1 a2.st.pp q2) c
    rw [c] at go2
    dsimp only at go2
    cases d with
    | int n =>
      cases d' with
      | int m =>
        simp only [rngD] at go2
        split at go2
        · rename_i hn
          simp only [sm62_iff, Bool.and_eq_true] at hn
          exact ⟨n, m, by rw [z1.int, z2.int], ⟨hn.1.1, hn.1.2.1, hn.2.1, hn.2.2.1⟩, go2 _ P2 H2 (.refl a2.rs) (wk_rng P2 n m)⟩
        · exact go2.elim
      | _ => exact go2.elim
    | _ => exact go2.elim
end
end
end Z
/-! ZJ: list comprehensions. -/
namespace Z
open PySem PySem.Spec L2
open PyProof.Rows hiding St
theorem wip_len (r : En) : ∀ vs : List Nat, (wip r vs).length = r.length
  | [] => rfl
  | v :: vs => by simp only [wip]; rw [List.length_set, wip_len r vs]
theorem wip_in (r : En) : ∀ {vs : List Nat} {j : Nat} {x : Sl}, j ∈ vs → (wip r vs)[j]? = some x → x = .no
  | [], _, _, h, _ => by cases h
  | v :: vs, j, x, h, e => by
    simp only [wip] at e
    by_cases hv : v = j
    · subst hv
      by_cases z : v < (wip r vs).length
      · rw [List.getElem?_set_self z] at e; exact (Option.some.inj e).symm
      · rw [List.getElem?_eq_none (by simpa using z)] at e; cases e
    · rw [List.getElem?_set_ne hv] at e
      rcases List.mem_cons.mp h with h | h
      · exact absurd h.symm hv
      · exact wip_in r h e
theorem wip_out (r : En) : ∀ {vs : List Nat} {j : Nat}, j ∉ vs → (wip r vs)[j]? = r[j]?
  | [], _, _ => rfl
  | v :: vs, j, h => by
    simp only [List.mem_cons, not_or] at h
    simp only [wip]
    rw [List.getElem?_set_ne (Ne.symm h.1), wip_out r h.2]
theorem back_len (r0 r : En) : ∀ vs : List Nat, (back r0 r vs).length = r.length
  | [] => rfl
  | v :: vs => by simp only [back]; rw [List.length_set, back_len r0 r vs]
theorem back_in (r0 r : En) : ∀ {vs : List Nat} {j : Nat} {x : Sl}, j ∈ vs → (back r0 r vs)[j]? = some x → x = r0.getD j .no
  | [], _, _, h, _ => by cases h
  | v :: vs, j, x, h, e => by
    simp only [back] at e
    by_cases hv : v = j
    · subst hv
      by_cases z : v < (back r0 r vs).length
      · rw [List.getElem?_set_self z] at e; exact (Option.some.inj e).symm
      · rw [List.getElem?_eq_none (by simpa using z)] at e; cases e
    · rw [List.getElem?_set_ne hv] at e
      rcases List.mem_cons.mp h with h | h
      · exact absurd h.symm hv
      · exact back_in r0 r h e
theorem back_out (r0 r : En) : ∀ {vs : List Nat} {j : Nat}, j ∉ vs → (back r0 r vs)[j]? = r[j]?
  | [], _, _ => rfl
  | v :: vs, j, h => by
    simp only [List.mem_cons, not_or] at h
    simp only [back]
    rw [List.getElem?_set_ne (Ne.symm h.1), back_out r0 r h.2]
mutual
theorem bindT_out : ∀ (t : Tg) (d : D) (r r' : En), bindT t d r = some r' → r'.length = r.length ∧ ∀ j, j ∉ tgS t → r'[j]? = r[j]?
  | .v i, d, r, r', e => by
    simp only [bindT, En.put] at e
    split at e
    · cases e
    · cases e
      refine ⟨by rw [List.length_set], fun j h => ?_⟩
      simp only [tgS, List.mem_singleton] at h
      exact List.getElem?_set_ne (Ne.symm h)
    · cases e
  | .t ts, d, r, r', e => by
    cases d with
    | tup ds =>
      simp only [bindT] at e
      obtain ⟨h1, h2⟩ := bindTs_out ts ds r r' e
      exact ⟨h1, fun j h => h2 j (by simpa only [tgS] using h)⟩
    | lst ds =>
      simp only [bindT] at e
      obtain ⟨h1, h2⟩ := bindTs_out ts ds r r' e
      exact ⟨h1, fun j h => h2 j (by simpa only [tgS] using h)⟩
    | _ => simp [bindT] at e
theorem bindTs_out : ∀ (ts : List Tg) (ds : List D) (r r' : En), bindTs ts ds r = some r' → r'.length = r.length ∧ ∀ j, j ∉ tgSs ts → r'[j]? = r[j]?
  | [], [], r, r', e => by
    simp only [bindTs, Option.some.injEq] at e
    subst e
    exact ⟨rfl, fun _ _ => rfl⟩
  | [], _ :: _, r, r', e => by simp [bindTs] at e
  | _ :: _, [], r, r', e => by simp [bindTs] at e
  | t :: ts, d :: ds, r, r', e => by
    simp only [bindTs] at e
    cases c : bindT t d r with
    | none => rw [c] at e; cases e
    | some r1 =>
      rw [c] at e
      obtain ⟨h1, h2⟩ := bindT_out t d r r1 c
      obtain ⟨h3, h4⟩ := bindTs_out ts ds r1 r' e
      refine ⟨h3.trans h1, fun j h => ?_⟩
      simp only [tgSs, List.mem_append, not_or] at h
      exact (h4 j h.2).trans (h2 j h.1)
end
theorem nox_noexc {A : Type} (x : R A) (c : Nat) (v : D) (r : En) : x.nox ≠ .exc c v r := by cases x <;> simp [R.nox]
theorem lcL_noexc (f : D → En → R (Option D)) : ∀ (l : List D) (acc : List D) (r : En) (c : Nat) (v : D) (r' : En), lcL f l acc r ≠ .exc c v r'
  | [], acc, r, c, v, r', e => by simp [lcL] at e
  | x :: xs, acc, r, c, v, r', e => by
    simp only [lcL] at e
    cases h : (f x r).nox with
    | ok o r1 =>
      rw [h] at e
      simp only [R.bind_ok] at e
      cases o with
      | none => exact lcL_noexc f xs acc r1 c v r' e
      | some y =>
        dsimp only at e
        split at e
        · exact lcL_noexc f xs _ r1 c v r' e
        · cases e
    | exc c' v' r1 => exact nox_noexc _ _ _ _ h
    | bad => rw [h] at e; cases e
theorem nox_ok_inv {A : Type} {x : R A} {a : A} {r : En} (h : x.nox = .ok a r) : x = .ok a r := by
  cases x <;> simp [R.nox] at h ⊢; exact h
theorem lcL_inv {f : D → En → R (Option D)} {x : D} {xs acc : List D} {r r6 : En} {ds : List D} (h : lcL f (x :: xs) acc r = .ok ds r6) :
    ∃ o r1, f x r = .ok o r1 ∧ ((o = none ∧ lcL f xs acc r1 = .ok ds r6) ∨ ∃ y, o = some y ∧ acc.length < LINE ∧ lcL f xs (acc ++ [y]) r1 = .ok ds r6) := by
  simp only [lcL] at h
  cases e : (f x r).nox with
  | ok o r1 =>
    rw [e] at h
    simp only [R.bind_ok] at h
    refine ⟨o, r1, nox_ok_inv e, ?_⟩
    cases o with
    | none => exact .inl ⟨rfl, h⟩
    | some y =>
      dsimp only at h
      split at h
      · rename_i hl
        exact .inr ⟨y, rfl, hl, h⟩
      · cases h
  | exc c v r1 => rw [e] at h; cases h
  | bad => rw [e] at h; cases h
section
variable {T : Tb} {σ : St} {P H : Hp} {r : En}
theorem RS.wip (h : RS T P H σ r) (vs : List Nat) : RS T P H (wipe σ vs) (wip r vs) := by
  have get : ∀ (j : Nat) (x : Sl), (Z.wip r vs)[j]? = some x → x ≠ .no → j ∉ vs ∧ r[j]? = some x := fun j x e n => by
    by_cases z : j ∈ vs
    · exact absurd (wip_in r z e) n
    · rw [wip_out r z] at e; exact ⟨z, e⟩
  have so : ∀ j, j ∉ vs → (wipe σ vs)[j]? = σ[j]? := fun j z => L2.wipe_out z
  have own : ∀ j, OwnAt (Z.wip r vs) j → j ∉ vs ∧ OwnAt r j := fun j ⟨d, o⟩ => by
    rcases o with o | o
    · obtain ⟨z, e⟩ := get j _ o (by intro w; cases w)
      exact ⟨z, d, .inl e⟩
    · obtain ⟨z, e⟩ := get j _ o (by intro w; cases w)
      exact ⟨z, d, .inr e⟩
  refine ⟨h.sub, by rw [wip_len, L2.wipe_length]; exact h.len, fun j d e => ?_, fun j d e => ?_, fun j k a o1 o2 s1 s2 => ?_⟩
  · obtain ⟨z, e⟩ := get j _ e (by intro w; cases w)
    obtain ⟨v, e1, e2⟩ := h.sh j d e
    exact ⟨v, by rw [so j z]; exact e1, e2⟩
  · have e' : j ∉ vs ∧ (r[j]? = some (Sl.ow d) ∨ r[j]? = some (Sl.io d)) := by
      rcases e with e | e
      · obtain ⟨z, e⟩ := get j _ e (by intro w; cases w); exact ⟨z, .inl e⟩
      · obtain ⟨z, e⟩ := get j _ e (by intro w; cases w); exact ⟨z, .inr e⟩
    obtain ⟨a, e1, e2⟩ := h.own j d e'.2
    exact ⟨a, by rw [so j e'.1]; exact e1, e2⟩
  · obtain ⟨z1, o1⟩ := own j o1
    obtain ⟨z2, o2⟩ := own k o2
    rw [so j z1] at s1
    rw [so k z2] at s2
    exact h.dis j k a o1 o2 s1 s2
theorem own_wip (vs : List Nat) {a : Addr} (h : Own (wipe σ vs) (wip r vs) a) : Own σ r a := by
  obtain ⟨i, ⟨d, o⟩, s⟩ := h
  have z : i ∉ vs := fun z => by
    rcases o with o | o
    · exact nomatch wip_in r z o
    · exact nomatch wip_in r z o
  rw [wip_out r z] at o
  rw [L2.wipe_out z] at s
  exact ⟨i, ⟨d, o⟩, s⟩
theorem RS.updD (h : RS T P H σ r) {D : Addr} {o : HO} (n : P D = none) (no : ¬ Own σ r D) : RS T P (upd H D o) σ r :=
  h.grow (.refl _) (upd_sub h.sub n) fun a q => ⟨h.ownfree q, by rw [upd_ne (fun z => no (by rw [← z]; exact q))]⟩
end
def WF : WX := fun _ _ _ _ => False
section
variable {X : Cx} {T : Tb} {W : WX}
/-- the turn of a comprehension -/
def lcF (t : Tg) (fc : En → R Bool) (fe : En → R Val) (vs : List Nat) (x : D) (r2 : En) : R (Option D) :=
  (R.of (bindT t x (wip r2 vs)) r2).bind fun r3 _ => (fc r3).bind fun k r4 => if k = true then (fe r4).bind fun v r5 => .ok (some v.d) r5 else .ok none r4
theorem lcF_inv {t : Tg} {fc : En → R Bool} {fe : En → R Val} {vs : List Nat} {x : D} {r2 r5 : En} {o : Option D} (h : lcF t fc fe vs x r2 = .ok o r5) :
    ∃ r3 k r4, bindT t x (wip r2 vs) = some r3 ∧ fc r3 = .ok k r4 ∧ ((k = false ∧ o = none ∧ r5 = r4) ∨ (k = true ∧ ∃ v, fe r4 = .ok v r5 ∧ o = some v.d)) := by
  unfold lcF at h
  cases c : bindT t x (wip r2 vs) with
  | none => rw [c] at h; cases h
  | some r3 =>
    rw [c] at h
    simp only [R.of_some, R.bind_ok] at h
    cases c2 : fc r3 with
    | ok k r4 =>
      rw [c2] at h
      simp only [R.bind_ok] at h
      refine ⟨r3, k, r4, rfl, c2, ?_⟩
      cases k with
      | false =>
        simp only [Bool.false_eq_true, if_false] at h
        cases h
        exact .inl ⟨rfl, rfl, rfl⟩
      | true =>
        simp only [if_true] at h
        cases c3 : fe r4 with
        | ok v r6 =>
          rw [c3] at h
          simp only [R.bind_ok] at h
          cases h
          exact .inr ⟨rfl, v, rfl, rfl⟩
        | exc _ _ _ => rw [c3] at h; cases h
        | bad => rw [c3] at h; cases h
    | exc _ _ _ => rw [c2] at h; cases h
    | bad => rw [c2] at h; cases h
theorem de_lc00 {x : R (List D)} {t : Tg} {fc : En → R Bool} {fe : En → R Val} (vs : List Nat) (σ : St) (H : Hp) (Q : VK) (P : Hp) (r : En) (rs : RS T P H σ r)
    (go : Go T W (relV T) σ P H r (x.bind fun l r1 => if ownFree r1 vs && (tgS t).all vs.contains then
      (lcL (lcF t fc fe vs) l [] (wip r1 vs)).bind fun ds r6 => thawL r ds (back r1 r6 vs) else .bad) Q) :
    Go T W (relI T) σ P H r x fun J H1 => tLc (fun _ _ R => R J H1) (gD T t) (tK T WF fc) (tE T WF fe) vs σ H Q := by
  have gox := go
  refine (Go.bind (anti_V T) go).mono fun J H1 ⟨P1, r1, l, a1, wk, e1, go1⟩ => ?_
  unfold tLc
  by_cases cond : (ownFree r1 vs && (tgS t).all vs.contains) = true
  rotate_left
  · rw [if_neg cond] at go1; exact go1.elim
  rw [if_pos cond] at go1
  have condx := cond
  rw [Bool.and_eq_true] at cond
  obtain ⟨of, tin⟩ := cond
  have tin' : ∀ j, j ∈ tgS t → j ∈ vs := fun j h => by
    have z := List.all_eq_true.mp tin j h
    simpa using z
  intro D nD
  have hok : ∃ ds r6, lcL (lcF t fc fe vs) l [] (wip r1 vs) = .ok ds r6 := by
    cases c : lcL (lcF t fc fe vs) l [] (wip r1 vs) with
    | ok ds r6 => exact ⟨ds, r6, rfl⟩
    | exc c' v r' => exact absurd c (lcL_noexc _ _ _ _ _ _ _)
    | bad => rw [c] at go1; exact go1.elim
  obtain ⟨ds, r6, hok⟩ := hok
  have rs1 := a1.rs
  have nP : P1 D = none := rs1.sub.free nD
  have nO : ¬ Own σ r1 D := fun o => by
    obtain ⟨x, e⟩ := rs1.ownsome o
    rw [nD] at e; cases e
  -- the word of the loop
  let Pv : Nat → Hp → Prop := fun i H' => ∃ P' r2 acc accV, lcL (lcF t fc fe vs) (l.drop i) acc r2 = .ok ds r6 ∧ RS T P' H' (wipe σ vs) (wip r2 vs) ∧
    Stp (fun b => Own (wipe σ vs) (wip r1 vs) b ∨ b = D) P1 (upd H1 D (.lst [])) P' H' ∧ r2.length = r1.length ∧ (∀ (j : Nat) (x x' : Sl), j ∉ vs → r1[j]? = some x → r2[j]? = some x' → kle x x') ∧
    H' D = some (.lst accV) ∧ Reps T P' acc accV ∧ P' D = none
  have ownK : ∀ {r2 : En}, r2.length = r1.length → (∀ (j : Nat) (x x' : Sl), j ∉ vs → r1[j]? = some x → r2[j]? = some x' → kle x x') → ∀ b, Own (wipe σ vs) (wip r2 vs) b → Own (wipe σ vs) (wip r1 vs) b := fun {r2} hl hk b ⟨j, ⟨d, o⟩, s⟩ => by
    have z : j ∉ vs := fun z => by
      rcases o with o | o
      · exact nomatch wip_in r2 z o
      · exact nomatch wip_in r2 z o
    rw [wip_out r2 z] at o
    have hj : j < r1.length := by
      rw [← hl]
      rcases o with o | o <;> exact (List.getElem?_eq_some_iff.mp o).1
    have q := List.getElem?_eq_getElem hj
    refine ⟨j, ?_, s⟩
    rcases o with o | o
    · have w := hk j _ _ z q o
      cases c : r1[j] with
      | ow d' => exact ⟨d', .inl (by rw [wip_out r1 z, q, c])⟩
      | _ => rw [c] at w; exact False.elim w
    · have w := hk j _ _ z q o
      cases c : r1[j] with
      | io d' => exact ⟨d', .inr (by rw [wip_out r1 z, q, c])⟩
      | _ => rw [c] at w; exact False.elim w
  refine ⟨fun i m H' => m = l.length - i ∧ i ≤ l.length ∧ Pv i H', ⟨l.length, by simp, Nat.zero_le _, ?_⟩, ?_⟩
  · refine ⟨P1, wip r1 vs, [], [], by rw [List.drop_zero]; exact hok, ?_, .refl, wip_len r1 vs, fun j x x' z h1 h2 => ?_, upd_same, .nil, nP⟩
    · have z := (Aft.laidO (o := .lst []) rs1 nD).rs.wip vs
      have e : wip (wip r1 vs) vs = wip r1 vs := by
        apply List.ext_getElem?
        intro j
        by_cases z : j ∈ vs
        · by_cases hj : j < r1.length
          · have h1 : j < (wip (wip r1 vs) vs).length := by rw [wip_len, wip_len]; exact hj
            have h2 : j < (wip r1 vs).length := by rw [wip_len]; exact hj
            rw [List.getElem?_eq_getElem h1, List.getElem?_eq_getElem h2, wip_in _ z (List.getElem?_eq_getElem h1), wip_in _ z (List.getElem?_eq_getElem h2)]
          · rw [List.getElem?_eq_none (by rw [wip_len, wip_len]; omega), List.getElem?_eq_none (by rw [wip_len]; omega)]
        · rw [wip_out _ z]
      rw [e]
      exact z
    · rw [wip_out r1 z, h1] at h2
      cases h2
      exact kle.refl x
  · rintro i m H' ⟨rfl, hi, P', r2, acc, accV, heq, rs2, st2, len2, kd2, hD, hacc, pD⟩
    by_cases hlt : i < l.length
    · refine .inr ⟨wk.go i H' hlt (st2.pp.trans rs2.sub), Pv (i + 1), fun H2 pv => ⟨l.length - (i + 1), by omega, rfl, hlt, pv⟩, fun x H2 y => ?_⟩
      rw [List.drop_eq_getElem_cons hlt] at heq
      obtain ⟨o, r5, hf, hrest⟩ := lcL_inv heq
      obtain ⟨r3, k, r4, hb, hfc, hfe⟩ := lcF_inv hf
      -- the item
      have hyl : ∃ Pc, Aft T (wipe σ vs) P' H' (wip r2 vs) Pc H2 (wip r2 vs) ∧ Rep T Pc l[i] x := by
        rcases wk.yld i l[i] H' x H2 P' (List.getElem?_eq_getElem hlt) st2.pp rs2.sub y with ⟨rfl, rp⟩ | ⟨p, xs, es, np, rfl, rfl, e2, rp⟩
        · exact ⟨P', .refl rs2, rp⟩
        · refine ⟨upd P' p (.tup xs), Aft.laid rs2 np, ?_⟩
          rw [e2]
          simp only [Rep]
          exact ⟨p, xs, rfl, upd_same, Reps.ext (upd_ext (rs2.sub.free np)) _ _ rp⟩
      obtain ⟨Pc, ac, rx⟩ := hyl
      have nOw : ¬ Own (wipe σ vs) (wip r2 vs) D := fun o => nO (own_wip vs (ownK len2 kd2 D o))
      have hD2 : H2 D = some (.lst accV) := ac.st.fr _ _ hD nOw
      have pD2 : Pc D = none := by
        cases c : Pc D with
        | none => rfl
        | some o =>
          rcases ac.st.nw D (by rw [c]; intro z; cases z) with z | z | z
          · exact absurd pD z
          · exact absurd z (nt_lst hD)
          · exact absurd z nOw
      refine ⟨Pc, wip r2 vs, l[i], r3, ac.rs, rx, hb, fun σ2 aS ls os => ⟨?_, ?_⟩⟩
      · apply List.ext_getElem?
        intro j
        by_cases z : j ∈ vs
        · have both : ∀ τ : St, j < τ.length → (wipe τ vs)[j]? = some none := fun τ hj => by
            have h1 : j < (wipe τ vs).length := by rw [L2.wipe_length]; exact hj
            rw [List.getElem?_eq_getElem h1]
            cases c : (wipe τ vs)[j] with
            | none => rfl
            | some v =>
              have w : (wipe τ vs)[j]? = some (some v) := by rw [List.getElem?_eq_getElem h1, c]
              exact absurd z (L2.wipe_some w).2
          have ls' : σ2.length = σ.length := by rw [ls, L2.wipe_length]
          by_cases hj : j < σ.length
          · rw [both σ2 (by rw [ls']; exact hj), both σ hj]
          · rw [List.getElem?_eq_none (by rw [L2.wipe_length, ls']; omega), List.getElem?_eq_none (by rw [L2.wipe_length]; omega)]
        · rw [L2.wipe_out z, os j (fun w => z (tin' j w))]
      · have bo := bindT_out t l[i] (wip r2 vs) r3 hb
        have no3 : ¬ Own σ2 r3 D := fun o => by
          rcases aS.ow D o with z | z
          · exact nOw z
          · rw [hD2] at z; cases z
        refine ⟨Pc, r3, aS.rs, ?_⟩
        rw [hfc]
        intro k' P4 H4 a4 ek
        subst ek
        have hD4 : H4 D = some (.lst accV) := a4.st.fr _ _ hD2 no3
        have pD4 : P4 D = none := by
          cases c : P4 D with
          | none => rfl
          | some o =>
            rcases a4.st.nw D (by rw [c]; intro z; cases z) with z | z | z
            · exact absurd pD2 z
            · exact absurd z (nt_lst hD2)
            · exact absurd z no3
        have no4 : ¬ Own σ2 r4 D := fun o => no3 (a4.kd.owns o)
        have wσ : wipe σ2 vs = wipe σ vs := by
          apply List.ext_getElem?
          intro j
          by_cases z : j ∈ vs
          · have both : ∀ τ : St, j < τ.length → (wipe τ vs)[j]? = some none := fun τ hj => by
              have h1 : j < (wipe τ vs).length := by rw [L2.wipe_length]; exact hj
              rw [List.getElem?_eq_getElem h1]
              cases c : (wipe τ vs)[j] with
              | none => rfl
              | some v =>
                have w : (wipe τ vs)[j]? = some (some v) := by rw [List.getElem?_eq_getElem h1, c]
                exact absurd z (L2.wipe_some w).2
            have ls' : σ2.length = σ.length := by rw [ls, L2.wipe_length]
            by_cases hj : j < σ.length
            · rw [both σ2 (by rw [ls']; exact hj), both σ hj]
            · rw [List.getElem?_eq_none (by rw [L2.wipe_length, ls']; omega), List.getElem?_eq_none (by rw [L2.wipe_length]; omega)]
          · rw [L2.wipe_out z, os j (fun w => z (tin' j w))]
        -- from the turn's start to any later point
        have chain : ∀ {P5 H5 : Hp} {r5 : En}, Aft T σ2 Pc H2 r3 P5 H5 r5 → RS T P5 H5 (wipe σ vs) (wip r5 vs) ∧ Stp (fun b => Own (wipe σ vs) (wip r1 vs) b ∨ b = D) P1 (upd H1 D (.lst [])) P5 H5 ∧ r5.length = r1.length ∧
            (∀ (j : Nat) (x x' : Sl), j ∉ vs → r1[j]? = some x → r5[j]? = some x' → kle x x') := fun {P5 H5 r5} a5 => by
          refine ⟨by rw [← wσ]; exact a5.rs.wip vs, ?_, ?_, ?_⟩
          · refine (st2.trans ac.st fun c h => .inl (.inl (ownK len2 kd2 c h))).trans a5.st fun c h => ?_
            rcases aS.ow c h with z | z
            · exact .inl (.inl (ownK len2 kd2 c z))
            · exact .inr (st2.dm c (ac.st.dm c z))
          · rw [a5.kd.1, bo.1, wip_len, len2]
          · intro j x x' z h1 h2
            have hj : j < r2.length := by rw [len2]; exact (List.getElem?_eq_some_iff.mp h1).1
            have q2 := List.getElem?_eq_getElem hj
            have q3 : r3[j]? = some r2[j] := by rw [bo.2 j (fun w => z (tin' j w)), wip_out r2 z, q2]
            exact (kd2 j x _ z h1 q2).trans (a5.kd.2 j _ x' q3 h2)
        rcases hfe with ⟨rfl, rfl, rfl⟩ | ⟨rfl, v, hfe, rfl⟩
        · rw [if_neg Bool.false_ne_true]
          obtain ⟨c1, c2, c3, c4⟩ := chain a4
          rcases hrest with ⟨_, hr⟩ | ⟨_, z, _⟩
          · exact ⟨P4, r5, acc, accV, hr, c1, c2, c3, c4, hD4, Reps.ext (ac.st.pp.trans a4.st.pp) _ _ hacc, pD4⟩
          · cases z
        · rw [if_pos rfl]
          refine ⟨P4, r4, a4.rs, ?_⟩
          rw [hfe]
          intro u P5 H5 a5 rv
          obtain ⟨P6, a6, ex6, rp⟩ := RV.settle a4.rs a5 rv
          rcases hrest with ⟨z, _⟩ | ⟨y', ey, hlen, hr⟩
          · cases z
          cases ey
          have hD5 : H5 D = some (.lst accV) := a5.st.fr _ _ hD4 no4
          have a36 := a4.trans a6
          obtain ⟨c1, c2, c3, c4⟩ := chain a36
          have pD6 : P6 D = none := by
            cases c : P6 D with
            | none => rfl
            | some o =>
              rcases a6.st.nw D (by rw [c]; intro z; cases z) with z | z | z
              · exact absurd pD4 z
              · exact absurd z (nt_lst hD4)
              · exact absurd z no4
          have nOw5 : ¬ Own (wipe σ vs) (wip r5 vs) D := fun o => nO (own_wip vs (ownK c3 c4 D o))
          refine ⟨accV, hD5, by rw [hacc.length, ← LINE_eq]; exact hlen, P6, r5, acc ++ [v.d], accV ++ [u], hr, c1.updD pD6 nOw5, ⟨c2.pp, fun b o e n => ?_, fun b e => ?_, c2.nw⟩, c3, c4, upd_same, ?_, pD6⟩
          · have nb : b ≠ D := fun z => n (.inr z)
            rw [upd_ne nb]
            exact c2.fr b o e n
          · by_cases z : b = D
            · subst z; rw [upd_same] at e; cases e
            · rw [upd_ne z] at e; exact c2.dm b e
          · exact (Reps.ext (ac.st.pp.trans (a4.st.pp.trans a6.st.pp)) _ _ hacc).append (.cons rp .nil)
    · have ei : i = l.length := by omega
      subst ei
      refine .inl ⟨wk.stop H' (st2.pp.trans rs2.sub), ?_⟩
      rw [List.drop_length] at heq
      simp only [lcL] at heq
      rw [hok] at go1
      simp only [R.bind_ok] at go1
      obtain ⟨rfl, rfl⟩ : ds = acc ∧ r6 = r2 := by injection heq with h1 h2; exact ⟨h1.symm, h2.symm⟩
      -- back
      have get : ∀ (j : Nat) (x : Sl), (back r1 r6 vs)[j]? = some x → (j ∈ vs ∧ r1[j]? = some x) ∨ (j ∉ vs ∧ (wip r6 vs)[j]? = some x) := fun j x e => by
        by_cases z : j ∈ vs
        · have hj : j < r1.length := by rw [← len2, ← back_len r1 r6 vs]; exact (List.getElem?_eq_some_iff.mp e).1
          have w := back_in r1 r6 z e
          rw [List.getD_eq_getElem?_getD, List.getElem?_eq_getElem hj] at w
          exact .inl ⟨z, by rw [List.getElem?_eq_getElem hj, w]; rfl⟩
        · rw [back_out r1 r6 z] at e
          exact .inr ⟨z, by rw [wip_out r6 z]; exact e⟩
      have nio : ∀ j d, j ∈ vs → r1[j]? ≠ some (Sl.io d) := fun j d h e => by
        have z := List.all_eq_true.mp of j h
        rw [e] at z
        cases z
      have so : ∀ j, j ∉ vs → (wipe σ vs)[j]? = σ[j]? := fun j z => L2.wipe_out z
      have hid : ∀ j a, j ∈ vs → OwnAt r1 j → σ[j]? = some (some (.ref a)) → ¬ Own (wipe σ vs) (wip r1 vs) a ∧ a ≠ D := fun j a z o s => by
        refine ⟨fun ⟨k, ⟨d, w⟩, sk⟩ => ?_, fun e => nO (by rw [← e]; exact ⟨j, o, s⟩)⟩
        have zk : k ∉ vs := fun y => by
          rcases w with w | w
          · exact nomatch wip_in r1 y w
          · exact nomatch wip_in r1 y w
        rw [wip_out r1 zk] at w
        rw [so k zk] at sk
        have := rs1.dis j k a o ⟨d, w⟩ s sk
        exact zk (this ▸ z)
      have hold : ∀ j a, j ∈ vs → OwnAt r1 j → σ[j]? = some (some (.ref a)) → H' a = H1 a ∧ P' a = none := fun j a z o s => by
        obtain ⟨h1, h2⟩ := hid j a z o s
        have o1 : Own σ r1 a := ⟨j, o, s⟩
        obtain ⟨x, hx⟩ := rs1.ownsome o1
        have n1 : ¬ (Own (wipe σ vs) (wip r1 vs) a ∨ a = D) := fun w => w.elim h1 h2
        refine ⟨by rw [hx]; exact st2.fr a x (by rw [upd_ne h2]; exact hx) n1, ?_⟩
        cases c : P' a with
        | none => rfl
        | some y =>
          rcases st2.nw a (by rw [c]; intro w; cases w) with w | w | w
          · exact absurd (rs1.ownfree o1) w
          · exact absurd (fun o e => w o (by rw [upd_ne h2]; exact e)) (rs1.ownNT o1)
          · exact absurd w n1
      have ownB : ∀ (j : Nat), OwnAt (back r1 r6 vs) j → (j ∈ vs ∧ OwnAt r1 j) ∨ (j ∉ vs ∧ OwnAt (wip r6 vs) j) := fun j ⟨d, o⟩ => by
        rcases o with o | o
        · rcases get j _ o with ⟨z, e⟩ | ⟨z, e⟩
          · exact .inl ⟨z, d, .inl e⟩
          · exact .inr ⟨z, d, .inl e⟩
        · rcases get j _ o with ⟨z, e⟩ | ⟨z, e⟩
          · exact .inl ⟨z, d, .inr e⟩
          · exact .inr ⟨z, d, .inr e⟩
      have ownB1 : ∀ j, OwnAt (back r1 r6 vs) j → OwnAt r1 j := fun j o => by
        rcases ownB j o with ⟨z, o⟩ | ⟨z, ⟨d, o⟩⟩
        · exact o
        · rw [wip_out r6 z] at o
          have hj : j < r1.length := by
            rw [← len2]
            rcases o with o | o <;> exact (List.getElem?_eq_some_iff.mp o).1
          have q := List.getElem?_eq_getElem hj
          rcases o with o | o
          · have w := kd2 j _ _ z q o
            cases c : r1[j] with
            | ow d' => exact ⟨d', .inl (by rw [q, c])⟩
            | _ => rw [c] at w; exact False.elim w
          · have w := kd2 j _ _ z q o
            cases c : r1[j] with
            | io d' => exact ⟨d', .inr (by rw [q, c])⟩
            | _ => rw [c] at w; exact False.elim w
      have aft : Aft T σ P1 H1 r1 P' H' (back r1 r6 vs) := by
        refine ⟨⟨rs2.sub, by rw [back_len, len2]; exact rs1.len, fun j d e => ?_, fun j d e => ?_, fun j k a o1 o2 s1 s2 => ?_⟩, ⟨st2.pp, fun b o e n => ?_, fun b e => ?_, fun b e => ?_⟩, ⟨by rw [back_len, len2], fun j x x' h1 h2 => ?_⟩⟩
        · rcases get j _ e with ⟨z, e⟩ | ⟨z, e⟩
          · obtain ⟨v, e1, e2⟩ := rs1.sh j d e
            exact ⟨v, e1, Rep.ext st2.pp _ _ e2⟩
          · obtain ⟨v, e1, e2⟩ := rs2.sh j d e
            exact ⟨v, by rw [← so j z]; exact e1, e2⟩
        · have e' : (j ∈ vs ∧ (r1[j]? = some (Sl.ow d) ∨ r1[j]? = some (Sl.io d))) ∨ (j ∉ vs ∧ ((wip r6 vs)[j]? = some (Sl.ow d) ∨ (wip r6 vs)[j]? = some (Sl.io d))) := by
            rcases e with e | e
            · rcases get j _ e with ⟨z, e⟩ | ⟨z, e⟩
              · exact .inl ⟨z, .inl e⟩
              · exact .inr ⟨z, .inl e⟩
            · rcases get j _ e with ⟨z, e⟩ | ⟨z, e⟩
              · exact .inl ⟨z, .inr e⟩
              · exact .inr ⟨z, .inr e⟩
          rcases e' with ⟨z, e⟩ | ⟨z, e⟩
          · obtain ⟨a, e1, e2, e3⟩ := rs1.own j d e
            obtain ⟨h1, h2⟩ := hold j a z ⟨d, e⟩ e1
            exact ⟨a, e1, h2, e3.move st2.pp h1⟩
          · obtain ⟨a, e1, e2, e3⟩ := rs2.own j d e
            exact ⟨a, by rw [← so j z]; exact e1, e2, e3⟩
        · exact rs1.dis j k a (ownB1 j o1) (ownB1 k o2) s1 s2
        · have nb : b ≠ D := fun z => by rw [z, nD] at e; cases e
          exact st2.fr b o (by rw [upd_ne nb]; exact e) fun w => w.elim (fun q => n (own_wip vs q)) nb
        · have := st2.dm b e
          by_cases z : b = D
          · subst z; exact nD
          · rw [upd_ne z] at this; exact this
        · rcases st2.nw b e with w | w | w | w
          · exact .inl w
          · by_cases z : b = D
            · subst z; exact .inr (.inl (.of nD))
            · exact .inr (.inl fun o e => w o (by rw [upd_ne z]; exact e))
          · exact .inr (.inr (own_wip vs w))
          · subst w; exact absurd pD e
        · rcases get j _ h2 with ⟨z, e⟩ | ⟨z, e⟩
          · rw [h1] at e; cases e; exact kle.refl x
          · rw [wip_out r6 z] at e
            exact kd2 j x x' z h1 e
      have aft0 : Aft T σ P H r P' H' (back r1 r6 vs) := a1.trans aft
      have go2 : Go T W (relV T) σ P H r (thawL r ds (back r1 r6 vs)) Q := by
        rw [e1, R.bind_ok, if_pos condx, hok, R.bind_ok] at gox
        exact gox
      have rv : RV T H P' H' (.ow (.lst ds)) (.ref D) := ⟨D, rfl, pD, ⟨accV, hD, hacc⟩, a1.st.dm D nD⟩
      unfold thawL at go2
      by_cases fl : ds.all flat = true
      · rw [if_pos fl] at go2
        cases cw : thw r (back r1 r6 vs) with
        | none => rw [cw] at go2; exact go2 (.ref D) P' H' aft0 rv
        | some r2 =>
          rw [cw] at go2
          refine go2 (.ref D) P H' (thw_ok rs aft0 cw) ⟨D, rfl, ?_, ⟨accV, hD, flats_rep fl hacc⟩, a1.st.dm D nD⟩
          cases z : P D with
          | none => rfl
          | some w => rw [aft0.st.pp _ _ z] at pD; cases pD
      · rw [if_neg fl] at go2
        exact go2 (.ref D) P' H' aft0 rv
theorem de_lc0 {fi : En → R (List D)} {t : Tg} {fc : En → R Bool} {fe : En → R Val} (vs : List Nat) :
    ∀ (σ : St) (H : Hp) (Q : VK), tE T W (fun r => (fi r).bind fun l r1 => if ownFree r1 vs && (tgS t).all vs.contains then
      (lcL (lcF t fc fe vs) l [] (wip r1 vs)).bind fun ds r6 => thawL r ds (back r1 r6 vs) else .bad) σ H Q →
      tLc (tI T W fi) (gD T t) (tK T WF fc) (tE T WF fe) vs σ H Q :=
  fun σ H Q ⟨P, r, rs, go⟩ => ⟨P, r, rs, de_lc00 vs σ H Q P r rs go⟩
theorem de_lc {elt tg iter : PySem.Expr} {ifs : List PySem.Expr} {scope : Scope} {own : List (Str × Nat)} {pos : Pos} {fi : En → R (List D)} {t : Tg} {fc : En → R Bool} {fe : En → R Val}
    (hc : X.calm = true) (hN : X.N.Nodup) (hi : PI X tg iter (tI T W fi)) (ok : BlkOk X.N X.env.scope scope own)
    (hg : ∀ (s : Shared) (H : Hp) (C : Addr) (cl : List (Str × Addr)) (fp : List Addr), PG (X.blk s H scope (compEnvC scope cl C X.env) fp) tg (gD T t))
    (ht : ∀ (s : Shared) (H : Hp) (C : Addr) (cl : List (Str × Addr)) (fp : List Addr), PTs (X.blk s H scope (compEnvC scope cl C X.env) fp) ifs (tK T WF fc))
    (he : ∀ (s : Shared) (H : Hp) (C : Addr) (cl : List (Str × Addr)) (fp : List Addr), PE (X.blk s H scope (compEnvC scope cl C X.env) fp) elt (tE T WF fe))
    (hs : ∀ x, foldedSetIterable iter X.env x = pure x) :
    ∀ (σ : St) (H : Hp) (Q : VK), tE T W (fun r => (fi r).bind fun l r1 => if ownFree r1 (own.map (·.2)) && (tgS t).all (own.map (·.2)).contains then
      (lcL (lcF t fc fe (own.map (·.2))) l [] (wip r1 (own.map (·.2)))).bind fun ds r6 => thawL r ds (back r1 r6 (own.map (·.2))) else .bad) σ H Q →
      tLc (tI T W fi) (gD T t) (tK T WF fc) (tE T WF fe) (own.map (·.2)) σ H Q := fun σ H Q h => de_lc0 _ σ H Q h
end
end Z
/-! ZK: statements. -/
namespace Z
open PySem PySem.Spec L2
open PyProof.Rows hiding St
/-- what is handed back: a settled thing, a new one, or one that a local name owned -/
def RL (T : Tb) (σ : St) (r : En) (H P' H' : Hp) (v : Val) (u : V) : Prop :=
  match v with
  | .sh d => Rep T P' d u
  | .ow d => ∃ a, u = .ref a ∧ P' a = none ∧ RepO T P' H' a d ∧ (H a = none ∨ OwnL σ r a)
def GoS (T : Tb) (W : WX) (σ : St) (P H : Hp) (r : En) (o : O) (D : Ends) : Prop :=
  match o with
  | .nx r' => ∀ σ' P' H', AftS T σ P H r σ' P' H' r' → D.nx σ' H'
  | .ret v r' => ∀ u σ' P' H', AftS T σ P H r σ' P' H' r' → RL T σ r H P' H' v u → D.rt u H'
  | .brk r' => ∀ σ' P' H', AftS T σ P H r σ' P' H' r' → D.bk σ' H'
  | .cnt r' => ∀ σ' P' H', AftS T σ P H r σ' P' H' r' → D.ct σ' H'
  | .exc c d r' => ∀ u σ' P' H', AftS T σ P H r σ' P' H' r' → Rep T P' d u → W c u σ' H'
  | .bad => False
section
variable {T : Tb} {W : WX} {σ σ1 : St} {P H P1 H1 : Hp} {r r1 : En} {o : O} {D : Ends}
theorem RL.back (a : AftS T σ P H r σ1 P1 H1 r1) {P' H' : Hp} {v : Val} {u : V} (h : RL T σ1 r1 H1 P' H' v u) : RL T σ r H P' H' v u := by
  cases v with
  | sh d => exact h
  | ow d =>
    obtain ⟨b, e, n, ro, f⟩ := h
    refine ⟨b, e, n, ro, ?_⟩
    rcases f with f | f
    · exact .inl (a.st.dm b f)
    · exact (a.ol b f).symm
theorem GoS.step (a : AftS T σ P H r σ1 P1 H1 r1) (h : GoS T W σ P H r o D) : GoS T W σ1 P1 H1 r1 o D := by
  cases o with
  | nx r' => exact fun σ' P' H' b => h σ' P' H' (a.trans b)
  | ret v r' => exact fun u σ' P' H' b q => h u σ' P' H' (a.trans b) (q.back a)
  | brk r' => exact fun σ' P' H' b => h σ' P' H' (a.trans b)
  | cnt r' => exact fun σ' P' H' b => h σ' P' H' (a.trans b)
  | exc c d r' => exact fun u σ' P' H' b q => h u σ' P' H' (a.trans b) q
  | bad => exact h
theorem GoS.then {g : En → O} (h : GoS T W σ P H r (o.then g) D) :
    GoS T W σ P H r o { D with nx := fun σ1 H1 => ∃ P1 r1, AftS T σ P H r σ1 P1 H1 r1 ∧ o = .nx r1 ∧ GoS T W σ1 P1 H1 r1 (g r1) D } := by
  cases o with
  | nx r' => exact fun σ' P' H' b => ⟨P', r', b, rfl, GoS.step b h⟩
  | ret v r' => exact h
  | brk r' => exact h
  | cnt r' => exact h
  | exc c d r' => exact h
  | bad => exact h
theorem GoS.mono {D' : Ends} (h : GoS T W σ P H r o D) (k1 : ∀ σ H, D.nx σ H → D'.nx σ H) (k2 : ∀ u H, D.rt u H → D'.rt u H) (k3 : ∀ σ H, D.bk σ H → D'.bk σ H) (k4 : ∀ σ H, D.ct σ H → D'.ct σ H) : GoS T W σ P H r o D' := by
  cases o with
  | nx r' => exact fun σ' P' H' b => k1 _ _ (h σ' P' H' b)
  | ret v r' => exact fun u σ' P' H' b q => k2 _ _ (h u σ' P' H' b q)
  | brk r' => exact fun σ' P' H' b => k3 _ _ (h σ' P' H' b)
  | cnt r' => exact fun σ' P' H' b => k4 _ _ (h σ' P' H' b)
  | exc c d r' => exact h
  | bad => exact h
/-- an expression ahead of a statement's end -/
theorem GoS.run {A B : Type} {rel : Rel A B} {x : R A} {g : A → En → O} (h : GoS T W σ P H r (x.run g) D) :
    Go T W rel σ P H r x fun u H1 => ∃ P1 r1 v, Aft T σ P H r P1 H1 r1 ∧ rel H P1 H1 v u ∧ x = .ok v r1 ∧ GoS T W σ P1 H1 r1 (g v r1) D := by
  cases x with
  | ok v r' => exact fun u P' H' b q => ⟨P', r', v, b, q, rfl, GoS.step b.toS h⟩
  | exc c d r' => exact fun u P' H' b q => h u σ P' H' b.toS q
  | bad => exact h
/-- .. settled -/
theorem GoS.runS {x : R Val} {g : Val → En → O} (rs : RS T P H σ r) (h : GoS T W σ P H r (x.run g) D) :
    Go T W (relV T) σ P H r x fun u H1 => ∃ P1 r1 v, Aft T σ P H r P1 H1 r1 ∧ Rep T P1 v.d u ∧ x = .ok v r1 ∧ GoS T W σ P1 H1 r1 (g v r1) D := by
  refine (GoS.run h).mono fun u H1 ⟨P1, r1, v, a, q, e, h1⟩ => ?_
  obtain ⟨P2, a2, ex, rp⟩ := RV.settle rs a q
  refine ⟨P2, r1, v, a2, rp, e, ?_⟩
  subst e
  exact GoS.step a2.toS h
/-- .. with the slots' start kept: an owned value may be stored -/
theorem GoS.runW {x : R Val} {g : Val → En → O} (rs : RS T P H σ r) (h : GoS T W σ P H r (x.run g) D) :
    Go T W (relV T) σ P H r x fun u H1 => ∃ P1 r1 v, Aft T σ P H r P1 H1 r1 ∧ RW T σ H P1 H1 r1 v u ∧ x = .ok v r1 ∧ GoS T W σ P H r (g v r1) D := by
  refine (GoS.run h).mono fun u H1 ⟨P1, r1, v, a, q, e, h1⟩ => ⟨P1, r1, v, a, q.rw fun b o e => ?_, e, ?_⟩
  · obtain ⟨x, w⟩ := rs.ownsome (a.kd.owns o)
    rw [e] at w; cases w
  · subst e; exact h
end
/-- a statement's reading -/
def tD (T : Tb) (W : WX) (f : En → O) : TS := fun D σ H => ∃ P r, RS T P H σ r ∧ GoS T W σ P H r (f r) D
section
variable {X : Cx} {T : Tb} {W : WX} {st : Stmt}
theorem psImp {t t' : TS} (h : PS X st t) (k : ∀ D σ H, t' D σ H → t D σ H) : PS X st t' := ⟨fun pins s σ H D I q => h.run pins s σ H D I (k _ _ _ q)⟩
theorem pssImp {sts : List Stmt} {t t' : TS} (h : PSs X sts t) (k : ∀ D σ H, t' D σ H → t D σ H) : PSs X sts t' := ⟨fun pins s σ H D I q => h.run pins s σ H D I (k _ _ _ q)⟩
theorem dss_nil : PSs X [] (tD T W fun r => .nx r) := pssImp pss_nil fun D σ H ⟨P, r, rs, go⟩ => go σ P H (.refl rs)
theorem dss_cons {sts : List Stmt} {f g : En → O} (h1 : PS X st (tD T W f)) (h2 : PSs X sts (tD T W g)) : PSs X (st :: sts) (tD T W fun r => (f r).then g) :=
  pssImp (pss_cons h1 h2) fun D σ H ⟨P, r, rs, go⟩ => ⟨P, r, rs, (GoS.then go).mono (fun σ1 H1 ⟨P1, r1, a, _, q⟩ => ⟨P1, r1, a.rs, q⟩) (fun _ _ h => h) (fun _ _ h => h) (fun _ _ h => h)⟩
theorem ds_ex {e : PySem.Expr} {pos : Pos} {f : En → R Val} (he : PE X e (tE T W f)) (hs : swapsWith e none pos.line X.env = pure false) : PS X (.Expr e pos) (tD T W fun r => (f r).run fun _ r1 => .nx r1) :=
  psImp (ps_expr he hs) fun D σ H ⟨P, r, rs, go⟩ => ⟨P, r, rs, (GoS.run go).mono fun u H1 ⟨P1, r1, v, a, q, e, h1⟩ => h1 σ P1 H1 (.refl a.rs)⟩
theorem ds_ret {e : PySem.Expr} {pos : Pos} {f : En → R Val} (he : PE X e (tE T W f)) : PS X (.Return (some e) pos) (tD T W fun r => (f r).run fun v r1 => .ret v r1) :=
  psImp (ps_ret he) fun D σ H ⟨P, r, rs, go⟩ => ⟨P, r, rs, by
    dsimp only at go
    cases c : f r with
    | ok v r' =>
      rw [c] at go
      intro u P' H' b q
      refine go u σ P' H' b.toS ?_
      cases v with
      | sh d => exact q
      | ow d => obtain ⟨a, e, n, ro, f⟩ := q; exact ⟨a, e, n, ro, .inl f⟩
    | exc c' d r' => rw [c] at go; exact fun u P' H' b q => go u σ P' H' b.toS q
    | bad => rw [c] at go; exact go⟩
/-- return x: an owned thing is handed over -/
theorem ds_retv {C : Cf} {e : PySem.Expr} {pos : Pos} {i : Nat} (he : PE X e (tVar i)) : PS X (.Return (some e) pos) (tD T W fun r => (retV C (.var i) r).run fun v r1 => .ret v r1) :=
  psImp (ps_ret he) fun D σ H ⟨P, r, rs, go⟩ => by
    simp only [retV, isVar] at go
    cases c : r[i]? with
    | none => rw [c] at go; exact go.elim
    | some x =>
      rw [c] at go
      cases x with
      | no => exact go.elim
      | sh d => obtain ⟨v, e1, e2⟩ := rs.sh i d c; exact ⟨v, e1, go v σ P H (.refl rs) e2⟩
      | ow d =>
        obtain ⟨a, e1, n, ro⟩ := rs.own i d (.inl c)
        exact ⟨.ref a, e1, go (.ref a) σ P H (.refl rs) ⟨a, rfl, n, ro, .inr ⟨i, d, c, e1⟩⟩⟩
      | io d => exact go.elim
theorem ds_if {c : PySem.Expr} {a b : List Stmt} {pos : Pos} {t : En → R Bool} {f g : En → O} (hc : PT X c (tK T W t)) (ha : PSs X a (tD T W f)) (hb : PSs X b (tD T W g)) :
    PS X (.If c a b pos) (tD T W fun r => (t r).run fun k r1 => if k = true then f r1 else g r1) :=
  psImp (ps_if hc ha hb) fun D σ H ⟨P, r, rs, go⟩ => ⟨P, r, rs, (GoS.run go).mono fun k H1 ⟨P1, r1, v, a1, q, e, h1⟩ => by
    have q : k = v := q
    subst q
    cases k with
    | true => rw [if_pos rfl] at h1 ⊢; exact ⟨P1, r1, a1.rs, h1⟩
    | false => rw [if_neg Bool.false_ne_true] at h1 ⊢; exact ⟨P1, r1, a1.rs, h1⟩⟩
/-- x = e -/
theorem ds_set {te : TE} {i : Nat} {f : En → R Val} (h : PS X st (tAsg te (gName i))) (ht : ∀ σ H Q, tE T W f σ H Q → te σ H Q) : PS X st (tD T W fun r => (f r).run fun v r1 => O.of (r1.put i v)) :=
  psImp h fun D σ H ⟨P, r, rs, go⟩ => ht σ H _ ⟨P, r, rs, (GoS.runW rs go).mono fun u H1 ⟨P1, r1, v, a, q, e, h1⟩ => by
    cases c : r1.put i v with
    | none => rw [c] at h1; exact h1.elim
    | some r2 =>
      rw [c] at h1
      exact h1 _ P1 H1 (put_ok a.toS q c)⟩
/-- a, b = e -/
theorem ds_asgT {tg e : PySem.Expr} {pos : Pos} {f : En → R Val} {t : Tg} (he : PE X e (tE T W f)) (hg : PG X tg (gD T t)) (hs : swapsWithSole [tg] e pos.line X.env = pure false) (hw : swappedStores [tg] e X.env = pure none)
    (h1 : (assignEach [tg] X.env).map (·.2) = [assign tg X.env]) : PS X (.Assign [tg] e pos) (tD T W fun r => (f r).run fun v r1 => O.of (bindT t v.d r1)) :=
  psImp (ps_asg he hg hs hw h1) fun D σ H ⟨P, r, rs, go⟩ => ⟨P, r, rs, (GoS.runS rs go).mono fun u H1 ⟨P1, r1, v, a, q, e, h1⟩ => by
    cases c : bindT t v.d r1 with
    | none => rw [c] at h1; exact h1.elim
    | some r2 =>
      rw [c] at h1
      exact ⟨P1, r1, v.d, r2, a.rs, q, c, fun σ' aS _ _ => h1 σ' P1 H1 aS⟩⟩
/-- the thing that a slot owns is changed -/
theorem chg_ok {σ : St} {P H : Hp} {r r1 : En} {i : Nat} {d d' : D} {a : Addr} {o : HO} (rs : RS T P H σ r) (e0 : r.own? i = some d) (ea : σ[i]? = some (some (.ref a))) (e : r.chg i d' = some r1) (ro : RepO T P (upd H a o) a d') :
    Aft T σ P H r P (upd H a o) r1 := by
  have oi : OwnAt r i ∧ ∃ x, r[i]? = some x ∧ ((∃ d, x = .ow d ∧ r1 = r.set i (.ow d')) ∨ (∃ d, x = .io d ∧ r1 = r.set i (.io d'))) := by
    unfold En.chg at e
    cases c : r[i]? with
    | none => rw [c] at e; cases e
    | some x =>
      rw [c] at e
      cases x with
      | ow d => cases e; exact ⟨⟨d, .inl c⟩, _, rfl, .inl ⟨d, rfl, rfl⟩⟩
      | io d => cases e; exact ⟨⟨d, .inr c⟩, _, rfl, .inr ⟨d, rfl, rfl⟩⟩
      | _ => cases e
  obtain ⟨oi, x, cx, hx⟩ := oi
  obtain ⟨hi, hs⟩ := rs.get cx
  have own : Own σ r a := ⟨i, oi, ea⟩
  have pa : P a = none := rs.ownfree own
  obtain ⟨ox, hH⟩ := rs.ownsome own
  have key : ∃ y, r1 = r.set i y ∧ kle x y ∧ (∀ d2, y ≠ .sh d2) ∧ (∀ d2, (y = .ow d2 ∨ y = .io d2) → d2 = d') := by
    rcases hx with ⟨d2, rfl, rfl⟩ | ⟨d2, rfl, rfl⟩
    · exact ⟨_, rfl, trivial, fun _ h => (nomatch h), fun _ h => by rcases h with h | h <;> cases h; rfl⟩
    · exact ⟨_, rfl, trivial, fun _ h => (nomatch h), fun _ h => by rcases h with h | h <;> cases h; rfl⟩
  obtain ⟨y, rfl, hk, nsh, hy⟩ := key
  have ownJ : ∀ j, OwnAt (r.set i y) j → OwnAt r j := fun j ⟨d2, o2⟩ => by
    rcases o2 with o2 | o2
    · rcases set_get hi o2 with ⟨e1, _⟩ | ⟨_, e2⟩
      · rw [e1]; exact oi
      · exact ⟨d2, .inl e2⟩
    · rcases set_get hi o2 with ⟨e1, _⟩ | ⟨_, e2⟩
      · rw [e1]; exact oi
      · exact ⟨d2, .inr e2⟩
  refine ⟨⟨upd_sub rs.sub pa, by rw [List.length_set]; exact rs.len, fun j d2 z => ?_, fun j d2 z => ?_, fun j k b o1 o2 s1 s2 => rs.dis j k b (ownJ j o1) (ownJ k o2) s1 s2⟩, ⟨.refl _, fun b ob eb nb => ?_, fun b eb => ?_, fun b eb => .inl eb⟩, ⟨by rw [List.length_set], fun j x1 x2 h1 h2 => ?_⟩⟩
  · rcases set_get hi z with ⟨_, e2⟩ | ⟨_, e2⟩
    · exact absurd e2.symm (nsh d2)
    · exact rs.sh j d2 e2
  · have z' : (j = i ∧ (y = .ow d2 ∨ y = .io d2)) ∨ (j ≠ i ∧ (r[j]? = some (Sl.ow d2) ∨ r[j]? = some (Sl.io d2))) := by
      rcases z with z | z
      · rcases set_get hi z with ⟨e1, e2⟩ | ⟨n, e2⟩
        · exact .inl ⟨e1, .inl e2.symm⟩
        · exact .inr ⟨n, .inl e2⟩
      · rcases set_get hi z with ⟨e1, e2⟩ | ⟨n, e2⟩
        · exact .inl ⟨e1, .inr e2.symm⟩
        · exact .inr ⟨n, .inr e2⟩
    rcases z' with ⟨rfl, z'⟩ | ⟨n, z'⟩
    · rw [hy d2 z']
      exact ⟨a, ea, pa, ro⟩
    · obtain ⟨b, e1, e2, e3⟩ := rs.own j d2 z'
      have nb : b ≠ a := fun w => n (rs.dis j i b ⟨d2, z'⟩ oi e1 (by rw [w]; exact ea))
      exact ⟨b, e1, e2, e3.move (.refl _) (upd_ne nb)⟩
  · have nba : b ≠ a := fun w => nb (by rw [w]; exact own)
    rw [upd_ne nba]; exact eb
  · by_cases w : b = a
    · subst w; rw [upd_same] at eb; cases eb
    · rw [upd_ne w] at eb; exact eb
  · rcases set_get hi h2 with ⟨e1, e2⟩ | ⟨_, e2⟩
    · subst e1
      rw [cx] at h1; cases h1
      rw [e2]; exact hk
    · rw [h1] at e2; cases e2; exact kle.refl x1
theorem own_at {σ : St} {P H : Hp} {r : En} {i : Nat} {d : D} (rs : RS T P H σ r) (e : r.own? i = some d) : ∃ a, σ[i]? = some (some (.ref a)) ∧ P a = none ∧ RepO T P H a d := by
  unfold En.own? at e
  cases c : r[i]? with
  | none => rw [c] at e; cases e
  | some x =>
    rw [c] at e
    cases x with
    | ow d' => cases e; exact rs.own i d (.inl c)
    | io d' => cases e; exact rs.own i d (.inr c)
    | _ => cases e
/-- x[i] = e -/
theorem ds_seti {o ix e : PySem.Expr} {pos tpos : Pos} {i : Nat} {f g : En → R Val} (he : PE X e (tE T W f)) (ho : PE X o (tVar i)) (hi : PE X ix (tE T W g))
    (hs : swapsWithSole [.Subscript o ix tpos] e pos.line X.env = pure false) (hw : swappedStores [.Subscript o ix tpos] e X.env = pure none) (h1 : (assignEach [.Subscript o ix tpos] X.env).map (·.2) = [assign (.Subscript o ix tpos) X.env])
    (ha : ∀ v, assign (.Subscript o ix tpos) X.env v = (do
      let ov ← holding [v] (eval o X.env)
      let iv ← holding [v, ov] (eval ix X.env)
      standAt tpos
      holding [v, ov, iv] (setItem ov iv v)
      release [v, ov, iv] [])) :
    PS X (.Assign [.Subscript o ix tpos] e pos) (tD T W fun r => (f r).run fun v r1 => if (r1.own? i).isSome = true then (g r1).run fun k r2 => O.of ((r2.own? i).bind fun o => (setD o k.d v.d).bind fun d => r2.chg i d) else .bad) :=
  psImp (ps_asg he (pg_sub ho hi set_list ha) hs hw h1) fun D σ H ⟨P, r, rs, go⟩ => ⟨P, r, rs, (GoS.runS rs go).mono fun u H1 ⟨P1, r1, v, a1, q1, e1, go1⟩ => by
    by_cases hown : (r1.own? i).isSome = true
    rotate_left
    · rw [if_neg hown] at go1; exact go1.elim
    rw [if_pos hown] at go1
    obtain ⟨d0, hd0⟩ := Option.isSome_iff_exists.mp hown
    obtain ⟨a0, ea0, _, _⟩ := own_at a1.rs hd0
    obtain ⟨w, hw⟩ : ∃ w, σ[i]? = some (some w) := ⟨_, ea0⟩
    exact ⟨w, hw, P1, r1, a1.rs, (GoS.runS a1.rs go1).mono fun kx H2 ⟨P2, r2, k, a2, q2, e2, go2⟩ => by
      cases c : r2.own? i with
      | none => rw [c] at go2; exact go2.elim
      | some d =>
        rw [c] at go2
        simp only [Option.bind_some] at go2
        obtain ⟨a, ea, pa, ro⟩ := own_at a2.rs c
        rw [hw] at ea; cases ea
        cases d with
        | dct ks vs => simp [setD] at go2; exact go2.elim
        | dts ks => simp [setD] at go2; exact go2.elim
        | lst l =>
          obtain ⟨xs, hx, rx⟩ := ro
          cases c2 : setD (.lst l) k.d v.d with
          | none => rw [c2] at go2; exact go2.elim
          | some d' =>
            rw [c2] at go2
            simp only [Option.bind_some] at go2
            cases c3 : r2.chg i d' with
            | none => rw [c3] at go2; exact go2.elim
            | some r3 =>
              rw [c3] at go2
              cases ck : k.d with
              | int n =>
                rw [ck] at c2 q2
                simp only [Rep] at q2
                simp only [setD] at c2
                cases c4 : Z.ixN l.length n with
                | none => rw [c4] at c2; cases c2
                | some j =>
                  rw [c4] at c2
                  cases c2
                  refine ⟨a, xs, n, j, rfl, q2, hx, by rw [rx.length]; exact c4, go2 σ P2 _ (chg_ok a2.rs c hw c3 ?_).toS⟩
                  exact ⟨xs.set j u, upd_same, rx.set j (Rep.ext a2.st.pp _ _ q1)⟩
              | _ => rw [ck] at c2; simp [setD] at c2
        | _ => exact False.elim ro⟩⟩
end
end Z
/-! ZL: loops, several stores at once, methods that change. -/
namespace Z
open PySem PySem.Spec L2
open PyProof.Rows hiding St
section
variable {T : Tb} {W : WX} {σ : St} {P H : Hp} {r : En} {o : O} {D : Ends}
theorem GoS.turn {g : En → O} (h : GoS T W σ P H r (o.turn g) D) :
    GoS T W σ P H r o { D with nx := fun σ1 H1 => ∃ P1 r1, AftS T σ P H r σ1 P1 H1 r1 ∧ GoS T W σ1 P1 H1 r1 (g r1) D, ct := fun σ1 H1 => ∃ P1 r1, AftS T σ P H r σ1 P1 H1 r1 ∧ GoS T W σ1 P1 H1 r1 (g r1) D, bk := D.nx } := by
  cases o with
  | nx r' => exact fun σ' P' H' b => ⟨P', r', b, GoS.step b h⟩
  | cnt r' => exact fun σ' P' H' b => ⟨P', r', b, GoS.step b h⟩
  | ret v r' => exact h
  | brk r' => exact h
  | exc c d r' => exact h
  | bad => exact h
end
section
variable {X : Cx} {T : Tb} {W : WX} {st : Stmt}
theorem ds_for {tg iter : PySem.Expr} {body : List Stmt} {pos : Pos} {t : Tg} {fi : En → R (List D)} {fb : En → O} (hp : PassesOwn (model X.prog X.w) X.A X.env X.xe) (hc : X.calm = true) (hi : PI X tg iter (tI T W fi)) (hg : PG X tg (gD T t)) (hb : PSs X body (tD T W fb))
    (hs : ∀ x, foldedSetIterable iter X.env x = pure x) :
    PS X (.For tg iter body [] pos) (tD T W fun r => (fi r).run fun l r1 => forL (fun x r2 => (O.of (bindT t x r2)).then fun r3 => fb r3) l r1) :=
  psImp (ps_for hp hc hi hg hb hs) fun D σ H ⟨P, r, rs, go⟩ => ⟨P, r, rs, (GoS.run go).mono fun J H1 ⟨P1, r1, l, a1, wk, e1, go1⟩ => by
    have wk : Wk T P1 J l := wk
    refine ⟨fun i m σ' H' => m = l.length - i ∧ i ≤ l.length ∧ ∃ P' r2, AftS T σ P1 H1 r1 σ' P' H' r2 ∧ GoS T W σ' P' H' r2 (forL (fun x r2 => (O.of (bindT t x r2)).then fun r3 => fb r3) (l.drop i) r2) D,
      ⟨l.length, by simp, Nat.zero_le _, P1, r1, .refl a1.rs, by rw [List.drop_zero]; exact go1⟩, ?_⟩
    rintro i m σ' H' ⟨rfl, hi, P', r2, aS, go2⟩
    by_cases hlt : i < l.length
    · refine .inr ⟨wk.go i H' hlt (aS.st.pp.trans aS.rs.sub), fun σ2 H2 => ∃ P2 r3, AftS T σ P1 H1 r1 σ2 P2 H2 r3 ∧ GoS T W σ2 P2 H2 r3 (forL (fun x r2 => (O.of (bindT t x r2)).then fun r3 => fb r3) (l.drop (i + 1)) r3) D,
        fun σ2 H2 ⟨P2, r3, b, g⟩ => ⟨l.length - (i + 1), by omega, rfl, hlt, P2, r3, b, g⟩, fun x H2 y => ?_⟩
      rw [List.drop_eq_getElem_cons hlt] at go2
      have hyl : ∃ Pc, Aft T σ' P' H' r2 Pc H2 r2 ∧ Rep T Pc l[i] x := by
        rcases wk.yld i l[i] H' x H2 P' (List.getElem?_eq_getElem hlt) aS.st.pp aS.rs.sub y with ⟨rfl, rp⟩ | ⟨p, xs, es, np, rfl, rfl, e2, rp⟩
        · exact ⟨P', .refl aS.rs, rp⟩
        · refine ⟨upd P' p (.tup xs), Aft.laid aS.rs np, ?_⟩
          rw [e2]
          simp only [Rep]
          exact ⟨p, xs, rfl, upd_same, Reps.ext (upd_ext (aS.rs.sub.free np)) _ _ rp⟩
      obtain ⟨Pc, ac, rx⟩ := hyl
      simp only [forL] at go2
      cases c : bindT t l[i] r2 with
      | none => rw [c] at go2; exact go2.elim
      | some r3 =>
        rw [c] at go2
        simp only [O.of_some, O.then_nx] at go2
        refine ⟨Pc, r2, l[i], r3, ac.rs, rx, c, fun σ2 a2 _ _ => ⟨Pc, r3, a2.rs, ?_⟩⟩
        have a3 : AftS T σ' P' H' r2 σ2 Pc H2 r3 := ac.toS.trans a2
        refine (GoS.turn (GoS.step a3 go2)).mono (fun σ4 H4 ⟨P4, r4, b, g⟩ => ⟨P4, r4, (aS.trans a3).trans b, g⟩) (fun _ _ h => h) (fun _ _ h => h) (fun σ4 H4 ⟨P4, r4, b, g⟩ => ⟨P4, r4, (aS.trans a3).trans b, g⟩)
    · have e : i = l.length := by omega
      subst e
      rw [List.drop_length] at go2
      exact .inl ⟨wk.stop H' (aS.st.pp.trans aS.rs.sub), go2 σ' P' H' (.refl aS.rs)⟩⟩
theorem ds_whl {c : PySem.Expr} {body : List Stmt} {pos : Pos} {t : En → R Bool} {fb : En → O} (n : Nat) (hp : PassesOwn (model X.prog X.w) X.A X.env X.xe) (hc : PT X c (tK T W t)) (hb : PSs X body (tD T W fb)) :
    PS X (.While c body [] pos) (tD T W fun r => whlL t fb n r) :=
  psImp (ps_while hp hc hb) fun D σ H ⟨P, r, rs, go⟩ => by
    refine ⟨fun m σ H => ∃ P r, RS T P H σ r ∧ GoS T W σ P H r (whlL t fb m r) D, ⟨n, P, r, rs, go⟩, ?_⟩
    rintro m σ1 H1 ⟨P1, r1, rs1, go1⟩
    cases m with
    | zero => exact go1.elim
    | succ m =>
      simp only [whlL] at go1
      refine ⟨P1, r1, rs1, (GoS.run go1).mono fun k H2 ⟨P2, r2, k', a2, ek, e2, go2⟩ => ?_⟩
      have ek : k = k' := ek
      subst ek
      cases k with
      | true =>
        rw [if_pos rfl] at go2 ⊢
        refine ⟨fun σ3 H3 => ∃ P3 r3, RS T P3 H3 σ3 r3 ∧ GoS T W σ3 P3 H3 r3 (whlL t fb m r3) D, fun σ3 H3 h => ⟨m, Nat.lt_succ_self m, h⟩, P2, r2, a2.rs, ?_⟩
        exact (GoS.turn go2).mono (fun σ4 H4 ⟨P4, r4, b, g⟩ => ⟨P4, r4, b.rs, g⟩) (fun _ _ h => h) (fun _ _ h => h) (fun σ4 H4 ⟨P4, r4, b, g⟩ => ⟨P4, r4, b.rs, g⟩)
      | false =>
        rw [if_neg Bool.false_ne_true] at go2 ⊢
        exact go2 _ P2 H2 (.refl a2.rs)
/-! ### several stores at once -/
def owsOf : List Val → List V → List Addr
  | .ow _ :: vs, .ref a :: us => a :: owsOf vs us
  | _ :: vs, _ :: us => owsOf vs us
  | _, _ => []
def RVs (T : Tb) (H P' H' : Hp) : List Val → List V → Prop
  | [], us => us = []
  | v :: vs, us => ∃ u t, us = u :: t ∧ RV T H P' H' v u ∧ RVs T H P' H' vs t ∧ ∀ d a, v = .ow d → u = .ref a → a ∉ owsOf vs t
abbrev relVs (T : Tb) : Rel (List Val) (List V) := fun H P' H' vs us => RVs T H P' H' vs us
theorem anti_Vs (T : Tb) : Anti (relVs T) := by
  intro H H1 P' H' vs
  induction vs with
  | nil => intro us _ q; exact q
  | cons v vs ih =>
    intro us h q
    obtain ⟨u, t, e, q1, q2, q3⟩ := q
    exact ⟨u, t, e, anti_V T _ _ _ _ _ _ h q1, ih t h q2, q3⟩
def tV (T : Tb) (W : WX) (f : En → R (List Val)) : TA := fun σ H Q => ∃ P r, RS T P H σ r ∧ Go T W (relVs T) σ P H r (f r) Q
theorem dv_nil {C : Cf} : PA X [] (tV T W (evV C [])) := paImp pa_nil fun σ H Q ⟨P, r, rs, go⟩ => by
  simp only [evV] at go
  exact go [] P H (.refl rs) rfl
theorem owsOf_some {P' H' : Hp} {H : Hp} {a : Addr} : ∀ {vs : List Val} {us : List V}, RVs T H P' H' vs us → a ∈ owsOf vs us → H a = none ∧ ∃ x, H' a = some x
  | [], us, h, m => by cases us <;> cases m
  | v :: vs, us, h, m => by
    obtain ⟨u, t, rfl, q1, q2, q3⟩ := h
    cases v with
    | sh d =>
      have m' : a ∈ owsOf vs t := by cases u <;> exact m
      exact owsOf_some q2 m'
    | ow d =>
      obtain ⟨b, rfl, n, ro, f⟩ := q1
      rcases List.mem_cons.mp m with rfl | m
      · exact ⟨f, ro.some⟩
      · exact owsOf_some q2 m
/-- a value stays what it is -/
theorem RV.keep {σ : St} {P H P1 H1 P2 H2 : Hp} {r r1 r2 : En} {v : Val} {u : V} (rs : RS T P H σ r) (a : Aft T σ P H r P1 H1 r1) (h : RV T H P1 H1 v u) (b : Aft T σ P1 H1 r1 P2 H2 r2) : RV T H P2 H2 v u := by
  cases v with
  | sh d => exact Rep.ext b.st.pp _ _ h
  | ow d =>
    obtain ⟨c, e, n, ro, f⟩ := h
    obtain ⟨x, hx⟩ := ro.some
    have no : ¬ Own σ r1 c := fun o => by
      obtain ⟨y, hy⟩ := rs.ownsome (a.kd.owns o)
      rw [f] at hy; cases hy
    have hk : H2 c = some x := b.st.fr _ _ hx no
    refine ⟨c, e, ?_, ro.move b.st.pp (hk.trans hx.symm), f⟩
    cases z : P2 c with
    | none => rfl
    | some y =>
      rcases b.st.nw c (by rw [z]; intro w; cases w) with w | w | w
      · exact absurd n w
      · exact absurd w ro.nt
      · exact absurd w no
theorem dv_cons {e : PySem.Expr} {es : List PySem.Expr} {f : En → R Val} {g : En → R (List Val)} (hs : notStar e = true) (ha : PE X e (tE T W f)) (hb : PA X es (tV T W g)) :
    PA X (e :: es) (tV T W fun r => (f r).bind fun v r1 => (g r1).bind fun vs r2 => .ok (v :: vs) r2) := by
  refine paImp (pa_cons ha hb (star_one hs es X.env)) fun σ H Q ⟨P, r, rs, go⟩ => ⟨P, r, rs, (Go.bind (anti_Vs T) go).mono fun u H1 ⟨P1, r1, v, a1, q1, e1, go1⟩ => ⟨P1, r1, a1.rs, (Go.bind (anti_Vs T) go1).mono fun us H2 ⟨P2, r2, vs, a2, q2, e2, go2⟩ => ?_⟩⟩
  have k : RVs T H P2 H2 (v :: vs) (u :: us) := by
    refine ⟨u, us, rfl, RV.keep rs a1 q1 a2, anti_Vs T _ _ _ _ _ _ a1.st.dm q2, fun d b ev eu m => ?_⟩
    subst ev
    obtain ⟨c, ec, n, ro, f⟩ := q1
    rw [eu] at ec; cases ec
    obtain ⟨x, hx⟩ := ro.some
    have := (owsOf_some q2 m).1
    rw [hx] at this; cases this
  -- the continuation starts behind both, the relation at the whole's start
  have go3 : Go T W (relVs T) σ P H r (.ok (v :: vs) r2) Q := by
    dsimp only at go
    rw [e1] at go
    simp only [R.bind_ok] at go
    rw [e2] at go
    exact go
  exact go3 (u :: us) P2 H2 (a1.trans a2) k
def setsV (σ : St) : List Nat → List V → St
  | i :: is, v :: vs => setsV (σ.set i (some v)) is vs
  | _, _ => σ
theorem puts_ok {σ0 : St} {P0 H0 : Hp} {r0 : En} : ∀ {is : List Nat} {vs : List Val} {us : List V} {σ : St} {P H : Hp} {r r1 : En}, AftS T σ0 P0 H0 r0 σ P H r → RVs T H0 P H vs us → (∀ a, a ∈ owsOf vs us → ¬ Own σ r a) → puts r is vs = some r1 →
    AftS T σ0 P0 H0 r0 (setsV σ is us) P H r1
  | [], [], us, σ, P, H, r, r1, a, q, no, e => by
    simp only [puts, Option.some.injEq] at e
    subst e
    cases q
    exact a
  | [], _ :: _, _, _, _, _, _, _, _, _, _, e => by simp [puts] at e
  | _ :: _, [], _, _, _, _, _, _, _, _, _, e => by simp [puts] at e
  | i :: is, v :: vs, us, σ, P, H, r, r1, a, q, no, e => by
    obtain ⟨u, t, rfl, q1, q2, q3⟩ := q
    simp only [puts] at e
    cases c : r.put i v with
    | none => rw [c] at e; cases e
    | some r2 =>
      rw [c] at e
      have q1' : RW T σ H0 P H r v u := by
        cases v with
        | sh d => exact q1
        | ow d =>
          obtain ⟨b, eb, n, ro, f⟩ := q1
          subst eb
          exact ⟨b, rfl, n, ro, no b List.mem_cons_self, f⟩
      have a2 := put_ok a q1' c
      show AftS T σ0 P0 H0 r0 (setsV (σ.set i (some u)) is t) P H r1
      refine puts_ok a2 q2 (fun b m o => ?_) e
      -- b is not owned behind the store
      have hb := owsOf_some q2 m
      have m' : b ∈ owsOf (v :: vs) (u :: t) := by
        cases v with
        | sh d => cases u <;> exact m
        | ow d =>
          obtain ⟨b', eb, _⟩ := q1
          subst eb
          exact List.mem_cons_of_mem _ m
      obtain ⟨j, ⟨d, oj⟩, sj⟩ := o
      have hlen : i < r.length ∧ r2 = r.set i v.sl := by
        unfold En.put at c
        cases c3 : r[i]? with
        | none => rw [c3] at c; cases c
        | some x =>
          rw [c3] at c
          have hi := (List.getElem?_eq_some_iff.mp c3).1
          cases x with
          | io d => cases c
          | _ => exact ⟨hi, (Option.some.inj c).symm⟩
      obtain ⟨hi, rfl⟩ := hlen
      have hs : i < σ.length := by rw [← a.rs.len]; exact hi
      by_cases z : j = i
      · subst z
        rw [List.getElem?_set_self hi] at oj
        rw [List.getElem?_set_self hs] at sj
        cases v with
        | sh d' => rcases oj with oj | oj <;> cases oj
        | ow d' =>
          cases sj
          exact q3 d' b rfl rfl m
      · rw [List.getElem?_set_ne (Ne.symm z)] at oj sj
        exact no b m' ⟨j, ⟨d, oj⟩, sj⟩
theorem no_own {σ : St} {P H P1 H1 : Hp} {r r1 : En} {vs : List Val} {us : List V} (rs : RS T P H σ r) (a : Aft T σ P H r P1 H1 r1) (q : RVs T H P1 H1 vs us) : ∀ b, b ∈ owsOf vs us → ¬ Own σ r1 b := fun b m o => by
  obtain ⟨x, hx⟩ := rs.ownsome (a.kd.owns o)
  have := (owsOf_some q m).1
  rw [hx] at this; cases this
theorem parW {σ : St} {P H : Hp} {r : En} {x : R (List Val)} {g : List Val → En → O} {D : Ends} (h : GoS T W σ P H r (x.run g) D) :
    Go T W (relVs T) σ P H r x fun us H1 => ∃ P1 r1 vs, Aft T σ P H r P1 H1 r1 ∧ RVs T H P1 H1 vs us ∧ x = .ok vs r1 ∧ GoS T W σ P H r (g vs r1) D :=
  (GoS.run h).mono fun us H1 ⟨P1, r1, v, a, q, e, h1⟩ => ⟨P1, r1, v, a, q, e, by subst e; exact h⟩
theorem rvs_len {H P' H' : Hp} : ∀ {vs : List Val} {us : List V}, RVs T H P' H' vs us → us.length = vs.length
  | [], us, h => by cases h; rfl
  | v :: vs, us, h => by
    obtain ⟨u, t, rfl, _, q, _⟩ := h
    simp [rvs_len q]
theorem puts_len : ∀ {is : List Nat} {vs : List Val} {r r1 : En}, puts r is vs = some r1 → vs.length = is.length
  | [], [], _, _, _ => rfl
  | [], _ :: _, _, _, e => by simp [puts] at e
  | _ :: _, [], _, _, e => by simp [puts] at e
  | i :: is, v :: vs, r, r1, e => by
    simp only [puts] at e
    cases c : r.put i v with
    | none => rw [c] at e; cases e
    | some r2 => rw [c] at e; simp [puts_len e]
theorem ds_par2 {i j : Nat} {ta : TA} {f : En → R (List Val)} (h : PS X st (tPar i j ta)) (ht : ∀ σ H Q, tV T W f σ H Q → ta σ H Q) (hij : i ≠ j) :
    PS X st (tD T W fun r => (f r).run fun vs r1 => if [i, j].Nodup then O.of (puts r1 [i, j] vs) else .bad) :=
  psImp h fun D σ H ⟨P, r, rs, go⟩ => ht σ H _ ⟨P, r, rs, (parW go).mono fun us H1 ⟨P1, r1, vs, a, q, e, h1⟩ => by
    rw [if_pos (by simp [hij])] at h1
    cases c : puts r1 [i, j] vs with
    | none => rw [c] at h1; exact h1.elim
    | some r2 =>
      rw [c] at h1
      have l : us.length = 2 := by rw [rvs_len q, puts_len c]; rfl
      match us, l with
      | [u, w], _ => exact ⟨u, w, rfl, h1 _ P1 H1 (puts_ok a.toS q (no_own rs a q) c)⟩⟩
/-- names, one after another -/
def gNs : List Nat → TGs
  | [] => gNil
  | i :: is => gCons (gName i) (gNs is)
theorem gNs_run : ∀ (is : List Nat) (us : List V) (σ : St) (H : Hp) (Q : St → Hp → Prop), us.length = is.length → Q (setsV σ is us) H → gNs is us σ H Q
  | [], [], σ, H, Q, _, q => ⟨rfl, q⟩
  | [], _ :: _, _, _, _, l, _ => by cases l
  | _ :: _, [], _, _, _, l, _ => by cases l
  | i :: is, u :: us, σ, H, Q, l, q => ⟨u, us, rfl, gNs_run is us _ H Q (by simpa using l) q⟩
theorem ds_parT (hc : X.calm = true) {tes es : List PySem.Expr} {k k' : Nat} {tp ep pos : Pos} {is : List Nat} {f : En → R (List Val)} (hg : PGs X tes (gNs is)) (ha : PA X es (tV T W f)) (hl : (assignEach tes X.env).length = is.length) (hst : (assignEach tes X.env).findIdx? (·.1) = none)
    (hs : swapsWithSole [.Tuple tes k tp] (.Tuple es k' ep) pos.line X.env = pure false) (hw : swappedStores [.Tuple tes k tp] (.Tuple es k' ep) X.env = pure none) (h1 : (assignEach [.Tuple tes k tp] X.env).map (·.2) = [assign (.Tuple tes k tp) X.env])
    (hn : is.Nodup) (hsz : is.length ≤ 1000) :
    PS X (.Assign [.Tuple tes k tp] (.Tuple es k' ep) pos) (tD T W fun r => (f r).run fun vs r1 => if is.Nodup then O.of (puts r1 is vs) else .bad) :=
  psImp (ps_asg (pe_tup ha) (pg_tup hc hg hl hst) hs hw h1) fun D σ H ⟨P, r, rs, go⟩ => ⟨P, r, rs, (parW go).mono fun us H1 ⟨P1, r1, vs, a, q, e, h1⟩ => by
    rw [if_pos hn] at h1
    cases c : puts r1 is vs with
    | none => rw [c] at h1; exact h1.elim
    | some r2 =>
      rw [c] at h1
      have l : us.length = is.length := by rw [rvs_len q, puts_len c]
      refine ⟨by rw [l, sizeLine_eq]; omega, fun p np => ?_⟩
      refine ⟨p, us, rfl, .inl (.inl upd_same), l, gNs_run is us σ _ _ l ?_⟩
      have a2 : Aft T σ P1 H1 r1 P1 (upd H1 p (.tup us)) r1 := Aft.laidO a.rs np
      have q2 : RVs T H P1 (upd H1 p (.tup us)) vs us := by
        clear h1 c l
        revert q
        generalize hH2 : upd H1 p (.tup us) = H2 at *
        clear hH2
        intro q
        have key : ∀ (vs : List Val) (ws : List V), RVs T H P1 H1 vs ws → RVs T H P1 H2 vs ws := by
          intro vs
          induction vs with
          | nil => intro ws q; exact q
          | cons v vs ih =>
            intro ws q
            obtain ⟨u, t, e, q1, q2, q3⟩ := q
            exact ⟨u, t, e, RV.keep rs a q1 a2, ih t q2, q3⟩
        exact key vs us q
      exact h1 _ P1 _ (puts_ok (a.toS.trans a2.toS) q2 (no_own rs (a.trans a2) q2) c)⟩
end
end Z
/-! ZM: defs: what a call hands over and gets back. -/
namespace Z
open PySem PySem.Spec L2
open PyProof.Rows hiding St
/-- a def keeps a promise wherever no repr is under way -/
structure FnG (T : Tb) (k : Nat) (f : Addr) (fd : FuncData) (ps : List Str) (sp : Sp) : Prop where
  len : ∀ vs H Q E, sp vs H Q E → vs.length = ps.length
  run : ∀ (A : Around) (outer : List PySem.Env) (s : Shared) (H : Hp) (args : Args) (us : List Value) (vs : List V) (Q : VK) (E : XK), Room k A → A.guards = some [] →
    Env0 T.P T.w T.K T.mg T.base A outer s H → BindsTo s fd args (ps.zip us) → Vals vs us → sp vs H Q E →
    codeAny (model T.P T.w) A (.call (.ref f) args) (L2.CR L2.CX0 outer T.P T.w H s Q E) s
/-- the addresses of the changed parameters -/
def ioA : List Bool → List V → List Addr
  | true :: ms, .ref a :: vs => a :: ioA ms vs
  | _ :: ms, _ :: vs => ioA ms vs
  | _, _ => []
/-- the arguments lie so -/
def RArgs (T : Tb) (P H : Hp) : List Bool → List D → List V → Prop
  | [], [], vs => vs = []
  | false :: ms, d :: ds, vs => ∃ v t, vs = v :: t ∧ Rep T P d v ∧ RArgs T P H ms ds t
  | true :: ms, d :: ds, vs => ∃ a t, vs = .ref a :: t ∧ P a = none ∧ RepO T P H a d ∧ RArgs T P H ms ds t ∧ a ∉ ioA ms t
  | _, _, _ => False
/-- the changed parameters' things behind a call -/
def ROuts (T : Tb) (P' H' : Hp) : List Addr → List D → Prop
  | [], ds => ds = []
  | a :: as, ds => ∃ d t, ds = d :: t ∧ P' a = none ∧ RepO T P' H' a d ∧ ROuts T P' H' as t
structure AftC (T : Tb) (as : List Addr) (P H P' H' : Hp) (outs : List D) : Prop where
  sub : Ext P' H'
  pp : Ext P P'
  fr : ∀ b o, H b = some o → b ∉ as → H' b = some o
  dm : ∀ b, H' b = none → H b = none
  nw : ∀ b, P' b ≠ none → P b ≠ none ∨ NT H b
  outs : ROuts T P' H' as outs
def GoC (T : Tb) (as : List Addr) (P H : Hp) (c : CR) (Q : VK) : Prop :=
  match c with
  | .ok v outs => ∀ u P' H', AftC T as P H P' H' outs → RV T H P' H' v u → Q u H'
  | .exc _ _ _ => False
  | .bad => False
def spD (T : Tb) (ms : List Bool) (c : List D → CR) : Sp := fun vs H Q _ => ∃ P ds, Ext P H ∧ RArgs T P H ms ds vs ∧ GoC T (ioA ms vs) P H (c ds) Q
theorem RArgs.len {T : Tb} {P H : Hp} : ∀ {ms : List Bool} {ds : List D} {vs : List V}, RArgs T P H ms ds vs → ds.length = ms.length ∧ vs.length = ms.length
  | [], [], vs, h => by cases h; exact ⟨rfl, rfl⟩
  | [], _ :: _, _, h => by cases h
  | true :: _, [], _, h => by cases h
  | false :: _, [], _, h => by cases h
  | false :: ms, d :: ds, vs, h => by
    obtain ⟨v, t, rfl, _, h⟩ := h
    obtain ⟨h1, h2⟩ := h.len
    exact ⟨by simp [h1], by simp [h2]⟩
  | true :: ms, d :: ds, vs, h => by
    obtain ⟨v, t, rfl, _, _, h, _⟩ := h
    obtain ⟨h1, h2⟩ := h.len
    exact ⟨by simp [h1], by simp [h2]⟩
/-- the callee's slots -/
theorem start_get {T : Tb} {P H : Hp} : ∀ {ms : List Bool} {ds : List D} {vs : List V}, RArgs T P H ms ds vs →
    (∀ (i : Nat) (d : D), (ms.zipWith (fun m d => if m then Sl.io d else Sl.sh d) ds)[i]? = some (Sl.sh d) → ∃ v, vs[i]? = some v ∧ Rep T P d v) ∧
    (∀ (i : Nat) (d : D), (ms.zipWith (fun m d => if m then Sl.io d else Sl.sh d) ds)[i]? = some (Sl.io d) → ∃ a, vs[i]? = some (.ref a) ∧ P a = none ∧ RepO T P H a d ∧ a ∈ ioA ms vs) ∧
    (∀ (i : Nat) (d : D), (ms.zipWith (fun m d => if m then Sl.io d else Sl.sh d) ds)[i]? ≠ some (Sl.ow d)) ∧
    (∀ (i j : Nat) (d d' : D) (a : Addr), (ms.zipWith (fun m d => if m then Sl.io d else Sl.sh d) ds)[i]? = some (Sl.io d) → (ms.zipWith (fun m d => if m then Sl.io d else Sl.sh d) ds)[j]? = some (Sl.io d') → vs[i]? = some (.ref a) → vs[j]? = some (.ref a) → i = j)
  | [], [], vs, h => by simp
  | [], _ :: _, _, h => by cases h
  | true :: _, [], _, h => by cases h
  | false :: _, [], _, h => by cases h
  | false :: ms, d :: ds, vs, h => by
    obtain ⟨v, t, rfl, hv, h⟩ := h
    obtain ⟨h1, h2, h3, h4⟩ := start_get h
    refine ⟨fun i d' e => ?_, fun i d' e => ?_, fun i d' e => ?_, fun i j d1 d2 a e1 e2 s1 s2 => ?_⟩
    · cases i with
      | zero => simp at e; subst e; exact ⟨v, rfl, hv⟩
      | succ i => exact h1 i d' (by simpa using e)
    · cases i with
      | zero => simp at e
      | succ i =>
        obtain ⟨a, e1, e2, e3, e4⟩ := h2 i d' (by simpa using e)
        exact ⟨a, e1, e2, e3, by cases v <;> exact e4⟩
    · cases i with
      | zero => simp at e
      | succ i => exact h3 i d' (by simpa using e)
    · cases i with
      | zero => simp at e1
      | succ i =>
        cases j with
        | zero => simp at e2
        | succ j => rw [h4 i j d1 d2 a (by simpa using e1) (by simpa using e2) (by simpa using s1) (by simpa using s2)]
  | true :: ms, d :: ds, vs, h => by
    obtain ⟨b, t, rfl, n, ro, h, nb⟩ := h
    obtain ⟨h1, h2, h3, h4⟩ := start_get h
    refine ⟨fun i d' e => ?_, fun i d' e => ?_, fun i d' e => ?_, fun i j d1 d2 a e1 e2 s1 s2 => ?_⟩
    · cases i with
      | zero => simp at e
      | succ i => exact h1 i d' (by simpa using e)
    · cases i with
      | zero => simp at e; subst e; exact ⟨b, rfl, n, ro, List.mem_cons_self⟩
      | succ i =>
        obtain ⟨a, e1, e2, e3, e4⟩ := h2 i d' (by simpa using e)
        exact ⟨a, e1, e2, e3, List.mem_cons_of_mem _ e4⟩
    · cases i with
      | zero => simp at e
      | succ i => exact h3 i d' (by simpa using e)
    · cases i with
      | zero =>
        cases j with
        | zero => rfl
        | succ j =>
          simp at s1
          subst s1
          obtain ⟨a', q1, q2, q3, q4⟩ := h2 j d2 (by simpa using e2)
          have s2' : t[j]? = some (.ref b) := by simpa using s2
          rw [s2'] at q1; cases q1
          exact absurd q4 nb
      | succ i =>
        cases j with
        | zero =>
          simp at s2
          subst s2
          obtain ⟨a', q1, q2, q3, q4⟩ := h2 i d1 (by simpa using e1)
          have s1' : t[i]? = some (.ref b) := by simpa using s1
          rw [s1'] at q1; cases q1
          exact absurd q4 nb
        | succ j => rw [h4 i j d1 d2 a (by simpa using e1) (by simpa using e2) (by simpa using s1) (by simpa using s2)]
theorem start_rs {T : Tb} {P H : Hp} {ms : List Bool} {ds : List D} {vs : List V} {N : List Str} (e : Ext P H) (h : RArgs T P H ms ds vs) (hn : ms.length ≤ N.length) :
    RS T P H (L2.start N vs) (En.start ms N.length ds) ∧ (∀ b, Own (L2.start N vs) (En.start ms N.length ds) b → b ∈ ioA ms vs) ∧ ∀ b, ¬ OwnL (L2.start N vs) (En.start ms N.length ds) b := by
  obtain ⟨l1, l2⟩ := h.len
  obtain ⟨h1, h2, h3, h4⟩ := start_get h
  have lz : (ms.zipWith (fun m d => if m then Sl.io d else Sl.sh d) ds).length = ms.length := by rw [List.length_zipWith, l1, Nat.min_self]
  have get : ∀ (i : Nat) (x : Sl), (En.start ms N.length ds)[i]? = some x → x ≠ .no → (ms.zipWith (fun m d => if m then Sl.io d else Sl.sh d) ds)[i]? = some x ∧ i < vs.length := fun i x q nx => by
    unfold En.start at q
    by_cases hi : i < ms.length
    · rw [List.getElem?_append_left (by rw [lz]; exact hi)] at q
      exact ⟨q, by rw [l2]; exact hi⟩
    · rw [List.getElem?_append_right (by rw [lz]; omega), List.getElem?_replicate] at q
      split at q
      · cases q; exact absurd rfl nx
      · cases q
  have sg : ∀ (i : Nat) (v : V), vs[i]? = some v → (L2.start N vs)[i]? = some (some v) := fun i v q => by
    have hi := (List.getElem?_eq_some_iff.mp q).1
    unfold L2.start
    rw [List.getElem?_append_left (by simpa using hi), List.getElem?_map, q]; rfl
  refine ⟨⟨e, ?_, fun i d q => ?_, fun i d q => ?_, fun i j a ⟨d1, o1⟩ ⟨d2, o2⟩ s1 s2 => ?_⟩, fun b ⟨i, ⟨d, o⟩, s⟩ => ?_, fun b ⟨i, d, o, s⟩ => ?_⟩
  · unfold En.start L2.start
    rw [List.length_append, List.length_append, lz, List.length_replicate, List.length_map, List.length_replicate, l1, l2]
  · obtain ⟨q, _⟩ := get i _ q (by intro z; cases z)
    obtain ⟨v, e1, e2⟩ := h1 i d q
    exact ⟨v, sg i v e1, e2⟩
  · rcases q with q | q
    · obtain ⟨q, _⟩ := get i _ q (by intro z; cases z)
      exact absurd q (h3 i d)
    · obtain ⟨q, _⟩ := get i _ q (by intro z; cases z)
      obtain ⟨a, e1, e2, e3, _⟩ := h2 i d q
      exact ⟨a, sg i _ e1, e2, e3⟩
  · have f : ∀ i d, ((En.start ms N.length ds)[i]? = some (Sl.ow d) ∨ (En.start ms N.length ds)[i]? = some (Sl.io d)) → (ms.zipWith (fun m d => if m then Sl.io d else Sl.sh d) ds)[i]? = some (Sl.io d) ∧ i < vs.length := fun i d o => by
      rcases o with o | o
      · obtain ⟨q, _⟩ := get i _ o (by intro z; cases z)
        exact absurd q (h3 i d)
      · exact get i _ o (by intro z; cases z)
    obtain ⟨f1, g1⟩ := f i d1 o1
    obtain ⟨f2, g2⟩ := f j d2 o2
    have b1 : vs[i]? = some (.ref a) := by
      have z := sg i _ (List.getElem?_eq_getElem g1)
      rw [s1] at z
      rw [List.getElem?_eq_getElem g1]
      exact congrArg some (Option.some.inj (Option.some.inj z)).symm
    have b2 : vs[j]? = some (.ref a) := by
      have z := sg j _ (List.getElem?_eq_getElem g2)
      rw [s2] at z
      rw [List.getElem?_eq_getElem g2]
      exact congrArg some (Option.some.inj (Option.some.inj z)).symm
    exact h4 i j d1 d2 a f1 f2 b1 b2
  · rcases o with o | o
    · obtain ⟨q, _⟩ := get i _ o (by intro z; cases z)
      exact absurd q (h3 i d)
    · obtain ⟨q, g1⟩ := get i _ o (by intro z; cases z)
      obtain ⟨a, e1, _, _, e4⟩ := h2 i d q
      have z := sg i _ e1
      rw [s] at z
      cases z
      exact e4
  · obtain ⟨q, _⟩ := get i _ o (by intro z; cases z)
    exact absurd q (h3 i d)
end Z
/-! ZN: a def by its body; a def called. -/
namespace Z
open PySem PySem.Spec L2
open PyProof.Rows hiding St
/-- what a rule may know of where it stands -/
structure CB (T : Tb) (k : Nat) (X : Cx) : Prop where
  eP : X.prog = T.P
  ew : X.w = T.w
  eK : X.K = T.K
  emg : X.mg = T.mg
  ebase : X.base = T.base
  calm : X.calm = true
  room : Room k X.A
  grd : X.A.guards = some []
  nd : X.N.Nodup
theorem CB.blk {T : Tb} {k : Nat} {X : Cx} (c : CB T k X) (s : Shared) (H : Hp) (sc : Scope) (e : PySem.Env) (fp : List Addr) : CB T k (X.blk s H sc e fp) := ⟨c.eP, c.ew, c.eK, c.emg, c.ebase, c.calm, c.room, c.grd, c.nd⟩
/-- .. -/
abbrev asDef (T : Tb) (N : List Str) (qual : Str) (sc : Scope) (f : Addr) (cdv : Value) (A : Around) (outer : List PySem.Env) (s : Shared) (H : Hp) (E : XK) : Cx := (cxOf L2.CX0 T.P T.w T.K T.mg T.base N qual sc f cdv A outer s H E).nox
section
variable {T : Tb}
/-- a def of the text, by what its body does -/
theorem fnG_of {k : Nat} {f : Addr} {name qual : Str} {params : Arguments} {body : List Stmt} {scope : Scope} {dV kV doc pm cdv ct oc : Value} {an od : Option Addr} {osl : Array (Option Value)} {N ps : List Str} {sp : Sp}
    (lk : T.K.lookup f = some ⟨oc, od, .func (PySem.W.fnOf name qual params body scope dV kV doc pm an cdv ct), osl⟩) (hcd : PySem.W.codeIn T.K cdv qual = true) (S : FnScope N ps scope) (len : ∀ vs H Q E, sp vs H Q E → vs.length = ps.length)
    (hbody : ∀ (cdv : Value) (A : Around) (outer : List PySem.Env) (s : Shared) (H : Hp) (E : XK), CB T k (asDef T N qual scope f cdv A outer s H E) → ∀ (vs : List V) (Q : VK), sp vs H Q E → ∃ t, PSs (asDef T N qual scope f cdv A outer s H E) body t ∧ t { nx := fun _ H' => Q .non H', rt := Q } (L2.start N vs) H) :
    FnG T (k + 1) f (PySem.W.fnOf name qual params body scope dV kV doc pm an cdv ct) ps sp := by
  constructor
  · exact len
  intro A outer s H args us vs Q E hr hg e0 hb r hsp
  have hl := len vs H Q E hsp
  have KX : T.K.In s.heap := e0.mod.kin.keeps fun b o e => (e0.bs b o e).1
  have lim : s.heap.NoLimit := e0.mod.nolimit.keeps fun b o e => (e0.bs b o e).1
  have hkind : ∀ y ∈ ps.zip us, scope.names.lookup y.1 = some .local ∨ (scope.names.lookup y.1 = some .cell ∧ ((cellsFrom (s.heap.objs.size + 1) scope.names []).lookup y.1).isSome = true) := by
    rintro ⟨n, v⟩ hy
    have q := S.par n (List.of_mem_zip hy).1
    cases q with
    | inl q => exact .inl q
    | inr q => exact .inr ⟨q, PySem.W.cellsFrom_some _ _ _ (.inl q)⟩
  apply codeAny_call_function hr.depth (KX _ _ lk) rfl S.co S.gen rfl (PySem.W.codeRec_of KX hcd)
  apply hb
  refine wpAny_newFunctionEnv_cells S.kind hkind ?_
  intro env he s1 x
  subst he
  refine And.intro (lim.keeps x.toInCall.keep) (codeAny_func ?_)
  have I := inv_start (CX := L2.CX0) (f := f) (cd := cdv) (qual := qual) (E := E) S hr.hd e0 hl r x
  have ck : CB T k (asDef T N qual scope f cdv A outer s H E) := ⟨rfl, rfl, rfl, rfl, rfl, rfl, hr.deeper _, hg, S.nd⟩
  obtain ⟨t, ht, hq⟩ := hbody cdv A outer s H E ck vs Q hsp
  refine wpAny_mono (ht.nox.run [] s1 (L2.start N vs) H _ I hq) ?_ (fun e s' hs => hs)
  intro fl s' hs
  cases fl with
  | ret u =>
    obtain ⟨v, σ', H', J, rv, q⟩ := hs
    exact ⟨v, H', J.os, J.bare, J.base, J.hok, rv, q⟩
  | next =>
    obtain ⟨σ', H', J, q⟩ := hs
    exact ⟨V.non, H', J.os, J.bare, J.base, J.hok, rfl, q⟩
  | brk =>
    obtain ⟨_, _, _, q⟩ := hs
    exact q.elim
  | cont =>
    obtain ⟨_, _, _, q⟩ := hs
    exact q.elim
theorem outs_ok {σ : St} {P H : Hp} {r : En} (rs : RS T P H σ r) : ∀ {ms : List Bool} {vs : List V} {i : Nat} {outs : List D}, outsOf r i ms = some outs → (∀ j v, ms[j]? = some true → vs[j]? = some v → σ[i + j]? = some (some v)) → vs.length = ms.length →
    (∀ (j : Nat), ms[j]? = some true → ∃ a, vs[j]? = some (.ref a)) → ROuts T P H (ioA ms vs) outs
  | [], vs, i, outs, e, _, _, _ => by
    simp only [outsOf, Option.some.injEq] at e
    subst e
    cases vs <;> rfl
  | m :: ms, [], i, outs, e, _, l, _ => by cases l
  | false :: ms, v :: vs, i, outs, e, hv, l, hr => by
    simp only [outsOf] at e
    have z : ioA (false :: ms) (v :: vs) = ioA ms vs := by cases v <;> rfl
    rw [z]
    refine outs_ok rs e (fun j w h q => ?_) (by simpa using l) (fun j q => hr (j + 1) (by simpa using q))
    have := hv (j + 1) w (by simpa using h) (by simpa using q)
    rw [show i + (j + 1) = i + 1 + j by omega] at this
    exact this
  | true :: ms, v :: vs, i, outs, e, hv, l, hr => by
    obtain ⟨a, ea⟩ := hr 0 rfl
    simp at ea
    subst ea
    simp only [outsOf] at e
    cases c : r[i]? with
    | none => rw [c] at e; cases e
    | some x =>
      rw [c] at e
      cases x with
      | io d =>
        cases c2 : outsOf r (i + 1) ms with
        | none => rw [c2] at e; cases e
        | some t =>
          rw [c2] at e
          cases e
          obtain ⟨b, e1, e2, e3⟩ := rs.own i d (.inr c)
          have hva := hv 0 (.ref a) rfl rfl
          rw [Nat.add_zero, e1] at hva
          cases hva
          refine ⟨d, t, rfl, e2, e3, outs_ok rs c2 (fun j w h q => ?_) (by simpa using l) (fun j q => hr (j + 1) (by simpa using q))⟩
          have := hv (j + 1) w (by simpa using h) (by simpa using q)
          rw [show i + (j + 1) = i + 1 + j by omega] at this
          exact this
      | _ => cases e
theorem refs_of {P H : Hp} : ∀ {ms : List Bool} {ds : List D} {vs : List V}, RArgs T P H ms ds vs → ∀ (j : Nat), ms[j]? = some true → ∃ a, vs[j]? = some (.ref a)
  | [], _, _, _, _, e => by simp at e
  | m :: _, [], _, h, _, _ => by cases m <;> cases h
  | false :: ms, d :: ds, vs, h, j, e => by
    obtain ⟨v, t, rfl, _, h⟩ := h
    cases j with
    | zero => simp at e
    | succ j => simpa using refs_of h j (by simpa using e)
  | true :: ms, d :: ds, vs, h, j, e => by
    obtain ⟨a, t, rfl, _, _, h, _⟩ := h
    cases j with
    | zero => exact ⟨a, rfl⟩
    | succ j => simpa using refs_of h j (by simpa using e)
theorem io_start {N : List Str} {ms : List Bool} {ds : List D} {i : Nat} (l : ds.length = ms.length) (h : ms[i]? = some true) : ∃ d, (En.start ms N.length ds)[i]? = some (Sl.io d) := by
  have hi := (List.getElem?_eq_some_iff.mp h).1
  have lz : (ms.zipWith (fun m d => if m then Sl.io d else Sl.sh d) ds).length = ms.length := by rw [List.length_zipWith, l, Nat.min_self]
  unfold En.start
  rw [List.getElem?_append_left (by rw [lz]; exact hi), List.getElem?_zipWith, h, List.getElem?_eq_getElem (by rw [l]; exact hi)]
  exact ⟨_, rfl⟩
theorem outs_io {r : En} : ∀ {ms : List Bool} {i : Nat} {outs : List D}, outsOf r i ms = some outs → ∀ (j : Nat), ms[j]? = some true → ∃ d, r[i + j]? = some (Sl.io d)
  | [], _, _, _, _, h => by simp at h
  | false :: ms, i, outs, e, j, h => by
    simp only [outsOf] at e
    cases j with
    | zero => simp at h
    | succ j =>
      have := outs_io e j (by simpa using h)
      rw [show i + (j + 1) = i + 1 + j by omega]; exact this
  | true :: ms, i, outs, e, j, h => by
    simp only [outsOf] at e
    cases c : r[i]? with
    | none => rw [c] at e; cases e
    | some x =>
      rw [c] at e
      cases x with
      | io d =>
        cases c2 : outsOf r (i + 1) ms with
        | none => rw [c2] at e; cases e
        | some t =>
          cases j with
          | zero => exact ⟨d, by rw [Nat.add_zero]; exact c⟩
          | succ j =>
            have := outs_io c2 j (by simpa using h)
            rw [show i + (j + 1) = i + 1 + j by omega]; exact this
      | _ => cases e
theorem mem_ioA {a : Addr} : ∀ {ms : List Bool} {vs : List V}, a ∈ ioA ms vs → ∃ j : Nat, ms[j]? = some true ∧ vs[j]? = some (.ref a)
  | [], vs, h => by cases vs <;> cases h
  | m :: ms, [], h => by cases m <;> cases h
  | false :: ms, v :: vs, h => by
    have h' : a ∈ ioA ms vs := by cases v <;> exact h
    obtain ⟨j, h1, h2⟩ := mem_ioA h'
    exact ⟨j + 1, by simpa using h1, by simpa using h2⟩
  | true :: ms, v :: vs, h => by
    cases v with
    | ref b =>
      rcases List.mem_cons.mp h with rfl | h
      · exact ⟨0, rfl, rfl⟩
      · obtain ⟨j, h1, h2⟩ := mem_ioA h
        exact ⟨j + 1, by simpa using h1, by simpa using h2⟩
    | _ =>
      obtain ⟨j, h1, h2⟩ := mem_ioA (show a ∈ ioA ms vs from h)
      exact ⟨j + 1, by simpa using h1, by simpa using h2⟩
/-- a def keeps what the evaluator says of its body -/
theorem fn_def {Pg : Nat → Option Df} {fuel k i : Nat} {df : Df} {f : Addr} {name qual : Str} {params : Arguments} {body : List Stmt} {scope : Scope} {dV kV doc pm cdv ct oc : Value} {an od : Option Addr} {osl : Array (Option Value)} {N ps : List Str}
    (lk : T.K.lookup f = some ⟨oc, od, .func (PySem.W.fnOf name qual params body scope dV kV doc pm an cdv ct), osl⟩) (hcd : PySem.W.codeIn T.K cdv qual = true) (S : FnScope N ps scope) (hp : Pg i = some df) (hn : df.names = N.length) (hm : df.modes.length = ps.length)
    (hbody : ∀ (cdv : Value) (A : Around) (outer : List PySem.Env) (s : Shared) (H : Hp) (E : XK), CB T k (asDef T N qual scope f cdv A outer s H E) → PSs (asDef T N qual scope f cdv A outer s H E) body (tD T WF (xs { call := callD Pg fuel k, modes := fun g => (Pg g).map (·.modes), fuel := fuel } df.body))) :
    FnG T (k + 1) f (PySem.W.fnOf name qual params body scope dV kV doc pm an cdv ct) ps (spD T df.modes (callD Pg fuel (k + 1) i)) := by
  refine fnG_of lk hcd S (fun vs H Q E ⟨P, ds, e, h, q⟩ => by rw [h.len.2, hm]) fun cdv A outer s H E ck vs Q ⟨P, ds, e, h, q⟩ => ⟨_, hbody cdv A outer s H E ck, ?_⟩
  simp only [callD, hp] at q
  by_cases hc : ds.length = df.modes.length ∧ ds.length ≤ df.names
  rotate_left
  · rw [if_neg hc] at q; exact q.elim
  rw [if_pos hc] at q
  obtain ⟨rs, ow, nol⟩ := start_rs (N := N) e h (by rw [← hc.1, ← hn]; exact hc.2)
  have lv := h.len.2
  have ld := h.len.1
  rw [hn] at q
  refine ⟨P, En.start df.modes N.length ds, rs, ?_⟩
  -- behind the body
  have fin : ∀ {σ' : St} {P' H' : Hp} {r' : En} {outs : List D}, AftS T (L2.start N vs) P H (En.start df.modes N.length ds) σ' P' H' r' → outsOf r' 0 df.modes = some outs → AftC T (ioA df.modes vs) P H P' H' outs := fun {σ' P' H' r' outs} a eo => by
    have sg : ∀ (j : Nat) (v : V), vs[j]? = some v → (L2.start N vs)[j]? = some (some v) := fun j v q => by
      have hi := (List.getElem?_eq_some_iff.mp q).1
      unfold L2.start
      rw [List.getElem?_append_left (by simpa using hi), List.getElem?_map, q]; rfl
    have ioσ : ∀ (j : Nat), df.modes[j]? = some true → σ'[j]? = (L2.start N vs)[j]? := fun j hj => by
      obtain ⟨d, hd⟩ := io_start (N := N) ld hj
      exact (a.io j d hd).2
    refine ⟨a.rs.sub, a.st.pp, fun b o eb nb => a.st.fr b o eb fun w => nb (ow b w), a.st.dm, fun b eb => ?_, ?_⟩
    · rcases a.st.nw b eb with w | w | w
      · exact .inl w
      · exact .inr w
      · obtain ⟨j, h1, h2⟩ := mem_ioA (ow b w)
        obtain ⟨d, hd⟩ := outs_io eo j h1
        rw [Nat.zero_add] at hd
        obtain ⟨c, e1, e2, _⟩ := a.rs.own j d (.inr hd)
        rw [ioσ j h1, sg j _ h2] at e1
        cases e1
        exact absurd e2 eb
    · refine outs_ok a.rs eo (fun j v hj q => ?_) (by rw [lv]) (refs_of h)
      rw [Nat.zero_add, ioσ j hj]
      exact sg j v q
  cases c : xs { call := callD Pg fuel k, modes := fun g => (Pg g).map (·.modes), fuel := fuel } df.body (En.start df.modes N.length ds) with
  | nx r' =>
    rw [c] at q
    simp only [O.cr] at q
    intro σ' P' H' a
    cases eo : outsOf r' 0 df.modes with
    | none => rw [eo] at q; exact q.elim
    | some outs =>
      rw [eo] at q
      exact q .non P' H' (fin a eo) (by show Rep _ _ _ _; simp only [Rep])
  | ret v r' =>
    rw [c] at q
    simp only [O.cr] at q
    intro u σ' P' H' a rl
    cases eo : outsOf r' 0 df.modes with
    | none => rw [eo] at q; exact q.elim
    | some outs =>
      rw [eo] at q
      refine q u P' H' (fin a eo) ?_
      cases v with
      | sh d => exact rl
      | ow d =>
        obtain ⟨b, e1, n, ro, f⟩ := rl
        exact ⟨b, e1, n, ro, f.elim id fun z => absurd z (nol b)⟩
  | brk r' => rw [c] at q; exact q.elim
  | cnt r' => rw [c] at q; exact q.elim
  | exc c' d r' =>
    rw [c] at q
    simp only [O.cr] at q
    cases eo : outsOf r' 0 df.modes with
    | none => rw [eo] at q; exact q.elim
    | some outs => rw [eo] at q; exact q.elim
  | bad => rw [c] at q; exact q.elim
end
end Z
/-! ZO: calls of defs. -/
namespace Z
open PySem PySem.Spec L2
open PyProof.Rows hiding St
section
variable {T : Tb} {W : WX} {σ : St} {P H : Hp} {r : En}
theorem frz_ok : ∀ {is : List Nat} {P : Hp} {r rf : En}, RS T P H σ r → frzs r is = some rf →
    ∃ Pf, Aft T σ P H r Pf H rf ∧ (∀ i, i ∉ is → rf[i]? = r[i]?) ∧ (∀ (i : Nat) (d : D), i ∈ is → r.rd i = some d → ∃ u, σ[i]? = some (some u) ∧ Rep T Pf d u)
  | [], P, r, rf, rs, e => by
    cases e
    exact ⟨P, .refl rs, fun _ _ => rfl, fun i d h => by cases h⟩
  | i :: is, P, r, rf, rs, e => by
    simp only [frzs] at e
    cases c : frz1 r i with
    | none => rw [c] at e; cases e
    | some r1 =>
      rw [c] at e
      -- one
      have one : ∃ P1, Aft T σ P H r P1 H r1 ∧ (∀ j, j ≠ i → r1[j]? = r[j]?) ∧ (∀ d, r.rd i = some d → ∃ u, σ[i]? = some (some u) ∧ Rep T P1 d u) ∧ (∀ d, r.rd i = some d → r1.rd i = some d) := by
        unfold frz1 at c
        cases q : r[i]? with
        | none =>
          rw [q] at c; cases c
          exact ⟨P, .refl rs, fun _ _ => rfl, fun d h => by simp [En.rd, q] at h, fun _ h => h⟩
        | some x =>
          rw [q] at c
          cases x with
          | no =>
            cases c
            exact ⟨P, .refl rs, fun _ _ => rfl, fun d h => by simp [En.rd, q, Sl.d?] at h, fun _ h => h⟩
          | sh d0 =>
            cases c
            refine ⟨P, .refl rs, fun _ _ => rfl, fun d h => ?_, fun _ h => h⟩
            simp [En.rd, q, Sl.d?] at h
            subst h
            exact rs.sh i _ q
          | ow d0 =>
            cases c
            obtain ⟨P1, u, a, rp, eu⟩ := setD_own rs q
            have hi := (List.getElem?_eq_some_iff.mp q).1
            refine ⟨P1, a, fun j n => List.getElem?_set_ne (Ne.symm n), fun d h => ?_, fun d h => ?_⟩
            · simp [En.rd, q, Sl.d?] at h
              subst h
              exact ⟨u, eu, rp⟩
            · simp [En.rd, q, Sl.d?] at h
              subst h
              simp [En.rd, List.getElem?_set_self hi, Sl.d?]
          | io d0 => cases c
      obtain ⟨P1, a1, n1, g1, k1⟩ := one
      obtain ⟨Pf, a2, n2, g2⟩ := frz_ok (is := is) a1.rs e
      refine ⟨Pf, a1.trans a2, fun j hj => ?_, fun j d hj hd => ?_⟩
      · rw [n2 j (fun z => hj (List.mem_cons_of_mem _ z)), n1 j (fun z => hj (by rw [z]; exact List.mem_cons_self))]
      · by_cases z : j = i
        · subst z
          obtain ⟨u, e1, e2⟩ := g1 d hd
          exact ⟨u, e1, Rep.ext a2.st.pp _ _ e2⟩
        · rcases List.mem_cons.mp hj with w | w
          · exact absurd w z
          · exact g2 j d w (by unfold En.rd; rw [n1 j z]; exact hd)
/-- slots that hold these addresses -/
def SA (σ : St) : List Nat → List Addr → Prop
  | [], as => as = []
  | i :: is, as => ∃ a t, as = a :: t ∧ σ[i]? = some (some (.ref a)) ∧ SA σ is t
theorem SA.mem {a : Addr} : ∀ {is : List Nat} {as : List Addr}, SA σ is as → a ∈ as → ∃ i, i ∈ is ∧ σ[i]? = some (some (.ref a))
  | [], _, h, m => by cases h; cases m
  | i :: is, _, h, m => by
    obtain ⟨b, t, rfl, e, h⟩ := h
    rcases List.mem_cons.mp m with rfl | m
    · exact ⟨i, List.mem_cons_self, e⟩
    · obtain ⟨j, m1, e1⟩ := h.mem m
      exact ⟨j, List.mem_cons_of_mem _ m1, e1⟩
/-- what a call gets -/
theorem args_ok (rs : RS T P H σ r) {Pf : Hp} {rf : En} (rsf : RS T Pf H σ rf) (ex : Ext P Pf) : ∀ {ms : List Bool} {xs : List (Nat ⊕ D)} {us : List V} {ds : List D}, RBs T σ P xs us → res r xs = some ds → argsOk r ms xs = true → (inouts ms xs).Nodup →
    (∀ i, i ∈ inouts ms xs → rf[i]? = r[i]?) → (∀ (i : Nat) (d : D), i ∈ plains ms xs → r.rd i = some d → ∃ u, σ[i]? = some (some u) ∧ Rep T Pf d u) →
    RArgs T Pf H ms ds us ∧ SA σ (inouts ms xs) (ioA ms us) ∧ ∀ i, i ∈ inouts ms xs → OwnAt r i
  | [], [], us, ds, h, e, _, _, _, _ => by
    cases e; cases h
    exact ⟨rfl, rfl, fun i m => by cases m⟩
  | [], _ :: _, _, _, _, _, e, _, _, _ => by cases e
  | false :: _, [], _, _, _, _, e, _, _, _ => by cases e
  | true :: _, [], _, _, _, _, e, _, _, _ => by cases e
  | true :: ms, .inr d :: xs, _, _, _, _, e, _, _, _ => by cases e
  | false :: ms, .inr d :: xs, us, ds, h, e, ok, nd, hi, hp => by
    obtain ⟨u, t, rfl, h1, h2⟩ := h
    simp only [res] at e
    cases c2 : res r xs with
    | none => rw [c2] at e; cases e
    | some ds' =>
      rw [c2] at e; cases e
      obtain ⟨q1, q2, q3⟩ := args_ok rs rsf ex (ms := ms) h2 c2 ok nd hi hp
      refine ⟨⟨u, t, rfl, Rep.ext ex _ _ h1, q1⟩, ?_, q3⟩
      cases u <;> exact q2
  | false :: ms, .inl i :: xs, us, ds, h, e, ok, nd, hi, hp => by
    obtain ⟨u, t, rfl, h1, h2⟩ := h
    simp only [res] at e
    cases c : r.rd i with
    | none => rw [c] at e; cases e
    | some d =>
      rw [c] at e
      cases c2 : res r xs with
      | none => rw [c2] at e; cases e
      | some ds' =>
        rw [c2] at e; cases e
        obtain ⟨q1, q2, q3⟩ := args_ok rs rsf ex (ms := ms) h2 c2 ok nd hi (fun j d' m => hp j d' (List.mem_cons_of_mem _ m))
        obtain ⟨w, e1, e2⟩ := hp i d List.mem_cons_self c
        have h1' : σ[i]? = some (some u) := h1
        rw [h1'] at e1; cases e1
        refine ⟨⟨u, t, rfl, e2, q1⟩, ?_, q3⟩
        cases u <;> exact q2
  | true :: ms, .inl i :: xs, us, ds, h, e, ok, nd, hi, hp => by
    obtain ⟨u, t, rfl, h1, h2⟩ := h
    simp only [res] at e
    simp only [argsOk, Bool.and_eq_true] at ok
    cases c : r.rd i with
    | none => rw [c] at e; cases e
    | some d =>
      rw [c] at e
      cases c2 : res r xs with
      | none => rw [c2] at e; cases e
      | some ds' =>
        rw [c2] at e; cases e
        simp only [inouts, List.nodup_cons] at nd
        obtain ⟨q1, q2, q3⟩ := args_ok rs rsf ex (ms := ms) h2 c2 ok.2 nd.2 (fun j m => hi j (List.mem_cons_of_mem _ m)) hp
        obtain ⟨d0, od⟩ := Option.isSome_iff_exists.mp ok.1
        have ow : OwnAt r i ∧ d0 = d := by
          unfold En.own? at od
          unfold En.rd at c
          cases z : r[i]? with
          | none => rw [z] at od; cases od
          | some x =>
            rw [z] at od c
            cases x with
            | ow d' => cases od; cases c; exact ⟨⟨_, .inl z⟩, rfl⟩
            | io d' => cases od; cases c; exact ⟨⟨_, .inr z⟩, rfl⟩
            | _ => cases od
        obtain ⟨ow, rfl⟩ := ow
        have odf : rf.own? i = some d0 := by unfold En.own?; rw [hi i List.mem_cons_self]; exact od
        obtain ⟨a, e1, e2, e3⟩ := own_at rsf odf
        have h1' : σ[i]? = some (some u) := h1
        rw [h1'] at e1; cases e1
        refine ⟨⟨a, t, rfl, e2, e3, q1, fun m => ?_⟩, ⟨a, _, rfl, h1', q2⟩, fun j m => ?_⟩
        · obtain ⟨j, m1, e4⟩ := q2.mem m
          have := rs.dis i j a ow (q3 j m1) h1' e4
          subst this
          exact nd.1 m1
        · rcases List.mem_cons.mp m with rfl | m
          · exact ow
          · exact q3 j m
/-- the changed slots behind a call -/
theorem chgs_get {P' H' : Hp} : ∀ {is : List Nat} {as : List Addr} {outs : List D} {r r2 : En}, SA σ is as → ROuts T P' H' as outs → chgs r is outs = some r2 →
    r2.length = r.length ∧ ∀ (j : Nat) (x : Sl), r2[j]? = some x → (j ∉ is ∧ r[j]? = some x) ∨ (j ∈ is ∧ ∃ (y : Sl) (a : Addr) (d : D), r[j]? = some y ∧ kle y x ∧ (x = .ow d ∨ x = .io d) ∧ σ[j]? = some (some (.ref a)) ∧ P' a = none ∧ RepO T P' H' a d)
  | [], as, outs, r, r2, h, ho, e => by
    cases h; cases ho; cases e
    exact ⟨rfl, fun j x q => .inl ⟨by simp, q⟩⟩
  | i :: is, as, outs, r, r2, h, ho, e => by
    obtain ⟨a, t, rfl, ea, h⟩ := h
    obtain ⟨d, ds, rfl, pa, ro, ho⟩ := ho
    simp only [chgs] at e
    cases c : r.chg i d with
    | none => rw [c] at e; cases e
    | some r1 =>
      rw [c] at e
      obtain ⟨l, g⟩ := chgs_get h ho e
      have key : ∃ y z, r[i]? = some y ∧ r1 = r.set i z ∧ kle y z ∧ (z = .ow d ∨ z = .io d) := by
        unfold En.chg at c
        cases q : r[i]? with
        | none => rw [q] at c; cases c
        | some x =>
          rw [q] at c
          cases x with
          | ow d' => cases c; exact ⟨_, _, rfl, rfl, trivial, .inl rfl⟩
          | io d' => cases c; exact ⟨_, _, rfl, rfl, trivial, .inr rfl⟩
          | _ => cases c
      obtain ⟨y, z, ey, rfl, k, ez⟩ := key
      have hi := (List.getElem?_eq_some_iff.mp ey).1
      refine ⟨by rw [l, List.length_set], fun j x q => ?_⟩
      rcases g j x q with ⟨n, q⟩ | ⟨m, y', b, d', q1, q2, q3, q4, q5, q6⟩
      · rcases set_get hi q with ⟨e1, e2⟩ | ⟨n2, e2⟩
        · subst e1; subst e2
          exact .inr ⟨List.mem_cons_self, y, a, d, ey, k, ez, ea, pa, ro⟩
        · exact .inl ⟨by simp [n, n2], e2⟩
      · refine .inr ⟨List.mem_cons_of_mem _ m, ?_⟩
        rcases set_get hi q1 with ⟨e1, e2⟩ | ⟨n2, e2⟩
        · subst e1; subst e2
          exact ⟨y, b, d', ey, k.trans q2, q3, q4, q5, q6⟩
        · exact ⟨y', b, d', e2, q2, q3, q4, q5, q6⟩
theorem aft_call {P' H' : Hp} {is : List Nat} {as : List Addr} {outs : List D} {r2 : En} (rs : RS T P H σ r) (sa : SA σ is as) (ow : ∀ i, i ∈ is → OwnAt r i) (sub : Ext P' H') (pp : Ext P P') (fr : ∀ b o, H b = some o → b ∉ as → H' b = some o)
    (dm : ∀ b, H' b = none → H b = none) (nw : ∀ b, P' b ≠ none → P b ≠ none ∨ NT H b) (ho : ROuts T P' H' as outs) (e : chgs r is outs = some r2) : Aft T σ P H r P' H' r2 := by
  obtain ⟨l, g⟩ := chgs_get sa ho e
  have ownJ : ∀ j, OwnAt r2 j → OwnAt r j := fun j ⟨d, o⟩ => by
    rcases o with o | o
    · rcases g j _ o with ⟨_, q⟩ | ⟨m, _⟩
      · exact ⟨d, .inl q⟩
      · exact ow j m
    · rcases g j _ o with ⟨_, q⟩ | ⟨m, _⟩
      · exact ⟨d, .inr q⟩
      · exact ow j m
  refine ⟨⟨sub, by rw [l]; exact rs.len, fun j d q => ?_, fun j d q => ?_, fun j k a o1 o2 => rs.dis j k a (ownJ j o1) (ownJ k o2)⟩, ⟨pp, fun b o eb nb => fr b o eb fun m => ?_, dm, fun b hb => (nw b hb).elim .inl fun z => .inr (.inl z)⟩, ⟨l, fun j x x' h1 h2 => ?_⟩⟩
  · rcases g j _ q with ⟨_, q⟩ | ⟨m, y, a, d', _, _, q3, _⟩
    · obtain ⟨v, e1, e2⟩ := rs.sh j d q
      exact ⟨v, e1, Rep.ext pp _ _ e2⟩
    · rcases q3 with q3 | q3 <;> cases q3
  · have q' : (j ∉ is ∧ (r[j]? = some (Sl.ow d) ∨ r[j]? = some (Sl.io d))) ∨ (∃ a, σ[j]? = some (some (.ref a)) ∧ P' a = none ∧ RepO T P' H' a d) := by
      rcases q with q | q
      · rcases g j _ q with ⟨n, q⟩ | ⟨m, y, a, d', _, _, q3, q4, q5, q6⟩
        · exact .inl ⟨n, .inl q⟩
        · rcases q3 with q3 | q3 <;> cases q3
          exact .inr ⟨a, q4, q5, q6⟩
      · rcases g j _ q with ⟨n, q⟩ | ⟨m, y, a, d', _, _, q3, q4, q5, q6⟩
        · exact .inl ⟨n, .inr q⟩
        · rcases q3 with q3 | q3 <;> cases q3
          exact .inr ⟨a, q4, q5, q6⟩
    rcases q' with ⟨n, q⟩ | q
    · obtain ⟨a, e1, e2, e3⟩ := rs.own j d q
      obtain ⟨o, eo⟩ := e3.some
      have na : a ∉ as := fun m => by
        obtain ⟨i, m1, e4⟩ := sa.mem m
        have := rs.dis j i a ⟨d, q⟩ (ow i m1) e1 e4
        subst this
        exact n m1
      refine ⟨a, e1, ?_, e3.move pp (by rw [fr a o eo na, eo])⟩
      cases z : P' a with
      | none => rfl
      | some w =>
        rcases nw a (by rw [z]; simp) with y | y
        · exact absurd e2 y
        · exact absurd y e3.nt
    · exact q
  · obtain ⟨i, m1, e4⟩ := sa.mem m
    exact nb ⟨i, ow i m1, e4⟩
  · rcases g j _ h2 with ⟨_, q⟩ | ⟨_, y, _, _, q1, q2, _⟩
    · rw [h1] at q; cases q; exact kle.refl x
    · rw [h1] at q1; cases q1; exact q2
theorem shal_outs {P0 P' H' : Hp} (ex : ∀ a, P' a = none → P0 a = none) : ∀ {as : List Addr} {outs : List D}, outs.all shal = true → ROuts T P' H' as outs → ROuts T P0 H' as outs
  | [], _, _, h => h
  | a :: as, _, s, h => by
    obtain ⟨d, t, rfl, h1, h2, h3⟩ := h
    simp only [List.all_cons, Bool.and_eq_true] at s
    exact ⟨d, t, rfl, ex a h1, shal_repO s.1 h2, shal_outs ex s.2 h3⟩
/-- a call's promise, from what the evaluator wants behind it -/
theorem goC_of {c : List D → CR} {ms : List Bool} {xs : List (Nat ⊕ D)} {us : List V} {Q : VK} (rs : RS T P H σ r) (rb : RBs T σ P xs us) (go : Go T WF (relV T) σ P H r (callR ms c xs r) Q) :
    spD T ms c us H Q (fun _ _ _ => False) := by
  unfold callR at go
  by_cases k : (argsOk r ms xs && apart (inouts ms xs) (plains ms xs) && decide (ms.length = xs.length)) = true
  rotate_left
  · rw [if_neg k] at go; exact go.elim
  rw [if_pos k] at go
  simp only [Bool.and_eq_true, decide_eq_true_eq] at k
  obtain ⟨⟨k1, k2⟩, k3⟩ := k
  simp only [apart, Bool.and_eq_true, decide_eq_true_eq, List.all_eq_true, Bool.not_eq_true', List.contains_eq_mem, decide_eq_false_iff_not] at k2
  cases er : res r xs with
  | none => rw [er] at go; exact go.elim
  | some ds =>
    rw [er] at go
    simp only [after] at go
    cases ef : frzs r (plains ms xs) with
    | none => rw [ef] at go; exact go.elim
    | some rf =>
      rw [ef] at go
      obtain ⟨Pf, af, n1, g1⟩ := frz_ok rs ef
      obtain ⟨ra, sa, ow⟩ := args_ok rs af.rs af.st.pp rb er k1 k2.1 (fun i m => n1 i (k2.2 i m)) g1
      refine ⟨Pf, ds, af.rs.sub, ra, ?_⟩
      cases ec : c ds with
      | bad => rw [ec] at go; exact go.elim
      | exc _ _ _ =>
        rw [ec] at go; exact go.elim
      | ok v outs =>
        rw [ec] at go
        intro u P' H' a rv
        simp only at go
        split at go
        · rename_i sc
          rw [Bool.and_eq_true] at sc
          split at go
          · rename_i r1 e1
            have nf : ∀ b, P' b = none → P b = none := fun b hb => by
              cases z : P b with
              | none => rfl
              | some w => rw [a.pp _ _ (af.st.pp _ _ z)] at hb; cases hb
            refine go u P H' (aft_call rs sa ow (fun b o hb => a.sub _ _ (a.pp _ _ (af.st.pp _ _ hb))) (.refl _) a.fr a.dm (fun b hb => .inl hb) (shal_outs nf sc.2 a.outs) e1) ?_
            cases v with
            | sh d => exact flat_rep sc.1 rv
            | ow d =>
              obtain ⟨b, _, _, ro, _⟩ := rv
              have : flat d = true := sc.1
              cases d <;> first | exact False.elim ro | cases this
          · exact go.elim
        · split at go
          · rename_i r1 e1
            refine go u P' H' (af.trans (aft_call af.rs sa (fun i m => ?_) a.sub a.pp a.fr a.dm a.nw a.outs e1)) rv
            obtain ⟨d, o⟩ := ow i m
            exact ⟨d, by rw [n1 i (k2.2 i m)]; exact o⟩
          · exact go.elim
end
section
variable {T : Tb} {W : WX} {X : Cx} {k : Nat} {f : Addr} {fd : FuncData} {ps : List Str} {ds : List Value} {dvs : List V} {dfl : List D} {x : Str}
/-- the callee runs -/
theorem run_fnG {sp : Sp} {pins : List (Addr × Obj)} {s : Shared} {σ : St} {H : Hp} {us : List Value} {vs : List V} {Q : VK} (ck : CB T k X) (F : FnG T k f fd ps sp) (hb : Binds T.K fd ps ds) (hd : Vals dvs ds)
    (I : Inv X pins σ H s) (r : Vals vs us) (h : sp (vs ++ dvs) H Q (fun _ _ _ => False)) : wpAny (model X.prog X.w) X.A (call (.ref f) us) (EP X pins σ Q) X.xe s := by
  have r2 : Vals (vs ++ dvs) (us ++ ds) := r.append hd
  have hl : (us ++ ds).length = ps.length := by rw [← r2.length]; exact F.len _ _ _ _ h
  have e0 : Env0 T.P T.w T.K T.mg T.base X.A X.stack s H := by
    rw [← ck.eP, ← ck.ew, ← ck.eK, ← ck.emg, ← ck.ebase]; exact I.env0
  have run := F.run X.A X.stack s H ⟨us, []⟩ (us ++ ds) (vs ++ dvs) Q (fun _ _ _ => False) ck.room ck.grd e0 (hb s us (by rw [← ck.eK]; exact I.kIn) hl) r2 h
  rw [ck.eP, ck.ew]
  refine wpAny_call (codeAny_mono run fun r s' hq => ?_)
  cases r with
  | error e => exact False.elim hq
  | ok fl =>
    cases fl with
    | ret u => exact I.after (by rw [ck.eP, ck.ew]; exact hq)
    | next => exact False.elim hq
    | brk => exact False.elim hq
    | cont => exact False.elim hq
theorem rbs_app {σ : St} {P : Hp} : ∀ {xs ys : List (Nat ⊕ D)} {us vs : List V}, RBs T σ P xs us → RBs T σ P ys vs → RBs T σ P (xs ++ ys) (us ++ vs)
  | [], _, _, _, h, h2 => by cases h; exact h2
  | x :: xs, _, _, _, h, h2 => by
    obtain ⟨u, t, rfl, h1, h⟩ := h
    exact ⟨u, _, rfl, h1, rbs_app h h2⟩
theorem rbs_inr {σ : St} {P : Hp} : ∀ {ds : List D} {us : List V}, Reps T P ds us → RBs T σ P (ds.map .inr) us
  | [], _, h => h.of_nil
  | d :: ds, _, h => by
    obtain ⟨u, t, rfl, h1, h⟩ := h.of_cons
    exact ⟨u, t, rfl, h1, rbs_inr h⟩
def tDef (T : Tb) (ms : List Bool) (c : List D → CR) (dvs : List V) (t : TA) : TE := fun σ H Q => t σ H fun vs H1 => spD T ms c (vs ++ dvs) H1 Q (fun _ _ _ => False)
theorem pe_def {ms : List Bool} {c : List D → CR} {e : PySem.Expr} {es : List PySem.Expr} {p pos : Pos} {t : TA} (ck : CB T k X) (F : FnG T k f fd ps (spD T ms c)) (hg : Gl X x) (hm : T.mg x = some (.ref f)) (hk : PySem.W.keepIn T.K (.ref f) = true) (hb : Binds T.K fd ps ds) (hd : Vals dvs ds)
    (ha : PA X (e :: es) t) (hs : notStar e = true) (hss : es.all notStar = true) (hdb : (x == ("__debug__" : Str)) = false) :
    PE X (.Call (.Name x p) (e :: es) [] pos) (tDef T ms c dvs t) := by
  refine ⟨fun pins s σ H Q I h => ?_⟩
  refine wpAny_Call_Name_kw (ld_glob I hg (by rw [ck.emg]; exact hm) ?_ hdb)
  refine PySem.W.callWith_K (h₀ := X.base) I.ok.mod.kin (by rw [ck.eK]; exact hk) (thn (ha.run pos pins s σ H _ I h) fun us s1 ⟨vs, H1, I1, r, q⟩ => ⟨I1.kIn, ?_⟩) (star_one hs es X.env) (star_all hss X.env pos)
  exact run_fnG ck F hb hd I1 r q
/-- a def's call by what the evaluator says -/
theorem de_def {ms : List Bool} {c : List D → CR} {e : PySem.Expr} {fs : En → R (List (Nat ⊕ D))} {t : TA} (h : PE X e (tDef T ms c dvs t)) (ht : ∀ σ H Q, tA T WF fs σ H Q → t σ H Q) (hd : ∀ P, Reps T P dfl dvs) :
    PE X e (tE T WF fun r => (fs r).bind fun ys r1 => callR ms c (ys ++ dfl.map .inr) r1) := peImp h fun σ H Q ⟨P, r, rs, go⟩ =>
  ht _ _ _ ⟨P, r, rs, (Go.bind (anti_V T) go).mono fun us H1 ⟨P1, r1, ys, a, q, e, g⟩ => goC_of a.rs (rbs_app q (rbs_inr (hd P1))) g⟩
end
end Z
/-! ZP: methods, isinstance, slices, tests. -/
namespace Z
open PySem PySem.Spec L2
open PyProof.Rows hiding St
section
variable {T : Tb} {W : WX} {X : Cx} {e : PySem.Expr} {fa fb fc : En → R (Nat ⊕ D)}
theorem bind_assoc {A B C : Type} (x : R A) (f : A → En → R B) (g : B → En → R C) : (x.bind f).bind g = x.bind fun a r => (f a r).bind g := by cases x <;> rfl
/-! ### methods that change -/
/-- a method's rule does what the evaluator says -/
def MuOk (T : Tb) (m : MU) (rr : V → List V → Hp → VK → Prop) : Prop :=
  ∀ (P H : Hp) (a : Addr) (l : List D) (xs : List V) (ds : List D) (us : List V) (o' v : D), H a = some (.lst xs) → Reps T P l xs → Reps T P ds us → muD m (.lst l) ds = some (o', v) →
    ∃ l' xs' u, o' = .lst l' ∧ Reps T P l' xs' ∧ Rep T P v u ∧ ∀ Q : VK, Q u (upd H a (.lst xs')) → rr (.ref a) us H Q
theorem mu_append : MuOk T .append rAppend := fun P H a l xs ds us o' v hH hl hd e => by
  match ds, us, hd, e with
  | [x], us, hd, e =>
    obtain ⟨u, t, rfl, h1, h2⟩ := hd.of_cons
    rw [h2.of_nil]
    simp only [muD] at e
    split at e
    · rename_i z
      cases e
      exact ⟨_, xs ++ [u], .non, rfl, hl.append (.cons h1 .nil), by simp only [Rep], fun Q q => ⟨a, xs, u, rfl, rfl, hH, by rw [hl.length, ← LINE_eq]; exact z, q⟩⟩
    · cases e
  | [], _, _, e => simp [muD] at e
  | _ :: _ :: _, _, _, e => simp [muD] at e
theorem ixN_small {n : Nat} {i : Int} {k : Nat} (h : Z.ixN n i = some k) (hn : n ≤ LINE) : -(2 ^ 63) ≤ i ∧ i < 2 ^ 63 ∧ seqIndex? i n = some k := by
  have hl : (LINE : Nat) = 16777216 := rfl
  unfold Z.ixN at h
  unfold seqIndex?
  by_cases c : 0 ≤ i
  · rw [if_pos c] at h
    by_cases c2 : i < (n : Int)
    · rw [if_pos c2] at h
      refine ⟨by omega, by omega, ?_⟩
      rw [← h, if_neg (show ¬ i < 0 by omega)]
      simp [c, c2]
    · rw [if_neg c2] at h; cases h
  · rw [if_neg c] at h
    by_cases c2 : -(n : Int) ≤ i
    · rw [if_pos c2] at h
      refine ⟨by omega, by omega, ?_⟩
      rw [← h, if_pos (show i < 0 by omega)]
      have h1 : 0 ≤ i + n := by omega
      have h2 : i + (n : Int) < n := by omega
      simp [h1, h2]
    · rw [if_neg c2] at h; cases h
theorem mu_popAt : MuOk T .popAt rPopAt := fun P H a l xs ds us o' v hH hl hd e => by
  match ds, us, hd, e with
  | [.int i], us, hd, e =>
    obtain ⟨u, t, rfl, h1, h2⟩ := hd.of_cons
    rw [h2.of_nil]
    simp only [Rep] at h1
    subst h1
    simp only [muD] at e
    by_cases hn : l.length ≤ LINE
    rotate_left
    · rw [if_neg hn] at e; cases e
    rw [if_pos hn] at e
    cases c : Z.ixN l.length i with
    | none => rw [c] at e; cases e
    | some k =>
      rw [c] at e
      simp only [Option.bind_some] at e
      cases c2 : l[k]? with
      | none => rw [c2] at e; cases e
      | some y =>
        rw [c2] at e
        cases e
        obtain ⟨u, e1, e2⟩ := hl.get c2
        obtain ⟨b1, b2, b3⟩ := ixN_small c hn
        exact ⟨_, xs.eraseIdx k, u, rfl, hl.eraseIdx k, e2, fun Q q => ⟨a, xs, i, k, u, rfl, rfl, hH, b1, b2, by rw [hl.length]; exact b3, e1, q⟩⟩
  | [], _, _, e => simp [muD] at e
  | _ :: _ :: _, _, _, e => simp [muD] at e
  | [.non], _, _, e => simp [muD] at e
  | [.bl _], _, _, e => simp [muD] at e
  | [.str _], _, _, e => simp [muD] at e
  | [.lst _], _, _, e => simp [muD] at e
  | [.tup _], _, _, e => simp [muD] at e
  | [.dct _ _], _, _, e => simp [muD] at e
  | [.dts _], _, _, e => simp [muD] at e
  | [.fn _], _, _, e => simp [muD] at e
  | [.exn _ _], _, _, e => simp [muD] at e
  | [.scr _], _, _, e => simp [muD] at e
def mutR (m : MU) (i : Nat) (ds : List D) (r1 : En) : R Val := (R.of ((r1.own? i).bind fun o => (muD m o ds).bind fun p => (r1.chg i p.1).map fun r2 => (Val.sh p.2, r2)) r1).bind (fun q _ => .ok q.1 q.2)
theorem mut_go {m : MU} {rr : V → List V → Hp → VK → Prop} (hm : MuOk T m rr) {σ : St} {P H : Hp} {r : En} {i : Nat} {ds : List D} {us : List V} {a : Addr} {Q : VK} (rs : RS T P H σ r) (ea : σ[i]? = some (some (.ref a))) (hd : Reps T P ds us)
    (go : Go T W (relV T) σ P H r (mutR m i ds r) Q) : rr (.ref a) us H Q := by
  unfold mutR at go
  cases c1 : r.own? i with
  | none => rw [c1] at go; exact go.elim
  | some o =>
    rw [c1] at go
    simp only [Option.bind_some] at go
    cases c2 : muD m o ds with
    | none => rw [c2] at go; exact go.elim
    | some p =>
      rw [c2] at go
      simp only [Option.bind_some] at go
      cases c3 : r.chg i p.1 with
      | none => rw [c3] at go; exact go.elim
      | some r2 =>
        rw [c3] at go
        obtain ⟨b, e1, e2, e3⟩ := own_at rs c1
        rw [ea] at e1; cases e1
        have hl : ∃ l, o = .lst l := by
          cases o with
          | lst l => exact ⟨l, rfl⟩
          | _ => cases m <;> simp [muD] at c2
        obtain ⟨l, rfl⟩ := hl
        obtain ⟨xs, hH, hx⟩ := e3
        obtain ⟨l', xs', u, h1, h2, h3, h4⟩ := hm P H a l xs ds us p.1 p.2 hH hx hd c2
        refine h4 Q (go u P (upd H a (.lst xs')) ?_ h3)
        rw [h1] at c3
        exact chg_ok rs c1 ea c3 ⟨xs', upd_same, h2⟩
theorem lstAt_own {r : En} {i : Nat} (h : lstAt r i = true) : ∃ l, r.own? i = some (.lst l) := by
  unfold lstAt at h
  cases c : r.own? i with
  | none => rw [c] at h; cases h
  | some o =>
    rw [c] at h
    cases o <;> first | cases h; done | skip
    exact ⟨_, rfl⟩
theorem tBM_of (hK : X.K = T.K) {m : MU} {rr : V → List V → Hp → VK → Prop} (hm : MuOk T m rr) {i : Nat} {f : En → R (List D)} {σ : St} {H : Hp} {Q : VK}
    (h : tE T W (fun r => if lstAt r i = true then (f r).bind fun ds r1 => mutR m i ds r1 else .bad) σ H Q) {t : TA} (ht : ∀ σ H Q, tS T W f σ H Q → t σ H Q) : tBM X.K "list" rr (tVar i) t σ H Q := by
  obtain ⟨P, r, rs, go⟩ := h
  dsimp only at go
  by_cases k : lstAt r i = true
  · rw [if_pos k] at go
    obtain ⟨l, e0⟩ := lstAt_own k
    obtain ⟨a, ea, _, ro⟩ := own_at rs e0
    obtain ⟨xs, hH, _⟩ := ro
    refine ⟨.ref a, ea, .inl ⟨rfl, xs, .inl (.inl hH)⟩, ht _ _ _ ⟨P, r, rs, (Go.bind (anti_V T) go).mono fun us H1 ⟨P1, r1, ds, a1, q1, e1, go1⟩ => mut_go hm a1.rs ea q1 go1⟩⟩
  · rw [if_neg k] at go; exact go.elim
theorem de_append (hK : X.K = T.K) {o x : PySem.Expr} {apos cpos : Pos} {i : Nat} {f : En → R (List D)} (ho : PE X o (tVar i)) (ha : PA X [x] (tS T W f)) (hs : notStar x = true)
    (hb : attributeBase o "append" X.env (eval o X.env) = eval o X.env) (hl : (apos.endLine == cpos.line) = true) :
    PE X (.Call (.Attribute o "append" apos) [x] [] cpos) (tE T W fun r => if lstAt r i = true then (f r).bind fun ds r1 => mutR .append i ds r1 else .bad) :=
  peImp (pe_bm PySem.F.plainAttrs_list PySem.F.slot_list_append PySem.F.type_list_append (mt_append (X := X)) ho ha hb (by rw [star_one hs]; rfl) hl (star_one hs _ _) rfl) fun σ H Q h => tBM_of hK mu_append h fun _ _ _ h => h
theorem de_popAt (hK : X.K = T.K) {o x : PySem.Expr} {apos cpos : Pos} {i : Nat} {f : En → R (List D)} (ho : PE X o (tVar i)) (ha : PA X [x] (tS T W f)) (hs : notStar x = true)
    (hb : attributeBase o "pop" X.env (eval o X.env) = eval o X.env) (hl : (apos.endLine == cpos.line) = true) :
    PE X (.Call (.Attribute o "pop" apos) [x] [] cpos) (tE T W fun r => if lstAt r i = true then (f r).bind fun ds r1 => mutR .popAt i ds r1 else .bad) :=
  peImp (pe_bm PySem.F.plainAttrs_list PySem.F.slot_list_pop PySem.F.type_list_pop (mt_popAt (X := X)) ho ha hb (by rw [star_one hs]; rfl) hl (star_one hs _ _) rfl) fun σ H Q h => tBM_of hK mu_popAt h fun _ _ _ h => h
/-! ### methods that only look -/
theorem de_bits {o : PySem.Expr} {apos pos : Pos} (ho : PE X o (tB T W fa)) (hb : attributeBase o "bit_length" X.env (eval o X.env) = eval o X.env) (hl : (apos.endLine == pos.line) = true) :
    PE X (.Call (.Attribute o "bit_length" apos) [] [] pos) (tE T W fun r => (fa r).bind fun x r1 => op1 (fun d => (mtD .bitlen d []).map Val.sh) x r1) := by
  refine de_op1 (peImp (pe_bits ho hb hl) fun σ H Q h => ?_)
  obtain ⟨P, r, rs, go⟩ := h
  refine ⟨P, r, rs, go.mono fun u H1 ⟨a, v, σ1, P1, r1, rs1, ra, e, go1⟩ => ?_⟩
  cases a <;> simp only [mtD, Option.map_none, Option.map_some] at e <;> first | (cases e; done) | skip
  cases e
  exact ⟨_, ra.int, go1.here rs1 (by simp only [Rep])⟩
theorem indexD_spec {x : D} {l : List D} {k : Nat} (h : indexD x l = some k) : ∃ y, l[k]? = some y ∧ eqv y x = true ∧ ∀ m z, m < k → l[m]? = some z → eqv z x = false := by
  unfold indexD at h
  rw [List.find?_range_eq_some] at h
  obtain ⟨h1, h2, h3⟩ := h
  cases c : l[k]? with
  | none => rw [c] at h1; cases h1
  | some y =>
    rw [c] at h1
    refine ⟨y, rfl, h1, fun m z hm hz => ?_⟩
    have := h3 m hm
    rw [hz] at this
    simpa using this
theorem de_index (hK : X.K = T.K) {o x : PySem.Expr} {apos cpos : Pos} {f : En → R (List (Nat ⊕ D))} (ho : PE X o (tB T W fa)) (ha : PA X [x] (tA T W f)) (hs : notStar x = true)
    (hb : attributeBase o "index" X.env (eval o X.env) = eval o X.env) (hl : (apos.endLine == cpos.line) = true) :
    PE X (.Call (.Attribute o "index" apos) [x] [] cpos) (tE T W fun r => (fa r).bind fun x r1 => if lstB r1 x then (f r1).bind fun xs r2 => opn (fun l => match l with | d :: ds => (mtD .index d ds).map Val.sh | [] => none) (x :: xs) r2 else .bad) := by
  refine peImp (pe_bm PySem.F.plainAttrs_list PySem.F.slot_list_index PySem.F.type_list_index (mt_index (X := X)) ho ha hb (by rw [star_one hs]; rfl) hl (star_one hs _ _) rfl) fun σ H Q ⟨P, r, rs, go⟩ => ?_
  refine ⟨P, r, rs, (Go.bind (anti_V T) go).mono fun u H1 ⟨P1, r1, x, a1, q1, e1, go1⟩ => ?_⟩
  by_cases k : lstB r1 x = true
  rotate_left
  · rw [if_neg k] at go1; exact go1.elim
  rw [if_pos k] at go1
  have hx : ∃ l, res r1 [x] = some [.lst l] := by
    unfold lstB at k
    split at k
    · rename_i l h; exact ⟨l, h⟩
    · cases k
  obtain ⟨l, hx⟩ := hx
  obtain ⟨d, e0, ra⟩ := res1 a1.rs q1 hx
  cases e0
  obtain ⟨p, xs, rfl, hH, hr⟩ := ra.lst a1.rs
  refine ⟨.inl ⟨rfl, xs, .inl (.inl hH)⟩, ⟨P1, r1, a1.rs, (Go.bind (anti_V T) go1).mono fun us H2 ⟨P2, r2, ys, a2, q2, e2, go2⟩ => ?_⟩⟩
  unfold opn at go2
  cases c : res r2 (x :: ys) with
  | none => rw [c] at go2; exact go2.elim
  | some ds =>
    rw [c] at go2
    simp only [Option.bind_some] at go2
    have rb : RBs T σ P2 (x :: ys) (.ref p :: us) := ⟨_, _, rfl, q1.ext a2.st.pp, q2⟩
    have ras := res_ok a2.rs rb c
    match ds, ras, go2 with
    | [], ras, go2 => exact go2.elim
    | d :: ds, ras, go2 =>
      obtain ⟨u0, t0, e3, ra1, ras⟩ := ras
      cases e3
      simp only at go2
      cases c2 : mtD .index d ds with
      | none => rw [c2] at go2; exact go2.elim
      | some w =>
        rw [c2] at go2
        match d, ds, c2, ra1, ras with
        | .lst l2, [y], c2, ra1, ras =>
          simp only [mtD] at c2
          split at c2
          rotate_left
          · cases c2
          rename_i hf
          rw [Bool.and_eq_true] at hf
          cases c3 : indexD y l2 with
          | none => rw [c3] at c2; cases c2
          | some k =>
            rw [c3] at c2
            cases c2
            obtain ⟨p2, xs2, e4, hH2, hr2⟩ := ra1.lst a2.rs
            cases e4
            obtain ⟨u1, t1, e5, ra2, ras2⟩ := ras
            subst e5
            obtain rfl : t1 = [] := ras2
            have ry : Rep T P2 y u1 := flat_RA hf.1 ra2
            obtain ⟨z, g1, g2, g3⟩ := indexD_spec c3
            have fl : ∀ {m : Nat} {w : D}, l2[m]? = some w → flat w = true := fun {m w} q => List.all_eq_true.mp hf.2 w (List.mem_of_getElem? q)
            obtain ⟨v, e6, e7⟩ := hr2.get g1
            refine ⟨p, xs2, u1, k, v, rfl, rfl, .inl (.inl hH2), rep_flatV hf.1 ry, all_flatV hr2 hf.2, e6, by rw [rep_eqV (fl g1) hf.1 e7 ry]; exact g2, fun m z' hm hz => ?_, go2.here a2.rs (by simp only [Rep])⟩
            have hlt : m < l2.length := by
              have := (List.getElem?_eq_some_iff.mp hz).1
              rw [hr2.length] at this
              exact this
            obtain ⟨v', e8, e9⟩ := hr2.get (List.getElem?_eq_getElem hlt)
            rw [hz] at e8; cases e8
            rw [rep_eqV (fl (List.getElem?_eq_getElem hlt)) hf.1 e9 ry]
            exact g3 m _ hm (List.getElem?_eq_getElem hlt)
        | .lst _, [], c2, _, _ => simp [mtD] at c2
        | .lst _, _ :: _ :: _, c2, _, _ => simp [mtD] at c2
        | .non, _, c2, _, _ => simp [mtD] at c2
        | .bl _, _, c2, _, _ => simp [mtD] at c2
        | .int _, _, c2, _, _ => simp [mtD] at c2
        | .str _, _, c2, _, _ => simp [mtD] at c2
        | .tup _, _, c2, _, _ => simp [mtD] at c2
        | .dct _ _, _, c2, _, _ => simp [mtD] at c2
        | .dts _, _, c2, _, _ => simp [mtD] at c2
        | .fn _, _, c2, _, _ => simp [mtD] at c2
        | .exn _ _, _, c2, _, _ => simp [mtD] at c2
        | .scr _, _, c2, _, _ => simp [mtD] at c2
end
end Z
/-! ZQ: built-in calls, isinstance, slices, tests. -/
namespace Z
open PySem PySem.Spec L2
open PyProof.Rows hiding St
section
variable {T : Tb} {W : WX} {X : Cx} {e : PySem.Expr} {fa fb fc : En → R (Nat ⊕ D)}
/-! ### built-in functions and types called -/
theorem de_biB {id : String} {x : Str} {a : PySem.Expr} {es : List PySem.Expr} {p pos : Pos} {g : List D → Option Val} {f : En → R (List (Nat ⊕ D))} (hc : CallR X (.builtin id) (rDn T W g)) (hg : Gl X x) (hm : X.mg x = none) (hv : bootBuiltins x = some (.builtin id))
    (hs : notStar a = true) (hss : es.all notStar = true) (ha : PA X (a :: es) (tA T W f)) (hn : x ≠ "__name__") (hd : (x == ("__debug__" : Str)) = false) :
    PE X (.Call (.Name x p) (a :: es) [] pos) (tE T W fun r => (f r).bind fun xs r1 => opn g xs r1) :=
  de_opn (pe_callB hc hg hm hv ha hn hd (star_one hs es X.env) (star_all hss X.env pos))
theorem de_biT {id : String} {x : Str} {a : PySem.Expr} {es : List PySem.Expr} {p pos : Pos} {g : List D → Option Val} {f : En → R (List (Nat ⊕ D))} (hc : CallR X (.type id) (rDn T W g)) (hg : Gl X x) (hm : X.mg x = none) (hv : bootBuiltins x = some (.type id))
    (hs : notStar a = true) (hss : es.all notStar = true) (ha : PA X (a :: es) (tA T W f)) (hn : x ≠ "__name__") (hd : (x == ("__debug__" : Str)) = false) :
    PE X (.Call (.Name x p) (a :: es) [] pos) (tE T W fun r => (f r).bind fun xs r1 => opn g xs r1) :=
  de_opn (pe_callTy hc hg hm hv ha hn hd (star_one hs es X.env) (star_all hss X.env pos))
theorem de_isi (hK : X.K = T.K) {t : Ty} (ht : ∀ c, t ≠ .cls c) {a b : PySem.Expr} {p pos : Pos} (hg : Gl X "isinstance") (hm : X.mg "isinstance" = none) (hs : notStar a = true) (hs' : notStar b = true) (ha : PE X a (tB T W fa)) (hb : PE X b (tC (.ty (tyName t)))) :
    PE X (.Call (.Name "isinstance" p) [a, b] [] pos) (tE T W fun r => (fa r).bind fun x r1 => op1 (fun u => boolV (isiD u t)) x r1) := by
  refine de_op1 (peImp (pe_callB (isi_D (T := T) (W := W) hK t ht) hg hm PyProof.Rows.boot_isinstance (pa_cons ha (pa_cons hb pa_nil (star_one hs' _ _)) (star_one hs _ _)) (by decide) (by decide) (star_one hs _ _) (star_all (by simp [hs']) _ _)) fun σ H Q h => ?_)
  obtain ⟨P, r, rs, go⟩ := h
  refine ⟨P, r, rs, go.mono fun u H1 q => ?_⟩
  exact ⟨u, rfl, q⟩
/-! ### slices -/
def relP (T : Tb) (σ : St) : Rel (Nat ⊕ D) (Option Int) := fun _ _ _ x o => ∃ d, x = .inr d ∧ part? d = some o
theorem anti_P (T : Tb) (σ : St) : Anti (relP T σ) := fun _ _ _ _ _ _ _ q => q
def tP (T : Tb) (W : WX) (f : En → R (Nat ⊕ D)) : TO := fun σ H Q => ∃ P r, RS T P H σ r ∧ Go T W (relP T σ) σ P H r (f r) Q
theorem dp_none : PO X none (tP T W fun r => .ok (.inr .non) r) := ⟨fun pins s σ H Q I ⟨P, r, rs, go⟩ => po_none.run pins s σ H Q I (go none P H (.refl rs) ⟨.non, rfl, rfl⟩)⟩
theorem dp_some (h : PE X e (tB T W fa)) : PO X (some e) (tP T W fun r => (fa r).bind fun x r1 => R.of (match res r1 [x] with | some [.int i] => some (.inr (.int i)) | _ => none) r1) :=
  ⟨fun pins s σ H Q I ⟨P, r, rs, go⟩ => (po_some h).run pins s σ H Q I ⟨P, r, rs, (Go.bind (anti_P T σ) go).mono fun u H1 ⟨P1, r1, x, a1, q1, e1, go1⟩ => by
    cases c : res r1 [x] with
    | none => rw [c] at go1; exact go1.elim
    | some l =>
      obtain ⟨a, rfl, ra⟩ := res1 a1.rs q1 c
      rw [c] at go1
      cases a with
      | int i => exact ⟨i, ra.int, go1 (some i) P1 H1 (.refl a1.rs) ⟨.int i, rfl, rfl⟩⟩
      | _ => exact go1.elim⟩⟩
theorem de_slc (hK : X.K = T.K) {lo hi : Option PySem.Expr} {p2 pos : Pos} (he : PE X e (tB T W fa)) (hl : PO X lo (tP T W fb)) (hh : PO X hi (tP T W fc)) :
    PE X (.Subscript e (.Slice lo hi none p2) pos) (tE T W fun r => (fa r).bind fun x r1 => (fb r1).bind fun y r2 => (fc r2).bind fun z r3 => op3 slcD x y z r3) := by
  refine peImp (pe_slice (sl_D (W := W) hK) he hl hh) fun σ H Q ⟨P, r, rs, go⟩ => ⟨P, r, rs, (Go.bind (anti_V T) go).mono fun u H1 ⟨P1, r1, x, a1, q1, e1, go1⟩ => ⟨P1, r1, a1.rs, (Go.bind (anti_V T) go1).mono fun o H2 ⟨P2, r2, y, a2, q2, e2, go2⟩ => ⟨P2, r2, a2.rs, (Go.bind (anti_V T) go2).mono fun o' H3 ⟨P3, r3, z, a3, q3, e3, go3⟩ => ?_⟩⟩⟩
  obtain ⟨d, rfl, pd⟩ := q2
  obtain ⟨d', rfl, pd'⟩ := q3
  unfold op3 at go3
  cases c : res r3 [x] with
  | none =>
    have : res r3 [x, .inr d, .inr d'] = none := by
      cases x with
      | inl i => simp only [res] at c ⊢; cases z : r3.rd i <;> simp_all
      | inr w => simp [res] at c
    rw [this] at go3; exact go3.elim
  | some l =>
    obtain ⟨a, rfl, ra⟩ := res1 a3.rs ((q1.ext a2.st.pp).ext a3.st.pp) c
    have : res r3 [x, .inr d, .inr d'] = some [a, d, d'] := by
      cases x with
      | inl i => simp only [res] at c ⊢; cases z : r3.rd i <;> simp_all
      | inr w => simp [res] at c ⊢; exact c
    rw [this] at go3
    dsimp only at go3
    cases c2 : slcD a d d' with
    | none => rw [c2] at go3; exact go3.elim
    | some w => rw [c2] at go3; exact ⟨a, d, d', w, σ, P3, r3, a3.rs, ra, pd, pd', c2, go3⟩
/-! ### tests -/
theorem dt_val (hK : X.K = T.K) (ha : PE X e (tB T W fa)) (he : ∀ whole, isTrue e X.env whole = (do let v ← whole; standAt e.pos; holding [v] (truthy v))) :
    PT X e (tK T W fun r => (fa r).bind fun x r1 => R.of (match res r1 [x] with | some [a] => tru a | _ => none) r1) := by
  refine ptImp (pt_truth ha he) fun σ H Q ⟨P, r, rs, go⟩ => ⟨P, r, rs, (Go.bind anti_K go).mono fun u H1 ⟨P1, r1, x, a1, q1, e1, go1⟩ => ?_⟩
  cases c : res r1 [x] with
  | none => rw [c] at go1; exact go1.elim
  | some l =>
    obtain ⟨a, rfl, ra⟩ := res1 a1.rs q1 c
    rw [c] at go1
    dsimp only at go1
    cases c2 : tru a with
    | none => rw [c2] at go1; exact go1.elim
    | some k => rw [c2] at go1; exact ⟨k, truV_of hK a1.rs ra c2, go1 k P1 H1 (.refl a1.rs) rfl⟩
/-- a comparison as a test -/
theorem dt_cmp (hK : X.K = T.K) (hu : X.A.units + 65 < cLine) {op : CmpOp} {a b : PySem.Expr} {pos : Pos} (ha : PE X a (tB T W fa)) (hb : PE X b (tB T W fb)) (hm : behindInMarks op b = false) :
    PT X (.Compare a [op] [b] pos) (tK T W fun r => ((fa r).bind fun x r1 => (fb r1).bind fun y r2 => op2 (fun u v => boolV (cmpD op u v)) x y r2).bind fun v r1 => R.of (tru v.d) r1) := by
  refine ptImp (pt_cmpR (op_cmpD (W := W) hK hu op) ha hb hm) fun σ H Q ⟨P, r, rs, go⟩ => ⟨P, r, rs, ?_⟩
  dsimp only at go
  rw [bind_assoc] at go
  refine (Go.bind anti_K go).mono fun u H1 ⟨P1, r1, x, a1, q1, e1, go1⟩ => ⟨P1, r1, a1.rs, ?_⟩
  rw [bind_assoc] at go1
  refine (Go.bind anti_K go1).mono fun v H2 ⟨P2, r2, y, a2, q2, e2, go2⟩ => ?_
  unfold op2 at go2
  cases c : res r2 [x, y] with
  | none => rw [c] at go2; exact go2.elim
  | some l =>
    obtain ⟨a, b, rfl, h1, h2⟩ := res2 a2.rs (rb2 q1 a2.st.pp q2) c
    rw [c] at go2
    dsimp only at go2
    cases c2 : cmpD op a b with
    | none => rw [c2] at go2; exact go2.elim
    | some k =>
      rw [c2] at go2
      refine ⟨a, b, .sh (.bl k), σ, P2, r2, a2.rs, h1, h2, by simp only [c2]; rfl, fun u' P' H' a' rv => ?_⟩
      have hu' : u' = .bl k := by
        have rv' : Rep T P' (.bl k) u' := rv
        simpa only [Rep] using rv'
      refine ⟨k, hu', go2 k P' H' a' rfl⟩
theorem dt_not {a : PySem.Expr} {pos : Pos} {f : En → R Bool} (h : PT X a (tK T W f)) : PT X (.UnaryOp .Not a pos) (tK T W fun r => (f r).bind fun b r1 => .ok (!b) r1) :=
  ptImp (pt_not h) fun σ H Q ⟨P, r, rs, go⟩ => ⟨P, r, rs, (Go.bind anti_K go).mono fun u H1 ⟨P1, r1, b, a1, q1, e1, go1⟩ => by
    have q1' : u = b := q1
    subst q1'
    exact go1 _ P1 H1 (.refl a1.rs) rfl⟩
theorem pwImp {t t' : TT} (h : PW X e t) (k : ∀ σ H Q, t' σ H Q → t σ H Q) : PW X e t' := ⟨fun wh pins s σ H Q I q => h.run wh pins s σ H Q I (k _ _ _ q)⟩
theorem dw_and {a b : PySem.Expr} {rest : List PySem.Expr} {pos : Pos} {f g : En → R Bool} (ha : PT X a (tK T W f)) (hb : PW X (.BoolOp .And (b :: rest) pos) (tK T W g)) :
    PW X (.BoolOp .And (a :: b :: rest) pos) (tK T W fun r => (f r).bind fun k r1 => if k = true then g r1 else .ok false r1) :=
  pwImp (pw_and ha hb) fun σ H Q ⟨P, r, rs, go⟩ => ⟨P, r, rs, (Go.bind anti_K go).mono fun u H1 ⟨P1, r1, b, a1, q1, e1, go1⟩ => by
    have q1' : u = b := q1
    subst q1'
    cases u with
    | true => exact ⟨P1, r1, a1.rs, go1⟩
    | false => exact go1 _ P1 H1 (.refl a1.rs) rfl⟩
theorem dw_or {a b : PySem.Expr} {rest : List PySem.Expr} {pos : Pos} {f g : En → R Bool} (ha : PT X a (tK T W f)) (hb : PW X (.BoolOp .Or (b :: rest) pos) (tK T W g)) :
    PW X (.BoolOp .Or (a :: b :: rest) pos) (tK T W fun r => (f r).bind fun k r1 => if k = true then .ok true r1 else g r1) :=
  pwImp (pw_or ha hb) fun σ H Q ⟨P, r, rs, go⟩ => ⟨P, r, rs, (Go.bind anti_K go).mono fun u H1 ⟨P1, r1, b, a1, q1, e1, go1⟩ => by
    have q1' : u = b := q1
    subst q1'
    cases u with
    | true => exact go1 _ P1 H1 (.refl a1.rs) rfl
    | false => exact ⟨P1, r1, a1.rs, go1⟩⟩
end
end Z
/-! ZR: zip of two lists, strict. -/
namespace Z
open PySem PySem.Spec
open PyProof.Rows hiding St
open Sem (wp)
/-- the keyword strict=True -/
def skw : List (Str × Value) := [("strict", .bool true)]
theorem zs_ct (u v : Value) : checkTypeCall "zip" ⟨[u, v], skw⟩ = pure () := by kernel_rfl
theorem zs_cn (u v : Value) : checkBuiltinCall "zip.__new__" ⟨[.type "zip", u, v], skw⟩ = pure () := by kernel_rfl
theorem zs_ai (u v w : Value) : PySem.argsOk "object.__init__" ⟨[u, v, w], skw⟩ := by
  unfold PySem.argsOk
  rw [signature?_of (id := "object.__init__") (n := ['_', '_', 't', 'i', 'n', 'i', '_', '_']) (o := ['t', 'c', 'e', 'j', 'b', 'o']) (by kernel_rfl) PySem.F.owner_object]
  kernel_rfl
/-- the five things that zip lays -/
abbrev zsA (h : Heap) (m n : Addr) : Heap := zipH4 h m n
abbrev zsB (h : Heap) (m n : Addr) : Heap := (zsA h m n).push { cls := .type "zip", data := .fields #[.none, .bool false, .bool true, .ref (zipH2 h m n).objs.size, .ref (zipH3 h m n).objs.size] }
theorem zs_new (m n : Addr) (us vs : Array Value) :
    Meets (Builtin.«zip.__new__» ⟨[.type "zip", .ref m, .ref n], skw⟩) (fun _ R s => s.heap.IsList m us ∧ s.heap.IsList n vs ∧ R (.ok (.ret (.ref (zsA s.heap m n).objs.size))) { s with heap := zsB s.heap m n }) :=
  .of_wp fun prog w A R s q => by
    have hsub := sub_zip
    obtain ⟨h0, g0, d0, t0, o0⟩ := s
    obtain ⟨a1, a2, q⟩ := q
    have b1 : Heap.IsList (Shared.heap ⟨h0, g0, d0, t0, o0⟩) m us := a1
    have b2 : Heap.IsList (Shared.heap ⟨h0.push { cls := .type "list_iterator", data := .fields #[.ref m, .int 0 0] }, g0, d0, t0, o0⟩) n vs := Heap.IsList.push a2 _
    unfold skw
    wp_walk using wpAny_pyIter_list b1, wpAny_pyIter_list b2
    exact ⟨_, rfl, q⟩
theorem zs_init {x : Value} {us : List Value} : Meets (Builtin.«object.__init__» ⟨x :: us, skw⟩) (fun _ R s => s.TypeIs x "zip" ∧ R (.ok (.ret .none)) s) := by
  have hl := PySem.F.called_zip.init.lookup
  have hm := PySem.F.called_zip.made
  have hne : (some "zip.__new__" != some "object.__new__") = true := by decide
  refine Meets.of_wp fun prog w A R s hs => ?_
  obtain ⟨hT, hq⟩ := hs
  unfold skw
  cases us with
  | nil =>
    repeat (any_goals (first | assumption | wp_step))
    exact ⟨_, rfl, hq⟩
  | cons a rest =>
    repeat (any_goals (first | assumption | wp_step))
    exact ⟨_, rfl, hq⟩
section
variable {prog : Program} {w : World} {A : Around} {E : Value → Shared → Prop} {s : Shared}
theorem zs_call {us : List Value} {S : PySem.Spec} {Q : Value → Shared → Prop} (hct : checkTypeCall "zip" ⟨us, skw⟩ = pure ()) (hcn : checkBuiltinCall "zip.__new__" ⟨.type "zip" :: us, skw⟩ = pure ()) (hai : ∀ x, PySem.argsOk "object.__init__" ⟨x :: us, skw⟩)
    (g : Meets (Builtin.«zip.__new__» ⟨.type "zip" :: us, skw⟩) S) (q : S A.in1 (wants (fun x s1 => s1.TypeIs x "zip" ∧ Q x s1) E) s) : wpAny (model prog w) A (call (.type "zip") us skw) Q E s := by
  have ft := PySem.F.called_zip
  obtain ⟨c, tl, hmro⟩ := ft.mro
  have hmade := ft.made
  have hsub := ft.sub
  refine wpAny_call (codeAny_of_tree ?_)
  show wpAny _ _ (callAny (.type "zip") _) _ _ _
  refine wpAny_pure ⟨Code.quiet_builtin _ (by decide +kernel), codeAny_builtin PySem.F.entry_type_call ?_⟩
  rw [Around.under_plain (weight_type_call_type "zip" us skw) (units_type_call_type "zip" us skw)]
  have h1 := ft.notType
  have h2 := ft.canCreate
  unfold skw at hct hcn hai g ⊢
  repeat (any_goals (first | assumption | wp_step))
  refine codeAny_mono (codeAny_call_builtin ft.plain PySem.F.entry_zip_new (wpAny_of_eq hcn (g prog w A.in1 _ s q))) fun r s1 hr => ?_
  cases r with
  | error e => exact hr
  | ok fl =>
    cases fl with
    | ret x =>
      obtain ⟨hT, hq⟩ := hr
      have hli := ft.init.lookup
      have hbi := ft.init.bind x
      repeat (any_goals (first | assumption | wp_step))
      refine codeAny_mono (codeAny_call_builtin ft.init.plain PySem.F.entry_object_init (ft.init.check _ _ _ _ _ _ _ _ hT (hai x) (zs_init (x := x) (us := us) prog w A.in1 (wants (fun r s2 => r = .none ∧ Q x s2) E) s1 ⟨hT, rfl, hq⟩))) fun r2 s2 hr2 => ?_
      cases r2 with
      | error e => exact hr2
      | ok fl2 =>
        cases fl2 with
        | ret r =>
          obtain ⟨rfl, hq⟩ := hr2
          repeat (any_goals (first | assumption | wp_step))
        | _ => exact hr2.elim
    | _ => exact hr.elim
end
end Z
/-! ZS: zip of two lists, strict: its turns. -/
namespace Z
open PySem PySem.Spec
open PyProof.Rows hiding St
open Sem (wp)
abbrev ZipS (h : Heap) (c TI TO : Addr) (x : Value) : Prop :=
  h.get? c = some { cls := .type "zip", dict := none, data := .fields #[x, .bool false, .bool true, .ref TI, .ref TO], slots := #[] }
section
variable {prog : Program} {w : World} {A : Around} {E : Value → Shared → Prop} {s : Shared}
theorem zs_make {m n : Addr} {us vs : Array Value} {Q : Value → Shared → Prop} (a1 : s.heap.IsList m us) (a2 : s.heap.IsList n vs)
    (q : ∀ h1, ZipS h1 (s.heap.objs.size + 4) (s.heap.objs.size + 2) (s.heap.objs.size + 3) .none → IsPair h1 (s.heap.objs.size + 2) (.ref s.heap.objs.size) (.ref (s.heap.objs.size + 1)) → IsPair h1 (s.heap.objs.size + 3) .none .none →
      h1.IsListIter s.heap.objs.size m 0 → h1.IsListIter (s.heap.objs.size + 1) n 0 → (∀ b o, s.heap.get? b = some o → h1.get? b = some o) → Q (.ref (s.heap.objs.size + 4)) { s with heap := h1 }) :
    wpAny (model prog w) A (call (.type "zip") [.ref m, .ref n] skw) Q E s := by
  refine zs_call (zs_ct _ _) (zs_cn _ _) (fun x => zs_ai x _ _) (zs_new m n us vs) ⟨a1, a2, ?_⟩
  have e1 : (zipH1 s.heap m).objs.size = s.heap.objs.size + 1 := Heap.size_push ..
  have e2 : (zipH2 s.heap m n).objs.size = s.heap.objs.size + 2 := by rw [Heap.size_push, e1]
  have e3 : (zipH3 s.heap m n).objs.size = s.heap.objs.size + 3 := by rw [Heap.size_push, e2]
  have e4 : (zsA s.heap m n).objs.size = s.heap.objs.size + 4 := by rw [Heap.size_push, e3]
  have k1 : ∀ b o, (zsA s.heap m n).get? b = some o → (zsB s.heap m n).get? b = some o := fun b o e => Heap.get?_push_of_some _ e
  have k2 : ∀ b o, (zipH3 s.heap m n).get? b = some o → (zsB s.heap m n).get? b = some o := fun b o e => k1 b o (Heap.get?_push_of_some _ e)
  have k3 : ∀ b o, (zipH2 s.heap m n).get? b = some o → (zsB s.heap m n).get? b = some o := fun b o e => k2 b o (Heap.get?_push_of_some _ e)
  have k4 : ∀ b o, (zipH1 s.heap m).get? b = some o → (zsB s.heap m n).get? b = some o := fun b o e => k3 b o (Heap.get?_push_of_some _ e)
  have f5 : (zsB s.heap m n).get? (zsA s.heap m n).objs.size = some _ := Heap.get?_push_size _ rfl
  have f4 : (zsB s.heap m n).get? (zipH3 s.heap m n).objs.size = some _ := k1 _ _ (Heap.get?_push_size _ rfl)
  have f3 : (zsB s.heap m n).get? (zipH2 s.heap m n).objs.size = some _ := k2 _ _ (Heap.get?_push_size _ rfl)
  have f2 : (zsB s.heap m n).get? (zipH1 s.heap m).objs.size = some _ := k3 _ _ (Heap.get?_push_size _ rfl)
  have f1 : (zsB s.heap m n).get? s.heap.objs.size = some _ := k4 _ _ (Heap.get?_push_size _ rfl)
  show _ ∧ _
  rw [e4, e2, e3] at f5
  rw [e2, e1] at f3
  rw [e3] at f4
  rw [e1] at f2
  rw [e4]
  exact ⟨⟨_, f5, rfl⟩, q _ f5 f3 f4 ⟨_, f1, rfl, rfl⟩ ⟨_, f2, rfl, rfl⟩ fun b o e => k4 b o (Heap.get?_push_of_some _ e)⟩
/-- a draw, an item is there -/
theorem noe_item {it l : Addr} {i : Nat} {us : Array Value} {x : Value} {Q : Option Value → Shared → Prop} (h1 : s.heap.IsListIter it l i) (h2 : s.heap.IsList l us) (hx : us[i]? = some x)
    (q : ∀ hp, hp.IsListIter it l (i + 1) → Heap.SameBut it s.heap hp → Q (some x) { s with heap := hp }) : wpAny (model prog w) A (Builtin.SmallTypes.nextOrEnd (.ref it)) Q E s := by
  unfold Builtin.SmallTypes.nextOrEnd
  exact wpAny_bind (wpAny_attempt (wpAny_nextOf_list_item h1 h2 hx fun hp a b => wpAny_pure (q hp a b)))
/-- a draw, the list is at its end -/
theorem noe_end {it l : Addr} {i : Nat} {us : Array Value} {Q : Option Value → Shared → Prop} (hh : A.handled = none) (h1 : s.heap.IsListIter it l i) (h2 : s.heap.IsList l us) (hx : us[i]? = none)
    (q : ∀ hp, Heap.ExtBut it s.heap hp → Q none { s with heap := hp }) : wpAny (model prog w) A (Builtin.SmallTypes.nextOrEnd (.ref it)) Q E s := by
  unfold Builtin.SmallTypes.nextOrEnd
  refine wpAny_bind (wpAny_attempt (wpAny_nextOf_list_end hh h1 h2 hx fun hp e a b => ?_))
  obtain ⟨o, ho, hc⟩ := b
  refine wpAny_bind (wpAny_isInstance (T := "StopIteration") (b := true) ⟨o, ho, hc⟩ isSubtype_stop ?_)
  exact wpAny_pure (q hp a)
theorem zs_item {c TI TO i1 i2 m n : Addr} {k1 k2 : Nat} {us vs : Array Value} {x y a b : Value} {Q : Value → Shared → Prop} (D : ZipApart c TI TO i1 i2 m n) (hz : ZipS s.heap c TI TO .none) (hI : IsPair s.heap TI (.ref i1) (.ref i2)) (hO : IsPair s.heap TO a b)
    (j1 : s.heap.IsListIter i1 m k1) (j2 : s.heap.IsListIter i2 n k2) (l1 : s.heap.IsList m us) (l2 : s.heap.IsList n vs) (hx : us[k1]? = some x) (hy : vs[k2]? = some y)
    (q : ∀ hp, ZipS hp c TI TO (rawInt s.heap.objs.size) → IsPair hp TO x y → hp.IsListIter i1 m (k1 + 1) → hp.IsListIter i2 n (k2 + 1) → IsPair hp s.heap.objs.size x y →
      (∀ b o, b ≠ c → b ≠ TO → b ≠ i1 → b ≠ i2 → s.heap.get? b = some o → hp.get? b = some o) → Q (.ref s.heap.objs.size) { s with heap := hp }) :
    wpAny (model prog w) A (Builtin.«zip.__next__» ⟨[.ref c], []⟩) (fun fin s1 => ∃ v, fin = .done (.ret v) ∧ Q v s1) E s := by
  show wpAny _ _ (field (.ref c) 2 >>= _) _ _ _
  refine wpAny_bind (wpAny_field hz rfl (x := .bool true) rfl ?_)
  show wpAny _ _ (field (.ref c) 3 >>= _) _ _ _
  refine wpAny_bind (wpAny_field hz rfl (x := .ref TI) rfl ?_)
  refine wpAny_bind (wpAny_seqItems hI rfl ?_)
  show wpAny _ _ (Builtin.SmallTypes.ownedTupleIsFree (.ref c) >>= _) _ _ _
  refine wpAny_bind ?_
  unfold Builtin.SmallTypes.ownedTupleIsFree
  refine wpAny_bind (wpAny_field hz rfl (x := .none) rfl (wpAny_pure ?_))
  simp only [if_true]
  refine wpAny_bind (wpAny_rule ?_)
  refine wpAny_bind (wpAny_field hz rfl (x := .ref TO) rfl ?_)
  refine wpAny_bind (wpAny_setField_rec hz (by simp) fun g1 z1 s1 => ?_)
  have z1 : ZipS g1 c TI TO .ellipsis := z1
  refine wpAny_bind ?_
  simp only [List.zipIdx_cons, List.zipIdx_nil, List.forIn_cons, List.forIn_nil]
  refine wpAny_bind (wpAny_bind (wpAny_onRaise ?_))
  show wpAny _ _ (Builtin.SmallTypes.nextOrEnd (.ref i1)) _ _ _
  refine noe_item (j1.extBut s1.extBut D.i1z) (l1.extBut s1.extBut D.l1z) hx fun g2 p1 s2 => ?_
  have o2 : IsPair g2 TO a b := s2.extBut _ _ D.TOi1 (s1.extBut _ _ D.TOz hO)
  refine wpAny_bind (wpAny_seqItems o2 rfl ?_)
  refine wpAny_bind (wpAny_updateSeq_pair o2 fun g3 o3 s3 => ?_)
  have o3 : IsPair g3 TO x b := o3
  refine wpAny_bind (wpAny_letGo (wpAny_pure ?_))
  refine wpAny_bind (wpAny_bind (wpAny_onRaise ?_))
  show wpAny _ _ (Builtin.SmallTypes.nextOrEnd (.ref i2)) _ _ _
  refine noe_item (((j2.extBut s1.extBut D.i2z).extBut s2.extBut D.i12.symm).extBut s3.extBut D.TOi2.symm) (((l2.extBut s1.extBut D.l2z).extBut s2.extBut D.l2i1).extBut s3.extBut D.l2TO) hy fun g4 p2 s4 => ?_
  have o4 : IsPair g4 TO x b := s4.extBut _ _ D.TOi2 o3
  refine wpAny_bind (wpAny_seqItems o4 rfl ?_)
  refine wpAny_bind (wpAny_updateSeq_pair o4 fun g5 o5 s5 => ?_)
  have o5 : IsPair g5 TO x y := o5
  refine wpAny_bind (wpAny_letGo (wpAny_pure (wpAny_pure ?_)))
  refine wpAny_bind (wpAny_seqItems o5 rfl ?_)
  refine wpAny_bind (wpAny_newTuple ?_)
  have sz : g5.objs.size = s.heap.objs.size := by rw [s5.1, s4.1, s3.1, s2.1, s1.1]
  have z5 : ZipS g5 c TI TO .ellipsis := s5.extBut _ _ D.TOz.symm (s4.extBut _ _ D.i2z.symm (s3.extBut _ _ D.TOz.symm (s2.extBut _ _ D.i1z.symm z1)))
  have old : ∀ b o, b ≠ c → b ≠ TO → b ≠ i1 → b ≠ i2 → s.heap.get? b = some o → g5.get? b = some o := fun b o n1 n2 n3 n4 e => s5.extBut _ _ n2 (s4.extBut _ _ n4 (s3.extBut _ _ n2 (s2.extBut _ _ n3 (s1.extBut _ _ n1 e))))
  have q1 : g5.IsListIter i1 m (k1 + 1) := ((p1.extBut s3.extBut D.TOi1.symm).extBut s4.extBut D.i12).extBut s5.extBut D.TOi1.symm
  have q2 : g5.IsListIter i2 n (k2 + 1) := p2.extBut s5.extBut D.TOi2.symm
  have b1 : c < g5.objs.size := Heap.lt_size z5
  show wpAny _ _ (Builtin.SmallTypes.ownedTupleHandOut (.ref c) (.ref g5.objs.size) >>= _) _ _ _
  refine wpAny_bind ?_
  unfold Builtin.SmallTypes.ownedTupleHandOut
  have z6 : ZipS (g5.push { cls := .type "tuple", data := .seq #[x, y] }) c TI TO .ellipsis := Heap.get?_push_of_some _ z5
  refine wpAny_bind (wpAny_setField_rec z6 (by simp) fun g7 z7 s7 => ?_)
  have z7 : ZipS g7 c TI TO (rawInt g5.objs.size) := z7
  refine wpAny_setField_rec z7 (by simp) fun g8 z8 s8 => ?_
  have z8 : ZipS g8 c TI TO (rawInt g5.objs.size) := z8
  have up : ∀ b o, b ≠ c → g5.get? b = some o → g8.get? b = some o := fun b o n1 e => s8.extBut _ _ n1 (s7.extBut _ _ n1 (Heap.get?_push_of_some _ e))
  have t8 : IsPair g8 g5.objs.size x y := s8.extBut _ _ (Nat.ne_of_gt b1) (s7.extBut _ _ (Nat.ne_of_gt b1) (Heap.get?_push_size _ rfl))
  rw [sz] at z8 t8
  refine wpAny_pure ⟨_, rfl, ?_⟩
  show Q (.ref g5.objs.size) _
  rw [sz]
  exact q g8 z8 (up _ _ D.TOz o5) (q1.at fun o e => up _ o D.i1z e) (q2.at fun o e => up _ o D.i2z e) t8 fun b o n1 n2 n3 n4 e => up b o n1 (old b o n1 n2 n3 n4 e)
theorem zs_end {c TI TO i1 i2 m n : Addr} {k1 k2 : Nat} {us vs : Array Value} {a b : Value} {Q : Fin → Shared → Prop} (hh : A.handled = none) (D : ZipApart c TI TO i1 i2 m n) (hz : ZipS s.heap c TI TO .none) (hI : IsPair s.heap TI (.ref i1) (.ref i2)) (hO : IsPair s.heap TO a b)
    (j1 : s.heap.IsListIter i1 m k1) (j2 : s.heap.IsListIter i2 n k2) (l1 : s.heap.IsList m us) (l2 : s.heap.IsList n vs) (hx : us[k1]? = none) (hy : vs[k2]? = none)
    (q : ∀ hp e, (∀ b o, b ≠ c → b ≠ TO → b ≠ i1 → b ≠ i2 → s.heap.get? b = some o → hp.get? b = some o) → (∃ o, hp.get? e = some o ∧ o.cls = .type "StopIteration") → E (.ref e) { s with heap := hp }) :
    wpAny (model prog w) A (Builtin.«zip.__next__» ⟨[.ref c], []⟩) Q E s := by
  show wpAny _ _ (field (.ref c) 2 >>= _) _ _ _
  refine wpAny_bind (wpAny_field hz rfl (x := .bool true) rfl ?_)
  show wpAny _ _ (field (.ref c) 3 >>= _) _ _ _
  refine wpAny_bind (wpAny_field hz rfl (x := .ref TI) rfl ?_)
  refine wpAny_bind (wpAny_seqItems hI rfl ?_)
  show wpAny _ _ (Builtin.SmallTypes.ownedTupleIsFree (.ref c) >>= _) _ _ _
  refine wpAny_bind ?_
  unfold Builtin.SmallTypes.ownedTupleIsFree
  refine wpAny_bind (wpAny_field hz rfl (x := .none) rfl (wpAny_pure ?_))
  simp only [if_true]
  refine wpAny_bind (wpAny_rule ?_)
  refine wpAny_bind (wpAny_field hz rfl (x := .ref TO) rfl ?_)
  refine wpAny_bind (wpAny_setField_rec hz (by simp) fun g1 z1 s1 => ?_)
  have z1 : ZipS g1 c TI TO .ellipsis := z1
  refine wpAny_bind ?_
  simp only [List.zipIdx_cons, List.zipIdx_nil, List.forIn_cons, List.forIn_nil]
  refine wpAny_bind (wpAny_bind (wpAny_onRaise ?_))
  show wpAny _ _ (Builtin.SmallTypes.nextOrEnd (.ref i1)) _ _ _
  refine noe_end hh (j1.extBut s1.extBut D.i1z) (l1.extBut s1.extBut D.l1z) hx fun g2 s2 => ?_
  have z2 : ZipS g2 c TI TO .ellipsis := s2 _ _ D.i1z.symm z1
  refine wpAny_bind (wpAny_setField_rec z2 (by simp) fun g3 z3 s3 => ?_)
  have k3 : ∀ b o, b ≠ c → b ≠ i1 → s.heap.get? b = some o → g3.get? b = some o := fun b o n1 n3 e => s3.extBut _ _ n1 (s2 _ _ n3 (s1.extBut _ _ n1 e))
  refine wpAny_bind ?_
  show wpAny _ _ (_ >>= _) _ _ _
  refine wpAny_bind ?_
  simp only [List.drop_succ_cons, List.drop_zero, List.zipIdx_cons, List.zipIdx_nil, List.forIn_cons, List.forIn_nil]
  refine wpAny_bind (wpAny_bind (noe_end hh ((j2.extBut s1.extBut D.i2z).at fun o e => ?_) ((l2.extBut s1.extBut D.l2z).at fun o e => ?_) hy fun g4 s4 => ?_))
  · exact s3.extBut _ _ D.i2z (s2 _ _ D.i12.symm e)
  · exact s3.extBut _ _ D.l2z (s2 _ _ D.l2i1 e)
  rw [if_neg (show ¬ (none : Option Value).isSome = true from Bool.false_ne_true)]
  refine wpAny_pure (wpAny_pure ?_)
  refine wpAny_bind (wpAny_rule ?_)
  show wpAny _ _ (newExc (.type "StopIteration") [] >>= _) _ _ _
  refine wpAny_bind ?_
  simp only [newExc, newTuple]
  refine wpAny_bind (wpAny_newObj_type ?_ (by size_fits))
  refine wpAny_bind (m := firstArgMember _ _) (wpAny_of_eq (a := Value.none) (by first | rfl | (simp only [firstArgMember]; rfl)) ?_)
  refine wpAny_newObj_type ?_ (by size_fits)
  simp only [raiseNew]
  refine wpAny_bind (wpAny_handled ?_)
  rw [hh]
  refine wpAny_bind (wpAny_pure (wpAny_throw ?_))
  refine q _ _ (fun b o n1 _ n3 n4 e => ?_) ⟨_, Heap.get?_push_size _ rfl, rfl⟩
  exact Heap.get?_push_of_some _ (Heap.get?_push_of_some _ (s4 _ _ n4 (k3 b o n1 n3 e)))
end
end Z
/-! ZT: zip, walked. -/
namespace Z
open PySem PySem.Spec L2
open PyProof.Rows hiding St
/-- both lists as they stand at each turn; at the end both are at their end -/
def Itzs (K : PySem.W.Frag) (a b : Addr) : It :=
  ⟨(Itz K a b).go, (Itz K a b).yld, fun i H => ∃ xs ys : List V, SqL K H a xs ∧ SqL K H b ys ∧ xs.length ≤ i ∧ ys.length ≤ i⟩
section
variable {prog : Program} {w : World} {A : Around} {E : Value → Shared → Prop} {s : Shared}
theorem zs_iter {c TI TO : Addr} {x : Value} {Q : Value → Shared → Prop} (hz : ZipS s.heap c TI TO x) (q : Q (.ref c) s) : wpAny (model prog w) A (pyIter (.ref c)) Q E s := by
  have hT : s.TypeIs (.ref c) "zip" := ⟨_, hz, rfl⟩
  refine wpAny_pyIter_slot hT PySem.F.slot_zip_iter (wpAny_call_entry PySem.F.slot_zip_iter hT PySem.F.entry_zip_iter ?_ (PySem.F.args_zip_iter_1 _))
  exact wpAny_pure ⟨_, rfl, "zip", _, hT, PySem.F.slot_zip_next.lookup, q⟩
theorem zs_letgo {elts : List PySem.Expr} {k} {pos : Pos} {c TI TO t : Addr} {Q : Unit → Shared → Prop} (hz : ZipS s.heap c TI TO (rawInt t)) (q : ∀ h1, ZipS h1 c TI TO .none → Heap.SameBut c s.heap h1 → Q () { s with heap := h1 }) :
    wpAny (model prog w) A (letOwnedTupleGo (.Tuple elts k pos) (.ref c) (.ref t)) Q E s := by
  unfold letOwnedTupleGo
  refine wpAny_bind (wpAny_load hz ?_)
  show wpAny _ _ (if (["enumerate", "zip", "dict_itemiterator", "dict_reverseitemiterator", "odict_iterator", "itertools.zip_longest", "itertools.pairwise"].contains "zip" && (#[rawInt t, .bool false, .bool true, .ref TI, .ref TO] : Array Value)[0]? == some (rawInt t)) = true then _ else _) Q E s
  rw [if_pos (by simp)]
  refine wpAny_bind (wpAny_rule ?_)
  exact wpAny_setField_rec hz (by simp) fun h1 z1 s1 => q h1 z1 s1
theorem zs_nx_item {c TI TO i1 i2 m n : Addr} {k1 k2 : Nat} {us vs : Array Value} {x y a b : Value} {Q : Option Value → Shared → Prop} (D : ZipApart c TI TO i1 i2 m n) (hz : ZipS s.heap c TI TO .none) (hI : IsPair s.heap TI (.ref i1) (.ref i2)) (hO : IsPair s.heap TO a b)
    (j1 : s.heap.IsListIter i1 m k1) (j2 : s.heap.IsListIter i2 n k2) (l1 : s.heap.IsList m us) (l2 : s.heap.IsList n vs) (hx : us[k1]? = some x) (hy : vs[k2]? = some y)
    (q : ∀ hp, ZipS hp c TI TO (rawInt s.heap.objs.size) → IsPair hp TO x y → hp.IsListIter i1 m (k1 + 1) → hp.IsListIter i2 n (k2 + 1) → IsPair hp s.heap.objs.size x y →
      (∀ b o, b ≠ c → b ≠ TO → b ≠ i1 → b ≠ i2 → s.heap.get? b = some o → hp.get? b = some o) → Q (some (.ref s.heap.objs.size)) { s with heap := hp }) :
    wpAny (model prog w) A (pyNext (.ref c)) Q E s := by
  have hT : s.TypeIs (.ref c) "zip" := ⟨_, hz, rfl⟩
  unfold pyNext
  refine wpAny_bind (wpAny_attempt (wpAny_callSpecial?_slot (name := Str.ofString "__next__") hT PySem.F.slot_zip_next ?_))
  refine wpAny_call_entry PySem.F.slot_zip_next hT PySem.F.entry_zip_next ?_ (PySem.F.args_zip_next_1 _)
  exact zs_item D hz hI hO j1 j2 l1 l2 hx hy fun hp q1 q2 q3 q4 q5 q6 => wpAny_pure (q hp q1 q2 q3 q4 q5 q6)
theorem zs_nx_end {c TI TO i1 i2 m n : Addr} {k1 k2 : Nat} {us vs : Array Value} {a b : Value} {Q : Option Value → Shared → Prop} (hh : A.handled = none) (D : ZipApart c TI TO i1 i2 m n) (hz : ZipS s.heap c TI TO .none) (hI : IsPair s.heap TI (.ref i1) (.ref i2)) (hO : IsPair s.heap TO a b)
    (j1 : s.heap.IsListIter i1 m k1) (j2 : s.heap.IsListIter i2 n k2) (l1 : s.heap.IsList m us) (l2 : s.heap.IsList n vs) (hx : us[k1]? = none) (hy : vs[k2]? = none)
    (q : ∀ hp, (∀ b o, b ≠ c → b ≠ TO → b ≠ i1 → b ≠ i2 → s.heap.get? b = some o → hp.get? b = some o) → Q none { s with heap := hp }) : wpAny (model prog w) A (pyNext (.ref c)) Q E s := by
  have hT : s.TypeIs (.ref c) "zip" := ⟨_, hz, rfl⟩
  unfold pyNext
  refine wpAny_bind (wpAny_attempt (wpAny_callSpecial?_slot (name := Str.ofString "__next__") hT PySem.F.slot_zip_next ?_))
  refine wpAny_call_entry PySem.F.slot_zip_next hT PySem.F.entry_zip_next ?_ (PySem.F.args_zip_next_1 _)
  refine zs_end hh D hz hI hO j1 j2 l1 l2 hx hy fun hp e a1 a2 => ?_
  obtain ⟨o, ho, hc⟩ := a2
  refine wpAny_bind (wpAny_isInstance (T := "StopIteration") (b := true) ⟨o, ho, hc⟩ isSubtype_stop ?_)
  exact wpAny_pure (q _ a1)
end
theorem mem5 {c z TI TO i1 i2 : Addr} (h : c ∈ [z, TI, TO, i1, i2]) : c = z ∨ c = TI ∨ c = TO ∨ c = i1 ∨ c = i2 := by simpa using h
theorem out5 {c z TI TO i1 i2 : Addr} (h : c ∉ [z, TI, TO, i1, i2]) : c ≠ z ∧ c ≠ TI ∧ c ≠ TO ∧ c ≠ i1 ∧ c ≠ i2 := by simpa using h
theorem turn_zs {P : Program} {w : World} {K : PySem.W.Frag} {elts : List PySem.Expr} {kk : Nat} {tpos : Pos} {a b z TI TO i1 i2 : Addr} (D : ZipApart z TI TO i1 i2 a b) :
    Turn P w K (.Tuple elts kk tpos) (Itzs K a b) [z, TI, TO, i1, i2] z (fun i h => ZipS h z TI TO .none ∧ IsPair h TI (.ref i1) (.ref i2) ∧ (∃ x y, IsPair h TO x y) ∧ h.IsListIter i1 a i ∧ h.IsListIter i2 b i) where
  mem := List.mem_cons_self
  obj := fun i h ⟨hz, hI, ⟨x, y, hO⟩, ⟨o1, e1, _, d1⟩, ⟨o2, e2, _, d2⟩⟩ c hc => by
    rcases mem5 hc with rfl | rfl | rfl | rfl | rfl
    · exact ⟨_, hz, fun v q => nomatch q⟩
    · exact ⟨_, hI, fun v q => nomatch q⟩
    · exact ⟨_, hO, fun v q => nomatch q⟩
    · exact ⟨o1, e1, fun v q => by rw [d1] at q; cases q⟩
    · exact ⟨o2, e2, fun v q => by rw [d2] at q; cases q⟩
  keep := fun i h h' ⟨hz, hI, ⟨x, y, hO⟩, j1, j2⟩ k => ⟨k z (by simp) _ hz, k TI (by simp) _ hI, ⟨x, y, k TO (by simp) _ hO⟩, j1.at fun o q => k i1 (by simp) o q, j2.at fun o q => k i2 (by simp) o q⟩
  item := by
    intro X hP hw hK hc i pins s σ H E I hf ⟨hz, hI, ⟨x0, y0, hO⟩, j1, j2⟩ hg
    subst hP hw hK
    obtain ⟨xs, ys, x, y, qx, qy, hx, hy⟩ := hg
    obtain ⟨is1, r1, p1, _⟩ := I.list qx
    obtain ⟨is2, r2, p2, _⟩ := I.list qy
    obtain ⟨u1, g1, s1⟩ := r1.get hx
    obtain ⟨u2, g2, s2⟩ := r2.get hy
    have zl : z < s.heap.objs.size := Heap.lt_size hz
    refine zs_nx_item D hz hI hO j1 j2 p1.isList p2.isList (x := u1) (y := u2) (by simpa using g1) (by simpa using g2) fun hp z1 o1 m1 m2 t1 k1 => ?_
    refine ⟨_, rfl, zs_letgo (s := { s with heap := hp }) z1 fun h2 z2 sb => ?_⟩
    have t2 : h2.get? s.heap.objs.size = some { cls := .type "tuple", data := .seq #[u1, u2] } := (sb.2 _ (Nat.ne_of_gt zl)).trans t1
    have ok : ObjOk X.prog X.w (upd H s.heap.objs.size (.tup [x, y])) h2 s.heap.objs.size (.tup [x, y]) := ⟨by show 2 ≤ sizeLine; decide, [u1, u2], .cons s1 (.cons s2 .nil), ⟨_, t2, rfl, _, rfl⟩⟩
    have J : Inv X pins σ (upd H s.heap.objs.size (.tup [x, y])) { s with heap := h2 } := I.turnedNew (t' := s.toks) (ch := [z, TI, TO, i1, i2]) (fun c o hb q => by
      obtain ⟨n1, n2, n3, n4, n5⟩ := out5 hb
      exact (sb.2 c n1).trans (k1 c o n1 n3 n4 n5 q)) hf (Nat.le_refl _) ok
    refine ⟨.ref s.heap.objs.size, _, J, rfl, ⟨_, x, y, rfl, I.hok.fresh (Nat.le_refl _), rfl, fun l hl => by rw [I.list_inj hl qx]; exact hx, fun l hl => by rw [I.list_inj hl qy]; exact hy⟩, ⟨z2, ?_, ⟨u1, u2, ?_⟩, ?_, ?_⟩, fun c hcm => ?_⟩
    · exact (sb.2 _ D.TIz).trans (k1 _ _ D.TIz D.TITO D.TIi1 D.TIi2 hI)
    · exact (sb.2 _ D.TOz).trans o1
    · exact m1.at fun o q => (sb.2 _ D.i1z).trans q
    · exact m2.at fun o q => (sb.2 _ D.i2z).trans q
    · have lt : c < s.heap.objs.size := by
        rcases mem5 hcm with rfl | rfl | rfl | rfl | rfl
        · exact zl
        · exact Heap.lt_size hI
        · exact Heap.lt_size hO
        · obtain ⟨_, e1, _⟩ := j1; exact Heap.lt_size e1
        · obtain ⟨_, e2, _⟩ := j2; exact Heap.lt_size e2
      rw [upd_ne (Nat.ne_of_lt lt)]
      exact (hf c hcm).1
  done := by
    intro X hP hw hK hc i pins s σ H E I hf ⟨hz, hI, ⟨x0, y0, hO⟩, j1, j2⟩ hg
    subst hP hw hK
    obtain ⟨xs, ys, qx, qy, e1, e2⟩ := hg
    obtain ⟨is1, r1, p1, _⟩ := I.list qx
    obtain ⟨is2, r2, p2, _⟩ := I.list qy
    have n1 := r1.length
    have n2 := r2.length
    refine zs_nx_end (I.ok.hd hc) D hz hI hO j1 j2 p1.isList p2.isList (by simp; omega) (by simp; omega) fun hp k1 => ⟨rfl, I.turnedL (t' := s.toks) (ch := [z, TI, TO, i1, i2]) (fun c o hb q => ?_) hf⟩
    obtain ⟨n1, n2, n3, n4, n5⟩ := out5 hb
    exact k1 c o n1 n3 n4 n5 q
  self := fun A i s Q E st h => zs_iter st.1 h
/-- a type called with keywords -/
theorem callWith_tyK {M : Model} {A : Around} {E : Value → Shared → Prop} {s : Shared} {env : PySem.Env} {pos : Pos} {id : String} {e : PySem.Expr} {es : List PySem.Expr} {kws : List Keyword} {Q : Value → Shared → Prop}
    (h : wpAny M A (spliced (backTo pos (starEach (e :: es) env))) (fun us s1 => wpAny M A (evalAll ((backToKw pos (keywordEach kws env)).map (·.2))) (fun ws s2 => wpAny M A (call (.type id) us (((backToKw pos (keywordEach kws env)).filterMap (·.1)).zip ws)) Q E s2) E s1) E s)
    (he : backTo pos (starEach (e :: es) env) = (false, (do let v ← eval e env; standAt pos; pure v)) :: backTo pos (starEach es env) ∨ backTo pos (starEach (e :: es) env) = (false, eval e env) :: backTo pos (starEach es env)) (hp : (backTo pos (starEach (e :: es) env)).any (·.1) = false) (ha : (backToKw pos (keywordEach kws env)).all (·.1.isSome) = true)
    (hn : (backToKw pos (keywordEach kws env)).any (·.1.isNone) = false) :
    wpAny M A (callWith pos (.type id) [] (backTo pos (starEach (e :: es) env)) (backToKw pos (keywordEach kws env))) Q E s := by
  have go : wpAny M A (evalArgs (.type id) true (backTo pos (starEach (e :: es) env)) (backToKw pos (keywordEach kws env))) (fun a s1 => wpAny M A (call (.type id) ([] ++ a.pos) a.kw) Q E s1) E s := by
    rcases he with he | he
    · rw [he] at h ⊢; exact evalArgs_kwB ha h
    · rw [he] at h ⊢; exact evalArgs_kwB ha h
  unfold callWith
  refine wpAny_bind (wpAny_holding (wpAny_mono go (fun a s1 h1 => wpAny_bind (wpAny_standAt ?_)) fun _ _ x => x))
  simp only [hp, hn, Bool.or_false]
  refine wpAny_bind (wpAny_pure ?_)
  exact wpAny_bind (wpAny_mono h1 (fun r s2 hr => wpAny_bind (wpAny_holding (wpAny_point (wpAny_pure hr)))) fun _ _ x => x)
def iZipS (K : PySem.W.Frag) (ta : TA) : TI := fun σ H R => ta σ H fun vs H1 => ∃ a b xs ys, vs = [.ref a, .ref b] ∧ SqL K H1 a xs ∧ SqL K H1 b ys ∧ R (Itzs K a b) H1
theorem pi_zs {X : Cx} {e e2 v : PySem.Expr} {ta : TA} {p pos tpos kpos : Pos} {elts : List PySem.Expr} {kk : Nat} (hg : Gl X "zip") (hm : X.mg "zip" = none) (ha : PA X [e, e2] ta) (hv : PE X v (tC (.bl true))) (hs : notStar e = true) (hs2 : notStar e2 = true) :
    PI X (.Tuple elts kk tpos) (.Call (.Name "zip" p) [e, e2] [⟨some "strict", v, kpos⟩] pos) (iZipS X.K ta) := by
  refine ⟨fun pins s σ H R I h => ?_⟩
  refine wpAny_Call_Name_kw (ld_blt I hg hm PyProof.Rows.boot_zip ?_)
  refine callWith_tyK (thn (ha.run pos pins s σ H _ I h) fun us s1 ⟨vs, H1, I1, r1, q1⟩ => thn ((pk_cons (nm := some "strict") (kpos := kpos) hv pk_nil).run pos pins s1 σ H1 (fun zs H2 => zs = [.bl true] ∧ H2 = H1) I1 ⟨rfl, rfl⟩) fun ws s2 ⟨zs, H2, I2, rz, ez, eH⟩ => ?_) (.inr (by rw [star_one hs]; rfl)) (by rw [star_one hs, star_one hs2]; rfl) rfl rfl
  subst ez eH
  obtain ⟨a, b, xs, ys, ex, qx, qy, q⟩ := q1
  subst ex
  obtain ⟨u1, u2, rfl, ra, rb⟩ := r1.two
  obtain ⟨u3, rfl, rc⟩ := rz.one
  cases ra
  cases rb
  cases rc
  obtain ⟨is1, m1, p1, _⟩ := I2.list qx
  obtain ⟨is2, m2, p2, _⟩ := I2.list qy
  have la : a < s2.heap.objs.size := p1.lt
  have lb : b < s2.heap.objs.size := p2.lt
  show wpAny _ _ (call (.type "zip") [.ref a, .ref b] skw) _ _ _
  refine zs_make p1.isList p2.isList fun h1 hz hI hO j1 j2 hk => zs_iter hz ?_
  have J : Inv X pins σ H2 { s2 with heap := h1 } := I2.kept (t' := s2.toks) hk
  refine ⟨s2.heap.objs.size + 4, [s2.heap.objs.size + 4, s2.heap.objs.size + 2, s2.heap.objs.size + 3, s2.heap.objs.size, s2.heap.objs.size + 1], _, _, H2, rfl, J, turn_zs (PySem.W.ktu_apart s2.heap.objs.size a b la lb), ⟨hz, hI, ⟨_, _, hO⟩, j1, j2⟩, fun c hc => ?_, q⟩
  have le : s2.heap.objs.size ≤ c := by
    rcases mem5 hc with rfl | rfl | rfl | rfl | rfl
    all_goals first | exact Nat.le_refl _ | exact Nat.le_add_right _ _
  exact I2.fpOk le (I2.hok.fresh le)
section
variable {T : Tb} {W : WX} {X : Cx}
theorem zip2_get {ds es : List D} {i : Nat} {d : D} (h : (zip2D ds es)[i]? = some d) : ∃ a b, ds[i]? = some a ∧ es[i]? = some b ∧ d = .tup [a, b] := by
  unfold zip2D at h
  rw [List.getElem?_zipWith] at h
  cases c : ds[i]? with
  | none => rw [c] at h; cases h
  | some a =>
    cases c2 : es[i]? with
    | none => rw [c, c2] at h; cases h
    | some b => rw [c, c2] at h; cases h; exact ⟨a, b, rfl, rfl, rfl⟩
theorem wk_zip {P : Hp} {a b : Addr} {xs ys : List V} {ds es : List D} (h : P a = some (.lst xs)) (q : Reps T P ds xs) (h' : P b = some (.lst ys)) (q' : Reps T P es ys) : Wk T P (Itz T.K a b) (zip2D ds es) where
  go := fun i H hi e => by
    have z : i < ds.length ∧ i < es.length := by
      simp only [zip2D, List.length_zipWith] at hi
      exact Nat.lt_min.mp hi
    obtain ⟨x, ex, _⟩ := q.get (List.getElem?_eq_getElem z.1)
    obtain ⟨y, ey, _⟩ := q'.get (List.getElem?_eq_getElem z.2)
    exact ⟨xs, ys, x, y, .inl (.inl (e _ _ h)), .inl (.inl (e _ _ h')), ex, ey⟩
  stop := fun H e => ⟨xs, ys, .inl (.inl (e _ _ h)), .inl (.inl (e _ _ h')), by
    rw [q.length, q'.length]
    simp only [zip2D, List.length_zipWith]
    omega⟩
  yld := fun i d H x H' Pc hd e1 e2 y => by
    obtain ⟨p, x, y', rfl, n, rfl, z1, z2⟩ := y
    obtain ⟨da, db, g1, g2, rfl⟩ := zip2_get hd
    obtain ⟨u, eu, ru⟩ := q.get g1
    obtain ⟨v, ev, rv⟩ := q'.get g2
    have w1 := z1 xs (.inl (.inl (e2 _ _ (e1 _ _ h))))
    have w2 := z2 ys (.inl (.inl (e2 _ _ (e1 _ _ h'))))
    rw [eu] at w1; cases w1
    rw [ev] at w2; cases w2
    exact .inr ⟨p, _, _, n, rfl, rfl, rfl, .cons (Rep.ext e1 _ _ ru) (.cons (Rep.ext e1 _ _ rv) .nil)⟩
theorem wk_zs {P : Hp} {a b : Addr} {xs ys : List V} {ds es : List D} (h : P a = some (.lst xs)) (q : Reps T P ds xs) (h' : P b = some (.lst ys)) (q' : Reps T P es ys) (l : ds.length = es.length) : Wk T P (Itzs T.K a b) (zip2D ds es) where
  go := (wk_zip h q h' q').go
  stop := fun H e => ⟨xs, ys, .inl (.inl (e _ _ h)), .inl (.inl (e _ _ h')), by rw [q.length]; simp only [zip2D, List.length_zipWith]; omega, by rw [q'.length]; simp only [zip2D, List.length_zipWith]; omega⟩
  yld := (wk_zip h q h' q').yld
theorem lstD_some {d : D} {l : List D} (h : lstD d = some l) : d = .lst l := by cases d <;> simp [lstD] at h; rw [h]
theorem lst_two {P : Hp} {ds : List D} {us : List V} {k : Bool} {l : List D} (h : Reps T P ds us) (e : zipD k ds = some l) (n : ds.length = 2) : ∃ a b xs ys l1 l2, us = [.ref a, .ref b] ∧ P a = some (.lst xs) ∧ P b = some (.lst ys) ∧ Reps T P l1 xs ∧ Reps T P l2 ys ∧ l = zip2D l1 l2 ∧ (k = true → l1.length = l2.length) := by
  match ds, n, h, e with
  | [d1, d2], _, h, e =>
    obtain ⟨u1, t1, rfl, h1, h⟩ := h.of_cons
    obtain ⟨u2, t2, rfl, h2, h⟩ := h.of_cons
    rw [h.of_nil]
    simp only [zipD] at e
    cases c1 : lstD d1 with
    | none => rw [c1] at e; cases e
    | some l1 =>
    cases c2 : lstD d2 with
    | none => rw [c1, c2] at e; cases e
    | some l2 =>
    rw [c1, c2] at e
    simp only [Option.bind_some] at e
    have z1 := lstD_some c1
    have z2 := lstD_some c2
    subst z1 z2
    split at e
    · rename_i hk
      cases e
      simp only [Rep] at h1 h2
      obtain ⟨a, xs, rfl, q1, q2⟩ := h1
      obtain ⟨b, ys, rfl, q3, q4⟩ := h2
      refine ⟨a, b, xs, ys, l1, l2, rfl, q1, q3, q2, q4, rfl, fun z => ?_⟩
      subst z
      simpa using hk
    · cases e
theorem evs_len {C : Cf} : ∀ {es : List E} {r r' : En} {ds : List D}, evs C es r = .ok ds r' → ds.length = es.length
  | [], r, r', ds, h => by
    simp only [evs] at h
    cases h; rfl
  | e :: es, r, r', ds, h => by
    simp only [evs] at h
    cases c : ev C e r with
    | ok v r1 =>
      rw [c] at h
      simp only [R.bind_ok] at h
      cases c2 : evs C es r1 with
      | ok vs r2 =>
        rw [c2] at h
        simp only [R.bind_ok] at h
        cases h
        rw [List.length_cons, List.length_cons, evs_len c2]
      | exc _ _ _ => rw [c2] at h; cases h
      | bad => rw [c2] at h; cases h
    | exc _ _ _ => rw [c] at h; cases h
    | bad => rw [c] at h; cases h
theorem di_zs (hK : X.K = T.K) {C : Cf} {a b v : PySem.Expr} {a' b' : E} {p pos tpos kpos : Pos} {elts : List PySem.Expr} {kk : Nat} (hg : Gl X "zip") (hm : X.mg "zip" = none) (hs : notStar a = true) (hs2 : notStar b = true) (hv : PE X v (tC (.bl true))) (ha : PA X [a, b] (tS T W (evs C [a', b']))) :
    PI X (.Tuple elts kk tpos) (.Call (.Name "zip" p) [a, b] [⟨some "strict", v, kpos⟩] pos) (tI T W (evI C (.zip true [a', b']))) := by
  refine piImp (pi_zs hg hm ha hv hs hs2) fun σ H Q ⟨P, r, rs, go⟩ => ?_
  simp only [evI] at go
  refine ⟨P, r, rs, (Go.bind (anti_I T) go).mono fun us H1 ⟨P1, r1, ds, a1, q1, e1, go1⟩ => ?_⟩
  cases c : zipD true ds with
  | none => rw [c] at go1; exact go1.elim
  | some l =>
    rw [c] at go1
    obtain ⟨x, y, xs, ys, l1, l2, rfl, g1, g2, g3, g4, rfl, le⟩ := lst_two q1 c (evs_len e1)
    refine ⟨x, y, xs, ys, rfl, .inl (.inl (a1.rs.sub _ _ g1)), .inl (.inl (a1.rs.sub _ _ g2)), ?_⟩
    rw [hK]
    exact go1 _ P1 H1 (.refl a1.rs) (wk_zs g1 g3 g2 g4 (le rfl))
end
end Z
/-! ZTL: list(range(a, b)) whose ends are any whole numbers. -/
namespace Z
open PySem PySem.Spec L2
open PyProof.Rows hiding St
section
variable {prog : Program} {w : World} {A : Around} {E : Value → Shared → Prop} {s : Shared}
theorem extend_rangeL {R : Result → Shared → Prop} {r : Addr} {a b c : Int} {t u v : Tok} {n : Nat} (hh : A.handled = none) (hr : IsRange s.heap r a b c t u v) (hbig : Builtin.Range.small a b c = false)
    (hn : Builtin.Range.rangeSize a b c = n) (hlen : n ≤ 2 ^ 24) (S : Addr) (res : Value) (c₀ : Nat) (hS : s.heap.get? S = some { cls := .type "list", data := .seq #[] c₀ })
    (hR : ∀ h' tk acc' c', (∀ b o, b ≠ S → s.heap.get? b = some o → h'.get? b = some o) → h'.get? S = some { cls := .type "list", dict := none, data := .seq acc' c', slots := #[] } →
      ItemsOf (fun i v => ∃ t, v = .int (a + i * c) t) acc' n → R (.ok (.ret res)) { s with heap := h', toks := tk }) :
    wpAny (model prog w) A.in1 (Builtin.List.listExtendWith (.ref S) (.ref r) res)
      (fun fin s' => match fin with | .done f => R (.ok f) s' | .again c' => c'.quiet = true ∧ codeAny (model prog w) A c' R s') (fun e s' => R (.error e) s') s := by
  have hSr : S ≠ r := fun e => by rw [e, hr] at hS; simp at hS
  have hSlt : S < s.heap.objs.size := Heap.lt_size hS
  have hSI : S ≠ s.heap.objs.size := Nat.ne_of_lt hSlt
  have hSf : S ∉ [s.heap.objs.size] := fun hm => hSI (List.mem_singleton.mp hm)
  have W := (Walks.longrange (prog := prog) (w := w) (A := A.in1) hh s.heap.objs.size a c n).toS
  have key : ∀ (h : Heap) (c₁ tk : Nat), IsLongIter h s.heap.objs.size (a + ((0 : Nat) : Int) * c) ((n : Int) - ((0 : Nat) : Int)) c → (∀ b o, b ≠ S → s.heap.get? b = some o → h.get? b = some o) →
      h.get? S = some { cls := .type "list", data := .seq #[] c₁ } → codeAny (model prog w) A (.builtin "list.extend.loop" ⟨[.ref S, .ref s.heap.objs.size, res], []⟩) R { s with heap := h, toks := tk } := by
    intro h c₁ tk hit hk hS₁
    refine codeAny_extend_loopS W (by rw [sizeLine_eq]; omega) S hSf res n 0 _ #[] c₁ rfl (Nat.zero_le _) hit hS₁ (ItemsOf.nil _) fun s' acc' c' hm hS' hacc => ?_
    rw [Moved.eq_with hm]
    refine hR s'.heap s'.toks acc' c' (fun b o hb e => hm.heap b o (fun hmem => ?_) (hk b o hb e)) hS' hacc
    rcases List.mem_cons.mp hmem with e' | hmem
    · exact hb e'
    · exact absurd (Heap.lt_size e) (by rw [List.mem_singleton.mp hmem]; exact Nat.lt_irrefl _)
  unfold Builtin.List.listExtendWith
  refine wpAny_bind (wpAny_typeOf (T := "range") ⟨_, hr, rfl⟩ ?_)
  have h1 : Builtin.List.listSameRef (.ref S) (.ref r) = false := by simp [Builtin.List.listSameRef, hSr]
  have h2 : (Value.type "range" == Value.type "list") = false := by decide
  have h3 : (Value.type "range" == Value.type "tuple") = false := by decide
  simp only [h1, h2, h3, Bool.or_false, Bool.false_eq_true, if_false]
  refine wpAny_bind (wpAny_pyIter_longrange hr hbig ?_)
  refine wpAny_bind (wpAny_holding (wpAny_hint_range (n := n) (Heap.get?_push_of_some _ hr) hn hlen ?_))
  have hit₁ : IsLongIter (s.heap.push { cls := .type "longrange_iterator", data := .fields #[rawInt a, rawInt (Builtin.Range.rangeSize a b c), rawInt c] }) s.heap.objs.size (a + ((0 : Nat) : Int) * c) ((n : Int) - ((0 : Nat) : Int)) c := by
    show IsLongIter _ _ _ _ _; rw [hn]; simpa using Heap.get?_push_size _ rfl
  have hS₁ := Heap.get?_push_of_some { cls := .type "longrange_iterator", data := .fields #[rawInt a, rawInt (Builtin.Range.rangeSize a b c), rawInt c] } hS
  refine wpAny_ite_split (fun _ => ?_) (fun _ => wpAny_pure ⟨plainId_quiet F.plain_extend_loop _, key _ c₀ _ hit₁ (fun b o _ e => Heap.get?_push_of_some _ e) hS₁⟩)
  refine wpAny_bind (wpAny_rule ?_)
  refine wpAny_bind ?_
  show wpAny _ _ (updateSeq S (·.push .none) >>= fun _ => updateSeq S (·.pop)) _ _ _
  refine wpAny_bind (wpAny_updateSeq hS₁ rfl ?_)
  have hS₂ := Heap.get?_update_self (Obj.mapSeq (·.push Value.none)) hS₁ rfl
  refine wpAny_updateSeq (hz := by seq_fits) hS₂ rfl ?_
  have hS₃ := Heap.get?_update_self (Obj.mapSeq (·.pop)) hS₂ rfl
  refine wpAny_pure ⟨plainId_quiet F.plain_extend_loop _, key _ _ _ ?_ (fun b o hb e => ?_) hS₃⟩
  · exact (Heap.get?_update_other _ _ hSI).trans ((Heap.get?_update_other _ _ hSI).trans hit₁)
  · exact (Heap.get?_update_other _ _ (Ne.symm hb)).trans ((Heap.get?_update_other _ _ (Ne.symm hb)).trans (Heap.get?_push_of_some _ e))
theorem list_init_rangeL {R : Result → Shared → Prop} {r : Addr} {a b c : Int} {t u v : Tok} {n : Nat} (hh : A.handled = none) (hr : IsRange s.heap r a b c t u v) (hbig : Builtin.Range.small a b c = false)
    (hn : Builtin.Range.rangeSize a b c = n) (hlen : n ≤ 2 ^ 24) (S : Addr) (hS : s.heap.get? S = some { cls := .type "list", data := .seq #[] })
    (hR : ∀ h' tk acc' c', (∀ b o, b ≠ S → s.heap.get? b = some o → h'.get? b = some o) → h'.get? S = some { cls := .type "list", dict := none, data := .seq acc' c', slots := #[] } →
      ItemsOf (fun i v => ∃ t, v = .int (a + i * c) t) acc' n → R (.ok (.ret .none)) { s with heap := h', toks := tk }) :
    wpAny (model prog w) A.in1 (Builtin.«list.__init__» ⟨[.ref S, .ref r], []⟩)
      (fun fin s' => match fin with | .done f => R (.ok f) s' | .again c' => c'.quiet = true ∧ codeAny (model prog w) A c' R s') (fun e s' => R (.error e) s') s := by
  have hSr : S ≠ r := fun e => by rw [e, hr] at hS; simp at hS
  show wpAny _ _ (do let old ← Builtin.List.listItems (.ref S); Builtin.List.listUpdate (.ref S) (fun _ => #[]); letGo old.toList.reverse; Builtin.List.listExtendWith (.ref S) (.ref r) .none) _ _ s
  refine wpAny_bind ?_
  unfold Builtin.List.listItems
  refine wpAny_bind (wpAny_seqItems hS rfl (wpAny_pure ?_))
  show wpAny _ _ (updateSeq S (fun _ => #[]) >>= fun _ => letGo (#[] : Array Value).toList.reverse >>= fun _ => Builtin.List.listExtendWith (.ref S) (.ref r) .none) _ _ s
  refine wpAny_bind (wpAny_updateSeq hS rfl ?_)
  have hS₂ := Heap.get?_update_self (Obj.mapSeq (fun _ => (#[] : Array Value))) hS rfl
  have oth : ∀ b o, b ≠ S → s.heap.get? b = some o → (s.heap.update S (Obj.mapSeq (fun _ => (#[] : Array Value)))).get? b = some o :=
    fun b o hb e => (Heap.get?_update_other _ _ (Ne.symm hb)).trans e
  refine wpAny_bind (wpAny_letGo ?_)
  refine extend_rangeL hh (oth r _ (Ne.symm hSr) hr) hbig hn hlen S .none _ hS₂ fun h' tk acc' c' hk hS' hacc => ?_
  exact hR h' tk acc' c' (fun b o hb e => hk b o hb (oth b o hb e)) hS' hacc
theorem list_range_any {Q : Value → Shared → Prop} {r : Addr} {a b c : Int} {t u v : Tok} {n : Nat} (hh : A.handled = none) (hr : IsRange s.heap r a b c t u v)
    (hn : Builtin.Range.rangeSize a b c = n) (hlen : n ≤ 2 ^ 24)
    (hQ : ∀ h' tk acc' c', (∀ b o, s.heap.get? b = some o → h'.get? b = some o) →
      h'.get? s.heap.objs.size = some { cls := .type "list", dict := none, data := .seq acc' c', slots := #[] } → ItemsOf (fun i v => ∃ t, v = .int (a + i * c) t) acc' n → Q (.ref s.heap.objs.size) { s with heap := h', toks := tk }) :
    wpAny (model prog w) A (call (.type "list") [.ref r]) Q E s := by
  cases hsm : Builtin.Range.small a b c with
  | true => exact call_list_range hh hr hsm hn hlen hQ
  | false =>
    refine callType_codes (Q₁ := fun obj s₁ => obj = .ref s.heap.objs.size ∧ s₁ = { s with heap := s.heap.push { cls := .type "list", data := .seq #[] } }) F.called_list (F.typeCall_list_1 _) F.entry_list_init
      (code_list_new _ ⟨rfl, rfl⟩) fun obj s₁ h₁ => ?_
    obtain ⟨rfl, rfl⟩ := h₁
    have hS : (s.heap.push { cls := .type "list", data := .seq #[] }).get? s.heap.objs.size = some { cls := .type "list", data := .seq #[] } := Heap.get?_push_size _ rfl
    refine ⟨⟨_, hS, rfl⟩, F.args_list_init_2 _ _, list_init_rangeL (A := A.in1) hh (Heap.get?_push_of_some _ hr) hsm hn hlen _ hS fun h' tk acc' c' hk hS' hacc => ?_⟩
    exact ⟨rfl, hQ h' tk acc' c' (fun b o e => hk b o (Nat.ne_of_lt (Heap.lt_size e)) (Heap.get?_push_of_some _ e)) hS' hacc⟩
end
section
variable {X : Cx} {e : Expr} {te : St → Hp → (Int → Int → Hp → Prop) → Prop}
def tLstRgA (te : St → Hp → (Int → Int → Hp → Prop) → Prop) : TE := fun σ H Q => te σ H fun a b H1 => (b - a).toNat ≤ 2 ^ 24 ∧ ∀ q, H1 q = none → Q (.ref q) (upd H1 q (.lst (rgV a b)))
theorem pe_listRgA {p pos : Pos} (hc : X.calm = true) (hg : Gl X "list") (hm : X.mg "list" = none) (he : PRg X e te) (na : starEach [e] X.env = (false, eval e X.env) :: starEach [] X.env := by rfl) : PE X (.Call (.Name "list" p) [e] [] pos) (tLstRgA te) := by
  refine ⟨fun pins s σ H Q I h => ?_⟩
  refine Call_ (ld_blt I hg hm boot_list (PyProof.Rows.callWith_type1 (args_cons (thn (he pins s σ H _ I h) fun x s1 ⟨r, a, b, t, u, v, H1, ex, hr, I1, ok, q⟩ => args_nil ?_) na) na))
  subst ex
  refine list_range_any (n := (b - a).toNat) (I1.ok.hd hc) hr (rangeSize_nat a b) ok fun h' tk acc c' hk e' hi => ?_
  refine ⟨.ref s1.heap.objs.size, upd H1 s1.heap.objs.size (.lst (rgV a b)), I1.laid hk (Nat.le_refl _) (show ObjOk X.prog X.w _ _ _ (.lst (rgV a b)) from ⟨?_, acc.toList, c', vals_rg hi, ?_⟩), rfl, q _ (I1.hok.fresh (Nat.le_refl _))⟩
  · rw [rgV_length, sizeLine_eq]; omega
  · rw [Array.toArray_toList]; exact e'
end
end Z
/-! ZU: list(range(..)), constants, op=, chained comparisons. -/
namespace Z
open PySem PySem.Spec L2
open PyProof.Rows hiding St
section
variable {T : Tb} {W : WX} {X : Cx} {e : PySem.Expr} {fa fb fc : En → R (Nat ⊕ D)}
theorem rg_rep (P : Hp) (a b : Int) : Reps T P ((rangeI a b 1).map D.int) (rgV a b) := by
  have e : rgV a b = (rangeI a b 1).map V.int := by
    unfold rgV rangeI rangeN
    rw [if_pos rfl, List.map_map]
    apply List.map_congr_left
    intro k _
    simp
  rw [e]
  exact Reps.of_ints T P _
theorem rgOk_of {a b : Int} (h : Z.rgOk a b = true) : (b - a).toNat ≤ 2 ^ 24 := Nat.le_trans (of_decide_eq_true h) (by decide)
theorem de_lrg1 (hc : X.calm = true) {a : PySem.Expr} {p pos p' pos' : Pos} (hg : Gl X "list") (hm : X.mg "list" = none) (hg' : Gl X "range") (hm' : X.mg "range" = none) (hs : notStar a = true) (ha : PE X a (tB T W fa)) :
    PE X (.Call (.Name "list" p) [.Call (.Name "range" p') [a] [] pos'] [] pos) (tE T W fun r => (fa r).bind fun x r1 => op1 (fun u => lrangeF [u]) x r1) := by
  refine peImp (pe_listRgA hc hg hm (prg_1 hg' hm' ha (star_one hs _ _))) fun σ H Q ⟨P, r, rs, go⟩ => ⟨P, r, rs, (Go.bind (anti_V T) go).mono fun u H1 ⟨P1, r1, x, a1, q1, e1, go1⟩ => ?_⟩
  unfold op1 at go1
  cases c : res r1 [x] with
  | none => rw [c] at go1; exact go1.elim
  | some l =>
    obtain ⟨d, rfl, ra⟩ := res1 a1.rs q1 c
    rw [c] at go1
    dsimp only at go1
    cases d with
    | int n =>
      simp only [lrangeF] at go1
      split at go1
      · rename_i hn
        exact ⟨n, ra.int, rgOk_of hn, fun q nq => go1.newL a1.rs nq (rg_rep P1 0 n)⟩
      · exact go1.elim
    | _ => exact go1.elim
/-! ### constants -/
theorem de_int {C : Cf} {i : Int} {k : Nat} {pos : Pos} : PE X (.Constant (.int i) k pos) (tE T W (ev C (.con (.int i)))) := de_con pe_int fun _ => by simp only [Rep]
theorem de_none {C : Cf} {k : Nat} {pos : Pos} : PE X (.Constant .none k pos) (tE T W (ev C (.con .non))) := de_con pe_non fun _ => by simp only [Rep]
theorem de_bool {C : Cf} {b : Bool} {k : Nat} {pos : Pos} : PE X (.Constant (.bool b) k pos) (tE T W (ev C (.con (.bl b)))) := de_con pe_bl fun _ => by simp only [Rep]
/-- a name of the module that stands for a constant -/
theorem de_glob {C : Cf} {x : Str} {d : D} {v : V} {u : Value} {pos : Pos} (hg : Gl X x) (hm : X.mg x = some u) (r : RelV v u) (q : ∀ H, Rep T H d v) (hd : (x == ("__debug__" : Str)) = false) : PE X (.Name x pos) (tE T W (ev C (.con d))) := de_con (pe_glob hg hm r hd) q
end
end Z
/-! ZV: the rules in short: the text on the left, the small language on the right. -/
namespace Z
open PySem PySem.Spec L2
open PyProof.Rows hiding St
def DE (T : Tb) (C : Cf) (X : Cx) (e : PySem.Expr) (e' : E) : Prop := PE X e (tE T WF (ev C e'))
def DB (T : Tb) (C : Cf) (X : Cx) (e : PySem.Expr) (e' : E) : Prop := PE X e (tB T WF (bor e' fun r => ev C e' r))
def DP (T : Tb) (C : Cf) (X : Cx) (e : Option PySem.Expr) (e' : E) : Prop := PO X e (tP T WF (por e' fun r => ev C e' r))
def DL (T : Tb) (C : Cf) (X : Cx) (es : List PySem.Expr) (es' : List E) : Prop := PA X es (tS T WF (evs C es'))
def DA (T : Tb) (C : Cf) (X : Cx) (es : List PySem.Expr) (es' : List E) : Prop := PA X es (tA T WF (evA C es'))
def DV (T : Tb) (C : Cf) (X : Cx) (es : List PySem.Expr) (es' : List E) : Prop := PA X es (tV T WF (evV C es'))
def DT (T : Tb) (C : Cf) (X : Cx) (e : PySem.Expr) (t : Z.T) : Prop := PT X e (tK T WF (evT C t))
def DW (T : Tb) (C : Cf) (X : Cx) (e : PySem.Expr) (t : Z.T) : Prop := PW X e (tK T WF (evT C t))
def DI (T : Tb) (C : Cf) (X : Cx) (tg e : PySem.Expr) (t : I) : Prop := PI X tg e (tI T WF (evI C t))
def DG (T : Tb) (X : Cx) (e : PySem.Expr) (t : Tg) : Prop := PG X e (gD T t)
def DGs (T : Tb) (X : Cx) (e : List PySem.Expr) (t : List Tg) : Prop := PGs X e (gDs T t)
def DC (T : Tb) (C : Cf) (X : Cx) (ifs : List PySem.Expr) (ts : List Z.T) : Prop := PTs X ifs (tK T WF (evC C ts))
def DS (T : Tb) (C : Cf) (X : Cx) (s : Stmt) (s' : S) : Prop := PS X s (tD T WF (x1 C s'))
def DSs (T : Tb) (C : Cf) (X : Cx) (s : List Stmt) (s' : List S) : Prop := PSs X s (tD T WF (xs C s'))
section
variable {T : Tb} {C : Cf} {X : Cx} {k : Nat} {pos p p' pos' : Pos} {a b c d : PySem.Expr} {a' b' c' d' : E} {x : Str}
theorem eqE {f g : En → R Val} {e : PySem.Expr} (h : PE X e (tE T WF f)) (q : ∀ r, g r = f r) : PE X e (tE T WF g) := by rw [show g = f from funext q]; exact h
theorem eqB {f g : En → R (Nat ⊕ D)} {e : PySem.Expr} (h : PE X e (tB T WF f)) (q : ∀ r, g r = f r) : PE X e (tB T WF g) := by rw [show g = f from funext q]; exact h
theorem eqT {f g : En → R Bool} {e : PySem.Expr} (h : PT X e (tK T WF f)) (q : ∀ r, g r = f r) : PT X e (tK T WF g) := by rw [show g = f from funext q]; exact h
theorem eqW {f g : En → R Bool} {e : PySem.Expr} (h : PW X e (tK T WF f)) (q : ∀ r, g r = f r) : PW X e (tK T WF g) := by rw [show g = f from funext q]; exact h
theorem eqS {f g : En → O} {e : Stmt} (h : PS X e (tD T WF f)) (q : ∀ r, g r = f r) : PS X e (tD T WF g) := by rw [show g = f from funext q]; exact h
theorem eqI {f g : En → R (List D)} {tg e : PySem.Expr} (h : PI X tg e (tI T WF f)) (q : ∀ r, g r = f r) : PI X tg e (tI T WF g) := by rw [show g = f from funext q]; exact h
/-! ### names, arguments -/
theorem e_var (i : Nat) (hN : X.N[i]? = some x) (hv : Vis X.env.scope x) (hd : (x == ("__debug__" : Str)) = false := by decide) (hc : (x == ("__classdict__" : Str)) = false := by decide) : DE T C X (.Name x pos) (.var i) := de_var (pe_var hN hv hd hc)
theorem b_var (i : Nat) (hN : X.N[i]? = some x) (hv : Vis X.env.scope x) (hd : (x == ("__debug__" : Str)) = false := by decide) (hc : (x == ("__classdict__" : Str)) = false := by decide) : DB T C X (.Name x pos) (.var i) := eqB (db_var (pe_var hN hv hd hc)) fun r => rfl
theorem b_of (h : DE T C X a a') (q : isVar a' = none := by rfl) : DB T C X a a' := eqB (db_of h) fun r => by unfold bor; rw [q]
theorem p_none : DP T C X none (.con .non) := dp_none
theorem p_some (h : DB T C X a a') (q : isNon a' = false := by rfl) : DP T C X (some a) a' := by
  unfold DP
  rw [show (por a' fun r => ev C a' r) = fun r => (bor a' (fun r => ev C a' r) r).bind fun x r1 => R.of (match res r1 [x] with | some [.int i] => some (.inr (.int i)) | _ => none) r1 from funext fun r => by unfold por; (rw [if_neg (by rw [q]; exact Bool.false_ne_true)] <;> rfl)]
  exact dp_some h
theorem l_nil : DL T C X [] [] := ds_nil
theorem l_cons {es : List PySem.Expr} {es' : List E} (ha : DE T C X a a') (hb : DL T C X es es') (hs : notStar a = true := by rfl) : DL T C X (a :: es) (a' :: es') := by
  unfold DL
  rw [show evs C (a' :: es') = fun r => (ev C a' r).bind fun v r1 => (evs C es' r1).bind fun vs r2 => .ok (v.d :: vs) r2 from funext fun r => by simp only [evs]]
  exact ds_cons hs ha hb
theorem a_nil : DA T C X [] [] := da_nil
theorem a_cons {es : List PySem.Expr} {es' : List E} (ha : DB T C X a a') (hb : DA T C X es es') (hs : notStar a = true := by rfl) : DA T C X (a :: es) (a' :: es') := by
  unfold DA
  rw [show evA C (a' :: es') = fun r => (bor a' (fun r => ev C a' r) r).bind fun v r1 => (evA C es' r1).bind fun vs r2 => .ok (v :: vs) r2 from funext fun r => by simp only [evA]]
  exact da_cons hs ha hb
theorem v_nil : DV T C X [] [] := dv_nil
theorem v_cons {es : List PySem.Expr} {es' : List E} (ha : DE T C X a a') (hb : DV T C X es es') (hs : notStar a = true := by rfl) : DV T C X (a :: es) (a' :: es') := by
  unfold DV
  rw [show evV C (a' :: es') = fun r => (ev C a' r).bind fun v r1 => (evV C es' r1).bind fun vs r2 => .ok (v :: vs) r2 from funext fun r => by simp only [evV]]
  exact dv_cons hs ha hb
/-! ### expressions -/
theorem e_int {i : Int} {j : Nat} : DE T C X (.Constant (.int i) j pos) (.con (.int i)) := de_int
theorem e_none {j : Nat} : DE T C X (.Constant .none j pos) (.con .non) := de_none
theorem e_bool {i : Bool} {j : Nat} : DE T C X (.Constant (.bool i) j pos) (.con (.bl i)) := de_bool
theorem e_glob {e' : D} {v : V} {u : Value} (hm : X.mg x = some u) (r : RelV v u) (q : ∀ H, Rep T H e' v) (hg : Gl X x := by rfl) (hd : (x == ("__debug__" : Str)) = false := by decide) : DE T C X (.Name x pos) (.con e') := de_glob hg hm r q hd
theorem e_not (w : CB T k X) (h : DB T C X a a') : DE T C X (.UnaryOp .Not a pos) (.not a') := eqE (de_not w.eK h) fun r => by simp only [ev] <;> rfl
theorem e_bin {op : Operator} (w : CB T k X) (ha : DB T C X a a') (hb : DB T C X b b') : DE T C X (.BinOp a op b pos) (.bin op a' b') := eqE (de_op2 (pe_op (op_binD w.eK op) ha hb)) fun r => by simp only [ev] <;> rfl
theorem e_cmp {op : CmpOp} (w : CB T k X) (ha : DB T C X a a') (hb : DB T C X b b') (hm : behindInMarks op b = false := by with_unfolding_all rfl) : DE T C X (.Compare a [op] [b] pos) (.cmp op a' b') := eqE (de_op2 (pe_cmpR (op_cmpD w.eK (by have := w.room.un; omega) op) ha hb hm)) fun r => by simp only [ev] <;> rfl
theorem e_one {op : BoolOp} (h : DE T C X a a') : DE T C X (.BoolOp op [a] pos) a' := pe_one h
theorem e_and {es : List PySem.Expr} (w : CB T k X) (ha : DE T C X a a') (hb : DE T C X (.BoolOp .And (b :: es) pos) b') : DE T C X (.BoolOp .And (a :: b :: es) pos) (.and a' b') := eqE (de_and w.eK ha hb) fun r => by simp only [ev] <;> rfl
theorem e_or {es : List PySem.Expr} (w : CB T k X) (ha : DE T C X a a') (hb : DE T C X (.BoolOp .Or (b :: es) pos) b') : DE T C X (.BoolOp .Or (a :: b :: es) pos) (.or a' b') := eqE (de_or w.eK ha hb) fun r => by simp only [ev] <;> rfl
theorem e_ite {t : Z.T} (hc : DT T C X c t) (ha : DE T C X a a') (hb : DE T C X b b') : DE T C X (.IfExp c a b pos) (.ite t a' b') := eqE (de_ite hc ha hb) fun r => by simp only [ev] <;> rfl
theorem e_lst {es : List PySem.Expr} {es' : List E} (h : DL T C X es es') : DE T C X (.List es pos) (.lst es') := eqE (de_lst h) fun r => by simp only [ev] <;> rfl
theorem e_tup {es : List PySem.Expr} {es' : List E} {j : Nat} (h : DL T C X es es') : DE T C X (.Tuple es j pos) (.tup es') := eqE (de_tup h) fun r => by simp only [ev] <;> rfl
theorem e_idx (w : CB T k X) (ha : DB T C X a a') (hb : DB T C X b b') (hs : PlainIx b := by intro _ _; rfl) : DE T C X (.Subscript a b pos) (.idx a' b') := eqE (de_op2 (pe_ix (ix_D w.eK) ha hb hs)) fun r => by simp only [ev] <;> rfl
theorem e_slc {lo hi : Option PySem.Expr} (w : CB T k X) (ha : DB T C X a a') (hb : DP T C X lo b') (hc : DP T C X hi c') : DE T C X (.Subscript a (.Slice lo hi none p) pos) (.slc a' b' c') := eqE (de_slc w.eK ha hb hc) fun r => by simp only [ev] <;> rfl
theorem e_isi (w : CB T k X) (t : Ty) (ha : DB T C X a a') (hb : PE X b (tC (.ty (tyName t)))) (hm : X.mg "isinstance" = none) (ht : ∀ c, t ≠ .cls c := by intro _ h; cases h) (hg : Gl X "isinstance" := by rfl) (hs : notStar a = true := by rfl) (hs' : notStar b = true := by rfl) :
    DE T C X (.Call (.Name "isinstance" p) [a, b] [] pos) (.isi a' t) := eqE (de_isi w.eK ht hg hm hs hs' ha hb) fun r => by simp only [ev] <;> rfl
theorem e_biB {id : String} {es : List PySem.Expr} {es' : List E} {bi : BI} (hc : CallR X (.builtin id) (rDn T WF (biD bi))) (hm : X.mg x = none) (hv : bootBuiltins x = some (.builtin id)) (ha : DA T C X (a :: es) es') (hg : Gl X x := by rfl) (hs : notStar a = true := by rfl) (hss : es.all notStar = true := by rfl)
    (hn : x ≠ "__name__" := by decide) (hd : (x == ("__debug__" : Str)) = false := by decide) : DE T C X (.Call (.Name x p) (a :: es) [] pos) (.bi bi es') := eqE (de_biB hc hg hm hv hs hss ha hn hd) fun r => by simp only [ev] <;> rfl
theorem e_biT {id : String} {es : List PySem.Expr} {es' : List E} {bi : BI} (hc : CallR X (.type id) (rDn T WF (biD bi))) (hm : X.mg x = none) (hv : bootBuiltins x = some (.type id)) (ha : DA T C X (a :: es) es') (hg : Gl X x := by rfl) (hs : notStar a = true := by rfl) (hss : es.all notStar = true := by rfl)
    (hn : x ≠ "__name__" := by decide) (hd : (x == ("__debug__" : Str)) = false := by decide) : DE T C X (.Call (.Name x p) (a :: es) [] pos) (.bi bi es') := eqE (de_biT hc hg hm hv hs hss ha hn hd) fun r => by simp only [ev] <;> rfl
theorem res_one (r : En) (x : Nat ⊕ D) : res r [x] = none ∨ ∃ u, res r [x] = some [u] := by
  cases x with
  | inl i =>
    simp only [res]
    cases r.rd i with
    | none => exact .inl rfl
    | some d => exact .inr ⟨d, rfl⟩
  | inr d => exact .inr ⟨d, rfl⟩
theorem res_two (r : En) (x y : Nat ⊕ D) : res r [x, y] = none ∨ ∃ u v, res r [x, y] = some [u, v] := by
  cases x with
  | inl i =>
    simp only [res]
    cases r.rd i with
    | none => exact .inl rfl
    | some d =>
      cases y with
      | inl j =>
        simp only [res]
        cases r.rd j with
        | none => exact .inl rfl
        | some d' => exact .inr ⟨d, d', rfl⟩
      | inr d' => exact .inr ⟨d, d', rfl⟩
  | inr d =>
    cases y with
    | inl j =>
      simp only [res]
      cases r.rd j with
      | none => exact .inl rfl
      | some d' => exact .inr ⟨d, d', rfl⟩
    | inr d' => exact .inr ⟨d, d', rfl⟩
theorem e_lrg1 (w : CB T k X) (ha : DB T C X a a') (hm : X.mg "list" = none) (hm' : X.mg "range" = none) (hg : Gl X "list" := by rfl) (hg' : Gl X "range" := by rfl) (hs : notStar a = true := by rfl) :
    DE T C X (.Call (.Name "list" p) [.Call (.Name "range" p') [a] [] pos'] [] pos) (.bi .lrange [a']) := eqE (de_lrg1 w.calm hg hm hg' hm' hs ha) fun r => by
  simp only [ev, evA]
  rw [bind_assoc]
  congr 1
  funext x r1
  simp only [R.bind_ok]
  unfold opn op1
  rcases res_one r1 x with h | ⟨u, h⟩
  · rw [h]; rfl
  · rw [h]; rfl
theorem e_append (w : CB T k X) (i : Nat) (ho : PE X a (tVar i)) (hb : DE T C X b b') (q : attributeBase a "append" X.env (eval a X.env) = eval a X.env := by rfl) (hl : (p'.endLine == pos.line) = true := by rfl) (hs : notStar b = true := by rfl) :
    DE T C X (.Call (.Attribute a "append" p') [b] [] pos) (.mut .append i [b']) := eqE (de_append w.eK ho (l_cons hb l_nil hs) hs q hl) fun r => by simp only [ev]; rfl
theorem e_popAt (w : CB T k X) (i : Nat) (ho : PE X a (tVar i)) (hb : DE T C X b b') (q : attributeBase a "pop" X.env (eval a X.env) = eval a X.env := by rfl) (hl : (p'.endLine == pos.line) = true := by rfl) (hs : notStar b = true := by rfl) :
    DE T C X (.Call (.Attribute a "pop" p') [b] [] pos) (.mut .popAt i [b']) := eqE (de_popAt w.eK ho (l_cons hb l_nil hs) hs q hl) fun r => by simp only [ev]; rfl
theorem e_bits (ha : DB T C X a a') (q : attributeBase a "bit_length" X.env (eval a X.env) = eval a X.env := by rfl) (hl : (p'.endLine == pos.line) = true := by rfl) : DE T C X (.Call (.Attribute a "bit_length" p') [] [] pos) (.bits a') := eqE (de_bits ha q hl) fun r => by simp only [ev] <;> rfl
theorem e_index (w : CB T k X) (ha : DB T C X a a') (hb : DB T C X b b') (q : attributeBase a "index" X.env (eval a X.env) = eval a X.env := by rfl) (hl : (p'.endLine == pos.line) = true := by rfl) (hs : notStar b = true := by rfl) :
    DE T C X (.Call (.Attribute a "index" p') [b] [] pos) (.mth .index a' [b']) := eqE (de_index w.eK ha (a_cons hb a_nil hs) hs q hl) fun r => by simp only [ev] <;> rfl
/-- f(..): a def -/
theorem e_def {g : Nat} {ms : List Bool} {f : Addr} {fd : FuncData} {ps : List Str} {ds : List Value} {dvs : List V} {dfl : List D} {es : List PySem.Expr} {es' : List E} (w : CB T k X) (hms : C.modes g = some ms) (F : FnG T k f fd ps (spD T ms (C.call g))) (hm : T.mg x = some (.ref f)) (hk : PySem.W.keepIn T.K (.ref f) = true)
    (hb : Binds T.K fd ps ds) (hd : Vals dvs ds) (hr : ∀ P, Reps T P dfl dvs) (ha : DA T C X (a :: es) es') (hg : Gl X x := by rfl) (hs : notStar a = true := by rfl) (hss : es.all notStar = true := by rfl) (hdb : (x == ("__debug__" : Str)) = false := by decide) :
    DE T C X (.Call (.Name x p) (a :: es) [] pos) (.call g es' [] dfl) := eqE (de_def (pe_def w F hg hm hk hb hd ha hs hss hdb) (fun _ _ _ h => h) hr) fun r => by
  simp only [ev]
  congr 1
  funext ys r1
  rw [show permO (ys ++ dfl.map .inr) [] = some (ys ++ dfl.map .inr) from rfl, hms]
/-! ### tests -/
theorem t_val (w : CB T k X) (h : DB T C X a a') (he : ∀ whole, isTrue a X.env whole = (do let v ← whole; standAt a.pos; holding [v] (truthy v)) := by intro _; rfl) : DT T C X a (.val a') := eqT (dt_val w.eK h he) fun r => by simp only [evT] <;> rfl
theorem t_cmp {op : CmpOp} (w : CB T k X) (ha : DB T C X a a') (hb : DB T C X b b') (hm : behindInMarks op b = false := by with_unfolding_all rfl) : DT T C X (.Compare a [op] [b] pos) (.val (.cmp op a' b')) := eqT (dt_cmp w.eK (by have := w.room.un; omega) ha hb hm) fun r => by
  simp only [evT, bor, isVar, ev]
  rw [bind_assoc]
  congr 1
theorem t_not {t : Z.T} (h : DT T C X a t) : DT T C X (.UnaryOp .Not a pos) (.not t) := eqT (dt_not h) fun r => by simp only [evT] <;> rfl
theorem w_and1 {t : Z.T} (h : DT T C X a t) : DW T C X (.BoolOp .And [a] pos) t := pw_and1 h
theorem w_or1 {t : Z.T} (h : DT T C X a t) : DW T C X (.BoolOp .Or [a] pos) t := pw_or1 h
theorem w_and {t u : Z.T} {es : List PySem.Expr} (ha : DT T C X a t) (hb : DW T C X (.BoolOp .And (b :: es) pos) u) : DW T C X (.BoolOp .And (a :: b :: es) pos) (.and t u) := eqW (dw_and ha hb) fun r => by simp only [evT] <;> rfl
theorem w_or {t u : Z.T} {es : List PySem.Expr} (ha : DT T C X a t) (hb : DW T C X (.BoolOp .Or (b :: es) pos) u) : DW T C X (.BoolOp .Or (a :: b :: es) pos) (.or t u) := eqW (dw_or ha hb) fun r => by simp only [evT] <;> rfl
theorem t_w {t : Z.T} (h : DW T C X a t) : DT T C X a t := h.pt
theorem c_nil : DC T C X [] [] := ⟨fun pins s σ H Q I ⟨P, r, rs, go⟩ => by
  simp only [evC] at go
  exact pts_nil.run pins s σ H Q I (go true P H (.refl rs) rfl)⟩
theorem c_one {t : Z.T} (h : DT T C X a t) : DC T C X [a] [t] := by
  unfold DC
  rw [show evC C [t] = evT C t from funext fun r => by
    simp only [evC]
    cases evT C t r with
    | ok k r1 => cases k <;> rfl
    | exc _ _ _ => rfl
    | bad => rfl]
  exact pts_one h
/-! ### what is walked, targets -/
theorem i_seq (w : CB T k X) (ha : DE T C X a a') : DI T C X c a (.e a') := eqI (di_seq w.eK ha) fun r => by simp only [evI] <;> rfl
theorem i_rng1 (ha : DB T C X a a') (hm : X.mg "range" = none) (hg : Gl X "range" := by rfl) (hs : notStar a = true := by rfl) : DI T C X c (.Call (.Name "range" p) [a] [] pos) (.rng1 a') := eqI (di_rng1 hg hm hs ha) fun r => by simp only [evI] <;> rfl
theorem i_rng2 (ha : DB T C X a a') (hb : DB T C X b b') (hm : X.mg "range" = none) (hg : Gl X "range" := by rfl) (hs : notStar a = true := by rfl) (hs' : notStar b = true := by rfl) : DI T C X c (.Call (.Name "range" p) [a, b] [] pos) (.rng2 a' b') := eqI (di_rng2 hg hm hs hs' ha hb) fun r => by simp only [evI] <;> rfl
theorem i_zs (w : CB T k X) {es : List PySem.Expr} {j i : Nat} {q : Pos} (ha : DL T C X [a, b] [a', b']) (hm : X.mg "zip" = none) (hg : Gl X "zip" := by rfl) (hs : notStar a = true := by rfl) (hs' : notStar b = true := by rfl) :
    DI T C X (.Tuple es j p') (.Call (.Name "zip" p) [a, b] [⟨some "strict", .Constant (.bool true) i q, pos'⟩] pos) (.zip true [a', b']) := di_zs w.eK hg hm hs hs' pe_bl ha
theorem g_v (w : CB T k X) (i : Nat) (hi : X.N[i]? = some x) (hx : L2.Loc X.env.scope x) (hf : X.fn x = true ∨ X.env.scope.names.lookup x = some .local) : DG T X (.Name x pos) (.v i) := dg_v (pg_name w.nd hi hx hf)
theorem gs_nil : DGs T X [] [] := dgs_nil
theorem gs_cons {es : List PySem.Expr} {t : Tg} {ts : List Tg} (h1 : DG T X a t) (h2 : DGs T X es ts) (hs : (assignEach (a :: es) X.env).map (·.2) = assign a X.env :: (assignEach es X.env).map (·.2) := by rfl) : DGs T X (a :: es) (t :: ts) := dgs_cons h1 h2 hs
theorem g_t (w : CB T k X) {es : List PySem.Expr} {j : Nat} {ts : List Tg} (h : DGs T X es ts) (hn : (assignEach es X.env).length = ts.length := by rfl) (hst : (assignEach es X.env).findIdx? (·.1) = none := by rfl) : DG T X (.Tuple es j pos) (.t ts) := dg_t w.calm h hn rfl hst
end
end Z
/-! ZW: comprehensions and statements in short. -/
namespace Z
open PySem PySem.Spec L2
open PyProof.Rows hiding St
section
variable {T : Tb} {C : Cf} {X : Cx} {k : Nat} {pos p p' pos' : Pos} {a b c d : PySem.Expr} {a' b' c' d' : E} {x y z : Str}
theorem lc_conv {elt tg iter : PySem.Expr} {ifs : List PySem.Expr} {scope : Scope} {own : List (Str × Nat)} {it : I} {t : Tg} {ts : List Z.T} {e' : E} (w : CB T k X) (hi : DI T C X tg iter it) (ok : BlkOk X.N X.env.scope scope own)
    (hg : ∀ (s : Shared) (H : Hp) (CC : Addr) (cl : List (Str × Addr)) (fp : List Addr), DG T (X.blk s H scope (compEnvC scope cl CC X.env) fp) tg t)
    (ht : ∀ (s : Shared) (H : Hp) (CC : Addr) (cl : List (Str × Addr)) (fp : List Addr), DC T C (X.blk s H scope (compEnvC scope cl CC X.env) fp) ifs ts)
    (he : ∀ (s : Shared) (H : Hp) (CC : Addr) (cl : List (Str × Addr)) (fp : List Addr), DE T C (X.blk s H scope (compEnvC scope cl CC X.env) fp) elt e')
    (hs : ∀ x, foldedSetIterable iter X.env x = pure x) :
    ∀ (σ : St) (H : Hp) (Q : VK), tE T WF (ev C (.lc e' t it ts (own.map (·.2)))) σ H Q → tLc (tI T WF (evI C it)) (gD T t) (tK T WF (evC C ts)) (tE T WF (ev C e')) (own.map (·.2)) σ H Q := fun σ H Q h => by
  refine de_lc (pos := ⟨0, 0, 0, 0⟩) w.calm w.nd hi ok hg ht he hs σ H Q ?_
  rw [show ev C (.lc e' t it ts (own.map (·.2))) = fun r => (evI C it r).bind fun l r1 => if ownFree r1 (own.map (·.2)) && (tgS t).all (own.map (·.2)).contains then
      (lcL (lcF t (evC C ts) (ev C e') (own.map (·.2))) l [] (wip r1 (own.map (·.2)))).bind fun ds r6 => thawL r ds (back r1 r6 (own.map (·.2))) else .bad from funext fun r => by simp only [ev] <;> rfl] at h
  exact h
/-- [.. for ..] -/
theorem e_lc {elt tg iter : PySem.Expr} {ifs : List PySem.Expr} {scope : Scope} {it : I} {t : Tg} {ts : List Z.T} {e' : E} (w : CB T k X) (own : List (Str × Nat)) (hi : DI T C X tg iter it)
    (hg : ∀ (s : Shared) (H : Hp) (CC : Addr) (cl : List (Str × Addr)) (fp : List Addr), DG T (X.blk s H scope (compEnvC scope cl CC X.env) fp) tg t)
    (ht : ∀ (s : Shared) (H : Hp) (CC : Addr) (cl : List (Str × Addr)) (fp : List Addr), DC T C (X.blk s H scope (compEnvC scope cl CC X.env) fp) ifs ts)
    (he : ∀ (s : Shared) (H : Hp) (CC : Addr) (cl : List (Str × Addr)) (fp : List Addr), DE T C (X.blk s H scope (compEnvC scope cl CC X.env) fp) elt e')
    (ok : BlkOk X.N X.env.scope scope own) (hs : ∀ x, foldedSetIterable iter X.env x = pure x := by intro _; rfl) : DE T C X (.ListComp elt [⟨tg, iter, ifs, 0⟩] scope pos) (.lc e' t it ts (own.map (·.2))) :=
  peImp (pe_lc w.calm w.nd hi ok hg ht he hs) (lc_conv w hi ok hg ht he hs)
/-! ### statements -/
theorem ss_nil : DSs T C X [] [] := by
  unfold DSs
  rw [show xs C [] = fun r => .nx r from funext fun r => by simp only [xs]]
  exact dss_nil
theorem ss_cons {s : Stmt} {ss : List Stmt} {s' : S} {ss' : List S} (h1 : DS T C X s s') (h2 : DSs T C X ss ss') : DSs T C X (s :: ss) (s' :: ss') := by
  unfold DSs
  rw [show xs C (s' :: ss') = fun r => (x1 C s' r).then (xs C ss') from funext fun r => by simp only [xs]]
  exact dss_cons h1 h2
/-- a statement that is never reached -/
theorem s_nev {s : Stmt} : DS T C X s .nev := psImp ps_never fun D σ H ⟨P, r, rs, go⟩ => by
  simp only [x1] at go
  exact go.elim
theorem s_ex (h : DE T C X a a') (hs : swapsWith a none pos.line X.env = pure false := by rfl) : DS T C X (.Expr a pos) (.ex a') := eqS (ds_ex h hs) fun r => by simp only [x1]
theorem s_ret (h : DE T C X a a') (q : isVar a' = none := by rfl) : DS T C X (.Return (some a) pos) (.ret a') := eqS (ds_ret h) fun r => by
  simp only [x1]
  unfold retV
  rw [q]
theorem s_retv (i : Nat) (h : PE X a (tVar i)) : DS T C X (.Return (some a) pos) (.ret (.var i)) := eqS (ds_retv (C := C) h) fun r => by simp only [x1]
theorem s_if {t : Z.T} {ss tt : List Stmt} {ss' tt' : List S} (hc : DT T C X c t) (ha : DSs T C X ss ss') (hb : DSs T C X tt tt') : DS T C X (.If c ss tt pos) (.ite t ss' tt') := eqS (ds_if hc ha hb) fun r => by simp only [x1] <;> rfl
theorem s_set (w : CB T k X) (i : Nat) (h : DE T C X a a') (hi : X.N[i]? = some x) (hx : L2.Loc X.env.scope x) (hf : X.fn x = true ∨ X.env.scope.names.lookup x = some .local) (hs : swapsWith a (some (.Name x pos')) pos.line X.env = pure false := by rfl) : DS T C X (.Assign [.Name x pos'] a pos) (.asg (.v i) a') :=
  eqS (ds_set (ps_set w.nd hi hx h hs hf) fun _ _ _ h => h) fun r => by simp only [x1] <;> rfl
/-- name = [.. for ..], the name a local, all on one line -/
theorem s_setc {elt tg iter : PySem.Expr} {ifs : List PySem.Expr} {scope : Scope} {it : I} {t : Tg} {ts : List Z.T} {e' : E} (w : CB T k X) (i : Nat) (own : List (Str × Nat)) (hy : X.N[i]? = some x) (hyl : X.env.scope.names.lookup x = some .local)
    (hsw : swapsWith (.ListComp elt [⟨tg, iter, ifs, 0⟩] scope pos) (some (.Name x p')) pos'.line X.env = pure true) (hi : DI T C X tg iter it)
    (hg : ∀ (s : Shared) (H : Hp) (CC : Addr) (cl : List (Str × Addr)) (fp : List Addr), DG T (X.blk s H scope (compEnvC scope cl CC X.env) fp) tg t)
    (ht : ∀ (s : Shared) (H : Hp) (CC : Addr) (cl : List (Str × Addr)) (fp : List Addr), DC T C (X.blk s H scope (compEnvC scope cl CC X.env) fp) ifs ts)
    (he : ∀ (s : Shared) (H : Hp) (CC : Addr) (cl : List (Str × Addr)) (fp : List Addr), DE T C (X.blk s H scope (compEnvC scope cl CC X.env) fp) elt e')
    (ok : BlkOk X.N X.env.scope scope own) (hs : ∀ x, foldedSetIterable iter X.env x = pure x := by intro _; rfl) : DS T C X (.Assign [.Name x p'] (.ListComp elt [⟨tg, iter, ifs, 0⟩] scope pos) pos') (.asg (.v i) (.lc e' t it ts (own.map (·.2)))) :=
  eqS (ds_set (ps_setLc w.calm w.nd hy hyl hsw hi ok hg ht he hs) (lc_conv w hi ok hg ht he hs)) fun r => by simp only [x1] <;> rfl
/-- a, b = e -/
theorem s_asgT {es : List PySem.Expr} {j : Nat} {ts : List Tg} (w : CB T k X) (he : DE T C X a a') (hg : DG T X (.Tuple es j p) (.t ts)) (hs : swapsWithSole [.Tuple es j p] a pos.line X.env = pure false := by rfl) (hw : swappedStores [.Tuple es j p] a X.env = pure none := by rfl)
    (h1 : (assignEach [.Tuple es j p] X.env).map (·.2) = [assign (.Tuple es j p) X.env] := by rfl) : DS T C X (.Assign [.Tuple es j p] a pos) (.asg (.t ts) a') := eqS (ds_asgT he hg hs hw h1) fun r => by simp only [x1] <;> rfl
/-- x, y = a, b -/
theorem s_par2 {px py pt : Pos} {kt k2 : Nat} {pt2 : Pos} (w : CB T k X) (i j : Nat) (ha : DV T C X [a, b] [a', b']) (hi : X.N[i]? = some x) (hj : X.N[j]? = some y) (hx : X.env.scope.names.lookup x = some .local) (hy : X.env.scope.names.lookup y = some .local)
    (hw : swappedStores [.Tuple [.Name x px, .Name y py] kt pt] (.Tuple [a, b] k2 pt2) X.env = pure (some [x, y]) := by rfl) (hs : swapsWithSole [.Tuple [.Name x px, .Name y py] kt pt] (.Tuple [a, b] k2 pt2) pos.line X.env = pure false := by rfl) (hij : i ≠ j := by decide) :
    DS T C X (.Assign [.Tuple [.Name x px, .Name y py] kt pt] (.Tuple [a, b] k2 pt2) pos) (.par [i, j] [a', b']) := eqS (ds_par2 (ps_par w.calm w.nd hi hj hij hx hy ha hw hs) (fun _ _ _ h => h) hij) fun r => by simp only [x1]
/-- names of the target of a tuple -/
def DNs (X : Cx) (es : List PySem.Expr) (is : List Nat) : Prop := PGs X es (gNs is)
theorem n_nil : DNs X [] [] := pgs_nil
theorem n_cons {es : List PySem.Expr} {is : List Nat} (w : CB T k X) (i : Nat) (h : DNs X es is) (hi : X.N[i]? = some x) (hx : L2.Loc X.env.scope x) (hf : X.fn x = true ∨ X.env.scope.names.lookup x = some .local) (hs : (assignEach (.Name x p :: es) X.env).map (·.2) = assign (.Name x p) X.env :: (assignEach es X.env).map (·.2) := by rfl) : DNs X (.Name x p :: es) (i :: is) := pgs_cons (pg_name w.nd hi hx hf) h hs
theorem s_parT {tes es : List PySem.Expr} {j j' : Nat} {tp ep : Pos} {is : List Nat} {es' : List E} (w : CB T k X) (hg : DNs X tes is) (ha : DV T C X es es') (hl : (assignEach tes X.env).length = is.length := by rfl) (hst : (assignEach tes X.env).findIdx? (·.1) = none := by rfl)
    (hs : swapsWithSole [.Tuple tes j tp] (.Tuple es j' ep) pos.line X.env = pure false := by rfl) (hw : swappedStores [.Tuple tes j tp] (.Tuple es j' ep) X.env = pure none := by rfl) (h1 : (assignEach [.Tuple tes j tp] X.env).map (·.2) = [assign (.Tuple tes j tp) X.env] := by rfl)
    (hn : is.Nodup := by decide) (hsz : is.length ≤ 1000 := by decide) : DS T C X (.Assign [.Tuple tes j tp] (.Tuple es j' ep) pos) (.par is es') := eqS (ds_parT w.calm hg ha hl hst hs hw h1 hn hsz) fun r => by simp only [x1]
/-- x[i] = e -/
theorem s_seti {tpos : Pos} (i : Nat) (he : DE T C X c c') (ho : PE X a (tVar i)) (hi : DE T C X b b') (hs : swapsWithSole [.Subscript a b tpos] c pos.line X.env = pure false := by rfl) (hw : swappedStores [.Subscript a b tpos] c X.env = pure none := by rfl) (h1 : (assignEach [.Subscript a b tpos] X.env).map (·.2) = [assign (.Subscript a b tpos) X.env] := by rfl)
    (ha : ∀ v, assign (.Subscript a b tpos) X.env v = (do
      let ov ← holding [v] (eval a X.env)
      let iv ← holding [v, ov] (eval b X.env)
      standAt tpos
      holding [v, ov, iv] (setItem ov iv v)
      release [v, ov, iv] []) := by intro _; rfl) : DS T C X (.Assign [.Subscript a b tpos] c pos) (.seti i b' c') := eqS (ds_seti he ho hi hs hw h1 ha) fun r => by simp only [x1]
/-- loops -/
theorem s_for {body : List Stmt} {tg : PySem.Expr} {it : I} {t : Tg} {ss : List S} (w : CB T k X) (hi : DI T C X tg a it) (hg : DG T X tg t) (hb : DSs T C X body ss) (hp : PassesOwn (model X.prog X.w) X.A X.env X.xe := by exact PassesOwn.never) (hs : ∀ x, foldedSetIterable a X.env x = pure x := by intro _; rfl) :
    DS T C X (.For tg a body [] pos) (.for_ t it ss) := eqS (ds_for hp w.calm hi hg hb hs) fun r => by simp only [x1]
theorem s_whl {body : List Stmt} {t : Z.T} {ss : List S} (hc : DT T C X c t) (hb : DSs T C X body ss) (hp : PassesOwn (model X.prog X.w) X.A X.env X.xe := by exact PassesOwn.never) : DS T C X (.While c body [] pos) (.whl t ss) := eqS (ds_whl C.fuel hp hc hb) fun r => by simp only [x1]
end
end Z
/-! ZX: defs of a text, the head. -/
namespace Z
open PySem PySem.Spec L2
open PyProof.Rows hiding St
/-- the evaluator at a depth -/
abbrev Cq (Pg : Nat → Option Df) (fuel k : Nat) : Cf := { call := callD Pg fuel k, modes := fun g => (Pg g).map (·.modes), fuel := fuel }
/-- a def as it stands in the written part -/
structure DfAt (T : Tb) (x : Str) (st : Stmt) (N ps : List Str) (f : Addr) (fd : FuncData) : Prop where
  ex : ∃ (oc : Value) (od : Option Addr) (kV doc pm : Value) (an : Option Addr) (cdv ct : Value) (osl : Array (Option Value)),
    fd = PySem.W.fnOf x x (defArgs st) (defBody st) (defScope st) .none kV doc pm an cdv ct ∧ T.K.lookup f = some ⟨oc, od, .func fd, osl⟩ ∧ PySem.W.codeIn T.K cdv x = true
  sc : FnScope N ps (defScope st)
  mg : T.mg x = some (.ref f)
  kp : PySem.W.keepIn T.K (.ref f) = true
  bn : Binds T.K fd ps []
/-- a name that may be called -/
def Cal (T : Tb) (k : Nat) (x : Str) (ms : List Bool) (c : List D → CR) : Prop :=
  ∃ (f : Addr) (fd : FuncData) (ps : List Str), T.mg x = some (.ref f) ∧ PySem.W.keepIn T.K (.ref f) = true ∧ Binds T.K fd ps [] ∧ FnG T k f fd ps (spD T ms c)
theorem cal_zero {T : Tb} {Pg : Nat → Option Df} {fuel i : Nat} {ms : List Bool} {x : Str} {st : Stmt} {N ps : List Str} {f : Addr} {fd : FuncData} (h : DfAt T x st N ps f fd) : Cal T 0 x ms (callD Pg fuel 0 i) := by
  refine ⟨f, fd, ps, h.mg, h.kp, h.bn, ⟨fun vs H Q E q => ?_, fun A outer s H args us vs Q E _ _ _ _ _ q => ?_⟩⟩
  · obtain ⟨P, ds, _, _, z⟩ := q
    exact z.elim
  · obtain ⟨P, ds, _, _, z⟩ := q
    exact z.elim
theorem fng_step {T : Tb} {Pg : Nat → Option Df} {fuel k i : Nat} {df : Df} {x : Str} {st : Stmt} {N ps : List Str} {f : Addr} {fd : FuncData} (h : DfAt T x st N ps f fd) (hp : Pg i = some df) (hn : df.names = N.length) (hm : df.modes.length = ps.length)
    (hb : ∀ (f : Addr) (cdv : Value) (A : Around) (outer : List PySem.Env) (s : Shared) (H : Hp) (E : XK), CB T k (asDef T N x (defScope st) f cdv A outer s H E) → DSs T (Cq Pg fuel k) (asDef T N x (defScope st) f cdv A outer s H E) (defBody st) df.body) :
    FnG T (k + 1) f fd ps (spD T df.modes (callD Pg fuel (k + 1) i)) := by
  obtain ⟨oc, od, kV, doc, pm, an, cdv, ct, osl, rfl, lk, hcd⟩ := h.ex
  exact fn_def lk hcd h.sc hp hn hm fun cdv A outer s H E w => hb f cdv A outer s H E w
theorem cal_step {T : Tb} {Pg : Nat → Option Df} {fuel k i : Nat} {df : Df} {x : Str} {st : Stmt} {N ps : List Str} {f : Addr} {fd : FuncData} (h : DfAt T x st N ps f fd) (hp : Pg i = some df) (hn : df.names = N.length) (hm : df.modes.length = ps.length)
    (hb : ∀ (f : Addr) (cdv : Value) (A : Around) (outer : List PySem.Env) (s : Shared) (H : Hp) (E : XK), CB T k (asDef T N x (defScope st) f cdv A outer s H E) → DSs T (Cq Pg fuel k) (asDef T N x (defScope st) f cdv A outer s H E) (defBody st) df.body) :
    Cal T (k + 1) x df.modes (callD Pg fuel (k + 1) i) := ⟨f, fd, ps, h.mg, h.kp, h.bn, fng_step h hp hn hm hb⟩
/-- a def by what the top wrote -/
structure DfQ (K : PySem.W.Frag) (x : Str) (st : Stmt) (ps : List Str) (f : Addr) (fd : FuncData) : Prop where
  ex : ∃ (oc : Value) (od : Option Addr) (kV doc pm : Value) (an : Option Addr) (cdv ct : Value) (osl : Array (Option Value)),
    fd = PySem.W.fnOf x x (defArgs st) (defBody st) (defScope st) .none kV doc pm an cdv ct ∧ K.lookup f = some ⟨oc, od, .func fd, osl⟩ ∧ PySem.W.codeIn K cdv x = true
  ns : PySem.W.nsIn K mainGlobals x = some (some (.ref f))
  kp : PySem.W.keepIn K (.ref f) = true
  bn : ∀ us : List Value, us.length = ps.length → bindArgs fd ⟨us, []⟩ = pure (ps.zip us)
theorem dfq_mk {K : PySem.W.Frag} {x : Str} {st : Stmt} {ps : List Str} {f : Addr} {oc : Value} {od : Option Addr} {kV doc pm cdv ct : Value} {an : Option Addr} {osl : Array (Option Value)}
    (b : ∀ (kV doc pm : Value) (an : Option Addr) (cdv ct : Value) (us : List Value), us.length = ps.length → bindArgs (PySem.W.fnOf x x (defArgs st) (defBody st) (defScope st) .none kV doc pm an cdv ct) ⟨us, []⟩ = pure (ps.zip us))
    (a : PySem.W.nsIn K mainGlobals x = some (some (.ref f))) (l : K.lookup f = some ⟨oc, od, .func (PySem.W.fnOf x x (defArgs st) (defBody st) (defScope st) .none kV doc pm an cdv ct), osl⟩) (c : PySem.W.codeIn K cdv x = true) (k : PySem.W.keepIn K (.ref f) = true) :
    ∃ fd, DfQ K x st ps f fd := ⟨_, ⟨oc, od, kV, doc, pm, an, cdv, ct, osl, rfl, l, c⟩, a, k, b kV doc pm an cdv ct⟩
theorem DfQ.at {K : PySem.W.Frag} {x : Str} {st : Stmt} {N ps : List Str} {f : Addr} {fd : FuncData} {P : Program} {w : World} {mg : Str → Option Value} {h bs : Heap} (q : DfQ K x st ps f fd) (sc : FnScope N ps (defScope st)) (inK : K.In h) (G : h.Ns mainGlobals mg) :
    DfAt ⟨P, w, K, mg, bs, fun _ => 0⟩ x st N ps f fd := ⟨q.ex, sc, PySem.W.mg_of inK G q.ns, q.kp, Binds.all q.bn⟩
section
variable {T : Tb} {C : Cf} {X : Cx} {k : Nat} {pos p : Pos} {a : PySem.Expr} {x : Str}
/-- f(..) -/
theorem e_fn {g : Nat} {ms : List Bool} {es : List PySem.Expr} {es' : List E} (w : CB T k X) (h : Cal T k x ms (C.call g)) (hms : C.modes g = some ms) (ha : DA T C X (a :: es) es') (hg : Gl X x := by rfl) (hs : notStar a = true := by rfl) (hss : es.all notStar = true := by rfl) (hdb : (x == ("__debug__" : Str)) = false := by decide) :
    DE T C X (.Call (.Name x p) (a :: es) [] pos) (.call g es' [] []) := by
  obtain ⟨f, fd, ps, h1, h2, h3, h4⟩ := h
  exact e_def w hms h4 h1 h2 h3 .nil (fun P => .nil) ha hg hs hss hdb
/-- a name of the module that stands for an int -/
theorem e_gint {i : Int} (h : ∃ t, X.mg x = some (.int i t)) (hg : Gl X x := by rfl) (hd : (x == ("__debug__" : Str)) = false := by decide) : DE T C X (.Name x pos) (.con (.int i)) := by
  obtain ⟨t, h⟩ := h
  exact e_glob h (v := .int i) ⟨t, rfl⟩ (fun _ => by simp only [Rep]) hg hd
end
/-! ### the head -/
abbrev tbOf (P : Program) (w : World) (K : PySem.W.Frag) (mg : Str → Option Value) (bs : Heap) : Tb := ⟨P, w, K, mg, bs, fun _ => 0⟩
/-- a call of the law at the heap behind the top -/
theorem head_call {P : Program} {w : World} {K : PySem.W.Frag} {mg mb : Str → Option Value} {k : Nat} {fa a : Addr} {fd : FuncData} {x : Str} {c : List D → CR} {s1 : Shared} {us : List Value} {ns : List Int}
    (inK : K.In s1.heap) (nsM : s1.heap.Ns mainGlobals mg) (nsB : s1.heap.Ns builtinsNs mb) (boot : ∀ y : Str, y ≠ "__name__" → mb y = bootBuiltins y) (nol : s1.heap.NoLimit) (gn : s1.gens = #[])
    (hob : s1.heap.get? a = some { cls := .type "list", data := .seq us.toArray }) (hin : IntsAre us ns) (hlen : ns.length ≤ sizeLine) (rm : Room k callerA)
    (F : ∀ bs : Heap, K.In bs → bs.Ns mainGlobals mg → FnG (tbOf P w K mg bs) k fa fd [x] (spD (tbOf P w K mg bs) [false] c)) (hbd : ∀ (s : Shared) (u : Value), BindsTo s fd ⟨[u], []⟩ [(x, u)])
    (ans : c [.scr ns] = .ok (.sh (.bl true)) []) :
    codeAny (model P w) callerA (.call (.ref fa) ⟨[.ref a], []⟩) (fun r s2 => r = .ok (.ret (.bool true)) ∧ OldK s1.heap s2.heap ∧ s2.os = s1.os ∧ AllBare s2.gens) s1 := by
  have vv : Vals (ns.map V.int) us := vals_ints hin
  have nn := hin.length
  have main : ∀ H : Hp, Only H → SqL K H a (ns.map V.int) → HOk P w H s1.heap → (∀ b, H b ≠ none → b = a) → (H a ≠ none → K.lookup a = none) →
      codeAny (model P w) callerA (.call (.ref fa) ⟨[.ref a], []⟩) (fun r s2 => r = .ok (.ret (.bool true)) ∧ OldK s1.heap s2.heap ∧ s2.os = s1.os ∧ AllBare s2.gens) s1 := by
    intro H one sq ok at1 notK
    have notA : ∀ {b : Addr} {o : Obj} {es : Array DictEntry} {ep : Nat}, s1.heap.get? b = some o → o.data = .dict es ep → H b = none := fun {b o es ep} g1 g2 => by
      cases hb : H b with
      | none => rfl
      | some u =>
        have z : b = a := at1 b (by rw [hb]; simp)
        rw [z, hob] at g1
        cases g1
        cases (show Data.seq us.toArray _ = Data.dict es ep from g2)
    have keepNs : ∀ {b : Addr} {m : Str → Option Value}, s1.heap.Ns b m → (hidT s1.heap H).Ns b m := fun {b m} ⟨o, es, ep, g1, g2, g3⟩ => ⟨o, es, ep, hidT_get g1 (notA g1 g2), g2, g3⟩
    have inK2 : K.In (hidT s1.heap H) := fun b o g => hidT_get (inK b o g) (by
      cases hb : H b with
      | none => rfl
      | some u =>
        have z : b = a := at1 b (by rw [hb]; simp)
        subst z
        rw [notK (by rw [hb]; simp)] at g
        cases g)
    have md : Mod K mg (hidT s1.heap H) := ⟨inK2, keepNs nsM, ⟨mb, keepNs nsB, boot⟩, nol.elim fun mc z => ⟨mc, keepNs z.1, z.2⟩⟩
    have en : Env0 P w K mg (hidT s1.heap H) callerA [] s1 H := ⟨rfl, md, fun b o g => of_hidT g, Nat.le_of_eq (hidT_size _ _), trivial, fun b z => (by cases z), ok, .of_eq gn⟩
    have sp : spD (tbOf P w K mg (hidT s1.heap H)) [false] c [.ref a] H (fun v _ => v = .bl true) (fun _ _ _ => False) :=
      ⟨H, [.scr ns], .refl H, ⟨.ref a, [], rfl, by simp only [Rep]; exact ⟨a, rfl, sq⟩, rfl⟩, by
        rw [ans]
        intro u P' H' _ rv
        have rv' : Rep (tbOf P w K mg (hidT s1.heap H)) P' (.bl true) u := rv
        simpa only [Rep] using rv'⟩
    refine codeAny_mono ((F _ inK2 (keepNs nsM)).run callerA [] s1 H ⟨[.ref a], []⟩ [.ref a] [.ref a] _ _ rm rfl en (hbd s1 (.ref a)) (.cons rfl .nil) sp) fun r s2 h => ?_
    match r, h with
    | .error _, h => exact h.elim
    | .ok .next, h => exact h.elim
    | .ok .brk, h => exact h.elim
    | .ok .cont, h => exact h.elim
    | .ok (.ret u), h =>
      obtain ⟨v, H2, eo, bare, un, ok2, rl, ev⟩ := h
      have ev : v = .bl true := ev
      subst ev
      have eu : u = Value.bool true := rl
      subst eu
      refine ⟨rfl, OldK.of_keep fun b o g => ?_, eo, bare⟩
      cases hb : H b with
      | none => exact un.keep b o g hb (fun z => by cases z) (by simp)
      | some u =>
        rcases one b with z | ⟨ob, xs, z⟩
        · rw [hb] at z; cases z
        · obtain ⟨q1, _⟩ := ok b _ z
          obtain ⟨q2, _⟩ := ok2 b _ (un.frzs b ob _ z)
          rw [g] at q1
          cases q1
          exact q2
  cases hk : K.lookup a with
  | some o =>
    have g := inK a o hk
    rw [hob] at g
    cases g
    refine main (fun _ => none) (fun _ => .inl rfl) (.inr ⟨_, us.toArray, _, hk, rfl, rfl, rfl, ?_, by simpa using vv⟩) (fun b u z => by cases z) (fun b z => absurd rfl z) fun z => absurd rfl z
    rw [List.size_toArray, nn]
    exact hlen
  | none =>
    refine main (fun b => if b = a then some (.frz { cls := .type "list", data := .seq us.toArray } (.lst (ns.map V.int))) else none) (fun b => ?_) (.inl (.inr ⟨_, if_pos rfl⟩)) (fun b u z => ?_) (fun b z => ?_) fun _ => hk
    · by_cases e : b = a
      · exact .inr ⟨_, _, if_pos e⟩
      · exact .inl (if_neg e)
    · by_cases e : b = a
      · cases (if_pos e).symm.trans z
        subst e
        exact ⟨hob, by rw [List.length_map]; exact hlen, us, _, vv, hob⟩
      · cases (if_neg e).symm.trans z
    · exact Classical.byContradiction fun e => z (if_neg e)
/-- what k_head leaves of a law row -/
theorem head_of {l : PySem.W.OpenLaw} {n k : Nat} {q : Program} {loose : List Str} {XP : (Str → Option Value) → Heap → Prop} {YP : World → Heap → Prop} {d : DefRec} {K : Params → PySem.W.Frag} {c : List D → CR} {x : Str}
    (hn : l.most = some n) (hn2 : n ≤ sizeLine) (hdf : d.params.defaults = []) (rm : Room k callerA) (hY : ∀ (w : World) (h : Heap), YP w h → (K w.params).In h)
    (F : ∀ (w : World) (mg : Str → Option Value) (fa : Addr) (h : Heap), (K w.params).In h → h.Ns mainGlobals mg → mg d.name = some (.ref fa) →
      ∃ fd : FuncData, (∀ (s : Shared) (u : Value), BindsTo s fd ⟨[u], []⟩ [(x, u)]) ∧
        ∀ bs : Heap, (K w.params).In bs → bs.Ns mainGlobals mg → FnG (tbOf l.prog w (K w.params) mg bs) k fa fd [x] (spD (tbOf l.prog w (K w.params) mg bs) [false] c))
    (ans : ∀ ns : List Int, ns.length ≤ n → c [.scr ns] = .ok (.sh (.bl true)) []) :
    PySem.W.WalkO q loose XP YP l.row.toRowW d [] (fun f vs => PySem.call f vs) := by
  refine Att.attach_call hn hdf fun w s₀ s1 mg mb fa o pm cd doc a us ns G Y ho hd hcd hmg hob hin hlen gn => ?_
  obtain ⟨fd, hbd, hF⟩ := F w mg fa _ (hY w _ Y) G.T.g hmg
  exact head_call (hY w _ Y) G.T.g G.T.b G.T.builtins G.T.nolimit gn hob hin (Nat.le_trans hlen hn2) rm hF hbd (ans ns hlen)
end Z
/-! ZY: calls of defs by the parameters' names. -/
namespace Z
open PySem PySem.Spec L2
open PyProof.Rows hiding St
/-! ### a chain of two comparisons -/
/-! ### a new thing handed over to be changed -/
end Z
/-! ZZ: zip of two lists, strict=False. -/
namespace Z
open PySem PySem.Spec L2
open PyProof.Rows hiding St
open Sem (wp)
/-! ### a chain as a test -/
end Z
/-! ZZA: x += e. -/
namespace Z
open PySem PySem.Spec L2
open PyProof.Rows hiding St
/-! ### x += e, whole numbers -/
end Z
/-! ZZB: zip of three lists of one length, strict or not. -/
namespace Z
open PySem PySem.Spec L2
open PyProof.Rows hiding St
open Sem (wp)
end Z
/-! ZZC: zip of three lists: its turns. -/
namespace Z
open PySem PySem.Spec L2
open PyProof.Rows hiding St
open Sem (wp)
end Z
/-! ZZD: zip of three lists, walked. -/
namespace Z
open PySem PySem.Spec L2
open PyProof.Rows hiding St
open Sem (wp)
end Z
/-! ZZE: zip of two lists kept under a name, walked in the next statement. -/
namespace Z
open PySem PySem.Spec L2
open PyProof.Rows hiding St
open Sem (wp)
/-! ### things of the heap that are known and then forgotten -/
/-! ### the judgement -/
section
variable {T : Tb} {W : WX} {σ σ' : St} {P H P' H' : Hp} {r r' : En} {i : Nat}
/-- values alike but at a slot -/
def Sg (i : Nat) (σ σ' : St) : Prop := σ'.length = σ.length ∧ ∀ j, j ≠ i → σ'[j]? = σ[j]?
theorem Sg.symm (h : Sg i σ σ') : Sg i σ' σ := ⟨h.1.symm, fun j n => (h.2 j n).symm⟩
theorem own_ne (hn : r[i]? = some Sl.no) {j : Nat} (o : OwnAt r j) : j ≠ i := fun z => by
  subst z
  obtain ⟨d, o⟩ := o
  rcases o with o | o <;> (rw [hn] at o; cases o)
theorem Sg.own (h : Sg i σ σ') (hn : r[i]? = some Sl.no) : ∀ a, Own σ' r a → Own σ r a := fun a ⟨j, o, e⟩ => ⟨j, o, by rw [← h.2 j (own_ne hn o)]; exact e⟩
theorem Sg.rs (h : Sg i σ σ') (hn : r[i]? = some Sl.no) (rs : RS T P H σ r) : RS T P H σ' r where
  sub := rs.sub
  len := rs.len.trans h.1.symm
  sh := fun j d e => by
    have : j ≠ i := fun z => by subst z; rw [hn] at e; cases e
    rw [h.2 j this]; exact rs.sh j d e
  own := fun j d e => by
    rw [h.2 j (own_ne hn ⟨d, e⟩)]; exact rs.own j d e
  dis := fun j k a o1 o2 e1 e2 => by
    rw [h.2 j (own_ne hn o1)] at e1
    rw [h.2 k (own_ne hn o2)] at e2
    exact rs.dis j k a o1 o2 e1 e2
theorem kd_no (k : Kd r r') (hn : r[i]? = some Sl.no) : r'[i]? = some Sl.no := by
  have hi : i < r'.length := by rw [k.1]; exact (List.getElem?_eq_some_iff.mp hn).1
  have q := List.getElem?_eq_getElem hi
  have w := k.2 i _ _ hn q
  cases c : r'[i] with
  | no => rw [q, c]
  | _ => rw [c] at w; exact False.elim w
theorem Sg.aft (h : Sg i σ σ') (hn : r[i]? = some Sl.no) (a : Aft T σ P H r P' H' r') : Aft T σ' P H r P' H' r' :=
  ⟨h.rs (kd_no a.kd hn) a.rs, ⟨a.st.pp, fun b o e n => a.st.fr b o e (fun z => n (h.symm.own hn b z)), a.st.dm, fun b e => (a.st.nw b e).imp_right (Or.imp_right (h.symm.own hn b))⟩, a.kd⟩
theorem Sg.go {A B : Type} {rel : Rel A B} {x : R A} {Q : B → Hp → Prop} (h : Sg i σ σ') (hn : r[i]? = some Sl.no) (g : Go T WF rel σ P H r x Q) : Go T WF rel σ' P H r x Q := by
  cases x with
  | ok v r' => exact fun u P' H' b q => g u P' H' (h.symm.aft hn b) q
  | exc c d r' => exact fun u P' H' b q => (g u P' H' (h.symm.aft hn b) q).elim
  | bad => exact g
end
end Z
/-! ZZF: a call whose arguments stay one's own. -/
namespace Z
open PySem PySem.Spec L2
open PyProof.Rows hiding St
end Z
/-! ZZG: dicts of tuples (all values True): {}, x[tuple] = True, len(x). -/
namespace Z
open PySem PySem.Spec L2
open PyProof.Rows hiding St
section
variable {T : Tb} {W : WX} {X : Cx} {σ : St} {P H : Hp} {r : En} {pos p : Pos}
abbrev kvT (ks : List (List Ky)) : List (List L2.Key × V) := ks.map fun k => (k, V.bl true)
theorem any_kvT (k : List L2.Key) : ∀ ks : List (List Ky), ((kvT ks).any fun kv => decide (kv.1 = k)) = ks.any fun x => decide (x = k)
  | [] => rfl
  | x :: ks => by
    have := any_kvT k ks
    simp only [kvT, List.map_cons, List.any_cons] at this ⊢
    rw [this]
theorem putK_true (ks : List (List Ky)) (k : List L2.Key) : putK (kvT ks) k (V.bl true) = kvT (if (ks.any fun x => decide (x = k)) = true then ks else ks ++ [k]) := by
  unfold putK
  rw [any_kvT]
  split
  · simp only [kvT, List.map_map]
    apply List.map_congr_left
    intro x _
    simp
  · simp [kvT]
theorem keys_rep : ∀ {ds : List D} {k : List Ky} {xs : List V}, keysD ds = some k → Reps T P ds xs → xs = k.map kV
  | [], k, xs, e, h => by
    cases e
    exact h.of_nil
  | d :: ds, k, xs, e, h => by
    obtain ⟨v, t, rfl, h1, h2⟩ := h.of_cons
    unfold keysD at e
    cases c : keyD d with
    | none => rw [c] at e; cases e
    | some y =>
      rw [c] at e
      cases c2 : keysD ds with
      | none => rw [c2] at e; cases e
      | some ys =>
        rw [c2] at e
        cases e
        rw [keys_rep c2 h2]
        have : v = kV y := by
          cases d with
          | int i => cases c; exact (by simpa only [Rep] using h1 : v = V.int i)
          | str s => cases c; exact (by simpa only [Rep] using h1 : v = V.str s)
          | _ => cases c
        rw [this]
        rfl
theorem de_dnt : PE X (.Dict [] [] pos) (tE T W fun r => .ok (.ow (.dts [])) r) :=
  peImp pe_dnewT fun σ H Q ⟨P, r, rs, go⟩ => fun p n => go _ P _ (Aft.laidO rs n) ⟨p, rfl, rs.sub.free n, upd_same, n⟩
theorem de_dlen {i : Nat} {a : PySem.Expr} (ho : PE X a (tVar i)) (hg : Gl X "len") (hm : X.mg "len" = none) (hv : bootBuiltins "len" = some (.builtin "len")) (hs : notStar a = true) :
    PE X (.Call (.Name "len" p) [a] [] pos) (tE T W fun r => match r[i]? with | some (.ow (.dts ks)) => .ok (.sh (.int ks.length)) r | _ => .bad) := by
  refine peImp (pe_callB call_len_dT hg hm hv (pa_cons ho pa_nil (star_one hs [] X.env)) (by decide) (by decide) (star_one hs [] X.env) (star_all (es := []) rfl X.env pos)) fun σ H Q ⟨P, r, rs, go⟩ => ?_
  dsimp only at go
  cases c : r[i]? with
  | none => rw [c] at go; exact go.elim
  | some x =>
    rw [c] at go
    cases x with
    | ow d =>
      cases d with
      | dts ks =>
        obtain ⟨b, e1, e2, e3⟩ := rs.own i _ (.inl c)
        have fin : Q (.int (ks.length : Nat)) H := go.here rs (by simp only [Rep])
        exact ⟨_, e1, b, _, rfl, e3, by rw [List.length_map]; exact fin⟩
      | _ => exact go.elim
    | _ => exact go.elim
/-- x[tuple] = True -/
theorem ds_dput {o ix e : PySem.Expr} {pos tpos : Pos} {i : Nat} {f g : En → R Val} (hu : X.A.units + 1 < cLine) (he : PE X e (tE T W f)) (ho : PE X o (tVar i)) (hi : PE X ix (tE T W g))
    (hs : swapsWithSole [.Subscript o ix tpos] e pos.line X.env = pure false) (hw : swappedStores [.Subscript o ix tpos] e X.env = pure none) (h1 : (assignEach [.Subscript o ix tpos] X.env).map (·.2) = [assign (.Subscript o ix tpos) X.env])
    (ha : ∀ v, assign (.Subscript o ix tpos) X.env v = (do
      let ov ← holding [v] (eval o X.env)
      let iv ← holding [v, ov] (eval ix X.env)
      standAt tpos
      holding [v, ov, iv] (setItem ov iv v)
      release [v, ov, iv] [])) :
    PS X (.Assign [.Subscript o ix tpos] e pos) (tD T W fun r => (f r).run fun v r1 => if (r1.own? i).isSome = true then (g r1).run fun k r2 => O.of ((r2.own? i).bind fun o => (dputD o k.d v.d).bind fun d => r2.chg i d) else .bad) :=
  psImp (ps_asg he (pg_sub ho hi (set_dict hu) ha) hs hw h1) fun D σ H ⟨P, r, rs, go⟩ => ⟨P, r, rs, (GoS.runS rs go).mono fun u H1 ⟨P1, r1, v, a1, q1, e1, go1⟩ => by
    by_cases hown : (r1.own? i).isSome = true
    rotate_left
    · rw [if_neg hown] at go1; exact go1.elim
    rw [if_pos hown] at go1
    obtain ⟨d0, hd0⟩ := Option.isSome_iff_exists.mp hown
    obtain ⟨a0, ea0, _, _⟩ := own_at a1.rs hd0
    obtain ⟨w, hw⟩ : ∃ w, σ[i]? = some (some w) := ⟨_, ea0⟩
    exact ⟨w, hw, P1, r1, a1.rs, (GoS.runS a1.rs go1).mono fun kx H2 ⟨P2, r2, k, a2, q2, e2, go2⟩ => by
      cases c : r2.own? i with
      | none => rw [c] at go2; exact go2.elim
      | some d =>
        rw [c] at go2
        simp only [Option.bind_some] at go2
        obtain ⟨a, ea, pa, ro⟩ := own_at a2.rs c
        rw [hw] at ea; cases ea
        cases c2 : dputD d k.d v.d with
        | none => rw [c2] at go2; exact go2.elim
        | some d' =>
          rw [c2] at go2
          simp only [Option.bind_some] at go2
          cases c3 : r2.chg i d' with
          | none => rw [c3] at go2; exact go2.elim
          | some r3 =>
            rw [c3] at go2
            cases d with
            | dts ks =>
              cases ck : k.d with
              | tup l =>
                cases cv : v.d with
                | bl bb =>
                  rw [ck, cv] at c2
                  rw [ck] at q2
                  rw [cv] at q1
                  cases bb with
                  | false => simp [dputD] at c2
                  | true =>
                    simp only [dputD] at c2
                    split at c2
                    · rename_i hl
                      cases c4 : keysD l with
                      | none => rw [c4] at c2; cases c2
                      | some kk =>
                        rw [c4] at c2
                        cases c2
                        simp only [Rep] at q1 q2
                        subst q1
                        obtain ⟨b, xs, rfl, hb, rx⟩ := q2
                        rw [keys_rep c4 rx] at hb
                        refine ⟨a, _, rfl, DPut.t ro (a2.rs.sub _ _ hb) (by rw [List.length_map, sizeLine_eq]; omega), ?_⟩
                        rw [putK_true]
                        exact go2 σ P2 _ (chg_ok a2.rs c hw c3 upd_same).toS
                    · cases c2
                | _ => rw [ck, cv] at c2; simp [dputD] at c2
              | _ => rw [ck] at c2; simp [dputD] at c2
            | _ => simp [dputD] at c2⟩⟩
end
section
variable {T : Tb} {C : Cf} {X : Cx} {k : Nat} {pos p tpos : Pos} {a b c : PySem.Expr} {a' b' c' : E}
theorem e_dnt : DE T C X (.Dict [] [] pos) .dnt := eqE de_dnt fun r => by simp only [ev]
theorem e_dlen (i : Nat) (ho : PE X a (tVar i)) (hm : X.mg "len" = none) (hv : bootBuiltins "len" = some (.builtin "len")) (hg : Gl X "len" := by rfl) (hs : notStar a = true := by rfl) : DE T C X (.Call (.Name "len" p) [a] [] pos) (.dlen i) := eqE (de_dlen ho hg hm hv hs) fun r => by simp only [ev] <;> rfl
theorem s_dput (w : CB T k X) (i : Nat) (he : DE T C X c c') (ho : PE X a (tVar i)) (hi : DE T C X b b') (hs : swapsWithSole [.Subscript a b tpos] c pos.line X.env = pure false := by rfl) (hw : swappedStores [.Subscript a b tpos] c X.env = pure none := by rfl) (h1 : (assignEach [.Subscript a b tpos] X.env).map (·.2) = [assign (.Subscript a b tpos) X.env] := by rfl)
    (ha : ∀ v, assign (.Subscript a b tpos) X.env v = (do
      let ov ← holding [v] (eval a X.env)
      let iv ← holding [v, ov] (eval b X.env)
      standAt tpos
      holding [v, ov, iv] (setItem ov iv v)
      release [v, ov, iv] []) := by intro _; rfl) : DS T C X (.Assign [.Subscript a b tpos] c pos) (.dput i b' c') := eqS (ds_dput (by have := w.room.un; omega) he ho hi hs hw h1 ha) fun r => by simp only [x1]
end
end Z
/-! ZZH: x[::0 - 1] of a list; dict(list of pairs). -/
namespace Z
open PySem PySem.Spec L2
open PyProof.Rows hiding St
end Z
/-! ZZI: list(dict of tuples), {x: y for x, y in ..}, x[k] of a dict of numbers, x[::-1]. -/
namespace Z
open PySem PySem.Spec L2
open PyProof.Rows hiding St
section
variable {T : Tb} {W : WX} {X : Cx} {σ : St} {P H : Hp} {r : En} {pos p : Pos}
theorem reps_keys : ∀ k : List Ky, Reps T P (k.map kyD) (k.map kV)
  | [] => .nil
  | y :: k => by
    refine .cons ?_ (reps_keys k)
    cases y <;> simp only [kyD, Rep] <;> rfl
theorem keys_reps {H : Hp} : ∀ {ks : List (List Ky)} {bs : List Addr}, IsKeys H (kvT ks) bs → (∀ b ∈ bs, P b = H b) → Reps T P (ks.map tupK) (bs.map V.ref)
  | [], bs, h, _ => by
    cases h
    exact .nil
  | k :: ks, bs, h, e => by
    cases h with
    | cons h1 h2 =>
      refine .cons ?_ (keys_reps h2 fun b hb => e b (List.mem_cons_of_mem _ hb))
      simp only [tupK, Rep]
      exact ⟨_, _, rfl, (e _ List.mem_cons_self).trans h1, reps_keys k⟩
theorem keys_tup {H : Hp} : ∀ {ks : List (List Ky)} {bs : List Addr}, IsKeys H (kvT ks) bs → ∀ b ∈ bs, ∃ xs, H b = some (.tup xs)
  | [], bs, h, b, hb => by
    cases h
    cases hb
  | k :: ks, bs, h, b, hb => by
    cases h with
    | cons h1 h2 =>
      rcases List.mem_cons.mp hb with rfl | hb
      · exact ⟨_, h1⟩
      · exact keys_tup h2 b hb
/-- list(x) of a dict of tuples: the tuples are seen by all from now on -/
theorem de_dls {i : Nat} {a : PySem.Expr} (hc : X.calm = true) (ho : PE X a (tVar i)) (hg : Gl X "list") (hm : X.mg "list" = none) (hv : bootBuiltins "list" = some (.type "list")) (hs : notStar a = true) :
    PE X (.Call (.Name "list" p) [a] [] pos) (tE T W fun r => match r[i]? with | some (.ow (.dts ks)) => .ok (.ow (.lst (ks.map tupK))) r | _ => .bad) := by
  refine peImp (pe_callTy (call_list_dT hc) hg hm hv (pa_cons ho pa_nil (star_one hs [] X.env)) (by decide) (by decide) (star_one hs [] X.env) (star_all (es := []) rfl X.env pos)) fun σ H Q ⟨P, r, rs, go⟩ => ?_
  dsimp only at go
  cases c : r[i]? with
  | none => rw [c] at go; exact go.elim
  | some x =>
    rw [c] at go
    cases x with
    | ow d =>
      cases d with
      | dts ks =>
        obtain ⟨b0, e1, e2, e3⟩ := rs.own i _ (.inl c)
        refine ⟨_, e1, b0, kvT ks, rfl, .inl e3, fun q bs hq hk => ?_⟩
        have tup := keys_tup hk
        classical
        let Pk : Hp := fun b => if b ∈ bs then H b else P b
        have ext : Ext P Pk := fun b o e => by
          show (if b ∈ bs then H b else P b) = some o
          split
          · exact rs.sub b o e
          · exact e
        have subH : ∀ b o, Pk b = some o → H b = some o := fun b o e => by
          have e : (if b ∈ bs then H b else P b) = some o := e
          split at e
          · exact e
          · exact rs.sub b o e
        have nq : ∀ b, H b ≠ none → b ≠ q := fun b h z => h (by rw [z]; exact hq)
        have sub : Ext Pk (upd H q (.lst (bs.map V.ref))) := fun b o e => by
          have := subH b o e
          rw [upd_ne (nq b (by rw [this]; simp))]
          exact this
        have pOwn : ∀ a d, P a = none → RepO T P H a d → Pk a = none := fun a d n ro => by
          show (if a ∈ bs then H a else P a) = none
          split
          · rename_i m
            obtain ⟨xs, e⟩ := tup a m
            exact absurd (fun o eo => by rw [e] at eo; cases eo; exact ⟨xs, rfl⟩) ro.nt
          · exact n
        refine go (.ref q) Pk (upd H q (.lst (bs.map V.ref))) ⟨⟨sub, rs.len, fun j d e => ?_, fun j d e => ?_, rs.dis⟩, ⟨ext, fun b o e _ => ?_, fun b e => ?_, fun b e => ?_⟩, .refl _⟩ ⟨q, rfl, ?_, ⟨bs.map V.ref, upd_same, keys_reps hk fun b hb => if_pos hb⟩, hq⟩
        · obtain ⟨v, a1, a2⟩ := rs.sh j d e
          exact ⟨v, a1, Rep.ext ext _ _ a2⟩
        · obtain ⟨a, a1, a2, a3⟩ := rs.own j d e
          obtain ⟨o, eo⟩ := a3.some
          exact ⟨a, a1, pOwn a d a2 a3, a3.move ext (upd_ne (nq a (by rw [eo]; simp)))⟩
        · rw [upd_ne (nq b (by rw [e]; simp))]
          exact e
        · by_cases z : b = q
          · subst z; exact hq
          · rw [upd_ne z] at e; exact e
        · have e : (if b ∈ bs then H b else P b) ≠ none := e
          split at e
          · rename_i m
            obtain ⟨xs, eb⟩ := tup b m
            exact .inr (.inl fun o eo => by rw [eb] at eo; cases eo; exact ⟨xs, rfl⟩)
          · exact .inl e
        · show (if q ∈ bs then H q else P q) = none
          split
          · exact hq
          · exact rs.sub.free hq
      | _ => exact go.elim
    | _ => exact go.elim
end
section
variable {T : Tb} {C : Cf} {X : Cx} {k : Nat} {pos p : Pos} {a b : PySem.Expr} {a' b' : E} {x y : Str}
theorem e_dls (w : CB T k X) (i : Nat) (ho : PE X a (tVar i)) (hm : X.mg "list" = none) (hv : bootBuiltins "list" = some (.type "list")) (hg : Gl X "list" := by rfl) (hs : notStar a = true := by rfl) : DE T C X (.Call (.Name "list" p) [a] [] pos) (.dls i) := eqE (de_dls w.calm ho hg hm hv hs) fun r => by simp only [ev] <;> rfl
/-- x[::-1] -/
theorem de_rev1 {W : WX} {k1 : Nat} {p1 p2 p3 : Pos} {e : PySem.Expr} {fa : En → R (Nat ⊕ D)} (hK : X.K = T.K) (he : PE X e (tB T W fa)) :
    PE X (.Subscript e (.Slice none none (some (.UnaryOp .USub (.Constant (.int 1) k1 p1) p2)) p3) pos) (tE T W fun r => (fa r).bind fun x r1 => op1 revD x r1) := by
  refine ⟨fun pins s σ H Q I ⟨P, r, rs, go⟩ => ?_⟩
  refine Subscript_ (thn (he.run pins s σ H _ I ⟨P, r, rs, Go.bind (anti_V T) go⟩) fun v s1 ⟨x0, H1, I1, r1, q1⟩ => ?_)
  obtain ⟨P1, ra1, x, a1, qr, e1, go1⟩ := q1
  unfold op1 at go1
  cases c : res ra1 [x] with
  | none => rw [c] at go1; exact go1.elim
  | some l =>
    obtain ⟨a, rfl, ra⟩ := res1 a1.rs qr c
    rw [c] at go1
    dsimp only at go1
    cases a with
    | lst l =>
      obtain ⟨p, xs, rfl, hx, h2⟩ := ra.lst a1.rs
      cases r1
      have hst : PO X (some (.UnaryOp .USub (.Constant (.int 1) k1 p1) p2)) (tPart (tUn (rU fun i => .int (-i)) (tC (.int 1)))) := po_some (pe_un un_neg pe_int)
      refine wpAny_Slice (thn (po_none.run pins s1 σ H1 (fun o H2 => o = none ∧ H2 = H1) I1 ⟨rfl, rfl⟩) fun vl s2 ⟨l', H2, I2, pl, el, e2⟩ => ?_)
      subst el e2
      refine thn (po_none.run pins s2 σ H2 (fun o H3 => o = none ∧ H3 = H2) I2 ⟨rfl, rfl⟩) fun vu s3 ⟨u, H3, I3, pu, eu, e3⟩ => ?_
      subst eu e3
      refine thn (hst.run pins s3 σ H3 (fun o H4 => o = some (-1) ∧ H4 = H3) I3 ⟨1, rfl, -1, rfl, rfl, rfl⟩) fun vs s4 ⟨o, H4, I4, ps, eo, e4⟩ => ?_
      subst eo e4
      have I5 : Inv X pins σ H4 { s4 with heap := s4.heap.push { cls := .type "slice", data := .fields #[vl, vu, vs] } } := I4.kept (t' := s4.toks) fun b ob q => Heap.get?_push_of_some _ q
      obtain ⟨its, rr, ht, hz⟩ := I5.list (.inl (.inl hx))
      have hlen := rr.length
      show wpAny (model X.prog X.w) X.A (subscriptTail e (.Slice none none (some (.UnaryOp .USub (.Constant (.int 1) k1 p1) p2)) p3) (.ref p) (.ref s4.heap.objs.size)) (EP X pins σ Q) X.xe { s4 with heap := s4.heap.push { cls := .type "slice", data := .fields #[vl, vu, vs] } }
      refine tail_any (ops := [.ref p, .ref s4.heap.objs.size]) ht.isList.typeIs (PySem.slot_list_getitem.lookup) ?_ (by with_unfolding_all rfl)
      refine wpAny_getItem_list_slice ht.isList (Heap.IsSliceOf.new _ vl vu vs) pl pu ps (by decide) ?_ (by rw [List.size_toArray]; omega)
      rw [PySem.W.krv_pick]
      refine ⟨.ref _, _, I5.laid (t' := s4.toks) (o := .lst xs.reverse) (fun b ob q => Heap.get?_push_of_some _ q) (Nat.le_refl _) ?_, rfl, go1.newL a1.rs (I5.hok.fresh (Nat.le_refl _)) h2.reverse⟩
      exact ⟨by rw [List.length_reverse]; exact hz, _, 0, rr.reverse, Heap.get?_push_size _ rfl⟩
    | _ => exact go1.elim
theorem e_rev1 {k1 : Nat} {p1 p2 p3 : Pos} (w : CB T k X) (ha : DB T C X a a') : DE T C X (.Subscript a (.Slice none none (some (.UnaryOp .USub (.Constant (.int 1) k1 p1) p2)) p3) pos) (.rev a') := eqE (de_rev1 w.eK ha) fun r => by simp only [ev] <;> rfl
end
end Z
/-! ZZJ: zip of two lists, strict, its tuple still out; dict(zip(.., strict=True)). -/
namespace Z
open PySem PySem.Spec
open PyProof.Rows hiding St
open Sem (wp)
end Z
/-! ZZK: dict(zip(.., .., strict=True)). -/
namespace Z
open PySem PySem.Spec L2
open PyProof.Rows hiding St
end Z
/-! ZZL: dict(zip(.., .., strict=True)), its rule. -/
namespace Z
open PySem PySem.Spec L2
open PyProof.Rows hiding St
end Z
/-! ZZM: dict(zip(.., .., strict=True)), in short. -/
namespace Z
open PySem PySem.Spec L2
open PyProof.Rows hiding St
end Z
/-! ZZN: list.remove; the keys of a dict of tuples walked, the dict given up. -/
namespace Z
open PySem PySem.Spec L2
open PyProof.Rows hiding St
end Z
/-! ZZO: one's own list of numbers walked; it stays one's own. -/
namespace Z
open PySem PySem.Spec L2
open PyProof.Rows hiding St
end Z
/-! ZZP: list comprehensions of two clauses. -/
namespace Z
open PySem PySem.Spec L2
open PyProof.Rows hiding St
section
variable {X : Cx} {T : Tb} {W : WX}
theorem own_k {σ : St} {r1 r2 : En} {vs : List Nat} (hl : r2.length = r1.length) (hk : ∀ (j : Nat) (x x' : Sl), j ∉ vs → r1[j]? = some x → r2[j]? = some x' → kle x x') : ∀ b, Own (wipe σ vs) (wip r2 vs) b → Own (wipe σ vs) (wip r1 vs) b := fun b ⟨j, ⟨d, o⟩, s⟩ => by
  have z : j ∉ vs := fun z => by
    rcases o with o | o
    · exact nomatch wip_in r2 z o
    · exact nomatch wip_in r2 z o
  rw [wip_out r2 z] at o
  have hj : j < r1.length := by
    rw [← hl]
    rcases o with o | o <;> exact (List.getElem?_eq_some_iff.mp o).1
  have q := List.getElem?_eq_getElem hj
  refine ⟨j, ?_, s⟩
  rcases o with o | o
  · have w := hk j _ _ z q o
    cases c : r1[j] with
    | ow d' => exact ⟨d', .inl (by rw [wip_out r1 z, q, c])⟩
    | _ => rw [c] at w; exact False.elim w
  · have w := hk j _ _ z q o
    cases c : r1[j] with
    | io d' => exact ⟨d', .inr (by rw [wip_out r1 z, q, c])⟩
    | _ => rw [c] at w; exact False.elim w
theorem wip_wipS (r : En) (vs : List Nat) {us : List Nat} (h : ∀ i ∈ us, i ∈ vs) : wip (wip r us) vs = wip r vs := by
  apply List.ext_getElem?
  intro j
  by_cases z : j ∈ vs
  · by_cases hj : j < r.length
    · have h1 : j < (wip (wip r us) vs).length := by rw [wip_len, wip_len]; exact hj
      have h2 : j < (wip r vs).length := by rw [wip_len]; exact hj
      rw [List.getElem?_eq_getElem h1, List.getElem?_eq_getElem h2, wip_in _ z (List.getElem?_eq_getElem h1), wip_in _ z (List.getElem?_eq_getElem h2)]
    · rw [List.getElem?_eq_none (by rw [wip_len, wip_len]; omega), List.getElem?_eq_none (by rw [wip_len]; omega)]
  · rw [wip_out _ z, wip_out _ (fun w => z (h j w)), wip_out _ z]
/-- a wiped state is known by its length and what it keeps -/
theorem wipe_ext {σ τ : St} {vs : List Nat} (hl : τ.length = σ.length) (h : ∀ j, j ∉ vs → τ[j]? = σ[j]?) : wipe τ vs = wipe σ vs := by
  apply List.ext_getElem?
  intro j
  by_cases z : j ∈ vs
  · have both : ∀ τ : St, j < τ.length → (wipe τ vs)[j]? = some none := fun τ hj => by
      have h1 : j < (wipe τ vs).length := by rw [L2.wipe_length]; exact hj
      rw [List.getElem?_eq_getElem h1]
      cases c : (wipe τ vs)[j] with
      | none => rfl
      | some v =>
        have w : (wipe τ vs)[j]? = some (some v) := by rw [List.getElem?_eq_getElem h1, c]
        exact absurd z (L2.wipe_some w).2
    by_cases hj : j < σ.length
    · rw [both τ (by rw [hl]; exact hj), both σ hj]
    · rw [List.getElem?_eq_none (by rw [L2.wipe_length, hl]; omega), List.getElem?_eq_none (by rw [L2.wipe_length]; omega)]
  · rw [L2.wipe_out z, L2.wipe_out z, h j z]
theorem lc_end {σ : St} {P H P1 H1 P' H' : Hp} {r r1 r6 : En} {vs : List Nat} {ds : List Z.D} {D : Addr} {accV : List V} {Q : VK} (rs : RS T P H σ r) (a1 : Aft T σ P H r P1 H1 r1) (nD : H1 D = none) (of : ownFree r1 vs = true)
    (rs2 : RS T P' H' (wipe σ vs) (wip r6 vs)) (st2 : Stp (fun b => Own (wipe σ vs) (wip r1 vs) b ∨ b = D) P1 (upd H1 D (.lst [])) P' H') (len2 : r6.length = r1.length) (kd2 : ∀ (j : Nat) (x x' : Sl), j ∉ vs → r1[j]? = some x → r6[j]? = some x' → kle x x')
    (hD : H' D = some (.lst accV)) (hacc : Reps T P' ds accV) (pD : P' D = none) (go2 : Go T W (relV T) σ P H r (thawL r ds (back r1 r6 vs)) Q) : Q (.ref D) H' := by
  have rs1 := a1.rs
  have nP : P1 D = none := rs1.sub.free nD
  have nO : ¬ Own σ r1 D := fun o => by
    obtain ⟨x, e⟩ := rs1.ownsome o
    rw [nD] at e; cases e
  have ownK : ∀ {r2 : En}, r2.length = r1.length → (∀ (j : Nat) (x x' : Sl), j ∉ vs → r1[j]? = some x → r2[j]? = some x' → kle x x') → ∀ b, Own (wipe σ vs) (wip r2 vs) b → Own (wipe σ vs) (wip r1 vs) b := own_k
  -- back
  have get : ∀ (j : Nat) (x : Sl), (back r1 r6 vs)[j]? = some x → (j ∈ vs ∧ r1[j]? = some x) ∨ (j ∉ vs ∧ (wip r6 vs)[j]? = some x) := fun j x e => by
    by_cases z : j ∈ vs
    · have hj : j < r1.length := by rw [← len2, ← back_len r1 r6 vs]; exact (List.getElem?_eq_some_iff.mp e).1
      have w := back_in r1 r6 z e
      rw [List.getD_eq_getElem?_getD, List.getElem?_eq_getElem hj] at w
      exact .inl ⟨z, by rw [List.getElem?_eq_getElem hj, w]; rfl⟩
    · rw [back_out r1 r6 z] at e
      exact .inr ⟨z, by rw [wip_out r6 z]; exact e⟩
  have nio : ∀ j d, j ∈ vs → r1[j]? ≠ some (Sl.io d) := fun j d h e => by
    have z := List.all_eq_true.mp of j h
    rw [e] at z
    cases z
  have so : ∀ j, j ∉ vs → (wipe σ vs)[j]? = σ[j]? := fun j z => L2.wipe_out z
  have hid : ∀ j a, j ∈ vs → OwnAt r1 j → σ[j]? = some (some (.ref a)) → ¬ Own (wipe σ vs) (wip r1 vs) a ∧ a ≠ D := fun j a z o s => by
    refine ⟨fun ⟨k, ⟨d, w⟩, sk⟩ => ?_, fun e => nO (by rw [← e]; exact ⟨j, o, s⟩)⟩
    have zk : k ∉ vs := fun y => by
      rcases w with w | w
      · exact nomatch wip_in r1 y w
      · exact nomatch wip_in r1 y w
    rw [wip_out r1 zk] at w
    rw [so k zk] at sk
    have := rs1.dis j k a o ⟨d, w⟩ s sk
    exact zk (this ▸ z)
  have hold : ∀ j a, j ∈ vs → OwnAt r1 j → σ[j]? = some (some (.ref a)) → H' a = H1 a ∧ P' a = none := fun j a z o s => by
    obtain ⟨h1, h2⟩ := hid j a z o s
    have o1 : Own σ r1 a := ⟨j, o, s⟩
    obtain ⟨x, hx⟩ := rs1.ownsome o1
    have n1 : ¬ (Own (wipe σ vs) (wip r1 vs) a ∨ a = D) := fun w => w.elim h1 h2
    refine ⟨by rw [hx]; exact st2.fr a x (by rw [upd_ne h2]; exact hx) n1, ?_⟩
    cases c : P' a with
    | none => rfl
    | some y =>
      rcases st2.nw a (by rw [c]; intro w; cases w) with w | w | w
      · exact absurd (rs1.ownfree o1) w
      · exact absurd (fun o e => w o (by rw [upd_ne h2]; exact e)) (rs1.ownNT o1)
      · exact absurd w n1
  have ownB : ∀ (j : Nat), OwnAt (back r1 r6 vs) j → (j ∈ vs ∧ OwnAt r1 j) ∨ (j ∉ vs ∧ OwnAt (wip r6 vs) j) := fun j ⟨d, o⟩ => by
    rcases o with o | o
    · rcases get j _ o with ⟨z, e⟩ | ⟨z, e⟩
      · exact .inl ⟨z, d, .inl e⟩
      · exact .inr ⟨z, d, .inl e⟩
    · rcases get j _ o with ⟨z, e⟩ | ⟨z, e⟩
      · exact .inl ⟨z, d, .inr e⟩
      · exact .inr ⟨z, d, .inr e⟩
  have ownB1 : ∀ j, OwnAt (back r1 r6 vs) j → OwnAt r1 j := fun j o => by
    rcases ownB j o with ⟨z, o⟩ | ⟨z, ⟨d, o⟩⟩
    · exact o
    · rw [wip_out r6 z] at o
      have hj : j < r1.length := by
        rw [← len2]
        rcases o with o | o <;> exact (List.getElem?_eq_some_iff.mp o).1
      have q := List.getElem?_eq_getElem hj
      rcases o with o | o
      · have w := kd2 j _ _ z q o
        cases c : r1[j] with
        | ow d' => exact ⟨d', .inl (by rw [q, c])⟩
        | _ => rw [c] at w; exact False.elim w
      · have w := kd2 j _ _ z q o
        cases c : r1[j] with
        | io d' => exact ⟨d', .inr (by rw [q, c])⟩
        | _ => rw [c] at w; exact False.elim w
  have aft : Aft T σ P1 H1 r1 P' H' (back r1 r6 vs) := by
    refine ⟨⟨rs2.sub, by rw [back_len, len2]; exact rs1.len, fun j d e => ?_, fun j d e => ?_, fun j k a o1 o2 s1 s2 => ?_⟩, ⟨st2.pp, fun b o e n => ?_, fun b e => ?_, fun b e => ?_⟩, ⟨by rw [back_len, len2], fun j x x' h1 h2 => ?_⟩⟩
    · rcases get j _ e with ⟨z, e⟩ | ⟨z, e⟩
      · obtain ⟨v, e1, e2⟩ := rs1.sh j d e
        exact ⟨v, e1, Rep.ext st2.pp _ _ e2⟩
      · obtain ⟨v, e1, e2⟩ := rs2.sh j d e
        exact ⟨v, by rw [← so j z]; exact e1, e2⟩
    · have e' : (j ∈ vs ∧ (r1[j]? = some (Sl.ow d) ∨ r1[j]? = some (Sl.io d))) ∨ (j ∉ vs ∧ ((wip r6 vs)[j]? = some (Sl.ow d) ∨ (wip r6 vs)[j]? = some (Sl.io d))) := by
        rcases e with e | e
        · rcases get j _ e with ⟨z, e⟩ | ⟨z, e⟩
          · exact .inl ⟨z, .inl e⟩
          · exact .inr ⟨z, .inl e⟩
        · rcases get j _ e with ⟨z, e⟩ | ⟨z, e⟩
          · exact .inl ⟨z, .inr e⟩
          · exact .inr ⟨z, .inr e⟩
      rcases e' with ⟨z, e⟩ | ⟨z, e⟩
      · obtain ⟨a, e1, e2, e3⟩ := rs1.own j d e
        obtain ⟨h1, h2⟩ := hold j a z ⟨d, e⟩ e1
        exact ⟨a, e1, h2, e3.move st2.pp h1⟩
      · obtain ⟨a, e1, e2, e3⟩ := rs2.own j d e
        exact ⟨a, by rw [← so j z]; exact e1, e2, e3⟩
    · exact rs1.dis j k a (ownB1 j o1) (ownB1 k o2) s1 s2
    · have nb : b ≠ D := fun z => by rw [z, nD] at e; cases e
      exact st2.fr b o (by rw [upd_ne nb]; exact e) fun w => w.elim (fun q => n (own_wip vs q)) nb
    · have := st2.dm b e
      by_cases z : b = D
      · subst z; exact nD
      · rw [upd_ne z] at this; exact this
    · rcases st2.nw b e with w | w | w | w
      · exact .inl w
      · by_cases z : b = D
        · subst z; exact .inr (.inl (.of nD))
        · exact .inr (.inl fun o e => w o (by rw [upd_ne z]; exact e))
      · exact .inr (.inr (own_wip vs w))
      · subst w; exact absurd pD e
    · rcases get j _ h2 with ⟨z, e⟩ | ⟨z, e⟩
      · rw [h1] at e; cases e; exact kle.refl x
      · rw [wip_out r6 z] at e
        exact kd2 j x x' z h1 e
  have aft0 : Aft T σ P H r P' H' (back r1 r6 vs) := a1.trans aft
  have rv : RV T H P' H' (.ow (.lst ds)) (.ref D) := ⟨D, rfl, pD, ⟨accV, hD, hacc⟩, a1.st.dm D nD⟩
  unfold thawL at go2
  by_cases fl : ds.all flat = true
  · rw [if_pos fl] at go2
    cases cw : thw r (back r1 r6 vs) with
    | none => rw [cw] at go2; exact go2 (.ref D) P' H' aft0 rv
    | some r2 =>
      rw [cw] at go2
      refine go2 (.ref D) P H' (thw_ok rs aft0 cw) ⟨D, rfl, ?_, ⟨accV, hD, flats_rep fl hacc⟩, a1.st.dm D nD⟩
      cases z : P D with
      | none => rfl
      | some w => rw [aft0.st.pp _ _ z] at pD; cases pD
  · rw [if_neg fl] at go2
    exact go2 (.ref D) P' H' aft0 rv
/-- in the midst of a turn: what is made lies at A -/
structure Mid (T : Tb) (O : Addr → Prop) (P0 H0 : Hp) (σ : St) (vs : List Nat) (rb : En) (A : Addr) (acc : List Z.D) (accV : List V) (σ2 : St) (r : En) (P H : Hp) : Prop where
  ws : wipe σ2 vs = wipe σ vs
  rs : RS T P H σ2 r
  st : Stp O P0 H0 P H
  len : r.length = rb.length
  kd : ∀ (j : Nat) (x x' : Sl), j ∉ vs → rb[j]? = some x → r[j]? = some x' → kle x x'
  hD : H A = some (.lst accV)
  ha : Reps T P acc accV
  pD : P A = none
  no : ¬ Own σ2 r A
  ow : ∀ c, Own σ2 r c → O c ∨ H0 c = none
theorem free_keepS {O : Addr → Prop} {P H P' H' : Hp} {A : Addr} {xs : List V} (s : Stp O P H P' H') (p : P A = none) (h : H A = some (.lst xs)) (n : ¬ O A) : P' A = none := by
  cases c : P' A with
  | none => rfl
  | some o =>
    rcases s.nw A (by rw [c]; intro z; cases z) with z | z | z
    · exact absurd p z
    · exact absurd z (nt_lst h)
    · exact absurd z n
section
variable {O : Addr → Prop} {P0 H0 P H P5 H5 : Hp} {σ σ2 : St} {vs : List Nat} {rb r r5 : En} {A : Addr} {acc : List Z.D} {accV : List V}
theorem Mid.after (m : Mid T O P0 H0 σ vs rb A acc accV σ2 r P H) (a : Aft T σ2 P H r P5 H5 r5) : Mid T O P0 H0 σ vs rb A acc accV σ2 r5 P5 H5 where
  ws := m.ws
  rs := a.rs
  st := m.st.trans a.st m.ow
  len := a.kd.1.trans m.len
  kd := fun j x x' z h1 h2 => by
    have hj : j < r.length := by rw [m.len]; exact (List.getElem?_eq_some_iff.mp h1).1
    have q := List.getElem?_eq_getElem hj
    exact (m.kd j x _ z h1 q).trans (a.kd.2 j _ x' q h2)
  hD := a.st.fr _ _ m.hD m.no
  ha := Reps.ext a.st.pp _ _ m.ha
  pD := free_keepS a.st m.pD m.hD m.no
  no := fun o => m.no (a.kd.owns o)
  ow := fun c h => m.ow c (a.kd.owns h)
theorem Mid.wip (m : Mid T O P0 H0 σ vs rb A acc accV σ2 r P H) : RS T P H (wipe σ vs) (wip r vs) := by
  rw [← m.ws]
  exact m.rs.wip vs
/-- between turns -/
structure Btw (T : Tb) (O : Addr → Prop) (P0 H0 : Hp) (σ : St) (vs : List Nat) (rb : En) (A : Addr) (acc : List Z.D) (r : En) (P H : Hp) (accV : List V) : Prop where
  rs : RS T P H (wipe σ vs) (Z.wip r vs)
  st : Stp O P0 H0 P H
  len : r.length = rb.length
  kd : ∀ (j : Nat) (x x' : Sl), j ∉ vs → rb[j]? = some x → r[j]? = some x' → kle x x'
  hD : H A = some (.lst accV)
  ha : Reps T P acc accV
  pD : P A = none
theorem Mid.btw (m : Mid T O P0 H0 σ vs rb A acc accV σ2 r P H) : Btw T O P0 H0 σ vs rb A acc r P H accV := ⟨m.wip, m.st, m.len, m.kd, m.hD, m.ha, m.pD⟩
/-- one item is added -/
theorem Mid.put (m : Mid T O P0 H0 σ vs rb A acc accV σ2 r P H) (oA : O A) (nb : ¬ Own (wipe σ vs) (Z.wip rb vs) A) {d : Z.D} {u : V} (rp : Rep T P d u) : Btw T O P0 H0 σ vs rb A (acc ++ [d]) r P (upd H A (.lst (accV ++ [u]))) (accV ++ [u]) where
  rs := m.wip.updD m.pD fun o => nb (own_k m.len m.kd A o)
  st := ⟨m.st.pp, fun b o e n => by
    have nb : b ≠ A := fun z => n (by rw [z]; exact oA)
    rw [upd_ne nb]
    exact m.st.fr b o e n, fun b e => by
    by_cases z : b = A
    · subst z; rw [upd_same] at e; cases e
    · rw [upd_ne z] at e; exact m.st.dm b e, m.st.nw⟩
  len := m.len
  kd := m.kd
  hD := upd_same
  ha := m.ha.append (.cons rp .nil)
  pD := m.pD
end
/-- an item stored, the tests asked -/
theorem lc_turn {O : Addr → Prop} {P0 H0 P' H' H2 : Hp} {σ : St} {rb r2 r3 r4 : En} {vs : List Nat} {A : Addr} {acc : List Z.D} {accV : List V} {t : Tg} {fc : En → R Bool} {k : Bool} {d : Z.D} {x : V} {K : St → Hp → Prop} {N : Hp → Prop}
    (b : Btw T O P0 H0 σ vs rb A acc r2 P' H' accV) (hO : ∀ c, Own (wipe σ vs) (wip rb vs) c → O c) (nb : ¬ Own (wipe σ vs) (wip rb vs) A) (tin : ∀ j, j ∈ tgS t → j ∈ vs)
    (hyl : ∃ Pc, Aft T (wipe σ vs) P' H' (wip r2 vs) Pc H2 (wip r2 vs) ∧ Rep T Pc d x) (hb : bindT t d (wip r2 vs) = some r3) (hfc : fc r3 = .ok k r4)
    (cont : ∀ σ2 P4 H4, Mid T O P0 H0 σ vs rb A acc accV σ2 r4 P4 H4 → if k = true then K σ2 H4 else N H4) :
    gD T t x (wipe σ vs) H2 fun σ2 H2 => wipe σ2 vs = wipe σ vs ∧ tK T WF fc σ2 H2 fun b H3 => if b = true then K σ2 H3 else N H3 := by
  obtain ⟨Pc, ac, rx⟩ := hyl
  have nOw : ¬ Own (wipe σ vs) (wip r2 vs) A := fun o => nb (own_k b.len b.kd A o)
  have hD2 : H2 A = some (.lst accV) := ac.st.fr _ _ b.hD nOw
  have pD2 : Pc A = none := free_keepS ac.st b.pD b.hD nOw
  refine ⟨Pc, wip r2 vs, d, r3, ac.rs, rx, hb, fun σ2 aS ls os => ?_⟩
  have ws : wipe σ2 vs = wipe σ vs := by
    have e1 : wipe σ2 vs = wipe (wipe σ vs) vs := wipe_ext ls fun j z => os j fun w => z (tin j w)
    rw [e1]
    exact wipe_ext (by rw [L2.wipe_length]) fun j z => L2.wipe_out z
  refine ⟨ws, Pc, r3, aS.rs, ?_⟩
  rw [hfc]
  intro k' P4 H4 a4 ek
  subst ek
  have bo := bindT_out t d (wip r2 vs) r3 hb
  have no3 : ¬ Own σ2 r3 A := fun o => by
    rcases aS.ow A o with z | z
    · exact nOw z
    · rw [hD2] at z; cases z
  have m3 : Mid T O P0 H0 σ vs rb A acc accV σ2 r3 Pc H2 := by
    refine ⟨ws, aS.rs, b.st.trans ac.st fun c h => .inl (hO c (own_k b.len b.kd c h)), ?_, fun j x x' z h1 h2 => ?_, hD2, Reps.ext ac.st.pp _ _ b.ha, pD2, no3, fun c h => ?_⟩
    · rw [bo.1, wip_len, b.len]
    · have hj : j < r2.length := by rw [b.len]; exact (List.getElem?_eq_some_iff.mp h1).1
      have q2 := List.getElem?_eq_getElem hj
      have q3 : r3[j]? = some r2[j] := by rw [bo.2 j (fun w => z (tin j w)), wip_out r2 z, q2]
      rw [q3] at h2
      cases h2
      exact b.kd j x _ z h1 q2
    · rcases aS.ow c h with z | z
      · exact .inl (hO c (own_k b.len b.kd c z))
      · exact .inr (b.st.dm c (ac.st.dm c z))
  exact cont σ2 P4 H4 (m3.after a4)
/-- an item's place -/
theorem wk_item {σ : St} {P1 P' H' H2 : Hp} {r : En} {J : It} {l : List Z.D} {i : Nat} {x : V} (wk : Wk T P1 J l) (hlt : i < l.length) (pp : Ext P1 P') (rs : RS T P' H' σ r) (y : J.yld i H' x H2) : ∃ Pc, Aft T σ P' H' r Pc H2 r ∧ Rep T Pc l[i] x := by
  rcases wk.yld i l[i] H' x H2 P' (List.getElem?_eq_getElem hlt) pp rs.sub y with ⟨rfl, rp⟩ | ⟨p, xs, es, np, rfl, rfl, e2, rp⟩
  · exact ⟨P', .refl rs, rp⟩
  · refine ⟨upd P' p (.tup xs), Aft.laid rs np, ?_⟩
    rw [e2]
    simp only [Rep]
    exact ⟨p, xs, rfl, upd_same, Reps.ext (upd_ext (rs.sub.free np)) _ _ rp⟩
theorem lcA_noexc (f : D → List D → En → R (List D)) : ∀ (l : List D) (acc : List D) (r : En) (c : Nat) (v : D) (r' : En), lcA f l acc r ≠ .exc c v r'
  | [], acc, r, c, v, r', e => by simp [lcA] at e
  | x :: xs, acc, r, c, v, r', e => by
    simp only [lcA] at e
    cases h : (f x acc r).nox with
    | ok o r1 =>
      rw [h] at e
      simp only [R.bind_ok] at e
      exact lcA_noexc f xs o r1 c v r' e
    | exc c' v' r1 => exact nox_noexc _ _ _ _ h
    | bad => rw [h] at e; cases e
theorem lcA_inv {f : D → List D → En → R (List D)} {x : D} {xs acc : List D} {r r6 : En} {ds : List D} (h : lcA f (x :: xs) acc r = .ok ds r6) : ∃ acc1 r1, f x acc r = .ok acc1 r1 ∧ lcA f xs acc1 r1 = .ok ds r6 := by
  simp only [lcA] at h
  cases e : (f x acc r).nox with
  | ok o r1 =>
    rw [e] at h
    simp only [R.bind_ok] at h
    exact ⟨o, r1, nox_ok_inv e, h⟩
  | exc c v r1 => rw [e] at h; cases h
  | bad => rw [e] at h; cases h
/-- an outer turn -/
def lcG (t : Tg) (fc : En → R Bool) (fi1 : En → R (List D)) (t1 : Tg) (fc1 : En → R Bool) (fe : En → R Val) (vs vs1 : List Nat) (x : D) (acc : List D) (r2 : En) : R (List D) :=
  (R.of (bindT t x (wip r2 vs)) r2).bind fun r3 _ => (fc r3).bind fun k r4 => if k = true then (fi1 r4).bind fun l1 r5 => lcL (lcF t1 fc1 fe vs1) l1 acc r5 else .ok acc r4
theorem lcG_inv {t : Tg} {fc : En → R Bool} {fi1 : En → R (List D)} {t1 : Tg} {fc1 : En → R Bool} {fe : En → R Val} {vs vs1 : List Nat} {x : D} {acc acc1 : List D} {r2 r6 : En} (h : lcG t fc fi1 t1 fc1 fe vs vs1 x acc r2 = .ok acc1 r6) :
    ∃ r3 k r4, bindT t x (wip r2 vs) = some r3 ∧ fc r3 = .ok k r4 ∧ ((k = false ∧ acc1 = acc ∧ r6 = r4) ∨ (k = true ∧ ∃ l1 r5, fi1 r4 = .ok l1 r5 ∧ lcL (lcF t1 fc1 fe vs1) l1 acc r5 = .ok acc1 r6)) := by
  unfold lcG at h
  cases c : bindT t x (wip r2 vs) with
  | none => rw [c] at h; cases h
  | some r3 =>
    rw [c] at h
    simp only [R.of_some, R.bind_ok] at h
    cases c2 : fc r3 with
    | ok k r4 =>
      rw [c2] at h
      simp only [R.bind_ok] at h
      refine ⟨r3, k, r4, rfl, c2, ?_⟩
      cases k with
      | false =>
        simp only [Bool.false_eq_true, if_false] at h
        cases h
        exact .inl ⟨rfl, rfl, rfl⟩
      | true =>
        simp only [if_true] at h
        cases c3 : fi1 r4 with
        | ok l1 r5 =>
          rw [c3] at h
          simp only [R.bind_ok] at h
          exact .inr ⟨rfl, l1, r5, rfl, h⟩
        | exc _ _ _ => rw [c3] at h; cases h
        | bad => rw [c3] at h; cases h
    | exc _ _ _ => rw [c2] at h; cases h
    | bad => rw [c2] at h; cases h
/-- the inner loop of a turn -/
theorem lc_inner {O : Addr → Prop} {P0 H0 P5 H5 : Hp} {σ σ2 : St} {vs vs1 : List Nat} {rb r5 r6 : En} {A : Addr} {acc ds1 : List Z.D} {accV : List V} {J1 : It} {l1 : List Z.D} {t1 : Tg} {fc1 : En → R Bool} {fe : En → R Val} {Nx : Hp → Prop}
    (m5 : Mid T O P0 H0 σ vs rb A acc accV σ2 r5 P5 H5) (wk1 : Wk T P5 J1 l1) (hl : lcL (lcF t1 fc1 fe vs1) l1 acc r5 = .ok ds1 r6) (tin1 : ∀ j, j ∈ tgS t1 → j ∈ vs1) (sub : ∀ i ∈ vs1, i ∈ vs) (oA : O A)
    (hNx : ∀ P' H' accV', Btw T O P0 H0 σ vs rb A ds1 r6 P' H' accV' → Nx H') :
    ∃ W1 : Nat → Nat → Hp → Prop, (∃ m, W1 0 m H5) ∧ ∀ j k H, W1 j k H →
      (J1.stop j H ∧ Nx H) ∨ (J1.go j H ∧ ∃ Nx1 : Hp → Prop, (∀ H', Nx1 H' → ∃ k', k' < k ∧ W1 (j + 1) k' H') ∧ ∀ x H', J1.yld j H x H' → gD T t1 x (wipe σ2 vs1) H' fun σ3 H5 => wipe σ3 vs1 = wipe σ2 vs1 ∧ tK T WF fc1 σ3 H5 fun b H6 =>
        if b = true then tE T WF fe σ3 H6 fun y H7 => ∃ acc, H7 A = some (.lst acc) ∧ acc.length < sizeLine ∧ Nx1 (upd H7 A (.lst (acc ++ [y]))) else Nx1 H6) := by
  have nb1 : ¬ Own (wipe σ2 vs1) (wip r5 vs1) A := fun o => m5.no (own_wip vs1 o)
  let Pv : Nat → Hp → Prop := fun j H' => ∃ r acc accV P', lcL (lcF t1 fc1 fe vs1) (l1.drop j) acc r = .ok ds1 r6 ∧ Btw T (fun c => Own (wipe σ2 vs1) (wip r5 vs1) c ∨ c = A) P5 H5 σ2 vs1 r5 A acc r P' H' accV
  refine ⟨fun j k H' => k = l1.length - j ∧ j ≤ l1.length ∧ Pv j H', ⟨l1.length, by simp, Nat.zero_le _, r5, acc, accV, P5, by rw [List.drop_zero]; exact hl, ⟨m5.rs.wip vs1, .refl, rfl, fun j x x' z h1 h2 => ?_, m5.hD, m5.ha, m5.pD⟩⟩, ?_⟩
  · rw [h1] at h2
    cases h2
    exact kle.refl x
  · rintro j k H' ⟨rfl, hj, r, acc, accV, P', heq, b⟩
    by_cases hlt : j < l1.length
    · refine .inr ⟨wk1.go j H' hlt (b.st.pp.trans b.rs.sub), Pv (j + 1), fun H2 pv => ⟨l1.length - (j + 1), by omega, rfl, hlt, pv⟩, fun x H2 y => ?_⟩
      rw [List.drop_eq_getElem_cons hlt] at heq
      obtain ⟨o, r7, hf, hrest⟩ := lcL_inv heq
      obtain ⟨r3, kk, r4, hb, hfc, hfe⟩ := lcF_inv hf
      refine lc_turn b (fun c h => .inl h) nb1 tin1 (wk_item wk1 hlt b.st.pp b.rs y) hb hfc fun σ3 P4 H4 m => ?_
      rcases hfe with ⟨rfl, rfl, rfl⟩ | ⟨rfl, v, hfe, rfl⟩
      · rw [if_neg Bool.false_ne_true]
        rcases hrest with ⟨_, hr⟩ | ⟨_, z, _⟩
        · exact ⟨r7, acc, accV, P4, hr, m.btw⟩
        · cases z
      · rw [if_pos rfl]
        refine ⟨P4, r4, m.rs, ?_⟩
        rw [hfe]
        intro u P6 H6 a6 rv
        obtain ⟨P7, a7, ex7, rp⟩ := RV.settle m.rs a6 rv
        rcases hrest with ⟨z, _⟩ | ⟨y', ey, hlen, hr⟩
        · cases z
        cases ey
        have m7 := m.after a7
        exact ⟨accV, m7.hD, by rw [b.ha.length, ← LINE_eq]; exact hlen, r7, acc ++ [v.d], accV ++ [u], P7, hr, m7.put (.inr rfl) nb1 rp⟩
    · have ej : j = l1.length := by omega
      subst ej
      refine .inl ⟨wk1.stop H' (b.st.pp.trans b.rs.sub), ?_⟩
      rw [List.drop_length] at heq
      simp only [lcL] at heq
      obtain ⟨rfl, rfl⟩ : ds1 = acc ∧ r6 = r := by injection heq with h1 h2; exact ⟨h1.symm, h2.symm⟩
      refine hNx P' H' accV ⟨?_, m5.st.trans b.st (fun c h => h.elim (fun q => m5.ow c (own_wip vs1 q)) fun e => .inl (by rw [e]; exact oA)), b.len.trans m5.len, fun i x x' z h1 h2 => ?_, b.hD, b.ha, b.pD⟩
      · have e := b.rs.wip vs
        rw [wip_wipS r6 vs sub, show wipe (wipe σ2 vs1) vs = wipe σ vs from (wipe_ext (by rw [L2.wipe_length]) fun j z => L2.wipe_out fun w => z (sub j w)).trans m5.ws] at e
        exact e
      · have hi : i < r5.length := by rw [m5.len]; exact (List.getElem?_eq_some_iff.mp h1).1
        have q := List.getElem?_eq_getElem hi
        exact (m5.kd i x _ z h1 q).trans (b.kd i _ x' (fun w => z (sub i w)) q h2)
theorem de_lc20 {x : R (List D)} {t t1 : Tg} {fc fc1 : En → R Bool} {fi1 : En → R (List D)} {fe : En → R Val} (vs vs1 : List Nat) (σ : St) (H : Hp) (Q : VK) (P : Hp) (r : En) (rs : RS T P H σ r)
    (go : Go T W (relV T) σ P H r (x.bind fun l r1 => if ownFree r1 vs && (tgS t).all vs.contains && ((tgS t1).all vs1.contains && vs1.all vs.contains) then
      (lcA (lcG t fc fi1 t1 fc1 fe vs vs1) l [] (wip r1 vs)).bind fun ds r6 => thawL r ds (back r1 r6 vs) else .bad) Q) :
    Go T W (relI T) σ P H r x fun J H1 => tLc2 (fun _ _ R => R J H1) (gD T t) (tK T WF fc) (tI T WF fi1) (gD T t1) (tK T WF fc1) (tE T WF fe) vs vs1 σ H Q := by
  have gox := go
  refine (Go.bind (anti_V T) go).mono fun J H1 ⟨P1, r1, l, a1, wk, e1, go1⟩ => ?_
  unfold tLc2
  by_cases cond : (ownFree r1 vs && (tgS t).all vs.contains && ((tgS t1).all vs1.contains && vs1.all vs.contains)) = true
  rotate_left
  · rw [if_neg cond] at go1; exact go1.elim
  rw [if_pos cond] at go1
  have condx := cond
  rw [Bool.and_eq_true, Bool.and_eq_true, Bool.and_eq_true] at cond
  obtain ⟨⟨of, tin⟩, tin1, sub⟩ := cond
  have inl : ∀ {a b : List Nat}, a.all b.contains = true → ∀ j, j ∈ a → j ∈ b := fun h j m => by
    have z := List.all_eq_true.mp h j m
    simpa using z
  intro D nD
  have hok : ∃ ds r6, lcA (lcG t fc fi1 t1 fc1 fe vs vs1) l [] (wip r1 vs) = .ok ds r6 := by
    cases c : lcA (lcG t fc fi1 t1 fc1 fe vs vs1) l [] (wip r1 vs) with
    | ok ds r6 => exact ⟨ds, r6, rfl⟩
    | exc c' v r' => exact absurd c (lcA_noexc _ _ _ _ _ _ _)
    | bad => rw [c] at go1; exact go1.elim
  obtain ⟨ds, r6, hok⟩ := hok
  have rs1 := a1.rs
  have nP : P1 D = none := rs1.sub.free nD
  have nO : ¬ Own σ r1 D := fun o => by
    obtain ⟨x, e⟩ := rs1.ownsome o
    rw [nD] at e; cases e
  have nb : ¬ Own (wipe σ vs) (wip r1 vs) D := fun o => nO (own_wip vs o)
  let Pv : Nat → Hp → Prop := fun i H' => ∃ r2 acc accV P', lcA (lcG t fc fi1 t1 fc1 fe vs vs1) (l.drop i) acc r2 = .ok ds r6 ∧ Btw T (fun b => Own (wipe σ vs) (wip r1 vs) b ∨ b = D) P1 (upd H1 D (.lst [])) σ vs r1 D acc r2 P' H' accV
  refine ⟨fun i m H' => m = l.length - i ∧ i ≤ l.length ∧ Pv i H', ⟨l.length, by simp, Nat.zero_le _, wip r1 vs, [], [], P1, by rw [List.drop_zero]; exact hok, ⟨?_, .refl, wip_len r1 vs, fun j x x' z h1 h2 => ?_, upd_same, .nil, nP⟩⟩, ?_⟩
  · rw [wip_wipS r1 vs fun _ h => h]
    exact (Aft.laidO (o := .lst []) rs1 nD).rs.wip vs
  · rw [wip_out r1 z, h1] at h2
    cases h2
    exact kle.refl x
  · rintro i m H' ⟨rfl, hi, r2, acc, accV, P', heq, b⟩
    by_cases hlt : i < l.length
    · refine .inr ⟨wk.go i H' hlt (b.st.pp.trans b.rs.sub), Pv (i + 1), fun H2 pv => ⟨l.length - (i + 1), by omega, rfl, hlt, pv⟩, fun x H2 y => ?_⟩
      rw [List.drop_eq_getElem_cons hlt] at heq
      obtain ⟨acc1, r7, hf, hrest⟩ := lcA_inv heq
      obtain ⟨r3, kk, r4, hb, hfc, hfe⟩ := lcG_inv hf
      refine lc_turn b (fun c h => .inl h) nb (inl tin) (wk_item wk hlt b.st.pp b.rs y) hb hfc fun σ2 P4 H4 m => ?_
      rcases hfe with ⟨rfl, rfl, rfl⟩ | ⟨rfl, l1, r5, hfi, hl⟩
      · rw [if_neg Bool.false_ne_true]
        exact ⟨r7, acc1, accV, P4, hrest, m.btw⟩
      · rw [if_pos rfl]
        refine ⟨P4, r4, m.rs, ?_⟩
        rw [hfi]
        intro J1 P5 H5 a5 wk1
        exact lc_inner (m.after a5) wk1 hl (inl tin1) (inl sub) (.inr rfl) fun P' H' accV' b' => ⟨r7, acc1, accV', P', hrest, b'⟩
    · have ei : i = l.length := by omega
      subst ei
      refine .inl ⟨wk.stop H' (b.st.pp.trans b.rs.sub), ?_⟩
      rw [List.drop_length] at heq
      simp only [lcA] at heq
      obtain ⟨rfl, rfl⟩ : ds = acc ∧ r6 = r2 := by injection heq with h1 h2; exact ⟨h1.symm, h2.symm⟩
      have go2 : Go T W (relV T) σ P H r (thawL r ds (back r1 r6 vs)) Q := by
        rw [e1, R.bind_ok, if_pos condx, hok, R.bind_ok] at gox
        exact gox
      exact lc_end rs a1 nD of b.rs b.st b.len b.kd b.hD b.ha b.pD go2
end
section
variable {T : Tb} {C : Cf} {X : Cx} {k : Nat} {pos : Pos}
/-- [.. for .. for ..] -/
theorem e_lc2 {elt tg iter tg1 iter1 : PySem.Expr} {ifs ifs1 : List PySem.Expr} {scope : Scope} {it it1 : I} {t t1 : Tg} {ts ts1 : List Z.T} {e' : E} (w : CB T k X) (own : List (Str × Nat)) (own1 : List Nat) (hi : DI T C X tg iter it)
    (hg : ∀ (s : Shared) (H : Hp) (CC : Addr) (cl : List (Str × Addr)) (fp : List Addr), DG T (X.blk s H scope (compEnvC scope cl CC X.env) fp) tg t)
    (ht : ∀ (s : Shared) (H : Hp) (CC : Addr) (cl : List (Str × Addr)) (fp : List Addr), DC T C (X.blk s H scope (compEnvC scope cl CC X.env) fp) ifs ts)
    (hi1 : ∀ (s : Shared) (H : Hp) (CC : Addr) (cl : List (Str × Addr)) (fp : List Addr), DI T C (X.blk s H scope (compEnvC scope cl CC X.env) fp) tg1 iter1 it1)
    (hg1 : ∀ (s : Shared) (H : Hp) (CC : Addr) (cl : List (Str × Addr)) (fp : List Addr), DG T (X.blk s H scope (compEnvC scope cl CC X.env) fp) tg1 t1)
    (ht1 : ∀ (s : Shared) (H : Hp) (CC : Addr) (cl : List (Str × Addr)) (fp : List Addr), DC T C (X.blk s H scope (compEnvC scope cl CC X.env) fp) ifs1 ts1)
    (he : ∀ (s : Shared) (H : Hp) (CC : Addr) (cl : List (Str × Addr)) (fp : List Addr), DE T C (X.blk s H scope (compEnvC scope cl CC X.env) fp) elt e')
    (ok : BlkOk X.N X.env.scope scope own) (hv : ∀ i ∈ own1, i ∈ own.map (·.2) := by decide) (hs : ∀ x, foldedSetIterable iter X.env x = pure x := by intro _; rfl) (hs1 : ∀ env x, foldedSetIterable iter1 env x = pure x := by intro _ _; rfl) :
    DE T C X (.ListComp elt [⟨tg, iter, ifs, 0⟩, ⟨tg1, iter1, ifs1, 0⟩] scope pos) (.lc2 e' t it ts t1 it1 ts1 (own.map (·.2)) own1) :=
  peImp (pe_lc2 w.calm w.nd hi ok hv hg ht hi1 hg1 ht1 he hs hs1) fun σ H Q ⟨P, r, rs, go⟩ => ⟨P, r, rs, de_lc20 (own.map (·.2)) own1 σ H Q P r rs (by
    rw [show ev C (.lc2 e' t it ts t1 it1 ts1 (own.map (·.2)) own1) r = (evI C it r).bind fun l r1 => if ownFree r1 (own.map (·.2)) && (tgS t).all (own.map (·.2)).contains && ((tgS t1).all own1.contains && own1.all (own.map (·.2)).contains) then
      (lcA (lcG t (evC C ts) (evI C it1) t1 (evC C ts1) (ev C e') (own.map (·.2)) own1) l [] (wip r1 (own.map (·.2)))).bind fun ds r6 => thawL r ds (back r1 r6 (own.map (·.2))) else .bad from by simp only [ev] <;> rfl] at go
    exact go)⟩
end
end Z
/-! ZZQ: sorted(set(xs)), xs a list of numbers. -/
namespace Z
open PySem PySem.Spec L2
open PyProof.Rows hiding St
section
variable {P : Program} {w : World} {A : Around} {E : Value → Shared → Prop} {s : Shared}
/-- an empty set, as it is laid -/
abbrev set0 (w : World) : Obj := { cls := .type "set", dict := none, data := .set #[] 0 (.fresh 0 0 (!w.params.followText "set-order")) }
set_option maxHeartbeats 3200000 in
theorem call_set_lst {l : Addr} {items : Array Value} (ns : List Int) {Q : Value → Shared → Prop} (hh : A.handled = none) (hl : s.heap.IsList l items) (hit : IntsAre items.toList ns) (hb : ns.length + 1 < scanBound)
    (h : ∀ (h' : Heap) (tk c : Nat), SetR w h' s.heap.objs.size (fun j => decide (j ∈ ns)) c → c ≤ ns.length → (∀ b o, s.heap.get? b = some o → h'.get? b = some o) → Q (.ref s.heap.objs.size) { s with heap := h', toks := tk }) :
    wpAny (model P w) A (call (.type "set") [.ref l]) Q E s := by
  have sz : items.size = ns.length := by
    have q := IntsAre.length hit
    rwa [Array.length_toList] at q
  obtain ⟨c, tl, hmro⟩ := F.called_set.mro
  have q1 := F.called_set.made
  have q2 := F.called_set.sub
  have q3 := F.called_set.notType
  have q4 := F.called_set.canCreate
  have q5 := F.typeCall_set_1 (.ref l)
  refine wpAny_call (codeAny_of_tree ?_)
  show wpAny _ _ (callAny (.type "set") _) _ _ _
  refine wpAny_pure ⟨Code.quiet_builtin _ (by decide +kernel), codeAny_builtin F.entry_type_call ?_⟩
  rw [Around.under_plain (weight_type_call_type "set" [.ref l] []) rfl]
  repeat (any_goals (first | assumption | wp_step))
  refine codeAny_mono (code_set_led1 (.ref l) (E := E) (Q₁ := fun obj s₁ => obj = .ref s.heap.objs.size ∧ s₁ = { s with heap := s.heap.push (set0 w) }) ⟨rfl, rfl⟩) fun r s₁ hr => ?_
  cases r with
  | error e => exact hr
  | ok fl =>
    cases fl with
    | ret obj =>
      obtain ⟨rfl, rfl⟩ := hr
      have at0 : (s.heap.push (set0 w)).get? s.heap.objs.size = some (set0 w) := Heap.get?_push_size _ rfl
      have ty0 : Shared.TypeIs { s with heap := s.heap.push (set0 w) } (.ref s.heap.objs.size) "set" := ⟨_, at0, rfl⟩
      have q6 := F.called_set.init.lookup
      have q7 := F.called_set.init.bind (.ref s.heap.objs.size)
      have z1 : (s.heap.push (set0 w)).objs.size = s.heap.objs.size + 1 := Heap.size_push ..
      have ll : l < s.heap.objs.size := by
        obtain ⟨o, e, _⟩ := hl
        exact Heap.lt_size e
      repeat (any_goals (first | assumption | wp_step))
      refine codeAny_mono (codeAny_call_builtin (R := wants (fun r s₂ => r = .none ∧ ∃ h' tk c, s₂ = { s with heap := h', toks := tk } ∧ SetR w h' s.heap.objs.size (fun j => decide (j ∈ ns)) c ∧ c ≤ ns.length ∧
          (∀ b o, s.heap.get? b = some o → h'.get? b = some o)) E) F.called_set.init.plain F.entry_set_init (check_set_init_1 ty0 ?_)) fun r₂ s₂ hr₂ => ?_
      · have l1 : (s.heap.push (set0 w)).IsList l items := by
          obtain ⟨o, e, q⟩ := hl
          exact ⟨o, Heap.get?_push_of_some _ e, q⟩
        obtain ⟨⟨ocls, odict, odata, oslots⟩, e, hcl, nl, hdl⟩ := l1
        simp only at hcl hdl
        subst hcl
        subst hdl
        have l1 : (s.heap.push (set0 w)).IsList l items := ⟨_, e, rfl, nl, rfl⟩
        have q8 := F.sub_list_set
        have q9 := F.sub_list_frozenset
        have q10 : (Value.type "list" == Value.type "dict") = false := by decide
        unfold Builtin.«set.__init__» noKeywords Builtin.Frozenset.updateFrom
        generalize hPI : pyIter = PI
        wp_walk
        subst hPI
        refine wpAny_pyIter_list l1 ?_
        refine wpAny_bind (wpAny_runValue ?_)
        refine set_update_ints ((Walks.list (by simp [hh]) _ l (by rw [z1]; exact Nat.ne_of_lt (Nat.lt_succ_of_lt ll)) items).toS) s.heap.objs.size (by rw [z1]; simp only [List.mem_cons, List.mem_singleton, List.not_mem_nil, or_false, not_or]; exact ⟨Nat.ne_of_lt (Nat.lt_succ_self _), Nat.ne_of_gt ll⟩) ns sz hb (fun i v hv => ?_) (items.size - 0) 0 _ (by omega) (Nat.zero_le _)
          ⟨⟨_, Heap.get?_push_size _ rfl, rfl, rfl⟩, l1.push _⟩ ⟨0, Nat.le_refl 0, setR_new_at (Heap.get?_push_of_some _ at0)⟩ fun s' c' hm hc' hS' => ?_
        · have hi : i < ns.length := by rw [← sz]; exact (Array.getElem?_eq_some_iff.mp hv).1
          obtain ⟨t, e⟩ := PyProof.Rows.IntsAre.int_at hit i v (by rw [Array.getElem?_toList]; exact hv)
          refine ⟨ns[i], t, List.getElem?_eq_getElem hi, ?_⟩
          rw [e, List.getD_eq_getElem?_getD, List.getElem?_eq_getElem hi]
          rfl
        · obtain ⟨h', g2, d', tk', os'⟩ := s'
          obtain rfl : g2 = s.gens := hm.gens
          obtain rfl : d' = s.drawn := hm.drawn
          obtain rfl : os' = s.os := hm.os
          show wpAny _ _ _ _ _ _
          refine wpAny_pure ?_
          show wpAny _ _ (ret Value.none) _ _ _
          rw [sz] at hc'
          refine wpAny_pure ⟨rfl, h', tk', c', rfl, hS', hc', fun b o e => ?_⟩
          have hb0 := Heap.lt_size e
          exact hm.heap b o (by rw [z1]; simp only [List.mem_cons, List.mem_singleton, List.not_mem_nil, or_false, not_or]; exact ⟨Nat.ne_of_lt hb0, Nat.ne_of_lt (Nat.lt_succ_of_lt hb0)⟩) (Heap.get?_push_of_some _ (Heap.get?_push_of_some _ e))
      · cases r₂ with
        | error e => exact hr₂
        | ok fl₂ =>
          cases fl₂ with
          | ret r =>
            obtain ⟨rfl, h', tk, c', rfl, hS', hc', hk'⟩ := hr₂
            repeat (any_goals (first | assumption | wp_step))
            exact h _ _ _ hS' hc' hk'
          | _ => exact hr₂.elim
    | _ => exact hr.elim
end
section
theorem nub_mem : ∀ (l : List Int) (x : Int), x ∈ nubI l ↔ x ∈ l
  | [], x => by simp [nubI]
  | y :: l, x => by
    unfold nubI
    split
    · rename_i h
      rw [nub_mem l x]
      constructor
      · exact fun m => List.mem_cons_of_mem _ m
      · intro m
        rcases List.mem_cons.mp m with rfl | m
        · exact h
        · exact m
    · rw [List.mem_cons, List.mem_cons, nub_mem l x]
theorem nub_nodup : ∀ l : List Int, (nubI l).Nodup
  | [] => by simp [nubI]
  | y :: l => by
    unfold nubI
    split
    · exact nub_nodup l
    · rename_i h
      exact List.nodup_cons.mpr ⟨fun m => h ((nub_mem l y).mp m), nub_nodup l⟩
theorem perm_nodup : ∀ {l m : List Int}, l.Nodup → m.Nodup → (∀ x, x ∈ l ↔ x ∈ m) → l.Perm m
  | [], m, _, _, h => by
    cases m with
    | nil => exact .refl _
    | cons x m => exact absurd ((h x).mpr List.mem_cons_self) List.not_mem_nil
  | x :: l, m, hl, hm, h => by
    obtain ⟨n1, n2⟩ := List.nodup_cons.mp hl
    have hx := (h x).mp List.mem_cons_self
    refine (List.Perm.cons x (perm_nodup n2 (hm.erase x) fun y => ?_)).trans (List.perm_cons_erase hx).symm
    rw [hm.mem_erase_iff]
    constructor
    · intro hy
      exact ⟨fun e => n1 (e ▸ hy), (h y).mp (List.mem_cons_of_mem _ hy)⟩
    · rintro ⟨n, hy⟩
      exact (List.mem_cons.mp ((h y).mpr hy)).resolve_left n
theorem sd_uniq {ns ms : List Int} (pw : ms.Pairwise (· < ·)) (mem : ∀ k, k ∈ ms ↔ k ∈ ns) : ms = sdI ns := by
  unfold sdI
  refine sortI_uniq (perm_nodup (pw.imp fun h => Int.ne_of_lt h) (nub_nodup ns) fun x => (mem x).trans (nub_mem ns x).symm) (pw.imp fun h => Int.le_of_lt h)
end
section
variable {P : Program} {w : World} {A : Around} {E : Value → Shared → Prop} {s : Shared}
/-- sorted(a set of numbers), of any size -/
theorem sort_set_any {sa : Addr} {mem : Int → Bool} {n : Nat} {Q : Value → Shared → Prop} (R : SetR w s.heap sa mem n) (calm : A.handled = none) (few : n ≤ 1000)
    (k : ∀ (s2 : Shared) (q : Addr) (res : Array Value) (m : Nat) (is : List Int), (∀ b o, s.heap.get? b = some o → s2.heap.get? b = some o) → s2.gens = s.gens → s2.os = s.os → s.heap.objs.size ≤ q →
      s2.heap.get? q = some (seqObj "list" res m) → IntsAre res.toList is → is.Pairwise (· < ·) → (∀ j, j ∈ is ↔ mem j = true) → is.length = n → Q (.ref q) s2) :
    wpAny (model P w) A (call (.builtin "sorted") [.ref sa]) Q E s := by
  obtain ⟨ob, ents, epo, tb, at0, cls0, dat0, good, nodup, memb, bnd, fits, cnt, ris, led⟩ := R
  refine Calls.call_function_entry kind_sorted plain_sorted entry_sorted (args_sorted1 (.ref sa)) ?_
  unfold Builtin.«sorted»
  refine wpAny_bind (m := checkCount "sorted" 1 1 1) (wpAny_pure ?_)
  refine wpAny_bind (L2.collect_set (A := A.in1) calm ⟨ob, at0, cls0.1, dat0⟩ fits bnd ris led fun s1 out keep sz eg eo pm => ?_)
  have lo : out.length = n := by rw [pm.length_eq, List.length_map, Array.length_toList]; exact cnt
  have iAre : IntsAre out (out.map Builtin.Re.reRawOf) := ints_of out fun v hv => by
    obtain ⟨x, hx, ex⟩ := List.mem_map.mp (pm.mem_iff.mp hv)
    obtain ⟨j, tk, e1, _⟩ := good x hx
    exact ⟨j, tk, by rw [← ex]; exact e1⟩
  have pk : (out.map Builtin.Re.reRawOf).Perm (ents.toList.map keyOf) := by
    have := pm.map Builtin.Re.reRawOf
    rwa [List.map_map] at this
  refine wpAny_bind (wpAny_newList ?_ (by rw [lo, sizeLine_eq]; omega))
  have atL : (s1.heap.push (seqObj "list" out.toArray 0)).get? s1.heap.objs.size = some (seqObj "list" out.toArray 0) := Heap.get?_push_size _ rfl
  refine wpAny_bind (wpAny_holding (wpAny_call_entry slot_list_sort ⟨_, atL, rfl⟩ entry_list_sort (list_sort_treeAny atL iAre (by rw [lo, sizeLine_eq]; omega) fun res is i1 i2 i3 => ⟨_, rfl, ?_⟩) (args_list_sort _)))
  obtain ⟨m, hm⟩ := sortedHeap_at (vs := out) (out := res) atL
  have pn : is.Perm (ents.toList.map keyOf) := i2.trans pk
  refine wpAny_pure ⟨_, rfl, k _ s1.heap.objs.size res m is (fun b u e => ?_) eg eo sz hm i1 (lt_of_le_nodup is i3 (pn.nodup_iff.mpr nodup)) (fun j => by rw [pn.mem_iff, ← memb j]) ?_⟩
  · have q := keep b u e
    have lt := Heap.lt_size q
    show (sortedHeap (s1.heap.push (seqObj "list" out.toArray 0)) s1.heap.objs.size out res).get? b = some u
    rw [sortedHeap_old (Nat.ne_of_lt lt) (by rw [size_push']; exact Nat.lt_succ_of_lt lt)]
    exact Heap.get?_push_of_some _ (keep b u e)
  · rw [pn.length_eq, List.length_map, Array.length_toList]; exact cnt
end
section
variable {X : Cx}
def rSortSet (w : World) : List V → Hp → VK → Prop := fun vs H Q => ∃ (sa : Addr) (mem : Int → Bool) (n : Nat), vs = [V.ref sa] ∧ H sa = some (SetO w sa mem n) ∧ n ≤ 1000 ∧
  ∀ (is : List Int) (q : Addr), is.Pairwise (· < ·) → (∀ j : Int, j ∈ is ↔ mem j = true) → is.length = n → H q = none → Q (.ref q) (upd H q (.lst (is.map V.int)))
theorem cr_sortSet (hc : X.calm = true) : CallR X (.builtin "sorted") (rSortSet X.w) := by
  intro pins s σ H vs us Q I r h
  obtain ⟨sa, mem, n, rfl, at0, few, q⟩ := h
  have R := setO_get I at0
  rw [Vals.ref1 r]
  refine sort_set_any R (I.ok.hd hc) few fun s2 b res m is keep eg eo sz hm i1 i2 i3 i4 => ?_
  have fresh : H b = none := I.hok.fresh sz
  have lz : (is.map V.int).length ≤ sizeLine := by rw [List.length_map, i4, sizeLine_eq]; omega
  have J : Inv X pins σ (upd H b (.lst (is.map V.int))) { s with heap := s2.heap, gens := s2.gens, drawn := s2.drawn, toks := s2.toks } :=
    I.call (ch := []) (Un.laid keep sz fresh) (I.hok.laid keep sz ⟨lz, res.toList, m, vals_of_ints i1, hm⟩) (by rw [eg]; exact I.bare) (fun _ z => nomatch z)
  have e2 : s2 = { s with heap := s2.heap, gens := s2.gens, drawn := s2.drawn, toks := s2.toks } := by
    cases s2; cases s; cases eo; rfl
  rw [e2]
  exact ⟨.ref b, _, J, rfl, q is b i2 i3 i4 fresh⟩
end
section
variable {X : Cx} {T : Tb} {W : WX}
def rSetLst (K : PySem.W.Frag) (w : World) : List V → Hp → VK → Prop := fun vs H Q => ∃ (l : Addr) (ns : List Int), vs = [V.ref l] ∧ SqL K H l (ns.map V.int) ∧ ns.length ≤ 200 ∧ ∀ p c, c ≤ ns.length → H p = none → Q (.ref p) (upd H p (SetO w p (fun j => decide (j ∈ ns)) c))
theorem cr_setLst (hc : X.calm = true) : CallR X (.type "set") (rSetLst X.K X.w) := by
  intro pins s σ H vs us Q I r h
  obtain ⟨l, ns, rfl, hq, h64, q⟩ := h
  rw [Vals.ref1 r]
  obtain ⟨its, rv, pl, hz⟩ := I.list hq
  refine call_set_lst ns (I.ok.hd hc) pl.isList (by simpa using rv.ints) (by unfold scanBound; omega) fun h' tk c hS hc' hk => ?_
  exact ⟨.ref _, _, I.laid (t' := tk) hk (Nat.le_refl _) (setO_new hS), rfl, q _ c hc' (I.hok.fresh (Nat.le_refl _))⟩
theorem de_srs (hK : X.K = T.K) (hc : X.calm = true) {a : PySem.Expr} {p p2 q pos : Pos} {f : En → R Val} (hg : Gl X "sorted") (hm : X.mg "sorted" = none) (hv : bootBuiltins "sorted" = some (.builtin "sorted")) (hg2 : Gl X "set") (hm2 : X.mg "set" = none) (hv2 : bootBuiltins "set" = some (.type "set")) (ha : PE X a (tE T W f)) (hs : notStar a = true) :
    PE X (.Call (.Name "sorted" p) [.Call (.Name "set" p2) [a] [] q] [] pos) (tE T W fun r => (f r).bind fun v r1 => R.of (srsD v.d) r1) := by
  refine peImp (pe_callB (cr_sortSet hc) hg hm hv (pa_cons (pe_callTy (cr_setLst hc) hg2 hm2 hv2 (pa_cons ha pa_nil (star_one hs [] X.env)) (by decide) (by decide) (star_one hs [] X.env) (star_all (es := []) rfl X.env q)) pa_nil rfl) (by decide) (by decide) rfl (star_all (es := []) rfl X.env pos)) fun σ H Q ⟨P, r, rs, go⟩ => ?_
  refine ⟨P, r, rs, (Go.bindS rs (anti_V T) go).mono fun x H1 ⟨P1, r1, v, a1, q1, e1, go1⟩ => ?_⟩
  cases c : v.d with
  | lst ds =>
    rw [c] at go1 q1
    simp only [Rep] at q1
    obtain ⟨b, xs, rfl, h1, h2⟩ := q1
    simp only [srsD] at go1
    cases cn : intsD ds with
    | none => rw [cn] at go1; exact go1.elim
    | some ns =>
      rw [cn, Option.bind_some] at go1
      by_cases h64 : ns.length ≤ 200
      · rw [if_pos h64] at go1
        have exs := h2.toIs cn
        subst exs
        refine ⟨b, ns, rfl, .inl (.inl (a1.rs.sub _ _ h1)), h64, fun p cN hcN np => ⟨p, _, cN, rfl, upd_same, by omega, fun ms p2 pw mem len np2 => ?_⟩⟩
        have ems : ms = sdI ns := sd_uniq pw fun k => (mem k).trans decide_eq_true_iff
        subst ems
        have l1 := Aft.laidO (o := SetO X.w p (fun j => decide (j ∈ ns)) cN) a1.rs np
        have l2 := Aft.laidO (o := .lst ((sdI ns).map V.int)) l1.rs np2
        have n2 : H1 p2 = none := by
          by_cases z : p2 = p
          · rw [z, upd_same] at np2; cases np2
          · rw [upd_ne z] at np2; exact np2
        exact go1 (.ref p2) P1 _ (l1.trans l2) ⟨p2, rfl, a1.rs.sub.free n2, ⟨_, upd_same, Reps.of_ints T P1 _⟩, n2⟩
      · rw [if_neg h64] at go1
        exact go1.elim
  | _ => rw [c] at go1; exact go1.elim
end
section
variable {T : Tb} {C : Cf} {X : Cx} {k : Nat} {p p2 q pos : Pos} {a : PySem.Expr} {a' : E}
theorem e_srs (w : CB T k X) (hm : X.mg "sorted" = none) (hm2 : X.mg "set" = none) (hv : bootBuiltins "sorted" = some (.builtin "sorted")) (hv2 : bootBuiltins "set" = some (.type "set")) (ha : DE T C X a a') (hg : Gl X "sorted" := by rfl) (hg2 : Gl X "set" := by rfl) (hs : notStar a = true := by rfl) :
    DE T C X (.Call (.Name "sorted" p) [.Call (.Name "set" p2) [a] [] q] [] pos) (.srs a') := eqE (de_srs w.eK w.calm hg hm hv hg2 hm2 hv2 ha hs) fun r => by simp only [ev]
end
end Z
/-! ZZR: a def that a second name of the module stands for. -/
namespace Z
open PySem PySem.Spec L2
open PyProof.Rows hiding St
/-- a def named x, found under the name a -/
structure DfAtA (T : Tb) (a x : Str) (st : Stmt) (N ps : List Str) (f : Addr) (fd : FuncData) : Prop where
  ex : ∃ (oc : Value) (od : Option Addr) (kV doc pm : Value) (an : Option Addr) (cdv ct : Value) (osl : Array (Option Value)),
    fd = PySem.W.fnOf x x (defArgs st) (defBody st) (defScope st) .none kV doc pm an cdv ct ∧ T.K.lookup f = some ⟨oc, od, .func fd, osl⟩ ∧ PySem.W.codeIn T.K cdv x = true
  sc : FnScope N ps (defScope st)
  mg : T.mg a = some (.ref f)
  kp : PySem.W.keepIn T.K (.ref f) = true
  bn : Binds T.K fd ps []
theorem cal_zeroA {T : Tb} {Pg : Nat → Option Df} {fuel i : Nat} {ms : List Bool} {a x : Str} {st : Stmt} {N ps : List Str} {f : Addr} {fd : FuncData} (h : DfAtA T a x st N ps f fd) : Cal T 0 a ms (callD Pg fuel 0 i) := by
  refine ⟨f, fd, ps, h.mg, h.kp, h.bn, ⟨fun vs H Q E q => ?_, fun A outer s H args us vs Q E _ _ _ _ _ q => ?_⟩⟩
  · obtain ⟨P, ds, _, _, z⟩ := q
    exact z.elim
  · obtain ⟨P, ds, _, _, z⟩ := q
    exact z.elim
theorem cal_stepA {T : Tb} {Pg : Nat → Option Df} {fuel k i : Nat} {df : Df} {a x : Str} {st : Stmt} {N ps : List Str} {f : Addr} {fd : FuncData} (h : DfAtA T a x st N ps f fd) (hp : Pg i = some df) (hn : df.names = N.length) (hm : df.modes.length = ps.length)
    (hb : ∀ (f : Addr) (cdv : Value) (A : Around) (outer : List PySem.Env) (s : Shared) (H : Hp) (E : XK), CB T k (asDef T N x (defScope st) f cdv A outer s H E) → DSs T (Cq Pg fuel k) (asDef T N x (defScope st) f cdv A outer s H E) (defBody st) df.body) :
    Cal T (k + 1) a df.modes (callD Pg fuel (k + 1) i) := by
  obtain ⟨oc, od, kV, doc, pm, an, cdv, ct, osl, rfl, lk, hcd⟩ := h.ex
  exact ⟨f, _, ps, h.mg, h.kp, h.bn, fn_def lk hcd h.sc hp hn hm fun cdv A outer s H E w => hb f cdv A outer s H E w⟩
structure DfQA (K : PySem.W.Frag) (a x : Str) (st : Stmt) (ps : List Str) (f : Addr) (fd : FuncData) : Prop where
  ex : ∃ (oc : Value) (od : Option Addr) (kV doc pm : Value) (an : Option Addr) (cdv ct : Value) (osl : Array (Option Value)),
    fd = PySem.W.fnOf x x (defArgs st) (defBody st) (defScope st) .none kV doc pm an cdv ct ∧ K.lookup f = some ⟨oc, od, .func fd, osl⟩ ∧ PySem.W.codeIn K cdv x = true
  ns : PySem.W.nsIn K mainGlobals a = some (some (.ref f))
  kp : PySem.W.keepIn K (.ref f) = true
  bn : ∀ us : List Value, us.length = ps.length → bindArgs fd ⟨us, []⟩ = pure (ps.zip us)
theorem dfq_mkA {K : PySem.W.Frag} {a x : Str} {st : Stmt} {ps : List Str} {f : Addr} {oc : Value} {od : Option Addr} {kV doc pm cdv ct : Value} {an : Option Addr} {osl : Array (Option Value)}
    (b : ∀ (kV doc pm : Value) (an : Option Addr) (cdv ct : Value) (us : List Value), us.length = ps.length → bindArgs (PySem.W.fnOf x x (defArgs st) (defBody st) (defScope st) .none kV doc pm an cdv ct) ⟨us, []⟩ = pure (ps.zip us))
    (e : PySem.W.nsIn K mainGlobals a = some (some (.ref f))) (l : K.lookup f = some ⟨oc, od, .func (PySem.W.fnOf x x (defArgs st) (defBody st) (defScope st) .none kV doc pm an cdv ct), osl⟩) (c : PySem.W.codeIn K cdv x = true) (k : PySem.W.keepIn K (.ref f) = true) :
    ∃ fd, DfQA K a x st ps f fd := ⟨_, ⟨oc, od, kV, doc, pm, an, cdv, ct, osl, rfl, l, c⟩, e, k, b kV doc pm an cdv ct⟩
theorem DfQA.at {K : PySem.W.Frag} {a x : Str} {st : Stmt} {N ps : List Str} {f : Addr} {fd : FuncData} {P : Program} {w : World} {mg : Str → Option Value} {h bs : Heap} (q : DfQA K a x st ps f fd) (sc : FnScope N ps (defScope st)) (inK : K.In h) (G : h.Ns mainGlobals mg) :
    DfAtA ⟨P, w, K, mg, bs, fun _ => 0⟩ a x st N ps f fd := ⟨q.ex, sc, PySem.W.mg_of inK G q.ns, q.kp, Binds.all q.bn⟩
end Z
/-! YA: the evaluator's equations as simp rules. -/
namespace Z
open PySem (Str Operator CmpOp)
@[simp] theorem iv_var {i : Nat} : isVar (.var i) = some i := rfl
@[simp] theorem iv_con {d : D} : isVar (.con d) = none := rfl
@[simp] theorem iv_neg {a : E} : isVar (.neg a) = none := rfl
@[simp] theorem iv_not {a : E} : isVar (.not a) = none := rfl
@[simp] theorem iv_bin {op : Operator} {a b : E} : isVar (.bin op a b) = none := rfl
@[simp] theorem iv_cmp {op : CmpOp} {a b : E} : isVar (.cmp op a b) = none := rfl
@[simp] theorem iv_and {a b : E} : isVar (.and a b) = none := rfl
@[simp] theorem iv_or {a b : E} : isVar (.or a b) = none := rfl
@[simp] theorem iv_ite {t : Z.T} {a b : E} : isVar (.ite t a b) = none := rfl
@[simp] theorem iv_lst {es : List E} : isVar (.lst es) = none := rfl
@[simp] theorem iv_tup {es : List E} : isVar (.tup es) = none := rfl
@[simp] theorem iv_idx {a b : E} : isVar (.idx a b) = none := rfl
@[simp] theorem iv_slc {a b c : E} : isVar (.slc a b c) = none := rfl
@[simp] theorem iv_chn {o o' : CmpOp} {a b c : E} : isVar (.chn o o' a b c) = none := rfl
@[simp] theorem iv_lc {a : E} {tg : Tg} {it : I} {ts : List Z.T} {own : List Nat} : isVar (.lc a tg it ts own) = none := rfl
@[simp] theorem iv_call {n : Nat} {es : List E} {own : List Nat} {ds : List D} : isVar (.call n es own ds) = none := rfl
@[simp] theorem iv_callO {n : Nat} {es : List E} : isVar (.callO n es) = none := rfl
@[simp] theorem iv_callN {n : Nat} {e : E} {es : List E} : isVar (.callN n e es) = none := rfl
@[simp] theorem iv_bi {bb : BI} {es : List E} : isVar (.bi bb es) = none := rfl
@[simp] theorem iv_mth {m : MT} {a : E} {es : List E} : isVar (.mth m a es) = none := rfl
@[simp] theorem iv_bits {a : E} : isVar (.bits a) = none := rfl
@[simp] theorem iv_mut {mm : MU} {n : Nat} {es : List E} : isVar (.mut mm n es) = none := rfl
@[simp] theorem iv_isi {a : E} {ty : Ty} : isVar (.isi a ty) = none := rfl
@[simp] theorem in_non : isNon (.con .non) = true := rfl
/-! what stands behind a step is looked at only when the step is done -/
@[simp] theorem qb_con {d : D} {f : En → R Val} {r : En} : bor (.con d) f r = (f r).bind fun v r1 => .ok (.inr v.d) r1 := rfl
@[simp] theorem qb_neg {a : E} {f : En → R Val} {r : En} : bor (.neg a) f r = (f r).bind fun v r1 => .ok (.inr v.d) r1 := rfl
@[simp] theorem qb_not {a : E} {f : En → R Val} {r : En} : bor (.not a) f r = (f r).bind fun v r1 => .ok (.inr v.d) r1 := rfl
@[simp] theorem qb_bin {op : Operator} {a b : E} {f : En → R Val} {r : En} : bor (.bin op a b) f r = (f r).bind fun v r1 => .ok (.inr v.d) r1 := rfl
@[simp] theorem qb_cmp {op : CmpOp} {a b : E} {f : En → R Val} {r : En} : bor (.cmp op a b) f r = (f r).bind fun v r1 => .ok (.inr v.d) r1 := rfl
@[simp] theorem qb_and {a b : E} {f : En → R Val} {r : En} : bor (.and a b) f r = (f r).bind fun v r1 => .ok (.inr v.d) r1 := rfl
@[simp] theorem qb_or {a b : E} {f : En → R Val} {r : En} : bor (.or a b) f r = (f r).bind fun v r1 => .ok (.inr v.d) r1 := rfl
@[simp] theorem qb_ite {t : Z.T} {a b : E} {f : En → R Val} {r : En} : bor (.ite t a b) f r = (f r).bind fun v r1 => .ok (.inr v.d) r1 := rfl
@[simp] theorem qb_lst {es : List E} {f : En → R Val} {r : En} : bor (.lst es) f r = (f r).bind fun v r1 => .ok (.inr v.d) r1 := rfl
@[simp] theorem qb_tup {es : List E} {f : En → R Val} {r : En} : bor (.tup es) f r = (f r).bind fun v r1 => .ok (.inr v.d) r1 := rfl
@[simp] theorem qb_idx {a b : E} {f : En → R Val} {r : En} : bor (.idx a b) f r = (f r).bind fun v r1 => .ok (.inr v.d) r1 := rfl
@[simp] theorem qb_slc {a b c : E} {f : En → R Val} {r : En} : bor (.slc a b c) f r = (f r).bind fun v r1 => .ok (.inr v.d) r1 := rfl
@[simp] theorem qb_lc {a : E} {tg : Tg} {it : I} {ts : List Z.T} {own : List Nat} {f : En → R Val} {r : En} : bor (.lc a tg it ts own) f r = (f r).bind fun v r1 => .ok (.inr v.d) r1 := rfl
@[simp] theorem qb_call {n : Nat} {es : List E} {own : List Nat} {ds : List D} {f : En → R Val} {r : En} : bor (.call n es own ds) f r = (f r).bind fun v r1 => .ok (.inr v.d) r1 := rfl
@[simp] theorem qb_callO {n : Nat} {es : List E} {f : En → R Val} {r : En} : bor (.callO n es) f r = (f r).bind fun v r1 => .ok (.inr v.d) r1 := rfl
@[simp] theorem qb_callN {n : Nat} {e : E} {es : List E} {f : En → R Val} {r : En} : bor (.callN n e es) f r = (f r).bind fun v r1 => .ok (.inr v.d) r1 := rfl
@[simp] theorem qb_chn {o o' : CmpOp} {a b c : E} {f : En → R Val} {r : En} : bor (.chn o o' a b c) f r = (f r).bind fun v r1 => .ok (.inr v.d) r1 := rfl
@[simp] theorem qb_bi {bb : BI} {es : List E} {f : En → R Val} {r : En} : bor (.bi bb es) f r = (f r).bind fun v r1 => .ok (.inr v.d) r1 := rfl
@[simp] theorem qb_mth {m : MT} {a : E} {es : List E} {f : En → R Val} {r : En} : bor (.mth m a es) f r = (f r).bind fun v r1 => .ok (.inr v.d) r1 := rfl
@[simp] theorem qb_bits {a : E} {f : En → R Val} {r : En} : bor (.bits a) f r = (f r).bind fun v r1 => .ok (.inr v.d) r1 := rfl
@[simp] theorem qb_mut {mm : MU} {n : Nat} {es : List E} {f : En → R Val} {r : En} : bor (.mut mm n es) f r = (f r).bind fun v r1 => .ok (.inr v.d) r1 := rfl
@[simp] theorem qb_isi {a : E} {ty : Ty} {f : En → R Val} {r : En} : bor (.isi a ty) f r = (f r).bind fun v r1 => .ok (.inr v.d) r1 := rfl
@[simp] theorem qr_con {d : D} {C : Cf} {r : En} : retV C (.con d) r = ev C (.con d) r := rfl
@[simp] theorem qr_neg {a : E} {C : Cf} {r : En} : retV C (.neg a) r = ev C (.neg a) r := rfl
@[simp] theorem qr_not {a : E} {C : Cf} {r : En} : retV C (.not a) r = ev C (.not a) r := rfl
@[simp] theorem qr_bin {op : Operator} {a b : E} {C : Cf} {r : En} : retV C (.bin op a b) r = ev C (.bin op a b) r := rfl
@[simp] theorem qr_cmp {op : CmpOp} {a b : E} {C : Cf} {r : En} : retV C (.cmp op a b) r = ev C (.cmp op a b) r := rfl
@[simp] theorem qr_and {a b : E} {C : Cf} {r : En} : retV C (.and a b) r = ev C (.and a b) r := rfl
@[simp] theorem qr_or {a b : E} {C : Cf} {r : En} : retV C (.or a b) r = ev C (.or a b) r := rfl
@[simp] theorem qr_ite {t : Z.T} {a b : E} {C : Cf} {r : En} : retV C (.ite t a b) r = ev C (.ite t a b) r := rfl
@[simp] theorem qr_lst {es : List E} {C : Cf} {r : En} : retV C (.lst es) r = ev C (.lst es) r := rfl
@[simp] theorem qr_tup {es : List E} {C : Cf} {r : En} : retV C (.tup es) r = ev C (.tup es) r := rfl
@[simp] theorem qr_idx {a b : E} {C : Cf} {r : En} : retV C (.idx a b) r = ev C (.idx a b) r := rfl
@[simp] theorem qr_slc {a b c : E} {C : Cf} {r : En} : retV C (.slc a b c) r = ev C (.slc a b c) r := rfl
@[simp] theorem qr_lc {a : E} {tg : Tg} {it : I} {ts : List Z.T} {own : List Nat} {C : Cf} {r : En} : retV C (.lc a tg it ts own) r = ev C (.lc a tg it ts own) r := rfl
@[simp] theorem qr_call {n : Nat} {es : List E} {own : List Nat} {ds : List D} {C : Cf} {r : En} : retV C (.call n es own ds) r = ev C (.call n es own ds) r := rfl
@[simp] theorem qr_callO {n : Nat} {es : List E} {C : Cf} {r : En} : retV C (.callO n es) r = ev C (.callO n es) r := rfl
@[simp] theorem qr_callN {n : Nat} {e : E} {es : List E} {C : Cf} {r : En} : retV C (.callN n e es) r = ev C (.callN n e es) r := rfl
@[simp] theorem qr_chn {o o' : CmpOp} {a b c : E} {C : Cf} {r : En} : retV C (.chn o o' a b c) r = ev C (.chn o o' a b c) r := rfl
@[simp] theorem qr_bi {bb : BI} {es : List E} {C : Cf} {r : En} : retV C (.bi bb es) r = ev C (.bi bb es) r := rfl
@[simp] theorem qr_mth {m : MT} {a : E} {es : List E} {C : Cf} {r : En} : retV C (.mth m a es) r = ev C (.mth m a es) r := rfl
@[simp] theorem qr_bits {a : E} {C : Cf} {r : En} : retV C (.bits a) r = ev C (.bits a) r := rfl
@[simp] theorem qr_mut {mm : MU} {n : Nat} {es : List E} {C : Cf} {r : En} : retV C (.mut mm n es) r = ev C (.mut mm n es) r := rfl
@[simp] theorem qr_isi {a : E} {ty : Ty} {C : Cf} {r : En} : retV C (.isi a ty) r = ev C (.isi a ty) r := rfl
@[simp] theorem qr_var {i : Nat} {C : Cf} {r : En} : retV C (.var i) r = (match r[i]? with | some (.sh d) => .ok (.sh d) r | some (.ow d) => .ok (.ow d) r | _ => .bad) := rfl
section
variable {C : Cf} {r r' : En} {a b c : E} {es : List E} {s : S} {ss tt : List S} {i j : Nat} {d d' : D} {x y : Int}
abbrev Cz (Pg : Nat → Option Df) (fuel k : Nat) : Cf := { call := callD Pg fuel k, modes := fun g => (Pg g).map (·.modes), fuel := fuel }
theorem callD_eq {Pg : Nat → Option Df} {fuel k f : Nat} {df : Df} {ds : List D} (hp : Pg f = some df) (h : ds.length = df.modes.length ∧ ds.length ≤ df.names) :
    callD Pg fuel (k + 1) f ds = (xs (Cz Pg fuel k) df.body (En.start df.modes df.names ds)).cr df.modes := by
  simp only [callD, hp, if_pos h]
@[simp] theorem q_xs0 : xs C [] r = .nx r := by simp only [xs]
@[simp] theorem q_xs : xs C (s :: ss) r = (x1 C s r).then fun r1 => xs C ss r1 := by simp only [xs]
@[simp] theorem q_asgv : x1 C (.asg (.v i) a) r = (ev C a r).run fun v r1 => O.of (r1.put i v) := by simp only [x1]
@[simp] theorem q_asgt {ts : List Tg} : x1 C (.asg (.t ts) a) r = (ev C a r).run fun v r1 => O.of (bindT (.t ts) v.d r1) := by simp only [x1]
@[simp] theorem q_par {is : List Nat} : x1 C (.par is es) r = (evV C es r).run fun vs r1 => if is.Nodup then O.of (puts r1 is vs) else .bad := by simp only [x1]
@[simp] theorem q_aug {op : Operator} : x1 C (.aug i op a) r = match r.rd i with | some (.int x) => (ev C a r).run fun v r1 => (match v.d with | .int y => (match binI op x y with | some z => O.of (r1.put i (.sh (.int z))) | none => .bad) | _ => .bad) | _ => .bad := by simp only [x1] <;> rfl
@[simp] theorem q_seti : x1 C (.seti i a b) r = (ev C b r).run fun v r1 => if (r1.own? i).isSome = true then (ev C a r1).run fun k r2 => O.of ((r2.own? i).bind fun o => (setD o k.d v.d).bind fun d => r2.chg i d) else .bad := by simp only [x1]
@[simp] theorem q_ex : x1 C (.ex a) r = (ev C a r).run fun _ r1 => .nx r1 := by simp only [x1]
@[simp] theorem q_ret : x1 C (.ret a) r = (retV C a r).run fun v r1 => .ret v r1 := by simp only [x1]
@[simp] theorem q_retN : x1 C .retN r = .ret (.sh .non) r := by simp only [x1]
@[simp] theorem q_ite {t : Z.T} : x1 C (.ite t ss tt) r = (evT C t r).run fun k r1 => if k = true then xs C ss r1 else xs C tt r1 := by simp only [x1]
@[simp] theorem q_for {t : Tg} {it : I} : x1 C (.for_ t it ss) r = (evI C it r).run fun l r1 => forL (fun x r2 => (O.of (bindT t x r2)).then fun r3 => xs C ss r3) l r1 := by simp only [x1]
@[simp] theorem q_srs : ev C (.srs a) r = (ev C a r).bind fun v r1 => R.of (srsD v.d) r1 := by simp only [ev]
@[simp] theorem q_whl {t : Z.T} : x1 C (.whl t ss) r = whlL (evT C t) (xs C ss) C.fuel r := by simp only [x1]
@[simp] theorem q_brk : x1 C .brk r = .brk r := by simp only [x1]
@[simp] theorem q_cnt : x1 C .cnt r = .cnt r := by simp only [x1]
@[simp] theorem q_pass : x1 C .pass r = .nx r := by simp only [x1]
/-! expressions -/
@[simp] theorem q_var : ev C (.var i) r = (match r[i]? with | some (.sh d) => .ok (.sh d) r | some (.ow d) => .ok (.sh d) (r.set i (.sh d)) | _ => .bad) := by simp only [ev] <;> rfl
@[simp] theorem q_con : ev C (.con d) r = .ok (.sh d) r := by simp only [ev]
@[simp] theorem q_not : ev C (.not a) r = (bor a (fun r => ev C a r) r).bind fun x r1 => op1 (fun u => boolV ((tru u).map (!·))) x r1 := by simp only [ev]
@[simp] theorem q_bin {op : Operator} : ev C (.bin op a b) r = (bor a (fun r => ev C a r) r).bind fun x r1 => (bor b (fun r => ev C b r) r1).bind fun y r2 => op2 (binD op) x y r2 := by simp only [ev]
@[simp] theorem q_cmp {op : CmpOp} : ev C (.cmp op a b) r = (bor a (fun r => ev C a r) r).bind fun x r1 => (bor b (fun r => ev C b r) r1).bind fun y r2 => op2 (fun u v => boolV (cmpD op u v)) x y r2 := by simp only [ev]
@[simp] theorem q_and : ev C (.and a b) r = (ev C a r).bind fun x r1 => match tru x.d with
    | some true => (ev C b r1).bind fun y r2 => .ok (.sh y.d) r2
    | some false => .ok (.sh x.d) r1
    | none => .bad := by simp only [ev] <;> rfl
@[simp] theorem q_or : ev C (.or a b) r = (ev C a r).bind fun x r1 => match tru x.d with
    | some false => (ev C b r1).bind fun y r2 => .ok (.sh y.d) r2
    | some true => .ok (.sh x.d) r1
    | none => .bad := by simp only [ev] <;> rfl
@[simp] theorem q_eite {t : Z.T} : ev C (.ite t a b) r = (evT C t r).bind fun k r1 => if k = true then ev C a r1 else ev C b r1 := by simp only [ev]
@[simp] theorem q_lst : ev C (.lst es) r = (evs C es r).bind fun ds r1 => if ds.length ≤ LINE then .ok (.ow (.lst ds)) r1 else .bad := by simp only [ev]
@[simp] theorem q_tup : ev C (.tup es) r = (evs C es r).bind fun ds r1 => if ds.length ≤ LINE then .ok (.sh (.tup ds)) r1 else .bad := by simp only [ev]
@[simp] theorem q_idx : ev C (.idx a b) r = (bor a (fun r => ev C a r) r).bind fun x r1 => (bor b (fun r => ev C b r) r1).bind fun y r2 => op2 (fun u v => (idxD u v).map .sh) x y r2 := by simp only [ev]
@[simp] theorem q_slc : ev C (.slc a b c) r = (bor a (fun r => ev C a r) r).bind fun x r1 => (por b (fun r => ev C b r) r1).bind fun y r2 => (por c (fun r => ev C c r) r2).bind fun z r3 => op3 slcD x y z r3 := by simp only [ev]
theorem q_lc {t : Tg} {it : I} {ts : List Z.T} {own : List Nat} : ev C (.lc a t it ts own) r = (evI C it r).bind fun l r1 => if ownFree r1 own && (tgS t).all own.contains then
      (lcL (fun x r2 => (R.of (bindT t x (wip r2 own)) r2).bind fun r3 _ => (evC C ts r3).bind fun k r4 => if k = true then (ev C a r4).bind fun v r5 => .ok (some v.d) r5 else .ok none r4) l [] (wip r1 own)).bind fun ds r6 =>
        thawL r ds (back r1 r6 own) else .bad := by simp only [ev]
@[simp] theorem q_call {f : Nat} : ev C (.call f es [] []) r = (evA C es r).bind fun ys r1 => match C.modes f with | some ms => callR ms (C.call f) ys r1 | none => .bad := by
  simp only [ev]
  congr 1
  funext ys r1
  simp only [List.map_nil, List.append_nil, permO, List.isEmpty_nil, if_true]
  cases C.modes f <;> rfl
@[simp] theorem q_callO {f : Nat} : ev C (.callO f es) r = (evA C es r).bind fun ys r1 => match C.modes f with | some ms => callRO ms (C.call f) ys r1 | none => .bad := by simp only [ev] <;> rfl
@[simp] theorem q_callN {f : Nat} {e : E} : ev C (.callN f e es) r = (ev C e r).bind fun v r1 => (evA C es r1).bind fun ys r2 => match v, C.modes f with
    | .ow d, some ms => callNR ms (C.call f) d ys r2
    | _, _ => .bad := by simp only [ev] <;> rfl
@[simp] theorem q_chn {op op' : CmpOp} : ev C (.chn op op' a b c) r = (bor a (fun r => ev C a r) r).bind fun x r1 => (bor b (fun r => ev C b r) r1).bind fun y r2 => (op2 (fun u v => boolV (cmpD op u v)) x y r2).bind fun q r3 => match q.d with
    | .bl true => (bor c (fun r => ev C c r) r3).bind fun z r4 => op2 (fun u v => boolV (cmpD op' u v)) y z r4
    | .bl false => .ok (.sh (.bl false)) r3
    | _ => .bad := by simp only [ev] <;> rfl
@[simp] theorem q_bi {b : BI} : ev C (.bi b es) r = (evA C es r).bind fun xs r1 => opn (biD b) xs r1 := by simp only [ev]
@[simp] theorem q_bits : ev C (.bits a) r = (bor a (fun r => ev C a r) r).bind fun x r1 => op1 (fun d => (mtD .bitlen d []).map Val.sh) x r1 := by simp only [ev]
@[simp] theorem q_mth {m : MT} : ev C (.mth m a es) r = (bor a (fun r => ev C a r) r).bind fun x r1 => if lstB r1 x = true then (evA C es r1).bind fun xs r2 => opn (fun l => match l with | d :: ds => (mtD m d ds).map Val.sh | [] => none) (x :: xs) r2 else .bad := by simp only [ev] <;> rfl
@[simp] theorem q_mut {m : MU} : ev C (.mut m i es) r = if lstAt r i then (evs C es r).bind fun ds r1 => (R.of ((r1.own? i).bind fun o => (muD m o ds).bind fun p => (r1.chg i p.1).map fun r2 => (Val.sh p.2, r2)) r1).bind (fun q _ => .ok q.1 q.2) else .bad := by simp only [ev]
@[simp] theorem q_isi {t : Ty} : ev C (.isi a t) r = (bor a (fun r => ev C a r) r).bind fun x r1 => op1 (fun u => boolV (isiD u t)) x r1 := by simp only [ev]
@[simp] theorem q_evs0 : evs C [] r = .ok [] r := by simp only [evs]
@[simp] theorem q_evs : evs C (a :: es) r = (ev C a r).bind fun v r1 => (evs C es r1).bind fun vs r2 => .ok (v.d :: vs) r2 := by simp only [evs]
@[simp] theorem q_evA0 : evA C [] r = .ok [] r := by simp only [evA]
@[simp] theorem q_evA : evA C (a :: es) r = (bor a (fun r => ev C a r) r).bind fun x r1 => (evA C es r1).bind fun xs r2 => .ok (x :: xs) r2 := by simp only [evA]
@[simp] theorem q_evV0 : evV C [] r = .ok [] r := by simp only [evV]
@[simp] theorem q_evV : evV C (a :: es) r = (ev C a r).bind fun v r1 => (evV C es r1).bind fun vs r2 => .ok (v :: vs) r2 := by simp only [evV]
@[simp] theorem q_tval : evT C (.val a) r = (bor a (fun r => ev C a r) r).bind fun x r1 => R.of (match res r1 [x] with | some [a] => tru a | _ => none) r1 := by simp only [evT] <;> rfl
@[simp] theorem q_tnot {t : Z.T} : evT C (.not t) r = (evT C t r).bind fun b r1 => .ok (!b) r1 := by simp only [evT]
@[simp] theorem q_tand {t u : Z.T} : evT C (.and t u) r = (evT C t r).bind fun k r1 => if k = true then evT C u r1 else .ok false r1 := by simp only [evT]
@[simp] theorem q_tor {t u : Z.T} : evT C (.or t u) r = (evT C t r).bind fun k r1 => if k = true then .ok true r1 else evT C u r1 := by simp only [evT]
@[simp] theorem q_evC0 : evC C [] r = .ok true r := by simp only [evC]
@[simp] theorem q_evC {t : Z.T} {ts : List Z.T} : evC C (t :: ts) r = (evT C t r).bind fun k r1 => if k = true then evC C ts r1 else .ok false r1 := by simp only [evC]
@[simp] theorem q_ie : evI C (.e a) r = (ev C a r).bind fun v r1 => R.of (itemsD v.d) r1 := by simp only [evI]
theorem q_rng1 : evI C (.rng1 a) r = (bor a (fun r => ev C a r) r).bind fun x r1 => R.of ((res r1 [x]).bind rngD) r1 := by
  simp only [evI]
  congr 1
  funext x r1
  rcases res_one r1 x with h | ⟨u, h⟩
  · rw [h]; rfl
  · rw [h]; rfl
theorem q_rng2 : evI C (.rng2 a b) r = (bor a (fun r => ev C a r) r).bind fun x r1 => (bor b (fun r => ev C b r) r1).bind fun y r2 => R.of ((res r2 [x, y]).bind rngD) r2 := by
  simp only [evI]
  congr 1
  funext x r1
  congr 1
  funext y r2
  rcases res_two r2 x y with h | ⟨u, v, h⟩
  · rw [h]; rfl
  · rw [h]; rfl
@[simp] theorem q_enm : evI C (.enm a) r = (ev C a r).bind fun v r1 => R.of ((lstD v.d).map enumD) r1 := by simp only [evI]
@[simp] theorem q_zv {i : Nat} {es : List E} {r : En} : evI C (.zv i es) r = match r[i]? with | some .no => (evs C es r).bind fun ds r1 => R.of (zipD true ds) r1 | _ => .bad := by simp only [evI] <;> rfl
@[simp] theorem q_zip {k : Bool} : evI C (.zip k es) r = (evs C es r).bind fun ds r1 => R.of (zipD k ds) r1 := by simp only [evI]
@[simp] theorem q_rvd : evI C (.rvd a) r = (ev C a r).bind fun v r1 => R.of ((lstD v.d).map List.reverse) r1 := by simp only [evI]
@[simp] theorem q_borv {f : En → R Val} : bor (.var i) f r = if (r.rd i).isSome = true then .ok (.inl i) r else .bad := rfl
@[simp] theorem q_rd : En.rd r i = (r[i]?).bind Sl.d? := rfl
@[simp] theorem q_res0 : res r [] = some [] := rfl
@[simp] theorem q_resl {l : List (Nat ⊕ D)} : res r (.inl i :: l) = (r.rd i).bind fun d => (res r l).map (d :: ·) := rfl
@[simp] theorem q_resr {l : List (Nat ⊕ D)} : res r (.inr d :: l) = (res r l).map (d :: ·) := rfl
@[simp] theorem q_op1 {f : D → Option Val} {u : Nat ⊕ D} : op1 f u r = R.of (match res r [u] with | some [a] => f a | _ => none) r := rfl
@[simp] theorem q_op2 {f : D → D → Option Val} {u v : Nat ⊕ D} : op2 f u v r = R.of (match res r [u, v] with | some [a, b] => f a b | _ => none) r := rfl
@[simp] theorem q_op3 {f : D → D → D → Option Val} {u v w : Nat ⊕ D} : op3 f u v w r = R.of (match res r [u, v, w] with | some [a, b, c] => f a b c | _ => none) r := rfl
@[simp] theorem q_opn {f : List D → Option Val} {l : List (Nat ⊕ D)} : opn f l r = R.of ((res r l).bind f) r := rfl
end
/-! ### comprehensions, loops -/
theorem wip_wip (r : En) (own : List Nat) : wip (wip r own) own = wip r own := by
  apply List.ext_getElem?
  intro j
  by_cases h : j ∈ own
  · have e : ∀ r : En, (wip r own)[j]? = (if j < r.length then some .no else none) := fun r => by
      cases c : (wip r own)[j]? with
      | none =>
        rw [List.getElem?_eq_none_iff, wip_len] at c
        rw [if_neg (by omega)]
      | some x =>
        have := wip_in r h c
        subst this
        have := (List.getElem?_eq_some_iff.mp c).1
        rw [wip_len] at this
        rw [if_pos this]
    rw [e, e, wip_len]
  · rw [wip_out _ h]
theorem back_wip {r0 r : En} {own : List Nat} (h : wip r own = wip r0 own) : back r0 r own = r0 := by
  have hl : r.length = r0.length := by rw [← wip_len r own, h, wip_len]
  apply List.ext_getElem?
  intro j
  by_cases m : j ∈ own
  · cases c : (back r0 r own)[j]? with
    | none =>
      rw [List.getElem?_eq_none_iff, back_len, hl] at c
      rw [List.getElem?_eq_none_iff.mpr c]
    | some x =>
      have e := back_in r0 r m c
      have hj := (List.getElem?_eq_some_iff.mp c).1
      rw [back_len, hl] at hj
      rw [e, List.getD_eq_getElem?_getD, List.getElem?_eq_getElem hj]
      rfl
  · rw [back_out _ _ m, ← wip_out r m, h, wip_out r0 m]
theorem lcF_wip {t : Tg} {fc : En → R Bool} {fe : En → R Val} {own : List Nat} {x : D} {r2 b : En} (h : wip r2 own = b) : lcF t fc fe own x r2 = lcF t fc fe own x b := by
  unfold lcF
  rw [← h, wip_wip]
  cases bindT t x (wip r2 own) <;> rfl
theorem lcL_run {f : D → En → R (Option D)} {own : List Nat} {b : En} (g : D → Option D) : ∀ (l acc : List D) (r : En), (∀ x ∈ l, ∀ r, wip r own = b → ∃ r', f x r = .ok (g x) r' ∧ wip r' own = b) → wip r own = b → acc.length + l.length ≤ LINE →
    ∃ r', lcL f l acc r = .ok (acc ++ l.filterMap g) r' ∧ wip r' own = b
  | [], acc, r, _, hr, _ => ⟨r, by simp [lcL], hr⟩
  | x :: l, acc, r, h, hr, hl => by
    obtain ⟨r1, e1, h1⟩ := h x List.mem_cons_self r hr
    simp only [List.length_cons] at hl
    unfold lcL
    rw [e1]
    cases c : g x with
    | none =>
      obtain ⟨r2, e2, h2⟩ := lcL_run g l acc r1 (fun y m => h y (List.mem_cons_of_mem _ m)) h1 (by omega)
      exact ⟨r2, by simpa [c] using e2, h2⟩
    | some y =>
      obtain ⟨r2, e2, h2⟩ := lcL_run g l (acc ++ [y]) r1 (fun y m => h y (List.mem_cons_of_mem _ m)) h1 (by simp; omega)
      refine ⟨r2, ?_, h2⟩
      simp only [R.nox_ok, R.bind_ok]
      rw [if_pos (by omega), e2]
      simp [c]
/-- a comprehension item by item -/
theorem lc_run {C : Cf} {e : E} {t : Tg} {it : I} {ts : List Z.T} {own : List Nat} {r r1 : En} {l : List D} (g : D → Option D) (hi : evI C it r = .ok l r1) (ho : ownFree r1 own = true) (ht : (tgS t).all own.contains = true) (hl : l.length ≤ LINE)
    (h : ∀ x ∈ l, ∃ r5, lcF t (evC C ts) (ev C e) own x (wip r1 own) = .ok (g x) r5 ∧ wip r5 own = wip r1 own) : ev C (.lc e t it ts own) r = thawL r (l.filterMap g) r1 := by
  rw [q_lc, hi]
  simp only [R.bind_ok]
  rw [if_pos (by rw [ho, ht]; rfl)]
  obtain ⟨r6, e6, h6⟩ := lcL_run (f := lcF t (evC C ts) (ev C e) own) (own := own) (b := wip r1 own) g l [] (wip r1 own) (fun x m r hr => by
    obtain ⟨r5, e5, h5⟩ := h x m
    exact ⟨r5, by rw [lcF_wip hr]; exact e5, h5⟩) (wip_wip _ _) (by simpa using hl)
  show (lcL (lcF t (evC C ts) (ev C e) own) l [] (wip r1 own)).bind _ = _
  rw [e6]
  simp only [R.bind_ok, List.nil_append]
  rw [back_wip h6]
theorem forL_run {f : D → En → O} (Iv : Nat → En → Prop) : ∀ (l : List D) (i : Nat) (r : En), (∀ (j : Nat) (x : D) (r : En), l[j]? = some x → Iv (i + j) r → ∃ r', f x r = .nx r' ∧ Iv (i + j + 1) r') → Iv i r → ∃ r', forL f l r = .nx r' ∧ Iv (i + l.length) r'
  | [], i, r, _, h => ⟨r, rfl, h⟩
  | x :: l, i, r, h, h0 => by
    obtain ⟨r1, e1, h1⟩ := h 0 x r rfl h0
    obtain ⟨r2, e2, h2⟩ := forL_run Iv l (i + 1) r1 (fun j y r q w => by
      have := h (j + 1) y r (by simpa using q) (by rw [show i + (j + 1) = i + 1 + j by omega]; exact w)
      rw [show i + (j + 1) + 1 = i + 1 + j + 1 by omega] at this
      exact this) h1
    refine ⟨r2, ?_, ?_⟩
    · unfold forL
      rw [e1]
      exact e2
    · rw [show i + (x :: l).length = i + 1 + l.length by simp; omega]
      exact h2
theorem sm62_of {i : Int} (h : 0 ≤ i) (h2 : i ≤ 1000000000) : sm62 i = true := by
  rw [sm62_iff]
  omega
theorem rngD_two {a b : Int} (h : sm62 a = true) (h2 : sm62 b = true) : rngD [.int a, .int b] = some ((rangeI a b 1).map .int) := by
  show (if (sm62 a && sm62 b) = true then _ else none) = _
  rw [h, h2]
  rfl
theorem rngD_one {b : Int} (h2 : sm62 b = true) : rngD [.int b] = some ((rangeI 0 b 1).map .int) := by
  show (if sm62 b = true then _ else none) = _
  rw [h2]
  rfl
theorem rng2_eq {C : Cf} {a b : E} {r r1 r2 : En} {x y : Nat ⊕ D} {i j : Int} (ha : bor a (fun r => ev C a r) r = .ok x r1) (hb : bor b (fun r => ev C b r) r1 = .ok y r2) (hr : res r2 [x, y] = some [.int i, .int j]) (h : 0 ≤ i ∧ i ≤ 1000000000) (h2 : 0 ≤ j ∧ j ≤ 1000000000) :
    evI C (.rng2 a b) r = .ok ((rangeI i j 1).map .int) r2 := by
  rw [q_rng2, ha, R.bind_ok, hb, R.bind_ok, hr, Option.bind_some, rngD_two (sm62_of h.1 h.2) (sm62_of h2.1 h2.2), R.of_some]
theorem rng1_eq {C : Cf} {b : E} {r r2 : En} {y : Nat ⊕ D} {j : Int} (hb : bor b (fun r => ev C b r) r = .ok y r2) (hr : res r2 [y] = some [.int j]) (h2 : 0 ≤ j ∧ j ≤ 1000000000) :
    evI C (.rng1 b) r = .ok ((rangeI 0 j 1).map .int) r2 := by
  rw [q_rng1, hb, R.bind_ok, hr, Option.bind_some, rngD_one (sm62_of h2.1 h2.2), R.of_some]
theorem thw_self : ∀ r : En, thw r r = none ∨ thw r r = some r
  | [] => .inr rfl
  | y :: r => by
    have h1 : thw1 y y = none ∨ thw1 y y = some y := by
      cases y with
      | no => exact .inr rfl
      | sh d => exact .inr rfl
      | ow d =>
        by_cases c : shal d = true
        · exact .inr (show (if shal d then some (Sl.ow d) else none) = _ by rw [if_pos c])
        · exact .inl (show (if shal d then some (Sl.ow d) else none) = _ by rw [if_neg c])
      | io d =>
        by_cases c : shal d = true
        · exact .inr (show (if shal d then some (Sl.io d) else none) = _ by rw [if_pos c])
        · exact .inl (show (if shal d then some (Sl.io d) else none) = _ by rw [if_neg c])
    simp only [thw]
    rcases h1 with e | e <;> rcases thw_self r with q | q <;> simp [e, q]
theorem thawL_self (r : En) (ds : List D) : thawL r ds r = .ok (.ow (.lst ds)) r := by
  unfold thawL
  split
  · rcases thw_self r with e | e <;> rw [e]
  · rfl
section
variable {C : Cf} {r : En} {i : Nat} {a b : E}
@[simp] theorem iv_din {n : Bool} : isVar (.din n a i) = none := rfl
@[simp] theorem iv_dk0 : isVar .dk0 = none := rfl
@[simp] theorem qb_din {n : Bool} {f : En → R Val} : bor (.din n a i) f r = (f r).bind fun v r1 => .ok (.inr v.d) r1 := rfl
@[simp] theorem iv_dls : isVar (.dls i) = none := rfl
@[simp] theorem iv_dget : isVar (.dget i a) = none := rfl
@[simp] theorem iv_dcz {j : Nat} {it : I} : isVar (.dcz i j it) = none := rfl
@[simp] theorem qb_dls {f : En → R Val} : bor (.dls i) f r = (f r).bind fun v r1 => .ok (.inr v.d) r1 := rfl
@[simp] theorem qb_dget {f : En → R Val} : bor (.dget i a) f r = (f r).bind fun v r1 => .ok (.inr v.d) r1 := rfl
@[simp] theorem qb_dcz {j : Nat} {it : I} {f : En → R Val} : bor (.dcz i j it) f r = (f r).bind fun v r1 => .ok (.inr v.d) r1 := rfl
@[simp] theorem q_dls : ev C (.dls i) r = match r[i]? with | some (.ow (.dts ks)) => .ok (.ow (.lst (ks.map tupK))) r | _ => .bad := by simp only [ev] <;> rfl
@[simp] theorem q_dget : ev C (.dget i a) r = if (r.rd i).isSome = true then (ev C a r).bind fun v r1 => (match r1.rd i, v.d with | some (.dct ks vs), .int n => R.of ((dgetL ks vs n).map .sh) r1 | _, _ => .bad) else .bad := by simp only [ev] <;> rfl
@[simp] theorem q_dcz {j : Nat} {it : I} : ev C (.dcz i j it) r = (evI C it r).bind fun l r1 => if noAt r1 [i, j] && decide (i ≠ j) && decide (l.length ≤ 100000) then R.of (dictF [.lst l]) r1 else .bad := by simp only [ev]
@[simp] theorem qb_dk0 {f : En → R Val} : bor .dk0 f r = (f r).bind fun v r1 => .ok (.inr v.d) r1 := rfl
@[simp] theorem q_dk0 : ev C .dk0 r = .ok (.ow (.dct [] [])) r := by simp only [ev]
@[simp] theorem q_din {n : Bool} : ev C (.din n a i) r = (ev C a r).bind fun v r1 => match r1[i]?, v.d with
    | some (.ow (.dts ks)), .tup l => (match keysD l with
      | some kk => .ok (.sh (.bl (xor n (ks.any fun x => decide (x = kk))))) r1
      | none => .bad)
    | _, _ => .bad := by simp only [ev] <;> rfl
@[simp] theorem iv_rev : isVar (.rev a) = none := rfl
@[simp] theorem q_dk : evI C (.dk i) r = match r[i]? with | some (.ow (.dts ks)) => .ok (ks.map tupK) (r.set i .no) | _ => .bad := by simp only [evI] <;> rfl
@[simp] theorem iv_dzp {es : List E} : isVar (.dzp es) = none := rfl
@[simp] theorem qb_dzp {es : List E} {f : En → R Val} : bor (.dzp es) f r = (f r).bind fun v r1 => .ok (.inr v.d) r1 := rfl
@[simp] theorem q_dzp {es : List E} : ev C (.dzp es) r = (evs C es r).bind fun ds r1 => R.of ((zipD true ds).bind fun l => dictF [.lst l]) r1 := by simp only [ev]
@[simp] theorem qr_dzp {es : List E} : retV C (.dzp es) r = ev C (.dzp es) r := rfl
@[simp] theorem qb_rev {f : En → R Val} : bor (.rev a) f r = (f r).bind fun v r1 => .ok (.inr v.d) r1 := rfl
@[simp] theorem qr_dls : retV C (.dls i) r = ev C (.dls i) r := rfl
@[simp] theorem qr_dget : retV C (.dget i a) r = ev C (.dget i a) r := rfl
@[simp] theorem qr_dcz {j : Nat} {it : I} : retV C (.dcz i j it) r = ev C (.dcz i j it) r := rfl
@[simp] theorem qr_rev : retV C (.rev a) r = ev C (.rev a) r := rfl
@[simp] theorem q_rev : ev C (.rev a) r = (bor a (fun r => ev C a r) r).bind fun x r1 => op1 revD x r1 := by simp only [ev]
end
end Z
/-! YB: defs that many laws use (rows printed by zprint.py), and what they yield. -/
namespace Z
open PySem (Str Operator CmpOp)
/-- is_whole -/
def s_is_whole : List S :=
  [.ret (.and (.isi (.var 0) .int) (.not (.isi (.var 0) .bool)))]
def d_is_whole : Df := { modes := [false], names := 1, body := s_is_whole }
/-- is_between -/
def s_is_between : List S :=
  [.ite (.not (.val (.call 0 [.var 0] [] []))) [.ret (.con (.bl false))] [],
    .ret (.and (.or (.cmp .Is (.var 1) (.con .non)) (.cmp .GtE (.var 0) (.var 1))) (.or (.cmp .Is (.var 2) (.con .non)) (.cmp .LtE (.var 0) (.var 2))))]
def d_is_between : Df := { modes := [false, false, false], names := 3, body := s_is_between }
/-- power_of_two -/
def s_power_of_two : List S :=
  [.ret (.bin .LShift (.con (.int 1)) (.var 0))]
def d_power_of_two : Df := { modes := [false], names := 1, body := s_power_of_two }
/-- twos -/
def s_twos : List S :=
  [.asg (.v 1) (.con (.int 0)),
    .whl (.val (.cmp .Eq (.bin .Mod (.var 0) (.con (.int 2))) (.con (.int 0)))) [.par [0, 1] [.bin .FloorDiv (.var 0) (.con (.int 2)), .bin .Add (.var 1) (.con (.int 1))]],
    .ret (.var 1)]
def d_twos : Df := { modes := [false], names := 2, body := s_twos }
/-- good_row -/
def s_good_row : List S :=
  [.par [1, 2, 3, 4] [.lst [], .lst [], .bi .list [.var 0], .bin .Mult (.lst [.con (.int 0)]) (.bi .len [.var 0])],
    .whl (.val (.cmp .NotEq (.var 3) (.lst []))) [.asg (.v 5) (.mth .index (.var 4) [.bi .min [.var 4]]),
    .asg (.v 6) (.mut .popAt 3 [.var 5]),
    .ex (.mut .append 1 [.var 6]),
    .ex (.mut .append 2 [.mut .popAt 4 [.var 5]]),
    .asg (.v 4) (.lc (.bin .Add (.var 7) (.call 4 [.bin .Sub (.var 8) (.var 6)] [] [])) (.t [.v 7, .v 8]) (.zip true [.var 4, .var 3]) [] [7, 8])],
    .ret (.tup [.var 1, .var 2])]
def d_good_row : Df := { modes := [false], names := 9, body := s_good_row }
/-- is_width -/
def s_is_width : List S :=
  [.ret (.call 1 [.var 0, .con (.int 1), .con (.int 64)] [] [])]
def d_is_width : Df := { modes := [false], names := 1, body := s_is_width }
/-- check_width -/
def s_check_width : List S :=
  [.ite (.not (.val (.call 8 [.var 0] [] []))) [.nev] []]
def d_check_width : Df := { modes := [false], names := 1, body := s_check_width }
/-- is_of_width -/
def s_is_of_width : List S :=
  [.ret (.call 1 [.var 1, .con (.int 0), .bin .Sub (.call 3 [.var 0] [] []) (.con (.int 1))] [] [])]
def d_is_of_width : Df := { modes := [false, false], names := 2, body := s_is_of_width }
/-- rises -/
def s_rises : List S :=
  [.ret (.cmp .Eq (.lc (.var 1) (.v 1) (.rng2 (.con (.int 1)) (.bi .len [.var 0])) [.val (.cmp .GtE (.idx (.var 0) (.bin .Sub (.var 1) (.con (.int 1)))) (.idx (.var 0) (.var 1)))] [1]) (.lst []))]
def d_rises : Df := { modes := [false], names := 2, body := s_rises }
/-- are_places -/
def s_are_places : List S :=
  [.ite (.or (.not (.val (.isi (.var 1) .list))) (.val (.cmp .Eq (.var 1) (.lst [])))) [.ret (.con (.bl false))] [],
    .ret (.and (.cmp .Eq (.lc (.var 2) (.v 2) (.e (.var 1)) [.not (.val (.call 10 [.var 0, .var 2] [] []))] [2]) (.lst [])) (.call 11 [.var 1] [] []))]
def d_are_places : Df := { modes := [false, false], names := 3, body := s_are_places }
/-- check_places -/
def s_check_places : List S :=
  [.ex (.call 9 [.var 0] [] []),
    .ite (.not (.val (.call 12 [.var 0, .var 1] [] []))) [.nev] []]
def d_check_places : Df := { modes := [false, false], names := 2, body := s_check_places }
section
variable {Pg : Nat → Option Df} {fuel k : Nat}
theorem m_is_whole (h0 : Pg 0 = some d_is_whole) (fuel k : Nat) (i : Int) : callD Pg fuel (k + 1) 0 [.int i] = .ok (.sh (.bl true)) [] := by
  rw [callD_eq h0 ⟨rfl, Nat.le_refl _⟩]
  simp [d_is_whole, s_is_whole, En.start, Sl.d?, isiD, boolV, tru, O.cr, outsOf]
theorem m_is_between (h0 : Pg 0 = some d_is_whole) (h1 : Pg 1 = some d_is_between) (fuel k : Nat) (i a b : Int) : callD Pg fuel (k + 2) 1 [.int i, .int a, .int b] = .ok (.sh (.bl (decide (a ≤ i ∧ i ≤ b)))) [] := by
  rw [callD_eq h1 ⟨rfl, Nat.le_refl _⟩]
  have e := m_is_whole h0 fuel k i
  simp [d_is_between, s_is_between, En.start, Sl.d?, isiD, boolV, tru, O.cr, outsOf, h0, d_is_whole, callR, argsOk, inouts, plains, apart, after, frzs, frz1, e, cmpD, isD, ordI, scal, flat, chgs]
  by_cases c : a ≤ i <;> simp [c]
theorem m_power_of_two (h3 : Pg 3 = some d_power_of_two) (fuel k : Nat) (n : Nat) (hn : n ≤ 100) : callD Pg fuel (k + 1) 3 [.int n] = .ok (.sh (.int (2 ^ n))) [] := by
  rw [callD_eq h3 ⟨rfl, Nat.le_refl _⟩]
  have b1 : bits 1 = 1 := by decide
  have c : (0 : Int) ≤ (n : Int) ∧ bits 1 + (n : Int).toNat ≤ 1000000 := by rw [b1]; omega
  simp [d_power_of_two, s_power_of_two, En.start, Sl.d?, O.cr, outsOf, binD, binI, c]
  rw [if_pos (by rw [b1]; omega)]
  rfl
theorem m_is_width (h0 : Pg 0 = some d_is_whole) (h1 : Pg 1 = some d_is_between) (h8 : Pg 8 = some d_is_width) (fuel k : Nat) (w : Int) : callD Pg fuel (k + 3) 8 [.int w] = .ok (.sh (.bl (decide (1 ≤ w ∧ w ≤ 64)))) [] := by
  rw [callD_eq h8 ⟨rfl, Nat.le_refl _⟩]
  have e := m_is_between h0 h1 fuel k w 1 64
  simp [d_is_width, s_is_width, En.start, Sl.d?, O.cr, outsOf, h1, d_is_between, callR, argsOk, inouts, plains, apart, after, frzs, frz1, e, scal, flat, chgs]
theorem m_check_width (h0 : Pg 0 = some d_is_whole) (h1 : Pg 1 = some d_is_between) (h8 : Pg 8 = some d_is_width) (h9 : Pg 9 = some d_check_width) (fuel k : Nat) (w : Int) (hw : 1 ≤ w ∧ w ≤ 64) : callD Pg fuel (k + 4) 9 [.int w] = .ok (.sh .non) [] := by
  rw [callD_eq h9 ⟨rfl, Nat.le_refl _⟩]
  have e := m_is_width h0 h1 h8 fuel k w
  rw [decide_eq_true hw] at e
  simp [d_check_width, s_check_width, En.start, Sl.d?, O.cr, outsOf, h8, d_is_width, callR, argsOk, inouts, plains, apart, after, frzs, frz1, e, scal, flat, chgs, tru]
theorem m_is_of_width (h0 : Pg 0 = some d_is_whole) (h1 : Pg 1 = some d_is_between) (h3 : Pg 3 = some d_power_of_two) (h10 : Pg 10 = some d_is_of_width) (fuel k : Nat) (w : Nat) (hw : w ≤ 64) (i : Int) : callD Pg fuel (k + 3) 10 [.int w, .int i] = .ok (.sh (.bl (decide (0 ≤ i ∧ i ≤ 2 ^ w - 1)))) [] := by
  rw [callD_eq h10 ⟨rfl, Nat.le_refl _⟩]
  have e := m_is_between h0 h1 fuel k i 0 (2 ^ w - 1)
  have e2 := m_power_of_two h3 fuel (k + 1) w (by omega)
  simp [d_is_of_width, s_is_of_width, En.start, Sl.d?, O.cr, outsOf, h1, h3, d_is_between, d_power_of_two, callR, argsOk, inouts, plains, apart, after, frzs, frz1, e, e2, scal, flat, chgs, binD, binI]
/-- how often two goes into it -/
def v2 (n : Int) : Nat := if h : n ≠ 0 ∧ n % 2 = 0 then v2 (n / 2) + 1 else 0
termination_by n.natAbs
decreasing_by omega
theorem v2_even {n : Int} (h : n ≠ 0) (e : n % 2 = 0) : v2 n = v2 (n / 2) + 1 := by
  rw [v2]
  rw [dif_pos ⟨h, e⟩]
theorem v2_odd {n : Int} (e : n % 2 ≠ 0) : v2 n = 0 := by
  rw [v2]
  rw [dif_neg fun z => e z.2]
theorem twos_loop {C : Cf} : ∀ (m : Nat) (n : Int) (f : Int), n ≠ 0 → n.natAbs < 2 ^ m →
    ∃ n' : Int, whlL (evT C (.val (.cmp .Eq (.bin .Mod (.var 0) (.con (.int 2))) (.con (.int 0))))) (xs C [.par [0, 1] [.bin .FloorDiv (.var 0) (.con (.int 2)), .bin .Add (.var 1) (.con (.int 1))]]) (m + 1) [.sh (.int n), .sh (.int f)] = .nx [.sh (.int n'), .sh (.int (f + v2 n))]
  | 0, n, f, h, b => by
    exfalso
    have : n.natAbs < 1 := b
    omega
  | m + 1, n, f, h, b => by
    have b2 : (0 : Int) < 2 ∧ bits 2 ≤ 9000 := by decide
    rw [whlL]
    by_cases e : n % 2 = 0
    · have hn : n / 2 ≠ 0 := by omega
      have hb : (n / 2).natAbs < 2 ^ m := by
        have : 2 ^ (m + 1) = 2 * 2 ^ m := by rw [Nat.pow_succ, Nat.mul_comm]
        omega
      obtain ⟨n', q⟩ := twos_loop (C := C) m (n / 2) (f + 1) hn hb
      refine ⟨n', ?_⟩
      have hv : f + (v2 n : Int) = f + 1 + (v2 (n / 2) : Int) := by rw [v2_even h e]; omega
      rw [hv, ← q]
      simp [Sl.d?, cmpD, okq, lay, dep, eqv, boolV, binD, binI, e, b2, tru, puts, En.put]
    · refine ⟨n, ?_⟩
      rw [v2_odd e]
      simp [Sl.d?, cmpD, okq, lay, dep, eqv, boolV, binD, binI, e, tru]
theorem m_twos (h4 : Pg 4 = some d_twos) (k m : Nat) (n : Int) (hn : n ≠ 0) (hb : n.natAbs < 2 ^ m) (hf : m + 1 ≤ fuel) : callD Pg fuel (k + 1) 4 [.int n] = .ok (.sh (.int (v2 n))) [] := by
  rw [callD_eq h4 ⟨rfl, Nat.le_of_ble_eq_true rfl⟩]
  obtain ⟨f, rfl⟩ : ∃ f, fuel = f + 1 := ⟨fuel - 1, by omega⟩
  have hb2 : n.natAbs < 2 ^ f := Nat.lt_of_lt_of_le hb (Nat.pow_le_pow_right (by decide) (by omega))
  obtain ⟨n', q⟩ := twos_loop (C := Cz Pg (f + 1) k) f n 0 hn hb2
  simp only [Int.zero_add] at q
  simp [d_twos, s_twos, En.start, En.put, O.cr, outsOf]
  rw [q]
  simp [O.cr, outsOf]
end
end Z
/-! YC: rows of places: rises, are_places, check_places. -/
namespace Z
open PySem (Str Operator CmpOp)
/-- a list of whole numbers as data -/
abbrev il (l : List Int) : D := .lst (l.map .int)
theorem at_il (l : List Int) (i : Nat) (h : i < l.length) : atL (l.map .int) (i : Int) = some (.int l[i]) := by
  unfold atL ixN
  rw [if_pos (by omega), if_pos (by simp; omega)]
  simp [h]
theorem rng_mem {n : Nat} {d : D} (h : d ∈ (rangeI 1 n 1).map D.int) : ∃ i : Nat, d = .int (i + 1 : Nat) ∧ i + 1 < n := by
  obtain ⟨z, hz, rfl⟩ := List.mem_map.mp h
  unfold rangeI rangeN at hz
  rw [if_pos rfl] at hz
  obtain ⟨i, hi, rfl⟩ := List.mem_map.mp hz
  have := List.mem_range.mp hi
  refine ⟨i, ?_, by omega⟩
  congr 1
  omega
theorem rng_len (a b : Int) : ((rangeI a b 1).map D.int).length = (b - a).toNat := by
  unfold rangeI rangeN
  rw [if_pos rfl]
  simp
section
variable {Pg : Nat → Option Df} {fuel k : Nat}
theorem m_rises (h11 : Pg 11 = some d_rises) (ps : List Int) (hl : ps.length ≤ 100000) (hs : ps.Pairwise (· < ·)) : callD Pg fuel (k + 1) 11 [il ps] = .ok (.sh (.bl true)) [] := by
  rw [callD_eq h11 ⟨rfl, Nat.le_of_ble_eq_true rfl⟩]
  have e := lc_run (C := Cz Pg fuel k) (e := .var 1) (t := .v 1) (it := .rng2 (.con (.int 1)) (.bi .len [.var 0])) (ts := [.val (.cmp .GtE (.idx (.var 0) (.bin .Sub (.var 1) (.con (.int 1)))) (.idx (.var 0) (.var 1)))]) (own := [1]) (r := [.sh (il ps), .no]) (r1 := [.sh (il ps), .no])
    (l := (rangeI 1 ps.length 1).map .int) (fun _ => none) ?a rfl rfl ?b ?c
  case a =>
    exact rng2_eq (r1 := [.sh (il ps), .no]) (x := .inr (.int 1)) (y := .inr (.int ps.length)) (by simp) (by simp [Sl.d?, biD, lenF, lenD]) rfl (by omega) (by omega)
  case b =>
    rw [rng_len]
    have : (LINE : Nat) = 16777216 := rfl
    omega
  case c =>
    intro x hx
    obtain ⟨i, rfl, hi⟩ := rng_mem hx
    refine ⟨[.sh (il ps), .sh (.int (i + 1 : Nat))], ?_, rfl⟩
    have e1 : atL (ps.map .int) (i : Int) = some (.int ps[i]) := at_il ps i (by omega)
    have e2 : atL (ps.map .int) ((i : Int) + 1) = some (.int ps[i + 1]) := at_il ps (i + 1) hi
    have lt : ps[i] < ps[i + 1] := List.pairwise_iff_getElem.mp hs i (i + 1) (by omega) hi (by omega)
    have e3 : decide (ps[i + 1] ≤ ps[i]) = false := decide_eq_false (by omega)
    simp only [lcF, wip, bindT, En.put]
    simp [Sl.d?, binD, binI, idxD, e1, e2, cmpD, ordI, boolV, tru, e3]
  rw [show List.filterMap (fun _ => (none : Option D)) ((rangeI 1 ps.length 1).map D.int) = [] from by simp] at e
  simp [d_rises, s_rises, En.start, e, thawL, thw, thw1]
  simp [Sl.d?, cmpD, okq, lay, lays, dep, deps, eqv, eqvs, boolV, O.cr, outsOf]
theorem lays_il : ∀ l : List Int, lays (l.map .int) = true
  | [] => rfl
  | x :: l => by simp [lays, lay, lays_il l]
theorem deps_il : ∀ l : List Int, deps (l.map .int) = 0
  | [] => rfl
  | x :: l => by simp [deps, dep, deps_il l]
theorem okq_il (l : List Int) : okq (il l) = true := by simp [okq, lay, dep, lays_il, deps_il]
theorem eqvs_il : ∀ l m : List Int, eqvs (l.map .int) (m.map .int) = decide (l = m)
  | [], [] => by simp [eqvs]
  | [], _ :: _ => by simp [eqvs]
  | _ :: _, [] => by simp [eqvs]
  | x :: l, y :: m => by
    simp only [List.map_cons, eqvs, eqv, eqvs_il l m]
    by_cases h : x = y <;> simp [h]
theorem cmp_il_eq (l m : List Int) : cmpD .Eq (il l) (il m) = some (decide (l = m)) := by
  unfold cmpD
  rw [okq_il, okq_il]
  simp [eqv, eqvs_il]
theorem cmp_il_ne (l m : List Int) : cmpD .NotEq (il l) (il m) = some (!decide (l = m)) := by
  unfold cmpD
  rw [okq_il, okq_il]
  simp [eqv, eqvs_il]
theorem cmp_il_nil (l : List Int) : cmpD .Eq (.lst (l.map .int)) (.lst []) = some (decide (l = [])) := cmp_il_eq l []
theorem cmp_il_nnil (l : List Int) : cmpD .NotEq (.lst (l.map .int)) (.lst []) = some (!decide (l = [])) := cmp_il_ne l []
theorem m_are_places (h0 : Pg 0 = some d_is_whole) (h1 : Pg 1 = some d_is_between) (h3 : Pg 3 = some d_power_of_two) (h10 : Pg 10 = some d_is_of_width) (h11 : Pg 11 = some d_rises) (h12 : Pg 12 = some d_are_places) (w : Nat) (hw : w ≤ 64) (ps : List Int) (hl : ps.length ≤ 100000) (hn : ps ≠ [])
    (hs : ps.Pairwise (· < ·)) (hr : ∀ x ∈ ps, 0 ≤ x ∧ x ≤ 2 ^ w - 1) : callD Pg fuel (k + 4) 12 [.int w, il ps] = .ok (.sh (.bl true)) [] := by
  rw [callD_eq h12 ⟨rfl, Nat.le_of_ble_eq_true rfl⟩]
  have e := lc_run (C := Cz Pg fuel (k + 3)) (e := .var 2) (t := .v 2) (it := .e (.var 1)) (ts := [.not (.val (.call 10 [.var 0, .var 2] [] []))]) (own := [2]) (r := [.sh (.int w), .sh (il ps), .no]) (r1 := [.sh (.int w), .sh (il ps), .no])
    (l := ps.map .int) (fun _ => none) ?a rfl rfl ?b ?c
  case a => simp [itemsD]
  case b =>
    have : (LINE : Nat) = 16777216 := rfl
    rw [List.length_map]
    omega
  case c =>
    intro x hx
    obtain ⟨p, hp, rfl⟩ := List.mem_map.mp hx
    refine ⟨[.sh (.int w), .sh (il ps), .sh (.int p)], ?_, rfl⟩
    have e1 := m_is_of_width h0 h1 h3 h10 fuel k w hw p
    rw [decide_eq_true (hr p hp)] at e1
    simp only [lcF, wip, bindT, En.put]
    simp [Sl.d?, callR, h10, d_is_of_width, argsOk, inouts, plains, apart, after, frzs, frz1, e1, scal, flat, chgs, tru]
  rw [show List.filterMap (fun _ => (none : Option D)) (ps.map D.int) = [] from by simp] at e
  have e2 := m_rises (fuel := fuel) (k := k + 2) h11 ps hl hs
  have e3 : cmpD .Eq (D.lst []) (D.lst []) = some true := cmp_il_eq [] []
  simp [d_are_places, s_are_places, En.start, Sl.d?, isiD, boolV, tru, cmp_il_nil, hn, e, thawL, thw, thw1, e2, e3, callR, h11, d_rises, argsOk, inouts, plains, apart, after, frzs, frz1, scal, flat, chgs, O.cr, outsOf]
theorem m_check_places (h0 : Pg 0 = some d_is_whole) (h1 : Pg 1 = some d_is_between) (h3 : Pg 3 = some d_power_of_two) (h8 : Pg 8 = some d_is_width) (h9 : Pg 9 = some d_check_width) (h10 : Pg 10 = some d_is_of_width) (h11 : Pg 11 = some d_rises) (h12 : Pg 12 = some d_are_places) (h13 : Pg 13 = some d_check_places)
    (w : Nat) (hw1 : 1 ≤ w) (hw : w ≤ 64) (ps : List Int) (hl : ps.length ≤ 100000) (hn : ps ≠ []) (hs : ps.Pairwise (· < ·)) (hr : ∀ x ∈ ps, 0 ≤ x ∧ x ≤ 2 ^ w - 1) : callD Pg fuel (k + 5) 13 [.int w, il ps] = .ok (.sh .non) [] := by
  rw [callD_eq h13 ⟨rfl, Nat.le_refl _⟩]
  have e1 := m_check_width h0 h1 h8 h9 fuel k (w : Int) (by omega)
  have e2 := m_are_places (fuel := fuel) (k := k) h0 h1 h3 h10 h11 h12 w hw ps hl hn hs hr
  simp [d_check_places, s_check_places, En.start, Sl.d?, callR, h9, h12, d_check_width, d_are_places, argsOk, inouts, plains, apart, after, frzs, frz1, e1, e2, scal, flat, chgs, tru, O.cr, outsOf]
end
end Z
/-! YD: the greedy order of places, as the def makes it. -/
namespace Z
open PySem (Str Operator CmpOp)
/-- the place of the first of the least -/
def mi : List Int → Nat
  | [] => 0
  | x :: l => if l.all (fun y => decide (x ≤ y)) then 0 else mi l + 1
/-- the sums behind a step -/
def gsum (t : Int) (sums left : List Int) : List Int := sums.zipWith (fun h p => h + (v2 (p - t) : Int)) left
/-- order and numbers from a state on -/
def gr : Nat → List Int → List Int → List Int × List Int
  | 0, _, _ => ([], [])
  | n + 1, left, sums =>
    let i := mi sums
    let t := left.getD i 0
    let q := gr n (left.eraseIdx i) (gsum t (sums.eraseIdx i) (left.eraseIdx i))
    (t :: q.1, sums.getD i 0 :: q.2)
theorem mi_t {x : Int} {l : List Int} (c : l.all (fun y => decide (x ≤ y)) = true) : mi (x :: l) = 0 := if_pos c
theorem mi_f {x : Int} {l : List Int} (c : ¬ l.all (fun y => decide (x ≤ y)) = true) : mi (x :: l) = mi l + 1 := if_neg c
theorem mi_lt : ∀ {l : List Int}, l ≠ [] → mi l < l.length
  | [], h => absurd rfl h
  | x :: l, _ => by
    unfold mi
    split
    · simp
    · rename_i h
      have : l ≠ [] := fun e => by subst e; simp at h
      have := mi_lt this
      simp
      omega
theorem gr_len : ∀ (n : Nat) (left sums : List Int), (gr n left sums).1.length = n ∧ (gr n left sums).2.length = n
  | 0, _, _ => ⟨rfl, rfl⟩
  | n + 1, left, sums => by
    obtain ⟨h1, h2⟩ := gr_len n (left.eraseIdx (mi sums)) (gsum (left.getD (mi sums) 0) (sums.eraseIdx (mi sums)) (left.eraseIdx (mi sums)))
    exact ⟨congrArg (· + 1) h1, congrArg (· + 1) h2⟩
theorem mi_at : ∀ {l : List Int} (h : l ≠ []), (∀ y ∈ l, l[mi l]'(mi_lt h) ≤ y) ∧ ∀ (j : Nat) (hj : j < mi l), l[j]'(Nat.lt_trans hj (mi_lt h)) ≠ l[mi l]'(mi_lt h)
  | [], h => absurd rfl h
  | x :: l, h => by
    by_cases c : l.all (fun y => decide (x ≤ y)) = true
    · have e : mi (x :: l) = 0 := mi_t c
      have c' : ∀ y ∈ l, x ≤ y := fun y m => of_decide_eq_true (List.all_eq_true.mp c y m)
      refine ⟨fun y m => ?_, fun j hj => by omega⟩
      simp only [e, List.getElem_cons_zero]
      rcases List.mem_cons.mp m with rfl | m
      · exact Int.le_refl _
      · exact c' y m
    · have e : mi (x :: l) = mi l + 1 := mi_f c
      have hl : l ≠ [] := fun z => by subst z; simp at c
      obtain ⟨h1, h2⟩ := mi_at hl
      have hx : ∃ y ∈ l, y < x := by
        refine Classical.byContradiction fun z => c (List.all_eq_true.mpr fun y m => decide_eq_true ?_)
        exact Classical.byContradiction fun w => z ⟨y, m, by omega⟩
      obtain ⟨y, my, ly⟩ := hx
      have lt : l[mi l]'(mi_lt hl) < x := Int.lt_of_le_of_lt (h1 y my) ly
      simp only [e, List.getElem_cons_succ]
      refine ⟨fun y m => ?_, fun j hj => ?_⟩
      · rcases List.mem_cons.mp m with rfl | m
        · omega
        · exact h1 y m
      · cases j with
        | zero => simp only [List.getElem_cons_zero]; omega
        | succ j => simp only [List.getElem_cons_succ]; exact h2 j (by omega)
theorem minI_mi {l : List Int} (h : l ≠ []) : minI l = some (l[mi l]'(mi_lt h)) := by
  obtain ⟨h1, _⟩ := mi_at h
  have hm := List.getElem_mem (mi_lt h)
  cases l with
  | nil => exact absurd rfl h
  | cons x r =>
    have q : minI (x :: r) = some (r.foldl min x) := rfl
    obtain ⟨b1, b2⟩ := minI_spec q
    rw [q]
    have := h1 _ b1
    have := b2 _ hm
    congr 1
    omega
theorem indexD_mi {l : List Int} (h : l ≠ []) : indexD (.int (l[mi l]'(mi_lt h))) (l.map .int) = some (mi l) := by
  obtain ⟨_, h2⟩ := mi_at h
  have hm := mi_lt h
  unfold indexD
  rw [List.find?_range_eq_some]
  refine ⟨?_, by simpa using hm, fun j hj => ?_⟩
  · simp [hm, eqv]
  · have hj2 : j < l.length := Nat.lt_trans hj hm
    have := h2 j hj
    simp [hj2, eqv, this]
theorem flat_il (l : List Int) : (l.map D.int).all flat = true := by simp [flat]
theorem mt_mi {l : List Int} (h : l ≠ []) : mtD .index (il l) [.int (l[mi l]'(mi_lt h))] = some (.int (mi l : Nat)) := by
  simp only [mtD, flat_il, flat, Bool.and_true, if_true, indexD_mi h, Option.map_some]
  rfl
theorem ixN_nat {n i : Nat} (h : i < n) : ixN n (i : Int) = some i := by
  unfold ixN
  rw [if_pos (by omega), if_pos (by omega)]
  simp
theorem erase_map : ∀ (l : List Int) (i : Nat), (l.map D.int).eraseIdx i = (l.eraseIdx i).map D.int
  | [], _ => rfl
  | _ :: _, 0 => rfl
  | x :: l, i + 1 => by simp [erase_map l i]
theorem mu_popAt_il {l : List Int} {i : Nat} (h : i < l.length) (hl : l.length ≤ LINE) : muD .popAt (il l) [.int (i : Int)] = some (il (l.eraseIdx i), .int l[i]) := by
  simp only [muD, List.length_map]
  rw [if_pos hl, ixN_nat h]
  simp [h, erase_map]
theorem shal_il (l : List Int) : shal (il l) = true := flat_il l
/-- the comprehension of good_row -/
theorem m_gsum {Pg : Nat → Option Df} {fuel k : Nat} (h4 : Pg 4 = some d_twos) (m : Nat) (hf : m + 1 ≤ fuel) (pl : D) (od nb left sums : List Int) (at_ : D) (t : Int) (hl : sums.length = left.length) (hs : sums.length ≤ 100000) (hd : ∀ p ∈ left, p ≠ t ∧ (p - t).natAbs < 2 ^ m) :
    ev (Cz Pg fuel (k + 1)) (.lc (.bin .Add (.var 7) (.call 4 [.bin .Sub (.var 8) (.var 6)] [] [])) (.t [.v 7, .v 8]) (.zip true [.var 4, .var 3]) [] [7, 8]) [.sh pl, .ow (il od), .ow (il nb), .ow (il left), .ow (il sums), .sh at_, .sh (.int t), .no, .no] =
      .ok (.ow (il (gsum t sums left))) [.sh pl, .ow (il od), .ow (il nb), .ow (il left), .ow (il sums), .sh at_, .sh (.int t), .no, .no] := by
  have e := lc_run (C := Cz Pg fuel (k + 1)) (e := .bin .Add (.var 7) (.call 4 [.bin .Sub (.var 8) (.var 6)] [] [])) (t := .t [.v 7, .v 8]) (it := .zip true [.var 4, .var 3]) (ts := []) (own := [7, 8])
    (r := [.sh pl, .ow (il od), .ow (il nb), .ow (il left), .ow (il sums), .sh at_, .sh (.int t), .no, .no]) (r1 := [.sh pl, .ow (il od), .ow (il nb), .sh (il left), .sh (il sums), .sh at_, .sh (.int t), .no, .no])
    (l := zip2D (sums.map .int) (left.map .int)) (fun d => match d with | .tup [.int h, .int p] => some (.int (h + (v2 (p - t) : Int))) | _ => none) ?a rfl rfl ?b ?c
  case a => simp [zipD, lstD, hl]
  case b =>
    have : (LINE : Nat) = 16777216 := rfl
    simp [zip2D]
    omega
  case c =>
    intro x hx
    obtain ⟨h, p, rfl, hp⟩ : ∃ h p, x = .tup [.int h, .int p] ∧ p ∈ left := by
      obtain ⟨i, hi, q⟩ := List.getElem_of_mem hx
      simp only [zip2D, List.getElem_zipWith, List.getElem_map] at q
      exact ⟨_, _, q.symm, List.getElem_mem _⟩
    obtain ⟨n1, n2⟩ := hd p hp
    have e1 := m_twos (fuel := fuel) h4 k m (p - t) (by omega) n2 hf
    refine ⟨[.sh pl, .ow (il od), .ow (il nb), .sh (il left), .sh (il sums), .sh at_, .sh (.int t), .sh (.int h), .sh (.int p)], ?_, rfl⟩
    simp only [lcF, wip, bindT, bindTs, En.put]
    simp [Sl.d?, callR, h4, d_twos, argsOk, inouts, plains, apart, after, frzs, frz1, e1, scal, flat, chgs, tru, binD, binI, En.put]
  rw [e]
  have q : List.filterMap (fun d => match d with | .tup [.int h, .int p] => some (D.int (h + (v2 (p - t) : Int))) | _ => none) (zip2D (sums.map .int) (left.map .int)) = (gsum t sums left).map .int := by
    clear e hd hl hs
    unfold zip2D gsum
    induction sums generalizing left with
    | nil => rfl
    | cons x l ih =>
      cases left with
      | nil => rfl
      | cons y m' =>
        simp only [List.map_cons, List.zipWith_cons_cons, List.filterMap_cons]
        rw [ih]
  rw [q]
  simp [thawL, thw, thw1, flat_il, shal_il]
  exact fun _ _ => rfl
end Z
/-! YE: good_row's loop. -/
namespace Z
open PySem (Str Operator CmpOp)
abbrev grC : Z.T := .val (.cmp .NotEq (.var 3) (.lst []))
abbrev grB : List S := [.asg (.v 5) (.mth .index (.var 4) [.bi .min [.var 4]]),
    .asg (.v 6) (.mut .popAt 3 [.var 5]),
    .ex (.mut .append 1 [.var 6]),
    .ex (.mut .append 2 [.mut .popAt 4 [.var 5]]),
    .asg (.v 4) (.lc (.bin .Add (.var 7) (.call 4 [.bin .Sub (.var 8) (.var 6)] [] [])) (.t [.v 7, .v 8]) (.zip true [.var 4, .var 3]) [] [7, 8])]
theorem bi_min_il {l : List Int} (h : l ≠ []) : biD .min [il l] = some (.sh (.int (l[mi l]'(mi_lt h)))) := by
  show (Z.intsD (l.map .int)).bind _ = _
  rw [ints_map]
  simp [minI_mi h]
theorem gr_step {Pg : Nat → Option Df} {fuel k : Nat} (h4 : Pg 4 = some d_twos) (m : Nat) (hf : m + 1 ≤ fuel) (pl : D) (od nb left sums : List Int) (y5 y6 : Sl) (hy : (y5 = .no ∧ y6 = .no) ∨ ∃ a b, y5 = .sh a ∧ y6 = .sh b) (hn : left ≠ []) (hl : sums.length = left.length) (hs : sums.length ≤ 100000) (ho : od.length ≤ 100000) (hb : nb.length ≤ 100000)
    (hd : ∀ p ∈ left.eraseIdx (mi sums), p ≠ left.getD (mi sums) 0 ∧ (p - left.getD (mi sums) 0).natAbs < 2 ^ m) :
    xs (Cz Pg fuel (k + 1)) grB [.sh pl, .ow (il od), .ow (il nb), .ow (il left), .ow (il sums), y5, y6, .no, .no] =
      .nx [.sh pl, .ow (il (od ++ [left.getD (mi sums) 0])), .ow (il (nb ++ [sums.getD (mi sums) 0])), .ow (il (left.eraseIdx (mi sums))), .ow (il (gsum (left.getD (mi sums) 0) (sums.eraseIdx (mi sums)) (left.eraseIdx (mi sums)))), .sh (.int (mi sums : Nat)), .sh (.int (left.getD (mi sums) 0)), .no, .no] := by
  have hns : sums ≠ [] := fun e => by subst e; simp at hl; exact hn (List.eq_nil_of_length_eq_zero hl.symm)
  have L : (LINE : Nat) = 16777216 := rfl
  have i1 := mi_lt hns
  have i2 : mi sums < left.length := by omega
  have g1 : left.getD (mi sums) 0 = left[mi sums] := by simp [i2]
  have g2 : sums.getD (mi sums) 0 = sums[mi sums] := by simp [i1]
  rw [g1] at hd
  rw [g1, g2]
  have e1 := mt_mi hns
  have e2 := mu_popAt_il (l := left) i2 (by omega)
  have e3 := mu_popAt_il (l := sums) i1 (by omega)
  have e4 := bi_min_il hns
  have e5 := m_gsum (fuel := fuel) (k := k) h4 m hf pl (od ++ [left[mi sums]]) (nb ++ [sums[mi sums]]) (left.eraseIdx (mi sums)) (sums.eraseIdx (mi sums)) (.int (mi sums : Nat)) left[mi sums] (by rw [List.length_eraseIdx_of_lt i1, List.length_eraseIdx_of_lt i2, hl]) (by rw [List.length_eraseIdx_of_lt i1]; omega) hd
  have a1 : od.length < LINE := by omega
  have a2 : nb.length < LINE := by omega
  have m1 : muD .append (il od) [.int left[mi sums]] = some (il (od ++ [left[mi sums]]), .non) := by simp [muD, a1]
  have m2 : muD .append (il nb) [.int sums[mi sums]] = some (il (nb ++ [sums[mi sums]]), .non) := by simp [muD, a2]
  rcases hy with ⟨rfl, rfl⟩ | ⟨a, b, rfl, rfl⟩ <;> simp [Sl.d?, lstB, lstAt, En.own?, En.chg, En.put, e1, e2, e3, e4, m1, m2, e5]
theorem gr_loop {Pg : Nat → Option Df} {fuel k : Nat} (h4 : Pg 4 = some d_twos) (m : Nat) (hf : m + 1 ≤ fuel) (pl : D) : ∀ (n q : Nat) (od nb left sums : List Int) (y5 y6 : Sl), ((y5 = .no ∧ y6 = .no) ∨ ∃ a b, y5 = .sh a ∧ y6 = .sh b) → left.length = n → sums.length = n → od.length + n ≤ 100000 → nb.length + n ≤ 100000 → n + 1 ≤ q →
    left.Nodup → (∀ p ∈ left, ∀ p' ∈ left, (p - p').natAbs < 2 ^ m) →
    ∃ z3 z4 z5 z6, whlL (evT (Cz Pg fuel (k + 1)) grC) (xs (Cz Pg fuel (k + 1)) grB) q [.sh pl, .ow (il od), .ow (il nb), .ow (il left), .ow (il sums), y5, y6, .no, .no] =
      .nx [.sh pl, .ow (il (od ++ (gr n left sums).1)), .ow (il (nb ++ (gr n left sums).2)), z3, z4, z5, z6, .no, .no]
  | 0, q, od, nb, left, sums, y5, y6, hy, hl, hs, _, _, hq, _, _ => by
    obtain ⟨q, rfl⟩ : ∃ p, q = p + 1 := ⟨q - 1, by omega⟩
    have e : left = [] := List.eq_nil_of_length_eq_zero hl
    subst e
    have e3 : cmpD .NotEq (il []) (D.lst []) = some false := cmp_il_ne [] []
    refine ⟨.ow (il []), .ow (il sums), y5, y6, ?_⟩
    rw [whlL]
    simp [Sl.d?, e3, boolV, tru, gr]
  | n + 1, q, od, nb, left, sums, y5, y6, hy, hl, hs, ho, hb, hq, nd, bd => by
    obtain ⟨q, rfl⟩ : ∃ p, q = p + 1 := ⟨q - 1, by omega⟩
    have hn : left ≠ [] := fun e => by subst e; simp at hl
    have hns : sums ≠ [] := fun e => by subst e; simp at hs
    have i1 := mi_lt hns
    have i2 : mi sums < left.length := by omega
    have g1 : left.getD (mi sums) 0 = left[mi sums] := by simp [i2]
    have sub : ∀ p ∈ left.eraseIdx (mi sums), p ∈ left := fun p hp => List.mem_of_mem_eraseIdx hp
    have st := gr_step (fuel := fuel) (k := k) h4 m hf pl od nb left sums y5 y6 hy hn (by omega) (by omega) (by omega) (by omega) fun p hp => by
      rw [g1]
      refine ⟨fun e => ?_, bd p (sub p hp) _ (List.getElem_mem _)⟩
      obtain ⟨j, hj, n1, e2⟩ := List.mem_eraseIdx_iff_getElem.mp hp
      rcases Nat.lt_or_gt_of_ne n1 with w | w
      · exact List.pairwise_iff_getElem.mp nd j (mi sums) hj i2 w (e2.trans e)
      · exact List.pairwise_iff_getElem.mp nd (mi sums) j i2 hj w (e2.trans e).symm
    obtain ⟨z3, z4, z5, z6, ih⟩ := gr_loop h4 m hf pl n q (od ++ [left.getD (mi sums) 0]) (nb ++ [sums.getD (mi sums) 0]) (left.eraseIdx (mi sums)) (gsum (left.getD (mi sums) 0) (sums.eraseIdx (mi sums)) (left.eraseIdx (mi sums))) (.sh (.int (mi sums : Nat))) (.sh (.int (left.getD (mi sums) 0))) (.inr ⟨_, _, rfl, rfl⟩)
      (by rw [List.length_eraseIdx_of_lt i2]; omega) (by simp only [gsum, List.length_zipWith]; rw [List.length_eraseIdx_of_lt i1, List.length_eraseIdx_of_lt i2]; omega) (by simp; omega) (by simp; omega) (by omega) (nd.eraseIdx _) (fun p hp p' hp' => bd p (sub p hp) p' (sub p' hp'))
    refine ⟨z3, z4, z5, z6, ?_⟩
    have e3 : cmpD .NotEq (il left) (D.lst []) = some true := by
      have := cmp_il_nnil left
      rw [decide_eq_false hn] at this
      exact this
    rw [whlL]
    have cnd : evT (Cz Pg fuel (k + 1)) grC [.sh pl, .ow (il od), .ow (il nb), .ow (il left), .ow (il sums), y5, y6, .no, .no] = .ok true [.sh pl, .ow (il od), .ow (il nb), .ow (il left), .ow (il sums), y5, y6, .no, .no] := by
      simp [Sl.d?, e3, boolV, tru]
    rw [cnd, R.run_ok, if_pos rfl, st, O.turn_nx, ih]
    simp [gr]
end Z
/-! YF: good_row, good_order. -/
namespace Z
open PySem (Str Operator CmpOp)
theorem line_le {n : Nat} (h : n ≤ 1000) : n ≤ LINE := Nat.le_trans h (Nat.le_of_ble_eq_true rfl)
theorem q_lstS {C : Cf} {es : List E} {r : En} (h : es.length ≤ 1000) : ev C (.lst es) r = (evs C es r).bind fun ds r1 => .ok (.ow (.lst ds)) r1 := by
  rw [q_lst]
  cases c : evs C es r with
  | ok v r1 =>
    rw [R.bind_ok, R.bind_ok, if_pos (line_le (by rw [evs_len c]; exact h))]
  | exc c v r1 => rfl
  | bad => rfl
theorem q_tupS {C : Cf} {es : List E} {r : En} (h : es.length ≤ 1000) : ev C (.tup es) r = (evs C es r).bind fun ds r1 => .ok (.sh (.tup ds)) r1 := by
  rw [q_tup]
  cases c : evs C es r with
  | ok v r1 =>
    rw [R.bind_ok, R.bind_ok, if_pos (line_le (by rw [evs_len c]; exact h))]
  | exc c v r1 => rfl
  | bad => rfl
@[simp high] theorem q_lst0 {C : Cf} {r : En} : ev C (.lst []) r = .ok (.ow (.lst [])) r := by rw [q_lstS (by simp), q_evs0, R.bind_ok]
@[simp high] theorem q_lst1 {C : Cf} {r : En} {a : E} : ev C (.lst [a]) r = (evs C [a] r).bind fun ds r1 => .ok (.ow (.lst ds)) r1 := q_lstS (by simp)
@[simp high] theorem q_lst2 {C : Cf} {r : En} {a b : E} : ev C (.lst [a, b]) r = (evs C [a, b] r).bind fun ds r1 => .ok (.ow (.lst ds)) r1 := q_lstS (by simp)
@[simp high] theorem q_lst3 {C : Cf} {r : En} {a b c : E} : ev C (.lst [a, b, c]) r = (evs C [a, b, c] r).bind fun ds r1 => .ok (.ow (.lst ds)) r1 := q_lstS (by simp)
@[simp high] theorem q_lst4 {C : Cf} {r : En} {a b c d : E} : ev C (.lst [a, b, c, d]) r = (evs C [a, b, c, d] r).bind fun ds r1 => .ok (.ow (.lst ds)) r1 := q_lstS (by simp)
@[simp high] theorem q_tup2 {C : Cf} {r : En} {a b : E} : ev C (.tup [a, b]) r = (evs C [a, b] r).bind fun ds r1 => .ok (.sh (.tup ds)) r1 := q_tupS (by simp)
@[simp high] theorem q_tup3 {C : Cf} {r : En} {a b c : E} : ev C (.tup [a, b, c]) r = (evs C [a, b, c] r).bind fun ds r1 => .ok (.sh (.tup ds)) r1 := q_tupS (by simp)
/-- an operator by its two sides; for list * int simp runs away -/
theorem bin_of {C : Cf} {op : Operator} {r r1 r2 : En} {a b : E} (x y : Nat ⊕ D) {u v : D} {w : Val} (ha : bor a (fun r => ev C a r) r = .ok x r1) (hb : bor b (fun r => ev C b r) r1 = .ok y r2) (hr : res r2 [x, y] = some [u, v]) (bm : binD op u v = some w) : ev C (.bin op a b) r = .ok w r2 := by
  rw [q_bin, ha, R.bind_ok, hb, R.bind_ok]
  unfold op2
  rw [hr]
  show R.of (binD op u v) r2 = _
  rw [bm]
  rfl
theorem flat_zeros : ∀ n : Nat, (List.replicate n [D.int 0]).flatten = (List.replicate n (0 : Int)).map .int
  | 0 => rfl
  | n + 1 => by rw [List.replicate_succ, List.replicate_succ, List.flatten_cons, flat_zeros n]; rfl
theorem bin_zeros (n : Nat) (h : n ≤ 100000) : binD .Mult (.lst [.int 0]) (.int (n : Int)) = some (.ow (il (List.replicate n 0))) := by
  have L : (LINE : Nat) = 16777216 := rfl
  have c : (n : Int).natAbs ≤ LINE ∧ [D.int 0].length * (n : Int).toNat ≤ LINE := by
    rw [Int.toNat_natCast, List.length_singleton]
    omega
  simp only [binD]
  rw [if_pos c, Int.toNat_natCast, flat_zeros]
theorem bin_zeros_ev {C : Cf} {r : En} {b : E} {n : Nat} (hb : bor b (fun r => ev C b r) r = .ok (.inr (.int n)) r) (h : n ≤ 100000) : ev C (.bin .Mult (.lst [.con (.int 0)]) b) r = .ok (.ow (il (List.replicate n 0))) r :=
  bin_of (.inr (.lst [.int 0])) (.inr (.int n)) (by simp) hb rfl (bin_zeros n h)
theorem evV_cons {C : Cf} {e : E} {es : List E} {r r1 r2 : En} {v : Val} {vs : List Val} (h : ev C e r = .ok v r1) (h2 : evV C es r1 = .ok vs r2) : evV C (e :: es) r = .ok (v :: vs) r2 := by
  rw [q_evV, h, R.bind_ok, h2, R.bind_ok]
theorem gr_puts (ps qs : List Int) : (if [1, 2, 3, 4].Nodup then O.of (puts [.sh (il ps), .no, .no, .no, .no, .no, .no, .no, .no] [1, 2, 3, 4] [.ow (.lst []), .ow (.lst []), .ow (il ps), .ow (il qs)]) else .bad) =
      .nx [.sh (il ps), .ow (il []), .ow (il []), .ow (il ps), .ow (il qs), .no, .no, .no, .no] := by
  rw [if_pos (by decide)]
  rfl
theorem gr_par {C : Cf} (ps : List Int) (hl : ps.length ≤ 50000) : x1 C (.par [1, 2, 3, 4] [.lst [], .lst [], .bi .list [.var 0], .bin .Mult (.lst [.con (.int 0)]) (.bi .len [.var 0])]) [.sh (il ps), .no, .no, .no, .no, .no, .no, .no, .no] =
      .nx [.sh (il ps), .ow (il []), .ow (il []), .ow (il ps), .ow (il (List.replicate ps.length 0)), .no, .no, .no, .no] := by
  have e4 := bin_zeros_ev (C := C) (r := [.sh (il ps), .no, .no, .no, .no, .no, .no, .no, .no]) (b := .bi .len [.var 0]) (n := ps.length) (by simp [Sl.d?, biD, lenF, lenD]) (by omega)
  have e3 : ev C (.bi .list [.var 0]) [.sh (il ps), .no, .no, .no, .no, .no, .no, .no, .no] = .ok (.ow (il ps)) [.sh (il ps), .no, .no, .no, .no, .no, .no, .no, .no] := by simp [Sl.d?, biD, listF, seqD]
  rw [q_par, evV_cons q_lst0 (evV_cons q_lst0 (evV_cons e3 (evV_cons e4 q_evV0))), R.run_ok, gr_puts]
theorem m_good_row {Pg : Nat → Option Df} {fuel k : Nat} (h4 : Pg 4 = some d_twos) (h5 : Pg 5 = some d_good_row) (m : Nat) (hf : m + 1 ≤ fuel) (ps : List Int) (hl : ps.length ≤ 50000) (hq : ps.length + 1 ≤ fuel) (nd : ps.Nodup) (bd : ∀ p ∈ ps, ∀ p' ∈ ps, (p - p').natAbs < 2 ^ m) :
    callD Pg fuel (k + 2) 5 [il ps] = .ok (.sh (.tup [il (gr ps.length ps (List.replicate ps.length 0)).1, il (gr ps.length ps (List.replicate ps.length 0)).2])) [] := by
  rw [callD_eq h5 ⟨rfl, Nat.le_of_ble_eq_true rfl⟩]
  have L : (LINE : Nat) = 16777216 := rfl
  obtain ⟨z3, z4, z5, z6, e⟩ := gr_loop (fuel := fuel) (k := k) h4 m hf (il ps) ps.length fuel [] [] ps (List.replicate ps.length 0) .no .no (.inl ⟨rfl, rfl⟩) rfl (by simp) (by simp; omega) (by simp; omega) hq nd bd
  simp only [List.nil_append] at e
  have l2 : (2 : Nat) ≤ LINE := by omega
  show (xs (Cz Pg fuel (k + 1)) (.par [1, 2, 3, 4] [.lst [], .lst [], .bi .list [.var 0], .bin .Mult (.lst [.con (.int 0)]) (.bi .len [.var 0])] :: .whl grC grB :: [.ret (.tup [.var 1, .var 2])]) [.sh (il ps), .no, .no, .no, .no, .no, .no, .no, .no]).cr [false] = _
  rw [q_xs, gr_par ps hl, O.then_nx, q_xs, q_whl]
  show (O.then (whlL (evT (Cz Pg fuel (k + 1)) grC) (xs (Cz Pg fuel (k + 1)) grB) fuel [.sh (il ps), .ow (il []), .ow (il []), .ow (il ps), .ow (il (List.replicate ps.length 0)), .no, .no, .no, .no]) _).cr [false] = _
  rw [e, O.then_nx]
  simp [O.cr, outsOf, l2]
end Z
/-! YG: the numbers of a row of places: halves, one place less, even steps. -/
namespace Z
/-! ### runs -/
def bump (c t : Int) (L : List (Int × Int)) : List (Int × Int) := L.map fun q => (q.1, q.2 + c + v2 (q.1 - t))
inductive Run (c : Int) : List (Int × Int) → List Int → Prop
  | nil : Run c [] []
  | cons (L A : List (Int × Int)) (t s : Int) (B : List (Int × Int)) (out : List Int) (e : L = A ++ (t, s) :: B) (h : ∀ q ∈ A ++ B, s ≤ q.2) (r : Run c (bump c t (A ++ B)) out) : Run c L (s :: out)
theorem run_low {c : Int} (hc : 0 ≤ c) {L : List (Int × Int)} {out : List Int} (r : Run c L out) : ∀ b : Int, (∀ q ∈ L, b ≤ q.2) → ∀ x ∈ out, b ≤ x := by
  induction r with
  | nil => intro b _ x hx; cases hx
  | cons L A t s B out e h r ih =>
    subst e
    intro b hb x hx
    rcases List.mem_cons.mp hx with rfl | hx
    · exact hb (t, x) (by simp)
    · refine ih b (fun q hq => ?_) x hx
      obtain ⟨q0, m, rfl⟩ := List.mem_map.mp hq
      have : b ≤ q0.2 := hb q0 (by
        rcases List.mem_append.mp m with m | m
        · exact List.mem_append_left _ m
        · exact List.mem_append_right _ (List.mem_cons_of_mem _ m))
      show b ≤ q0.2 + c + _
      omega
theorem run_sorted {c : Int} (hc : 0 ≤ c) {L : List (Int × Int)} {out : List Int} (r : Run c L out) : out.Pairwise (· ≤ ·) := by
  induction r with
  | nil => exact List.Pairwise.nil
  | cons L A t s B out e h r ih =>
    refine List.pairwise_cons.mpr ⟨fun x hx => run_low hc r s (fun q hq => ?_) x hx, ih⟩
    obtain ⟨q0, m, rfl⟩ := List.mem_map.mp hq
    have := h q0 m
    show s ≤ q0.2 + c + _
    omega
/-- a list raised by its places -/
def ea : Int → Int → List Int → List Int
  | _, _, [] => []
  | a, c, x :: l => (a + x) :: ea (a + c) c l
theorem run_shift {c : Int} {L : List (Int × Int)} {out : List Int} (r : Run c L out) : ∀ (a : Int) (L0 : List (Int × Int)), L = L0.map (fun q => (q.1, a + q.2)) → ∃ o, Run 0 L0 o ∧ out = ea a c o := by
  induction r with
  | nil =>
    intro a L0 e
    have : L0 = [] := by simpa using e.symm
    subst this
    exact ⟨[], .nil, rfl⟩
  | cons L A t s B out e h r ih =>
    intro a L0 e0
    rw [e] at e0
    obtain ⟨A0, R0, rfl, rfl, e1⟩ := List.map_eq_append_iff.mp e0.symm
    obtain ⟨q0, B0, rfl, e2, rfl⟩ := List.map_eq_cons_iff.mp e1
    obtain ⟨t0, s0⟩ := q0
    obtain ⟨rfl, rfl⟩ := Prod.mk.inj e2
    obtain ⟨o, r0, rfl⟩ := ih (a + c) (bump 0 t0 (A0 ++ B0)) (by
      unfold bump
      rw [← List.map_append, List.map_map, List.map_map]
      apply List.map_congr_left
      intro q _
      show (q.1, a + q.2 + c + (v2 (q.1 - t0) : Int)) = (q.1, a + c + (q.2 + 0 + (v2 (q.1 - t0) : Int)))
      congr 1
      omega)
    refine ⟨s0 :: o, .cons _ A0 t0 s0 B0 o rfl (fun q hq => ?_) r0, rfl⟩
    have := h (q.1, a + q.2) (by rw [← List.map_append]; exact List.mem_map.mpr ⟨q, hq, rfl⟩)
    have : a + s0 ≤ a + q.2 := this
    omega
/-! ### halves -/
def pick (b : Int) (L : List (Int × Int)) : List (Int × Int) := (L.filter fun q => decide (q.1 % 2 = b)).map fun q => (q.1 / 2, q.2)
theorem pick_app (b : Int) (A B : List (Int × Int)) : pick b (A ++ B) = pick b A ++ pick b B := by simp [pick]
theorem pick_yes {b t s : Int} (h : t % 2 = b) (B : List (Int × Int)) : pick b ((t, s) :: B) = (t / 2, s) :: pick b B := by simp [pick, h]
theorem pick_no {b t s : Int} (h : t % 2 ≠ b) (B : List (Int × Int)) : pick b ((t, s) :: B) = pick b B := by simp [pick, h]
theorem pick_same {b t : Int} (ht : t % 2 = b) : ∀ X : List (Int × Int), (∀ q ∈ X, q.1 ≠ t) → pick b (bump 0 t X) = bump 1 (t / 2) (pick b X)
  | [], _ => rfl
  | (p, h) :: X, hx => by
    have ih := pick_same ht X fun q m => hx q (List.mem_cons_of_mem _ m)
    have np : p ≠ t := hx (p, h) List.mem_cons_self
    show pick b ((p, _) :: bump 0 t X) = _
    by_cases c : p % 2 = b
    · rw [pick_yes c, pick_yes c, ih]
      show _ = (p / 2, h + 1 + (v2 (p / 2 - t / 2) : Int)) :: bump 1 (t / 2) (pick b X)
      have e : (v2 (p - t) : Int) = v2 (p / 2 - t / 2) + 1 := by
        rw [v2_even (by omega) (by omega), show (p - t) / 2 = p / 2 - t / 2 by omega]
        rfl
      show (p / 2, h + 0 + (v2 (p - t) : Int)) :: _ = _
      rw [e]
      congr 2
      omega
    · rw [pick_no c, pick_no c, ih]
theorem pick_other {b t : Int} (hb : b = 0 ∨ b = 1) (ht : t % 2 ≠ b) : ∀ X : List (Int × Int), pick b (bump 0 t X) = pick b X
  | [] => rfl
  | (p, h) :: X => by
    have ih := pick_other hb ht X
    show pick b ((p, _) :: bump 0 t X) = _
    by_cases c : p % 2 = b
    · rw [pick_yes c, pick_yes c, ih]
      congr 2
      rw [v2_odd (by omega)]
      simp
    · rw [pick_no c, pick_no c, ih]
theorem bump_fst (c t : Int) (X : List (Int × Int)) : (bump c t X).map (·.1) = X.map (·.1) := by simp [bump]
theorem pick_mem {b : Int} {X : List (Int × Int)} {q : Int × Int} (h : q ∈ pick b X) : ∃ q0 ∈ X, q0.2 = q.2 := by
  obtain ⟨q0, m, rfl⟩ := List.mem_map.mp h
  exact ⟨q0, (List.mem_filter.mp m).1, rfl⟩
theorem run_split {L : List (Int × Int)} {out : List Int} {c : Int} (r : Run c L out) : c = 0 → (L.map (·.1)).Nodup → ∃ oe oo, Run 1 (pick 0 L) oe ∧ Run 1 (pick 1 L) oo ∧ out.Perm (oe ++ oo) := by
  induction r with
  | nil => exact fun _ _ => ⟨[], [], .nil, .nil, .refl _⟩
  | cons L A t s B out e h r ih =>
    intro hc nd
    subst hc e
    have nd2 : ((A ++ B).map (·.1)).Nodup := by
      simp only [List.map_append, List.map_cons] at nd ⊢
      exact (List.perm_middle.nodup_iff.mp nd).of_cons
    have ne : ∀ q ∈ A ++ B, q.1 ≠ t := by
      simp only [List.map_append, List.map_cons] at nd
      have := (List.nodup_cons.mp (List.perm_middle.nodup_iff.mp nd)).1
      intro q hq e
      apply this
      rw [← List.map_append]
      exact List.mem_map.mpr ⟨q, hq, e⟩
    obtain ⟨oe, oo, r0, r1, p⟩ := ih rfl (by rw [bump_fst]; exact nd2)
    by_cases c : t % 2 = 0
    · rw [pick_same c _ ne] at r0
      rw [pick_other (.inr rfl) (by omega)] at r1
      refine ⟨s :: oe, oo, .cons _ (pick 0 A) (t / 2) s (pick 0 B) oe (by rw [pick_app, pick_yes c]) (fun q hq => ?_) (by rw [← pick_app]; exact r0), ?_, p.cons s⟩
      · rw [← pick_app] at hq
        obtain ⟨q0, m, e⟩ := pick_mem hq
        rw [← e]
        exact h q0 m
      · rw [pick_app, pick_no (by omega), ← pick_app]
        exact r1
    · have c1 : t % 2 = 1 := by omega
      rw [pick_same c1 _ ne] at r1
      rw [pick_other (.inl rfl) (by omega)] at r0
      refine ⟨oe, s :: oo, ?_, .cons _ (pick 1 A) (t / 2) s (pick 1 B) oo (by rw [pick_app, pick_yes c1]) (fun q hq => ?_) (by rw [← pick_app]; exact r1), (p.cons s).trans List.perm_middle.symm⟩
      · rw [pick_app, pick_no (by omega), ← pick_app]
        exact r0
      · rw [← pick_app] at hq
        obtain ⟨q0, m, e⟩ := pick_mem hq
        rw [← e]
        exact h q0 m
/-! ### by rests -/
def half (b : Int) (l : List Int) : List Int := (l.filter fun p => decide (p % 2 = b)).map (· / 2)
def br : Nat → List Int → List Int
  | 0, l => List.replicate l.length 0
  | d + 1, l => if l.length < 2 then List.replicate l.length 0 else sortI (ea 0 1 (br d (half 0 l)) ++ ea 0 1 (br d (half 1 l)))
theorem pick_fst (b : Int) (L : List (Int × Int)) : (pick b L).map (·.1) = half b (L.map (·.1)) := by
  simp only [pick, half, List.map_map, List.filter_map]
  rfl
theorem half_app (b : Int) (A B : List Int) : half b (A ++ B) = half b A ++ half b B := by simp [half]
theorem half_yes {b t : Int} (h : t % 2 = b) (B : List Int) : half b (t :: B) = t / 2 :: half b B := by simp [half, h]
theorem half_no {b t : Int} (h : t % 2 ≠ b) (B : List Int) : half b (t :: B) = half b B := by simp [half, h]
theorem half_mem {b p : Int} {l : List Int} (h : p ∈ half b l) : 2 * p + b ∈ l := by
  obtain ⟨q, m, rfl⟩ := List.mem_map.mp h
  obtain ⟨m, e⟩ := List.mem_filter.mp m
  have := of_decide_eq_true e
  rw [show 2 * (q / 2) + b = q by omega]
  exact m
theorem half_nodup {b : Int} {l : List Int} (h : l.Nodup) : (half b l).Nodup := by
  induction l with
  | nil => exact List.nodup_nil
  | cons x l ih =>
    obtain ⟨h1, h2⟩ := List.nodup_cons.mp h
    by_cases c : x % 2 = b
    · rw [half_yes c]
      refine List.nodup_cons.mpr ⟨fun m => h1 ?_, ih h2⟩
      have := half_mem m
      rw [show 2 * (x / 2) + b = x by omega] at this
      exact this
    · rw [half_no c]
      exact ih h2
theorem half_len (l : List Int) : (half 0 l).length + (half 1 l).length = l.length := by
  induction l with
  | nil => rfl
  | cons x l ih =>
    by_cases c : x % 2 = 0
    · rw [half_yes c, half_no (by omega)]
      simp only [List.length_cons]
      omega
    · rw [half_no c, half_yes (by omega)]
      simp only [List.length_cons]
      omega
/-- places within a width -/
def Wi (d : Nat) (l : List Int) : Prop := l.Nodup ∧ ∀ p ∈ l, 0 ≤ p ∧ p < 2 ^ d
theorem half_wi {d : Nat} {b : Int} (hb : b = 0 ∨ b = 1) {l : List Int} (h : Wi (d + 1) l) : Wi d (half b l) := by
  refine ⟨half_nodup h.1, fun p m => ?_⟩
  have := h.2 _ (half_mem m)
  have e : (2 : Int) ^ (d + 1) = 2 * 2 ^ d := by rw [Int.pow_succ]; omega
  rw [e] at this
  generalize (2 : Int) ^ d = z at *
  omega
theorem wi_zero {l : List Int} (h : Wi 0 l) : l.length < 2 := by
  match l, h with
  | [], _ => simp
  | [_], _ => simp
  | x :: y :: l, h =>
    have h1 := h.2 x (by simp)
    have h2 := h.2 y (by simp)
    have : x ≠ y := by
      have := (List.nodup_cons.mp h.1).1
      intro e
      apply this
      rw [e]
      simp
    simp at h1 h2
    omega
theorem run_short {c : Int} {L : List (Int × Int)} {out : List Int} (r : Run c L out) (hL : L.length < 2) (hz : ∀ q ∈ L, q.2 = 0) : out = List.replicate L.length 0 := by
  cases r with
  | nil => rfl
  | cons _ A t s B out e h r =>
    subst e
    have hA : A = [] := List.eq_nil_of_length_eq_zero (by simp at hL; omega)
    have hB : B = [] := List.eq_nil_of_length_eq_zero (by simp at hL; omega)
    subst hA hB
    have : s = 0 := hz (t, s) (by simp)
    subst this
    cases r with
    | nil => rfl
    | cons _ A' t' s' B' out' e' _ _ => simp [bump] at e'
theorem run_br : ∀ (d : Nat) (L : List (Int × Int)) (out : List Int), Run 0 L out → (∀ q ∈ L, q.2 = 0) → Wi d (L.map (·.1)) → out = br d (L.map (·.1))
  | 0, L, out, r, hz, hw => by
    have := wi_zero hw
    simp at this
    rw [run_short r this hz]
    simp [br]
  | d + 1, L, out, r, hz, hw => by
    by_cases c : L.length < 2
    · rw [run_short r c hz]
      simp [br, c]
    · have c' : ¬ (L.map (·.1)).length < 2 := by simpa using c
      rw [br, if_neg c']
      obtain ⟨oe, oo, r0, r1, p⟩ := run_split r rfl hw.1
      have z0 : ∀ b, ∀ q ∈ pick b L, q.2 = 0 := fun b q m => by
        obtain ⟨q0, m0, e⟩ := pick_mem m
        rw [← e]
        exact hz q0 m0
      have id0 : ∀ M : List (Int × Int), M = M.map (fun q => (q.1, 0 + q.2)) := fun M => by simp
      obtain ⟨e0, s0, rfl⟩ := run_shift r0 0 (pick 0 L) (id0 _)
      obtain ⟨e1, s1, rfl⟩ := run_shift r1 0 (pick 1 L) (id0 _)
      have q0 := run_br d _ _ s0 (z0 0) (by rw [pick_fst]; exact half_wi (.inl rfl) hw)
      have q1 := run_br d _ _ s1 (z0 1) (by rw [pick_fst]; exact half_wi (.inr rfl) hw)
      rw [pick_fst] at q0 q1
      rw [← q0, ← q1]
      exact sortI_uniq p (run_sorted (Int.le_refl 0) r)
theorem gr_run : ∀ (n : Nat) (left sums : List Int), left.length = n → sums.length = n → Run 0 (left.zip sums) (gr n left sums).2
  | 0, left, sums, hl, _ => by
    have : left = [] := List.eq_nil_of_length_eq_zero hl
    subst this
    exact .nil
  | n + 1, left, sums, hl, hs => by
    have hns : sums ≠ [] := fun e => by subst e; simp at hs
    have i1 := mi_lt hns
    have i2 : mi sums < left.length := by omega
    obtain ⟨m1, _⟩ := mi_at hns
    have hz : mi sums < (left.zip sums).length := by simp; omega
    have ih := gr_run n (left.eraseIdx (mi sums)) (gsum (left.getD (mi sums) 0) (sums.eraseIdx (mi sums)) (left.eraseIdx (mi sums))) (by rw [List.length_eraseIdx_of_lt i2]; omega)
      (by simp only [gsum, List.length_zipWith]; rw [List.length_eraseIdx_of_lt i1, List.length_eraseIdx_of_lt i2]; omega)
    have g1 : left.getD (mi sums) 0 = left[mi sums] := by simp [i2]
    have g2 : sums.getD (mi sums) 0 = sums[mi sums] := by simp [i1]
    have er : ∀ (i : Nat) (l m : List Int), l.length = m.length → (l.zip m).take i ++ (l.zip m).drop (i + 1) = (l.eraseIdx i).zip (m.eraseIdx i) := by
      intro i l
      induction l generalizing i with
      | nil => intro m e; have : m = [] := List.eq_nil_of_length_eq_zero e.symm; subst this; simp
      | cons x l ih =>
        intro m e
        cases m with
        | nil => simp at e
        | cons y m =>
          cases i with
          | zero => simp
          | succ i => simpa using ih i m (by simpa using e)
    have bz : ∀ (t : Int) (l m : List Int), l.zip (gsum t m l) = bump 0 t (l.zip m) := by
      intro t l
      induction l with
      | nil => intro m; simp [bump]
      | cons x l ih =>
        intro m
        cases m with
        | nil => simp [gsum, bump]
        | cons y m =>
          have := ih m
          simp only [gsum, bump, List.zipWith_cons_cons, List.zip_cons_cons, List.map_cons] at this ⊢
          rw [this]
          simp
    rw [bz] at ih
    show Run 0 (left.zip sums) (sums.getD (mi sums) 0 :: _)
    refine .cons _ ((left.zip sums).take (mi sums)) (left.getD (mi sums) 0) (sums.getD (mi sums) 0) ((left.zip sums).drop (mi sums + 1)) _ ?_ ?_ ?_
    · rw [g1, g2]
      have := List.take_append_drop (mi sums) (left.zip sums)
      rw [List.drop_eq_getElem_cons hz, List.getElem_zip] at this
      exact this.symm
    · intro q hq
      rw [g2]
      refine m1 _ ?_
      have : q ∈ left.zip sums := by
        rcases List.mem_append.mp hq with h | h
        · exact List.mem_of_mem_take h
        · exact List.mem_of_mem_drop h
      exact (List.of_mem_zip this).2
    · rw [er _ _ _ (by omega)]
      exact ih
/-- the numbers of a row of places -/
def nums (ps : List Int) : List Int := (gr ps.length ps (List.replicate ps.length 0)).2
theorem zip_fst : ∀ (l m : List Int), l.length = m.length → (l.zip m).map (·.1) = l
  | [], _, _ => rfl
  | x :: l, [], h => by simp at h
  | x :: l, y :: m, h => by simp [zip_fst l m (by simpa using h)]
theorem nums_br {d : Nat} {ps : List Int} (h : Wi d ps) : nums ps = br d ps := by
  have r := gr_run ps.length ps (List.replicate ps.length 0) rfl (by simp)
  have f := zip_fst ps (List.replicate ps.length 0) (by simp)
  have := run_br d _ _ r (fun q m => by
    have := (List.of_mem_zip m).2
    exact List.eq_of_mem_replicate this) (by rw [f]; exact h)
  rw [f] at this
  exact this
end Z
namespace Z
/-! ### interlacing -/
def cnt (l : List Int) (c : Int) : Nat := l.countP fun x => decide (x ≤ c)
theorem cnt_cons (x : Int) (l : List Int) (c : Int) : cnt (x :: l) c = cnt l c + if x ≤ c then 1 else 0 := by
  unfold cnt
  rw [List.countP_cons]
  simp
theorem cnt_app (l m : List Int) (c : Int) : cnt (l ++ m) c = cnt l c + cnt m c := List.countP_append
theorem cnt_perm {l m : List Int} (p : l.Perm m) (c : Int) : cnt l c = cnt m c := p.countP_eq _
theorem cnt_ge : ∀ (l : List Int) (i : Nat) (h : i < l.length) (c : Int), l.Pairwise (· ≤ ·) → l[i] ≤ c → i + 1 ≤ cnt l c
  | x :: l, 0, _, c, _, k => by
    have : x ≤ c := k
    rw [cnt_cons, if_pos this]
    omega
  | x :: l, i + 1, h, c, s, k => by
    obtain ⟨s1, s2⟩ := List.pairwise_cons.mp s
    have k' : l[i]'(by simpa using h) ≤ c := k
    have := cnt_ge l i (by simpa using h) c s2 k'
    have := s1 _ (List.getElem_mem (l := l) (n := i) (by simpa using h))
    rw [cnt_cons, if_pos (by omega)]
    omega
theorem cnt_none : ∀ (l : List Int) (c : Int), (∀ x ∈ l, c < x) → cnt l c = 0
  | [], _, _ => rfl
  | x :: l, c, h => by
    have := h x List.mem_cons_self
    rw [cnt_cons, if_neg (by omega), cnt_none l c fun y m => h y (List.mem_cons_of_mem _ m)]
theorem cnt_le : ∀ (l : List Int) (i : Nat) (h : i < l.length) (c : Int), l.Pairwise (· ≤ ·) → c < l[i] → cnt l c ≤ i
  | x :: l, 0, _, c, s, k => by
    have k : c < x := k
    obtain ⟨s1, _⟩ := List.pairwise_cons.mp s
    rw [cnt_none (x :: l) c fun y m => by
      rcases List.mem_cons.mp m with rfl | m
      · exact k
      · have := s1 y m
        omega]
    exact Nat.le_refl _
  | x :: l, i + 1, h, c, s, k => by
    obtain ⟨_, s2⟩ := List.pairwise_cons.mp s
    have k' : c < l[i]'(by simpa using h) := k
    have := cnt_le l i (by simpa using h) c s2 k'
    rw [cnt_cons]
    split <;> omega
/-- a has one more than b, and they lie one between the others -/
def Inter (a b : List Int) : Prop := ∀ c, cnt b c ≤ cnt a c ∧ cnt a c ≤ cnt b c + 1
def Pw (a b : List Int) : Prop := ∀ (i : Nat) (h : i < b.length) (h2 : i + 1 < a.length), a[i] ≤ b[i] ∧ b[i] ≤ a[i + 1]
theorem inter_pw {a b : List Int} (sa : a.Pairwise (· ≤ ·)) (sb : b.Pairwise (· ≤ ·)) (k : Inter a b) : Pw a b := by
  intro i h h2
  refine ⟨Classical.byContradiction fun n => ?_, Classical.byContradiction fun n => ?_⟩
  · have h1 := cnt_ge b i h b[i] sb (Int.le_refl _)
    have h3 := cnt_le a i (by omega) b[i] sa (by omega)
    have := (k b[i]).1
    omega
  · have h1 := cnt_ge a (i + 1) h2 a[i + 1] sa (Int.le_refl _)
    have h3 := cnt_le b i h a[i + 1] sb (by omega)
    have := (k a[i + 1]).2
    omega
theorem cnt_dom : ∀ (a b : List Int) (c : Int), b.length ≤ a.length → (∀ (i : Nat) (h : i < b.length) (h2 : i < a.length), a[i] ≤ b[i]) → cnt b c ≤ cnt a c
  | _, [], _, _, _ => Nat.zero_le _
  | [], _ :: _, _, h, _ => by simp at h
  | x :: a, y :: b, c, h, k => by
    have h0 : x ≤ y := k 0 (by simp) (by simp)
    have ih := cnt_dom a b c (by simpa using h) fun i h1 h2 => k (i + 1) (by simpa using h1) (by simpa using h2)
    rw [cnt_cons, cnt_cons]
    split <;> split <;> omega
theorem pw_inter {a b : List Int} (hl : a.length = b.length + 1) (k : Pw a b) : Inter a b := by
  intro c
  refine ⟨cnt_dom a b c (by omega) fun i h _ => (k i h (by omega)).1, ?_⟩
  cases a with
  | nil => simp at hl
  | cons x a =>
    have hl : a.length = b.length := by simpa using hl
    have := cnt_dom b a c (by omega) fun i h h2 => (k i h2 (by simp; omega)).2
    rw [cnt_cons]
    split <;> omega
theorem ea_len : ∀ (a c : Int) (l : List Int), (ea a c l).length = l.length
  | _, _, [] => rfl
  | a, c, x :: l => by simp [ea, ea_len]
theorem ea_get : ∀ (a c : Int) (l : List Int) (i : Nat) (h : i < (ea a c l).length), (ea a c l)[i] = a + c * i + l[i]'(by rw [ea_len] at h; exact h)
  | a, c, x :: l, 0, h => by simp [ea]
  | a, c, x :: l, i + 1, h => by
    have := ea_get (a + c) c l i (by simpa [ea] using h)
    simp only [ea, List.getElem_cons_succ, this]
    rw [show ((i + 1 : Nat) : Int) = (i : Int) + 1 from rfl, Int.mul_add]
    omega
theorem pw_ea {a b : List Int} {x : Int} (k : Pw a b) : Pw (ea x 1 a) (ea x 1 b) := by
  intro i h h2
  rw [ea_get, ea_get, ea_get]
  rw [ea_len] at h h2
  have := k i h h2
  omega
theorem sortI_perm (ns : List Int) : (sortI ns).Perm ns := List.mergeSort_perm ns _
theorem sortI_len (l : List Int) : (sortI l).length = l.length := (List.mergeSort_perm l _).length_eq
theorem sortI_sorted (l : List Int) : (sortI l).Pairwise (· ≤ ·) := by
  have h2 : (sortI l).Pairwise (fun a b => decide (a ≤ b) = true) := List.pairwise_mergeSort (fun a b c h h' => by simp only [decide_eq_true_eq] at *; omega) (fun a b => by simp only [Bool.or_eq_true, decide_eq_true_eq]; omega) l
  exact h2.imp fun h => of_decide_eq_true h
theorem zeros_sorted (n : Nat) : (List.replicate n (0 : Int)).Pairwise (· ≤ ·) := List.pairwise_replicate.mpr (.inr (Int.le_refl _))
theorem br_sorted : ∀ (d : Nat) (l : List Int), (br d l).Pairwise (· ≤ ·)
  | 0, l => zeros_sorted _
  | d + 1, l => by
    rw [br]
    split
    · exact zeros_sorted _
    · exact sortI_sorted _
theorem br_len : ∀ (d : Nat) (l : List Int), (br d l).length = l.length
  | 0, l => by simp [br]
  | d + 1, l => by
    rw [br]
    split
    · simp
    · rw [sortI_len, List.length_append, ea_len, ea_len, br_len, br_len, half_len]
theorem br_nil : ∀ d, br d [] = []
  | 0 => rfl
  | d + 1 => by simp [br]
theorem br_one (d : Nat) (x : Int) : br d [x] = [0] := by
  cases d <;> simp [br]
theorem br_eq (d : Nat) (l : List Int) : br (d + 1) l = sortI (ea 0 1 (br d (half 0 l)) ++ ea 0 1 (br d (half 1 l))) := by
  match l with
  | [] =>
    have h : ∀ b, half b [] = [] := fun _ => rfl
    rw [h, h, br_nil, br_nil]
    exact sortI_uniq (ns := []) (.refl _) List.Pairwise.nil
  | [x] =>
    rw [br_one]
    by_cases c : x % 2 = 0
    · rw [half_yes c, half_no (by omega)]
      have h : ∀ b, half b [] = [] := fun _ => rfl
      rw [h, h, br_nil, br_one]
      exact sortI_uniq (.refl _) (by simp [ea])
    · rw [half_no c, half_yes (by omega)]
      have h : ∀ b, half b [] = [] := fun _ => rfl
      rw [h, h, br_nil, br_one]
      exact sortI_uniq (.refl _) (by simp [ea])
  | x :: y :: l => rw [br, if_neg (by simp)]
/-- one place less -/
theorem br_less : ∀ (d : Nat) (l1 l2 : List Int) (x : Int), Wi d (l1 ++ x :: l2) → Inter (br d (l1 ++ x :: l2)) (br d (l1 ++ l2))
  | 0, l1, l2, x, h => by
    have := wi_zero h
    simp at this
    have e1 : l1 = [] := List.eq_nil_of_length_eq_zero (by omega)
    have e2 : l2 = [] := List.eq_nil_of_length_eq_zero (by omega)
    subst e1 e2
    intro c
    simp only [br, cnt, List.nil_append]
    simp
    split <;> omega
  | d + 1, l1, l2, x, h => by
    have step : ∀ b : Int, b = 0 ∨ b = 1 → x % 2 = b → Inter (ea 0 1 (br d (half b (l1 ++ x :: l2)))) (ea 0 1 (br d (half b (l1 ++ l2)))) := by
      intro b hb e
      have w := half_wi hb h
      rw [half_app, half_yes e] at w ⊢
      rw [half_app]
      have ih := br_less d (half b l1) (half b l2) (x / 2) w
      have := inter_pw (br_sorted _ _) (br_sorted _ _) ih
      refine pw_inter ?_ (pw_ea this)
      rw [ea_len, ea_len, br_len, br_len]
      simp
      omega
    rw [br_eq, br_eq]
    intro c
    rw [cnt_perm (sortI_perm _), cnt_perm (sortI_perm _), cnt_app, cnt_app]
    by_cases e : x % 2 = 0
    · have h1 := step 0 (.inl rfl) e c
      have h2 : half 1 (l1 ++ x :: l2) = half 1 (l1 ++ l2) := by rw [half_app, half_app, half_no (by omega)]
      rw [h2]
      omega
    · have h1 := step 1 (.inr rfl) (by omega) c
      have h2 : half 0 (l1 ++ x :: l2) = half 0 (l1 ++ l2) := by rw [half_app, half_app, half_no (by omega)]
      rw [h2]
      omega
theorem br_less_pw {d : Nat} {l1 l2 : List Int} {x : Int} (h : Wi d (l1 ++ x :: l2)) : Pw (br d (l1 ++ x :: l2)) (br d (l1 ++ l2)) := inter_pw (br_sorted _ _) (br_sorted _ _) (br_less d l1 l2 x h)
/-! ### even steps -/
def fa : Nat → Nat
  | 0 => 0
  | n + 1 => fa n + v2 ((n + 1 : Nat) : Int)
theorem fa_two : ∀ n : Nat, fa (2 * n) = n + fa n
  | 0 => rfl
  | n + 1 => by
    have e : fa (2 * (n + 1)) = fa (2 * n) + v2 ((2 * n + 1 : Nat) : Int) + v2 ((2 * n + 2 : Nat) : Int) := rfl
    rw [e, fa_two n, v2_odd (by omega), v2_even (by omega) (by omega)]
    have : ((2 * n + 2 : Nat) : Int) / 2 = ((n + 1 : Nat) : Int) := by omega
    rw [this]
    show _ = n + 1 + (fa n + v2 ((n + 1 : Nat) : Int))
    omega
theorem fa_odd (n : Nat) : fa (2 * n + 1) = n + fa n := by
  show fa (2 * n) + v2 ((2 * n + 1 : Nat) : Int) = _
  rw [fa_two, v2_odd (by omega)]
  rfl
theorem fa_half (n : Nat) : fa n = n / 2 + fa (n / 2) := by
  rcases Nat.mod_two_eq_zero_or_one n with h | h
  · have := fa_two (n / 2)
    rw [show 2 * (n / 2) = n by omega] at this
    exact this
  · have := fa_odd (n / 2)
    rw [show 2 * (n / 2) + 1 = n by omega] at this
    exact this
/-- the numbers of neighbours at a step -/
def fl (t n : Nat) : List Int := (List.range n).map fun i => ((fa i + t * i : Nat) : Int)
def ap (a s : Int) (n : Nat) : List Int := (List.range n).map fun i => a + s * (i : Nat)
theorem fa_mono (n : Nat) : fa n ≤ fa (n + 1) := Nat.le_add_right _ _
theorem fl_sorted (t n : Nat) : (fl t n).Pairwise (· ≤ ·) := by
  have mono : ∀ i j : Nat, i ≤ j → fa i ≤ fa j := by
    intro i j h
    induction h with
    | refl => exact Nat.le_refl _
    | step h ih => exact Nat.le_trans ih (fa_mono _)
  refine List.pairwise_map.mpr (List.pairwise_lt_range.imp fun {i j} h => ?_)
  have h1 := mono i j (by omega)
  have h2 : t * i ≤ t * j := Nat.mul_le_mul_left t (by omega)
  omega
theorem ap_succ (a s : Int) (n : Nat) : ap a s (n + 1) = ap a s n ++ [a + s * (n : Nat)] := by simp [ap, List.range_succ]
theorem fl_succ (t n : Nat) : fl t (n + 1) = fl t n ++ [((fa n + t * n : Nat) : Int)] := by simp [fl, List.range_succ]
theorem ea_fl_get (t n : Nat) : ea 0 1 (fl t n) = (List.range n).map fun i => ((i + (fa i + t * i) : Nat) : Int) := by
  apply List.ext_getElem
  · rw [ea_len]
    simp [fl]
  · intro i h1 h2
    rw [ea_get]
    simp [fl]
/-- a step that is even -/
theorem ea_fl (t n : Nat) : ea 0 1 (fl t n) = fl (t + 1) n := by
  rw [ea_fl_get]
  unfold fl
  apply List.map_congr_left
  intro i _
  congr 1
  rw [Nat.add_mul]
  omega
/-- a step that is odd -/
theorem fl_halves (n : Nat) : (ea 0 1 (fl 0 ((n + 1) / 2)) ++ ea 0 1 (fl 0 (n / 2))).Perm (fl 0 n) := by
  rw [ea_fl_get, ea_fl_get]
  induction n with
  | zero => exact .refl _
  | succ n ih =>
    rw [fl_succ]
    have e := fa_half n
    rcases Nat.mod_two_eq_zero_or_one n with h | h
    · rw [show (n + 1 + 1) / 2 = n / 2 + 1 by omega, show (n + 1) / 2 = n / 2 by omega] at *
      rw [List.range_succ, List.map_append]
      refine List.Perm.trans ?_ (ih.append_right _)
      rw [List.append_assoc, List.append_assoc]
      refine List.Perm.append_left _ ?_
      rw [e]
      simp only [List.map_cons, List.map_nil, Nat.zero_mul, Nat.add_zero]
      exact List.perm_append_comm
    · rw [show (n + 1 + 1) / 2 = n / 2 + 1 by omega, show (n + 1) / 2 = n / 2 + 1 by omega] at *
      have e2 : List.map (fun i => ((i + (fa i + 0 * i) : Nat) : Int)) (List.range (n / 2 + 1)) = List.map (fun i => ((i + (fa i + 0 * i) : Nat) : Int)) (List.range (n / 2)) ++ [((fa n + 0 * n : Nat) : Int)] := by
        rw [List.range_succ, List.map_append, e]
        simp
      have := ih.append_right [((fa n + 0 * n : Nat) : Int)]
      rw [List.append_assoc, ← e2] at this
      exact this
theorem half_ap_even {a s : Int} {b : Int} (hs : s % 2 = 0) (n : Nat) : half b (ap a s n) = if a % 2 = b then ap (a / 2) (s / 2) n else [] := by
  induction n with
  | zero => split <;> rfl
  | succ n ih =>
    rw [ap_succ, half_app, ih]
    have e : (a + s * (n : Nat)) % 2 = a % 2 := by
      have : s = 2 * (s / 2) := by omega
      rw [this, Int.mul_assoc]
      generalize s / 2 * (n : Int) = z
      omega
    have e2 : (a + s * (n : Nat)) / 2 = a / 2 + s / 2 * (n : Nat) := by
      have : s = 2 * (s / 2) := by omega
      conv => lhs; rw [this, Int.mul_assoc]
      generalize s / 2 * (n : Int) = z
      omega
    by_cases c : a % 2 = b
    · rw [if_pos c, if_pos c, half_yes (by rw [e]; exact c), e2, ap_succ]
      rfl
    · rw [if_neg c, if_neg c, half_no (by rw [e]; exact c)]
      rfl
theorem half_ap_odd {a s : Int} (hs : s % 2 = 1) (n : Nat) : half (a % 2) (ap a s n) = ap (a / 2) s ((n + 1) / 2) ∧ half ((a + 1) % 2) (ap a s n) = ap ((a + s) / 2) s (n / 2) := by
  induction n with
  | zero => exact ⟨rfl, rfl⟩
  | succ n ih =>
    obtain ⟨i1, i2⟩ := ih
    rw [ap_succ, half_app, half_app, i1, i2]
    have e0 : s = 2 * (s / 2) + 1 := by omega
    rcases Nat.mod_two_eq_zero_or_one n with h | h
    · obtain ⟨m, rfl⟩ : ∃ m, n = 2 * m := ⟨n / 2, by omega⟩
      have e : s * ((2 * m : Nat) : Int) = 2 * (s * (m : Nat)) := by
        rw [show ((2 * m : Nat) : Int) = 2 * (m : Int) by omega, Int.mul_left_comm]
      rw [half_yes (by omega), half_no (by omega), show (2 * m + 1 + 1) / 2 = m + 1 by omega, show (2 * m + 1) / 2 = m by omega, show 2 * m / 2 = m by omega, ap_succ, e,
        show (a + 2 * (s * (m : Nat))) / 2 = a / 2 + s * (m : Nat) by omega]
      exact ⟨rfl, by simp [half]⟩
    · obtain ⟨m, rfl⟩ : ∃ m, n = 2 * m + 1 := ⟨n / 2, by omega⟩
      have e : s * ((2 * m + 1 : Nat) : Int) = 2 * (s * (m : Nat)) + s := by
        rw [show ((2 * m + 1 : Nat) : Int) = 2 * (m : Int) + 1 by omega, Int.mul_add, Int.mul_left_comm]
        omega
      rw [half_no (by omega), half_yes (by omega), show (2 * m + 1 + 1 + 1) / 2 = m + 1 by omega, show (2 * m + 1 + 1) / 2 = m + 1 by omega, show (2 * m + 1) / 2 = m by omega, ap_succ ((a + s) / 2), e,
        show (a + (2 * (s * (m : Nat)) + s)) / 2 = (a + s) / 2 + s * (m : Nat) by omega]
      exact ⟨by simp [half], rfl⟩
theorem ap_len (a s : Int) (n : Nat) : (ap a s n).length = n := by simp [ap]
/-- the numbers of places at an even step -/
theorem br_ap : ∀ (d : Nat) (t : Nat) (a s : Int) (n : Nat), s % 2 = 1 → Wi d (ap a (2 ^ t * s) n) → br d (ap a (2 ^ t * s) n) = fl t n
  | 0, t, a, s, n, _, h => by
    have := wi_zero h
    rw [ap_len] at this
    match n, this with
    | 0, _ => rfl
    | 1, _ => simp [br, ap_len, fl, fa]
  | d + 1, 0, a, s, n, hs, h => by
    rw [show (2 : Int) ^ 0 * s = s by simp] at *
    rw [br_eq]
    obtain ⟨h1, h2⟩ := half_ap_odd (a := a) hs n
    have w0 := half_wi (b := a % 2) (by omega) h
    have w1 := half_wi (b := (a + 1) % 2) (by omega) h
    rw [h1] at w0
    rw [h2] at w1
    have b0 := br_ap d 0 (a / 2) s ((n + 1) / 2) hs (by rw [show (2 : Int) ^ 0 * s = s by simp]; exact w0)
    have b1 := br_ap d 0 ((a + s) / 2) s (n / 2) hs (by rw [show (2 : Int) ^ 0 * s = s by simp]; exact w1)
    rw [show (2 : Int) ^ 0 * s = s by simp] at b0 b1
    refine (sortI_uniq ?_ (fl_sorted 0 n)).symm
    by_cases c : a % 2 = 0
    · rw [c] at h1
      rw [show (a + 1) % 2 = 1 by omega] at h2
      rw [h1, h2, b0, b1]
      exact (fl_halves n).symm
    · rw [show a % 2 = 1 by omega] at h1
      rw [show (a + 1) % 2 = 0 by omega] at h2
      rw [h1, h2, b0, b1]
      exact ((List.perm_append_comm).trans (fl_halves n)).symm
  | d + 1, t + 1, a, s, n, hs, h => by
    have e : (2 : Int) ^ (t + 1) * s = 2 * (2 ^ t * s) := by rw [Int.pow_succ, Int.mul_comm (2 ^ t) 2, Int.mul_assoc]
    have e2 : (2 : Int) ^ (t + 1) * s % 2 = 0 := by rw [e]; omega
    have e3 : (2 : Int) ^ (t + 1) * s / 2 = 2 ^ t * s := by rw [e]; omega
    rw [br_eq, half_ap_even e2, half_ap_even e2, e3]
    have w := half_wi (b := a % 2) (by omega) h
    rw [half_ap_even e2, if_pos rfl, e3] at w
    have ih := br_ap d t (a / 2) s n hs w
    refine (sortI_uniq ?_ (fl_sorted (t + 1) n)).symm
    by_cases c : a % 2 = 0
    · rw [if_pos c, if_neg (by omega), ih, br_nil, ea_fl]
      simp [ea]
    · rw [if_neg c, if_pos (by omega), ih, br_nil, ea_fl]
      simp [ea]
end Z
/-! YH: more simp rules; what a law draws: cell, hash, generator, random. -/
namespace Z
open PySem (Str Operator CmpOp)
section
variable {r : En} {ms : List Bool} {l l2 : List (Nat ⊕ D)} {x : Nat ⊕ D} {i j : Nat} {is js : List Nat} {d d2 : D} {ds ds2 : List D} {a b : Int} {v : Val}
@[simp] theorem qa_nil : argsOk r [] [] = true := rfl
@[simp] theorem qa_io : argsOk r (true :: ms) (.inl i :: l) = ((r.own? i).isSome && argsOk r ms l) := rfl
@[simp] theorem qa_pl : argsOk r (false :: ms) (x :: l) = argsOk r ms l := by cases x <;> rfl
@[simp] theorem qn_nil : inouts [] l = [] := rfl
@[simp] theorem qn_io : inouts (true :: ms) (.inl i :: l) = i :: inouts ms l := rfl
@[simp] theorem qn_pl : inouts (false :: ms) (x :: l) = inouts ms l := by cases x <;> rfl
@[simp] theorem qp_nil : plains [] l = [] := by cases l <;> rfl
@[simp] theorem qp_io : plains (true :: ms) (x :: l) = plains ms l := by cases x <;> rfl
@[simp] theorem qp_pl : plains (false :: ms) (.inl i :: l) = i :: plains ms l := rfl
@[simp] theorem qp_pr : plains (false :: ms) (.inr d :: l) = plains ms l := rfl
@[simp] theorem q_apart : apart is js = (decide is.Nodup && is.all fun i => !js.contains i) := rfl
@[simp] theorem q_frzs0 : frzs r [] = some r := rfl
@[simp] theorem q_frzs : frzs r (i :: is) = (frz1 r i).bind fun r1 => frzs r1 is := rfl
@[simp] theorem q_frz1 : frz1 r i = match r[i]? with | some (.ow d) => some (r.set i (.sh d)) | some (.io _) => none | _ => some r := by unfold frz1; rfl
@[simp] theorem q_chgs0 : chgs r [] [] = some r := rfl
@[simp] theorem q_chgs : chgs r (i :: is) (d :: ds) = (r.chg i d).bind fun r1 => chgs r1 is ds := rfl
@[simp] theorem q_put : r.put i v = match r[i]? with | some (.io _) => none | some _ => some (r.set i v.sl) | none => none := by unfold En.put; rfl
@[simp] theorem q_chg : r.chg i d = match r[i]? with | some (.ow _) => some (r.set i (.ow d)) | some (.io _) => some (r.set i (.io d)) | _ => none := by unfold En.chg; rfl
@[simp] theorem q_own : r.own? i = match r[i]? with | some (.ow d) => some d | some (.io d) => some d | _ => none := by unfold En.own?; rfl
@[simp] theorem q_sl0 : Sl.d? .no = none := rfl
@[simp] theorem q_sl1 : Sl.d? (.sh d) = some d := rfl
@[simp] theorem q_sl2 : Sl.d? (.ow d) = some d := rfl
@[simp] theorem q_sl3 : Sl.d? (.io d) = some d := rfl
@[simp] theorem q_after_ok : after r ms l (.ok v ds) = match frzs r (plains ms l) with
    | none => .bad
    | some rf => if scal v.d && ds.all shal then
        (match chgs r (inouts ms l) ds with | some r1 => .ok v r1 | none => .bad)
      else (match chgs rf (inouts ms l) ds with | some r1 => .ok v r1 | none => .bad) := by
  unfold after
  cases frzs r (plains ms l) <;> rfl
@[simp] theorem q_callR {c : List D → CR} : callR ms c l r = if argsOk r ms l && apart (inouts ms l) (plains ms l) && decide (ms.length = l.length) then
    (match res r l with
      | some ds => after r ms l (c ds)
      | none => .bad) else .bad := by
  unfold callR
  split <;> rfl
@[simp] theorem q_callRO {c : List D → CR} : callRO ms c l r = if argsOk r ms l && apart (inouts ms l) (plains ms l) && decide (ms.length = l.length) then
    (match res r l with
      | some ds => match frzs r (plains ms l) with
        | none => .bad
        | some _ => match c ds with
          | .ok v outs => if keepV v && outs.all shal then
              (match chgs r (inouts ms l) outs with | some r2 => .ok v r2 | none => .bad) else .bad
          | _ => .bad
      | none => .bad) else .bad := rfl
@[simp] theorem q_keepV0 : keepV (.sh d) = flat d := rfl
@[simp] theorem q_keepV1 : keepV (.ow d) = shal d := rfl
@[simp] theorem q_scal : scal d = flat d := rfl
@[simp] theorem flat_non : flat .non = true := rfl
@[simp] theorem flat_bl {k : Bool} : flat (.bl k) = true := rfl
@[simp] theorem flat_int : flat (.int a) = true := rfl
@[simp] theorem flat_str {s : Str} : flat (.str s) = true := rfl
@[simp] theorem flat_lst : flat (.lst ds) = false := rfl
@[simp] theorem flat_tup : flat (.tup ds) = false := rfl
@[simp] theorem shal_lst : shal (.lst ds) = ds.all flat := rfl
@[simp] theorem outs0 {n : Nat} : outsOf r n [] = some [] := rfl
@[simp] theorem outsT {n : Nat} : outsOf r n (true :: ms) = match r[n]? with | some (.io d) => (outsOf r (n + 1) ms).map (d :: ·) | _ => none := by
  first
  | (rw [outsOf]; done)
  | (rw [outsOf]; cases r[n]? with
     | none => rfl
     | some s => cases s <;> rfl)
@[simp] theorem outsF {n : Nat} : outsOf r n (false :: ms) = outsOf r (n + 1) ms := rfl
@[simp] theorem cr_ret : (O.ret v r).cr ms = match outsOf r 0 ms with | some l => .ok v l | none => .bad := by
  show (match outsOf r 0 ms with | some l => _ | none => _) = _
  cases outsOf r 0 ms <;> rfl
@[simp] theorem cr_nx : (O.nx r).cr ms = match outsOf r 0 ms with | some l => .ok (.sh .non) l | none => .bad := by
  show (match outsOf r 0 ms with | some l => _ | none => _) = _
  cases outsOf r 0 ms <;> rfl
@[simp] theorem boolV_some {k : Bool} : boolV (some k) = some (.sh (.bl k)) := rfl
@[simp] theorem tru_bl {k : Bool} : tru (.bl k) = some k := rfl
@[simp] theorem tru_int : tru (.int a) = some (a != 0) := rfl
@[simp] theorem tru_lst : tru (.lst ds) = some (!ds.isEmpty) := rfl
@[simp] theorem bin_ii {op : Operator} : binD op (.int a) (.int b) = (binI op a b).map fun k => .sh (.int k) := rfl
@[simp] theorem bin_ll : binD .Add (.lst ds) (.lst ds2) = if ds.length + ds2.length ≤ LINE then some (.ow (.lst (ds ++ ds2))) else none := rfl
@[simp] theorem bI_add : binI .Add a b = some (a + b) := rfl
@[simp] theorem bI_sub : binI .Sub a b = some (a - b) := rfl
theorem bI_mod (h : 0 < b) : binI .Mod a b = some (a % b) := by simp [binI, h]
theorem bits_lt {n : Nat} (h : a.natAbs < 2 ^ n) : bits a ≤ n + 1 := by
  unfold bits
  rcases Nat.eq_zero_or_pos a.natAbs with e | e
  · rw [e]; simp
  · have := (Nat.log2_lt (Nat.pos_iff_ne_zero.mp e)).mpr h
    omega
theorem bI_fdiv (h : 0 < b) (h2 : b < 2 ^ 1000) : binI .FloorDiv a b = some (a / b) := by
  have := bits_lt (a := b) (n := 1000) (by omega)
  simp only [binI]
  rw [if_pos ⟨h, by omega⟩]
theorem bI_mul (n m : Nat) (h : a.natAbs < 2 ^ n) (h2 : b.natAbs < 2 ^ m) (h3 : n + m ≤ 900000) : binI .Mult a b = some (a * b) := by
  have := bits_lt h
  have := bits_lt h2
  simp only [binI]
  rw [if_pos (by omega)]
@[simp] theorem cmp_eq_ii : cmpD .Eq (.int a) (.int b) = some (decide (a = b)) := by
  simp [cmpD, okq, lay, dep, eqv]
  rfl
@[simp] theorem cmp_ne_ii : cmpD .NotEq (.int a) (.int b) = some (!decide (a = b)) := by
  simp [cmpD, okq, lay, dep, eqv]
  rfl
@[simp] theorem cmp_lt_ii : cmpD .Lt (.int a) (.int b) = some (decide (a < b)) := rfl
@[simp] theorem cmp_le_ii : cmpD .LtE (.int a) (.int b) = some (decide (a ≤ b)) := rfl
@[simp] theorem cmp_gt_ii : cmpD .Gt (.int a) (.int b) = some (decide (b < a)) := rfl
@[simp] theorem cmp_ge_ii : cmpD .GtE (.int a) (.int b) = some (decide (b ≤ a)) := rfl
@[simp] theorem bi_len_l : biD .len [.lst ds] = some (.sh (.int ds.length)) := rfl
@[simp] theorem bi_len_s {ns : List Int} : biD .len [.scr ns] = some (.sh (.int ns.length)) := rfl
@[simp] theorem bi_int_i : biD .int [.int a] = some (.sh (.int a)) := rfl
@[simp] theorem bi_list_l : biD .list [.lst ds] = some (.ow (.lst ds)) := rfl
@[simp] theorem bi_max_ii : biD .max [.int a, .int b] = some (.sh (.int (if b > a then b else a))) := rfl
@[simp] theorem bi_min_ii : biD .min [.int a, .int b] = some (.sh (.int (if b < a then b else a))) := rfl
@[simp] theorem bi_sum_il {ns : List Int} : biD .sum [.lst (ns.map .int)] = some (.sh (.int ns.sum)) := by
  show (Z.intsD (ns.map .int)).map _ = _
  rw [ints_map]
  rfl
theorem bi_sorted_il {ns : List Int} (h : ns.length < 64) : biD .sorted [il ns] = some (.ow (il (sortI ns))) := by
  show sortF [.lst (ns.map .int)] = _
  simp only [sortF, ints_map, h, if_true]
end
/-- bodies by rows -/
theorem start_eq {ms : List Bool} {n : Nat} {ds : List D} : En.start ms n ds = (ms.zipWith (fun m d => if m then Sl.io d else Sl.sh d) ds) ++ List.replicate (n - ds.length) .no := rfl
/-- _law_cell -/
def s__law_cell : List S :=
  [.ite (.val (.cmp .Lt (.var 1) (.bi .len [.var 0]))) [.ret (.idx (.var 0) (.var 1))] [],
    .ret (.bin .Mod (.bi .sum [.slc (.var 0) (.con .non) (.con (.int 1))]) (.con (.int 1000003)))]
def d__law_cell : Df := { modes := [false, false], names := 2, body := s__law_cell }
/-- _law_hash -/
def s__law_hash : List S :=
  [.asg (.v 2) (.bin .Mod (.bi .int [.bin .Add (.bin .Add (.bin .Add (.bin .Mult (.var 0) (.con (.int 1140671))) (.bin .Mult (.bin .Mult (.con (.int 27644437)) (.var 1)) (.var 1))) (.bin .Mult (.con (.int 131)) (.var 1))) (.con (.int 19))]) (.con (.int 2147483629))),
    .asg (.v 2) (.bin .Mod (.bi .int [.bin .Add (.bin .Add (.bin .Mult (.var 2) (.var 2)) (.bin .Mult (.con (.int 62089)) (.var 1))) (.con (.int 32416187))]) (.con (.int 2147483587))),
    .ret (.bin .Mod (.bi .int [.bin .Mult (.var 2) (.con (.int 48271))]) (.con (.int 2147483647)))]
def d__law_hash : Df := { modes := [false, false], names := 3, body := s__law_hash }
/-- _law_generator -/
def s__law_generator : List S :=
  [.asg (.v 2) (.call 34 [.var 0, .var 1] [] []),
    .ret (.lst [.bin .Mod (.bi .int [.bi .max [.bin .Sub (.var 2) (.bin .Pow (.con (.int 10)) (.con (.int 18))), .con (.int 0)]]) (.bin .Pow (.bin .Pow (.con (.int 10)) (.con (.int 60))) (.con (.int 10))), .bin .Mod (.bi .int [.var 2]) (.con (.int 2147483647)), .bin .Mult (.con (.int 1000)) (.var 1)])]
def d__law_generator : Df := { modes := [false, false], names := 3, body := s__law_generator }
/-- _law_random -/
def s__law_random_v1 : List S :=
  [.ite (.val (.cmp .Gt (.idx (.var 0) (.con (.int 0))) (.con (.int 0)))) [.asg (.v 2) (.bin .Mod (.bi .int [.idx (.var 0) (.con (.int 0))]) (.var 1)),
    .seti 0 (.con (.int 0)) (.bin .FloorDiv (.idx (.var 0) (.con (.int 0))) (.var 1)),
    .ret (.var 2)] [],
    .asg (.v 2) (.con (.int 0)),
    .for_ (.v 3) (.rng1 (.bin .Add (.con (.int 1)) (.bin .FloorDiv (.bits (.var 1)) (.con (.int 30))))) [.seti 0 (.con (.int 2)) (.bin .Add (.idx (.var 0) (.con (.int 2))) (.con (.int 1))),
    .asg (.v 2) (.bin .Add (.bin .Mult (.var 2) (.con (.int 2147483587))) (.call 32 [.idx (.var 0) (.con (.int 1)), .idx (.var 0) (.con (.int 2))] [] []))],
    .ret (.bin .Mod (.bi .int [.var 2]) (.var 1))]
def d__law_random_v1 : Df := { modes := [true, false], names := 4, body := s__law_random_v1 }
section
variable {Pg : Nat → Option Df} {fuel k f : Nat}
theorem m_cell (h : Pg f = some d__law_cell) (ns : List Int) (i : Nat) : ∃ v, callD Pg fuel (k + 1) f [.scr ns, .int i] = .ok (.sh (.int v)) [] := by
  rw [callD_eq h ⟨rfl, Nat.le_refl _⟩]
  by_cases c : i < ns.length
  · refine ⟨ns[i], ?_⟩
    have : (i : Int) < ns.length := by omega
    simp [d__law_cell, s__law_cell, start_eq, c, idxD, ixN]
  · refine ⟨(cut ns none (some 1)).sum % 1000003, ?_⟩
    have : ¬ (i : Int) < ns.length := by omega
    simp [d__law_cell, s__law_cell, start_eq, c, por, isNon, slcD, part?, bI_mod]
theorem m_hash (h : Pg f = some d__law_hash) (s i : Int) (hs : 0 ≤ s ∧ s < 2147483648) (hi : 0 ≤ i ∧ i < 2147483648) : ∃ v, (0 ≤ v ∧ v < 2147483647) ∧ callD Pg fuel (k + 1) f [.int s, .int i] = .ok (.sh (.int v)) [] := by
  rw [callD_eq h ⟨rfl, Nat.le_of_ble_eq_true rfl⟩]
  have md : ∀ x m : Int, 0 < m → 0 ≤ x % m ∧ x % m < m := fun x m p => ⟨Int.emod_nonneg _ (by omega), Int.emod_lt_of_pos _ p⟩
  have p1 : (2 : Nat) ^ 40 = 1099511627776 := by decide
  have p2 : (2 : Nat) ^ 80 = 1208925819614629174706176 := by decide
  have e1 : binI .Mult s 1140671 = some (s * 1140671) := bI_mul 40 40 (by omega) (by omega) (by omega)
  have e2 : binI .Mult 27644437 i = some (27644437 * i) := bI_mul 40 40 (by omega) (by omega) (by omega)
  have e3 : binI .Mult (27644437 * i) i = some (27644437 * i * i) := bI_mul 80 40 (by omega) (by omega) (by omega)
  have e4 : binI .Mult 131 i = some (131 * i) := bI_mul 40 40 (by omega) (by omega) (by omega)
  generalize g1 : (s * 1140671 + 27644437 * i * i + 131 * i + 19) % 2147483629 = x1
  have b1 := md (s * 1140671 + 27644437 * i * i + 131 * i + 19) 2147483629 (by decide)
  rw [g1] at b1
  have e5 : binI .Mult x1 x1 = some (x1 * x1) := bI_mul 40 40 (by omega) (by omega) (by omega)
  have e6 : binI .Mult 62089 i = some (62089 * i) := bI_mul 40 40 (by omega) (by omega) (by omega)
  generalize g2 : (x1 * x1 + 62089 * i + 32416187) % 2147483587 = x2
  have b2 := md (x1 * x1 + 62089 * i + 32416187) 2147483587 (by decide)
  rw [g2] at b2
  have e7 : binI .Mult x2 48271 = some (x2 * 48271) := bI_mul 40 40 (by omega) (by omega) (by omega)
  refine ⟨_, md (x2 * 48271) 2147483647 (by decide), ?_⟩
  simp [d__law_hash, s__law_hash, start_eq, e1, e2, e3, e4, g1, bI_mod, e5, e6, g2, e7]
/-- a generator, with at most so many turns behind it -/
def Gd (m : Nat) (g : D) : Prop := ∃ a b c : Int, g = .lst [.int a, .int b, .int c] ∧ (0 ≤ b ∧ b < 2147483647) ∧ (0 ≤ c ∧ c ≤ m)
theorem Gd.mono {m n : Nat} {g : D} (h : Gd m g) (l : m ≤ n) : Gd n g := by
  obtain ⟨a, b, c, e, hb, hc⟩ := h
  exact ⟨a, b, c, e, hb, by omega⟩
theorem m_generator (h34 : Pg 34 = some d__law_cell) (h : Pg f = some d__law_generator) (ns : List Int) (i : Nat) (hi : i ≤ 1000) : ∃ g, Gd (1000 * i) g ∧ callD Pg fuel (k + 2) f [.scr ns, .int i] = .ok (.ow g) [] := by
  rw [callD_eq h ⟨rfl, Nat.le_of_ble_eq_true rfl⟩]
  obtain ⟨v, e⟩ := m_cell (fuel := fuel) (k := k) h34 ns i
  have b10 : bits 10 = 4 := by decide
  have e1 : binI .Pow 10 18 = some (10 ^ 18) := by simp [binI, b10]
  have e2 : binI .Pow 10 60 = some (10 ^ 60) := by simp [binI, b10]
  have b60 := bits_lt (a := 10 ^ 60) (n := 300) (by decide)
  have e3 : binI .Pow (10 ^ 60) 10 = some ((10 ^ 60) ^ 10) := by
    simp only [binI]
    rw [if_pos ⟨by decide, by show bits (10 ^ 60) * 10 ≤ 1000000; omega⟩]
    rfl
  have e4 : binI .Mult 1000 (i : Int) = some (1000 * (i : Int)) := bI_mul 40 40 (by decide) (by omega) (by omega)
  have p0 : (0 : Int) < (10 ^ 60) ^ 10 := Int.pow_pos (Int.pow_pos (by decide))
  generalize gp : (10 : Int) ^ 60 = p60 at e2 e3 p0
  generalize gq : p60 ^ 10 = q at e3 p0
  generalize gr : (10 : Int) ^ 18 = q18 at e1
  have e5 : ∀ x, binI .Mod x q = some (x % q) := fun x => bI_mod p0
  have l3 : (3 : Nat) ≤ LINE := by decide
  refine ⟨.lst [.int ((if 0 > v - q18 then 0 else v - q18) % q), .int (v % 2147483647), .int (1000 * i)], ⟨_, _, _, rfl, ⟨Int.emod_nonneg _ (by decide), Int.emod_lt_of_pos _ (by decide)⟩, by omega⟩, ?_⟩
  simp [d__law_generator, s__law_generator, start_eq, e, h34, d__law_cell, e1, e2, e3, e4, e5, bI_mod, l3]
theorem forL_run0 {g : D → En → O} (Iv : Nat → En → Prop) (l : List D) (r : En) (h : ∀ (j : Nat) (hj : j < l.length) (r : En), Iv j r → ∃ r', g l[j] r = .nx r' ∧ Iv (j + 1) r') (h0 : Iv 0 r) : ∃ r', forL g l r = .nx r' ∧ Iv l.length r' := by
  obtain ⟨r', e, q⟩ := forL_run (f := g) Iv l 0 r (fun j x r q w => by
    rw [Nat.zero_add] at w ⊢
    obtain ⟨hj, rfl⟩ := List.getElem?_eq_some_iff.mp q
    exact h j hj r w) h0
  rw [Nat.zero_add] at q
  exact ⟨r', e, q⟩
/-- a loop by what holds ahead of each turn -/
theorem for_run {C : Cf} {t : Tg} {it : I} {body : List S} {r r1 : En} {l : List D} (Iv : Nat → En → Prop) (he : evI C it r = .ok l r1) (h : ∀ (j : Nat) (hj : j < l.length) (r : En), Iv j r → ∃ r', ((O.of (bindT t l[j] r)).then fun r3 => xs C body r3) = .nx r' ∧ Iv (j + 1) r') (h0 : Iv 0 r1) : ∃ r', x1 C (.for_ t it body) r = .nx r' ∧ Iv l.length r' := by
  obtain ⟨r', e, q⟩ := forL_run0 (g := fun x r2 => (O.of (bindT t x r2)).then fun r3 => xs C body r3) Iv l r1 h h0
  exact ⟨r', by rw [q_for, he, R.run_ok]; exact e, q⟩
theorem rng0_get (n : Int) (j : Nat) (h : j < ((rangeI 0 n 1).map D.int).length) : ((rangeI 0 n 1).map D.int)[j] = .int j := by
  simp [rangeI]
theorem rng0_len (n : Nat) : ((rangeI 0 n 1).map D.int).length = n := by
  rw [rng_len]
  omega
theorem ib_le {x : Int} {n : Nat} (h : x.natAbs < 2 ^ n) : PySem.Builtin.Int.intBits x ≤ n := by
  unfold PySem.Builtin.Int.intBits
  split
  · exact Nat.zero_le _
  · rename_i c
    have hx : x ≠ 0 := by simpa using c
    have := (Nat.log2_lt (n := x.natAbs) (k := n) (by omega)).mpr h
    omega
theorem m_random (h32 : Pg 32 = some d__law_hash) (h : Pg f = some d__law_random_v1) (m : Nat) (hm : m ≤ 1000000) (g : D) (hg : Gd m g) (L : Int) (hL : 1 ≤ L ∧ L ≤ 18446744073709551616) : ∃ v g', (0 ≤ v ∧ v < L) ∧ Gd (m + 3) g' ∧ callD Pg fuel (k + 2) f [g, .int L] = .ok (.sh (.int v)) [g'] := by
  obtain ⟨a, b, c, rfl, hb, hc⟩ := hg
  rw [callD_eq h ⟨rfl, Nat.le_of_ble_eq_true rfl⟩]
  have md : ∀ x : Int, 0 ≤ x % L ∧ x % L < L := fun x => ⟨Int.emod_nonneg _ (by omega), Int.emod_lt_of_pos _ (by omega)⟩
  have eM : ∀ x, binI .Mod x L = some (x % L) := fun x => bI_mod (by omega)
  have big : (2 : Int) ^ 1000 > 18446744073709551616 := by decide
  have eF : ∀ x, binI .FloorDiv x L = some (x / L) := fun x => bI_fdiv (by omega) (by omega)
  by_cases ha : 0 < a
  · refine ⟨a % L, .lst [.int (a / L), .int b, .int c], md a, ⟨_, b, c, rfl, hb, by omega⟩, ?_⟩
    simp [d__law_random_v1, s__law_random_v1, start_eq, idxD, atL, ixN, ha, eM, eF, setD]
  · have ib := ib_le (x := L) (n := 65) (by omega)
    have e30 : binI .FloorDiv (PySem.Builtin.Int.intBits L : Int) 30 = some ((PySem.Builtin.Int.intBits L : Int) / 30) := bI_fdiv (by decide) (by omega)
    obtain ⟨t, ht, ht3⟩ : ∃ t : Nat, 1 + (PySem.Builtin.Int.intBits L : Int) / 30 = t ∧ t ≤ 3 := ⟨1 + PySem.Builtin.Int.intBits L / 30, by omega, by omega⟩
    have er := rng1_eq (C := Cz Pg fuel (k + 1)) (b := .bin .Add (.con (.int 1)) (.bin .FloorDiv (.bits (.var 1)) (.con (.int 30)))) (r := [.io (.lst [.int a, .int b, .int c]), .sh (.int L), .sh (.int 0), .no]) (r2 := [.io (.lst [.int a, .int b, .int c]), .sh (.int L), .sh (.int 0), .no]) (y := .inr (.int t)) (j := t) (by
      simp [mtD, e30, ht]) rfl (by omega)
    have lp := for_run (t := .v 3) (body := [.seti 0 (.con (.int 2)) (.bin .Add (.idx (.var 0) (.con (.int 2))) (.con (.int 1))),
    .asg (.v 2) (.bin .Add (.bin .Mult (.var 2) (.con (.int 2147483587))) (.call 32 [.idx (.var 0) (.con (.int 1)), .idx (.var 0) (.con (.int 2))] [] []))])
      (fun i r => ∃ (c x : Int) (y : Sl), r = [.io (.lst [.int a, .int b, .int c]), .sh (.int L), .sh (.int x), y] ∧ (y = .no ∨ ∃ d, y = .sh d) ∧ (0 ≤ c ∧ c ≤ m + i) ∧ x.natAbs < 2 ^ (32 * i)) er (by
        intro j hj r hr
        rw [rng0_len] at hj
        obtain ⟨c, x, y, rfl, hy, hc, hx⟩ := hr
        rw [rng0_get]
        obtain ⟨v, hv, e⟩ := m_hash (fuel := fuel) (k := k) h32 b (c + 1) (by omega) (by omega)
        have pw : 2 ^ (32 * (j + 1)) = 2 ^ (32 * j) * 4294967296 := by rw [Nat.mul_add, Nat.pow_add]
        have le : 2 ^ (32 * j) ≤ 2 ^ 96 := Nat.pow_le_pow_right (by decide) (by omega)
        have pos : 0 < 2 ^ (32 * j) := Nat.pow_pos (by decide)
        have eX : binI .Mult x 2147483587 = some (x * 2147483587) := bI_mul 96 40 (by omega) (by decide) (by omega)
        refine ⟨_, ?_, c + 1, x * 2147483587 + v, .sh (.int j), rfl, .inr ⟨_, rfl⟩, by omega, ?_⟩
        · rcases hy with rfl | ⟨d, rfl⟩ <;> simp [bindT, idxD, atL, ixN, setD, eX, e, h32, d__law_hash]
        · rw [pw]
          generalize 2 ^ (32 * j) = P at *
          omega) ⟨c, 0, .no, rfl, .inl rfl, by omega, by decide⟩
    obtain ⟨r', e', c', x', y', rfl, hy, hc', hx'⟩ := lp
    rw [rng0_len] at hc'
    refine ⟨x' % L, .lst [.int a, .int b, .int c'], md x', ⟨a, b, c', rfl, hb, by omega⟩, ?_⟩
    simp [-q_for, d__law_random_v1, s__law_random_v1, start_eq, idxD, atL, ixN, ha, e', eM]
end
end Z
/-! YI: places drawn by a law. -/
namespace Z
open PySem (Str Operator CmpOp)
section
variable {Pg : Nat → Option Df} {fuel k f : Nat}
/-- a slot of a plain name -/
def Pn (y : Sl) : Prop := y = .no ∨ ∃ d, y = .sh d
theorem Gd.shal {m : Nat} {g : D} (h : Gd m g) : shal g = true := by
  obtain ⟨a, b, c, rfl, _, _⟩ := h
  rfl
theorem in_il (x : Int) (l : List Int) : cmpD .NotIn (.int x) (.lst (l.map .int)) = some (!decide (x ∈ l)) := by
  simp only [cmpD, inD, flat_il, flat_int, Bool.and_true, if_true, Option.map_some]
  congr 2
  rw [List.any_map]
  rw [Bool.eq_iff_iff]
  simp only [List.any_eq_true, decide_eq_true_eq, Function.comp]
  constructor
  · rintro ⟨y, hy, e⟩
    have : y = x := by simpa [eqv] using e
    exact this ▸ hy
  · intro hx
    exact ⟨x, hx, by simp [eqv]⟩
/-- places of a width, in order -/
def Places (n w : Nat) (ps : List Int) : Prop := ps ≠ [] ∧ ps.length ≤ n ∧ ps.Pairwise (· < ·) ∧ ∀ x ∈ ps, 0 ≤ x ∧ x ≤ 2 ^ w - 1
theorem sort_lt {l : List Int} (nd : l.Nodup) : (sortI l).Pairwise (· < ·) := by
  have h1 := sortI_sorted l
  have h2 : (sortI l).Nodup := (sortI_perm l).nodup_iff.mpr nd
  exact List.Pairwise.imp₂ (fun a b h h' => by omega) h1 h2
theorem Places.mono {n n' w : Nat} {ps : List Int} (h : Places n w ps) (l : n ≤ n') : Places n' w ps := ⟨h.1, Nat.le_trans h.2.1 l, h.2.2⟩
theorem pow_le64 {w : Nat} (h : w ≤ 64) : (1 : Int) ≤ 2 ^ w ∧ (2 : Int) ^ w ≤ 18446744073709551616 := by
  have h1 := Nat.pow_le_pow_right (n := 2) (by omega) h
  have h2 : 0 < 2 ^ w := Nat.pow_pos (by decide)
  have : ((2 ^ w : Nat) : Int) = 2 ^ w := by simp
  omega
end
end Z
/-! YJ: near places, drawn places. -/
namespace Z
open PySem (Str Operator CmpOp)
theorem cut_take (l : List Int) (i : Nat) : cut (l.map D.int) none (some (i : Int)) = (l.take i).map D.int := by
  show ((l.map D.int).drop 0).take ((if (i : Int) < 0 then ((i : Int) + ((l.map D.int).length : Nat)).toNat else min (i : Int).toNat (l.map D.int).length) - 0) = _
  rw [if_neg (by omega), Int.toNat_natCast, List.drop_zero, Nat.sub_zero, List.length_map, List.map_take, List.take_eq_take_iff]
  simp
theorem in_take (x : Int) (i : Nat) (l : List Int) : cmpD .NotIn (.int x) (.lst ((l.map .int).take i)) = some (!decide (x ∈ l.take i)) := by
  rw [← List.map_take, in_il]
end Z
/-! YK: by rests, falling. -/
namespace Z
open PySem (Str Operator CmpOp)
end Z
/-! YL: the law of numbers by rests. -/
namespace Z
open PySem (Str Operator CmpOp)
/-- the defs that a good row and its checks reach -/
structure GB0 (Pg : Nat → Option Df) : Prop where
  h0 : Pg 0 = some d_is_whole
  h1 : Pg 1 = some d_is_between
  h3 : Pg 3 = some d_power_of_two
  h4 : Pg 4 = some d_twos
  h8 : Pg 8 = some d_is_width
  h9 : Pg 9 = some d_check_width
  h10 : Pg 10 = some d_is_of_width
  h11 : Pg 11 = some d_rises
  h12 : Pg 12 = some d_are_places
  h13 : Pg 13 = some d_check_places
/-- .. and good_row -/
structure GB (Pg : Nat → Option Df) : Prop extends GB0 Pg where
  h5 : Pg 5 = some d_good_row
section
variable {Pg : Nat → Option Df} {fuel k f : Nat}
/-- places of any number of a width -/
def PlW (w : Nat) (ps : List Int) : Prop := ps ≠ [] ∧ ps.Pairwise (· < ·) ∧ ∀ x ∈ ps, 0 ≤ x ∧ x ≤ 2 ^ w - 1
theorem PlW.wi {w : Nat} {ps : List Int} (h : PlW w ps) : Wi w ps := ⟨h.2.1.imp fun h => Int.ne_of_lt h, fun x hx => by have := h.2.2 x hx; omega⟩
theorem lc_none {C : Cf} {e : E} {t : Tg} {it : I} {ts : List Z.T} {own : List Nat} {r r1 : En} {l : List D} (hi : evI C it r = .ok l r1) (ho : ownFree r1 own = true) (ht : (tgS t).all own.contains = true) (hl : l.length ≤ 1000)
    (h : ∀ x ∈ l, ∃ r5, lcF t (evC C ts) (ev C e) own x (wip r1 own) = .ok none r5 ∧ wip r5 own = wip r1 own) : ev C (.lc e t it ts own) r = thawL r [] r1 := by
  rw [lc_run (fun _ => none) hi ho ht (line_le hl) h, List.filterMap_eq_nil_iff.mpr fun _ _ => rfl]
end
end Z
/-! YM: even steps; the law of numbers by rests. -/
namespace Z
open PySem (Str Operator CmpOp)
section
variable {Pg : Nat → Option Df} {fuel k f : Nat}
theorem bi_lrange_i {n : Nat} (h : n ≤ 1000) : biD .lrange [.int n] = some (.ow (il (ap 0 1 n))) := by
  have e : rgOk 0 n = true := by
    unfold rgOk
    exact decide_eq_true (by omega)
  show (if rgOk 0 n = true then _ else none) = _
  rw [if_pos e]
  congr 3
  unfold rangeI rangeN ap
  simp
end
end Z
/-! YN: repr of plain data. -/
namespace Z
open PySem (Str Operator CmpOp PyData)
def CpsOk (s : Str) : Prop := ∀ c ∈ s.cps.toList, c < 0x110000
theorem cps_app {a b : Str} (ha : CpsOk a) (hb : CpsOk b) : CpsOk (a ++ b) := by
  intro c hc
  have hc : c ∈ (a.cps ++ b.cps).toList := hc
  rw [Array.toList_append, List.mem_append] at hc
  exact hc.elim (ha c) (hb c)
theorem cps_of (s : String) : CpsOk (Str.ofString s) := by
  intro c hc
  rw [PySem.Str.ofString_eq_toList] at hc
  obtain ⟨ch, _, rfl⟩ := List.mem_map.mp hc
  have := ch.valid
  show ch.val.toNat < 0x110000
  rcases this with h | ⟨_, h⟩
  · have : ch.val.toNat < 0xd800 := h
    omega
  · exact h
theorem cps_from : ∀ (ts : List Str) (k : Nat) (acc : Str), CpsOk acc → (∀ t ∈ ts, CpsOk t) → CpsOk (PySem.textFrom k acc ts)
  | [], _, _, h, _ => h
  | t :: ts, k, acc, h, ht => by
    unfold PySem.textFrom
    exact cps_from ts _ _ (cps_app (cps_app h (cps_of _)) (ht t List.mem_cons_self)) fun u m => ht u (List.mem_cons_of_mem _ m)
theorem cps_join {s : Str} (hs : CpsOk s) : ∀ ts : List Str, (∀ t ∈ ts, CpsOk t) → CpsOk (PySem.Str.join s ts)
  | [], _ => by intro c hc; cases hc
  | [x], h => h x List.mem_cons_self
  | x :: y :: r, h => by
    show CpsOk (x ++ s ++ PySem.Str.join s (y :: r))
    exact cps_app (cps_app (h x List.mem_cons_self) hs) (cps_join hs (y :: r) fun t m => h t (List.mem_cons_of_mem _ m))
theorem cps_list (ts : List Str) (h : ∀ t ∈ ts, CpsOk t) : CpsOk (PySem.listText ts) := cps_app (cps_from ts 0 _ (cps_of _) h) (cps_of _)
theorem cps_tuple (ts : List Str) (h : ∀ t ∈ ts, CpsOk t) : CpsOk (PySem.tupleText ts) := cps_app (cps_app (cps_of _) (cps_join (cps_of _) ts h)) (cps_of _)
/-! data of whole numbers, truth values, None, lists and tuples of them -/
mutual
def pln (B : Nat) : D → Bool
  | .non => true
  | .bl _ => true
  | .int i => decide (i.natAbs < 10 ^ B)
  | .lst l => plns B l
  | .tup l => plns B l
  | _ => false
def plns (B : Nat) : List D → Bool
  | [] => true
  | x :: xs => pln B x && plns B xs
end
mutual
theorem cps_shown (B : Nat) : ∀ d : D, pln B d = true → CpsOk (pyT d).shown
  | .non, _ => cps_of _
  | .bl b, _ => by cases b <;> exact cps_of _
  | .int i, _ => cps_of _
  | .lst l, h => by
    simp only [pyT, PyData.shown]
    exact cps_list _ (cps_showns B l (by simpa only [pln] using h))
  | .tup l, h => by
    simp only [pyT, PyData.shown]
    exact cps_tuple _ (cps_showns B l (by simpa only [pln] using h))
  | .str _, h => by simp [pln] at h
  | .dct _ _, h => by simp [pln] at h
  | .dts _, h => by simp [pln] at h
  | .fn _, h => by simp [pln] at h
  | .exn _ _, h => by simp [pln] at h
  | .scr _, h => by simp [pln] at h
theorem cps_showns (B : Nat) : ∀ l : List D, plns B l = true → ∀ t ∈ PyData.shownAll (pyTs l), CpsOk t
  | [], _, t, m => by cases m
  | x :: l, h, t, m => by
    simp only [plns, Bool.and_eq_true] at h
    simp only [pyTs, PyData.shownAll] at m
    rcases List.mem_cons.mp m with rfl | m
    · exact cps_shown B x h.1
    · exact cps_showns B l h.2 t m
end
mutual
theorem shb_of (B : Nat) (hB : 0 < B) (h2 : B ≤ 500) : ∀ d : D, pln B d = true → (pyT d).showable = true ∧ (pyT d).leavesShort (B + 8) = true ∧ lay d = true
  | .non, _ => ⟨rfl, rfl, rfl⟩
  | .bl b, _ => ⟨rfl, rfl, rfl⟩
  | .int i, h => by
    have h' : i.natAbs < 10 ^ B := by simpa [pln] using h
    refine ⟨?_, ?_, rfl⟩
    · simp only [pyT, PyData.showable, decide_eq_true_eq]
      rcases Nat.eq_zero_or_pos i.natAbs with e | e
      · rw [e]; decide
      · refine (Nat.log2_lt (by omega)).mpr ?_
        have a : (10 : Nat) ^ B ≤ 10 ^ 500 := Nat.pow_le_pow_right (by decide) h2
        have b : (10 : Nat) ^ 500 ≤ 2 ^ 1920 := by decide +kernel
        omega
    · simp only [pyT, PyData.leavesShort, decide_eq_true_eq]
      have := PySem.int_text_length_le10 hB h'
      show (Str.ofString (toString i)).length ≤ B + 8
      rw [PySem.ofString_length]
      omega
  | .lst l, h => by
    obtain ⟨a, b, c⟩ := shbs_of B hB h2 l (by simpa only [pln] using h)
    exact ⟨by simpa only [pyT, PyData.showable] using a, by simpa only [pyT, PyData.leavesShort] using b, by simpa only [lay] using c⟩
  | .tup l, h => by
    obtain ⟨a, b, c⟩ := shbs_of B hB h2 l (by simpa only [pln] using h)
    exact ⟨by simpa only [pyT, PyData.showable] using a, by simpa only [pyT, PyData.leavesShort] using b, by simpa only [lay] using c⟩
  | .str _, h => by simp [pln] at h
  | .dct _ _, h => by simp [pln] at h
  | .dts _, h => by simp [pln] at h
  | .fn _, h => by simp [pln] at h
  | .exn _ _, h => by simp [pln] at h
  | .scr _, h => by simp [pln] at h
theorem shbs_of (B : Nat) (hB : 0 < B) (h2 : B ≤ 500) : ∀ l : List D, plns B l = true → PyData.showableAll (pyTs l) = true ∧ PyData.leavesShortAll (B + 8) (pyTs l) = true ∧ lays l = true
  | [], _ => ⟨rfl, rfl, rfl⟩
  | x :: l, h => by
    simp only [plns, Bool.and_eq_true] at h
    obtain ⟨a, b, c⟩ := shb_of B hB h2 x h.1
    obtain ⟨a', b', c'⟩ := shbs_of B hB h2 l h.2
    refine ⟨?_, ?_, ?_⟩
    · simp only [pyTs, PyData.showableAll, a, a', Bool.and_self]
    · simp only [pyTs, PyData.leavesShortAll, b, b', Bool.and_self]
    · simp only [lays, c, c', Bool.and_self]
end
/-- repr of plain data that is small -/
theorem bi_repr_of {d : D} (B : Nat) (hB : 0 < B) (h2 : B ≤ 500) (h : pln B d = true) (hd : dep d ≤ 64) (hw : (B + 10) * (pyT d).weight + (B + 8) ≤ 16777216) : biD .repr [d] = some (.sh (.str (pyT d).shown)) := by
  obtain ⟨a, b, c⟩ := shb_of B hB h2 d h
  have e := PyData.shown_le (B + 8) (by omega) (pyT d) b
  rw [show B + 8 + 2 = B + 10 from rfl] at e
  have L : (LINE : Nat) = 16777216 := rfl
  show (reprD d).map _ = _
  unfold reprD okq
  rw [a, c, decide_eq_true hd, decide_eq_true (by omega)]
  rfl
theorem str_same {s : Str} (h : CpsOk s) : cmpD .NotEq (.str s) (.str s) = some false ∧ cmpD .Eq (.str s) (.str s) = some true := by
  have e : okq (.str s) = true := by
    unfold okq
    simp only [lay, dep]
    rw [Bool.and_eq_true]
    refine ⟨?_, rfl⟩
    unfold PyData.strOk
    rw [Array.all_eq_true_iff_forall_mem]
    intro c hc
    simpa using h c (Array.mem_toList_iff.mpr hc)
  simp [cmpD, e, eqv]
theorem bi_repr_int {i : Int} (h : i.natAbs < 10 ^ 100) : biD .repr [.int i] = some (.sh (.str (pyT (.int i)).shown)) := by
  refine bi_repr_of 100 (by decide) (by decide) (by simpa [pln] using h) (by simp [dep]) ?_
  simp only [pyT, PyData.weight]
  have : (if (i == 0) = true then 0 else i.natAbs.log2 + 1) ≤ 400 := by
    split
    · omega
    · rename_i c
      have hx : i ≠ 0 := by simpa using c
      have a : (10 : Nat) ^ 100 ≤ 2 ^ 350 := by decide +kernel
      have := (Nat.log2_lt (n := i.natAbs) (k := 350) (by omega)).mpr (by omega)
      omega
  generalize (if (i == 0) = true then 0 else i.natAbs.log2 + 1) = z at this
  omega
end Z
/-! YO: the least twos of so many places. -/
namespace Z
/-! ### twos of all differences -/
/-- twos between a place and a row -/
def btw (l : List Int) (p : Int) : Nat := (l.map fun q => v2 (p - q)).sum
def at2 : List Int → Nat
  | [] => 0
  | x :: l => btw l x + at2 l
theorem v2_neg (n : Int) : v2 (-n) = v2 n := by
  by_cases h : n = 0
  · subst h; rfl
  · by_cases e : n % 2 = 0
    · rw [v2_even h e, v2_even (by omega) (by omega), show -n / 2 = -(n / 2) by omega, v2_neg (n / 2)]
    · rw [v2_odd e, v2_odd (by omega)]
termination_by n.natAbs
decreasing_by omega
theorem v2_sub (a b : Int) : v2 (a - b) = v2 (b - a) := by rw [← v2_neg, Int.neg_sub]
theorem btw_cons (x : Int) (l : List Int) (p : Int) : btw (x :: l) p = v2 (p - x) + btw l p := rfl
theorem btw_app (l m : List Int) (p : Int) : btw (l ++ m) p = btw l p + btw m p := by simp [btw]
theorem btw_perm {l m : List Int} (h : l.Perm m) (p : Int) : btw l p = btw m p := (h.map _).sum_nat
theorem at2_perm {l m : List Int} (h : l.Perm m) : at2 l = at2 m := by
  induction h with
  | nil => rfl
  | cons x p ih => show btw _ x + at2 _ = btw _ x + at2 _; rw [btw_perm p, ih]
  | swap x y l =>
    show btw (x :: l) y + (btw l x + at2 l) = btw (y :: l) x + (btw l y + at2 l)
    rw [btw_cons, btw_cons, v2_sub y x]
    omega
  | trans _ _ h1 h2 => exact h1.trans h2
theorem at2_snoc (l : List Int) (x : Int) : at2 (l ++ [x]) = at2 l + btw l x := by
  rw [at2_perm (List.perm_append_comm : (l ++ [x]).Perm ([x] ++ l))]
  show btw l x + at2 l = _
  omega
/-- the numbers of an order -/
def no (s : Int → Int) : List Int → List Int
  | [] => []
  | t :: l => s t :: no (fun p => s p + v2 (p - t)) l
theorem no_sum : ∀ (l : List Int) (s : Int → Int), (no s l).sum = (l.map s).sum + at2 l
  | [], _ => rfl
  | t :: l, s => by
    have ih := no_sum l fun p => s p + v2 (p - t)
    have e : ∀ l : List Int, (l.map fun p => s p + (v2 (p - t) : Int)).sum = (l.map s).sum + (btw l t : Int) := by
      intro l
      induction l with
      | nil => rfl
      | cons x l ih =>
        simp only [List.map_cons, List.sum_cons, ih, btw_cons, v2_sub t x]
        omega
    simp only [no, List.sum_cons, List.map_cons, at2, ih, e]
    omega
theorem no_take : ∀ (k : Nat) (l : List Int) (s : Int → Int), (no s l).take k = no s (l.take k)
  | 0, _, _ => by simp [no]
  | _ + 1, [], _ => by simp [no]
  | k + 1, t :: l, s => by simp [no, no_take k l]
theorem gr_no : ∀ (n : Nat) (left : List Int) (s : Int → Int), left.length = n → (gr n left (left.map s)).2 = no s (gr n left (left.map s)).1 ∧ (gr n left (left.map s)).1.Perm left
  | 0, left, s, h => by
    have : left = [] := List.eq_nil_of_length_eq_zero h
    subst this
    exact ⟨rfl, .refl _⟩
  | n + 1, left, s, h => by
    have hs : left.map s ≠ [] := fun e => by
      have := congrArg List.length e
      simp at this
      subst this
      simp at h
    have i1 := mi_lt hs
    have i2 : mi (left.map s) < left.length := by simpa using i1
    generalize gi : mi (left.map s) = i at *
    have g1 : left.getD i 0 = left[i] := by simp [i2]
    have g2 : (left.map s).getD i 0 = s left[i] := by simp [i2]
    have em : ∀ (l : List Int) (i : Nat), (l.map s).eraseIdx i = (l.eraseIdx i).map s := by
      intro l
      induction l with
      | nil => intro i; rfl
      | cons x l ih =>
        intro i
        cases i with
        | zero => rfl
        | succ i => simp [ih i]
    have gz : ∀ l : List Int, gsum left[i] (l.map s) l = l.map fun p => s p + v2 (p - left[i]) := by
      intro l
      induction l with
      | nil => rfl
      | cons x l ih =>
        simp only [gsum, List.map_cons, List.zipWith_cons_cons] at ih ⊢
        rw [ih]
    obtain ⟨q1, q2⟩ := gr_no n (left.eraseIdx i) (fun p => s p + v2 (p - left[i])) (by rw [List.length_eraseIdx_of_lt i2]; omega)
    have e : gr (n + 1) left (left.map s) = (left[i] :: (gr n (left.eraseIdx i) ((left.eraseIdx i).map fun p => s p + v2 (p - left[i]))).1, s left[i] :: (gr n (left.eraseIdx i) ((left.eraseIdx i).map fun p => s p + v2 (p - left[i]))).2) := by
      show (left.getD (mi (left.map s)) 0 :: _, (left.map s).getD (mi (left.map s)) 0 :: _) = _
      rw [gi, g1, g2, em, gz]
    rw [e]
    refine ⟨?_, ?_⟩
    · show s left[i] :: _ = s left[i] :: no _ _
      rw [q1]
    · show (left[i] :: _).Perm left
      refine (q2.cons _).trans ?_
      have : left = left.take i ++ left[i] :: left.drop (i + 1) := by
        rw [← List.drop_eq_getElem_cons i2, List.take_append_drop]
      conv => rhs; rw [this]
      rw [List.eraseIdx_eq_take_drop_succ]
      exact List.perm_middle.symm
/-- the order of a row of places -/
def ord (ps : List Int) : List Int := (gr ps.length ps (List.replicate ps.length 0)).1
theorem zeros_map (ps : List Int) : List.replicate ps.length (0 : Int) = ps.map fun _ => 0 := by
  rw [List.map_const']
theorem ord_perm (ps : List Int) : (ord ps).Perm ps := by
  unfold ord
  rw [zeros_map]
  exact (gr_no _ ps (fun _ => 0) rfl).2
theorem nums_no (ps : List Int) : nums ps = no (fun _ => 0) (ord ps) := by
  unfold nums ord
  rw [zeros_map]
  exact (gr_no _ ps (fun _ => 0) rfl).1
theorem zsum (l : List Int) : (l.map fun _ => (0 : Int)).sum = 0 := by
  induction l with
  | nil => rfl
  | cons x l ih => simp [ih]
theorem nums_sum (ps : List Int) (k : Nat) : ((nums ps).take k).sum = at2 ((ord ps).take k) := by
  rw [nums_no, no_take, no_sum, zsum]
  omega
theorem nums_all (ps : List Int) : (nums ps).sum = at2 ps := by
  have := nums_sum ps ps.length
  rw [← at2_perm (ord_perm ps)]
  have l1 : (nums ps).length = ps.length := by unfold nums; exact (gr_len _ _ _).2
  have l2 : (ord ps).length = ps.length := by unfold ord; exact (gr_len _ _ _).1
  rw [List.take_of_length_le (by omega), List.take_of_length_le (by omega)] at this
  exact this
/-- with fewer places no number is less -/
def Dm (a b : List Int) : Prop := b.length ≤ a.length ∧ ∀ (i : Nat) (h : i < b.length) (h2 : i < a.length), a[i] ≤ b[i]
theorem Dm.trans {a b c : List Int} (h : Dm a b) (h2 : Dm b c) : Dm a c := ⟨Nat.le_trans h2.1 h.1, fun i q q2 => Int.le_trans (h.2 i (by have := h2.1; omega) q2) (h2.2 i q (by have := h2.1; omega))⟩
theorem br_sub {d : Nat} {l m : List Int} (s : l.Sublist m) : Wi d m → Dm (br d m) (br d l) := by
  have key : ∀ (pre : List Int), Wi d (pre ++ m) → Dm (br d (pre ++ m)) (br d (pre ++ l)) := by
    induction s with
    | slnil => exact fun pre h => ⟨Nat.le_refl _, fun i _ _ => Int.le_refl _⟩
    | @cons l m x s ih =>
      intro pre h
      have h2 : Wi d (pre ++ m) := ⟨(h.1).sublist (List.Sublist.append_left (List.sublist_cons_self _ _) _), fun p hp => h.2 p (by
        rcases List.mem_append.mp hp with hp | hp
        · exact List.mem_append_left _ hp
        · exact List.mem_append_right _ (List.mem_cons_of_mem _ hp))⟩
      have pw := br_less_pw h
      have l1 := br_len d (pre ++ x :: m)
      have l2 := br_len d (pre ++ m)
      simp at l1 l2
      exact Dm.trans ⟨by omega, fun i q q2 => (pw i q (by omega)).1⟩ (ih pre h2)
    | @cons_cons l m x s ih =>
      intro pre h
      have := ih (pre ++ [x]) (by simpa using h)
      simpa using this
  exact fun h => by simpa using key [] (by simpa using h)
theorem dm_sum : ∀ (a b : List Int), Dm a b → (a.take b.length).sum ≤ b.sum
  | _, [], _ => by simp
  | [], y :: b, h => by have := h.1; simp at this
  | x :: a, y :: b, h => by
    have h0 : x ≤ y := h.2 0 (by simp) (by simp)
    have := dm_sum a b ⟨by simpa using h.1, fun i q q2 => h.2 (i + 1) (by simpa using q) (by simpa using q2)⟩
    simp only [List.length_cons, List.take_succ_cons, List.sum_cons]
    omega
/-- the least of the twos of so many places -/
theorem least_le {d : Nat} {t ps : List Int} (s : t.Sublist ps) (h : Wi d ps) : ((br d ps).take t.length).sum ≤ (at2 t : Int) := by
  have h2 : Wi d t := ⟨h.1.sublist s, fun p hp => h.2 p (s.subset hp)⟩
  have := dm_sum _ _ (br_sub s h)
  rw [br_len] at this
  rw [← nums_all t, nums_br h2]
  exact this
theorem filter_perm {l m : List Int} (hl : l.Nodup) (s : ∀ x ∈ m, x ∈ l) (hm : m.Nodup) : (l.filter fun x => decide (x ∈ m)).Perm m := by
  rw [List.perm_ext_iff_of_nodup (hl.sublist List.filter_sublist) hm]
  intro x
  simp only [List.mem_filter, decide_eq_true_eq]
  exact ⟨fun h => h.2, fun h => ⟨s x h, h⟩⟩
end Z
namespace Z
open PySem (Str Operator CmpOp)
/-- check_number -/
def s_check_number : List S :=
  [.ite (.not (.val (.call 1 [.var 0, .var 1, .var 2] [] []))) [.nev] []]
def d_check_number : Df := { modes := [false, false, false], names := 3, body := s_check_number }
section
variable {Pg : Nat → Option Df} {fuel k f : Nat} {C : Cf}
@[simp] theorem q_callK {es : List E} {r : En} {i : Nat} {is : List Nat} : ev C (.call f es (i :: is) []) r = (evA C es r).bind fun ys r1 => match permL ys (i :: is), C.modes f with
    | some xs, some ms => callR ms (C.call f) xs r1
    | _, _ => .bad := by
  simp only [ev]
  congr 1
  funext ys r1
  first
  | (simp only [List.map_nil, List.append_nil, permO, List.isEmpty_cons, Bool.false_eq_true, if_false]; done)
  | (simp only [List.map_nil, List.append_nil, permO, List.isEmpty_cons, Bool.false_eq_true, if_false]
     cases permL ys (i :: is) with
     | none => rfl
     | some xs => cases C.modes f <;> rfl)
@[simp] theorem q_perm0 {A : Type} {l : List A} : permL l [] = some [] := rfl
@[simp] theorem q_perm {A : Type} {l : List A} {i : Nat} {is : List Nat} : permL l (i :: is) = (l[i]?).bind fun a => (permL l is).map (a :: ·) := rfl
/-- the least twos of c places -/
def lt (w : Nat) (ps : List Int) (c : Nat) : Int := ((br w ps).take c).sum
theorem sum_cast (l : List Nat) : (l.map fun n => ((n : Nat) : Int)).sum = ((l.sum : Nat) : Int) := by
  induction l with
  | nil => rfl
  | cons x l ih => simp only [List.map_cons, List.sum_cons, ih]; omega
end
end Z
/-! YP: the law of the least twos. -/
namespace Z
open PySem (Str Operator CmpOp)
abbrev ils (F : List (List Int)) : List D := F.map fun T => il T
end Z
/-! YQ: the law of the least twos. -/
namespace Z
open PySem (Str Operator CmpOp)
section
variable {Pg : Nat → Option Df} {fuel k f : Nat}
theorem PlW.near {w : Nat} {ps : List Int} (h : PlW w ps) (hw : w ≤ 64) : ∀ q ∈ ps, ∀ p ∈ ps, (p - q).natAbs < 2 ^ 64 := fun q hq p hp => by
  have a1 := h.2.2 q hq
  have a2 := h.2.2 p hp
  have := (pow_le64 hw).2
  omega
end
end Z
/-! YR: the law of the least twos, great places; the law. -/
namespace Z
open PySem (Str Operator CmpOp)
end Z
/-! YS: the law of the least twos, joined. -/
namespace Z
open PySem (Str Operator CmpOp)
def fb : Nat → Nat → Nat
  | 0, _ => 0
  | d + 1, n => n / 2 + fb d (n / 2)
theorem fa_fb : ∀ (d n : Nat), n < 2 ^ d → fa n = fb d n
  | 0, n, h => by
    have : n = 0 := by simp at h; omega
    subst this
    rfl
  | d + 1, n, h => by
    rw [fa_half, fb, fa_fb d (n / 2) (by rw [Nat.pow_succ] at h; omega)]
theorem v2_pow : ∀ n : Nat, v2 ((2 : Int) ^ n) = n
  | 0 => v2_odd (by decide)
  | n + 1 => by
    have p : (0 : Int) < 2 ^ n := Int.pow_pos (by decide)
    have e : (2 : Int) ^ (n + 1) = 2 * 2 ^ n := by rw [Int.pow_succ]; omega
    rw [v2_even (by omega) (by omega), show (2 : Int) ^ (n + 1) / 2 = 2 ^ n by omega, v2_pow n]
@[simp high] theorem q_lst5 {C : Cf} {r : En} {a b c d e : E} : ev C (.lst [a, b, c, d, e]) r = (evs C [a, b, c, d, e] r).bind fun ds r1 => .ok (.ow (.lst ds)) r1 := q_lstS (by simp)
end Z
/-! YU: codes: counts of items, sizes; what laws of codes draw. -/
namespace Z
open PySem (Str Operator CmpOp)
/-- items_counted -/
def s_items_counted : List S :=
  [.ret (.bi .len [.lc (.var 3) (.v 3) (.e (.slc (.var 1) (.con .non) (.var 2))) [.val (.cmp .Lt (.var 3) (.var 0))] [3]])]
def d_items_counted : Df := { modes := [false, false, false], names := 4, body := s_items_counted }
/-- check_code -/
def s_check_code : List S :=
  [.ex (.call 13 [.var 0, .var 1] [] []),
    .ex (.call 2 [.var 2, .con (.int 0), .con .non] [] [])]
def d_check_code : Df := { modes := [false, false, false], names := 3, body := s_check_code }
/-- size_power -/
def s_size_power : List S :=
  [.ret (.bi .sum [.lc (.bin .Sub (.var 0) (.var 3)) (.v 3) (.e (.slc (.var 1) (.con .non) (.call 7 [.var 0, .var 1, .var 2] [] []))) [] [3]])]
def d_size_power : Df := { modes := [false, false, false], names := 4, body := s_size_power }
/-- how_many_codewords -/
def s_how_many_codewords : List S :=
  [.ex (.call 19 [.var 0, .var 1, .var 2] [] []),
    .ret (.call 3 [.call 211 [.var 0, .idx (.call 5 [.var 1] [] []) (.con (.int 1)), .var 2] [] []] [] [])]
def d_how_many_codewords : Df := { modes := [false, false, false], names := 3, body := s_how_many_codewords }
/-- _law_twos -/
def s__law_twos_v1 : List S :=
  [.asg (.v 1) (.con (.int 0)),
    .whl (.val (.cmp .Eq (.bin .Mod (.bi .int [.var 0]) (.con (.int 2))) (.con (.int 0)))) [.par [0, 1] [.bin .FloorDiv (.var 0) (.con (.int 2)), .bin .Add (.var 1) (.con (.int 1))]],
    .ret (.var 1)]
def d__law_twos_v1 : Df := { modes := [false], names := 2, body := s__law_twos_v1 }
/-- _law_bits -/
def s__law_bits : List S :=
  [.asg (.v 1) (.con (.int 1)),
    .whl (.val (.cmp .GtE (.idx (.var 0) (.bin .Sub (.bi .len [.var 0]) (.con (.int 1)))) (.call 185 [.var 1] [] []))) [.asg (.v 1) (.bin .Add (.var 1) (.con (.int 1)))],
    .ret (.var 1)]
def d__law_bits : Df := { modes := [false], names := 2, body := s__law_bits }
section
variable {Pg : Nat → Option Df} {fuel k f : Nat} {C : Cf}
theorem bI_shl {n : Nat} (h : n ≤ 100000) : binI .LShift 1 (n : Int) = some (2 ^ n) := by
  have b1 : bits 1 = 1 := by decide
  simp only [binI, b1]
  rw [if_pos (by omega), Int.toNat_natCast, Int.one_mul]
theorem m_pow (h3 : Pg 3 = some d_power_of_two) (n : Nat) (hn : n ≤ 100000) : callD Pg fuel (k + 1) 3 [.int n] = .ok (.sh (.int (2 ^ n))) [] := by
  rw [callD_eq h3 ⟨rfl, Nat.le_refl _⟩]
  have e := bI_shl hn
  simp [d_power_of_two, s_power_of_two, start_eq, e]
theorem m_between_none (G : GB Pg) (n a : Int) (h : a ≤ n) : callD Pg fuel (k + 2) 1 [.int n, .int a, .non] = .ok (.sh (.bl true)) [] := by
  rw [callD_eq G.h1 ⟨rfl, Nat.le_refl _⟩]
  have e := m_is_whole G.h0 fuel k n
  simp [d_is_between, s_is_between, start_eq, G.h0, d_is_whole, e, cmpD, isD, ordI, h]
theorem m_check_from (G : GB Pg) (h : Pg f = some d_check_number) (n a : Int) (hn : a ≤ n) : callD Pg fuel (k + 3) f [.int n, .int a, .non] = .ok (.sh .non) [] := by
  rw [callD_eq h ⟨rfl, Nat.le_refl _⟩]
  have e := m_between_none (fuel := fuel) (k := k) G n a hn
  simp [d_check_number, s_check_number, start_eq, G.h1, d_is_between, e]
theorem m_check_code (G : GB Pg) (h2 : Pg 2 = some d_check_number) (h : Pg f = some d_check_code) (w : Nat) (hw : 1 ≤ w ∧ w ≤ 64) (ps : List Int) (hl : ps.length ≤ 900) (hp : PlW w ps) (c : Int) (hc : 0 ≤ c) : callD Pg fuel (k + 6) f [.int w, il ps, .int c] = .ok (.sh .non) [] := by
  rw [callD_eq h ⟨rfl, Nat.le_refl _⟩]
  have e2 := m_check_places (fuel := fuel) (k := k) G.h0 G.h1 G.h3 G.h8 G.h9 G.h10 G.h11 G.h12 G.h13 w hw.1 hw.2 ps (by omega) hp.1 hp.2.1 hp.2.2
  have e3 := m_check_from (fuel := fuel) (k := k + 2) G h2 c 0 hc
  simp [d_check_code, s_check_code, start_eq, G.h13, d_check_places, e2, h2, d_check_number, e3]
/-- the numbers below a width among the first so many -/
def cnt_w (w : Int) (ns : List Int) (c : Nat) : List Int := (ns.take c).filter fun n => decide (n < w)
theorem cut_some (l : List Int) (c : Int) (hc : 0 ≤ c) : cut (l.map D.int) none (some c) = (l.take c.toNat).map D.int := by
  have := cut_take l c.toNat
  rw [show ((c.toNat : Nat) : Int) = c by omega] at this
  exact this
theorem filt_run (p : Int → Bool) : ∀ l : List Int, List.filterMap (fun d => match d with | D.int n => if p n = true then some (D.int n) else none | _ => none) (l.map D.int) = (l.filter p).map .int
  | [] => rfl
  | x :: l => by
    simp only [List.map_cons, List.filterMap_cons, List.filter_cons]
    cases h : p x
    · simp only [Bool.false_eq_true, if_false]
      exact filt_run p l
    · simp only [if_true]
      exact congrArg _ (filt_run p l)
theorem m_counted (h : Pg f = some d_items_counted) (w : Int) (ns : List Int) (hl : ns.length ≤ 900) (c : Int) (hc : 0 ≤ c) : callD Pg fuel (k + 1) f [.int w, il ns, .int c] = .ok (.sh (.int (cnt_w w ns c.toNat).length)) [] := by
  rw [callD_eq h ⟨rfl, Nat.le_of_ble_eq_true rfl⟩]
  have ec := cut_some ns c hc
  have lc1 : ev (Cz Pg fuel k) (.lc (.var 3) (.v 3) (.e (.slc (.var 1) (.con .non) (.var 2))) [.val (.cmp .Lt (.var 3) (.var 0))] [3]) [.sh (.int w), .sh (il ns), .sh (.int c), .no] = .ok (.ow (il (cnt_w w ns c.toNat))) [.sh (.int w), .sh (il ns), .sh (.int c), .no] := by
    rw [lc_run (r1 := [.sh (.int w), .sh (il ns), .sh (.int c), .no]) (l := (ns.take c.toNat).map .int) (fun d => match d with | D.int n => if decide (n < w) = true then some (D.int n) else none | _ => none)]
    · rw [filt_run]
      simp [thawL, thw, thw1, flat_il, cnt_w]
    · generalize ns.take c.toNat = X at *
      simp [por, isNon, slcD, part?, ec, itemsD]
    · rfl
    · rfl
    · exact line_le (by simp; omega)
    · intro x hx
      obtain ⟨n, hn, rfl⟩ := List.mem_map.mp hx
      refine ⟨[.sh (.int w), .sh (il ns), .sh (.int c), .sh (.int n)], ?_, rfl⟩
      by_cases q : n < w
      · simp [lcF, wip, bindT, q]
      · simp [lcF, wip, bindT, q]
  generalize cnt_w w ns c.toNat = X at *
  simp [d_items_counted, s_items_counted, start_eq, lc1]
/-- of which power of 2 a code's size is -/
def szp (w : Int) (ns : List Int) (c : Nat) : Int := ((ns.take (cnt_w w ns c).length).map fun n => w - n).sum
theorem m_szp (h7 : Pg 7 = some d_items_counted) (h : Pg f = some d_size_power) (w : Int) (ns : List Int) (hl : ns.length ≤ 900) (c : Int) (hc : 0 ≤ c) : callD Pg fuel (k + 2) f [.int w, il ns, .int c] = .ok (.sh (.int (szp w ns c.toNat))) [] := by
  rw [callD_eq h ⟨rfl, Nat.le_of_ble_eq_true rfl⟩]
  have e1 := m_counted (fuel := fuel) (k := k) h7 w ns hl c hc
  have ec := cut_take ns (cnt_w w ns c.toNat).length
  unfold szp
  generalize (cnt_w w ns c.toNat).length = n at *
  have lc1 : ev (Cz Pg fuel (k + 1)) (.lc (.bin .Sub (.var 0) (.var 3)) (.v 3) (.e (.slc (.var 1) (.con .non) (.call 7 [.var 0, .var 1, .var 2] [] []))) [] [3]) [.sh (.int w), .sh (il ns), .sh (.int c), .no] = .ok (.ow (il ((ns.take n).map fun n => w - n))) [.sh (.int w), .sh (il ns), .sh (.int c), .no] := by
    rw [lc_run (r1 := [.sh (.int w), .sh (il ns), .sh (.int c), .no]) (l := (ns.take n).map .int) (fun d => match d with | D.int n => some (D.int (w - n)) | _ => none)]
    · have q : List.filterMap (fun d => match d with | D.int n => some (D.int (w - n)) | _ => none) ((ns.take n).map D.int) = ((ns.take n).map fun n => w - n).map .int := by
        generalize ns.take n = X
        induction X with
        | nil => rfl
        | cons x l ih => simp only [List.map_cons, List.filterMap_cons, ih]
      rw [q]
      simp only [thawL, flat_il, if_true]
      simp [thw, thw1]
    · generalize ns.take n = X at *
      simp [por, isNon, h7, d_items_counted, e1, slcD, part?, ec, itemsD]
    · rfl
    · rfl
    · exact line_le (by simp; omega)
    · intro x hx
      obtain ⟨n, hn, rfl⟩ := List.mem_map.mp hx
      refine ⟨[.sh (.int w), .sh (il ns), .sh (.int c), .sh (.int n)], ?_, rfl⟩
      simp [lcF, wip, bindT]
  generalize (ns.take n).map (fun n => w - n) = X at *
  simp [d_size_power, s_size_power, start_eq, lc1]
end
end Z
/-! YV: the least width for a size; places, orders and widths by a law of codes. -/
namespace Z
open PySem (Str Operator CmpOp)
section
variable {Pg : Nat → Option Df} {fuel k f : Nat} {C : Cf}
@[simp] theorem q_negc {a : Int} {r : En} : ev C (.neg (.con (.int a))) r = .ok (.sh (.int (-a))) r := by simp only [ev, R.bind_ok, Val.d_sh]
theorem m_twos1 (h : Pg f = some d__law_twos_v1) (m : Nat) (n : Int) (hn : n ≠ 0) (hb : n.natAbs < 2 ^ m) (hf : m + 1 ≤ fuel) : callD Pg fuel (k + 1) f [.int n] = .ok (.sh (.int (v2 n))) [] := by
  rw [callD_eq h ⟨rfl, Nat.le_of_ble_eq_true rfl⟩]
  obtain ⟨fu, rfl⟩ : ∃ f, fuel = f + 1 := ⟨fuel - 1, by omega⟩
  have hb2 : n.natAbs < 2 ^ fu := Nat.lt_of_lt_of_le hb (Nat.pow_le_pow_right (by decide) (by omega))
  have lp : ∀ (m : Nat) (n : Int) (f : Int), n ≠ 0 → n.natAbs < 2 ^ m →
    ∃ n' : Int, whlL (evT (Cz Pg (fu + 1) k) (.val (.cmp .Eq (.bin .Mod (.bi .int [.var 0]) (.con (.int 2))) (.con (.int 0))))) (xs (Cz Pg (fu + 1) k) [.par [0, 1] [.bin .FloorDiv (.var 0) (.con (.int 2)), .bin .Add (.var 1) (.con (.int 1))]]) (m + 1) [.sh (.int n), .sh (.int f)] = .nx [.sh (.int n'), .sh (.int (f + v2 n))] := by
    intro m
    induction m with
    | zero =>
      intro n f h b
      exfalso
      have : n.natAbs < 1 := b
      omega
    | succ m ih =>
      intro n f h b
      rw [whlL]
      by_cases e : n % 2 = 0
      · have hn : n / 2 ≠ 0 := by omega
        have hb : (n / 2).natAbs < 2 ^ m := by
          have : 2 ^ (m + 1) = 2 * 2 ^ m := by rw [Nat.pow_succ, Nat.mul_comm]
          omega
        obtain ⟨n', q⟩ := ih (n / 2) (f + 1) hn hb
        refine ⟨n', ?_⟩
        have eF : binI .FloorDiv n 2 = some (n / 2) := bI_fdiv (by decide) (by omega)
        have hv : f + (v2 n : Int) = f + 1 + (v2 (n / 2) : Int) := by rw [v2_even h e]; omega
        rw [hv, ← q]
        simp [bI_mod, e, eF, puts]
      · refine ⟨n, ?_⟩
        rw [v2_odd e]
        simp [bI_mod, e]
  obtain ⟨n', q⟩ := lp fu n 0 hn hb2
  have q2 : x1 (Cz Pg (fu + 1) k) (.whl (.val (.cmp .Eq (.bin .Mod (.bi .int [.var 0]) (.con (.int 2))) (.con (.int 0)))) [.par [0, 1] [.bin .FloorDiv (.var 0) (.con (.int 2)), .bin .Add (.var 1) (.con (.int 1))]]) [.sh (.int n), .sh (.int 0)] = .nx [.sh (.int n'), .sh (.int (v2 n))] := by
    rw [q_whl]
    rw [Int.zero_add] at q
    exact q
  simp [-q_whl, d__law_twos_v1, s__law_twos_v1, start_eq, q2]
end
end Z
/-! YW: the good order of a law of codes; the bits of the last place. -/
namespace Z
open PySem (Str Operator CmpOp)
section
variable {Pg : Nat → Option Df} {fuel k f : Nat} {C : Cf}
/-! ### sizes -/
theorem br_nonneg : ∀ (d : Nat) (l : List Int), ∀ x ∈ br d l, 0 ≤ x
  | 0, l, x, h => by
    have := List.eq_of_mem_replicate h
    omega
  | d + 1, l, x, h => by
    rw [br_eq] at h
    have h := (sortI_perm _).mem_iff.mp h
    have key : ∀ b, x ∈ ea 0 1 (br d (half b l)) → 0 ≤ x := fun b hb => by
      obtain ⟨i, hi, e⟩ := List.getElem_of_mem hb
      rw [ea_get] at e
      have := br_nonneg d (half b l) _ (List.getElem_mem (l := br d (half b l)) (n := i) (by rw [ea_len] at hi; exact hi))
      omega
    rcases List.mem_append.mp h with h | h
    · exact key 0 h
    · exact key 1 h
end
end Z
/-! YX: the law of every width. -/
namespace Z
open PySem (Str Operator CmpOp)
section
variable {Pg : Nat → Option Df} {fuel k f : Nat} {C : Cf}
theorem PlW.mono {w w' : Nat} {ps : List Int} (h : PlW w ps) (l : w ≤ w') : PlW w' ps := ⟨h.1, h.2.1, fun x hx => by
  have a := h.2.2 x hx
  have b := Nat.pow_le_pow_right (n := 2) (by omega) l
  have e1 : ((2 ^ w : Nat) : Int) = 2 ^ w := by simp
  have e2 : ((2 ^ w' : Nat) : Int) = 2 ^ w' := by simp
  omega⟩
@[simp high] theorem q_lst6 {C : Cf} {r : En} {a b c d e f : E} : ev C (.lst [a, b, c, d, e, f]) r = (evs C [a, b, c, d, e, f] r).bind fun ds r1 => .ok (.ow (.lst ds)) r1 := q_lstS (by simp)
end
end Z
/-! YY: the law of every width: its walk. -/
namespace Z
open PySem (Str Operator CmpOp)
end Z
/-! YZ: the law of every width, joined. -/
namespace Z
open PySem (Str Operator CmpOp)
end Z
/-! VA: steps on one side: the law in plain numbers. -/
namespace Z
/-- how much so many steps tell -/
def hs (low n : Nat) : Nat := low * n + fa n
theorem v2_mul_pow (t : Nat) (n : Int) (hn : n ≠ 0) : v2 (2 ^ t * n) = t + v2 n := by
  induction t with
  | zero => simp
  | succ t ih =>
    have p : (0 : Int) < 2 ^ t := Int.pow_pos (by decide)
    have e : (2 : Int) ^ (t + 1) * n = 2 * (2 ^ t * n) := by rw [Int.pow_succ, Int.mul_comm (2 ^ t) 2, Int.mul_assoc]
    have z : (2 : Int) ^ t * n ≠ 0 := Int.mul_ne_zero (by omega) hn
    rw [v2_even (by rw [e]; omega) (by rw [e]; omega), e, show 2 * ((2 : Int) ^ t * n) / 2 = 2 ^ t * n by omega, ih]
    omega
end Z
/-! VB: what follows from words at other places. -/
namespace Z
open PySem (Str Operator CmpOp)
/-- bits_at -/
def s_bits_at : List S :=
  [.ite (.val (.cmp .In (.var 4) (.var 1))) [.ret (.var 0)] [],
    .par [5, 6] [.var 0, .con (.int 0)],
    .for_ (.t [.v 7, .v 8]) (.zip true [.slc (.var 1) (.con .non) (.var 3), .slc (.var 2) (.con .non) (.var 3)]) [.asg (.v 5) (.bi .min [.var 5, .bin .Add (.bi .max [.con (.int 0), .bin .Sub (.var 0) (.var 8)]) (.var 6)]),
    .aug 6 .Add (.call 4 [.bin .Sub (.var 4) (.var 7)] [] [])],
    .ret (.ite (.val (.cmp .Lt (.bi .len [.var 1]) (.var 3))) (.bi .min [.var 5, .var 6]) (.var 5))]
def d_bits_at : Df := { modes := [false, false, false, false, false], names := 9, body := s_bits_at }
/-- check_part -/
def s_check_part_v1 : List S :=
  [.ite (.or (.not (.val (.isi (.var 1) .list))) (.val (.cmp .NotEq (.lc (.var 2) (.v 2) (.e (.var 1)) [.or (.not (.val (.call 0 [.var 2] [] []))) (.val (.cmp .NotIn (.var 2) (.var 0)))] [2]) (.lst [])))) [.nev] [],
    .ite (.not (.val (.call 11 [.var 1] [] []))) [.nev] []]
def d_check_part_v1 : Df := { modes := [false, false], names := 3, body := s_check_part_v1 }
/-- _law_random -/
def s__law_random : List S :=
  [.ite (.val (.cmp .Gt (.idx (.var 0) (.con (.int 0))) (.con (.int 0)))) [.asg (.v 2) (.bin .Mod (.bi .int [.idx (.var 0) (.con (.int 0))]) (.var 1)),
    .seti 0 (.con (.int 0)) (.bin .FloorDiv (.idx (.var 0) (.con (.int 0))) (.var 1)),
    .ret (.var 2)] [],
    .asg (.v 2) (.con (.int 0)),
    .for_ (.v 3) (.rng1 (.bin .Add (.con (.int 1)) (.bin .FloorDiv (.bits (.var 1)) (.con (.int 30))))) [.seti 0 (.con (.int 2)) (.bin .Add (.idx (.var 0) (.con (.int 2))) (.con (.int 1))),
    .asg (.v 2) (.bin .Add (.bin .Mult (.var 2) (.con (.int 2147483587))) (.call 32 [.idx (.var 0) (.con (.int 1)), .idx (.var 0) (.con (.int 2))] [] []))],
    .ret (.bin .Mod (.bi .int [.var 2]) (.var 1))]
def d__law_random : Df := { modes := [true, false], names := 4, body := s__law_random }
section
variable {Pg : Nat → Option Df} {fuel k f : Nat} {C : Cf}
theorem m_check_part (G : GB Pg) (h : Pg f = some d_check_part_v1) (S A : List Int) (hl : A.length ≤ 900) (sub : ∀ x ∈ A, x ∈ S) (hs : A.Pairwise (· < ·)) : callD Pg fuel (k + 2) f [il S, il A] = .ok (.sh .non) [] := by
  rw [callD_eq h ⟨rfl, Nat.le_of_ble_eq_true rfl⟩]
  have lc1 : ev (Cz Pg fuel (k + 1)) (.lc (.var 2) (.v 2) (.e (.var 1)) [.or (.not (.val (.call 0 [.var 2] [] []))) (.val (.cmp .NotIn (.var 2) (.var 0)))] [2]) [.sh (il S), .sh (il A), .no] = .ok (.ow (.lst [])) [.sh (il S), .sh (il A), .no] := by
    rw [lc_none (r1 := [.sh (il S), .sh (il A), .no]) (l := A.map .int)]
    · simp [thawL, thw, thw1]
    · simp [itemsD]
    · rfl
    · rfl
    · simp; omega
    · intro x hx
      obtain ⟨a, ha, rfl⟩ := List.mem_map.mp hx
      have e1 := m_is_whole G.h0 fuel k a
      have m := sub a ha
      refine ⟨[.sh (il S), .sh (il A), .sh (.int a)], ?_, rfl⟩
      simp [lcF, wip, bindT, G.h0, d_is_whole, e1, in_il, m]
  have e2 := m_rises (fuel := fuel) (k := k) G.h11 A (by omega) hs
  have isl : isiD (il A) .list = some true := rfl
  have nn : cmpD .NotEq (.lst []) (.lst []) = some false := cmp_il_ne [] []
  simp [d_check_part_v1, s_check_part_v1, start_eq, isl, lc1, nn, G.h11, d_rises, e2]
end
end Z
/-! VC: how many steps are needed. -/
namespace Z
open PySem (Str Operator CmpOp)
section
variable {Pg : Nat → Option Df} {fuel k f : Nat} {C : Cf}
@[simp] theorem cmp_ne_bb {a b : Bool} : cmpD .NotEq (.bl a) (.bl b) = some (!(a == b)) := by
  simp [cmpD, okq, lay, dep, eqv]
end
end Z
/-! VD: the law of steps on one side. -/
namespace Z
open PySem (Str Operator CmpOp)
end Z
/-! VE: the law of steps on one side, joined. -/
namespace Z
open PySem (Str Operator CmpOp)
end Z
/-! VF: the law of steps on one side. -/
namespace Z
open PySem (Str Operator CmpOp)
end Z
/-! WA: words of polynomials: plain numbers; a comprehension that changes the state. -/
namespace Z
/-- what a polynomial is at a number -/
def pv : List Int → Int → Int
  | [], _ => 0
  | c :: cs, x => c + x * pv cs x
theorem pv_app (x : Int) : ∀ (a b : List Int), pv (a ++ b) x = pv a x + x ^ a.length * pv b x
  | [], b => by simp [pv]
  | c :: a, b => by
    show c + x * pv (a ++ b) x = c + x * pv a x + x ^ (a.length + 1) * pv b x
    rw [pv_app x a b, Int.pow_succ, Int.mul_add, ← Int.mul_assoc, Int.mul_comm x (x ^ a.length)]
    omega
theorem pv_one (x : Int) (a : List Int) (c : Int) : pv (a ++ [c]) x = pv a x + c * x ^ a.length := by
  rw [pv_app]
  simp [pv]
  rw [Int.mul_comm]
theorem pv_zeros (x : Int) : ∀ n : Nat, pv (List.replicate n 0) x = 0
  | 0 => rfl
  | n + 1 => by simp [List.replicate_succ, pv, pv_zeros x n]
theorem pv_pad (x : Int) (a : List Int) (n : Nat) : pv (a ++ List.replicate n 0) x = pv a x := by
  rw [pv_app, pv_zeros]
  simp
theorem pv_add (x : Int) : ∀ (a b : List Int), a.length = b.length → pv (List.zipWith (· + ·) a b) x = pv a x + pv b x
  | [], [], _ => rfl
  | c :: a, d :: b, h => by
    show c + d + x * pv (List.zipWith (· + ·) a b) x = c + x * pv a x + (d + x * pv b x)
    rw [pv_add x a b (by simpa using h), Int.mul_add]
    omega
theorem v2_dvd : ∀ (t : Nat) (n : Int), n ≠ 0 → t ≤ v2 n → (2 : Int) ^ t ∣ n
  | 0, n, _, _ => ⟨n, by simp⟩
  | t + 1, n, h, l => by
    by_cases e : n % 2 = 0
    · have hn : n / 2 ≠ 0 := by omega
      rw [v2_even h e] at l
      obtain ⟨q, hq⟩ := v2_dvd t (n / 2) hn (by omega)
      refine ⟨q, ?_⟩
      rw [Int.pow_succ, Int.mul_assoc, Int.mul_comm 2 q, ← Int.mul_assoc, ← hq]
      omega
    · rw [v2_odd (by omega)] at l
      omega
end Z
/-! WB: words of polynomials: the defs. -/
namespace Z
open PySem (Str Operator CmpOp)
/-- are_words -/
def s_are_words : List S :=
  [.ite (.or (.not (.val (.isi (.var 2) .list))) (.val (.cmp .NotEq (.bi .len [.var 2]) (.bi .len [.var 1])))) [.ret (.con (.bl false))] [],
    .ret (.cmp .Eq (.lc (.var 3) (.v 3) (.e (.var 2)) [.not (.val (.call 10 [.var 0, .var 3] [] []))] [3]) (.lst []))]
def d_are_words : Df := { modes := [false, false, false], names := 4, body := s_are_words }
/-- check_words -/
def s_check_words : List S :=
  [.ite (.not (.val (.call 51 [.var 0, .var 1, .var 2] [] []))) [.nev] []]
def d_check_words : Df := { modes := [false, false, false], names := 3, body := s_check_words }
section
variable {Pg : Nat → Option Df} {fuel k f : Nat} {C : Cf}
/-- the words of a polynomial -/
def wds (w : Nat) (cs ps : List Int) : List Int := ps.map fun p => pv cs p % 2 ^ w
end
end Z
/-! WC: words of polynomials: what the law draws. -/
namespace Z
open PySem (Str Operator CmpOp)
end Z
/-! WI: a polynomial along an order (plain numbers). -/
namespace Z
/-- the product of the differences of a number to places -/
def pd : List Int → Int → Int
  | [], _ => 1
  | o :: O, x => (x - o) * pd O x
/-- a sum of items, each times the product ahead of it -/
def nw : List Int → List Int → Int → Int
  | i :: it, o :: O, x => i + (x - o) * nw it O x
  | _, _, _ => 0
theorem nw_nil (O : List Int) (x : Int) : nw [] O x = 0 := by cases O <;> rfl
theorem nw_cons (i o : Int) (it O : List Int) (x : Int) : nw (i :: it) (o :: O) x = i + (x - o) * nw it O x := rfl
theorem pd_cons (o : Int) (O : List Int) (x : Int) : pd (o :: O) x = (x - o) * pd O x := rfl
theorem pd_zero {x : Int} : ∀ {O : List Int}, x ∈ O → pd O x = 0
  | o :: O, h => by
    rcases List.mem_cons.mp h with rfl | h
    · simp [pd]
    · simp [pd, pd_zero h]
theorem pd_ne {x : Int} : ∀ {O : List Int}, x ∉ O → pd O x ≠ 0
  | [], _ => by simp [pd]
  | o :: O, h => by
    rw [List.mem_cons, not_or] at h
    rw [pd_cons]
    exact Int.mul_ne_zero (by omega) (pd_ne h.2)
theorem v2_split : ∀ (n : Nat) (a : Int), a ≠ 0 → v2 a = n → ∃ m : Int, a = 2 ^ n * m ∧ m % 2 = 1
  | 0, a, h, e => by
    refine ⟨a, by simp, ?_⟩
    by_cases k : a % 2 = 0
    · rw [v2_even h k] at e
      omega
    · omega
  | n + 1, a, h, e => by
    by_cases k : a % 2 = 0
    · rw [v2_even h k] at e
      obtain ⟨m, hm, om⟩ := v2_split n (a / 2) (by omega) (by omega)
      refine ⟨m, ?_, om⟩
      rw [Int.pow_succ, Int.mul_assoc, Int.mul_comm 2 m, ← Int.mul_assoc, ← hm]
      omega
    · rw [v2_odd k] at e
      omega
theorem v2_mul {a b : Int} (ha : a ≠ 0) (hb : b ≠ 0) : v2 (a * b) = v2 a + v2 b := by
  obtain ⟨m, e, om⟩ := v2_split _ a ha rfl
  obtain ⟨n, f, on⟩ := v2_split _ b hb rfl
  have g : a * b = 2 ^ (v2 a + v2 b) * (m * n) := by
    rw [Int.pow_add]
    conv => lhs; rw [e, f]
    simp only [Int.mul_assoc, Int.mul_left_comm]
  have o : (m * n) % 2 = 1 := by rw [Int.mul_emod, om, on]; rfl
  have z : v2 (m * n) = 0 := v2_odd (by rw [o]; decide)
  rw [g, v2_mul_pow _ _ (by intro z; rw [z] at o; exact absurd o (by decide)), z]
  rfl
theorem v2_pd {x : Int} : ∀ {O : List Int}, x ∉ O → v2 (pd O x) = btw O x
  | [], _ => by
    show v2 1 = 0
    exact v2_odd (by decide)
  | o :: O, h => by
    rw [List.mem_cons, not_or] at h
    rw [pd_cons, v2_mul (by omega) (pd_ne h.2), v2_pd h.2]
    rfl
/-- the items' sum up to a place of the order -/
theorem nw_snoc : ∀ (it O : List Int) (i : Int) (x : Int), it.length < O.length → nw (it ++ [i]) O x = nw it O x + i * pd (O.take it.length) x
  | [], o :: O, i, x, _ => by simp [nw, nw_nil, pd]
  | a :: it, o :: O, i, x, h => by
    have ih := nw_snoc it O i x (by simpa using h)
    show a + (x - o) * nw (it ++ [i]) O x = a + (x - o) * nw it O x + i * ((x - o) * pd (O.take it.length) x)
    rw [ih, Int.mul_add, Int.mul_left_comm i]
    omega
/-- at the order's own place no later item counts -/
theorem nw_take : ∀ (it O : List Int) (j : Nat) (x : Int), O[j]? = some x → nw it O x = nw (it.take (j + 1)) O x
  | [], O, j, x, _ => by simp
  | a :: it, [], j, x, h => by simp at h
  | a :: it, o :: O, 0, x, h => by
    simp at h
    subst h
    simp [nw]
  | a :: it, o :: O, j + 1, x, h => by
    show a + (x - o) * nw it O x = a + (x - o) * nw (it.take (j + 1)) O x
    rw [nw_take it O j x (by simpa using h)]
/-- dividing by a difference -/
theorem syn (o : Int) : ∀ (cs : List Int) (c : Int), ∃ (a : Int) (ds : List Int), ds.length = cs.length ∧ ∀ x, pv (c :: cs) x = a + (x - o) * pv ds x
  | [], c => ⟨c, [], rfl, fun x => by simp [pv]⟩
  | d :: cs, c => by
    obtain ⟨a, ds, n, e⟩ := syn o cs d
    refine ⟨c + o * a, a :: ds, by simp [n], fun x => ?_⟩
    show c + x * pv (d :: cs) x = c + o * a + (x - o) * (a + x * pv ds x)
    rw [e x]
    generalize pv ds x = P
    rw [Int.mul_add x, Int.mul_add (x - o), Int.mul_left_comm x (x - o) P, Int.sub_mul x o a]
    omega
/-- a polynomial as a sum along an order -/
theorem newton : ∀ (O cs : List Int), ∃ q r : List Int, q.length = min cs.length O.length ∧ r.length = cs.length - O.length ∧ ∀ x, pv cs x = nw q O x + pd O x * pv r x
  | [], cs => ⟨[], cs, by simp, by simp, fun x => by simp [nw, pd]⟩
  | o :: O, [] => ⟨[], [], by simp, by simp, fun x => by simp [nw, pv]⟩
  | o :: O, c :: cs => by
    obtain ⟨a, ds, n, e⟩ := syn o cs c
    obtain ⟨q, r, h1, h2, h3⟩ := newton O ds
    refine ⟨a :: q, r, by simp [h1, n], by simp [h2, n], fun x => ?_⟩
    rw [e x, h3 x, nw_cons, pd_cons, Int.mul_add, Int.mul_assoc]
    omega
theorem nw_red (m x : Int) : ∀ (q q' O : List Int) (P : Int), q.length = q'.length → q.length ≤ O.length →
    (∀ (i : Nat) (a b : Int), q[i]? = some a → q'[i]? = some b → m ∣ (a - b) * (P * pd (O.take i) x)) → m ∣ P * nw q O x - P * nw q' O x
  | [], [], O, P, _, _, _ => by simp [nw_nil]
  | a :: q, b :: q', o :: O, P, h, l, k => by
    have k0 := k 0 a b rfl rfl
    have ih := nw_red m x q q' O (P * (x - o)) (by simpa using h) (by simpa using l) (fun i c d e f => by
      have := k (i + 1) c d (by simpa using e) (by simpa using f)
      rw [List.take_succ_cons, pd_cons, ← Int.mul_assoc P] at this
      exact this)
    have e : P * nw (a :: q) (o :: O) x - P * nw (b :: q') (o :: O) x = (a - b) * (P * pd ([] : List Int) x) + (P * (x - o) * nw q O x - P * (x - o) * nw q' O x) := by
      rw [nw_cons, nw_cons]
      show _ = (a - b) * (P * 1) + _
      generalize nw q O x = A
      generalize nw q' O x = B
      rw [Int.mul_add P a, Int.mul_add P b, Int.mul_one, Int.sub_mul a b P, Int.mul_assoc P, Int.mul_assoc P, Int.mul_comm a P, Int.mul_comm b P]
      omega
    rw [e]
    exact Int.dvd_add (by simpa using k0) ih
/-- beside the first places of the order, a place has no fewer twos than the order's number -/
theorem num_le {d : Nat} {S : List Int} (h : Wi d S) (i : Nat) {p : Int} (hp : p ∈ S) (np : p ∉ (ord S).take i) (hi : i < S.length) : (br d S)[i]?.getD 0 ≤ btw ((ord S).take i) p := by
  have op := ord_perm S
  have on : (ord S).Nodup := op.nodup_iff.mpr h.1
  have nd2 : (p :: (ord S).take i).Nodup := List.nodup_cons.mpr ⟨np, on.sublist (List.take_sublist _ _)⟩
  have pm := filter_perm (m := p :: (ord S).take i) h.1 (fun x hx => by
    rcases List.mem_cons.mp hx with rfl | hx
    · exact hp
    · exact op.mem_iff.mp (List.mem_of_mem_take hx)) nd2
  have ll : (p :: (ord S).take i).length = i + 1 := by
    simp [op.length_eq]
    omega
  have le := least_le (t := S.filter fun x => decide (x ∈ p :: (ord S).take i)) List.filter_sublist h
  rw [at2_perm pm, pm.length_eq, ll] at le
  have s1 := nums_sum S i
  rw [nums_br h] at s1
  have ln : (br d S).length = S.length := br_len d S
  rw [List.take_succ_eq_append_getElem (by omega), List.sum_append] at le
  have ea : (at2 (p :: (ord S).take i) : Int) = btw ((ord S).take i) p + at2 ((ord S).take i) := by
    show ((btw _ p + at2 _ : Nat) : Int) = _
    omega
  rw [ea, ← s1] at le
  rw [List.getElem?_eq_getElem (by omega)]
  simp only [Option.getD_some]
  simp at le
  omega
theorem ord_len (S : List Int) : (ord S).length = S.length := (ord_perm S).length_eq
theorem at2_cons (p : Int) (l : List Int) : at2 (p :: l) = btw l p + at2 l := rfl
/-- at the order's own next place it is just that -/
theorem num_eq {d : Nat} {S : List Int} (h : Wi d S) (i : Nat) {p : Int} (hi : (ord S)[i]? = some p) : (br d S)[i]? = some (btw ((ord S).take i) p : Int) := by
  obtain ⟨hl, e⟩ := List.getElem?_eq_some_iff.mp hi
  have s1 := nums_sum S i
  have s2 := nums_sum S (i + 1)
  rw [nums_br h] at s1 s2
  have ln : (br d S).length = S.length := br_len d S
  have lo := ord_len S
  rw [List.take_succ_eq_append_getElem (by omega), List.sum_append, List.take_succ_eq_append_getElem (l := ord S) (by omega), at2_snoc, e, s1] at s2
  rw [List.getElem?_eq_getElem (by omega)]
  simp only [List.sum_cons, List.sum_nil] at s2
  have q : (br d S)[i]'(by omega) = (btw ((ord S).take i) p : Int) := by omega
  rw [q]
/-- the order's product is divided by the number's power of 2 at all places -/
theorem pd_dvd {d : Nat} {S : List Int} (h : Wi d S) (i : Nat) {p : Int} (hp : p ∈ S) (hi : i < S.length) : (2 : Int) ^ ((br d S)[i]?.getD 0).toNat ∣ pd ((ord S).take i) p := by
  by_cases np : p ∈ (ord S).take i
  · rw [pd_zero np]
    exact Int.dvd_zero _
  · apply v2_dvd _ _ (pd_ne np)
    rw [v2_pd np]
    have := num_le h i hp np hi
    omega
theorem pd_all {S : List Int} {p : Int} (hp : p ∈ S) : pd (ord S) p = 0 := pd_zero ((ord_perm S).mem_iff.mpr hp)
end Z
/-! WJ: items of a polynomial's words; reading an item; the lists of coefficients (plain numbers). -/
namespace Z
theorem filt_iff (w : Int) : ∀ (l : List Int), l.Pairwise (· ≤ ·) → ∀ (i : Nat) (n : Int), l[i]? = some n → (i < (l.filter fun n => decide (n < w)).length ↔ n < w)
  | x :: l, h, i, n, e => by
    by_cases k : x < w
    · rw [List.filter_cons_of_pos (by simpa using k)]
      match i with
      | 0 =>
        simp at e
        subst e
        simp [k]
      | i + 1 =>
        have := filt_iff w l (List.pairwise_cons.mp h).2 i n (by simpa using e)
        simpa using this
    · have z : (x :: l).filter (fun n => decide (n < w)) = [] := by
        rw [List.filter_eq_nil_iff]
        intro y hy
        have : x ≤ y := by
          rcases List.mem_cons.mp hy with rfl | hy
          · exact Int.le_refl _
          · exact (List.pairwise_cons.mp h).1 y hy
        simp
        omega
      have hn : x ≤ n := by
        rcases List.mem_cons.mp (List.mem_of_getElem? e) with rfl | hy
        · exact Int.le_refl _
        · exact (List.pairwise_cons.mp h).1 n hy
      rw [z]
      simp
      omega
/-- items within their bounds -/
def Its (w : Nat) (N it : List Int) : Prop := ∀ (i : Nat) (a : Int), it[i]? = some a → ∃ n : Nat, N[i]? = some (n : Int) ∧ n < w ∧ 0 ≤ a ∧ a < 2 ^ (w - n)
theorem Its.take {w : Nat} {N it : List Int} (h : Its w N it) (j : Nat) : Its w N (it.take j) := fun i a e => by
  rw [List.getElem?_take] at e
  split at e
  · exact h i a e
  · simp at e
theorem nw_cut : ∀ (q O : List Int) (m : Nat) (x : Int), q.length ≤ m → nw q (O.take m) x = nw q O x
  | [], O, m, x, _ => by simp [nw_nil]
  | a :: q, [], m, x, _ => by simp
  | a :: q, o :: O, m + 1, x, h => by
    rw [List.take_succ_cons, nw_cons, nw_cons, nw_cut q O m x (by simpa using h)]
theorem its_of {w : Nat} {S : List Int} (h : Wi w S) (cs : List Int) (M : Nat) (hM : M = (((br w S).take cs.length).filter fun n => decide (n < (w : Int))).length) :
    ∃ it : List Int, it.length = M ∧ Its w (br w S) it ∧ ∀ p ∈ S, nw it (ord S) p % 2 ^ w = pv cs p % 2 ^ w := by
  have ln : (br w S).length = S.length := br_len w S
  have lo := ord_len S
  have fl := List.length_filter_le (fun n : Int => decide (n < (w : Int))) ((br w S).take cs.length)
  rw [← hM, List.length_take] at fl
  have srt : ((br w S).take cs.length).Pairwise (· ≤ ·) := (br_sorted w S).sublist (List.take_sublist _ _)
  have fi := filt_iff w _ srt
  rw [← hM] at fi
  obtain ⟨q, r, hq, hr, hv⟩ := newton ((ord S).take M) cs
  rw [List.length_take] at hq hr
  have lq : q.length = M := by omega
  refine ⟨List.zipWith (fun a n => a % 2 ^ (w - n.toNat)) q (br w S), by simp; omega, ?_, ?_⟩
  · intro i b e
    rw [List.getElem?_zipWith] at e
    cases ha : q[i]? with
    | none => simp [ha] at e
    | some a =>
      cases hn : (br w S)[i]? with
      | none => simp [ha, hn] at e
      | some n =>
        simp only [ha, hn, Option.some.injEq] at e
        have il : i < M := by rw [← lq]; exact (List.getElem?_eq_some_iff.mp ha).1
        have n0 : 0 ≤ n := br_nonneg w S n (List.mem_of_getElem? hn)
        have nw' := (fi i n (by rw [List.getElem?_take, if_pos (by omega)]; exact hn)).mp il
        refine ⟨n.toNat, by rw [Int.toNat_of_nonneg n0], by omega, ?_, ?_⟩
        · rw [← e]
          exact Int.emod_nonneg _ (Int.ne_of_gt (Int.pow_pos (by decide)))
        · rw [← e]
          exact Int.emod_lt_of_pos _ (Int.pow_pos (by decide))
  · intro p hp
    have hv := hv p
    rw [nw_cut q _ M p (by omega)] at hv
    have d1 : (2 : Int) ^ w ∣ pd ((ord S).take M) p * pv r p := by
      by_cases c1 : M < S.length
      · by_cases c2 : M < cs.length
        · have hn := List.getElem?_eq_getElem (l := br w S) (i := M) (by omega)
          have n0 : 0 ≤ (br w S)[M]'(by omega) := br_nonneg w S _ (List.getElem_mem _)
          have ge := fi M _ (by rw [List.getElem?_take, if_pos (by omega)]; exact hn)
          have := pd_dvd h M hp c1
          rw [hn, Option.getD_some] at this
          exact Int.dvd_trans (Int.dvd_trans ⟨2 ^ (((br w S)[M]'(by omega)).toNat - w), by rw [← Int.pow_add]; congr 1; omega⟩ this) (Int.dvd_mul_right _ _)
        · have : r = [] := List.length_eq_zero_iff.mp (by omega)
          subst this
          simp [pv]
      · rw [List.take_of_length_le (by omega), pd_all hp]
        simp
    have d2 := nw_red (2 ^ w) p q (List.zipWith (fun a n => a % 2 ^ (w - n.toNat)) q (br w S)) (ord S) 1 (by simp; omega) (by omega) (fun i a b ea eb => by
      rw [List.getElem?_zipWith] at eb
      have il : i < M := by rw [← lq]; exact (List.getElem?_eq_some_iff.mp ea).1
      have hn := List.getElem?_eq_getElem (l := br w S) (i := i) (by omega)
      simp only [ea, hn, Option.some.injEq] at eb
      have n0 : 0 ≤ (br w S)[i]'(by omega) := br_nonneg w S _ (List.getElem_mem _)
      have lt := (fi i _ (by rw [List.getElem?_take, if_pos (by omega)]; exact hn)).mp il
      have dv := pd_dvd h i hp (by omega)
      rw [hn, Option.getD_some] at dv
      rw [Int.one_mul]
      generalize (br w S)[i]'(by omega) = n at *
      have e : (2 : Int) ^ w = 2 ^ (w - n.toNat) * 2 ^ n.toNat := by rw [← Int.pow_add]; congr 1; omega
      rw [e]
      apply Int.mul_dvd_mul _ dv
      rw [← eb]
      exact Int.dvd_self_sub_emod)
    rw [Int.one_mul, Int.one_mul] at d2
    apply Int.emod_eq_emod_iff_emod_sub_eq_zero.mpr
    apply Int.emod_eq_zero_of_dvd
    have : nw (List.zipWith (fun a n => a % 2 ^ (w - n.toNat)) q (br w S)) (ord S) p - pv cs p = -(nw q (ord S) p - nw (List.zipWith (fun a n => a % 2 ^ (w - n.toNat)) q (br w S)) (ord S) p) - pd ((ord S).take M) p * pv r p := by omega
    rw [this]
    exact Int.dvd_sub (Int.dvd_neg.mpr d2) d1
/-- a lack at a place tells its item -/
theorem lack_item {w n : Nat} (hn : n ≤ w) {a odd inv : Int} (h0 : 0 ≤ a) (h1 : a < 2 ^ (w - n)) (hi : (2 : Int) ^ w ∣ 1 - odd * inv) :
    (a * (2 ^ n * odd)) % 2 ^ w % 2 ^ n = 0 ∧ ((a * (2 ^ n * odd)) % 2 ^ w / 2 ^ n * inv) % 2 ^ (w - n) = a := by
  have e : (2 : Int) ^ w = 2 ^ n * 2 ^ (w - n) := by rw [← Int.pow_add]; congr 1; omega
  have p : (0 : Int) < 2 ^ n := Int.pow_pos (by decide)
  have q : (a * (2 ^ n * odd)) % 2 ^ w = 2 ^ n * ((a * odd) % 2 ^ (w - n)) := by
    rw [e, Int.mul_left_comm, Int.mul_emod_mul_of_pos _ _ p]
  rw [q]
  refine ⟨Int.mul_emod_right _ _, ?_⟩
  rw [Int.mul_ediv_cancel_left _ (Int.ne_of_gt p)]
  have dv : (2 : Int) ^ (w - n) ∣ 1 - odd * inv := Int.dvd_trans ⟨2 ^ n, by rw [e, Int.mul_comm]⟩ hi
  rw [Int.mul_emod, Int.emod_emod_of_dvd _ (Int.dvd_refl _), ← Int.mul_emod]
  obtain ⟨c, hc⟩ := dv
  have : a * odd * inv = a - 2 ^ (w - n) * (a * c) := by
    rw [Int.mul_left_comm, ← hc, Int.mul_sub, Int.mul_assoc]
    omega
  rw [this, Int.sub_mul_emod_self_left]
  exact Int.emod_eq_of_lt h0 h1
/-- Newton's steps to the word that makes 1 -/
def invs (o m : Int) : Nat → Int
  | 0 => o
  | k + 1 => (invs o m k * (2 - o * invs o m k)) % m
theorem invs_dvd {w : Nat} {o : Int} (ho : o % 2 = 1) : ∀ k : Nat, (2 : Int) ^ (min w (2 ^ k)) ∣ 1 - o * invs o (2 ^ w) k
  | 0 => by
    have : (2 : Int) ^ (min w (2 ^ 0)) ∣ 2 ^ 1 := ⟨2 ^ (1 - min w (2 ^ 0)), by rw [← Int.pow_add]; congr 1; omega⟩
    apply Int.dvd_trans this
    have e : (1 - o * o) % 2 = 0 := by
      rw [Int.sub_emod, Int.mul_emod, ho]
      rfl
    exact Int.dvd_of_emod_eq_zero e
  | k + 1 => by
    have ih := invs_dvd (w := w) ho k
    have e : 1 - o * invs o (2 ^ w) (k + 1) = (1 - o * invs o (2 ^ w) k) * (1 - o * invs o (2 ^ w) k) + 2 ^ w * (o * (invs o (2 ^ w) k * (2 - o * invs o (2 ^ w) k) / 2 ^ w)) := by
      show 1 - o * ((invs o (2 ^ w) k * (2 - o * invs o (2 ^ w) k)) % 2 ^ w) = _
      generalize invs o (2 ^ w) k = f
      have a1 := Int.emod_add_mul_ediv (f * (2 - o * f)) (2 ^ w)
      generalize f * (2 - o * f) / 2 ^ w = q at a1 ⊢
      have a2 : f * (2 - o * f) % 2 ^ w = f * (2 - o * f) - 2 ^ w * q := by omega
      rw [a2, Int.mul_sub o, Int.mul_left_comm o (2 ^ w) q]
      have a3 : o * (f * (2 - o * f)) = (o * f) * (2 - o * f) := by rw [Int.mul_assoc]
      rw [a3]
      generalize o * f = g
      rw [Int.mul_sub g 2 g, Int.sub_mul 1 g (1 - g), Int.mul_sub g 1 g]
      omega
    rw [e]
    apply Int.dvd_add
    · have : (2 : Int) ^ (min w (2 ^ (k + 1))) ∣ 2 ^ (min w (2 ^ k)) * 2 ^ (min w (2 ^ k)) := ⟨2 ^ (min w (2 ^ k) + min w (2 ^ k) - min w (2 ^ (k + 1))), by rw [← Int.pow_add, ← Int.pow_add]; congr 1; rw [Nat.pow_succ]; omega⟩
      exact Int.dvd_trans this (Int.mul_dvd_mul ih ih)
    · exact Int.dvd_trans ⟨2 ^ (w - min w (2 ^ (k + 1))), by rw [← Int.pow_add]; congr 1; omega⟩ (Int.dvd_mul_right _ _)
theorem invs_ok {w : Nat} (hw : w ≤ 64) {o : Int} (ho : o % 2 = 1) : (2 : Int) ^ w ∣ 1 - o * invs o (2 ^ w) 7 := by
  have := invs_dvd (w := w) ho 7
  rwa [show min w (2 ^ 7) = w by omega] at this
/-- low less a place times high -/
def tms (o : Int) (f : List Int) : List Int := List.zipWith (fun a b => a - o * b) (0 :: f) (f ++ [0])
theorem tms_len (o : Int) (f : List Int) : (tms o f).length = f.length + 1 := by simp [tms]
theorem pv_tm (o x : Int) : ∀ (a b : List Int), a.length = b.length → pv (List.zipWith (fun a b => a - o * b) a b) x = pv a x - o * pv b x
  | [], [], _ => by simp [pv]
  | c :: a, d :: b, h => by
    show c - o * d + x * pv (List.zipWith (fun a b => a - o * b) a b) x = c + x * pv a x - o * (d + x * pv b x)
    rw [pv_tm o x a b (by simpa using h), Int.mul_add, Int.mul_sub, Int.mul_left_comm x o]
    omega
theorem pv_tms (o x : Int) (f : List Int) : pv (tms o f) x = (x - o) * pv f x := by
  unfold tms
  rw [pv_tm o x _ _ (by simp), pv_one, Int.sub_mul]
  simp [pv]
/-- what is added to the first of a list -/
def hd (i : Int) : List Int → List Int
  | [] => []
  | c :: f => (c + i) :: f
theorem hd_len (i : Int) (f : List Int) : (hd i f).length = f.length := by cases f <;> rfl
theorem pv_hd (i x : Int) {f : List Int} (h : f ≠ []) : pv (hd i f) x = i + pv f x := by
  cases f with
  | nil => exact absurd rfl h
  | cons c f =>
    show c + i + x * pv f x = i + (c + x * pv f x)
    omega
/-- Horner's lists -/
def hor : List Int → List Int → List Int
  | i :: it, o :: O => hd i (tms o (hor it O))
  | _, _ => []
theorem hor_len : ∀ (it O : List Int), it.length ≤ O.length → (hor it O).length = it.length
  | [], O, _ => by cases O <;> rfl
  | i :: it, o :: O, h => by
    show (hd i (tms o (hor it O))).length = it.length + 1
    rw [hd_len, tms_len, hor_len it O (by simpa using h)]
theorem hor_pv (x : Int) : ∀ (it O : List Int), it.length ≤ O.length → pv (hor it O) x = nw it O x
  | [], O, _ => by rw [nw_nil]; cases O <;> rfl
  | i :: it, o :: O, h => by
    show pv (hd i (tms o (hor it O))) x = _
    rw [pv_hd i x (by intro z; have := tms_len o (hor it O); rw [z] at this; simp at this), pv_tms, hor_pv x it O (by simpa using h)]
    rfl
end Z
/-! WK: codes: items read off words: the defs. -/
namespace Z
open PySem (Str Operator CmpOp)
/-- product_at -/
def s_product_at : List S :=
  [.asg (.v 3) (.con (.int 1)),
    .for_ (.v 4) (.e (.slc (.var 0) (.con .non) (.var 1))) [.asg (.v 3) (.bin .Mult (.var 3) (.bin .Sub (.var 2) (.var 4)))],
    .ret (.var 3)]
def d_product_at : Df := { modes := [false, false, false], names := 5, body := s_product_at }
/-- sum_at -/
def s_sum_at : List S :=
  [.par [3, 4] [.con (.int 0), .con (.int 1)],
    .for_ (.t [.v 5, .v 6]) (.zip false [.var 1, .var 0]) [.par [3, 4] [.bin .Add (.var 3) (.bin .Mult (.var 5) (.var 4)), .bin .Mult (.var 4) (.bin .Sub (.var 2) (.var 6))]],
    .ret (.var 3)]
def d_sum_at : Df := { modes := [false, false, false], names := 7, body := s_sum_at }
/-- inverse_of -/
def s_inverse_of : List S :=
  [.asg (.v 2) (.var 0),
    .for_ (.v 3) (.rng1 (.con (.int 7))) [.asg (.v 2) (.bin .Mod (.bin .Mult (.var 2) (.bin .Sub (.con (.int 2)) (.bin .Mult (.var 0) (.var 2)))) (.call 3 [.var 1] [] []))],
    .ret (.var 2)]
def d_inverse_of : Df := { modes := [false, false], names := 4, body := s_inverse_of }
/-- item_read -/
def s_item_read : List S :=
  [.asg (.v 4) (.call 3 [.var 1] [] []),
    .ite (.val (.cmp .NotEq (.bin .Mod (.var 3) (.var 4)) (.con (.int 0)))) [.ret (.con .non)] [],
    .ret (.bin .Mod (.bin .Mult (.bin .FloorDiv (.var 3) (.var 4)) (.call 177 [.bin .FloorDiv (.var 2) (.var 4), .var 0] [] [])) (.call 3 [.bin .Sub (.var 0) (.var 1)] [] []))]
def d_item_read : Df := { modes := [false, false, false, false], names := 5, body := s_item_read }
/-- read_items -/
def s_read_items : List S :=
  [.asg (.t [.v 4, .v 5]) (.call 5 [.var 1] [] []),
    .par [6, 7] [.call 7 [.var 0, .var 5, .var 2] [] [], .lst []],
    .for_ (.t [.v 8, .v 9]) (.enm (.var 4)) [.asg (.v 10) (.bin .Mod (.bin .Sub (.idx (.var 3) (.mth .index (.var 1) [.var 9])) (.call 172 [.var 4, .var 7, .var 9] [] [])) (.call 3 [.var 0] [] [])),
    .ite (.val (.cmp .Lt (.var 8) (.var 6))) [.asg (.v 11) (.call 178 [.var 0, .idx (.var 5) (.var 8), .call 6 [.var 4, .var 8, .var 9] [] [], .var 10] [] []),
    .ite (.val (.cmp .Is (.var 11) (.con .non))) [.ret (.tup [.var 7, .var 9])] [],
    .ex (.mut .append 7 [.var 11])] [.ite (.val (.cmp .NotEq (.var 10) (.con (.int 0)))) [.ret (.tup [.var 7, .var 9])] []]],
    .ret (.tup [.var 7, .con .non])]
def d_read_items : Df := { modes := [false, false, false, false], names := 12, body := s_read_items }
end Z
/-! WL: items read off words, codewords, misfits. -/
namespace Z
open PySem (Str Operator CmpOp)
section
variable {Pg : Nat → Option Df} {fuel k f : Nat} {C : Cf}
/-- the defs that reading items reaches -/
structure GW (Pg : Nat → Option Df) : Prop extends GB Pg where
  h7 : Pg 7 = some d_items_counted
  h172 : Pg 172 = some d_sum_at
/-- .. and reading them -/
structure GR (Pg : Nat → Option Df) : Prop extends GW Pg where
  h6 : Pg 6 = some d_product_at
  h177 : Pg 177 = some d_inverse_of
  h178 : Pg 178 = some d_item_read
  h179 : Pg 179 = some d_read_items
theorem Its.small {w : Nat} (hw : w ≤ 64) {N it : List Int} (h : Its w N it) : ∀ a ∈ it, a.natAbs < 2 ^ 64 := fun a m => by
  obtain ⟨i, hi, e⟩ := List.getElem_of_mem m
  obtain ⟨n, _, ln, a0, a1⟩ := h i a (by rw [← e]; exact List.getElem?_eq_getElem hi)
  have := (pow_le64 (w := w - n) (by omega)).2
  omega
theorem cnt_len (w : Nat) (ps : List Int) (c : Nat) : (cnt_w w (br w ps) c).length ≤ ps.length ∧ (cnt_w w (br w ps) c).length ≤ c := by
  have a := List.length_filter_le (fun n : Int => decide (n < (w : Int))) ((br w ps).take c)
  rw [List.length_take, br_len] at a
  unfold cnt_w
  omega
end
end Z
/-! WM: codes: codewords, items, misfits, coefficients. -/
namespace Z
open PySem (Str Operator CmpOp)
section
variable {Pg : Nat → Option Df} {fuel k f : Nat} {C : Cf}
/-- the words of items -/
def wit (w : Nat) (it ps : List Int) : List Int := ps.map fun p => nw it (ord ps) p % 2 ^ w
end
end Z
/-! WN: codes: the lists of coefficients. -/
namespace Z
open PySem (Str Operator CmpOp)
end Z
/-! WO: polynomials and codewords: the law's own defs. -/
namespace Z
open PySem (Str Operator CmpOp)
end Z
/-! WP: polynomials and codewords: the law's turns. -/
namespace Z
open PySem (Str Operator CmpOp)
/-! ### plain facts -/
/-- the items of a polynomial's words, for as many coefficients and more -/
theorem its_for {w : Nat} {ps : List Int} (h : Wi w ps) (cs : List Int) (c : Nat) (hc : cs.length ≤ c) :
    ∃ it : List Int, it.length = (cnt_w w (br w ps) c).length ∧ Its w (br w ps) it ∧ ∀ p ∈ ps, (pv cs p % 2 ^ w) % 2 ^ w = nw it (ord ps) p % 2 ^ w := by
  obtain ⟨it, h1, h2, h3⟩ := its_of h (cs ++ List.replicate (c - cs.length) 0) _ rfl
  have e : (cs ++ List.replicate (c - cs.length) 0).length = c := by simp; omega
  rw [e] at h1
  refine ⟨it, h1, h2, fun p hp => ?_⟩
  rw [h3 p hp, pv_pad, Int.emod_emod_of_dvd _ (Int.dvd_refl _)]
theorem wit_wds {w : Nat} {ps cs it : List Int} (h : ∀ p ∈ ps, (pv cs p % 2 ^ w) % 2 ^ w = nw it (ord ps) p % 2 ^ w) : wit w it ps = wds w cs ps := by
  unfold wit wds
  apply List.map_congr_left
  intro p hp
  rw [← h p hp, Int.emod_emod_of_dvd _ (Int.dvd_refl _)]
end Z
/-! WR: how many codewords there are (plain numbers). -/
namespace Z
/-- items are told by their words -/
theorem items_unique {w : Nat} (hw : w ≤ 64) {S it it' : List Int} (h : Wi w S) (h1 : Its w (br w S) it) (h2 : Its w (br w S) it') (l1 : it.length ≤ S.length) (l2 : it'.length = it.length)
    (hv : ∀ p ∈ S, nw it (ord S) p % 2 ^ w = nw it' (ord S) p % 2 ^ w) : it = it' := by
  have lo := ord_len S
  have key : ∀ j : Nat, j ≤ it.length → it.take j = it'.take j := by
    intro j
    induction j with
    | zero => intro _; simp
    | succ j ih =>
      intro hj
      have e := ih (by omega)
      have ho : j < (ord S).length := by omega
      have hm : (ord S)[j] ∈ S := (ord_perm S).mem_iff.mp (List.getElem_mem ho)
      have gp := hv _ hm
      have g1 := nw_take it (ord S) j _ (List.getElem?_eq_getElem ho)
      have g2 := nw_take it' (ord S) j _ (List.getElem?_eq_getElem ho)
      rw [List.take_succ_eq_append_getElem (show j < it.length by omega), nw_snoc _ _ _ _ (by simp; omega), List.length_take, Nat.min_eq_left (by omega)] at g1
      rw [List.take_succ_eq_append_getElem (show j < it'.length by omega), nw_snoc _ _ _ _ (by simp; omega), List.length_take, Nat.min_eq_left (by omega)] at g2
      rw [g1, g2, ← e] at gp
      obtain ⟨n, hn, ln, a0, a1⟩ := h1 j it[j] (List.getElem?_eq_getElem (by omega))
      obtain ⟨n', hn', ln', b0, b1⟩ := h2 j it'[j] (List.getElem?_eq_getElem (by omega))
      have nn : n' = n := by
        rw [hn] at hn'
        have := Option.some.inj hn'
        omega
      subst nn
      have ne := num_eq h j (List.getElem?_eq_getElem ho)
      rw [hn] at ne
      have ne2 : n' = btw ((ord S).take j) (ord S)[j] := by
        have := Option.some.inj ne
        omega
      have np : (ord S)[j] ∉ (ord S).take j := by
        intro m
        obtain ⟨i, hi2, ei⟩ := List.getElem_of_mem m
        rw [List.length_take] at hi2
        rw [List.getElem_take] at ei
        have := (List.getElem_inj ((ord_perm S).nodup_iff.mpr h.1)).mp ei
        omega
      obtain ⟨o, eo, oo⟩ := v2_split n' (pd ((ord S).take j) (ord S)[j]) (pd_ne np) (by rw [v2_pd np, ne2])
      rw [eo] at gp
      obtain ⟨_, L1⟩ := lack_item (w := w) (n := n') (by omega) a0 a1 (invs_ok hw oo)
      obtain ⟨_, L2⟩ := lack_item (w := w) (n := n') (by omega) b0 b1 (invs_ok hw oo)
      have eq : it[j] * (2 ^ n' * o) % 2 ^ w = it'[j] * (2 ^ n' * o) % 2 ^ w := by
        have this : ((nw (it.take j) (ord S) (ord S)[j] + it[j] * (2 ^ n' * o)) % 2 ^ w - nw (it.take j) (ord S) (ord S)[j]) % 2 ^ w = ((nw (it.take j) (ord S) (ord S)[j] + it'[j] * (2 ^ n' * o)) % 2 ^ w - nw (it.take j) (ord S) (ord S)[j]) % 2 ^ w := by rw [gp]
        rw [Int.emod_sub_emod, Int.emod_sub_emod] at this
        generalize nw (it.take j) (ord S) (ord S)[j] = c at this
        rw [show c + it[j] * (2 ^ n' * o) - c = it[j] * (2 ^ n' * o) by omega, show c + it'[j] * (2 ^ n' * o) - c = it'[j] * (2 ^ n' * o) by omega] at this
        exact this
      rw [eq, L2] at L1
      rw [List.take_succ_eq_append_getElem (show j < it.length by omega), List.take_succ_eq_append_getElem (show j < it'.length by omega), e, L1]
  have := key it.length (Nat.le_refl _)
  rw [List.take_of_length_le (Nat.le_refl _), List.take_of_length_le (by omega)] at this
  exact this
theorem filt_take (w : Int) : ∀ l : List Int, l.Pairwise (· ≤ ·) → l.filter (fun n => decide (n < w)) = l.take (l.filter fun n => decide (n < w)).length
  | [], _ => rfl
  | x :: l, h => by
    by_cases k : x < w
    · rw [List.filter_cons_of_pos (by simpa using k), List.length_cons, List.take_succ_cons, ← filt_take w l (List.pairwise_cons.mp h).2]
    · have z : (x :: l).filter (fun n => decide (n < w)) = [] := by
        rw [List.filter_eq_nil_iff]
        intro y hy
        have : x ≤ y := by
          rcases List.mem_cons.mp hy with rfl | hy
          · exact Int.le_refl _
          · exact (List.pairwise_cons.mp h).1 y hy
        simp
        omega
      rw [z]
      rfl
/-- the numbers that count, as the first of all -/
theorem cnt_take (w : Nat) (ps : List Int) (c : Nat) : cnt_w w (br w ps) c = (br w ps).take (cnt_w w (br w ps) c).length := by
  have s : ((br w ps).take c).Pairwise (· ≤ ·) := (br_sorted w ps).sublist (List.take_sublist _ _)
  have e := filt_take (w : Int) _ s
  have l := List.length_filter_le (fun n : Int => decide (n < (w : Int))) ((br w ps).take c)
  rw [List.length_take] at l
  unfold cnt_w
  conv => lhs; rw [e]
  rw [List.take_take]
  congr 1
  omega
/-- longer by one item each -/
def ext1 (b : Nat) (F : List (List Int)) : List (List Int) := F.flatMap fun it => (List.range b).map fun m => it ++ [((m : Nat) : Int)]
def allI (w : Nat) : List Int → List (List Int) → List (List Int)
  | [], F => F
  | n :: N, F => allI w N (ext1 (2 ^ (w - n.toNat)) F)
theorem ext1_len (b : Nat) : ∀ F : List (List Int), (ext1 b F).length = F.length * b
  | [] => by simp [ext1]
  | T :: F => by
    have := ext1_len b F
    simp only [ext1, List.flatMap_cons, List.length_append, List.length_map, List.length_range, List.length_cons] at this ⊢
    rw [this, Nat.add_mul]
    omega
/-- of which power of 2 -/
def pw2 (w : Nat) (N : List Int) : Nat := (N.map fun n => w - n.toNat).sum
theorem allI_len (w : Nat) : ∀ (N : List Int) (F : List (List Int)), (allI w N F).length = F.length * 2 ^ pw2 w N
  | [], F => by simp [allI, pw2]
  | n :: N, F => by
    show (allI w N (ext1 (2 ^ (w - n.toNat)) F)).length = F.length * 2 ^ ((w - n.toNat) + pw2 w N)
    rw [allI_len w N, ext1_len, Nat.pow_add, Nat.mul_assoc]
theorem ext1_mem {b : Nat} {F : List (List Int)} {T : List Int} : T ∈ ext1 b F ↔ ∃ it ∈ F, ∃ m : Nat, m < b ∧ T = it ++ [(m : Int)] := by
  simp only [ext1, List.mem_flatMap, List.mem_map, List.mem_range]
  constructor
  · rintro ⟨it, h, m, hm, rfl⟩; exact ⟨it, h, m, hm, rfl⟩
  · rintro ⟨it, h, m, hm, rfl⟩; exact ⟨it, h, m, hm, rfl⟩
theorem allI_mem (w : Nat) : ∀ (N : List Int) (F : List (List Int)) (T : List Int), T ∈ allI w N F → ∃ it ∈ F, ∃ t : List Int, T = it ++ t ∧ t.length = N.length ∧ ∀ (i : Nat) (a : Int), t[i]? = some a → ∃ n, N[i]? = some n ∧ 0 ≤ a ∧ a < 2 ^ (w - n.toNat)
  | [], F, T, h => ⟨T, h, [], by simp, rfl, by simp⟩
  | n :: N, F, T, h => by
    obtain ⟨it1, h1, t, rfl, lt, ht⟩ := allI_mem w N _ T h
    obtain ⟨it, h2, m, hm, rfl⟩ := ext1_mem.mp h1
    refine ⟨it, h2, (m : Int) :: t, by simp, by simp [lt], fun i a e => ?_⟩
    cases i with
    | zero =>
      simp at e
      subst e
      refine ⟨n, rfl, by omega, ?_⟩
      have : ((2 ^ (w - n.toNat) : Nat) : Int) = 2 ^ (w - n.toNat) := by simp
      omega
    | succ i =>
      obtain ⟨n', e1, e2⟩ := ht i a (by simpa using e)
      exact ⟨n', by simpa using e1, e2⟩
theorem ext1_nodup {b L : Nat} {F : List (List Int)} (hL : ∀ T ∈ F, T.length = L) (h : F.Nodup) : (ext1 b F).Nodup ∧ ∀ T ∈ ext1 b F, T.length = L + 1 := by
  constructor
  · unfold ext1 List.Nodup
    rw [List.pairwise_flatMap]
    constructor
    · intro T _
      rw [List.pairwise_map]
      refine List.Pairwise.imp ?_ List.nodup_range
      intro x y ne e
      have := List.append_cancel_left e
      simp at this
      omega
    · refine h.imp_of_mem ?_
      intro A B hA hB ne x hx y hy e
      obtain ⟨m, _, rfl⟩ := List.mem_map.mp hx
      obtain ⟨m', _, rfl⟩ := List.mem_map.mp hy
      have := List.append_inj_left e (by rw [hL A hA, hL B hB])
      exact ne this
  · intro T hT
    obtain ⟨it, h1, m, _, rfl⟩ := ext1_mem.mp hT
    simp [hL it h1]
theorem allI_nodup (w : Nat) : ∀ (N : List Int) (F : List (List Int)) (L : Nat), (∀ T ∈ F, T.length = L) → F.Nodup → (allI w N F).Nodup
  | [], F, L, _, h => h
  | n :: N, F, L, hL, h => by
    obtain ⟨a, b⟩ := ext1_nodup (b := 2 ^ (w - n.toNat)) hL h
    exact allI_nodup w N _ (L + 1) b a
/-- all items lists are items lists -/
theorem allI_its {w : Nat} {N : List Int} {M : Nat} (h0 : ∀ x ∈ N, 0 ≤ x) (hM : ∀ x ∈ N.take M, x < (w : Int)) {T : List Int} (h : T ∈ allI w (N.take M) [[]]) : Its w N T ∧ T.length = (N.take M).length := by
  obtain ⟨it, h1, t, rfl, lt, ht⟩ := allI_mem w _ _ T h
  simp only [List.mem_singleton] at h1
  subst h1
  refine ⟨fun i a e => ?_, by simpa using lt⟩
  obtain ⟨n, e1, a0, a1⟩ := ht i a (by simpa using e)
  have nm := List.mem_of_getElem? e1
  have n0 := h0 n (List.mem_of_mem_take nm)
  refine ⟨n.toNat, ?_, by have := hM n nm; omega, a0, a1⟩
  rw [List.getElem?_take] at e1
  split at e1
  · rw [Int.toNat_of_nonneg n0]
    exact e1
  · cases e1
/-- the power told -/
theorem pw2_sum (w : Nat) : ∀ N : List Int, (∀ x ∈ N, 0 ≤ x ∧ x < (w : Int)) → (pw2 w N : Int) = (N.map fun n => (w : Int) - n).sum
  | [], _ => rfl
  | n :: N, h => by
    have ih := pw2_sum w N fun x m => h x (List.mem_cons_of_mem _ m)
    have b := h n List.mem_cons_self
    show ((w - n.toNat + pw2 w N : Nat) : Int) = (w : Int) - n + (N.map fun n => (w : Int) - n).sum
    omega
theorem pw2_le (w : Nat) : ∀ N : List Int, pw2 w N ≤ w * N.length
  | [] => by simp [pw2]
  | n :: N => by
    have := pw2_le w N
    show w - n.toNat + pw2 w N ≤ w * (N.length + 1)
    rw [Nat.mul_add]
    omega
end Z
/-! WS: how many codewords there are: the defs. -/
namespace Z
open PySem (Str Operator CmpOp)
section
variable {Pg : Nat → Option Df} {fuel k f : Nat} {C : Cf} {r : En} {i : Nat} {a b : E}
@[simp] theorem iv_dnt : isVar .dnt = none := rfl
@[simp] theorem iv_dlen : isVar (.dlen i) = none := rfl
@[simp] theorem qb_dlen {f : En → R Val} : bor (.dlen i) f r = (f r).bind fun v r1 => .ok (.inr v.d) r1 := rfl
@[simp] theorem q_dnt : ev C .dnt r = .ok (.ow (.dts [])) r := by simp only [ev]
@[simp] theorem q_dlen : ev C (.dlen i) r = (match r[i]? with | some (.ow (.dts ks)) => .ok (.sh (.int ks.length)) r | _ => .bad) := by simp only [ev] <;> rfl
@[simp] theorem q_dput : x1 C (.dput i a b) r = (ev C b r).run fun v r1 => if (r1.own? i).isSome = true then (ev C a r1).run fun k r2 => O.of ((r2.own? i).bind fun o => (dputD o k.d v.d).bind fun d => r2.chg i d) else .bad := by simp only [x1]
end
section
variable {Pg : Nat → Option Df} {fuel k f : Nat} {C : Cf}
theorem ext1_take (b : Nat) (F : List (List Int)) (i : Nat) (h : i < F.length) : ext1 b (F.take (i + 1)) = ext1 b (F.take i) ++ (List.range b).map fun m => F[i] ++ [((m : Nat) : Int)] := by
  rw [List.take_succ_eq_append_getElem h]
  simp only [ext1, List.flatMap_append, List.flatMap_cons, List.flatMap_nil, List.append_nil]
end
end Z
/-! WT: how many codewords there are: the law's turns. -/
namespace Z
open PySem (Str Operator CmpOp)
/-! ### plain facts -/
theorem wit_inj {w : Nat} (hw : w ≤ 64) {ps T T' : List Int} (h : Wi w ps) (h1 : Its w (br w ps) T) (h2 : Its w (br w ps) T') (l1 : T.length ≤ ps.length) (l2 : T'.length = T.length) (e : wit w T ps = wit w T' ps) : T = T' := by
  refine items_unique hw h h1 h2 l1 l2 fun p hp => ?_
  unfold wit at e
  exact List.map_inj_left.mp e p hp
theorem keysD_il : ∀ l : List Int, keysD (l.map .int) = some (l.map Sum.inl)
  | [] => rfl
  | x :: l => by
    show ((keyD (.int x)).bind fun k => (keysD (l.map .int)).map (k :: ·)) = _
    rw [keysD_il l]
    rfl
end Z
/-! WV: reading any words along the order (plain numbers). -/
namespace Z
def odp (O N : List Int) (j : Nat) : Int := pd (O.take j) (O.getD j 0) / 2 ^ (N.getD j 0).toNat
def itm (w : Nat) (O N : List Int) (j : Nat) (lack : Int) : Int := lack / 2 ^ (N.getD j 0).toNat * invs (odp O N j) (2 ^ w) 7 % 2 ^ (w - (N.getD j 0).toNat)
theorem Its.one {w : Nat} {N t : List Int} {a : Int} {n : Nat} (h : Its w N t) (hn : N[t.length]? = some (n : Int)) (lw : n < w) (a0 : 0 ≤ a) (a1 : a < 2 ^ (w - n)) : Its w N (t ++ [a]) := fun i b e => by
  rw [List.getElem?_append] at e
  split at e
  · exact h i b e
  · rename_i c
    have : i = t.length := by
      have l := (List.getElem?_eq_some_iff.mp e).1
      simp at l
      omega
    subst this
    simp at e
    subst e
    exact ⟨n, hn, lw, a0, a1⟩
end Z
/-! WW: reading any words: the program. -/
namespace Z
open PySem (Str Operator CmpOp)
/-- the defs that reading any words reaches -/
structure GD (Pg : Nat → Option Df) : Prop extends GR Pg where
  h2 : Pg 2 = some d_check_number
  h19 : Pg 19 = some d_check_code
  h51 : Pg 51 = some d_are_words
  h72 : Pg 72 = some d_check_words
end Z
/-! WX: codewords and the first misfit: the law's defs. -/
namespace Z
open PySem (Str Operator CmpOp)
section
variable {Pg : Nat → Option Df} {fuel k f : Nat} {C : Cf}
/-- a list as a tuple -/
abbrev tl (T : List Int) : D := .tup (T.map .int)
abbrev tls (F : List (List Int)) : List D := F.map tl
end
end Z
/-! WY: codewords and the first misfit: all codewords, all words. -/
namespace Z
open PySem (Str Operator CmpOp)
theorem rng_map (b : Nat) : ((rangeI 0 (b : Int) 1).map D.int) = (List.range b).map fun m => D.int ((m : Nat) : Int) := by
  simp [rangeI, rangeN, List.map_map]
end Z
/-! WZ: codewords and the first misfit: the law's own reading. -/
namespace Z
open PySem (Str Operator CmpOp)
/-- an item found bit by bit -/
def bt (o z : Int) : Nat → Int
  | 0 => 0
  | b + 1 => if (z - bt o z b * o) % 2 ^ (b + 1) = 0 then bt o z b else bt o z b + 2 ^ b
end Z
/-! XA: codewords and the first misfit: the law's own reading, whole. -/
namespace Z
open PySem (Str Operator CmpOp)
end Z
/-! XB: codewords and the first misfit: small codes (plain facts, and the loops). -/
namespace Z
open PySem (Str Operator CmpOp)
theorem allI_in (w : Nat) : ∀ (N : List Int) (F : List (List Int)) (it t : List Int), it ∈ F → t.length = N.length → (∀ (i : Nat) (a n : Int), t[i]? = some a → N[i]? = some n → 0 ≤ a ∧ a < 2 ^ (w - n.toNat)) → it ++ t ∈ allI w N F
  | [], F, it, t, h, l, _ => by
    have : t = [] := List.length_eq_zero_iff.mp l
    subst this
    simpa [allI] using h
  | n :: N, F, it, [], h, l, _ => by simp at l
  | n :: N, F, it, a :: t, h, l, b => by
    obtain ⟨a0, a1⟩ := b 0 a n rfl rfl
    have pc : ((2 ^ (w - n.toNat) : Nat) : Int) = 2 ^ (w - n.toNat) := by simp
    have m1 : it ++ [a] ∈ ext1 (2 ^ (w - n.toNat)) F := ext1_mem.mpr ⟨it, h, a.toNat, by omega, by rw [Int.toNat_of_nonneg a0]⟩
    have := allI_in w N _ (it ++ [a]) t m1 (by simpa using l) (fun i b' n' e1 e2 => b (i + 1) b' n' (by simpa using e1) (by simpa using e2))
    rw [List.append_assoc] at this
    exact this
section
variable {Pg : Nat → Option Df} {fuel k f : Nat} {C : Cf}
theorem look_map (g : Int → Int) (Q : List Int) : List.filterMap (fun d => match d with | D.int p => some (D.int (g p)) | _ => none) (Q.map D.int) = (Q.map g).map .int := by
  rw [List.filterMap_map, List.map_map, ← List.filterMap_eq_map]
  rfl
end
end Z
/-! NCW: codewords of a count, plainly. -/
namespace Z
def IsCw (w c : Nat) (S T : List Int) : Prop := ∃ cs : List Int, cs.length ≤ c ∧ T = S.map fun x => pv cs x % 2 ^ w
end Z
/-! QN: counts of what codewords are at parts (plain): never less together; parts beside known words. -/
namespace Z
theorem nd_sub {A : Type} [DecidableEq A] : ∀ (l m : List A), l.Nodup → (∀ x ∈ l, x ∈ m) → l.length ≤ m.length
  | [], _, _, _ => Nat.zero_le _
  | x :: l, m, nd, h => by
    obtain ⟨h1, h2⟩ := List.nodup_cons.mp nd
    have hx := h x List.mem_cons_self
    have ih := nd_sub l (m.erase x) h2 fun y hy => by
      have : y ≠ x := fun e => h1 (e ▸ hy)
      exact (List.mem_erase_of_ne this).mpr (h y (List.mem_cons_of_mem _ hy))
    have := List.length_erase_of_mem hx
    have : 0 < m.length := List.length_pos_of_mem hx
    simp only [List.length_cons]
    omega
theorem inj_len {A B : Type} [DecidableEq B] {l : List A} {m : List B} (f : A → B) (nd : l.Nodup) (inj : ∀ x ∈ l, ∀ y ∈ l, f x = f y → x = y) (hm : ∀ x ∈ l, f x ∈ m) : l.length ≤ m.length := by
  have n2 : (l.map f).Nodup := by
    rw [List.nodup_iff_pairwise_ne, List.pairwise_map]
    exact List.Pairwise.imp_of_mem (fun {a b} ha hb h e => h (inj a ha b hb e)) (List.nodup_iff_pairwise_ne.mp nd)
  have := nd_sub (l.map f) m n2 fun y hy => by
    obtain ⟨x, hx, rfl⟩ := List.mem_map.mp hy
    exact hm x hx
  rwa [List.length_map] at this
/-- all pairs -/
def prs2 {A B : Type} (l : List A) (m : List B) : List (A × B) := l.flatMap fun x => m.map fun y => (x, y)
theorem prs2_len {A B : Type} (l : List A) (m : List B) : (prs2 l m).length = l.length * m.length := by
  unfold prs2
  induction l with
  | nil => simp
  | cons x l ih => rw [List.flatMap_cons, List.length_append, ih, List.length_map, List.length_cons, Nat.succ_mul, Nat.add_comm]
theorem prs2_mem {A B : Type} {l : List A} {m : List B} {p : A × B} : p ∈ prs2 l m ↔ p.1 ∈ l ∧ p.2 ∈ m := by
  unfold prs2
  rw [List.mem_flatMap]
  constructor
  · rintro ⟨x, hx, h⟩
    obtain ⟨y, hy, rfl⟩ := List.mem_map.mp h
    exact ⟨hx, hy⟩
  · rintro ⟨h1, h2⟩
    exact ⟨p.1, h1, List.mem_map.mpr ⟨p.2, h2, rfl⟩⟩
theorem prs2_nodup {A B : Type} {l : List A} {m : List B} (hl : l.Nodup) (hm : m.Nodup) : (prs2 l m).Nodup := by
  unfold prs2
  induction l with
  | nil => simp
  | cons x l ih =>
    obtain ⟨h1, h2⟩ := List.nodup_cons.mp hl
    rw [List.flatMap_cons]
    refine List.nodup_append.mpr ⟨?_, ih h2, fun a ha b hb e => ?_⟩
    · rw [List.nodup_iff_pairwise_ne, List.pairwise_map]
      exact (List.nodup_iff_pairwise_ne.mp hm).imp fun h e => h (Prod.mk.inj e).2
    · subst e
      obtain ⟨y, _, rfl⟩ := List.mem_map.mp ha
      exact h1 (prs2_mem (l := l) (m := m).mp hb).1
/-- a codeword as a function -/
def IsG (w c : Nat) (g : Int → Int) : Prop := ∃ cs : List Int, cs.length ≤ c ∧ ∀ x, g x = pv cs x % 2 ^ w
theorem cw_g {w c : Nat} {S T : List Int} : IsCw w c S T ↔ ∃ g, IsG w c g ∧ T = S.map g := by
  constructor
  · rintro ⟨cs, lc, rfl⟩
    exact ⟨fun x => pv cs x % 2 ^ w, ⟨cs, lc, fun _ => rfl⟩, rfl⟩
  · rintro ⟨g, ⟨cs, lc, e⟩, rfl⟩
    exact ⟨cs, lc, List.map_congr_left fun x _ => e x⟩
theorem g_rng {w c : Nat} {g : Int → Int} (h : IsG w c g) (x : Int) : 0 ≤ g x ∧ g x < 2 ^ w := by
  obtain ⟨cs, _, e⟩ := h
  have p : (0 : Int) < 2 ^ w := Int.pow_pos (by decide)
  rw [e]
  exact ⟨Int.emod_nonneg _ (Int.ne_of_gt p), Int.emod_lt_of_pos _ p⟩
theorem pv_same {a b : List Int} (x : Int) : ∃ a' b' : List Int, a'.length = b'.length ∧ a'.length ≤ max a.length b.length ∧ (∀ x, pv a' x = pv a x) ∧ ∀ x, pv b' x = pv b x :=
  ⟨a ++ List.replicate (b.length - a.length) 0, b ++ List.replicate (a.length - b.length) 0, by simp; omega, by simp; omega, fun x => pv_pad x a _, fun x => pv_pad x b _⟩
theorem pv_mulc (k x : Int) : ∀ cs : List Int, pv (cs.map (k * ·)) x = k * pv cs x
  | [] => by simp [pv]
  | c :: cs => by
    show k * c + x * pv (cs.map (k * ·)) x = k * (c + x * pv cs x)
    rw [pv_mulc k x cs, Int.mul_add, Int.mul_left_comm]
/-- sums of codewords, with a factor -/
theorem g_lin {w c : Nat} {g h : Int → Int} (hg : IsG w c g) (hh : IsG w c h) (k : Int) : IsG w c fun x => (g x + k * h x) % 2 ^ w := by
  obtain ⟨a, la, ea⟩ := hg
  obtain ⟨b, lb, eb⟩ := hh
  obtain ⟨a', b', e1, e2, e3, e4⟩ := pv_same (a := a) (b := b) 0
  refine ⟨List.zipWith (· + ·) a' (b'.map (k * ·)), by simp; omega, fun x => ?_⟩
  show (g x + k * h x) % 2 ^ w = _
  rw [pv_add x _ _ (by rw [List.length_map]; exact e1), pv_mulc, e3, e4, ea, eb]
  rw [Int.add_emod, Int.mul_emod k, Int.emod_emod_of_dvd _ (Int.dvd_refl _), Int.emod_emod_of_dvd _ (Int.dvd_refl _), ← Int.mul_emod, ← Int.add_emod]
theorem map_eq {S : List Int} {f g : Int → Int} : S.map f = S.map g ↔ ∀ x ∈ S, f x = g x := List.map_inj_left
open Classical in
/-- one codeword of those words -/
noncomputable def pickC (w c : Nat) (S T : List Int) : Int → Int := if h : ∃ g, IsG w c g ∧ T = S.map g then Classical.choose h else fun _ => 0
theorem pickC_ok {w c : Nat} {S T : List Int} (h : IsCw w c S T) : IsG w c (pickC w c S T) ∧ T = S.map (pickC w c S T) := by
  have h := cw_g.mp h
  unfold pickC
  rw [dif_pos h]
  exact Classical.choose_spec h
/-- all words of codewords at places, each once -/
def Cwl (w c : Nat) (S : List Int) (L : List (List Int)) : Prop := L.Nodup ∧ ∀ T, T ∈ L ↔ IsCw w c S T
theorem Cwl.g {w c : Nat} {S : List Int} {L : List (List Int)} (h : Cwl w c S L) {g : Int → Int} (hg : IsG w c g) : S.map g ∈ L := (h.2 _).mpr (cw_g.mpr ⟨g, hg, rfl⟩)
theorem mod_cancel {P a b d : Int} (h : (a + d) % P = (b + d) % P) (ha : 0 ≤ a ∧ a < P) (hb : 0 ≤ b ∧ b < P) : a = b := by
  have e : (a + d - d) % P = (b + d - d) % P := by rw [Int.sub_emod, h, ← Int.sub_emod]
  rw [show a + d - d = a by omega, show b + d - d = b by omega, Int.emod_eq_of_lt ha.1 ha.2, Int.emod_eq_of_lt hb.1 hb.2] at e
  exact e
/-- two parts tell no less apart than together -/
theorem cntG_sub {w c : Nat} {X Y Z' T : List Int} {CX CY CZ CT : List (List Int)} (hX : Cwl w c X CX) (hY : Cwl w c Y CY) (hZ : Cwl w c Z' CZ) (hT : Cwl w c T CT) (mZ : ∀ x ∈ Z', x ∈ X ∨ x ∈ Y) (mX : ∀ x ∈ T, x ∈ X) (mY : ∀ x ∈ T, x ∈ Y) (sX : ∀ x ∈ X, x ∈ Z') (sY : ∀ x ∈ Y, x ∈ Z') :
    CZ.length * CT.length ≤ CX.length * CY.length := by
  rw [← prs2_len, ← prs2_len]
  refine inj_len (fun p => (X.map (pickC w c Z' p.1), Y.map fun x => (pickC w c Z' p.1 x + 1 * pickC w c T p.2 x) % 2 ^ w)) (prs2_nodup hZ.1 hT.1) (fun p hp q hq e => ?_) fun p hp => ?_
  · obtain ⟨p1, p2⟩ := prs2_mem.mp hp
    obtain ⟨q1, q2⟩ := prs2_mem.mp hq
    obtain ⟨g1, e1⟩ := pickC_ok ((hZ.2 _).mp p1)
    obtain ⟨g2, e2⟩ := pickC_ok ((hT.2 _).mp p2)
    obtain ⟨g3, e3⟩ := pickC_ok ((hZ.2 _).mp q1)
    obtain ⟨g4, e4⟩ := pickC_ok ((hT.2 _).mp q2)
    obtain ⟨a1, a2⟩ := Prod.mk.inj e
    have b1 := map_eq.mp a1
    have b2 := map_eq.mp a2
    have t : p.2 = q.2 := by
      rw [e2, e4]
      refine map_eq.mpr fun x hx => ?_
      have h := b2 x (mY x hx)
      rw [b1 x (mX x hx), Int.one_mul, Int.one_mul, Int.add_comm, Int.add_comm (pickC w c Z' q.1 x)] at h
      exact mod_cancel h (g_rng g2 x) (g_rng g4 x)
    have z : p.1 = q.1 := by
      rw [e1, e3]
      refine map_eq.mpr fun x hx => ?_
      rcases mZ x hx with m | m
      · exact b1 x m
      · have h := b2 x m
        rw [t] at h
        exact mod_cancel h (g_rng g1 x) (g_rng g3 x)
    exact Prod.ext z t
  · obtain ⟨p1, p2⟩ := prs2_mem.mp hp
    have g1 := (pickC_ok ((hZ.2 _).mp p1)).1
    have g2 := (pickC_ok ((hT.2 _).mp p2)).1
    exact prs2_mem.mpr ⟨hX.g g1, hY.g (g_lin g1 g2 1)⟩
/-- the words at one part, of those that are as one's at another -/
def Beside (w c : Nat) (K O : List Int) (g0 : Int → Int) (L : List (List Int)) : Prop := L.Nodup ∧ ∀ T, T ∈ L ↔ ∃ g, IsG w c g ∧ (∀ x ∈ K, g x = g0 x) ∧ T = O.map g
open Classical in
noncomputable def pickB (w c : Nat) (K O : List Int) (g0 : Int → Int) (T : List Int) : Int → Int := if h : ∃ g, IsG w c g ∧ (∀ x ∈ K, g x = g0 x) ∧ T = O.map g then Classical.choose h else fun _ => 0
theorem pickB_ok {w c : Nat} {K O : List Int} {g0 : Int → Int} {T : List Int} (h : ∃ g, IsG w c g ∧ (∀ x ∈ K, g x = g0 x) ∧ T = O.map g) : IsG w c (pickB w c K O g0 T) ∧ (∀ x ∈ K, pickB w c K O g0 T x = g0 x) ∧ T = O.map (pickB w c K O g0 T) := by
  unfold pickB
  rw [dif_pos h]
  exact Classical.choose_spec h
theorem beside_cnt {w c : Nat} {K O Z' : List Int} {g0 : Int → Int} {L CK CZ : List (List Int)} (hg0 : IsG w c g0) (hL : Beside w c K O g0 L) (hK : Cwl w c K CK) (hZ : Cwl w c Z' CZ) (mZ : ∀ x, x ∈ Z' ↔ x ∈ K ∨ x ∈ O) : L.length * CK.length = CZ.length := by
  apply Nat.le_antisymm
  · rw [← prs2_len]
    refine inj_len (fun p => Z'.map fun x => (pickB w c K O g0 p.1 x + 1 * pickC w c K p.2 x) % 2 ^ w) (prs2_nodup hL.1 hK.1) (fun p hp q hq e => ?_) fun p hp => ?_
    · obtain ⟨p1, p2⟩ := prs2_mem.mp hp
      obtain ⟨q1, q2⟩ := prs2_mem.mp hq
      obtain ⟨g1, k1, e1⟩ := pickB_ok ((hL.2 _).mp p1)
      obtain ⟨g2, e2⟩ := pickC_ok ((hK.2 _).mp p2)
      obtain ⟨g3, k3, e3⟩ := pickB_ok ((hL.2 _).mp q1)
      obtain ⟨g4, e4⟩ := pickC_ok ((hK.2 _).mp q2)
      have b := map_eq.mp e
      have t : p.2 = q.2 := by
        rw [e2, e4]
        refine map_eq.mpr fun x hx => ?_
        have h := b x ((mZ x).mpr (.inl hx))
        rw [k1 x hx, k3 x hx, Int.one_mul, Int.one_mul, Int.add_comm, Int.add_comm (g0 x)] at h
        exact mod_cancel h (g_rng g2 x) (g_rng g4 x)
      have z : p.1 = q.1 := by
        rw [e1, e3]
        refine map_eq.mpr fun x hx => ?_
        have h := b x ((mZ x).mpr (.inr hx))
        rw [t] at h
        exact mod_cancel h (g_rng g1 x) (g_rng g3 x)
      exact Prod.ext z t
    · obtain ⟨p1, p2⟩ := prs2_mem.mp hp
      exact hZ.g (g_lin (pickB_ok ((hL.2 _).mp p1)).1 (pickC_ok ((hK.2 _).mp p2)).1 1)
  · rw [← prs2_len]
    refine inj_len (fun z => (O.map fun x => (((pickC w c Z' z x + (-1) * pickC w c K (K.map (pickC w c Z' z)) x) % 2 ^ w) + 1 * g0 x) % 2 ^ w, K.map (pickC w c Z' z))) hZ.1 (fun p hp q hq e => ?_) fun z hz => ?_
    · obtain ⟨g1, e1⟩ := pickC_ok ((hZ.2 _).mp hp)
      obtain ⟨g3, e3⟩ := pickC_ok ((hZ.2 _).mp hq)
      obtain ⟨a1, a2⟩ := Prod.mk.inj e
      rw [e1, e3]
      refine map_eq.mpr fun x hx => ?_
      rcases (mZ x).mp hx with m | m
      · exact map_eq.mp a2 x m
      · have h := map_eq.mp a1 x m
        rw [a2] at h
        have p2 : (0 : Int) < 2 ^ w := Int.pow_pos (by decide)
        have h1 := mod_cancel h ⟨Int.emod_nonneg _ (Int.ne_of_gt p2), Int.emod_lt_of_pos _ p2⟩ ⟨Int.emod_nonneg _ (Int.ne_of_gt p2), Int.emod_lt_of_pos _ p2⟩
        exact mod_cancel h1 (g_rng g1 x) (g_rng g3 x)
    · obtain ⟨g1, e1⟩ := pickC_ok ((hZ.2 _).mp hz)
      have hk := hK.g g1
      obtain ⟨g2, e2⟩ := pickC_ok ((hK.2 _).mp hk)
      refine prs2_mem.mpr ⟨(hL.2 _).mpr ⟨_, g_lin (g_lin g1 g2 (-1)) hg0 1, fun x hx => ?_, rfl⟩, hk⟩
      have := map_eq.mp e2 x hx
      rw [← this, Int.neg_one_mul, Int.add_right_neg, Int.one_mul, Int.zero_emod, Int.zero_add]
      have b := g_rng hg0 x
      exact Int.emod_eq_of_lt b.1 b.2
end Z
/-! NP: itemsread.py: words read along the order with a dict; k57. -/
namespace Z
open PySem (Str Operator CmpOp)
/-- inverse -/
def s_inverse_v1 : List S :=
  [.par [2, 3] [.con (.int 1), .call 3 [.var 1] [] []],
    .for_ (.v 4) (.rng1 (.con (.int 6))) [.asg (.v 2) (.bin .Mod (.bin .Mult (.var 2) (.bin .Sub (.con (.int 2)) (.bin .Mult (.var 0) (.var 2)))) (.var 3))],
    .ret (.bin .Mod (.var 2) (.var 3))]
def d_inverse_v1 : Df := { modes := [false, false], names := 5, body := s_inverse_v1 }
/-- made_at -/
def s_made_at : List S :=
  [.asg (.v 3) (.con (.int 0)),
    .for_ (.v 4) (.rng3 (.bin .Sub (.bi .len [.var 1]) (.con (.int 1))) (.neg (.con (.int 1))) (.neg (.con (.int 1)))) [.asg (.v 3) (.bin .Add (.bin .Mult (.var 3) (.bin .Sub (.var 2) (.idx (.var 0) (.var 4)))) (.idx (.var 1) (.var 4)))],
    .ret (.var 3)]
def d_made_at : Df := { modes := [false, false, false], names := 5, body := s_made_at }
/-- read_along -/
def s_read_along : List S :=
  [.asg (.t [.v 4, .v 5]) (.call 5 [.var 1] [] []),
    .par [6, 7] [.dcz 9 14 (.zip true [.var 1, .var 3]), .lst []],
    .for_ (.t [.v 8, .v 9]) (.enm (.var 4)) [.asg (.v 10) (.bin .Mod (.bin .Sub (.dget 6 (.var 9)) (.call 636 [.var 4, .var 7, .var 9] [] [])) (.call 3 [.var 0] [] [])),
    .asg (.v 11) (.ite (.and (.val (.cmp .Lt (.var 8) (.var 2))) (.val (.cmp .Lt (.idx (.var 5) (.var 8)) (.var 0)))) (.call 3 [.idx (.var 5) (.var 8)] [] []) (.call 3 [.var 0] [] [])),
    .ite (.val (.cmp .NotEq (.bin .Mod (.var 10) (.var 11)) (.con (.int 0)))) [.ret (.tup [.var 7, .var 9])] [],
    .ite (.and (.val (.cmp .Lt (.var 8) (.var 2))) (.val (.cmp .Lt (.idx (.var 5) (.var 8)) (.var 0)))) [.asg (.v 12) (.bin .Sub (.var 0) (.idx (.var 5) (.var 8))),
    .asg (.v 13) (.bin .FloorDiv (.call 6 [.var 4, .var 8, .var 9] [] []) (.var 11)),
    .ex (.mut .append 7 [.bin .Mod (.bin .Mult (.bin .FloorDiv (.var 10) (.var 11)) (.call 635 [.var 13, .var 12] [] [])) (.call 3 [.var 12] [] [])])] []],
    .ret (.tup [.var 7, .con .non])]
def d_read_along : Df := { modes := [false, false, false, false], names := 15, body := s_read_along }
/-- _law_size -/
def s__law_size : List S :=
  [.ret (.bin .Add (.var 1) (.call 33 [.var 0, .bin .Add (.bin .Sub (.var 2) (.var 1)) (.con (.int 1))] [] []))]
def d__law_size : Df := { modes := [true, false, false], names := 3, body := s__law_size }
/-- _law_pick -/
def s__law_pick : List S :=
  [.asg (.v 3) (.bi .list [.var 1]),
    .ret (.bi .sorted [.lc (.mut .popAt 3 [.call 33 [.var 0, .bi .len [.var 3]] [] []]) (.v 4) (.rng1 (.bi .min [.var 2, .bi .len [.var 3]])) [] [4]])]
def d__law_pick : Df := { modes := [true, false, false], names := 5, body := s__law_pick }
/-- _law_code -/
def s__law_code : List S :=
  [.asg (.v 2) (.call 639 [.var 0, .con (.int 1), .con (.int 4)] [] []),
    .asg (.v 3) (.call 640 [.var 0, .bi .lrange [.idx (.lst [.con (.int 2), .con (.int 4), .con (.int 8), .con (.int 16)]) (.bin .Sub (.var 2) (.con (.int 1)))], .call 639 [.var 0, .con (.int 1), .var 1] [] []] [] []),
    .ret (.tup [.var 2, .var 3, .call 33 [.var 0, .idx (.lst [.con (.int 6), .con (.int 5), .con (.int 4), .con (.int 3)]) (.bin .Sub (.var 2) (.con (.int 1)))] [] []])]
def d__law_code : Df := { modes := [true, false], names := 4, body := s__law_code }
/-- _law_power -/
def s__law_power_v3 : List S :=
  [.asg (.v 1) (.con (.int 1)),
    .for_ (.v 2) (.rng1 (.var 0)) [.asg (.v 1) (.bin .Add (.var 1) (.var 1))],
    .ret (.var 1)]
def d__law_power_v3 : Df := { modes := [false], names := 3, body := s__law_power_v3 }
/-- _law_made -/
def s__law_made_v1 : List S :=
  [.asg (.v 3) (.con (.int 0)),
    .for_ (.v 4) (.e (.rev (.var 1))) [.asg (.v 3) (.bin .Mod (.bi .int [.bin .Add (.bin .Mult (.var 3) (.var 2)) (.var 4)]) (.call 642 [.var 0] [] []))],
    .ret (.var 3)]
def d__law_made_v1 : Df := { modes := [false, false, false], names := 5, body := s__law_made_v1 }
/-- _law_powers -/
def s__law_powers : List S :=
  [.asg (.v 2) (.lst [.lst []]),
    .for_ (.v 3) (.rng1 (.var 1)) [.asg (.v 4) (.lst []),
    .for_ (.v 5) (.e (.var 2)) [.asg (.v 4) (.bin .Add (.var 4) (.lc (.bin .Add (.var 5) (.lst [.var 6])) (.v 6) (.rng1 (.call 642 [.var 0] [] [])) [] [6]))],
    .asg (.v 2) (.var 4)],
    .ret (.var 2)]
def d__law_powers : Df := { modes := [false, false], names := 7, body := s__law_powers }
/-- _law_listed -/
def s__law_listed_v2 : List S :=
  [.asg (.v 3) (.dnt),
    .for_ (.v 4) (.e (.call 644 [.var 0, .var 2] [] [])) [.dput 3 (.bi .tuple [.lc (.call 643 [.var 0, .var 4, .var 5] [] []) (.v 5) (.e (.var 1)) [] [5]]) (.con (.bl true))],
    .ret (.bi .sorted [.dls 3])]
def d__law_listed_v2 : Df := { modes := [false, false, false], names := 6, body := s__law_listed_v2 }
/-- _law_same -/
def s__law_same_v2 : List S :=
  [.ret (.cmp .Eq (.bi .repr [.var 0]) (.bi .repr [.var 1]))]
def d__law_same_v2 : Df := { modes := [false, false], names := 2, body := s__law_same_v2 }
end Z
/-! OA: reading words of one width along places of another. -/
namespace Z
end Z
/-! NQ: words read along the order. -/
namespace Z
open PySem (Str Operator CmpOp)
/-- the defs that reading along reaches -/
structure GA0 (Pg : Nat → Option Df) : Prop extends GB Pg where
  h6 : Pg 6 = some d_product_at
  h635 : Pg 635 = some d_inverse_v1
  h636 : Pg 636 = some d_made_at
  h637 : Pg 637 = some d_read_along
/-- .. and more of codes.py -/
structure GA (Pg : Nat → Option Df) : Prop extends GD Pg where
  h635 : Pg 635 = some d_inverse_v1
  h636 : Pg 636 = some d_made_at
  h637 : Pg 637 = some d_read_along
theorem GA.a0 {Pg : Nat → Option Df} (G : GA Pg) : GA0 Pg := ⟨G.toGB, G.h6, G.h635, G.h636, G.h637⟩
end Z
/-! NR: the least count of words (plain), and the mirrors of read_along and least_count. -/
namespace Z
open PySem (Str Operator CmpOp)
end Z
/-! QP: how many lists of words are at a part; what parts say of one another (plain). -/
namespace Z
/-- the bits of a part -/
def Hb (w : Nat) (A : List Int) (c : Nat) : Nat := pw2 w (cnt_w w (br w A) c)
theorem wit_cwN {w c : Nat} {S it : List Int} (l : it.length = (cnt_w w (br w S) c).length) : IsCw w c S (wit w it S) := by
  have a := cnt_len w S c
  have lo := ord_len S
  have lc : it.length ≤ c := by
    rw [l]
    unfold cnt_w
    exact Nat.le_trans (List.length_filter_le _ _) (by rw [List.length_take]; omega)
  refine ⟨hor it (ord S), by rw [hor_len _ _ (by omega)]; exact lc, ?_⟩
  unfold wit
  apply List.map_congr_left
  intro x _
  rw [hor_pv _ _ _ (by omega)]
/-- as many words of codewords as items can be drawn -/
theorem cw_cnt {w c : Nat} {S : List Int} (hw : w ≤ 64) (h : Wi w S) {V : List (List Int)} (hV : Cwl w c S V) : V.length = 2 ^ Hb w S c := by
  have tk := cnt_take w S c
  have l2 := cnt_len w S c
  have hK : ∀ x ∈ (br w S).take (cnt_w w (br w S) c).length, x < (w : Int) := fun x m => by
    rw [← tk] at m
    simpa using (List.mem_filter.mp m).2
  have its : ∀ T ∈ allI w (cnt_w w (br w S) c) [[]], Its w (br w S) T ∧ T.length = (cnt_w w (br w S) c).length := fun T hT => by
    rw [tk] at hT
    obtain ⟨a, e⟩ := allI_its (br_nonneg w S) hK hT
    rw [← tk] at e
    exact ⟨a, e⟩
  have pm : V.Perm ((allI w (cnt_w w (br w S) c) [[]]).map fun it => wit w it S) := by
    have nd : ((allI w (cnt_w w (br w S) c) [[]]).map fun it => wit w it S).Nodup := by
      have n1 := allI_nodup w (cnt_w w (br w S) c) [[]] 0 (by simp) (by simp)
      refine List.Pairwise.map _ (fun _ _ h => h) (List.Pairwise.imp_of_mem (fun {a a'} ha ha' ne e => ne ?_) n1)
      exact wit_inj hw h (its a ha).1 (its a' ha').1 (by rw [(its a ha).2]; omega) (by rw [(its a ha).2, (its a' ha').2]) e
    rw [List.perm_ext_iff_of_nodup hV.1 nd]
    intro T
    rw [hV.2, List.mem_map]
    constructor
    · rintro ⟨cs, lc, eT⟩
      obtain ⟨it, l, i0, g0⟩ := its_for h cs c lc
      have eW : wit w it S = T := by rw [eT]; exact wit_wds (cs := cs) g0
      refine ⟨it, ?_, eW⟩
      have := allI_in w (cnt_w w (br w S) c) [[]] [] it (by simp) l (fun i a n ha hn => by
        obtain ⟨n', hn', ln, a0, a1⟩ := i0 i a ha
        rw [tk, List.getElem?_take, if_pos (by rw [← l]; exact (List.getElem?_eq_some_iff.mp ha).1), hn'] at hn
        cases hn
        exact ⟨a0, by rw [Int.toNat_natCast]; exact a1⟩)
      rwa [List.nil_append] at this
    · rintro ⟨it, hit, rfl⟩
      exact wit_cwN (its it hit).2
  rw [pm.length_eq, List.length_map, allI_len]
  simp [Hb]
/-- there is such a list -/
theorem cw_list {w c : Nat} {S : List Int} (hw : w ≤ 64) (h : Wi w S) : ∃ V, Cwl w c S V := by
  have tk := cnt_take w S c
  have l2 := cnt_len w S c
  have hK : ∀ x ∈ (br w S).take (cnt_w w (br w S) c).length, x < (w : Int) := fun x m => by
    rw [← tk] at m
    simpa using (List.mem_filter.mp m).2
  have its : ∀ T ∈ allI w (cnt_w w (br w S) c) [[]], Its w (br w S) T ∧ T.length = (cnt_w w (br w S) c).length := fun T hT => by
    rw [tk] at hT
    obtain ⟨a, e⟩ := allI_its (br_nonneg w S) hK hT
    rw [← tk] at e
    exact ⟨a, e⟩
  refine ⟨(allI w (cnt_w w (br w S) c) [[]]).map fun it => wit w it S, ?_, fun T => ?_⟩
  · have n1 := allI_nodup w (cnt_w w (br w S) c) [[]] 0 (by simp) (by simp)
    refine List.Pairwise.map _ (fun _ _ h => h) (List.Pairwise.imp_of_mem (fun {a a'} ha ha' ne e => ne ?_) n1)
    exact wit_inj hw h (its a ha).1 (its a' ha').1 (by rw [(its a ha).2]; omega) (by rw [(its a ha).2, (its a' ha').2]) e
  · rw [List.mem_map]
    constructor
    · rintro ⟨it, hit, rfl⟩
      exact wit_cwN (its it hit).2
    · rintro ⟨cs, lc, eT⟩
      obtain ⟨it, l, i0, g0⟩ := its_for h cs c lc
      have eW : wit w it S = T := by rw [eT]; exact wit_wds (cs := cs) g0
      refine ⟨it, ?_, eW⟩
      have := allI_in w (cnt_w w (br w S) c) [[]] [] it (by simp) l (fun i a n ha hn => by
        obtain ⟨n', hn', ln, a0, a1⟩ := i0 i a ha
        rw [tk, List.getElem?_take, if_pos (by rw [← l]; exact (List.getElem?_eq_some_iff.mp ha).1), hn'] at hn
        cases hn
        exact ⟨a0, by rw [Int.toNat_natCast]; exact a1⟩)
      rwa [List.nil_append] at this
/-- parts tell no less apart than together -/
theorem Hb_sub {w c : Nat} {X Y Z' T : List Int} (hw : w ≤ 64) (hX : Wi w X) (hY : Wi w Y) (hZ : Wi w Z') (hT : Wi w T) (mZ : ∀ x, x ∈ Z' ↔ x ∈ X ∨ x ∈ Y) (mX : ∀ x ∈ T, x ∈ X) (mY : ∀ x ∈ T, x ∈ Y) : Hb w Z' c + Hb w T c ≤ Hb w X c + Hb w Y c := by
  obtain ⟨CX, cX⟩ := cw_list (c := c) hw hX
  obtain ⟨CY, cY⟩ := cw_list (c := c) hw hY
  obtain ⟨CZ, cZ⟩ := cw_list (c := c) hw hZ
  obtain ⟨CT, cT⟩ := cw_list (c := c) hw hT
  have := cntG_sub cX cY cZ cT (fun x m => (mZ x).mp m) mX mY (fun x m => (mZ x).mpr (.inl m)) (fun x m => (mZ x).mpr (.inr m))
  rw [cw_cnt hw hX cX, cw_cnt hw hY cY, cw_cnt hw hZ cZ, cw_cnt hw hT cT, ← Nat.pow_add, ← Nat.pow_add] at this
  exact (Nat.pow_le_pow_iff_right (by decide)).mp this
/-- the bits of a part do not ask for its order -/
theorem Hb_perm {w c : Nat} {X Y : List Int} (hw : w ≤ 64) (hX : Wi w X) (hY : Wi w Y) (m : ∀ x, x ∈ X ↔ x ∈ Y) : Hb w X c = Hb w Y c := by
  have a := Hb_sub (c := c) hw hX hX hY hY (fun x => by rw [← m x]; simp) (fun x h => (m x).mpr h) (fun x h => (m x).mpr h)
  have b := Hb_sub (c := c) hw hY hY hX hX (fun x => by rw [m x]; simp) (fun x h => (m x).mp h) (fun x h => (m x).mp h)
  omega
theorem Hb_nil (w c : Nat) : Hb w [] c = 0 := by
  unfold Hb cnt_w
  rw [show br w [] = [] from List.eq_nil_of_length_eq_zero (br_len w [])]
  simp [pw2]
theorem beside_bits {w c : Nat} {K O Z' : List Int} {g0 : Int → Int} {L : List (List Int)} (hw : w ≤ 64) (hK : Wi w K) (hZ : Wi w Z') (hg0 : IsG w c g0) (hL : Beside w c K O g0 L) (mZ : ∀ x, x ∈ Z' ↔ x ∈ K ∨ x ∈ O) : L.length * 2 ^ Hb w K c = 2 ^ Hb w Z' c := by
  obtain ⟨CK, cK⟩ := cw_list (c := c) hw hK
  obtain ⟨CZ, cZ⟩ := cw_list (c := c) hw hZ
  have := beside_cnt hg0 hL cK cZ mZ
  rwa [cw_cnt hw hK cK, cw_cnt hw hZ cZ] at this
end Z
/-! QA: how many low bits of a word are told by words at other places (plain numbers). -/
namespace Z
end Z
/-! QB: the defs of k29. -/
namespace Z
open PySem (Str Operator CmpOp)
def s__law_some_v1 : List S :=
  [.ret (.lc (.var 2) (.v 2) (.e (.var 1)) [.val (.cmp .Eq (.call 33 [.var 0, .con (.int 2)] [] []) (.con (.int 0)))] [2])]
def d__law_some_v1 : Df := { modes := [true, false], names := 3, body := s__law_some_v1 }
end Z
/-! KDL: comprehensions that change the state, beside their items. -/
namespace Z
open PySem (Str Operator CmpOp)
/-- a comprehension that changes the state, beside its items -/
theorem lcL_rel {f : D → En → R (Option D)} {P : D → Option D → Prop} (Iv : Nat → En → Prop) : ∀ (l : List D) (i : Nat) (acc : List D) (r : En),
    (∀ (j : Nat) (x : D) (r : En), l[j]? = some x → Iv (i + j) r → ∃ o r', f x r = .ok o r' ∧ P x o ∧ Iv (i + j + 1) r') → Iv i r → acc.length + l.length ≤ LINE →
    ∃ (os : List (Option D)) (r' : En), lcL f l acc r = .ok (acc ++ os.filterMap id) r' ∧ os.length = l.length ∧ (∀ (j : Nat) (x : D) (o : Option D), l[j]? = some x → os[j]? = some o → P x o) ∧ Iv (i + l.length) r'
  | [], i, acc, r, _, h0, _ => ⟨[], r, by simp [lcL], rfl, by simp, h0⟩
  | x :: l, i, acc, r, h, h0, hl => by
    obtain ⟨o, r1, e1, p1, h1⟩ := h 0 x r rfl h0
    simp only [List.length_cons] at hl
    obtain ⟨os, r2, e2, n2, p2, h2⟩ := lcL_rel Iv l (i + 1) (match o with | some v => acc ++ [v] | none => acc) r1 (fun j y r q w => by
      have := h (j + 1) y r (by simpa using q) (by rw [show i + (j + 1) = i + 1 + j by omega]; exact w)
      rw [show i + (j + 1) + 1 = i + 1 + j + 1 by omega] at this
      exact this) h1 (by cases o <;> simp <;> omega)
    refine ⟨o :: os, r2, ?_, by simp [n2], ?_, ?_⟩
    · unfold lcL
      rw [e1]
      simp only [R.nox_ok, R.bind_ok]
      cases o with
      | none => simpa using e2
      | some v =>
        dsimp only
        rw [if_pos (by omega), e2]
        simp
    · intro j y o' hy ho
      cases j with
      | zero =>
        simp at hy ho
        subst hy ho
        exact p1
      | succ j => exact p2 j y o' (by simpa using hy) (by simpa using ho)
    · rw [show i + (x :: l).length = i + 1 + l.length by simp; omega]
      exact h2
theorem lc_rel {C : Cf} {e : E} {t : Tg} {it : I} {ts : List Z.T} {own : List Nat} {r r1 : En} {l : List D} {P : D → Option D → Prop} (Iv : Nat → En → Prop) (hi : evI C it r = .ok l r1) (ho : ownFree r1 own = true) (ht : (tgS t).all own.contains = true) (hl : l.length ≤ LINE)
    (h : ∀ (j : Nat) (hj : j < l.length) (r : En), Iv j r → ∃ o r', lcF t (evC C ts) (ev C e) own l[j] r = .ok o r' ∧ P l[j] o ∧ Iv (j + 1) r') (h0 : Iv 0 (wip r1 own)) :
    ∃ (os : List (Option D)) (r6 : En), os.length = l.length ∧ (∀ (j : Nat) (x : D) (o : Option D), l[j]? = some x → os[j]? = some o → P x o) ∧ Iv l.length r6 ∧ ev C (.lc e t it ts own) r = thawL r (os.filterMap id) (back r1 r6 own) := by
  obtain ⟨os, r6, e6, n6, p6, h6⟩ := lcL_rel (f := lcF t (evC C ts) (ev C e) own) (P := P) Iv l 0 [] (wip r1 own) (fun j x r q w => by
    obtain ⟨hj, rfl⟩ := List.getElem?_eq_some_iff.mp q
    rw [Nat.zero_add] at w ⊢
    exact h j hj r w) h0 (by simpa using hl)
  refine ⟨os, r6, n6, p6, by simpa using h6, ?_⟩
  rw [q_lc, hi]
  simp only [R.bind_ok]
  rw [if_pos (by rw [ho, ht]; rfl)]
  show (lcL (lcF t (evC C ts) (ev C e) own) l [] (wip r1 own)).bind _ = _
  rw [e6]
  simp only [R.bind_ok, List.nil_append]
/-- a choice of some items -/
theorem rel_sub : ∀ (l : List Int) (os : List (Option D)), os.length = (l.map D.int).length → (∀ (j : Nat) (x : D) (o : Option D), (l.map D.int)[j]? = some x → os[j]? = some o → o = none ∨ o = some x) → ∃ m : List Int, m.Sublist l ∧ os.filterMap id = m.map .int
  | [], [], _, _ => ⟨[], .slnil, rfl⟩
  | [], _ :: _, h, _ => by simp at h
  | _ :: _, [], h, _ => by simp at h
  | x :: l, o :: os, h, q => by
    obtain ⟨m, s, e⟩ := rel_sub l os (by simpa using h) fun j y o' hy ho => q (j + 1) y o' (by simpa using hy) (by simpa using ho)
    rcases q 0 (.int x) o rfl rfl with rfl | rfl
    · exact ⟨m, s.cons _, by simpa using e⟩
    · exact ⟨x :: m, s.cons₂ _, by simpa using e⟩
end Z
/-! QX: lemmas of other texts that the told bits need, gathered (so that the joined text stays small). -/
namespace Z
open PySem (Str Operator CmpOp)
theorem slc_to (l : List Int) (i : Nat) : slcD (il l) .non (.int i) = some (.ow (il (l.take i))) := by
  simp only [slcD, part?, cut_take]
theorem add_il {a b : List Int} (h : a.length + b.length ≤ 100000) : binD .Add (il a) (il b) = some (.ow (il (a ++ b))) := by
  have : (LINE : Nat) = 16777216 := rfl
  simp only [binD, List.length_map]
  rw [if_pos (by omega)]
  simp
section
variable {Pg : Nat → Option Df} {fuel k f : Nat} {C : Cf}
theorem m_rowQ (G : GB Pg) (w : Nat) (hw : w ≤ 64) (hf : 1000 ≤ fuel) (ps : List Int) (hl : ps.length ≤ 900) (h : Wi w ps) : callD Pg fuel (k + 2) 5 [il ps] = .ok (.sh (.tup [il (ord ps), il (br w ps)])) [] := by
  have e := m_good_row (fuel := fuel) (k := k) G.h4 G.h5 64 (by omega) ps (by omega) (by omega) h.1 fun p hp q hq => by
    have a1 := h.2 p hp
    have a2 := h.2 q hq
    have := (pow_le64 hw).2
    omega
  rw [← nums_br h]
  exact e
theorem m_some (h32 : Pg 32 = some d__law_hash) (h33 : Pg 33 = some d__law_random_v1) (h : Pg f = some d__law_some_v1) (m : Nat) (hm : m ≤ 900000) (g : D) (hg : Gd m g) (ps : List Int) (lp : ps.length ≤ 30) :
    ∃ (qs : List Int) (g' : D), qs.Sublist ps ∧ Gd (m + 90) g' ∧ callD Pg fuel (k + 3) f [g, il ps] = .ok (.ow (il qs)) [g'] := by
  rw [callD_eq h ⟨rfl, Nat.le_of_ble_eq_true rfl⟩]
  obtain ⟨os, r6, ln, hP, ⟨g3, y4, rfl, h4, hg3⟩, e3⟩ := lc_rel (C := Cz Pg fuel (k + 2)) (e := .var 2) (t := .v 2) (it := .e (.var 1)) (ts := [.val (.cmp .Eq (.call 33 [.var 0, .con (.int 2)] [] []) (.con (.int 0)))]) (own := [2]) (r := [.io g, .sh (il ps), .no]) (r1 := [.io g, .sh (il ps), .no]) (l := ps.map .int)
    (P := fun x o => o = none ∨ o = some x) (fun j r => ∃ g' y4, r = [.io g', .sh (il ps), y4] ∧ Pn y4 ∧ Gd (m + 3 * j) g') (by simp [itemsD]) rfl rfl (line_le (by simp; omega)) (by
    intro j hj r hr
    rw [List.length_map] at hj
    rw [List.getElem_map]
    obtain ⟨g', y4, rfl, h4, hg'⟩ := hr
    obtain ⟨c, g'', hc, hg'', e4⟩ := m_random (fuel := fuel) (k := k) h32 h33 (m + 3 * j) (by omega) g' hg' 2 (by omega)
    by_cases c0 : c = 0
    · refine ⟨some (.int ps[j]), [.io g'', .sh (il ps), .sh (.int ps[j])], ?_, .inr rfl, g'', _, rfl, .inr ⟨_, rfl⟩, hg''.mono (by omega)⟩
      rcases h4 with rfl | ⟨d, rfl⟩ <;> simp [lcF, wip, bindT, h33, d__law_random_v1, e4, hg''.shal, c0]
    · refine ⟨none, [.io g'', .sh (il ps), .sh (.int ps[j])], ?_, .inl rfl, g'', _, rfl, .inr ⟨_, rfl⟩, hg''.mono (by omega)⟩
      rcases h4 with rfl | ⟨d, rfl⟩ <;> simp [lcF, wip, bindT, h33, d__law_random_v1, e4, hg''.shal, c0]) ⟨g, .no, rfl, .inl rfl, hg⟩
  rw [List.length_map] at hg3
  obtain ⟨qs, sub, eq⟩ := rel_sub ps os ln hP
  have lq := sub.length_le
  have e5 : ev (Cz Pg fuel (k + 2)) (.lc (.var 2) (.v 2) (.e (.var 1)) [.val (.cmp .Eq (.call 33 [.var 0, .con (.int 2)] [] []) (.con (.int 0)))] [2]) [.io g, .sh (il ps), .no] = .ok (.ow (il qs)) [.io g3, .sh (il ps), .no] := by
    rw [e3, eq]
    rcases h4 with rfl | ⟨d, rfl⟩ <;> simp [thawL, thw, thw1, back, hg3.shal]
  exact ⟨qs, g3, sub, hg3.mono (by omega), by simp [d__law_some_v1, s__law_some_v1, start_eq, e5]⟩
end
end Z
/-! NS: the law's own powers, words and listings. -/
namespace Z
open PySem (Str Operator CmpOp)
/-! ### plain -/
theorem pv_mod (P x : Int) : ∀ cs : List Int, pv (cs.map (· % P)) x % P = pv cs x % P
  | [] => rfl
  | c :: cs => by
    show (c % P + x * pv (cs.map (· % P)) x) % P = (c + x * pv cs x) % P
    rw [Int.emod_add_emod, Int.add_emod c, Int.mul_emod, pv_mod P x cs, ← Int.mul_emod, ← Int.add_emod]
/-- all lists of so many numbers below a bound -/
def allP (b : Nat) : Nat → List (List Int)
  | 0 => [[]]
  | c + 1 => ext1 b (allP b c)
theorem allP_len (b : Nat) : ∀ c, (allP b c).length = b ^ c
  | 0 => by simp [allP]
  | c + 1 => by
    show (ext1 b (allP b c)).length = _
    rw [ext1_len, allP_len b c, Nat.pow_succ]
theorem allP_mem (b : Nat) : ∀ (c : Nat) (T : List Int), T ∈ allP b c ↔ T.length = c ∧ ∀ a ∈ T, 0 ≤ a ∧ a < (b : Int)
  | 0, T => by
    show T ∈ [[]] ↔ _
    rw [List.mem_singleton]
    constructor
    · rintro rfl
      exact ⟨rfl, fun _ h => (List.not_mem_nil h).elim⟩
    · intro h
      exact List.length_eq_zero_iff.mp h.1
  | c + 1, T => by
    show T ∈ ext1 b (allP b c) ↔ _
    rw [ext1_mem]
    constructor
    · rintro ⟨it, hi, m, hm, rfl⟩
      obtain ⟨l, h⟩ := (allP_mem b c it).mp hi
      refine ⟨by simp [l], fun a ha => ?_⟩
      rcases List.mem_append.mp ha with ha | ha
      · exact h a ha
      · rw [List.mem_singleton] at ha
        omega
    · rintro ⟨l, h⟩
      have hne : T ≠ [] := fun z => by rw [z] at l; cases l
      have la := h _ (List.getLast_mem hne)
      refine ⟨T.dropLast, (allP_mem b c _).mpr ⟨by simp [l], fun a ha => h a (List.dropLast_subset T ha)⟩, (T.getLast hne).toNat, by omega, ?_⟩
      rw [Int.toNat_of_nonneg la.1, List.dropLast_concat_getLast]
theorem cw_all {w c : Nat} {S T : List Int} : IsCw w c S T ↔ ∃ cs ∈ allP (2 ^ w) c, T = S.map fun x => pv cs x % 2 ^ w := by
  have pos : (0 : Int) < 2 ^ w := Int.pow_pos (by decide)
  have pc : ((2 ^ w : Nat) : Int) = 2 ^ w := by simp
  constructor
  · rintro ⟨cs, lc, rfl⟩
    refine ⟨(cs ++ List.replicate (c - cs.length) 0).map (· % 2 ^ w), (allP_mem _ _ _).mpr ⟨by simp; omega, fun a ha => ?_⟩, ?_⟩
    · obtain ⟨b, _, rfl⟩ := List.mem_map.mp ha
      rw [pc]
      exact ⟨Int.emod_nonneg _ (by omega), Int.emod_lt_of_pos _ pos⟩
    · apply List.map_congr_left
      intro x _
      rw [pv_mod, pv_pad]
  · rintro ⟨cs, hc, rfl⟩
    exact ⟨cs, by rw [((allP_mem _ _ _).mp hc).1]; exact Nat.le_refl _, rfl⟩
theorem cw_len {w c : Nat} {S T : List Int} (h : IsCw w c S T) : T.length = S.length := by
  obtain ⟨cs, _, rfl⟩ := h
  simp
theorem key_inj : ∀ {a b : List Int}, (a.map Sum.inl : List Ky) = b.map Sum.inl → a = b
  | [], [], _ => rfl
  | [], _ :: _, h => by cases h
  | _ :: _, [], h => by cases h
  | x :: a, y :: b, h => by
    simp only [List.map_cons, List.cons.injEq, Sum.inl.injEq] at h
    rw [h.1, key_inj h.2]
/-- an entry of a dict of tuples -/
theorem put_tup (L : List (List Int)) (X : List Int) (hl : L.length < 100000) : dputD (.dts (L.map fun T => (T.map Sum.inl : List Ky))) (tl X) (.bl true) = some (.dts ((if X ∈ L then L else L ++ [X]).map fun T => (T.map Sum.inl : List Ky))) := by
  simp only [dputD, tl]
  rw [if_pos (by rw [List.length_map]; exact hl), keysD_il, Option.map_some]
  by_cases c : X ∈ L
  · rw [if_pos c, if_pos]
    rw [List.any_eq_true]
    exact ⟨_, List.mem_map.mpr ⟨X, c, rfl⟩, decide_eq_true rfl⟩
  · rw [if_neg c, if_neg, List.map_append]
    · rfl
    · intro z
      obtain ⟨y, hy, e⟩ := List.any_eq_true.mp z
      obtain ⟨T, hT, rfl⟩ := List.mem_map.mp hy
      exact c (key_inj (of_decide_eq_true e) ▸ hT)
theorem tup_key (L : List (List Int)) : (L.map fun T => (T.map Sum.inl : List Ky)).map tupK = tls L := by
  rw [List.map_map]
  apply List.map_congr_left
  intro T _
  show D.tup _ = D.tup _
  rw [List.map_map]
  rfl
theorem pyTs_ints : ∀ l : List Int, pyTs (l.map D.int) = l.map PySem.PyData.int
  | [] => rfl
  | x :: l => by simp only [List.map_cons, pyTs, pyT, pyTs_ints l]
/-- tuples of numbers, sorted: the same tuples -/
theorem srt_tups (F : List (List Int)) (hn : ∀ T ∈ F, T ≠ []) : ∃ V : List (List Int), V.Perm F ∧ biD .sorted [.lst (tls F)] = some (.ow (.lst (tls V))) := by
  cases F with
  | nil =>
    refine ⟨[], .refl _, ?_⟩
    show sortF [.lst []] = _
    simp [sortF, Z.intsD, sortI]
  | cons T F =>
    have e1 : intsD (tls (T :: F)) = none := rfl
    have l1 : ∀ F : List (List Int), lays (tls F) = true := fun F => by
      induction F with
      | nil => rfl
      | cons T F ih => simp only [tls, List.map_cons, lays, lay, lays_il, Bool.true_and] at ih ⊢; exact ih
    have l2 : ∀ F : List (List Int), deps (tls F) ≤ 1 := fun F => by
      induction F with
      | nil => simp [deps]
      | cons T F ih => simp only [tls, List.map_cons, deps, dep, deps_il] at ih ⊢; omega
    have ok : okq (.lst (tls (T :: F))) = true := by
      have := l2 (T :: F)
      unfold okq
      rw [Bool.and_eq_true, decide_eq_true_eq]
      refine ⟨by simp only [lay]; exact l1 _, ?_⟩
      simp only [dep]
      omega
    have e2 : srtOk (tls (T :: F)) = true := by
      unfold srtOk
      rw [Bool.and_eq_true, Bool.and_eq_true]
      refine ⟨⟨ok, ?_⟩, ?_⟩
      · rw [List.all_eq_true]
        intro x hx
        obtain ⟨a, _, rfl⟩ := List.mem_map.mp hx
        rw [List.all_eq_true]
        intro y hy
        obtain ⟨b, _, rfl⟩ := List.mem_map.mp hy
        simp only [pyT, pyTs_ints, PySem.W.alike]
        exact PySem.W.alike_ints a b
      · rw [Bool.or_eq_true]
        left
        rw [List.all_eq_true]
        intro x hx
        obtain ⟨a, ha, rfl⟩ := List.mem_map.mp hx
        cases a with
        | nil => exact absurd rfl (hn _ ha)
        | cons _ _ => rfl
    have pm := List.mergeSort_perm (tls (T :: F)) (PySem.W.dataLe false pyT)
    have inv : ∀ (l : List D), (∀ x ∈ l, ∃ a : List Int, x = tl a) → ∃ V : List (List Int), l = tls V := by
      intro l
      induction l with
      | nil => exact fun _ => ⟨[], rfl⟩
      | cons x l ih =>
        intro h
        obtain ⟨a, rfl⟩ := h x List.mem_cons_self
        obtain ⟨V, rfl⟩ := ih fun y hy => h y (List.mem_cons_of_mem _ hy)
        exact ⟨a :: V, rfl⟩
    obtain ⟨V, hV⟩ := inv _ fun x hx => by
      obtain ⟨a, _, rfl⟩ := List.mem_map.mp (pm.mem_iff.mp hx)
      exact ⟨a, rfl⟩
    rw [hV] at pm
    have pm2 : V.Perm (T :: F) := by
      have := pm.map fun d => match d with | D.tup l => (intsD l).getD [] | _ => []
      have e3 : ∀ G : List (List Int), (tls G).map (fun d => match d with | D.tup l => (intsD l).getD [] | _ => []) = G := fun G => by
        induction G with
        | nil => rfl
        | cons A G ih => simp only [tls, tl, List.map_cons, ints_map, Option.getD_some] at ih ⊢; rw [ih]
      rw [e3, e3] at this
      exact this
    refine ⟨V, pm2, ?_⟩
    show sortF [.lst (tls (T :: F))] = _
    simp only [sortF, e1, e2, if_true, hV]
section
variable {Pg : Nat → Option Df} {fuel k f : Nat} {C : Cf}
theorem m_power3 (h : Pg f = some d__law_power_v3) (n : Nat) (hn : n ≤ 100000) : callD Pg fuel (k + 1) f [.int n] = .ok (.sh (.int (2 ^ n))) [] := by
  rw [callD_eq h ⟨rfl, Nat.le_of_ble_eq_true rfl⟩]
  have er := rng1_eq (C := Cz Pg fuel k) (b := .var 0) (r := [.sh (.int n), .sh (.int 1), .no]) (r2 := [.sh (.int n), .sh (.int 1), .no]) (y := .inl 0) (j := n) (by simp) (by simp) (by omega)
  obtain ⟨r', e', y, rfl, hy⟩ := for_run (t := .v 2) (body := [.asg (.v 1) (.bin .Add (.var 1) (.var 1))]) (fun i r => ∃ (y : Sl), r = [.sh (.int n), .sh (.int (2 ^ i)), y] ∧ Pn y) er (by
    intro j hj r hr
    rw [rng0_len] at hj
    rw [rng0_get]
    obtain ⟨y, rfl, hy⟩ := hr
    have eX : (2 : Int) ^ (j + 1) = 2 ^ j + 2 ^ j := by rw [Int.pow_succ]; omega
    refine ⟨_, ?_, .sh (.int j), rfl, .inr ⟨_, rfl⟩⟩
    rw [eX]
    generalize (2 : Int) ^ j = q
    rcases hy with rfl | ⟨d, rfl⟩ <;> simp [bindT]) ⟨.no, rfl, .inl rfl⟩
  rw [rng0_len] at e'
  simp [-q_for, d__law_power_v3, s__law_power_v3, start_eq, e']
theorem m_made1 (h642 : Pg 642 = some d__law_power_v3) (h : Pg f = some d__law_made_v1) (w : Nat) (hw : w ≤ 64) (cs : List Int) (x : Int) (hx : x.natAbs < 2 ^ 1000) : callD Pg fuel (k + 2) f [.int w, il cs, .int x] = .ok (.sh (.int (pv cs x % 2 ^ w))) [] := by
  rw [callD_eq h ⟨rfl, Nat.le_of_ble_eq_true rfl⟩]
  obtain ⟨P1, P2⟩ := pow_le64 hw
  have e2 := m_power3 (fuel := fuel) (k := k) h642 w (by omega)
  generalize (2 : Int) ^ w = P at *
  have eM : ∀ y, binI .Mod y P = some (y % P) := fun y => bI_mod (by omega)
  obtain ⟨r', e', y4, rfl, h4⟩ := for_run (C := Cz Pg fuel (k + 1)) (t := .v 4) (it := .e (.rev (.var 1))) (body := [.asg (.v 3) (.bin .Mod (.bi .int [.bin .Add (.bin .Mult (.var 3) (.var 2)) (.var 4)]) (.call 642 [.var 0] [] []))]) (r := [.sh (.int w), .sh (il cs), .sh (.int x), .sh (.int 0), .no]) (r1 := [.sh (.int w), .sh (il cs), .sh (.int x), .sh (.int 0), .no]) (l := cs.reverse.map .int)
    (fun j r => ∃ y4, r = [.sh (.int w), .sh (il cs), .sh (.int x), .sh (.int (pv (cs.drop (cs.length - j)) x % P)), y4] ∧ Pn y4) (by simp [revD, itemsD]) (by
      intro j hj r hr
      obtain ⟨y4, rfl, h4⟩ := hr
      have hj2 : j < cs.length := by simpa using hj
      have hj3 : cs.length - 1 - j < cs.length := by omega
      have ex : (cs.reverse.map D.int)[j] = .int cs[cs.length - 1 - j] := by simp
      have d1 : cs.drop (cs.length - (j + 1)) = cs[cs.length - 1 - j] :: cs.drop (cs.length - j) := by
        rw [show cs.length - (j + 1) = cs.length - 1 - j by omega, List.drop_eq_getElem_cons hj3, show cs.length - 1 - j + 1 = cs.length - j by omega]
      rw [ex, d1]
      generalize cs[cs.length - 1 - j] = a at *
      have st : pv (a :: cs.drop (cs.length - j)) x % P = (pv (cs.drop (cs.length - j)) x % P * x + a) % P := by
        show (a + x * _) % P = _
        rw [Int.add_comm, Int.mul_comm, Int.add_emod, Int.mul_emod, ← Int.emod_emod_of_dvd (pv (cs.drop (cs.length - j)) x) (Int.dvd_refl P), ← Int.mul_emod, ← Int.add_emod, Int.emod_emod_of_dvd _ (Int.dvd_refl P)]
      rw [st]
      have b1 := Int.emod_nonneg (pv (cs.drop (cs.length - j)) x) (show P ≠ 0 by omega)
      have b2 := Int.emod_lt_of_pos (pv (cs.drop (cs.length - j)) x) (show 0 < P by omega)
      generalize pv (cs.drop (cs.length - j)) x % P = q at *
      have n65 : 2 ^ 65 > 18446744073709551616 := by decide
      have em : binI .Mult q x = some (q * x) := bI_mul 65 1000 (by omega) hx (by decide)
      generalize q * x = qx at *
      generalize il cs = X at *
      refine ⟨_, ?_, .sh (.int a), rfl, .inr ⟨_, rfl⟩⟩
      rcases h4 with rfl | ⟨d, rfl⟩ <;> simp [bindT, em, h642, d__law_power_v3, e2, eM]) ⟨.no, by simp [pv], .inl rfl⟩
  rw [List.length_map, List.length_reverse, Nat.sub_self, List.drop_zero] at e'
  generalize pv cs x % P = q at *
  generalize il cs = X at *
  rcases h4 with rfl | ⟨d, rfl⟩ <;> simp [-q_for, d__law_made_v1, s__law_made_v1, start_eq, e']
/-- the inner loop of all powers -/
theorem powers_inner (h642 : Pg 642 = some d__law_power_v3) (w : Nat) (hw : w ≤ 64) (c : Nat) (F : List (List Int)) (hF : F.length * 2 ^ w ≤ 65536) (lF : ∀ T ∈ F, T.length ≤ 60) (y2 y3 y5 : Sl) (h2 : y2 = .ow (.lst (ils F)) ∨ y2 = .sh (.lst (ils F))) (h3 : Pn y3) (h5 : Pn y5) :
    ∃ z5, Pn z5 ∧ x1 (Cz Pg fuel (k + 1)) (.for_ (.v 5) (.e (.var 2)) [.asg (.v 4) (.bin .Add (.var 4) (.lc (.bin .Add (.var 5) (.lst [.var 6])) (.v 6) (.rng1 (.call 642 [.var 0] [] [])) [] [6]))]) [.sh (.int w), .sh (.int c), y2, y3, .ow (.lst []), y5, .no] =
      .nx [.sh (.int w), .sh (.int c), .sh (.lst (ils F)), y3, .ow (.lst (ils (ext1 (2 ^ w) F))), z5, .no] := by
  have e1 := m_power3 (fuel := fuel) (k := k) h642 w (by omega)
  have pc : (2 : Int) ^ w = ((2 ^ w : Nat) : Int) := by simp
  have pos : 0 < 2 ^ w := Nat.pow_pos (by decide)
  have lF0 : F.length ≤ 65536 ∧ (0 < F.length → 2 ^ w ≤ 65536) := by
    have a1 : F.length ≤ F.length * 2 ^ w := Nat.le_mul_of_pos_right _ pos
    exact ⟨by omega, fun z => by
      have a2 : 2 ^ w ≤ F.length * 2 ^ w := Nat.le_mul_of_pos_left _ z
      omega⟩
  rw [pc] at e1
  generalize 2 ^ w = b at *
  have l1 : (1 : Nat) ≤ LINE := by decide
  obtain ⟨r', e', z5, rfl, k5⟩ := for_run (C := Cz Pg fuel (k + 1)) (t := .v 5) (it := .e (.var 2)) (body := [.asg (.v 4) (.bin .Add (.var 4) (.lc (.bin .Add (.var 5) (.lst [.var 6])) (.v 6) (.rng1 (.call 642 [.var 0] [] [])) [] [6]))]) (r := [.sh (.int w), .sh (.int c), y2, y3, .ow (.lst []), y5, .no]) (r1 := [.sh (.int w), .sh (.int c), .sh (.lst (ils F)), y3, .ow (.lst []), y5, .no]) (l := ils F)
    (fun i r => ∃ y5, r = [.sh (.int w), .sh (.int c), .sh (.lst (ils F)), y3, .ow (.lst (ils (ext1 b (F.take i)))), y5, .no] ∧ Pn y5) (by rcases h2 with rfl | rfl <;> simp [itemsD]) (by
      intro i hi r hr
      obtain ⟨y5, rfl, h5⟩ := hr
      have hi2 : i < F.length := by simpa [ils] using hi
      have ex : (ils F)[i] = il F[i] := by simp [ils]
      have lT := lF _ (List.getElem_mem hi2)
      have le1 := ext1_len b (F.take i)
      rw [List.length_take, Nat.min_eq_left (by omega)] at le1
      have bb : (i + 1) * b ≤ F.length * b := Nat.mul_le_mul (by omega) (Nat.le_refl _)
      rw [Nat.add_mul] at bb
      have b6 := lF0.2 (by omega)
      rw [ex, ext1_take b F i hi2]
      generalize F[i] = T at *
      have er := rng1_eq (C := Cz Pg fuel (k + 1)) (b := .call 642 [.var 0] [] []) (r := [.sh (.int w), .sh (.int c), .sh (.lst (ils F)), y3, .ow (.lst (ils (ext1 b (F.take i)))), .sh (il T), .no]) (r2 := [.sh (.int w), .sh (.int c), .sh (.lst (ils F)), y3, .ow (.lst (ils (ext1 b (F.take i)))), .sh (il T), .no]) (y := .inr (.int b)) (j := b) (by
        simp [h642, d__law_power_v3, e1]) (by rcases h3 with rfl | ⟨d, rfl⟩ <;> simp) (by omega)
      have lc1 : ev (Cz Pg fuel (k + 1)) (.lc (.bin .Add (.var 5) (.lst [.var 6])) (.v 6) (.rng1 (.call 642 [.var 0] [] [])) [] [6]) [.sh (.int w), .sh (.int c), .sh (.lst (ils F)), y3, .ow (.lst (ils (ext1 b (F.take i)))), .sh (il T), .no] =
          thawL [.sh (.int w), .sh (.int c), .sh (.lst (ils F)), y3, .ow (.lst (ils (ext1 b (F.take i)))), .sh (il T), .no] (ils ((List.range b).map fun m => T ++ [((m : Nat) : Int)])) [.sh (.int w), .sh (.int c), .sh (.lst (ils F)), y3, .ow (.lst (ils (ext1 b (F.take i)))), .sh (il T), .no] := by
        rw [lc_run (fun d => match d with | .int m => some (il (T ++ [m])) | _ => none) er rfl rfl (by have L : LINE = 16777216 := rfl; rw [rng0_len]; omega) (by
          intro x hx
          obtain ⟨j, hj, rfl⟩ := List.getElem_of_mem hx
          rw [rng0_get]
          refine ⟨[.sh (.int w), .sh (.int c), .sh (.lst (ils F)), y3, .ow (.lst (ils (ext1 b (F.take i)))), .sh (il T), .sh (.int j)], ?_, rfl⟩
          have ll : T.length + (0 + 1) ≤ LINE := line_le (by omega)
          simp [lcF, wip, bindT, l1, ll])]
        congr 1
        rw [rng_map, List.filterMap_map, ils, List.map_map, ← List.filterMap_eq_map]
        rfl
      have tl : thawL [.sh (.int w), .sh (.int c), .sh (.lst (ils F)), y3, .ow (.lst (ils (ext1 b (F.take i)))), .sh (il T), .no] (ils ((List.range b).map fun m => T ++ [((m : Nat) : Int)])) [.sh (.int w), .sh (.int c), .sh (.lst (ils F)), y3, .ow (.lst (ils (ext1 b (F.take i)))), .sh (il T), .no] =
          .ok (.ow (.lst (ils ((List.range b).map fun m => T ++ [((m : Nat) : Int)])))) [.sh (.int w), .sh (.int c), .sh (.lst (ils F)), y3, .ow (.lst (ils (ext1 b (F.take i)))), .sh (il T), .no] := by
        have nf : (ils ((List.range b).map fun m => T ++ [((m : Nat) : Int)])).all flat = false := by
          cases b with
          | zero => omega
          | succ b => simp [ils, List.range_succ_eq_map, flat]
        unfold thawL
        rw [nf]
        rfl
      rw [tl] at lc1
      refine ⟨_, ?_, .sh (il T), rfl, .inr ⟨_, rfl⟩⟩
      have ln : (ils (ext1 b (F.take i))).length + (ils ((List.range b).map fun m => T ++ [((m : Nat) : Int)])).length ≤ LINE := by
        have L : LINE = 16777216 := rfl
        simp only [ils, List.length_map, List.length_range, le1]
        omega
      have ad : ils (ext1 b (F.take i) ++ (List.range b).map fun m => T ++ [((m : Nat) : Int)]) = ils (ext1 b (F.take i)) ++ ils ((List.range b).map fun m => T ++ [((m : Nat) : Int)]) := by simp [ils]
      rw [ad]
      generalize ils ((List.range b).map fun m => T ++ [((m : Nat) : Int)]) = A at *
      generalize ils (ext1 b (F.take i)) = B at *
      rcases h5 with rfl | ⟨d, rfl⟩ <;> simp [bindT, lc1, ln]) ⟨y5, by simp [ext1, ils], h5⟩
  have lt : (ils F).length = F.length := by simp [ils]
  rw [lt, List.take_of_length_le (Nat.le_refl _)] at e'
  exact ⟨z5, k5, e'⟩
theorem m_powers (h642 : Pg 642 = some d__law_power_v3) (h : Pg f = some d__law_powers) (w : Nat) (hw : w ≤ 64) (c : Nat) (hc : c ≤ 60) (hb : (2 ^ w) ^ c ≤ 65536) :
    ∃ v : Val, v.d = .lst (ils (allP (2 ^ w) c)) ∧ callD Pg fuel (k + 2) f [.int w, .int c] = .ok v [] := by
  rw [callD_eq h ⟨rfl, Nat.le_of_ble_eq_true rfl⟩]
  have pos : 0 < 2 ^ w := Nat.pow_pos (by decide)
  have er := rng1_eq (C := Cz Pg fuel (k + 1)) (b := .var 1) (r := [.sh (.int w), .sh (.int c), .ow (.lst [.lst []]), .no, .no, .no, .no]) (r2 := [.sh (.int w), .sh (.int c), .ow (.lst [.lst []]), .no, .no, .no, .no]) (y := .inl 1) (j := c) (by simp) (by simp) (by omega)
  obtain ⟨r', e', y2, y3, y4, y5, rfl, h2, h3, h4, h5⟩ := for_run (t := .v 3) (body := [.asg (.v 4) (.lst []),
    .for_ (.v 5) (.e (.var 2)) [.asg (.v 4) (.bin .Add (.var 4) (.lc (.bin .Add (.var 5) (.lst [.var 6])) (.v 6) (.rng1 (.call 642 [.var 0] [] [])) [] [6]))],
    .asg (.v 2) (.var 4)])
    (fun j r => ∃ y2 y3 y4 y5, r = [.sh (.int w), .sh (.int c), y2, y3, y4, y5, .no] ∧ (y2 = .ow (.lst (ils (allP (2 ^ w) j))) ∨ y2 = .sh (.lst (ils (allP (2 ^ w) j)))) ∧ Pn y3 ∧ Pn y4 ∧ Pn y5) er (by
      intro j hj r hr
      rw [rng0_len] at hj
      rw [rng0_get]
      obtain ⟨y2, y3, y4, y5, rfl, h2, h3, h4, h5⟩ := hr
      have lA := allP_len (2 ^ w) (j + 1)
      have le : (2 ^ w) ^ (j + 1) ≤ (2 ^ w) ^ c := Nat.pow_le_pow_right pos (by omega)
      have lB := ext1_len (2 ^ w) (allP (2 ^ w) j)
      rw [show ext1 (2 ^ w) (allP (2 ^ w) j) = allP (2 ^ w) (j + 1) from rfl, lA] at lB
      have lT : ∀ T ∈ allP (2 ^ w) j, T.length ≤ 60 := fun T hT => by
        rw [((allP_mem _ _ _).mp hT).1]
        omega
      rw [show allP (2 ^ w) (j + 1) = ext1 (2 ^ w) (allP (2 ^ w) j) from rfl]
      generalize allP (2 ^ w) j = F at *
      obtain ⟨z5, k5, e2⟩ := powers_inner (fuel := fuel) (k := k) h642 w hw c F (by omega) lT y2 (.sh (.int j)) y5 h2 (.inr ⟨_, rfl⟩) h5
      refine ⟨[.sh (.int w), .sh (.int c), .sh (.lst (ils (ext1 (2 ^ w) F))), .sh (.int j), .sh (.lst (ils (ext1 (2 ^ w) F))), z5, .no], ?_, _, _, _, _, rfl, .inr rfl, .inr ⟨_, rfl⟩, .inr ⟨_, rfl⟩, k5⟩
      generalize ils (ext1 (2 ^ w) F) = A at *
      rcases h3 with rfl | ⟨d3, rfl⟩ <;> rcases h4 with rfl | ⟨d4, rfl⟩ <;> simp [-q_for, bindT, e2]) ⟨_, .no, .no, .no, rfl, .inl (by simp [allP, ils, il]), .inl rfl, .inl rfl, .inl rfl⟩
  rw [rng0_len] at h2
  generalize ils (allP (2 ^ w) c) = A at *
  rcases h2 with rfl | rfl
  · refine ⟨.ow (.lst A), rfl, ?_⟩
    simp [-q_for, d__law_powers, s__law_powers, start_eq, e']
  · refine ⟨.sh (.lst A), rfl, ?_⟩
    simp [-q_for, d__law_powers, s__law_powers, start_eq, e']
end
end Z
/-! NT: the law's listings and draws. -/
namespace Z
open PySem (Str Operator CmpOp)
/-- a comprehension that changes the state, with what it has made -/
theorem lcL_acc {f : D → En → R (Option D)} (Iv : List D → En → Prop) (N : Nat) (hN : N ≤ LINE) : ∀ (l acc : List D) (r : En),
    (∀ x ∈ l, ∀ (acc : List D) (r : En), acc.length < N → Iv acc r → ∃ v r', f x r = .ok (some v) r' ∧ Iv (acc ++ [v]) r') → Iv acc r → acc.length + l.length = N →
    ∃ ds r', lcL f l acc r = .ok (acc ++ ds) r' ∧ Iv (acc ++ ds) r' ∧ acc.length + ds.length = N
  | [], acc, r, _, h0, hl => ⟨[], r, by simp [lcL], by simpa using h0, by simpa using hl⟩
  | x :: l, acc, r, h, h0, hl => by
    simp only [List.length_cons] at hl
    obtain ⟨v, r1, e1, h1⟩ := h x List.mem_cons_self acc r (by omega) h0
    obtain ⟨ds, r2, e2, h2, n2⟩ := lcL_acc Iv N hN l (acc ++ [v]) r1 (fun y hy => h y (List.mem_cons_of_mem _ hy)) h1 (by simp; omega)
    refine ⟨v :: ds, r2, ?_, by simpa using h2, by simp at n2 ⊢; omega⟩
    unfold lcL
    rw [e1]
    simp only [R.nox_ok, R.bind_ok]
    rw [if_pos (by omega), e2]
    simp
theorem lc_acc {C : Cf} {e : E} {t : Tg} {it : I} {ts : List Z.T} {own : List Nat} {r r1 : En} {l : List D} (Iv : List D → En → Prop) (hi : evI C it r = .ok l r1) (ho : ownFree r1 own = true) (ht : (tgS t).all own.contains = true) (hl : l.length ≤ LINE)
    (h : ∀ x ∈ l, ∀ (acc : List D) (r : En), acc.length < l.length → Iv acc r → ∃ v r', lcF t (evC C ts) (ev C e) own x r = .ok (some v) r' ∧ Iv (acc ++ [v]) r') (h0 : Iv [] (wip r1 own)) :
    ∃ ds r6, ds.length = l.length ∧ Iv ds r6 ∧ ev C (.lc e t it ts own) r = thawL r ds (back r1 r6 own) := by
  obtain ⟨ds, r6, e6, h6, n6⟩ := lcL_acc (f := lcF t (evC C ts) (ev C e) own) Iv l.length hl l [] (wip r1 own) h h0 (by simp)
  refine ⟨ds, r6, by simpa using n6, by simpa using h6, ?_⟩
  rw [q_lc, hi]
  simp only [R.bind_ok]
  rw [if_pos (by rw [ho, ht]; rfl)]
  show (lcL (lcF t (evC C ts) (ev C e) own) l [] (wip r1 own)).bind _ = _
  rw [e6]
  simp only [R.bind_ok, List.nil_append]
theorem erase_perm {l : List Int} {i : Nat} (h : i < l.length) : ([l[i]] ++ l.eraseIdx i).Perm l := by
  show (l[i] :: l.eraseIdx i).Perm l
  rw [List.eraseIdx_eq_take_drop_succ]
  have e : l = l.take i ++ l[i] :: l.drop (i + 1) := by
    rw [← List.drop_eq_getElem_cons h, List.take_append_drop]
  conv => rhs; rw [e]
  exact List.perm_middle.symm
section
variable {Pg : Nat → Option Df} {fuel k f : Nat} {C : Cf}
theorem m_listed2 (h642 : Pg 642 = some d__law_power_v3) (h643 : Pg 643 = some d__law_made_v1) (h644 : Pg 644 = some d__law_powers) (h : Pg f = some d__law_listed_v2) (w : Nat) (hw : w ≤ 64) (S : List Int) (hS : S ≠ []) (lS : S.length ≤ 900) (hx : ∀ x ∈ S, x.natAbs < 2 ^ 1000) (c : Nat) (hc : c ≤ 60) (hb : (2 ^ w) ^ c ≤ 65536) :
    ∃ V : List (List Int), (∀ T, T ∈ V ↔ IsCw w c S T) ∧ V.Nodup ∧ V ≠ [] ∧ V.length ≤ 65536 ∧ callD Pg fuel (k + 3) f [.int w, il S, .int c] = .ok (.ow (.lst (tls V))) [] := by
  rw [callD_eq h ⟨rfl, Nat.le_of_ble_eq_true rfl⟩]
  obtain ⟨v, hv, e1⟩ := m_powers (fuel := fuel) (k := k) h642 h644 w hw c hc hb
  have lA := allP_len (2 ^ w) c
  have all := @cw_all w c S
  generalize allP (2 ^ w) c = A at *
  obtain ⟨r', e', L, y4, rfl, h4, lL, nL, mL⟩ := for_run (C := Cz Pg fuel (k + 2)) (t := .v 4) (it := .e (.call 644 [.var 0, .var 2] [] [])) (body := [.dput 3 (.bi .tuple [.lc (.call 643 [.var 0, .var 4, .var 5] [] []) (.v 5) (.e (.var 1)) [] [5]]) (.con (.bl true))]) (r := [.sh (.int w), .sh (il S), .sh (.int c), .ow (.dts []), .no, .no]) (r1 := [.sh (.int w), .sh (il S), .sh (.int c), .ow (.dts []), .no, .no]) (l := ils A)
    (fun j r => ∃ (L : List (List Int)) (y4 : Sl), r = [.sh (.int w), .sh (il S), .sh (.int c), .ow (.dts (L.map fun T => (T.map Sum.inl : List Ky))), y4, .no] ∧ Pn y4 ∧ L.length ≤ j ∧ L.Nodup ∧ ∀ T, T ∈ L ↔ ∃ cs ∈ A.take j, T = S.map fun x => pv cs x % 2 ^ w) (by simp [h644, d__law_powers, e1, hv, itemsD]) (by
      intro j hj r hr
      obtain ⟨L, y4, rfl, h4, lL, nL, mL⟩ := hr
      have hj2 : j < A.length := by simpa [ils] using hj
      have ex : (ils A)[j] = il A[j] := by simp [ils]
      rw [ex]
      have cw : ∀ x ∈ S, callD Pg fuel (k + 2) 643 [.int w, il A[j], .int x] = .ok (.sh (.int (pv A[j] x % 2 ^ w))) [] := fun x hxS => m_made1 (fuel := fuel) (k := k) h642 h643 w hw A[j] x (hx x hxS)
      have tk := List.take_succ_eq_append_getElem hj2
      generalize hT : A[j] = cs at *
      have lc1 : ev (Cz Pg fuel (k + 2)) (.lc (.call 643 [.var 0, .var 4, .var 5] [] []) (.v 5) (.e (.var 1)) [] [5]) [.sh (.int w), .sh (il S), .sh (.int c), .ow (.dts (L.map fun T => (T.map Sum.inl : List Ky))), .sh (il cs), .no] =
          .ok (.ow (il (S.map fun x => pv cs x % 2 ^ w))) [.sh (.int w), .sh (il S), .sh (.int c), .ow (.dts (L.map fun T => (T.map Sum.inl : List Ky))), .sh (il cs), .no] := by
        rw [lc_run (fun d => match d with | .int x => some (.int (pv cs x % 2 ^ w)) | _ => none) (l := S.map .int) (r1 := [.sh (.int w), .sh (il S), .sh (.int c), .ow (.dts (L.map fun T => (T.map Sum.inl : List Ky))), .sh (il cs), .no]) (by simp [itemsD]) rfl rfl (by rw [List.length_map]; exact line_le (by omega)) (by
          intro x hx2
          obtain ⟨y, hy, rfl⟩ := List.mem_map.mp hx2
          have e2 := cw y hy
          refine ⟨[.sh (.int w), .sh (il S), .sh (.int c), .ow (.dts (L.map fun T => (T.map Sum.inl : List Ky))), .sh (il cs), .sh (.int y)], ?_, by simp [wip]⟩
          show _ = R.ok (some (D.int (pv cs y % 2 ^ w))) _
          generalize pv cs y % 2 ^ w = q at *
          generalize il cs = X at *
          generalize il S = X2 at *
          simp [lcF, wip, bindT, h643, d__law_made_v1, e2])]
        refine (congrArg (fun z => thawL [.sh (.int w), .sh (il S), .sh (.int c), .ow (.dts (L.map fun T => (T.map Sum.inl : List Ky))), .sh (il cs), .no] z [.sh (.int w), .sh (il S), .sh (.int c), .ow (.dts (L.map fun T => (T.map Sum.inl : List Ky))), .sh (il cs), .no]) (look_map (fun x => pv cs x % 2 ^ w) S)).trans ?_
        generalize (S.map fun x => pv cs x % 2 ^ w) = Y
        have fl := flat_il Y
        generalize L.map (fun T => (T.map Sum.inl : List Ky)) = KK
        unfold thawL
        rw [if_pos fl]
        simp [thw, thw1, shal]
      have pt := put_tup L (S.map fun x => pv cs x % 2 ^ w) (by omega)
      refine ⟨_, ?_, if (S.map fun x => pv cs x % 2 ^ w) ∈ L then L else L ++ [S.map fun x => pv cs x % 2 ^ w], .sh (il cs), rfl, .inr ⟨_, rfl⟩, ?_, ?_, fun T => ?_⟩
      · have bt : biD .tuple [il (S.map fun x => pv cs x % 2 ^ w)] = some (.sh (tl (S.map fun x => pv cs x % 2 ^ w))) := rfl
        show _ = O.nx [.sh (.int w), .sh (il S), .sh (.int c), .ow (.dts ((if (S.map fun x => pv cs x % 2 ^ w) ∈ L then L else L ++ [S.map fun x => pv cs x % 2 ^ w]).map fun T => (T.map Sum.inl : List Ky))), .sh (il cs), .no]
        generalize tl (S.map fun x => pv cs x % 2 ^ w) = X1 at *
        generalize il (S.map fun x => pv cs x % 2 ^ w) = X2 at *
        generalize (if (S.map fun x => pv cs x % 2 ^ w) ∈ L then L else L ++ [S.map fun x => pv cs x % 2 ^ w]).map (fun T => (T.map Sum.inl : List Ky)) = KK2 at *
        generalize L.map (fun T => (T.map Sum.inl : List Ky)) = KK at *
        rcases h4 with rfl | ⟨d, rfl⟩ <;> simp [bindT, lc1, bt, pt]
      · split
        · omega
        · rw [List.length_append]
          simp
          omega
      · split
        · exact nL
        · rename_i nm
          exact List.nodup_append.mpr ⟨nL, by simp, fun a ha b hb => by simp at hb; subst hb; exact fun e => nm (e ▸ ha)⟩
      · rw [tk]
        split
        · rename_i m
          rw [mL]
          constructor
          · rintro ⟨a, ha, e⟩
            exact ⟨a, List.mem_append_left _ ha, e⟩
          · rintro ⟨a, ha, e⟩
            rcases List.mem_append.mp ha with ha | ha
            · exact ⟨a, ha, e⟩
            · rw [List.mem_singleton] at ha
              subst ha
              rw [e]
              exact (mL _).mp m
        · rw [List.mem_append, mL, List.mem_singleton]
          constructor
          · rintro (⟨a, ha, e⟩ | e)
            · exact ⟨a, List.mem_append_left _ ha, e⟩
            · exact ⟨cs, List.mem_append_right _ (by simp), e⟩
          · rintro ⟨a, ha, e⟩
            rcases List.mem_append.mp ha with ha | ha
            · exact .inl ⟨a, ha, e⟩
            · rw [List.mem_singleton] at ha
              subst ha
              exact .inr e) ⟨[], .no, by simp, .inl rfl, by simp, List.nodup_nil, by simp⟩
  have lI : (ils A).length = A.length := by simp [ils]
  rw [lI] at lL mL
  rw [List.take_of_length_le (Nat.le_refl _)] at mL
  have mL : ∀ T, T ∈ L ↔ IsCw w c S T := fun T => (mL T).trans all.symm
  obtain ⟨V, pV, eV⟩ := srt_tups L fun T hT z => by
    have := cw_len ((mL T).mp hT)
    rw [z] at this
    exact hS (List.length_eq_zero_iff.mp this.symm)
  have mV : ∀ T, T ∈ V ↔ IsCw w c S T := fun T => pV.mem_iff.trans (mL T)
  refine ⟨V, mV, pV.nodup_iff.mpr nL, fun z => ?_, by rw [pV.length_eq]; omega, ?_⟩
  · have := (mV _).mpr ⟨[], Nat.zero_le _, rfl⟩
    rw [z] at this
    cases this
  rw [← tup_key] at eV
  generalize L.map (fun T => (T.map Sum.inl : List Ky)) = KK at *
  generalize tls V = TV at *
  rcases h4 with rfl | ⟨d, rfl⟩ <;> simp [-q_for, d__law_listed_v2, s__law_listed_v2, start_eq, e', eV]
theorem m_size (h32 : Pg 32 = some d__law_hash) (h33 : Pg 33 = some d__law_random_v1) (h : Pg f = some d__law_size) (m : Nat) (hm : m ≤ 1000000) (g : D) (hg : Gd m g) (lo hi : Int) (hL : lo ≤ hi ∧ hi - lo < 1000000) :
    ∃ v g', (lo ≤ v ∧ v ≤ hi) ∧ Gd (m + 3) g' ∧ callD Pg fuel (k + 3) f [g, .int lo, .int hi] = .ok (.sh (.int v)) [g'] := by
  rw [callD_eq h ⟨rfl, Nat.le_of_ble_eq_true rfl⟩]
  obtain ⟨v, g', hv, hg', e1⟩ := m_random (fuel := fuel) (k := k) h32 h33 m hm g hg (hi - lo + 1) (by omega)
  refine ⟨lo + v, g', by omega, hg', ?_⟩
  simp [d__law_size, s__law_size, start_eq, h33, d__law_random_v1, e1, hg'.shal]
theorem m_pick (h32 : Pg 32 = some d__law_hash) (h33 : Pg 33 = some d__law_random_v1) (h : Pg f = some d__law_pick) (m : Nat) (hm : m ≤ 900000) (g : D) (hg : Gd m g) (L : List Int) (lL : L.length ≤ 900) (many : Nat) (hmo : many ≤ 60) :
    ∃ (ps : List Int) (g' : D), ps.length = min many L.length ∧ (∃ left, (ps ++ left).Perm L) ∧ ps.Pairwise (· ≤ ·) ∧ Gd (m + 3 * many) g' ∧ callD Pg fuel (k + 3) f [g, il L, .int many] = .ok (.ow (il ps)) [g'] := by
  rw [callD_eq h ⟨rfl, Nat.le_of_ble_eq_true rfl⟩]
  have bl : biD .list [il L] = some (.ow (il L)) := rfl
  have bm : biD .min [.int many, .int (L.length : Nat)] = some (.sh (.int ((min many L.length : Nat) : Int))) := by
    rw [bi_min_ii]
    congr 3
    split <;> omega
  have er := rng1_eq (C := Cz Pg fuel (k + 2)) (b := .bi .min [.var 2, .bi .len [.var 3]]) (r := [.io g, .sh (il L), .sh (.int many), .ow (il L), .no]) (r2 := [.io g, .sh (il L), .sh (.int many), .ow (il L), .no]) (y := .inr (.int ((min many L.length : Nat) : Int))) (j := ((min many L.length : Nat) : Int)) (by
    have bn : biD .len [il L] = some (.sh (.int (L.length : Nat))) := by
      have : L.length ≤ LINE := line_le (by omega)
      simp [this]
    generalize il L = X at *
    simp [-bi_min_ii, bn, bm]) (by simp) (by omega)
  obtain ⟨ds, r6, ln, ⟨g', picked, left, y4, rfl, rfl, h4, hg', pm⟩, e3⟩ := lc_acc (C := Cz Pg fuel (k + 2)) (e := .mut .popAt 3 [.call 33 [.var 0, .bi .len [.var 3]] [] []]) (t := .v 4) (ts := []) (own := [4])
    (fun acc r => ∃ (g' : D) (picked left : List Int) (y4 : Sl), acc = picked.map .int ∧ r = [.io g', .sh (il L), .sh (.int many), .ow (il left), y4] ∧ Pn y4 ∧ Gd (m + 3 * acc.length) g' ∧ (picked ++ left).Perm L) er rfl rfl (line_le (by rw [rng0_len]; omega)) (by
      intro x hx acc r ha hr
      rw [rng0_len] at ha
      obtain ⟨j, hj, rfl⟩ := List.getElem_of_mem hx
      rw [rng0_get]
      obtain ⟨g1, picked, left, y4, rfl, rfl, h4, hg1, pm⟩ := hr
      have le := pm.length_eq
      rw [List.length_append] at le
      rw [List.length_map] at ha hg1
      obtain ⟨v, g2, hv, hg2, e1⟩ := m_random (fuel := fuel) (k := k) h32 h33 (m + 3 * picked.length) (by omega) g1 hg1 (left.length : Nat) (by omega)
      obtain ⟨i, rfl⟩ : ∃ i : Nat, v = i := ⟨v.toNat, by omega⟩
      have hi : i < left.length := by omega
      have mp := mu_popAt_il (l := left) hi (line_le (by omega))
      have bn : biD .len [il left] = some (.sh (.int (left.length : Nat))) := by
        have : left.length ≤ LINE := line_le (by omega)
        simp [this]
      have lq : ∀ a b c e : Sl, lstAt [a, b, c, .ow (il left), e] 3 = true := fun _ _ _ _ => rfl
      refine ⟨.int left[i], [.io g2, .sh (il L), .sh (.int many), .ow (il (left.eraseIdx i)), .sh (.int j)], ?_, g2, picked ++ [left[i]], left.eraseIdx i, _, by simp, rfl, .inr ⟨_, rfl⟩, by rw [List.length_append, List.length_map]; exact hg2.mono (by simp; omega), ?_⟩
      · have lf : (left.eraseIdx i).length ≤ LINE := by
          have := List.length_eraseIdx_le left i
          exact line_le (by omega)
        generalize il (left.eraseIdx i) = X1 at *
        generalize left[i] = a at *
        show lcF _ _ _ _ _ [_, _, _, .ow (il left), _] = _
        generalize il left = X2 at *
        generalize il L = X3 at *
        rcases h4 with rfl | ⟨d, rfl⟩ <;> simp [lcF, wip, bindT, lq, bn, h33, d__law_random_v1, e1, hg2.shal, mp]
      · refine .trans ?_ pm
        rw [List.append_assoc]
        exact List.Perm.append_left _ (erase_perm hi)) ⟨g, [], L, .no, rfl, rfl, .inl rfl, hg, .refl _⟩
  rw [rng0_len] at ln
  rw [ln] at hg'
  rw [List.length_map] at ln
  have es := bi_sorted_il (ns := picked) (by omega)
  refine ⟨sortI picked, g', by rw [sortI_len]; exact ln, ⟨left, ?_⟩, ?_, hg'.mono (by omega), ?_⟩
  · exact ((List.mergeSort_perm _ _).append_right _).trans pm
  · exact sortI_sorted picked
  have e5 : ev (Cz Pg fuel (k + 2)) (.lc (.mut .popAt 3 [.call 33 [.var 0, .bi .len [.var 3]] [] []]) (.v 4) (.rng1 (.bi .min [.var 2, .bi .len [.var 3]])) [] [4]) [.io g, .sh (il L), .sh (.int many), .ow (il L), .no] = .ok (.ow (il picked)) [.io g', .sh (il L), .sh (.int many), .ow (il left), .no] := by
    rw [e3]
    unfold thawL
    rw [if_pos (flat_il picked)]
    have f1 : shal (il left) = true := flat_il left
    rcases h4 with rfl | ⟨d, rfl⟩ <;> simp [thw, thw1, back, hg'.shal, f1]
  generalize il (sortI picked) = X1 at *
  generalize il picked = X2 at *
  show (xs _ _ [.io g, .sh (il L), .sh (.int many), .no, .no]).cr _ = _
  generalize il left = X4 at *
  generalize il L = X3 at *
  simp [d__law_pick, s__law_pick, bl, e5, es]
end
end Z
/-! NTB: codes and listings drawn by the law. -/
namespace Z
open PySem (Str Operator CmpOp)
theorem lt_of_le {l : List Int} (h1 : l.Pairwise (· ≤ ·)) (h2 : l.Nodup) : l.Pairwise (· < ·) := List.Pairwise.imp₂ (fun a b h h' => by omega) h1 h2
section
variable {Pg : Nat → Option Df} {fuel k f : Nat} {C : Cf}
theorem m_same2 (h : Pg f = some d__law_same_v2) (a : D) (z : Str) (e : biD .repr [a] = some (.sh (.str z))) (e2 : cmpD .Eq (.str z) (.str z) = some true) : callD Pg fuel (k + 1) f [a, a] = .ok (.sh (.bl true)) [] := by
  rw [callD_eq h ⟨rfl, Nat.le_of_ble_eq_true rfl⟩]
  simp [d__law_same_v2, s__law_same_v2, start_eq, e, e2]
theorem m_code (h32 : Pg 32 = some d__law_hash) (h33 : Pg 33 = some d__law_random_v1) (h639 : Pg 639 = some d__law_size) (h640 : Pg 640 = some d__law_pick) (h641 : Pg 641 = some d__law_code) (m : Nat) (hm : m ≤ 800000) (g : D) (hg : Gd m g) (most : Nat) (hmo : 1 ≤ most ∧ most ≤ 20) :
    ∃ (w : Nat) (ps : List Int) (c : Nat) (g' : D), (1 ≤ w ∧ w ≤ 4) ∧ PlW w ps ∧ ps.length ≤ most ∧ c < 7 - w ∧ Gd (m + 80) g' ∧ callD Pg fuel (k + 4) 641 [g, .int most] = .ok (.sh (.tup [.int w, il ps, .int c])) [g'] := by
  rw [callD_eq h641 ⟨rfl, Nat.le_of_ble_eq_true rfl⟩]
  obtain ⟨v1, g1, hv1, hg1, e1⟩ := m_size (fuel := fuel) (k := k) h32 h33 h639 m (by omega) g hg 1 4 (by omega)
  obtain ⟨w, rfl⟩ : ∃ w : Nat, v1 = w := ⟨v1.toNat, by omega⟩
  obtain ⟨L, q, lL, l16, ndL, rgL, eq, eL⟩ : ∃ (L : List Int) (q : Int), L ≠ [] ∧ L.length ≤ 16 ∧ L.Nodup ∧ (∀ x ∈ L, 0 ≤ x ∧ x ≤ 2 ^ w - 1) ∧ idxD (.lst [.int 2, .int 4, .int 8, .int 16]) (.int ((w : Int) - 1)) = some (.int q) ∧ biD .lrange [.int q] = some (.ow (il L)) := by
    rcases (by omega : w = 1 ∨ w = 2 ∨ w = 3 ∨ w = 4) with rfl | rfl | rfl | rfl
    · exact ⟨ap 0 1 2, 2, by decide, by decide, by decide, by decide, rfl, bi_lrange_i (n := 2) (by decide)⟩
    · exact ⟨ap 0 1 4, 4, by decide, by decide, by decide, by decide, rfl, bi_lrange_i (n := 4) (by decide)⟩
    · exact ⟨ap 0 1 8, 8, by decide, by decide, by decide, by decide, rfl, bi_lrange_i (n := 8) (by decide)⟩
    · exact ⟨ap 0 1 16, 16, by decide, by decide, by decide, by decide, rfl, bi_lrange_i (n := 16) (by decide)⟩
  obtain ⟨v2, g2, hv2, hg2, e2⟩ := m_size (fuel := fuel) (k := k) h32 h33 h639 (m + 3) (by omega) g1 hg1 1 most (by omega)
  obtain ⟨n, rfl⟩ : ∃ n : Nat, v2 = n := ⟨v2.toNat, by omega⟩
  obtain ⟨ps, g3, lp, ⟨left, pm⟩, srt, hg3, e3⟩ := m_pick (fuel := fuel) (k := k) h32 h33 h640 (m + 6) (by omega) g2 hg2 L (by omega) n (by omega)
  have eM : idxD (.lst [.int 6, .int 5, .int 4, .int 3]) (.int ((w : Int) - 1)) = some (.int ((7 - w : Nat) : Int)) := by
    rcases (by omega : w = 1 ∨ w = 2 ∨ w = 3 ∨ w = 4) with rfl | rfl | rfl | rfl <;> rfl
  obtain ⟨v4, g4, hv4, hg4, e4⟩ := m_random (fuel := fuel) (k := k + 1) h32 h33 (m + 6 + 3 * n) (by omega) g3 hg3 ((7 - w : Nat) : Int) (by omega)
  obtain ⟨c, rfl⟩ : ∃ c : Nat, v4 = c := ⟨v4.toNat, by omega⟩
  have sub : ∀ x ∈ ps, x ∈ L := fun x hx => pm.mem_iff.mp (List.mem_append_left _ hx)
  have nd : ps.Nodup := (List.nodup_append.mp (pm.nodup_iff.mpr ndL)).1
  have ln : 0 < L.length := List.length_pos_iff.mpr lL
  have hp : PlW w ps := ⟨fun z => by rw [z] at lp; simp at lp; omega, lt_of_le srt nd, fun x hx => rgL x (sub x hx)⟩
  refine ⟨w, ps, c, g4, by omega, hp, by omega, by omega, hg4.mono (by omega), ?_⟩
  have l4 : (4 : Nat) ≤ LINE := by decide
  have l3 : (3 : Nat) ≤ LINE := by decide
  generalize il ps = X at *
  generalize il L = X2 at *
  simp [d__law_code, s__law_code, start_eq, h639, d__law_size, e1, hg1.shal, l4, l3, eq, eL, e2, hg2.shal, h640, d__law_pick, e3, hg3.shal, eM, h33, d__law_random_v1, e4, hg4.shal]
end
end Z
/-! QO: the defs of k60; the bits of parts mirrored. -/
namespace Z
open PySem (Str Operator CmpOp)
def s_bits_at_v1 : List S :=
  [.ret (.bi .sum [.lc (.bin .Sub (.var 0) (.var 3)) (.v 3) (.e (.slc (.idx (.call 5 [.var 2] [] []) (.con (.int 1))) (.con .non) (.var 1))) [.val (.cmp .Lt (.var 3) (.var 0))] [3]])]
def d_bits_at_v1 : Df := { modes := [false, false, false], names := 4, body := s_bits_at_v1 }
def s_together : List S :=
  [.ret (.srs (.lc2 (.var 2) (.v 1) (.e (.var 0)) [] (.v 2) (.e (.var 1)) [] [1, 2] [2]))]
def d_together : Df := { modes := [false], names := 3, body := s_together }
def s_part_bits : List S :=
  [.ex (.call 19 [.var 0, .var 1, .var 2] [] []),
    .ex (.call 376 [.var 1, .var 3] [] []),
    .ret (.call 671 [.var 0, .var 2, .var 3] [] [])]
def d_part_bits : Df := { modes := [false, false, false, false], names := 4, body := s_part_bits }
def s_said_bits : List S :=
  [.ex (.call 19 [.var 0, .var 1, .var 2] [] []),
    .for_ (.v 6) (.e (.lst [.var 3, .var 4, .var 5])) [.ex (.call 376 [.var 1, .var 6] [] [])],
    .asg (.v 7) (.bin .Add (.call 671 [.var 0, .var 2, .call 672 [.lst [.var 3, .var 5]] [] []] [] []) (.call 671 [.var 0, .var 2, .call 672 [.lst [.var 4, .var 5]] [] []] [] [])),
    .ret (.bin .Sub (.bin .Sub (.var 7) (.call 671 [.var 0, .var 2, .call 672 [.lst [.var 3, .var 4, .var 5]] [] []] [] [])) (.call 671 [.var 0, .var 2, .var 5] [] []))]
def d_said_bits : Df := { modes := [false, false, false, false, false, false], names := 8, body := s_said_bits }
def s_how_many_codewords_v1 : List S :=
  [.ex (.call 19 [.var 0, .var 1, .var 2] [] []),
    .ret (.call 3 [.call 211 [.var 0, .idx (.call 5 [.var 1] [] []) (.con (.int 1)), .var 2] [] []] [] [])]
def d_how_many_codewords_v1 : Df := { modes := [false, false, false], names := 3, body := s_how_many_codewords_v1 }
def s__law_part : List S :=
  [.ret (.lc (.var 2) (.v 2) (.e (.var 1)) [.val (.cmp .Eq (.call 33 [.var 0, .con (.int 2)] [] []) (.con (.int 0)))] [2])]
def d__law_part : Df := { modes := [true, false], names := 3, body := s__law_part }
def s__law_at : List S :=
  [.ret (.bi .tuple [.lc (.idx (.var 1) (.mth .index (.var 0) [.var 3])) (.v 3) (.e (.var 2)) [] [3]])]
def d__law_at : Df := { modes := [false, false, false], names := 4, body := s__law_at }
def s__law_bits_v3 : List S :=
  [.asg (.v 1) (.con (.int 0)),
    .whl (.and (.val (.cmp .Gt (.var 0) (.con (.int 1)))) (.val (.cmp .Eq (.bin .Mod (.bi .int [.var 0]) (.con (.int 2))) (.con (.int 0))))) [.par [0, 1] [.bin .FloorDiv (.var 0) (.con (.int 2)), .bin .Add (.var 1) (.con (.int 1))]],
    .ret (.ite (.val (.cmp .Eq (.var 0) (.con (.int 1)))) (.var 1) (.con .non))]
def d__law_bits_v3 : Df := { modes := [false], names := 2, body := s__law_bits_v3 }
def s__law_lists_v2 : List S :=
  [.asg (.v 3) (.dnt),
    .for_ (.v 4) (.e (.var 1)) [.dput 3 (.call 647 [.var 0, .var 4, .var 2] [] []) (.con (.bl true))],
    .ret (.dlen 3)]
def d__law_lists_v2 : Df := { modes := [false, false, false], names := 5, body := s__law_lists_v2 }
def s__law_right_v38 : List S :=
  [.asg (.t [.v 1, .v 2, .v 3]) (.call 641 [.var 0, .con (.int 5)] [] []),
    .asg (.v 4) (.call 645 [.var 1, .var 2, .var 3] [] []),
    .asg (.v 5) (.lc (.call 646 [.var 0, .var 2] [] []) (.v 15) (.rng1 (.con (.int 3))) [] [15]),
    .asg (.v 6) (.lc (.bi .list [.var 7]) (.v 7) (.e (.var 5)) [] [7]),
    .for_ (.v 7) (.e (.bin .Add (.var 5) (.lst [.lst [], .var 2]))) [.ite (.not (.val (.call 648 [.call 673 [.var 1, .bi .list [.var 2], .var 3, .bi .list [.var 7]] [] [], .call 676 [.call 677 [.var 2, .var 4, .var 7] [] []] [] []] [] []))) [.ret (.con (.bl false))] []],
    .asg (.t [.v 8, .v 9, .v 10]) (.var 6),
    .asg (.v 11) (.call 674 [.var 1, .bi .list [.var 2], .var 3, .var 8, .var 9, .var 10] [] []),
    .ite (.or (.not (.val (.isi (.var 11) .int))) (.or (.val (.cmp .Lt (.var 11) (.con (.int 0)))) (.or (.val (.cmp .NotEq (.var 6) (.var 5))) (.not (.val (.call 648 [.call 674 [.var 1, .var 2, .var 3, .var 9, .var 8, .var 10] [] [], .var 11] [] [])))))) [.ret (.con (.bl false))] [],
    .asg (.v 12) (.idx (.var 4) (.call 33 [.var 0, .bi .len [.var 4]] [] [])),
    .asg (.v 13) (.lc (.var 16) (.v 16) (.e (.var 4)) [.val (.cmp .Eq (.call 647 [.var 2, .var 16, .var 10] [] []) (.call 647 [.var 2, .var 12, .var 10] [] []))] [16]),
    .asg (.v 14) (.lc (.var 16) (.v 16) (.e (.var 13)) [.val (.cmp .Eq (.call 647 [.var 2, .var 16, .var 8] [] []) (.call 647 [.var 2, .var 12, .var 8] [] []))] [16]),
    .ret (.cmp .Eq (.call 677 [.var 2, .var 13, .var 9] [] []) (.bin .Mult (.call 677 [.var 2, .var 14, .var 9] [] []) (.call 642 [.var 11] [] [])))]
def d__law_right_v38 : Df := { modes := [true], names := 17, body := s__law_right_v38 }
def s__law_great_right_v30 : List S :=
  [.par [1, 2] [.call 639 [.var 0, .con (.int 20), .con (.int 64)] [] [], .call 33 [.var 0, .con (.int 12)] [] []],
    .asg (.v 3) (.call 640 [.var 0, .lc (.bin .Add (.bin .Mult (.con (.int 7)) (.var 15)) (.call 642 [.var 15] [] [])) (.v 15) (.rng1 (.con (.int 14))) [] [15], .call 639 [.var 0, .con (.int 4), .con (.int 9)] [] []] [] []),
    .asg (.t [.v 4, .v 5, .v 6, .v 7]) (.lc (.call 646 [.var 0, .var 3] [] []) (.v 16) (.rng1 (.con (.int 4))) [] [16]),
    .asg (.v 8) (.bi .sorted [.bin .Add (.var 6) (.lc (.var 17) (.v 17) (.e (.var 7)) [.val (.cmp .NotIn (.var 17) (.var 6))] [17])]),
    .asg (.v 9) (.call 674 [.var 1, .var 3, .var 2, .var 4, .var 5, .var 6] [] []),
    .asg (.v 10) (.bi .sorted [.bin .Add (.var 5) (.lc (.var 17) (.v 17) (.e (.var 7)) [.val (.cmp .NotIn (.var 17) (.var 5))] [17])]),
    .asg (.v 11) (.bin .Add (.call 674 [.var 1, .var 3, .var 2, .var 4, .var 7, .var 6] [] []) (.call 674 [.var 1, .var 3, .var 2, .var 4, .var 5, .var 8] [] [])),
    .ite (.or (.val (.cmp .Lt (.var 9) (.con (.int 0)))) (.or (.val (.cmp .NotEq (.call 674 [.var 1, .var 3, .var 2, .var 4, .var 10, .var 6] [] []) (.var 11))) (.val (.cmp .Lt (.var 11) (.var 9))))) [.ret (.con (.bl false))] [],
    .ite (.val (.cmp .NotEq (.call 674 [.var 1, .var 3, .var 2, .var 4, .var 4, .lst []] [] []) (.call 673 [.var 1, .var 3, .var 2, .var 4] [] []))) [.ret (.con (.bl false))] [],
    .ite (.val (.cmp .NotEq (.call 642 [.call 673 [.var 1, .var 3, .var 2, .var 3] [] []] [] []) (.call 675 [.var 1, .var 3, .var 2] [] []))) [.ret (.con (.bl false))] [],
    .asg (.v 12) (.lc (.var 17) (.v 17) (.e (.var 5)) [.val (.cmp .NotIn (.var 17) (.var 4))] [17]),
    .asg (.v 13) (.bi .sum [.lc (.bi .sum [.lc (.call 79 [.bin .Sub (.var 19) (.var 18)] [] []) (.v 19) (.e (.var 4)) [] [19]]) (.v 18) (.e (.var 12)) [] [18]]),
    .asg (.v 14) (.bi .sum [.lc (.bi .sum [.lc (.call 79 [.bin .Sub (.var 19) (.var 18)] [] []) (.v 19) (.e (.var 3)) [.val (.cmp .NotEq (.var 19) (.var 18))] [19]]) (.v 18) (.e (.var 3)) [] [18]]),
    .ret (.or (.cmp .GtE (.var 14) (.var 1)) (.cmp .Eq (.call 674 [.var 1, .var 3, .con (.int 9), .var 4, .var 12, .lst []] [] []) (.var 13)))]
def d__law_great_right_v30 : Df := { modes := [true], names := 20, body := s__law_great_right_v30 }
def s_law_v60 : List S :=
  [.for_ (.v 1) (.rng1 (.con (.int 2))) [.asg (.v 2) (.call 35 [.var 0, .var 1] [] []),
    .ite (.or (.not (.val (.call 678 [.var 2] [] []))) (.not (.val (.call 679 [.var 2] [] [])))) [.ret (.con (.bl false))] []],
    .asg (.v 3) (.lst [.con (.int 0), .con (.int 1), .con (.int 2), .con (.int 3)]),
    .asg (.v 4) (.lst [.call 673 [.con (.int 3), .var 3, .con (.int 3), .lst [.con (.int 0), .con (.int 2)]] [] [], .call 673 [.con (.int 3), .var 3, .con (.int 3), .lst []] [] [], .call 674 [.con (.int 3), .var 3, .con (.int 3), .lst [.con (.int 0)], .lst [.con (.int 2)], .lst []] [] []]),
    .asg (.v 4) (.bin .Add (.var 4) (.lst [.call 674 [.con (.int 3), .var 3, .con (.int 3), .lst [.con (.int 0)], .lst [.con (.int 3)], .lst [.con (.int 1), .con (.int 2)]] [] [], .call 674 [.con (.int 3), .var 3, .con (.int 4), .lst [.con (.int 0), .con (.int 2)], .lst [.con (.int 1), .con (.int 3)], .lst []] [] [], .call 674 [.con (.int 64), .lst [.con (.int 0), .con (.int 8)], .con (.int 2), .lst [.con (.int 0)], .lst [.con (.int 8)], .lst []] [] []])),
    .ex (.mut .append 4 [.call 673 [.con (.int 3), .var 3, .bin .Pow (.con (.int 10)) (.con (.int 29)), .lst [.con (.int 0), .con (.int 2)]] [] []]),
    .asg (.v 5) (.bi .lrange [.con (.int 64)]),
    .asg (.v 4) (.bin .Add (.var 4) (.lst [.call 673 [.con (.int 64), .lst [.con (.int 0), .bin .Pow (.con (.int 2)) (.con (.int 63))], .con (.int 2), .lst [.con (.int 0), .bin .Pow (.con (.int 2)) (.con (.int 63))]] [] [], .call 673 [.con (.int 64), .var 5, .con (.int 64), .var 5] [] []])),
    .asg (.v 4) (.bin .Add (.var 4) (.lst [.call 674 [.con (.int 64), .var 5, .con (.int 64), .slc (.var 5) (.con .non) (.con (.int 32)), .slc (.var 5) (.con (.int 32)) (.con .non), .lst []] [] [], .call 674 [.con (.int 3), .var 3, .bin .Pow (.con (.int 10)) (.con (.int 29)), .lst [.con (.int 0), .con (.int 2)], .lst [.con (.int 1), .con (.int 3)], .lst []] [] []])),
    .ret (.call 648 [.var 4, .lst [.con (.int 5), .con (.int 0), .con (.int 1), .con (.int 2), .con (.int 0), .con (.int 3), .con (.int 5), .con (.int 65), .con (.int 2272), .con (.int 992), .con (.int 0)]] [] [])]
def d_law_v60 : Df := { modes := [false], names := 6, body := s_law_v60 }
theorem q_lc2 {C : Cf} {e : E} {t t1 : Tg} {it it1 : I} {ts ts1 : List Z.T} {own own1 : List Nat} {r : En} : ev C (.lc2 e t it ts t1 it1 ts1 own own1) r = (evI C it r).bind fun l r1 => if ownFree r1 own && (tgS t).all own.contains && ((tgS t1).all own1.contains && own1.all own.contains) then
      (lcA (lcG t (evC C ts) (evI C it1) t1 (evC C ts1) (ev C e) own own1) l [] (wip r1 own)).bind fun ds r6 => thawL r ds (back r1 r6 own) else .bad := by simp only [ev] <;> rfl
/-- outer turns by what each adds -/
theorem lcA_run {f : D → List D → En → R (List D)} {own : List Nat} {b : En} (g : D → List D) : ∀ (l acc : List D) (r : En), (∀ x ∈ l, ∀ acc r, acc.length + (g x).length ≤ LINE → wip r own = b → ∃ r', f x acc r = .ok (acc ++ g x) r' ∧ wip r' own = b) → wip r own = b → acc.length + (l.flatMap g).length ≤ LINE →
    ∃ r', lcA f l acc r = .ok (acc ++ l.flatMap g) r' ∧ wip r' own = b
  | [], acc, r, _, hr, _ => ⟨r, by simp [lcA], hr⟩
  | x :: l, acc, r, h, hr, hl => by
    rw [List.flatMap_cons, List.length_append] at hl
    obtain ⟨r1, e1, h1⟩ := h x List.mem_cons_self acc r (by omega) hr
    obtain ⟨r2, e2, h2⟩ := lcA_run g l (acc ++ g x) r1 (fun y m => h y (List.mem_cons_of_mem _ m)) h1 (by rw [List.length_append]; omega)
    refine ⟨r2, ?_, h2⟩
    unfold lcA
    rw [e1]
    simp only [R.nox_ok, R.bind_ok]
    rw [e2, List.flatMap_cons, List.append_assoc]
section
variable {Pg : Nat → Option Df} {fuel k f : Nat} {C : Cf}
theorem m_together (h : Pg f = some d_together) (F : List (List Int)) (lF : F.flatten.length ≤ 200) : callD Pg fuel (k + 1) f [.lst (ils F)] = .ok (.ow (il (sdI F.flatten))) [] := by
  rw [callD_eq h ⟨rfl, Nat.le_of_ble_eq_true rfl⟩]
  have b64 : 1000 ≤ LINE := line_le (Nat.le_refl _)
  have fm : (ils F).flatMap (fun d => match d with | D.lst l => l | _ => []) = F.flatten.map .int := by
    clear lF
    induction F with
    | nil => rfl
    | cons T F ih => simp only [ils, List.map_cons, List.flatMap_cons, List.flatten_cons, List.map_append] at ih ⊢; rw [ih]
  obtain ⟨r6, e6, h6⟩ := lcA_run (f := lcG (.v 1) (evC (Cz Pg fuel k) []) (evI (Cz Pg fuel k) (.e (.var 1))) (.v 2) (evC (Cz Pg fuel k) []) (ev (Cz Pg fuel k) (.var 2)) [1, 2] [2]) (own := [1, 2]) (b := [.sh (.lst (ils F)), .no, .no])
    (fun d => match d with | D.lst l => l | _ => []) (ils F) [] [.sh (.lst (ils F)), .no, .no] (by
      intro x hx acc r hl hr
      obtain ⟨T, hT, rfl⟩ := List.mem_map.mp hx
      have hl : acc.length + (T.map D.int).length ≤ LINE := hl
      obtain ⟨r7, e7, h7⟩ := lcL_run (f := lcF (.v 2) (evC (Cz Pg fuel k) []) (ev (Cz Pg fuel k) (.var 2)) [2]) (own := [2]) (b := [.sh (.lst (ils F)), .sh (il T), .no]) (fun d => some d) (T.map .int) acc [.sh (.lst (ils F)), .sh (il T), .no] (by
        intro y hy r hr
        obtain ⟨q, _, rfl⟩ := List.mem_map.mp hy
        refine ⟨[.sh (.lst (ils F)), .sh (il T), .sh (.int q)], ?_, rfl⟩
        unfold lcF
        rw [hr]
        generalize D.lst (ils F) = XF
        generalize il T = XT
        simp [bindT]) rfl hl
      refine ⟨r7, ?_, ?_⟩
      · unfold lcG
        rw [hr]
        have e8 : evI (Cz Pg fuel k) (.e (.var 1)) [.sh (.lst (ils F)), .sh (il T), .no] = .ok (T.map .int) [.sh (.lst (ils F)), .sh (il T), .no] := by
          generalize D.lst (ils F) = XF
          simp [itemsD]
        have e9 : List.filterMap (fun d : D => some d) (T.map D.int) = T.map D.int := by simp
        rw [e9] at e7
        have b1 : bindT (.v 1) (il T) [.sh (.lst (ils F)), .no, .no] = some [.sh (.lst (ils F)), .sh (il T), .no] := by
          generalize D.lst (ils F) = XF
          generalize il T = XT
          simp [bindT]
        have ec : ∀ r : En, evC (Cz Pg fuel k) [] r = .ok true r := fun r => by simp only [evC]
        rw [b1]
        simp only [R.of_some, R.bind_ok]
        rw [ec, R.bind_ok, if_pos rfl, e8, R.bind_ok]
        exact e7
      · have := h7
        have e : wip r7 [1, 2] = (wip r7 [2]).set 1 .no := rfl
        rw [e, h7]
        rfl) rfl (by
        rw [fm]
        simp only [List.length_nil, List.length_map]
        omega)
  rw [fm, List.nil_append] at e6
  have el : ev (Cz Pg fuel k) (.lc2 (.var 2) (.v 1) (.e (.var 0)) [] (.v 2) (.e (.var 1)) [] [1, 2] [2]) [.sh (.lst (ils F)), .no, .no] = .ok (.ow (il F.flatten)) [.sh (.lst (ils F)), .no, .no] := by
    rw [q_lc2]
    have e8 : evI (Cz Pg fuel k) (.e (.var 0)) [.sh (.lst (ils F)), .no, .no] = .ok (ils F) [.sh (.lst (ils F)), .no, .no] := by simp [itemsD]
    have cnd : (ownFree [Sl.sh (D.lst (ils F)), Sl.no, Sl.no] [1, 2] && (tgS (Tg.v 1)).all [1, 2].contains && ((tgS (Tg.v 2)).all [2].contains && [2].all [1, 2].contains)) = true := rfl
    rw [e8, R.bind_ok, if_pos cnd]
    show (lcA _ (ils F) [] [.sh (.lst (ils F)), .no, .no]).bind _ = _
    rw [e6, R.bind_ok]
    have bk : back [.sh (.lst (ils F)), .no, .no] r6 [1, 2] = [.sh (.lst (ils F)), .no, .no] := by
      have l6 : r6.length = 3 := by
        have := congrArg List.length h6
        rw [wip_len] at this
        exact this
      match r6, l6, h6 with
      | [a, b, c], _, h6 =>
        have h6 : [a, Sl.no, Sl.no] = [.sh (.lst (ils F)), .no, .no] := h6
        cases h6
        rfl
    rw [bk]
    exact thawL_self _ _
  have es : srsD (il F.flatten) = some (.ow (il (sdI F.flatten))) := by
    show (intsD _).bind _ = _
    rw [ints_map, Option.bind_some, if_pos lF]
  generalize il (sdI F.flatten) = X1 at *
  generalize il F.flatten = X2 at *
  generalize D.lst (ils F) = X3 at *
  have rv : ∀ (e : E) (r : En), retV (Cz Pg fuel k) (.srs e) r = ev (Cz Pg fuel k) (.srs e) r := fun _ _ => rfl
  simp [d_together, s_together, start_eq, rv, el, es]
theorem fm_lt (w : Int) : ∀ l : List Int, List.filterMap (fun d => match d with | D.int n => if n < w then some (D.int (w - n)) else none | _ => none) (l.map D.int) = ((l.filter fun n => decide (n < w)).map fun n => w - n).map .int
  | [] => rfl
  | n :: l => by
    have ih := fm_lt w l
    simp only [List.map_cons, List.filterMap_cons, List.filter_cons] at ih ⊢
    by_cases c : n < w
    · rw [if_pos c, decide_eq_true c, if_pos rfl, ih]
      rfl
    · rw [if_neg c, decide_eq_false c, if_neg (by decide), ih]
theorem m_bits671 (G : GB Pg) (h : Pg f = some d_bits_at_v1) (hf : 1000 ≤ fuel) (w : Nat) (hw : w ≤ 64) (A : List Int) (lA : A.length ≤ 900) (hA : Wi w A) (c : Int) (hc : 0 ≤ c) : callD Pg fuel (k + 3) f [.int w, .int c, il A] = .ok (.sh (.int (Hb w A c.toNat : Nat))) [] := by
  rw [callD_eq h ⟨rfl, Nat.le_of_ble_eq_true rfl⟩]
  have e1 := m_rowQ (fuel := fuel) (k := k) G w hw hf A lA hA
  obtain ⟨n, rfl⟩ : ∃ n : Nat, c = n := ⟨c.toNat, by omega⟩
  rw [Int.toNat_natCast]
  have t2 := slc_to (br w A) n
  have lb := br_len w A
  have i1 : ∀ a b : D, idxD (.tup [a, b]) (.int 1) = some b := fun _ _ => rfl
  have e : ev (Cz Pg fuel (k + 2)) (.lc (.bin .Sub (.var 0) (.var 3)) (.v 3) (.e (.slc (.idx (.call 5 [.var 2] [] []) (.con (.int 1))) (.con .non) (.var 1))) [.val (.cmp .Lt (.var 3) (.var 0))] [3]) [.sh (.int w), .sh (.int n), .sh (il A), .no] = .ok (.ow (il ((cnt_w w (br w A) n).map fun x => (w : Int) - x))) [.sh (.int w), .sh (.int n), .sh (il A), .no] := by
    rw [lc_run (fun d => match d with | .int x => if x < (w : Int) then some (.int ((w : Int) - x)) else none | _ => none) (l := ((br w A).take n).map .int) (r1 := [.sh (.int w), .sh (.int n), .sh (il A), .no]) ?a rfl rfl (line_le (by simp; omega)) ?hh]
    · rw [fm_lt]
      exact thawL_self _ _
    · have itm : itemsD (il ((br w A).take n)) = some (((br w A).take n).map .int) := rfl
      generalize il ((br w A).take n) = X1 at *
      generalize il (br w A) = X2 at *
      generalize il (ord A) = X3 at *
      generalize il A = X4 at *
      simp [G.h5, d_good_row, e1, i1, t2, itm, por, isNon]
    · intro x hx
      obtain ⟨m, hm, rfl⟩ := List.mem_map.mp hx
      refine ⟨[.sh (.int w), .sh (.int n), .sh (il A), .sh (.int m)], ?_, rfl⟩
      show _ = R.ok (if m < (w : Int) then some (D.int ((w : Int) - m)) else none) _
      generalize il A = X4 at *
      by_cases c1 : m < (w : Int) <;> simp [lcF, wip, bindT, c1]
  have es : biD .sum [il ((cnt_w w (br w A) n).map fun x => (w : Int) - x)] = some (.sh (.int (Hb w A n : Nat))) := by
    unfold Hb
    rw [pw2_sum w _ fun x hx => by
      have hx : x ∈ ((br w A).take n).filter fun n => decide (n < (w : Int)) := hx
      obtain ⟨m1, m2⟩ := List.mem_filter.mp hx
      exact ⟨br_nonneg w A x (List.mem_of_mem_take m1), of_decide_eq_true m2⟩]
    exact bi_sum_il
  generalize il ((cnt_w w (br w A) n).map fun x => (w : Int) - x) = X1 at *
  generalize il A = X2 at *
  simp [d_bits_at_v1, s_bits_at_v1, start_eq, e, es]
end
end Z
/-! QQ: what parts say, mirrored. -/
namespace Z
open PySem (Str Operator CmpOp)
theorem sd_mem (l : List Int) (x : Int) : x ∈ sdI l ↔ x ∈ l := (sortI_perm _).mem_iff.trans (nub_mem l x)
theorem sd_lt (l : List Int) : (sdI l).Pairwise (· < ·) := sort_lt (nub_nodup l)
theorem sd_wi {w : Nat} {S l : List Int} (h : Wi w S) (m : ∀ x ∈ l, x ∈ S) : Wi w (sdI l) :=
  ⟨(sd_lt l).imp fun h => Int.ne_of_lt h, fun x hx => h.2 x (m x ((sd_mem l x).mp hx))⟩
theorem nub_len : ∀ l : List Int, (nubI l).length ≤ l.length
  | [] => Nat.le_refl _
  | x :: l => by
    unfold nubI
    have := nub_len l
    split
    · rw [List.length_cons]; omega
    · simp only [List.length_cons]; omega
theorem sd_len (l : List Int) : (sdI l).length ≤ l.length := by
  unfold sdI
  rw [sortI_len]
  exact nub_len l
/-- what one part says of another one, to whoever knows a third -/
def saidF (w c : Nat) (A B K : List Int) : Int := (Hb w (sdI (A ++ K)) c : Int) + Hb w (sdI (B ++ K)) c - Hb w (sdI (A ++ (B ++ K))) c - Hb w K c
structure G60 (Pg : Nat → Option Df) : Prop where
  b : GB Pg
  h2 : Pg 2 = some d_check_number
  h19 : Pg 19 = some d_check_code
  h376 : Pg 376 = some d_check_part_v1
  h671 : Pg 671 = some d_bits_at_v1
  h672 : Pg 672 = some d_together
  h673 : Pg 673 = some d_part_bits
  h674 : Pg 674 = some d_said_bits
section
variable {Pg : Nat → Option Df} {fuel k f : Nat} {C : Cf}
theorem m_part_bits (G : G60 Pg) (hf : 1000 ≤ fuel) (w : Nat) (hw : 1 ≤ w ∧ w ≤ 64) (S A : List Int) (hS : PlW w S) (lS : S.length ≤ 900) (sub : A.Sublist S) (c : Int) (hc : 0 ≤ c) :
    callD Pg fuel (k + 7) 673 [.int w, il S, .int c, il A] = .ok (.sh (.int (Hb w A c.toNat : Nat))) [] := by
  rw [callD_eq G.h673 ⟨rfl, Nat.le_of_ble_eq_true rfl⟩]
  have lA := sub.length_le
  have e1 := m_check_code (fuel := fuel) (k := k) G.b G.h2 G.h19 w hw S lS hS c hc
  have e2 := m_check_part (fuel := fuel) (k := k + 4) G.b G.h376 S A (by omega) (fun x hx => sub.subset hx) (hS.2.1.sublist sub)
  have e3 := m_bits671 (fuel := fuel) (k := k + 3) G.b G.h671 hf w hw.2 A (by omega) ⟨hS.wi.1.sublist sub, fun x hx => hS.wi.2 x (sub.subset hx)⟩ c hc
  simp [d_part_bits, s_part_bits, start_eq, G.h19, G.h376, G.h671, d_check_code, d_check_part_v1, d_bits_at_v1, e1, e2, e3]
theorem m_said (G : G60 Pg) (hf : 1000 ≤ fuel) (w : Nat) (hw : 1 ≤ w ∧ w ≤ 64) (S A B K : List Int) (hS : PlW w S) (lS : S.length ≤ 900) (sA : A.Sublist S) (sB : B.Sublist S) (sK : K.Sublist S) (l64 : A.length + B.length + K.length ≤ 100) (c : Int) (hc : 0 ≤ c) :
    callD Pg fuel (k + 7) 674 [.int w, il S, .int c, il A, il B, il K] = .ok (.sh (.int (saidF w c.toNat A B K))) [] := by
  rw [callD_eq G.h674 ⟨rfl, Nat.le_of_ble_eq_true rfl⟩]
  have lA := sA.length_le
  have lB := sB.length_le
  have lK := sK.length_le
  have e1 := m_check_code (fuel := fuel) (k := k) G.b G.h2 G.h19 w hw S lS hS c hc
  have pa := m_check_part (fuel := fuel) (k := k + 4) G.b G.h376 S A (by omega) (fun x hx => sA.subset hx) (hS.2.1.sublist sA)
  have pb := m_check_part (fuel := fuel) (k := k + 4) G.b G.h376 S B (by omega) (fun x hx => sB.subset hx) (hS.2.1.sublist sB)
  have pk := m_check_part (fuel := fuel) (k := k + 4) G.b G.h376 S K (by omega) (fun x hx => sK.subset hx) (hS.2.1.sublist sK)
  have wi : ∀ L : List Int, (∀ x ∈ L, x ∈ S) → Wi w (sdI L) := fun L h => sd_wi hS.wi h
  have mA : ∀ x ∈ A, x ∈ S := fun x hx => sA.subset hx
  have mB : ∀ x ∈ B, x ∈ S := fun x hx => sB.subset hx
  have mK : ∀ x ∈ K, x ∈ S := fun x hx => sK.subset hx
  have one : ∀ L : List Int, (∀ x ∈ L, x ∈ S) → L.length ≤ 200 → callD Pg fuel (k + 6) 671 [.int w, .int c, il (sdI L)] = .ok (.sh (.int (Hb w (sdI L) c.toNat : Nat))) [] := fun L h l => by
    have := sd_len L
    exact m_bits671 (fuel := fuel) (k := k + 3) G.b G.h671 hf w hw.2 (sdI L) (by omega) (wi L h) c hc
  have t1 := m_together (fuel := fuel) (k := k + 5) G.h672 [A, K] (by simp; omega)
  have t2 := m_together (fuel := fuel) (k := k + 5) G.h672 [B, K] (by simp; omega)
  have t3 := m_together (fuel := fuel) (k := k + 5) G.h672 [A, B, K] (by simp; omega)
  rw [show [A, K].flatten = A ++ K by simp] at t1
  rw [show [B, K].flatten = B ++ K by simp] at t2
  rw [show [A, B, K].flatten = A ++ (B ++ K) by simp] at t3
  have o1 := one (A ++ K) (fun x hx => (List.mem_append.mp hx).elim (mA x) (mK x)) (by simp; omega)
  have o2 := one (B ++ K) (fun x hx => (List.mem_append.mp hx).elim (mB x) (mK x)) (by simp; omega)
  have o3 := one (A ++ (B ++ K)) (fun x hx => (List.mem_append.mp hx).elim (mA x) fun h => (List.mem_append.mp h).elim (mB x) (mK x)) (by simp; omega)
  have o4 := m_bits671 (fuel := fuel) (k := k + 3) G.b G.h671 hf w hw.2 K (by omega) ⟨hS.wi.1.sublist sK, fun x hx => hS.wi.2 x (mK x hx)⟩ c hc
  have t1' : callD Pg fuel (k + 6) 672 [.lst [il A, il K]] = .ok (.ow (il (sdI (A ++ K)))) [] := t1
  have t2' : callD Pg fuel (k + 6) 672 [.lst [il B, il K]] = .ok (.ow (il (sdI (B ++ K)))) [] := t2
  have t3' : callD Pg fuel (k + 6) 672 [.lst [il A, il B, il K]] = .ok (.ow (il (sdI (A ++ (B ++ K))))) [] := t3
  clear t1 t2 t3 one wi
  have l2 : 2 ≤ LINE := line_le (by omega)
  have l3 : 3 ≤ LINE := line_le (by omega)
  have fl : ∀ l : List Int, flat (il l) = false := fun _ => rfl
  have f1 := fl (sdI (A ++ K))
  have f2 := fl (sdI (B ++ K))
  have f3 := fl (sdI (A ++ (B ++ K)))
  unfold saidF
  generalize il (sdI (A ++ K)) = X1 at *
  generalize il (sdI (B ++ K)) = X2 at *
  generalize il (sdI (A ++ (B ++ K))) = X3 at *
  generalize (Hb w (sdI (A ++ K)) c.toNat : Int) = n1 at *
  generalize (Hb w (sdI (B ++ K)) c.toNat : Int) = n2 at *
  generalize (Hb w (sdI (A ++ (B ++ K))) c.toNat : Int) = n3 at *
  generalize (Hb w K c.toNat : Int) = n4 at *
  generalize il A = XA at *
  generalize il B = XB at *
  generalize il K = XK at *
  generalize il S = XS at *
  have fr : x1 (Cz Pg fuel (k + 6)) (.for_ (.v 6) (.e (.lst [.var 3, .var 4, .var 5])) [.ex (.call 376 [.var 1, .var 6] [] [])]) [.sh (.int w), .sh XS, .sh (.int c), .sh XA, .sh XB, .sh XK, .no, .no] = .nx [.sh (.int w), .sh XS, .sh (.int c), .sh XA, .sh XB, .sh XK, .sh XK, .no] := by
    simp [l3, itemsD, forL, bindT, G.h376, d_check_part_v1, pa, pb, pk]
  simp [-q_for, d_said_bits, s_said_bits, start_eq, G.h19, d_check_code, e1, fr, l2, l3, G.h672, d_together, t1', t2', t3', G.h671, d_bits_at_v1, o1, o2, o3, o4, f1, f2, f3]
end
end Z
/-! QC: the told bits mirrored. -/
namespace Z
open PySem (Str Operator CmpOp)
end Z
/-! QD: the law's good row and told bits mirrored. -/
namespace Z
open PySem (Str Operator CmpOp)
end Z
/-! QE: the law's told bits, one place. -/
namespace Z
open PySem (Str Operator CmpOp)
end Z
/-! QF: places drawn (spots_v2), some of them, small codes. -/
namespace Z
open PySem (Str Operator CmpOp)
end Z
/-! QG: all words of a small code, by a dict (all_v2). -/
namespace Z
open PySem (Str Operator CmpOp)
end Z
/-! QH: fitting rows; the least twos of rows. -/
namespace Z
open PySem (Str Operator CmpOp)
theorem mt_idx {l : List Int} {x : Int} (h : x ∈ l) : mtD .index (il l) [.int x] = some (.int (l.idxOf x : Nat)) := by
  have lt := List.idxOf_lt_length_of_mem h
  have e : indexD (.int x) (l.map .int) = some (l.idxOf x) := by
    unfold indexD
    rw [List.find?_range_eq_some]
    refine ⟨?_, by simpa using lt, fun j hj => ?_⟩
    · have : l[l.idxOf x] = x := List.getElem_idxOf lt
      simp [lt, eqv, this]
    · have hj2 : j < l.length := Nat.lt_trans hj lt
      have := List.not_of_lt_findIdx (p := (· == x)) (show j < l.findIdx (· == x) from hj)
      simp at this
      simp [hj2, eqv, this]
  simp only [mtD, flat_il, flat, Bool.and_true, if_true, e, Option.map_some]
  rfl
end Z
/-! QR: the law's own lists at parts, mirrored. -/
namespace Z
open PySem (Str Operator CmpOp)
/-- the words at a part -/
def atP (S A W : List Int) : List Int := A.map fun p => W.getD (S.idxOf p) 0
section
variable {Pg : Nat → Option Df} {fuel k f : Nat} {C : Cf}
theorem m_part646 (h32 : Pg 32 = some d__law_hash) (h33 : Pg 33 = some d__law_random_v1) (h : Pg f = some d__law_part) (m : Nat) (hm : m ≤ 900000) (g : D) (hg : Gd m g) (ps : List Int) (lp : ps.length ≤ 30) :
    ∃ (qs : List Int) (g' : D), qs.Sublist ps ∧ Gd (m + 90) g' ∧ callD Pg fuel (k + 3) f [g, il ps] = .ok (.ow (il qs)) [g'] :=
  m_some h32 h33 h m hm g hg ps lp
theorem m_at647 (h : Pg f = some d__law_at) (S A W : List Int) (lA : A.length ≤ 900) (sub : ∀ x ∈ A, x ∈ S) (lW : W.length = S.length) :
    callD Pg fuel (k + 1) f [il S, tl W, il A] = .ok (.sh (tl (atP S A W))) [] := by
  rw [callD_eq h ⟨rfl, Nat.le_of_ble_eq_true rfl⟩]
  have el : ev (Cz Pg fuel k) (.lc (.idx (.var 1) (.mth .index (.var 0) [.var 3])) (.v 3) (.e (.var 2)) [] [3]) [.sh (il S), .sh (tl W), .sh (il A), .no] = .ok (.ow (il (atP S A W))) [.sh (il S), .sh (tl W), .sh (il A), .no] := by
    rw [lc_run (r1 := [.sh (il S), .sh (tl W), .sh (il A), .no]) (l := A.map .int) (fun d => match d with | D.int p => some (D.int (W.getD (S.idxOf p) 0)) | _ => none)]
    · have q : List.filterMap (fun d => match d with | D.int p => some (D.int (W.getD (S.idxOf p) 0)) | _ => none) (A.map D.int) = (atP S A W).map .int := by
        unfold atP
        clear sub lA
        induction A with
        | nil => rfl
        | cons x l ih => simp only [List.map_cons, List.filterMap_cons, ih]
      rw [q]
      exact thawL_self _ _
    · simp [itemsD]
    · rfl
    · rfl
    · exact line_le (by simp; omega)
    · intro x hx
      obtain ⟨p, hp, rfl⟩ := List.mem_map.mp hx
      have hS := sub p hp
      have lt := List.idxOf_lt_length_of_mem hS
      have mi := mt_idx hS
      have ix : idxD (tl W) (.int (S.idxOf p : Nat)) = some (.int (W.getD (S.idxOf p) 0)) := by
        rw [List.getD_eq_getElem?_getD, List.getElem?_eq_getElem (by omega), Option.getD_some]
        exact at_il W _ (by omega)
      have lb : ∀ a b c : Sl, lstB [.sh (il S), a, b, c] (Sum.inl 0) = true := fun _ _ _ => rfl
      refine ⟨[.sh (il S), .sh (tl W), .sh (il A), .sh (.int p)], ?_, rfl⟩
      show _ = R.ok (some (D.int (W.getD (S.idxOf p) 0))) _
      generalize W.getD (S.idxOf p) 0 = v at *
      generalize tl W = XW at *
      generalize il A = XA at *
      simp [lcF, wip, bindT, lb, mi, ix]
  have bt : biD .tuple [il (atP S A W)] = some (.sh (tl (atP S A W))) := rfl
  generalize tl (atP S A W) = X1 at *
  generalize il (atP S A W) = X2 at *
  generalize il S = XS at *
  generalize il A = XA at *
  generalize tl W = XW at *
  simp [d__law_at, s__law_at, start_eq, el, bt]
theorem m_bits676 (h : Pg f = some d__law_bits_v3) (n : Nat) (hf : n + 1 ≤ fuel) (hn : n ≤ 200) : callD Pg fuel (k + 1) f [.int (2 ^ n)] = .ok (.sh (.int n)) [] := by
  rw [callD_eq h ⟨rfl, Nat.le_of_ble_eq_true rfl⟩]
  have lp : ∀ (m j q : Nat), m + 1 ≤ q → whlL (evT (Cz Pg fuel k) (.and (.val (.cmp .Gt (.var 0) (.con (.int 1)))) (.val (.cmp .Eq (.bin .Mod (.bi .int [.var 0]) (.con (.int 2))) (.con (.int 0)))))) (xs (Cz Pg fuel k) [.par [0, 1] [.bin .FloorDiv (.var 0) (.con (.int 2)), .bin .Add (.var 1) (.con (.int 1))]]) q [.sh (.int (2 ^ m)), .sh (.int j)] = .nx [.sh (.int 1), .sh (.int ((j + m : Nat) : Int))] := by
    intro m
    induction m with
    | zero =>
      intro j q hq
      obtain ⟨q, rfl⟩ : ∃ p, q = p + 1 := ⟨q - 1, by omega⟩
      rw [whlL]
      have g1 : cmpD .Gt (.int 1) (.int 1) = some false := rfl
      simp [g1]
    | succ m ih =>
      intro j q hq
      obtain ⟨q, rfl⟩ : ∃ p, q = p + 1 := ⟨q - 1, by omega⟩
      rw [whlL]
      have p0 : (0 : Int) < 2 ^ m := Int.pow_pos (by decide)
      have e2 : (2 : Int) ^ (m + 1) = 2 * 2 ^ m := by rw [Int.pow_succ, Int.mul_comm]
      have g1 : cmpD .Gt (.int (2 ^ (m + 1))) (.int 1) = some true := by
        show some (decide _) = _
        rw [decide_eq_true (by omega)]
      have eM : binI .Mod (2 ^ (m + 1)) 2 = some 0 := by rw [bI_mod (by decide)]; congr 1; omega
      have eF : binI .FloorDiv (2 ^ (m + 1)) 2 = some (2 ^ m) := by rw [bI_fdiv (by decide) (by omega)]; congr 1; omega
      have ih2 := ih (j + 1) q (by omega)
      rw [show ((j + 1 : Nat) : Int) = (j : Int) + 1 by omega, show j + 1 + m = j + (m + 1) by omega] at ih2
      generalize (2 : Int) ^ (m + 1) = a at *
      generalize (2 : Int) ^ m = b at *
      simp [g1, eM, eF, puts, ih2]
  have e := lp n 0 fuel hf
  rw [Nat.zero_add] at e
  have e2 : x1 (Cz Pg fuel k) (.whl (.and (.val (.cmp .Gt (.var 0) (.con (.int 1)))) (.val (.cmp .Eq (.bin .Mod (.bi .int [.var 0]) (.con (.int 2))) (.con (.int 0))))) [.par [0, 1] [.bin .FloorDiv (.var 0) (.con (.int 2)), .bin .Add (.var 1) (.con (.int 1))]]) [.sh (.int (2 ^ n)), .sh (.int 0)] = .nx [.sh (.int 1), .sh (.int n)] := by
    rw [q_whl]
    exact e
  have q1 : cmpD .Eq (.int 1) (.int 1) = some true := rfl
  generalize (2 : Int) ^ n = P at *
  simp [-q_whl, d__law_bits_v3, s__law_bits_v3, start_eq, e2, q1]
theorem m_lists677 (h647 : Pg 647 = some d__law_at) (h : Pg f = some d__law_lists_v2) (S A : List Int) (lA : A.length ≤ 900) (sub : ∀ x ∈ A, x ∈ S) (V : List (List Int)) (lV : V.length ≤ 90000) (hV : ∀ T ∈ V, T.length = S.length) :
    ∃ L : List (List Int), L.Nodup ∧ (∀ T, T ∈ L ↔ ∃ W ∈ V, T = atP S A W) ∧ callD Pg fuel (k + 2) f [il S, .lst (tls V), il A] = .ok (.sh (.int (L.length : Nat))) [] := by
  rw [callD_eq h ⟨rfl, Nat.le_of_ble_eq_true rfl⟩]
  have lt : (tls V).length = V.length := by simp [tls]
  obtain ⟨r', e', L, y4, rfl, h4, lL, nL, mL⟩ := for_run (C := Cz Pg fuel (k + 1)) (t := .v 4) (it := .e (.var 1)) (body := [.dput 3 (.call 647 [.var 0, .var 4, .var 2] [] []) (.con (.bl true))]) (r := [.sh (il S), .sh (.lst (tls V)), .sh (il A), .ow (.dts []), .no]) (r1 := [.sh (il S), .sh (.lst (tls V)), .sh (il A), .ow (.dts []), .no]) (l := tls V)
    (fun j r => ∃ (L : List (List Int)) (y4 : Sl), r = [.sh (il S), .sh (.lst (tls V)), .sh (il A), .ow (.dts (L.map fun T => (T.map Sum.inl : List Ky))), y4] ∧ Pn y4 ∧ L.length ≤ j ∧ L.Nodup ∧ ∀ T, T ∈ L ↔ ∃ W ∈ V.take j, T = atP S A W) (by simp [itemsD]) (by
      rintro j hj r ⟨L, y4, rfl, h4, lL, nL, mL⟩
      rw [lt] at hj
      have ex : (tls V)[j]'(by rw [lt]; exact hj) = tl V[j] := by simp [tls]
      rw [ex]
      have e1 := m_at647 (fuel := fuel) (k := k) h647 S A V[j] lA sub (hV _ (List.getElem_mem hj))
      have tk := List.take_succ_eq_append_getElem hj
      have pt := put_tup L (atP S A V[j]) (by omega)
      generalize V[j] = W at *
      refine ⟨[.sh (il S), .sh (.lst (tls V)), .sh (il A), .ow (.dts ((if atP S A W ∈ L then L else L ++ [atP S A W]).map fun T => (T.map Sum.inl : List Ky))), .sh (tl W)], ?_, _, _, rfl, .inr ⟨_, rfl⟩, ?_, ?_, fun T => ?_⟩
      · generalize (if atP S A W ∈ L then L else L ++ [atP S A W]).map (fun T => (T.map Sum.inl : List Ky)) = K2 at *
        generalize (L.map fun T => (T.map Sum.inl : List Ky)) = K1 at *
        generalize tl (atP S A W) = XT at *
        generalize tl W = XW at *
        generalize il S = XS at *
        generalize il A = XA at *
        generalize D.lst (tls V) = XV at *
        rcases h4 with rfl | ⟨d, rfl⟩ <;> simp [bindT, h647, d__law_at, e1, pt]
      · split
        · omega
        · rw [List.length_append, List.length_singleton]; omega
      · split
        · exact nL
        · rename_i z
          exact List.nodup_append.mpr ⟨nL, by simp, fun a ha b hb => by simp at hb; subst hb; exact fun e => z (e ▸ ha)⟩
      · have key : T ∈ (if atP S A W ∈ L then L else L ++ [atP S A W]) ↔ T ∈ L ∨ T = atP S A W := by
          split
          · rename_i z
            exact ⟨.inl, fun h => h.elim id fun e => e ▸ z⟩
          · simp
        rw [key, mL, tk]
        constructor
        · rintro (⟨W0, h0, e⟩ | e)
          · exact ⟨W0, List.mem_append_left _ h0, e⟩
          · exact ⟨W, by simp, e⟩
        · rintro ⟨W0, h0, e⟩
          rcases List.mem_append.mp h0 with h0 | h0
          · exact .inl ⟨W0, h0, e⟩
          · rw [List.mem_singleton] at h0
            subst h0
            exact .inr e) ⟨[], .no, rfl, .inl rfl, Nat.le_refl _, List.nodup_nil, by simp⟩
  rw [lt] at mL
  rw [List.take_length] at mL
  refine ⟨L, nL, mL, ?_⟩
  have ld : (L.map fun T => (T.map Sum.inl : List Ky)).length = L.length := by simp
  generalize (L.map fun T => (T.map Sum.inl : List Ky)) = K1 at *
  generalize D.lst (tls V) = XV at *
  generalize il S = XS at *
  generalize il A = XA at *
  have rv : ∀ (r : En), retV (Cz Pg fuel (k + 1)) (.dlen 3) r = ev (Cz Pg fuel (k + 1)) (.dlen 3) r := fun _ => rfl
  have ed : ev (Cz Pg fuel (k + 1)) (.dlen 3) [.sh XS, .sh XV, .sh XA, .ow (.dts K1), y4] = .ok (.sh (.int (K1.length : Nat))) [.sh XS, .sh XV, .sh XA, .ow (.dts K1), y4] := by
    simp only [ev]
    rfl
  simp [-q_for, d__law_lists_v2, s__law_lists_v2, start_eq, e', rv, ed, ld]
end
end Z
/-! QS: the law's listings at parts (plain). -/
namespace Z
section
variable {w c : Nat} {S A B K : List Int} {V : List (List Int)}
theorem atP_g {g : Int → Int} (sub : ∀ x ∈ A, x ∈ S) : atP S A (S.map g) = A.map g := by
  unfold atP
  apply List.map_congr_left
  intro x hx
  have l := List.idxOf_lt_length_of_mem (sub x hx)
  rw [List.getD_eq_getElem?_getD, List.getElem?_map, List.getElem?_eq_getElem l, List.getElem_idxOf]
  rfl
theorem lists_cwl (hV : ∀ T, T ∈ V ↔ IsCw w c S T) (sub : ∀ x ∈ A, x ∈ S) {L : List (List Int)} (nL : L.Nodup) (mL : ∀ T, T ∈ L ↔ ∃ W ∈ V, T = atP S A W) : Cwl w c A L := by
  refine ⟨nL, fun T => ?_⟩
  rw [mL, cw_g]
  constructor
  · rintro ⟨W, hW, rfl⟩
    obtain ⟨g, hg, rfl⟩ := cw_g.mp ((hV W).mp hW)
    exact ⟨g, hg, atP_g sub⟩
  · rintro ⟨g, hg, rfl⟩
    exact ⟨S.map g, (hV _).mpr (cw_g.mpr ⟨g, hg, rfl⟩), (atP_g sub).symm⟩
/-- those that are as one's words at a part -/
def nearP (S K W0 : List Int) (V : List (List Int)) : List (List Int) := V.filter fun W => decide (atP S K W = atP S K W0)
theorem near_mem {g0 : Int → Int} (sK : ∀ x ∈ K, x ∈ S) {U : List (List Int)} {P : (Int → Int) → Prop} (hU : ∀ W, W ∈ U ↔ ∃ g, IsG w c g ∧ P g ∧ W = S.map g) (W : List Int) :
    W ∈ nearP S K (S.map g0) U ↔ ∃ g, IsG w c g ∧ (P g ∧ ∀ x ∈ K, g x = g0 x) ∧ W = S.map g := by
  unfold nearP
  rw [List.mem_filter, hU]
  constructor
  · rintro ⟨⟨g, hg, pg, rfl⟩, e⟩
    have e := of_decide_eq_true e
    rw [atP_g sK, atP_g sK] at e
    exact ⟨g, hg, ⟨pg, map_eq.mp e⟩, rfl⟩
  · rintro ⟨g, hg, ⟨pg, e⟩, rfl⟩
    refine ⟨⟨g, hg, pg, rfl⟩, decide_eq_true ?_⟩
    rw [atP_g sK, atP_g sK]
    exact map_eq.mpr e
theorem beside_of {g0 : Int → Int} {P : (Int → Int) → Prop} {U L : List (List Int)} {Q : List Int} (sB : ∀ x ∈ B, x ∈ S) (hU : ∀ W, W ∈ U ↔ ∃ g, IsG w c g ∧ P g ∧ W = S.map g) (hP : ∀ g, P g ↔ ∀ x ∈ Q, g x = g0 x) (nL : L.Nodup) (mL : ∀ T, T ∈ L ↔ ∃ W ∈ U, T = atP S B W) : Beside w c Q B g0 L := by
  refine ⟨nL, fun T => ?_⟩
  rw [mL]
  constructor
  · rintro ⟨W, hW, rfl⟩
    obtain ⟨g, hg, pg, rfl⟩ := (hU W).mp hW
    exact ⟨g, hg, (hP g).mp pg, atP_g sB⟩
  · rintro ⟨g, hg, pg, rfl⟩
    exact ⟨S.map g, (hU _).mpr ⟨g, hg, (hP g).mpr pg, rfl⟩, (atP_g sB).symm⟩
/-- what is told is never below 0 -/
theorem said_nonneg (hw : w ≤ 64) (hS : Wi w S) (sA : A.Sublist S) (sB : B.Sublist S) (sK : K.Sublist S) : 0 ≤ saidF w c A B K := by
  have mA : ∀ x ∈ A, x ∈ S := fun x hx => sA.subset hx
  have mB : ∀ x ∈ B, x ∈ S := fun x hx => sB.subset hx
  have mK : ∀ x ∈ K, x ∈ S := fun x hx => sK.subset hx
  have wi : ∀ L : List Int, (∀ x ∈ L, x ∈ S) → Wi w (sdI L) := fun L h => sd_wi hS h
  have := Hb_sub (c := c) hw (wi (A ++ K) fun x hx => (List.mem_append.mp hx).elim (mA x) (mK x)) (wi (B ++ K) fun x hx => (List.mem_append.mp hx).elim (mB x) (mK x))
    (wi (A ++ (B ++ K)) fun x hx => (List.mem_append.mp hx).elim (mA x) fun h => (List.mem_append.mp h).elim (mB x) (mK x)) (T := K) ⟨hS.1.sublist sK, fun x hx => hS.2 x (mK x hx)⟩
    (fun x => by
      simp only [sd_mem, List.mem_append]
      constructor
      · rintro (h | h | h) <;> simp [h]
      · rintro ((h | h) | h | h) <;> simp [h]) (fun x hx => by rw [sd_mem]; exact List.mem_append_right _ hx) (fun x hx => by rw [sd_mem]; exact List.mem_append_right _ hx)
  unfold saidF
  omega
theorem said_symm : saidF w c B A K = saidF w c A B K := by
  have e : sdI (B ++ (A ++ K)) = sdI (A ++ (B ++ K)) := sd_uniq (sd_lt _) fun k => by
    rw [sd_mem]
    simp only [List.mem_append]
    constructor <;> (intro h; rcases h with h | h | h <;> simp [h])
  unfold saidF
  rw [e]
  omega
/-- lists that fit, counted -/
theorem said_count (hw : w ≤ 64) (hS : Wi w S) (sA : A.Sublist S) (sB : B.Sublist S) (sK : K.Sublist S) (hV : ∀ T, T ∈ V ↔ IsCw w c S T) {W0 : List Int} (h0 : W0 ∈ V) {L1 L2 : List (List Int)}
    (n1 : L1.Nodup) (m1 : ∀ T, T ∈ L1 ↔ ∃ W ∈ nearP S K W0 V, T = atP S B W) (n2 : L2.Nodup) (m2 : ∀ T, T ∈ L2 ↔ ∃ W ∈ nearP S A W0 (nearP S K W0 V), T = atP S B W) :
    L1.length = L2.length * 2 ^ (saidF w c A B K).toNat := by
  have mA : ∀ x ∈ A, x ∈ S := fun x hx => sA.subset hx
  have mB : ∀ x ∈ B, x ∈ S := fun x hx => sB.subset hx
  have mK : ∀ x ∈ K, x ∈ S := fun x hx => sK.subset hx
  obtain ⟨g0, hg0, rfl⟩ := cw_g.mp ((hV W0).mp h0)
  have u0 : ∀ W, W ∈ V ↔ ∃ g, IsG w c g ∧ True ∧ W = S.map g := fun W => by rw [hV, cw_g]; simp
  have u1 := near_mem (g0 := g0) mK u0
  have u2 := near_mem (g0 := g0) mA u1
  have wi : ∀ L : List Int, (∀ x ∈ L, x ∈ S) → Wi w (sdI L) := fun L h => sd_wi hS h
  have hAK := wi (A ++ K) fun x hx => (List.mem_append.mp hx).elim (mA x) (mK x)
  have b1 := beside_of (g0 := g0) (Q := K) mB u1 (fun g => by simp) n1 m1
  have b2 := beside_of (g0 := g0) (Q := sdI (A ++ K)) mB u2 (fun g => by
    constructor
    · rintro ⟨⟨_, h1⟩, h2⟩ x hx
      rcases List.mem_append.mp ((sd_mem _ x).mp hx) with h | h
      · exact h2 x h
      · exact h1 x h
    · intro h
      exact ⟨⟨trivial, fun x hx => h x ((sd_mem _ x).mpr (List.mem_append_right _ hx))⟩, fun x hx => h x ((sd_mem _ x).mpr (List.mem_append_left _ hx))⟩) n2 m2
  have e1 := beside_bits hw ⟨hS.1.sublist sK, fun x hx => hS.2 x (mK x hx)⟩ (wi (B ++ K) fun x hx => (List.mem_append.mp hx).elim (mB x) (mK x)) hg0 b1 (fun x => by rw [sd_mem, List.mem_append]; exact Or.comm)
  have e2 := beside_bits hw hAK (wi (A ++ (B ++ K)) fun x hx => (List.mem_append.mp hx).elim (mA x) fun h => (List.mem_append.mp h).elim (mB x) (mK x)) hg0 b2 (fun x => by
    simp only [sd_mem, List.mem_append]
    constructor
    · rintro (h | h | h) <;> simp [h]
    · rintro ((h | h) | h) <;> simp [h])
  have nn := said_nonneg (c := c) hw hS sA sB sK
  unfold saidF at nn ⊢
  generalize Hb w (sdI (A ++ K)) c = hAKn at *
  generalize Hb w (sdI (B ++ K)) c = hBKn at *
  generalize Hb w (sdI (A ++ (B ++ K))) c = hABKn at *
  generalize Hb w K c = hKn at *
  obtain ⟨t, ht⟩ : ∃ t : Nat, (hAKn : Int) + hBKn - hABKn - hKn = t := ⟨((hAKn : Int) + hBKn - hABKn - hKn).toNat, by omega⟩
  rw [ht, Int.toNat_natCast]
  have hs : t + hABKn + hKn = hAKn + hBKn := by omega
  have p : 0 < 2 ^ hKn * 2 ^ hAKn := Nat.mul_pos (Nat.two_pow_pos _) (Nat.two_pow_pos _)
  apply Nat.eq_of_mul_eq_mul_right p
  calc L1.length * (2 ^ hKn * 2 ^ hAKn) = 2 ^ hBKn * 2 ^ hAKn := by rw [← Nat.mul_assoc, e1]
    _ = 2 ^ (t + hABKn + hKn) := by rw [hs, Nat.pow_add, Nat.mul_comm]
    _ = 2 ^ t * 2 ^ hABKn * 2 ^ hKn := by rw [Nat.pow_add, Nat.pow_add]
    _ = 2 ^ t * (L2.length * 2 ^ hAKn) * 2 ^ hKn := by rw [e2]
    _ = L2.length * 2 ^ t * (2 ^ hKn * 2 ^ hAKn) := by
      rw [Nat.mul_left_comm, Nat.mul_assoc, Nat.mul_assoc, Nat.mul_assoc, Nat.mul_comm (2 ^ hAKn)]
end
end Z
/-! QT: bits that parts say, small codes. -/
namespace Z
open PySem (Str Operator CmpOp)
structure L60 (Pg : Nat → Option Df) : Prop extends G60 Pg where
  h32 : Pg 32 = some d__law_hash
  h33 : Pg 33 = some d__law_random_v1
  h34 : Pg 34 = some d__law_cell
  h35 : Pg 35 = some d__law_generator
  h639 : Pg 639 = some d__law_size
  h640 : Pg 640 = some d__law_pick
  h641 : Pg 641 = some d__law_code
  h642 : Pg 642 = some d__law_power_v3
  h643 : Pg 643 = some d__law_made_v1
  h644 : Pg 644 = some d__law_powers
  h645 : Pg 645 = some d__law_listed_v2
  h646 : Pg 646 = some d__law_part
  h647 : Pg 647 = some d__law_at
  h648 : Pg 648 = some d__law_same_v2
  h676 : Pg 676 = some d__law_bits_v3
  h677 : Pg 677 = some d__law_lists_v2
  h678 : Pg 678 = some d__law_right_v38
theorem thawL_nf {r rb : En} {ds : List D} (h : ds.all flat = false) : thawL r ds rb = .ok (.ow (.lst ds)) rb := by
  unfold thawL
  rw [h]
  rfl
theorem nat_repr {n : Nat} (hn : n ≤ 70000) : ∃ z, biD .repr [.int (n : Nat)] = some (.sh (.str z)) ∧ cmpD .Eq (.str z) (.str z) = some true := by
  have b : ((n : Nat) : Int).natAbs < 10 ^ 100 := by
    rw [Int.natAbs_natCast]
    exact Nat.lt_of_le_of_lt hn (Nat.lt_of_lt_of_le (show 70000 < 10 ^ 5 by decide) (Nat.pow_le_pow_right (by decide) (by decide)))
  exact ⟨_, bi_repr_int b, (str_same (cps_shown 100 _ (by simp only [pln]; simpa using b))).2⟩
abbrev R60 (g w S c : D) (y4 y5 y6 y7 y8 y9 y10 y11 y12 y13 y14 y15 y16 : Sl) : En := [.io g, .sh w, .sh S, .sh c, y4, y5, y6, y7, y8, y9, y10, y11, y12, y13, y14, y15, y16]
section
variable {Pg : Nat → Option Df} {fuel k f : Nat} {C : Cf}
theorem parts_lc (G : L60 Pg) (m : Nat) (hm : m ≤ 800000) (g : D) (hg : Gd m g) (w c : D) (S : List Int) (lS : S.length ≤ 30) (y4 : Sl) :
    ∃ (A B K : List Int) (g' : D), A.Sublist S ∧ B.Sublist S ∧ K.Sublist S ∧ Gd (m + 270) g' ∧ ev (Cz Pg fuel (k + 7)) (.lc (.call 646 [.var 0, .var 2] [] []) (.v 15) (.rng1 (.con (.int 3))) [] [15]) (R60 g w (il S) c y4 .no .no .no .no .no .no .no .no .no .no .no .no) = .ok (.ow (.lst (ils [A, B, K]))) (R60 g' w (il S) c y4 .no .no .no .no .no .no .no .no .no .no .no .no) := by
  have er := rng1_eq (C := Cz Pg fuel (k + 7)) (b := .con (.int 3)) (r := R60 g w (il S) c y4 .no .no .no .no .no .no .no .no .no .no .no .no) (r2 := R60 g w (il S) c y4 .no .no .no .no .no .no .no .no .no .no .no .no) (y := .inr (.int 3)) (j := ((3 : Nat) : Int)) (by simp) (by simp) (by omega)
  obtain ⟨ds, r6, ln, ⟨F, g', y15, rfl, sF, rfl, h15, hg'⟩, e⟩ := lc_acc (C := Cz Pg fuel (k + 7)) (e := .call 646 [.var 0, .var 2] [] []) (t := .v 15) (ts := []) (own := [15])
    (fun acc r => ∃ (F : List (List Int)) (g' : D) (y15 : Sl), acc = ils F ∧ (∀ A ∈ F, A.Sublist S) ∧ r = R60 g' w (il S) c y4 .no .no .no .no .no .no .no .no .no .no y15 .no ∧ Pn y15 ∧ Gd (m + 90 * F.length) g') er rfl rfl (by rw [rng0_len]; exact line_le (by omega)) (by
      rintro x hx acc r ha ⟨F, g1, y15, rfl, sF, rfl, h15, hg1⟩
      rw [rng0_len] at ha
      have la : F.length < 3 := by simpa [ils] using ha
      obtain ⟨A, g2, sA, hg2, e1⟩ := m_part646 (fuel := fuel) (k := k + 4) G.h32 G.h33 G.h646 (m + 90 * F.length) (by omega) g1 hg1 S lS
      obtain ⟨j, hj, rfl⟩ := List.getElem_of_mem hx
      rw [rng0_get]
      refine ⟨il A, R60 g2 w (il S) c y4 .no .no .no .no .no .no .no .no .no .no (.sh (.int j)) .no, ?_, F ++ [A], g2, _, by simp [ils], fun T hT => ?_, rfl, .inr ⟨_, rfl⟩, hg2.mono (by simp; omega)⟩
      · generalize il A = XA at *
        generalize il S = XS at *
        rcases h15 with rfl | ⟨_, rfl⟩ <;> simp [lcF, wip, bindT, G.h646, d__law_part, e1, hg2.shal]
      · rcases List.mem_append.mp hT with h | h
        · exact sF T h
        · rw [List.mem_singleton] at h
          subst h
          exact sA) ⟨[], g, .no, rfl, by simp, rfl, .inl rfl, hg⟩
  rw [rng0_len] at ln
  have lF : F.length = 3 := by simpa [ils] using ln
  match F, lF, sF with
  | [A, B, K], _, sF =>
    refine ⟨A, B, K, g', sF A (by simp), sF B (by simp), sF K (by simp), hg', ?_⟩
    rw [e, thawL_nf rfl]
    rfl
theorem copy_lc (g w c : D) (S A B K : List Int) (y4 : Sl) :
    ev C (.lc (.bi .list [.var 7]) (.v 7) (.e (.var 5)) [] [7]) (R60 g w (il S) c y4 (.ow (.lst (ils [A, B, K]))) .no .no .no .no .no .no .no .no .no .no .no) = .ok (.ow (.lst (ils [A, B, K]))) (R60 g w (il S) c y4 (.sh (.lst (ils [A, B, K]))) .no .no .no .no .no .no .no .no .no .no .no) := by
  rw [lc_run (r1 := R60 g w (il S) c y4 (.sh (.lst (ils [A, B, K]))) .no .no .no .no .no .no .no .no .no .no .no) (l := ils [A, B, K]) (fun d => match d with | D.lst l => some (D.lst l) | _ => none)]
  · exact thawL_nf rfl
  · have it : itemsD (.lst (ils [A, B, K])) = some (ils [A, B, K]) := rfl
    generalize D.lst (ils [A, B, K]) = X at *
    simp [it]
  · rfl
  · rfl
  · exact line_le (by simp [ils])
  · intro x hx
    obtain ⟨T, hT, rfl⟩ := List.mem_map.mp hx
    refine ⟨R60 g w (il S) c y4 (.sh (.lst (ils [A, B, K]))) .no (.sh (il T)) .no .no .no .no .no .no .no .no .no, ?_, rfl⟩
    have bl : biD .list [il T] = some (.ow (il T)) := rfl
    show _ = R.ok (some (il T)) _
    generalize D.lst (ils [A, B, K]) = X at *
    generalize il T = XT at *
    simp [lcF, wip, bindT, bl]
abbrev r605 : List S := [.ite (.not (.val (.call 648 [.call 673 [.var 1, .bi .list [.var 2], .var 3, .bi .list [.var 7]] [] [], .call 676 [.call 677 [.var 2, .var 4, .var 7] [] []] [] []] [] []))) [.ret (.con (.bl false))] []]
theorem part_turn (G : L60 Pg) (hf : 1000 ≤ fuel) (g : D) (w : Nat) (hw : 1 ≤ w ∧ w ≤ 64) (S : List Int) (hS : PlW w S) (lS : S.length ≤ 30) (c : Nat) (V : List (List Int)) (nV : V.Nodup) (lV : V.length ≤ 65536) (hV : ∀ T, T ∈ V ↔ IsCw w c S T) (P : List Int) (sP : P.Sublist S) (y4 y5 y6 y7 : Sl) (h4 : y4 = .ow (.lst (tls V)) ∨ y4 = .sh (.lst (tls V))) (h7 : Pn y7) :
    ((Z.O.of (bindT (.v 7) (il P) (R60 g (.int w) (il S) (.int c) y4 y5 y6 y7 .no .no .no .no .no .no .no .no .no))).then fun r3 => xs (Cz Pg fuel (k + 7)) r605 r3) = .nx (R60 g (.int w) (il S) (.int c) y4 y5 y6 (.sh (il P)) .no .no .no .no .no .no .no .no .no) := by
  have lP := sP.length_le
  have e1 := m_part_bits (fuel := fuel) (k := k) G.toG60 hf w hw S P hS (by omega) sP (c : Int) (by omega)
  rw [Int.toNat_natCast] at e1
  obtain ⟨L, nL, mL, e2⟩ := m_lists677 (fuel := fuel) (k := k + 5) G.h647 G.h677 S P (by omega) (fun x hx => sP.subset hx) V (by omega) (fun T hT => cw_len ((hV T).mp hT))
  have cl := lists_cwl hV (fun x hx => sP.subset hx) nL mL
  have cn := cw_cnt hw.2 ⟨hS.wi.1.sublist sP, fun x hx => hS.wi.2 x (sP.subset hx)⟩ cl
  have le : L.length ≤ V.length := by
    have : L.length ≤ (V.map fun W => atP S P W).length := nd_sub L _ nL fun T hT => by
      obtain ⟨W, hW, rfl⟩ := (mL T).mp hT
      exact List.mem_map.mpr ⟨W, hW, rfl⟩
    rwa [List.length_map] at this
  have h16 : Hb w P c ≤ 16 := by
    have : 2 ^ Hb w P c ≤ 2 ^ 16 := by omega
    exact (Nat.pow_le_pow_iff_right (by decide)).mp this
  have e3 := m_bits676 (fuel := fuel) (k := k + 6) G.h676 (Hb w P c) (by omega) (by omega)
  rw [show (L.length : Int) = 2 ^ Hb w P c by rw [cn, Int.natCast_pow]; rfl] at e2
  obtain ⟨z, z1, z2⟩ := nat_repr (n := Hb w P c) (by omega)
  have e4 := m_same2 (fuel := fuel) (k := k + 6) G.h648 (.int (Hb w P c : Nat)) z z1 z2
  have b1 : biD .list [il S] = some (.ow (il S)) := rfl
  have b2 : biD .list [il P] = some (.ow (il P)) := rfl
  generalize (Hb w P c : Int) = n at *
  generalize (2 : Int) ^ Hb w P c = n2 at *
  generalize il S = XS at *
  generalize il P = XP at *
  generalize D.lst (tls V) = XV at *
  rcases h4 with rfl | rfl <;> rcases h7 with rfl | ⟨_, rfl⟩ <;> simp [bindT, b1, b2, G.h673, d_part_bits, e1, G.h677, d__law_lists_v2, e2, G.h676, d__law_bits_v3, e3, G.h648, d__law_same_v2, e4]
end
end Z
/-! QU: the law's small codes: what parts say. -/
namespace Z
open PySem (Str Operator CmpOp)
theorem okq_tlA (W : List Int) : okq (tl W) = true := by
  unfold okq
  rw [Bool.and_eq_true, decide_eq_true_eq]
  exact ⟨by simp only [lay]; exact lays_il W, by simp only [dep, deps_il]; decide⟩
theorem eqvs_ii : ∀ a b : List Int, eqvs (a.map D.int) (b.map D.int) = decide (a = b)
  | [], [] => rfl
  | [], y :: b => rfl
  | x :: a, [] => rfl
  | x :: a, y :: b => by
    simp only [List.map_cons, eqvs, eqv, eqvs_ii a b]
    by_cases c : x = y
    · subst c; simp
    · simp [c]
theorem cmp_tl_eq (a b : List Int) : cmpD .Eq (tl a) (tl b) = some (decide (a = b)) := by
  have o1 := okq_tlA a
  have o2 := okq_tlA b
  simp only [cmpD, o1, o2, Bool.and_self, if_true]
  show some (eqv (tl a) (tl b)) = _
  simp only [eqv, eqvs_ii]
theorem cmp_ils_self (F : List (List Int)) : cmpD .NotEq (.lst (ils F)) (.lst (ils F)) = some false := by
  have l1 : ∀ F : List (List Int), lays (ils F) = true := fun F => by
    induction F with
    | nil => rfl
    | cons T F ih => simp only [ils, List.map_cons, lays, lay, lays_il, Bool.true_and] at ih ⊢; exact ih
  have l2 : ∀ F : List (List Int), deps (ils F) ≤ 1 := fun F => by
    induction F with
    | nil => simp [deps]
    | cons T F ih => simp only [ils, List.map_cons, deps, dep, deps_il] at ih ⊢; omega
  have ok1 : okq (.lst (ils F)) = true := by
    have := l2 F
    unfold okq
    rw [Bool.and_eq_true, decide_eq_true_eq]
    refine ⟨by simp only [lay]; exact l1 _, ?_⟩
    simp only [dep]
    omega
  have ev : ∀ F : List (List Int), eqvs (ils F) (ils F) = true := fun F => by
    induction F with
    | nil => rfl
    | cons T F ih =>
      have h1 : eqvs (T.map D.int) (T.map D.int) = true := by rw [eqvs_ii]; simp
      simp only [ils, List.map_cons, eqvs, eqv] at ih ⊢
      rw [h1, ih]
      rfl
  have e : eqv (.lst (ils F)) (.lst (ils F)) = true := by simp only [eqv, ev F]
  simp only [cmpD, ok1, Bool.and_self, if_true, e]
  rfl
section
variable {Pg : Nat → Option Df} {fuel k f : Nat} {C : Cf}
theorem fm_near (S K W0 : List Int) : ∀ V : List (List Int), List.filterMap (fun d => match d with | D.tup l => if decide (atP S K ((intsD l).getD []) = atP S K W0) = true then some (D.tup l) else none | _ => none) (tls V) = tls (nearP S K W0 V)
  | [] => rfl
  | W :: V => by
    have ih := fm_near S K W0 V
    unfold nearP at ih ⊢
    simp only [tls, List.map_cons, List.filterMap_cons, List.filter_cons, ints_map, Option.getD_some] at ih ⊢
    by_cases c : decide (atP S K W = atP S K W0) = true
    · rw [if_pos c, if_pos c, ih]; rfl
    · rw [if_neg c, if_neg c, ih]
theorem near_ne {S K W0 : List Int} {V : List (List Int)} (h : W0 ∈ V) : W0 ∈ nearP S K W0 V := List.mem_filter.mpr ⟨h, decide_eq_true rfl⟩
theorem nf_tls {F : List (List Int)} {W : List Int} (h : W ∈ F) : (tls F).all flat = false := by
  cases F with
  | nil => cases h
  | cons x F => rfl
theorem near13 (h647 : Pg 647 = some d__law_at) (g w c : D) (S A B K W0 : List Int) (V : List (List Int)) (lV : V.length ≤ 90000) (hV : ∀ T ∈ V, T.length = S.length) (h0 : W0 ∈ V) (lK : K.length ≤ 900) (sK : ∀ x ∈ K, x ∈ S) (y4 y5 y6 y7 y8 y9 y11 : Sl) (h4 : y4 = .ow (.lst (tls V)) ∨ y4 = .sh (.lst (tls V))) :
    ev (Cz Pg fuel (k + 1)) (.lc (.var 16) (.v 16) (.e (.var 4)) [.val (.cmp .Eq (.call 647 [.var 2, .var 16, .var 10] [] []) (.call 647 [.var 2, .var 12, .var 10] [] []))] [16]) (R60 g w (il S) c y4 y5 y6 y7 y8 y9 (.sh (il K)) y11 (.sh (tl W0)) .no .no .no .no) = .ok (.ow (.lst (tls (nearP S K W0 V)))) (R60 g w (il S) c (.sh (.lst (tls V))) y5 y6 y7 y8 y9 (.sh (il K)) y11 (.sh (tl W0)) .no .no .no .no) := by
  have e0 := m_at647 (fuel := fuel) (k := k) h647 S K W0 lK sK (hV W0 h0)
  rw [lc_run (r1 := R60 g w (il S) c (.sh (.lst (tls V))) y5 y6 y7 y8 y9 (.sh (il K)) y11 (.sh (tl W0)) .no .no .no .no) (l := tls V) (fun d => match d with | D.tup l => if decide (atP S K ((intsD l).getD []) = atP S K W0) = true then some (D.tup l) else none | _ => none)]
  · rw [fm_near]
    exact thawL_nf (nf_tls (near_ne h0))
  · have it : itemsD (.lst (tls V)) = some (tls V) := rfl
    rcases h4 with rfl | rfl <;> generalize D.lst (tls V) = XV at * <;> simp [it]
  · rfl
  · rfl
  · have : (LINE : Nat) = 16777216 := rfl
    rw [List.length_map]
    omega
  · intro x hx
    obtain ⟨W, hW, rfl⟩ := List.mem_map.mp hx
    have e1 := m_at647 (fuel := fuel) (k := k) h647 S K W lK sK (hV W hW)
    have ce := cmp_tl_eq (atP S K W) (atP S K W0)
    refine ⟨R60 g w (il S) c (.sh (.lst (tls V))) y5 y6 y7 y8 y9 (.sh (il K)) y11 (.sh (tl W0)) .no .no .no (.sh (tl W)), ?_, rfl⟩
    show _ = R.ok (if decide (atP S K ((intsD (W.map D.int)).getD []) = atP S K W0) = true then some (tl W) else none) _
    rw [ints_map, Option.getD_some]
    generalize decide (atP S K W = atP S K W0) = b at *
    generalize tl (atP S K W) = X1 at *
    generalize tl (atP S K W0) = X2 at *
    generalize tl W = X3 at *
    generalize tl W0 = X4 at *
    generalize D.lst (tls V) = XV at *
    generalize il S = XS at *
    generalize il K = XK at *
    cases b <;> simp [lcF, wip, bindT, h647, d__law_at, e1, e0, ce]
theorem near14 (h647 : Pg 647 = some d__law_at) (g w c : D) (S A W0 : List Int) (V : List (List Int)) (lV : V.length ≤ 90000) (hV : ∀ T ∈ V, T.length = S.length) (h0 : W0 ∈ V) (lA : A.length ≤ 900) (sA : ∀ x ∈ A, x ∈ S) (y4 y5 y6 y7 y9 y10 y11 : Sl) :
    ev (Cz Pg fuel (k + 1)) (.lc (.var 16) (.v 16) (.e (.var 13)) [.val (.cmp .Eq (.call 647 [.var 2, .var 16, .var 8] [] []) (.call 647 [.var 2, .var 12, .var 8] [] []))] [16]) (R60 g w (il S) c y4 y5 y6 y7 (.sh (il A)) y9 y10 y11 (.sh (tl W0)) (.ow (.lst (tls V))) .no .no .no) = .ok (.ow (.lst (tls (nearP S A W0 V)))) (R60 g w (il S) c y4 y5 y6 y7 (.sh (il A)) y9 y10 y11 (.sh (tl W0)) (.sh (.lst (tls V))) .no .no .no) := by
  have e0 := m_at647 (fuel := fuel) (k := k) h647 S A W0 lA sA (hV W0 h0)
  rw [lc_run (r1 := R60 g w (il S) c y4 y5 y6 y7 (.sh (il A)) y9 y10 y11 (.sh (tl W0)) (.sh (.lst (tls V))) .no .no .no) (l := tls V) (fun d => match d with | D.tup l => if decide (atP S A ((intsD l).getD []) = atP S A W0) = true then some (D.tup l) else none | _ => none)]
  · rw [fm_near]
    exact thawL_nf (nf_tls (near_ne h0))
  · have it : itemsD (.lst (tls V)) = some (tls V) := rfl
    generalize D.lst (tls V) = XV at *
    simp [it]
  · rfl
  · rfl
  · have : (LINE : Nat) = 16777216 := rfl
    rw [List.length_map]
    omega
  · intro x hx
    obtain ⟨W, hW, rfl⟩ := List.mem_map.mp hx
    have e1 := m_at647 (fuel := fuel) (k := k) h647 S A W lA sA (hV W hW)
    have ce := cmp_tl_eq (atP S A W) (atP S A W0)
    refine ⟨R60 g w (il S) c y4 y5 y6 y7 (.sh (il A)) y9 y10 y11 (.sh (tl W0)) (.sh (.lst (tls V))) .no .no (.sh (tl W)), ?_, rfl⟩
    show _ = R.ok (if decide (atP S A ((intsD (W.map D.int)).getD []) = atP S A W0) = true then some (tl W) else none) _
    rw [ints_map, Option.getD_some]
    generalize decide (atP S A W = atP S A W0) = b at *
    generalize tl (atP S A W) = X1 at *
    generalize tl (atP S A W0) = X2 at *
    generalize tl W = X3 at *
    generalize tl W0 = X4 at *
    generalize D.lst (tls V) = XV at *
    generalize il S = XS at *
    generalize il A = XA at *
    cases b <;> simp [lcF, wip, bindT, h647, d__law_at, e1, e0, ce]
end
end Z
/-! QV: the law's small codes, joined. -/
namespace Z
open PySem (Str Operator CmpOp)
section
variable {Pg : Nat → Option Df} {fuel k f : Nat} {C : Cf}
theorem saidF_le {w c : Nat} {S A B K : List Int} (sA : A.length ≤ 60) (sB : B.length ≤ 60) (sK : K.length ≤ 60) (hw : w ≤ 64) : saidF w c A B K ≤ 70000 := by
  have hb : ∀ L : List Int, L.length ≤ 120 → Hb w L c ≤ 64 * 120 := fun L hl => by
    unfold Hb
    refine Nat.le_trans (pw2_le w _) (Nat.mul_le_mul hw ?_)
    unfold cnt_w
    exact Nat.le_trans (List.length_filter_le _ _) (by rw [List.length_take, br_len]; omega)
  have h1 := hb (sdI (A ++ K)) (Nat.le_trans (sd_len _) (by simp; omega))
  have h2 := hb (sdI (B ++ K)) (Nat.le_trans (sd_len _) (by simp; omega))
  unfold saidF
  omega
theorem m_right678 (G : L60 Pg) (hf : 1000 ≤ fuel) (m : Nat) (hm : m ≤ 700000) (g : D) (hg : Gd m g) : ∃ g', Gd (m + 400) g' ∧ callD Pg fuel (k + 8) 678 [g] = .ok (.sh (.bl true)) [g'] := by
  rw [callD_eq G.h678 ⟨rfl, Nat.le_of_ble_eq_true rfl⟩]
  obtain ⟨w, S, c, g1, hw4, hS, lS, hc, hg1, e1⟩ := m_code (fuel := fuel) (k := k + 3) G.h32 G.h33 G.h639 G.h640 G.h641 m (by omega) g hg 5 (by decide)
  have hw : 1 ≤ w ∧ w ≤ 64 := by omega
  have wc : (2 ^ w) ^ c ≤ 65536 := by
    rw [← Nat.pow_mul]
    have : w * c ≤ 16 := by
      rcases (by omega : w = 1 ∨ w = 2 ∨ w = 3 ∨ w = 4) with rfl | rfl | rfl | rfl <;> omega
    exact Nat.le_trans (Nat.pow_le_pow_right (by decide) this) (by decide)
  have w16 : (2 : Int) ^ w ≤ 16 := by
    rcases (by omega : w = 1 ∨ w = 2 ∨ w = 3 ∨ w = 4) with rfl | rfl | rfl | rfl <;> decide
  obtain ⟨V, hV, nV, neV, lV, e2⟩ := m_listed2 (fuel := fuel) (k := k + 4) G.h642 G.h643 G.h644 G.h645 w hw.2 S hS.1 (by omega) (fun x hx => by
    have b := hS.2.2 x hx
    have : x.natAbs < 16 := by omega
    exact Nat.lt_of_lt_of_le this (Nat.le_trans (show 16 ≤ 2 ^ 4 by decide) (Nat.pow_le_pow_right (by decide) (by decide)))) c (by omega) wc
  obtain ⟨A, B, K, g2, sA, sB, sK, hg2, e3⟩ := parts_lc (fuel := fuel) (k := k) G (m + 80) (by omega) g1 hg1 (.int w) (.int c) S (by omega) (.ow (.lst (tls V)))
  have lA := sA.length_le
  have lB := sB.length_le
  have lK := sK.length_le
  have mA : ∀ x ∈ A, x ∈ S := fun x hx => sA.subset hx
  have mB : ∀ x ∈ B, x ∈ S := fun x hx => sB.subset hx
  have mK : ∀ x ∈ K, x ∈ S := fun x hx => sK.subset hx
  have rV : ∀ T ∈ V, T.length = S.length := fun T hT => cw_len ((hV T).mp hT)
  have s1 : x1 (Cz Pg fuel (k + 7)) (.asg (.t [.v 1, .v 2, .v 3]) (.call 641 [.var 0, .con (.int 5)] [] [])) [.io g, .no, .no, .no, .no, .no, .no, .no, .no, .no, .no, .no, .no, .no, .no, .no, .no] = .nx (R60 g1 (.int w) (il S) (.int c) .no .no .no .no .no .no .no .no .no .no .no .no .no) := by
    rw [show ((5 : Nat) : Int) = 5 from rfl] at e1
    generalize il S = X at *
    simp [G.h641, d__law_code, e1, hg1.shal, bindT, bindTs]
  have s2 : x1 (Cz Pg fuel (k + 7)) (.asg (.v 4) (.call 645 [.var 1, .var 2, .var 3] [] [])) (R60 g1 (.int w) (il S) (.int c) .no .no .no .no .no .no .no .no .no .no .no .no .no) = .nx (R60 g1 (.int w) (il S) (.int c) (.ow (.lst (tls V))) .no .no .no .no .no .no .no .no .no .no .no .no) := by
    generalize D.lst (tls V) = XV at *
    generalize il S = X at *
    simp [G.h645, d__law_listed_v2, e2]
  have s3 : x1 (Cz Pg fuel (k + 7)) (.asg (.v 5) (.lc (.call 646 [.var 0, .var 2] [] []) (.v 15) (.rng1 (.con (.int 3))) [] [15])) (R60 g1 (.int w) (il S) (.int c) (.ow (.lst (tls V))) .no .no .no .no .no .no .no .no .no .no .no .no) = .nx (R60 g2 (.int w) (il S) (.int c) (.ow (.lst (tls V))) (.ow (.lst (ils [A, B, K]))) .no .no .no .no .no .no .no .no .no .no .no) := by
    rw [q_asgv, e3, Z.R.run_ok]
    simp
  have s4 : x1 (Cz Pg fuel (k + 7)) (.asg (.v 6) (.lc (.bi .list [.var 7]) (.v 7) (.e (.var 5)) [] [7])) (R60 g2 (.int w) (il S) (.int c) (.ow (.lst (tls V))) (.ow (.lst (ils [A, B, K]))) .no .no .no .no .no .no .no .no .no .no .no) = .nx (R60 g2 (.int w) (il S) (.int c) (.ow (.lst (tls V))) (.sh (.lst (ils [A, B, K]))) (.ow (.lst (ils [A, B, K]))) .no .no .no .no .no .no .no .no .no .no) := by
    rw [q_asgv, copy_lc, Z.R.run_ok]
    simp
  have er : evI (Cz Pg fuel (k + 7)) (.e (.bin .Add (.var 5) (.lst [.lst [], .var 2]))) (R60 g2 (.int w) (il S) (.int c) (.ow (.lst (tls V))) (.sh (.lst (ils [A, B, K]))) (.ow (.lst (ils [A, B, K]))) .no .no .no .no .no .no .no .no .no .no) = .ok (ils [A, B, K, [], S]) (R60 g2 (.int w) (il S) (.int c) (.ow (.lst (tls V))) (.sh (.lst (ils [A, B, K]))) (.ow (.lst (ils [A, B, K]))) .no .no .no .no .no .no .no .no .no .no) := by
    have ad : binD .Add (.lst (ils [A, B, K])) (.lst [.lst [], il S]) = some (.ow (.lst (ils [A, B, K, [], S]))) := rfl
    have it : itemsD (.lst (ils [A, B, K, [], S])) = some (ils [A, B, K, [], S]) := rfl
    have l2 : 2 ≤ LINE := line_le (by omega)
    have l0 : 0 ≤ LINE := Nat.zero_le _
    generalize D.lst (ils [A, B, K, [], S]) = X5 at *
    generalize D.lst (ils [A, B, K]) = X3 at *
    generalize D.lst (tls V) = XV at *
    generalize il S = X at *
    simp [l2, l0, ad, it]
  obtain ⟨r', e5, y7, rfl, h7⟩ := for_run (t := .v 7) (body := r605) (fun j r => ∃ y7, r = R60 g2 (.int w) (il S) (.int c) (.ow (.lst (tls V))) (.sh (.lst (ils [A, B, K]))) (.ow (.lst (ils [A, B, K]))) y7 .no .no .no .no .no .no .no .no .no ∧ Pn y7) er (by
    rintro j hj r ⟨y7, rfl, h7⟩
    have hj5 : j < [A, B, K, [], S].length := by simpa [ils] using hj
    have ex : (ils [A, B, K, [], S])[j] = il ([A, B, K, [], S][j]) := by
      show (List.map (fun T => il T) [A, B, K, [], S])[j] = _
      rw [List.getElem_map]
    rw [ex]
    have sP : [A, B, K, [], S][j].Sublist S := by
      have hm : [A, B, K, [], S][j] ∈ [A, B, K, [], S] := List.getElem_mem hj5
      generalize [A, B, K, [], S][j] = P at hm
      simp only [List.mem_cons, List.not_mem_nil, or_false] at hm
      rcases hm with rfl | rfl | rfl | rfl | rfl
      · exact sA
      · exact sB
      · exact sK
      · exact List.nil_sublist _
      · exact List.Sublist.refl _
    exact ⟨_, part_turn (k := k) G hf g2 w hw S hS (by omega) c V nV lV hV _ sP (.ow (.lst (tls V))) _ _ y7 (.inl rfl) h7, _, rfl, .inr ⟨_, rfl⟩⟩) ⟨.no, rfl, .inl rfl⟩
  have s6 : x1 (Cz Pg fuel (k + 7)) (.asg (.t [.v 8, .v 9, .v 10]) (.var 6)) (R60 g2 (.int w) (il S) (.int c) (.ow (.lst (tls V))) (.sh (.lst (ils [A, B, K]))) (.ow (.lst (ils [A, B, K]))) y7 .no .no .no .no .no .no .no .no .no) = .nx (R60 g2 (.int w) (il S) (.int c) (.ow (.lst (tls V))) (.sh (.lst (ils [A, B, K]))) (.sh (.lst (ils [A, B, K]))) y7 (.sh (il A)) (.sh (il B)) (.sh (il K)) .no .no .no .no .no .no) := by
    have eX : D.lst (ils [A, B, K]) = .lst [il A, il B, il K] := rfl
    rw [eX]
    generalize il A = XA at *
    generalize il B = XB at *
    generalize il K = XK at *
    generalize D.lst (tls V) = XV at *
    generalize il S = X at *
    simp [bindTs, bindT]
  have t1 := m_said (fuel := fuel) (k := k) G.toG60 hf w hw S A B K hS (by omega) sA sB sK (by omega) (c : Int) (by omega)
  have t2 := m_said (fuel := fuel) (k := k) G.toG60 hf w hw S B A K hS (by omega) sB sA sK (by omega) (c : Int) (by omega)
  rw [Int.toNat_natCast] at t1 t2
  rw [said_symm] at t2
  have nn := said_nonneg (w := w) (c := c) hw.2 hS.wi sA sB sK
  have nle := saidF_le (w := w) (c := c) (S := S) (A := A) (B := B) (K := K) (by omega) (by omega) (by omega) hw.2
  have cnt := fun {W0 : List Int} (h0 : W0 ∈ V) {L1 L2 : List (List Int)} n1 m1 n2 m2 => said_count (w := w) (c := c) (S := S) (A := A) (B := B) (K := K) (V := V) hw.2 hS.wi sA sB sK hV (W0 := W0) h0 (L1 := L1) (L2 := L2) n1 m1 n2 m2
  obtain ⟨t, ht⟩ : ∃ t : Nat, saidF w c A B K = t := ⟨(saidF w c A B K).toNat, by omega⟩
  rw [ht] at t1 t2 nle
  rw [ht, Int.toNat_natCast] at cnt
  obtain ⟨z, z1, z2⟩ := nat_repr (n := t) (by omega)
  have e648 := m_same2 (fuel := fuel) (k := k + 6) G.h648 (.int (t : Nat)) z z1 z2
  have bl : biD .list [il S] = some (.ow (il S)) := rfl
  have s7 : x1 (Cz Pg fuel (k + 7)) (.asg (.v 11) (.call 674 [.var 1, .bi .list [.var 2], .var 3, .var 8, .var 9, .var 10] [] [])) (R60 g2 (.int w) (il S) (.int c) (.ow (.lst (tls V))) (.sh (.lst (ils [A, B, K]))) (.sh (.lst (ils [A, B, K]))) y7 (.sh (il A)) (.sh (il B)) (.sh (il K)) .no .no .no .no .no .no) = .nx (R60 g2 (.int w) (il S) (.int c) (.ow (.lst (tls V))) (.sh (.lst (ils [A, B, K]))) (.sh (.lst (ils [A, B, K]))) y7 (.sh (il A)) (.sh (il B)) (.sh (il K)) (.sh (.int t)) .no .no .no .no .no) := by
    generalize D.lst (ils [A, B, K]) = X3 at *
    generalize il A = XA at *
    generalize il B = XB at *
    generalize il K = XK at *
    generalize D.lst (tls V) = XV at *
    generalize il S = X at *
    simp [bl, G.h674, d_said_bits, t1]
  have ne := cmp_ils_self [A, B, K]
  have s8 : x1 (Cz Pg fuel (k + 7)) (.ite (.or (.not (.val (.isi (.var 11) .int))) (.or (.val (.cmp .Lt (.var 11) (.con (.int 0)))) (.or (.val (.cmp .NotEq (.var 6) (.var 5))) (.not (.val (.call 648 [.call 674 [.var 1, .var 2, .var 3, .var 9, .var 8, .var 10] [] [], .var 11] [] [])))))) [.ret (.con (.bl false))] []) (R60 g2 (.int w) (il S) (.int c) (.ow (.lst (tls V))) (.sh (.lst (ils [A, B, K]))) (.sh (.lst (ils [A, B, K]))) y7 (.sh (il A)) (.sh (il B)) (.sh (il K)) (.sh (.int t)) .no .no .no .no .no) = .nx (R60 g2 (.int w) (il S) (.int c) (.ow (.lst (tls V))) (.sh (.lst (ils [A, B, K]))) (.sh (.lst (ils [A, B, K]))) y7 (.sh (il A)) (.sh (il B)) (.sh (il K)) (.sh (.int t)) .no .no .no .no .no) := by
    have i1 : isiD (.int (t : Int)) .int = some true := rfl
    have c1 : cmpD .Lt (.int (t : Int)) (.int 0) = some false := by
      show some (decide _) = _
      rw [decide_eq_false (by omega)]
    generalize D.lst (ils [A, B, K]) = X3 at *
    generalize il A = XA at *
    generalize il B = XB at *
    generalize il K = XK at *
    generalize D.lst (tls V) = XV at *
    generalize il S = X at *
    generalize (t : Int) = t' at *
    simp [i1, c1, ne, G.h674, d_said_bits, t2, G.h648, d__law_same_v2, e648]
  have pV : 0 < V.length := List.length_pos_iff.mpr neV
  obtain ⟨i, g3, hi, hg3, e9⟩ := m_random (fuel := fuel) (k := k + 5) G.h32 G.h33 (m + 80 + 270) (by omega) g2 hg2 (V.length : Nat) (by omega)
  obtain ⟨i, rfl⟩ : ∃ j : Nat, i = j := ⟨i.toNat, by omega⟩
  have hiV : i < V.length := by omega
  have iV : idxD (.lst (tls V)) (.int (i : Nat)) = some (tl V[i]) := by
    simp only [idxD, atL, ixN, List.length_map]
    rw [if_pos (by omega), if_pos (by omega)]
    simp [hiV]
  have hW0 : V[i] ∈ V := List.getElem_mem hiV
  have bV : biD .len [.lst (tls V)] = some (.sh (.int (V.length : Nat))) := by
    show some _ = _
    simp [tls]
  have s9 : x1 (Cz Pg fuel (k + 7)) (.asg (.v 12) (.idx (.var 4) (.call 33 [.var 0, .bi .len [.var 4]] [] []))) (R60 g2 (.int w) (il S) (.int c) (.ow (.lst (tls V))) (.sh (.lst (ils [A, B, K]))) (.sh (.lst (ils [A, B, K]))) y7 (.sh (il A)) (.sh (il B)) (.sh (il K)) (.sh (.int t)) .no .no .no .no .no) = .nx (R60 g3 (.int w) (il S) (.int c) (.ow (.lst (tls V))) (.sh (.lst (ils [A, B, K]))) (.sh (.lst (ils [A, B, K]))) y7 (.sh (il A)) (.sh (il B)) (.sh (il K)) (.sh (.int t)) (.sh (tl V[i])) .no .no .no .no) := by
    generalize tl V[i] = XW at *
    generalize D.lst (ils [A, B, K]) = X3 at *
    generalize il A = XA at *
    generalize il B = XB at *
    generalize il K = XK at *
    generalize D.lst (tls V) = XV at *
    generalize il S = X at *
    simp [bV, G.h33, d__law_random_v1, e9, hg3.shal, iV]
  have e10 := near13 (fuel := fuel) (k := k + 6) G.h647 g3 (.int w) (.int c) S A B K V[i] V (by omega) rV hW0 (by omega) mK (.ow (.lst (tls V))) (.sh (.lst (ils [A, B, K]))) (.sh (.lst (ils [A, B, K]))) y7 (.sh (il A)) (.sh (il B)) (.sh (.int t)) (.inl rfl)
  have s10 : x1 (Cz Pg fuel (k + 7)) (.asg (.v 13) (.lc (.var 16) (.v 16) (.e (.var 4)) [.val (.cmp .Eq (.call 647 [.var 2, .var 16, .var 10] [] []) (.call 647 [.var 2, .var 12, .var 10] [] []))] [16])) (R60 g3 (.int w) (il S) (.int c) (.ow (.lst (tls V))) (.sh (.lst (ils [A, B, K]))) (.sh (.lst (ils [A, B, K]))) y7 (.sh (il A)) (.sh (il B)) (.sh (il K)) (.sh (.int t)) (.sh (tl V[i])) .no .no .no .no) = .nx (R60 g3 (.int w) (il S) (.int c) (.sh (.lst (tls V))) (.sh (.lst (ils [A, B, K]))) (.sh (.lst (ils [A, B, K]))) y7 (.sh (il A)) (.sh (il B)) (.sh (il K)) (.sh (.int t)) (.sh (tl V[i])) (.ow (.lst (tls (nearP S K V[i] V)))) .no .no .no) := by
    rw [q_asgv, e10, Z.R.run_ok]
    simp
  have nsub : ∀ T ∈ nearP S K V[i] V, T ∈ V := fun T hT => (List.mem_filter.mp hT).1
  have lN : (nearP S K V[i] V).length ≤ V.length := List.length_filter_le _ _
  have hW1 := near_ne (S := S) (K := K) hW0
  have e11 := near14 (fuel := fuel) (k := k + 6) G.h647 g3 (.int w) (.int c) S A V[i] (nearP S K V[i] V) (by omega) (fun T hT => rV T (nsub T hT)) hW1 (by omega) mA (.sh (.lst (tls V))) (.sh (.lst (ils [A, B, K]))) (.sh (.lst (ils [A, B, K]))) y7 (.sh (il B)) (.sh (il K)) (.sh (.int t))
  have s11 : x1 (Cz Pg fuel (k + 7)) (.asg (.v 14) (.lc (.var 16) (.v 16) (.e (.var 13)) [.val (.cmp .Eq (.call 647 [.var 2, .var 16, .var 8] [] []) (.call 647 [.var 2, .var 12, .var 8] [] []))] [16])) (R60 g3 (.int w) (il S) (.int c) (.sh (.lst (tls V))) (.sh (.lst (ils [A, B, K]))) (.sh (.lst (ils [A, B, K]))) y7 (.sh (il A)) (.sh (il B)) (.sh (il K)) (.sh (.int t)) (.sh (tl V[i])) (.ow (.lst (tls (nearP S K V[i] V)))) .no .no .no) = .nx (R60 g3 (.int w) (il S) (.int c) (.sh (.lst (tls V))) (.sh (.lst (ils [A, B, K]))) (.sh (.lst (ils [A, B, K]))) y7 (.sh (il A)) (.sh (il B)) (.sh (il K)) (.sh (.int t)) (.sh (tl V[i])) (.sh (.lst (tls (nearP S K V[i] V)))) (.ow (.lst (tls (nearP S A V[i] (nearP S K V[i] V))))) .no .no) := by
    rw [q_asgv, e11, Z.R.run_ok]
    simp
  have lN2 : (nearP S A V[i] (nearP S K V[i] V)).length ≤ V.length := Nat.le_trans (List.length_filter_le _ _) lN
  obtain ⟨L1, n1, m1, c1⟩ := m_lists677 (fuel := fuel) (k := k + 5) G.h647 G.h677 S B (by omega) mB (nearP S K V[i] V) (by omega) (fun T hT => rV T (nsub T hT))
  obtain ⟨L2, n2, m2, c2⟩ := m_lists677 (fuel := fuel) (k := k + 5) G.h647 G.h677 S B (by omega) mB (nearP S A V[i] (nearP S K V[i] V)) (by omega) (fun T hT => rV T (nsub T (List.mem_filter.mp hT).1))
  have ceq := cnt hW0 n1 m1 n2 m2
  have l1 : L1.length ≤ 65536 := by
    have : L1.length ≤ ((nearP S K V[i] V).map fun W => atP S B W).length := nd_sub L1 _ n1 fun T hT => by
      obtain ⟨W, hW, rfl⟩ := (m1 T).mp hT
      exact List.mem_map.mpr ⟨W, hW, rfl⟩
    rw [List.length_map] at this
    omega
  have p2 : 0 < L2.length := List.length_pos_of_mem ((m2 _).mpr ⟨V[i], near_ne (S := S) (K := A) hW1, rfl⟩)
  have ht1 : 2 ^ t ≤ 65536 := Nat.le_trans (Nat.le_mul_of_pos_left _ p2) (by omega)
  have hl2 : L2.length ≤ 65536 := Nat.le_trans (Nat.le_mul_of_pos_right _ (Nat.two_pow_pos t)) (by omega)
  have ht16 : t ≤ 16 := (Nat.pow_le_pow_iff_right (a := 2) (by decide)).mp (show 2 ^ t ≤ 2 ^ 16 by omega)
  have e642 := m_power3 (fuel := fuel) (k := k + 6) G.h642 t (by omega)
  have em : binI .Mult (L2.length : Int) (2 ^ t) = some (L1.length : Int) := by
    have h1 : ((L2.length : Nat) : Int).natAbs < 2 ^ 20 := by rw [Int.natAbs_natCast]; omega
    have h2 : ((2 : Int) ^ t).natAbs < 2 ^ 20 := by rw [Int.natAbs_pow]; show 2 ^ t < 2 ^ 20; omega
    rw [bI_mul 20 20 h1 h2 (by decide), ceq]
    rw [Int.natCast_mul, Int.natCast_pow]
    rfl
  have q1 : cmpD .Eq (.int (L1.length : Nat)) (.int (L1.length : Nat)) = some true := by
    show some (decide _) = _
    rw [decide_eq_true rfl]
  have s12 : ∃ r', x1 (Cz Pg fuel (k + 7)) (.ret (.cmp .Eq (.call 677 [.var 2, .var 13, .var 9] [] []) (.bin .Mult (.call 677 [.var 2, .var 14, .var 9] [] []) (.call 642 [.var 11] [] [])))) (R60 g3 (.int w) (il S) (.int c) (.sh (.lst (tls V))) (.sh (.lst (ils [A, B, K]))) (.sh (.lst (ils [A, B, K]))) y7 (.sh (il A)) (.sh (il B)) (.sh (il K)) (.sh (.int t)) (.sh (tl V[i])) (.sh (.lst (tls (nearP S K V[i] V)))) (.ow (.lst (tls (nearP S A V[i] (nearP S K V[i] V))))) .no .no) = .ret (.sh (.bl true)) (.io g3 :: r') := by
    refine ⟨[.sh (.int w), .sh (il S), .sh (.int c), .sh (.lst (tls V)), .sh (.lst (ils [A, B, K])), .sh (.lst (ils [A, B, K])), y7, .sh (il A), .sh (il B), .sh (il K), .sh (.int t), .sh (tl V[i]), .sh (.lst (tls (nearP S K V[i] V))), .ow (.lst (tls (nearP S A V[i] (nearP S K V[i] V)))), .no, .no], ?_⟩
    generalize D.lst (tls (nearP S A V[i] (nearP S K V[i] V))) = XN2 at *
    generalize D.lst (tls (nearP S K V[i] V)) = XN at *
    generalize tl V[i] = XW at *
    generalize D.lst (ils [A, B, K]) = X3 at *
    generalize il A = XA at *
    generalize il B = XB at *
    generalize il K = XK at *
    generalize D.lst (tls V) = XV at *
    generalize il S = X at *
    generalize (2 : Int) ^ t = T2 at *
    generalize (L1.length : Int) = n1' at *
    generalize (L2.length : Int) = n2' at *
    simp [G.h677, d__law_lists_v2, c1, c2, G.h642, d__law_power_v3, e642, em, q1]
  obtain ⟨r', s12⟩ := s12
  refine ⟨g3, hg3.mono (by omega), ?_⟩
  rw [show d__law_right_v38.body = s__law_right_v38 from rfl, show s__law_right_v38 = [_, _, _, _, .for_ (.v 7) (.e (.bin .Add (.var 5) (.lst [.lst [], .var 2]))) r605, _, _, _, _, _, _, _] from rfl, start_eq]
  show O.cr d__law_right_v38.modes (xs _ _ [.io g, .no, .no, .no, .no, .no, .no, .no, .no, .no, .no, .no, .no, .no, .no, .no, .no]) = _
  rw [q_xs, s1, Z.O.then_nx, q_xs, s2, Z.O.then_nx, q_xs, s3, Z.O.then_nx, q_xs, s4, Z.O.then_nx, q_xs, e5, Z.O.then_nx, q_xs, s6, Z.O.then_nx, q_xs, s7, Z.O.then_nx, q_xs, s8, Z.O.then_nx, q_xs, s9, Z.O.then_nx, q_xs, s10, Z.O.then_nx, q_xs, s11, Z.O.then_nx, q_xs, s12]
  simp [d__law_right_v38, hg3.shal, O.cr, outsOf]
end
end Z
/-! QW: what parts say at great widths (plain). -/
namespace Z
section
variable {w c : Nat} {S A B K M : List Int}
theorem at2_join : ∀ (A B : List Int), at2 (A ++ B) = at2 A + at2 B + (B.map fun b => btw A b).sum
  | [], B => by
    have : (B.map fun b => btw [] b) = B.map fun _ => 0 := List.map_congr_left fun b _ => rfl
    rw [this]
    have z : ∀ l : List Int, (l.map fun _ => (0 : Nat)).sum = 0 := fun l => by
      induction l with
      | nil => rfl
      | cons x l ih => simp only [List.map_cons, List.sum_cons, ih]
    rw [z, List.nil_append]
    simp [at2]
  | p :: A, B => by
    rw [List.cons_append, at2_cons, at2_cons, at2_join A B, btw_app]
    have e : (B.map fun b => btw (p :: A) b).sum = btw B p + (B.map fun b => btw A b).sum := by
      induction B with
      | nil => rfl
      | cons b B ih =>
        rw [List.map_cons, List.sum_cons, ih, List.map_cons, List.sum_cons]
        have e1 : btw (p :: A) b = v2 (b - p) + btw A b := by simp [btw]
        have e2 : btw (b :: B) p = v2 (p - b) + btw B p := by simp [btw]
        have e3 : v2 (b - p) = v2 (p - b) := by rw [show b - p = -(p - b) by omega, v2_neg]
        rw [e1, e2, e3]
        omega
    rw [e]
    omega
theorem btw_subl {l m : List Int} (h : l.Sublist m) (p : Int) : btw l p ≤ btw m p := by
  induction h with
  | slnil => exact Nat.le_refl _
  | cons x _ ih =>
    refine Nat.le_trans ih ?_
    simp [btw]
  | cons_cons x _ ih =>
    simp only [btw, List.map_cons, List.sum_cons] at ih ⊢
    omega
theorem at2_subl {l m : List Int} (h : l.Sublist m) : at2 l ≤ at2 m := by
  induction h with
  | slnil => exact Nat.le_refl _
  | cons x _ ih => rw [at2_cons]; omega
  | cons_cons x h ih =>
    rw [at2_cons, at2_cons]
    have := btw_subl h x
    omega
/-- all items count: the bits are those of all words but the twos -/
theorem Hb_full (h : Wi w A) (lc : A.length ≤ c) (ha : at2 A < w) : (Hb w A c : Int) = w * A.length - at2 A := by
  have lb := br_len w A
  have hs : (br w A).sum = at2 A := by
    have := nums_sum A A.length
    rw [nums_br h, List.take_of_length_le (by omega), List.take_of_length_le (by rw [ord_len]; omega), at2_perm (ord_perm A)] at this
    exact this
  have small : ∀ x ∈ br w A, x < (w : Int) := fun x hx => by
    have le : ∀ (l : List Int), (∀ y ∈ l, 0 ≤ y) → ∀ x ∈ l, x ≤ l.sum := fun l => by
      induction l with
      | nil => intro _ x hx; cases hx
      | cons y l ih =>
        intro h x hx
        have s0 : 0 ≤ l.sum := by
          have : ∀ l : List Int, (∀ y ∈ l, 0 ≤ y) → 0 ≤ l.sum := fun l => by
            induction l with
            | nil => intro _; exact Int.le_refl _
            | cons y l ih =>
              intro h
              rw [List.sum_cons]
              have := h y List.mem_cons_self
              have := ih fun z hz => h z (List.mem_cons_of_mem _ hz)
              omega
          exact this l fun z hz => h z (List.mem_cons_of_mem _ hz)
        rw [List.sum_cons]
        rcases List.mem_cons.mp hx with rfl | hx
        · omega
        · have := ih (fun z hz => h z (List.mem_cons_of_mem _ hz)) x hx
          have := h y List.mem_cons_self
          omega
    have := le (br w A) (br_nonneg w A) x hx
    omega
  have ce : cnt_w w (br w A) c = br w A := by
    unfold cnt_w
    rw [List.take_of_length_le (by omega)]
    exact List.filter_eq_self.mpr fun x hx => decide_eq_true (small x hx)
  unfold Hb
  rw [ce, pw2_sum w _ fun x hx => ⟨br_nonneg w A x hx, small x hx⟩]
  have sm : ∀ l : List Int, (l.map fun n => (w : Int) - n).sum = w * l.length - l.sum := fun l => by
    induction l with
    | nil => simp
    | cons y l ih =>
      rw [List.map_cons, List.sum_cons, ih, List.sum_cons, List.length_cons, Int.natCast_add, Int.mul_add]
      omega
  rw [sm, lb, hs]
theorem sub_lenN {l m : List Int} (nd : l.Nodup) (h : ∀ x ∈ l, x ∈ m) : l.length ≤ m.length := nd_sub l m nd h
/-- a part in the whole's order -/
theorem subl_of {l m : List Int} (nd : l.Nodup) (h : ∀ x ∈ l, x ∈ m) (nm : m.Nodup) : ∃ t : List Int, l.Perm t ∧ t.Sublist m := by
  refine ⟨m.filter fun x => decide (x ∈ l), ?_, List.filter_sublist⟩
  rw [List.perm_ext_iff_of_nodup nd (nm.sublist List.filter_sublist)]
  intro x
  rw [List.mem_filter, decide_eq_true_eq]
  exact ⟨fun hx => ⟨h x hx, hx⟩, fun hx => hx.2⟩
/-- parts apart say the twos of their differences -/
theorem said_apart (hw : w ≤ 64) (hS : Wi w S) (sA : A.Sublist S) (sB : B.Sublist S) (ap : ∀ x ∈ B, x ∉ A) (lc : S.length ≤ c) (ha : at2 S < w) : saidF w c A B [] = ((B.map fun b => btw A b).sum : Nat) := by
  have wA : Wi w A := ⟨hS.1.sublist sA, fun x hx => hS.2 x (sA.subset hx)⟩
  have wB : Wi w B := ⟨hS.1.sublist sB, fun x hx => hS.2 x (sB.subset hx)⟩
  have nd : (A ++ B).Nodup := List.nodup_append.mpr ⟨wA.1, wB.1, fun a ha b hb e => ap b hb (e ▸ ha)⟩
  have wAB : Wi w (A ++ B) := ⟨nd, fun x hx => (List.mem_append.mp hx).elim (wA.2 x) (wB.2 x)⟩
  have e1 : Hb w (sdI (A ++ [])) c = Hb w A c := Hb_perm hw (sd_wi wA fun x hx => by simpa using hx) wA fun x => by rw [sd_mem]; simp
  have e2 : Hb w (sdI (B ++ [])) c = Hb w B c := Hb_perm hw (sd_wi wB fun x hx => by simpa using hx) wB fun x => by rw [sd_mem]; simp
  have e3 : Hb w (sdI (A ++ (B ++ []))) c = Hb w (A ++ B) c := Hb_perm hw (sd_wi wAB fun x hx => by simpa using hx) wAB fun x => by rw [sd_mem]; simp
  have lA := sA.length_le
  have lB := sB.length_le
  have lAB : (A ++ B).length ≤ S.length := sub_lenN nd fun x hx => (List.mem_append.mp hx).elim (fun h => sA.subset h) fun h => sB.subset h
  have aA := at2_subl sA
  have aB := at2_subl sB
  have aAB : at2 (A ++ B) ≤ at2 S := by
    obtain ⟨T, hT, sT⟩ := subl_of nd (fun x hx => (List.mem_append.mp hx).elim (fun h => sA.subset h) fun h => sB.subset h) hS.1
    rw [at2_perm hT]
    exact at2_subl sT
  have h1 := Hb_full (c := c) wA (by omega) (by omega)
  have h2 := Hb_full (c := c) wB (by omega) (by omega)
  have h3 := Hb_full (c := c) wAB (by omega) (by omega)
  have j := at2_join A B
  unfold saidF
  rw [e1, e2, e3, Hb_nil, h1, h2, h3, List.length_append, Int.natCast_add, Int.mul_add, j]
  omega
end
end Z
/-! QY: the rule of chains (plain). -/
namespace Z
section
variable {w c : Nat} {S A B K M KM BM : List Int}
theorem Hb_sd (hw : w ≤ 64) (hS : Wi w S) {X Y : List Int} (sX : ∀ x ∈ X, x ∈ S) (m : ∀ x, x ∈ X ↔ x ∈ Y) : Hb w (sdI X) c = Hb w (sdI Y) c :=
  Hb_perm hw (sd_wi hS sX) (sd_wi hS fun x hx => sX x ((m x).mpr hx)) fun x => by rw [sd_mem, sd_mem]; exact m x
theorem Hb_own (hw : w ≤ 64) (hS : Wi w S) {X Y : List Int} (sX : ∀ x ∈ X, x ∈ S) (nd : Y.Nodup) (m : ∀ x, x ∈ X ↔ x ∈ Y) : Hb w (sdI X) c = Hb w Y c :=
  Hb_perm hw (sd_wi hS sX) ⟨nd, fun x hx => hS.2 x (sX x ((m x).mpr hx))⟩ fun x => by rw [sd_mem]; exact m x
theorem said_chain (hw : w ≤ 64) (hS : Wi w S) (sA : A.Sublist S) (sB : B.Sublist S) (sK : K.Sublist S) (sM : M.Sublist S) (nKM : KM.Nodup) (mKM : ∀ x, x ∈ KM ↔ x ∈ K ∨ x ∈ M) (mBM : ∀ x, x ∈ BM ↔ x ∈ B ∨ x ∈ M) : saidF w c A BM K = saidF w c A M K + saidF w c A B KM := by
  have mA : ∀ x ∈ A, x ∈ S := fun x hx => sA.subset hx
  have mB : ∀ x ∈ B, x ∈ S := fun x hx => sB.subset hx
  have mK : ∀ x ∈ K, x ∈ S := fun x hx => sK.subset hx
  have mM : ∀ x ∈ M, x ∈ S := fun x hx => sM.subset hx
  have e1 : Hb w (sdI (M ++ K)) c = Hb w KM c := Hb_own hw hS (fun x hx => (List.mem_append.mp hx).elim (mM x) (mK x)) nKM fun x => by rw [List.mem_append, mKM]; exact Or.comm
  have e2 : Hb w (sdI (A ++ (M ++ K))) c = Hb w (sdI (A ++ KM)) c := Hb_sd hw hS (fun x hx => by
    rcases List.mem_append.mp hx with h | h
    · exact mA x h
    · exact (List.mem_append.mp h).elim (mM x) (mK x)) fun x => by
    simp only [List.mem_append, mKM]
    constructor
    · rintro (h | h | h) <;> simp [h]
    · rintro (h | h | h) <;> simp [h]
  have e3 : Hb w (sdI (BM ++ K)) c = Hb w (sdI (B ++ KM)) c := Hb_sd hw hS (fun x hx => by
    rcases List.mem_append.mp hx with h | h
    · exact ((mBM x).mp h).elim (mB x) (mM x)
    · exact mK x h) fun x => by
    simp only [List.mem_append, mKM, mBM]
    constructor
    · rintro ((h | h) | h) <;> simp [h]
    · rintro (h | h | h) <;> simp [h]
  have e4 : Hb w (sdI (A ++ (BM ++ K))) c = Hb w (sdI (A ++ (B ++ KM))) c := Hb_sd hw hS (fun x hx => by
    rcases List.mem_append.mp hx with h | h
    · exact mA x h
    · rcases List.mem_append.mp h with h | h
      · exact ((mBM x).mp h).elim (mB x) (mM x)
      · exact mK x h) fun x => by
    simp only [List.mem_append, mKM, mBM]
    constructor
    · rintro (h | (h | h) | h) <;> simp [h]
    · rintro (h | h | h | h) <;> simp [h]
  unfold saidF
  rw [e1, e2, e3, e4]
  omega
theorem said_more (hw : w ≤ 64) (hS : Wi w S) (sA : A.Sublist S) (sB : B.Sublist S) (sK : K.Sublist S) (sM : M.Sublist S) (mBM : ∀ x, x ∈ BM ↔ x ∈ B ∨ x ∈ M) : saidF w c A B K ≤ saidF w c A BM K := by
  have mA : ∀ x ∈ A, x ∈ S := fun x hx => sA.subset hx
  have mB : ∀ x ∈ B, x ∈ S := fun x hx => sB.subset hx
  have mK : ∀ x ∈ K, x ∈ S := fun x hx => sK.subset hx
  have mBMS : ∀ x ∈ BM, x ∈ S := fun x hx => ((mBM x).mp hx).elim (mB x) fun h => sM.subset h
  have wi : ∀ L : List Int, (∀ x ∈ L, x ∈ S) → Wi w (sdI L) := fun L h => sd_wi hS h
  have := Hb_sub (c := c) (X := sdI (BM ++ K)) (Y := sdI (A ++ (B ++ K))) (Z' := sdI (A ++ (BM ++ K))) (T := sdI (B ++ K)) hw
    (wi _ fun x hx => (List.mem_append.mp hx).elim (mBMS x) (mK x))
    (wi _ fun x hx => (List.mem_append.mp hx).elim (mA x) fun h => (List.mem_append.mp h).elim (mB x) (mK x))
    (wi _ fun x hx => (List.mem_append.mp hx).elim (mA x) fun h => (List.mem_append.mp h).elim (mBMS x) (mK x))
    (wi _ fun x hx => (List.mem_append.mp hx).elim (mB x) (mK x))
    (fun x => by
      simp only [sd_mem, List.mem_append, mBM]
      constructor
      · rintro (h | (h | h) | h) <;> simp [h]
      · rintro (((h | h) | h) | h | h | h) <;> simp [h])
    (fun x hx => by
      rw [sd_mem, List.mem_append] at hx ⊢
      exact hx.elim (fun h => .inl ((mBM x).mpr (.inl h))) .inr)
    (fun x hx => by
      rw [sd_mem] at hx ⊢
      exact List.mem_append_right _ hx)
  unfold saidF
  omega
theorem said_own (hw : w ≤ 64) (hS : Wi w S) (sA : A.Sublist S) : saidF w c A A [] = Hb w A c := by
  have mA : ∀ x ∈ A, x ∈ S := fun x hx => sA.subset hx
  have nA : A.Nodup := hS.1.sublist sA
  have e1 : Hb w (sdI (A ++ [])) c = Hb w A c := Hb_own hw hS (fun x hx => mA x (by simpa using hx)) nA fun x => by simp
  have e2 : Hb w (sdI (A ++ (A ++ []))) c = Hb w A c := Hb_own hw hS (fun x hx => mA x (by simpa using hx)) nA fun x => by simp
  unfold saidF
  rw [e1, e2, Hb_nil]
  omega
end
end Z
/-! QZ: how many codewords; the four parts of a great code; sorted joins. -/
namespace Z
open PySem (Str Operator CmpOp)
theorem sub_ltN : ∀ {S W : List Int}, S.Pairwise (· < ·) → W.Pairwise (· < ·) → (∀ x ∈ W, x ∈ S) → W.Sublist S
  | [], [], _, _, _ => .slnil
  | [], x :: W, _, _, h => absurd (h x List.mem_cons_self) List.not_mem_nil
  | s :: S, [], _, _, _ => List.nil_sublist _
  | s :: S, x :: W, hS, hW, h => by
    obtain ⟨s1, s2⟩ := List.pairwise_cons.mp hS
    obtain ⟨w1, w2⟩ := List.pairwise_cons.mp hW
    by_cases c : x = s
    · subst c
      refine List.Sublist.cons₂ _ (sub_ltN s2 w2 fun y hy => ?_)
      rcases List.mem_cons.mp (h y (List.mem_cons_of_mem _ hy)) with e | m
      · have := w1 y hy; omega
      · exact m
    · have hx : x ∈ S := (List.mem_cons.mp (h x List.mem_cons_self)).resolve_left c
      have sx := s1 x hx
      refine List.Sublist.cons _ (sub_ltN s2 hW fun y hy => ?_)
      rcases List.mem_cons.mp hy with rfl | hy
      · exact hx
      · rcases List.mem_cons.mp (h y (List.mem_cons_of_mem _ hy)) with e | m
        · have := w1 y hy; omega
        · exact m
section
variable {Pg : Nat → Option Df} {fuel k f : Nat} {C : Cf}
theorem szp_Hb (w : Nat) (S : List Int) (c : Nat) : szp (w : Int) (br w S) c = (Hb w S c : Nat) := by
  unfold szp Hb
  rw [← cnt_take w S c]
  rw [pw2_sum w _ fun x hx => by
    have hx : x ∈ ((br w S).take c).filter fun n => decide (n < (w : Int)) := hx
    obtain ⟨m1, m2⟩ := List.mem_filter.mp hx
    exact ⟨br_nonneg w S x (List.mem_of_mem_take m1), of_decide_eq_true m2⟩]
theorem m_hm675 (G : L60 Pg) (h7 : Pg 7 = some d_items_counted) (h211 : Pg 211 = some d_size_power) (h : Pg f = some d_how_many_codewords_v1) (hf : 1000 ≤ fuel) (w : Nat) (hw : 1 ≤ w ∧ w ≤ 64) (S : List Int) (hS : PlW w S) (lS : S.length ≤ 900) (c : Int) (hc : 0 ≤ c) :
    callD Pg fuel (k + 7) f [.int w, il S, .int c] = .ok (.sh (.int (2 ^ Hb w S c.toNat))) [] := by
  rw [callD_eq h ⟨rfl, Nat.le_of_ble_eq_true rfl⟩]
  have e1 := m_check_code (fuel := fuel) (k := k) G.b G.h2 G.h19 w hw S lS hS c hc
  have e2 := m_rowQ (fuel := fuel) (k := k + 4) G.b w hw.2 hf S lS hS.wi
  have lb := br_len w S
  have e3 := m_szp (fuel := fuel) (k := k + 4) h7 h211 (w : Int) (br w S) (by omega) c hc
  rw [szp_Hb] at e3
  have hb : Hb w S c.toNat ≤ 64 * 900 := by
    unfold Hb
    have := cnt_len w S c.toNat
    exact Nat.le_trans (pw2_le w _) (Nat.mul_le_mul hw.2 (by omega))
  have e4 := m_pow (fuel := fuel) (k := k + 5) G.b.h3 (Hb w S c.toNat) (by omega)
  have i1 : ∀ a b : D, idxD (.tup [a, b]) (.int 1) = some b := fun _ _ => rfl
  generalize (2 : Int) ^ Hb w S c.toNat = P at *
  generalize (Hb w S c.toNat : Int) = n at *
  generalize il (br w S) = X1 at *
  generalize il (ord S) = X2 at *
  generalize il S = XS at *
  simp [d_how_many_codewords_v1, s_how_many_codewords_v1, start_eq, G.h19, d_check_code, e1, G.b.h5, d_good_row, e2, i1, h211, d_size_power, e3, G.b.h3, d_power_of_two, e4]
abbrev R20 (g w c : D) (y3 y4 y5 y6 y7 y8 y9 y10 y11 y12 y13 y14 y15 y16 y17 y18 y19 : Sl) : En := [.io g, .sh w, .sh c, y3, y4, y5, y6, y7, y8, y9, y10, y11, y12, y13, y14, y15, y16, y17, y18, y19]
theorem parts4_lc (G : L60 Pg) (m : Nat) (hm : m ≤ 800000) (g : D) (hg : Gd m g) (w c : D) (S : List Int) (lS : S.length ≤ 30) :
    ∃ (A B K M : List Int) (g' : D), A.Sublist S ∧ B.Sublist S ∧ K.Sublist S ∧ M.Sublist S ∧ Gd (m + 360) g' ∧ ev (Cz Pg fuel (k + 7)) (.lc (.call 646 [.var 0, .var 3] [] []) (.v 16) (.rng1 (.con (.int 4))) [] [16]) (R20 g w c (.ow (il S)) .no .no .no .no .no .no .no .no .no .no .no .no .no .no .no .no) = .ok (.ow (.lst (ils [A, B, K, M]))) (R20 g' w c (.sh (il S)) .no .no .no .no .no .no .no .no .no .no .no .no .no .no .no .no) := by
  have er := rng1_eq (C := Cz Pg fuel (k + 7)) (b := .con (.int 4)) (r := R20 g w c (.ow (il S)) .no .no .no .no .no .no .no .no .no .no .no .no .no .no .no .no) (r2 := R20 g w c (.ow (il S)) .no .no .no .no .no .no .no .no .no .no .no .no .no .no .no .no) (y := .inr (.int 4)) (j := ((4 : Nat) : Int)) (by simp) (by simp) (by omega)
  obtain ⟨ds, r6, ln, ⟨F, g', y3, y16, rfl, sF, rfl, h3, h16, hg'⟩, e⟩ := lc_acc (C := Cz Pg fuel (k + 7)) (e := .call 646 [.var 0, .var 3] [] []) (t := .v 16) (ts := []) (own := [16])
    (fun acc r => ∃ (F : List (List Int)) (g' : D) (y3 y16 : Sl), acc = ils F ∧ (∀ A ∈ F, A.Sublist S) ∧ r = R20 g' w c y3 .no .no .no .no .no .no .no .no .no .no .no .no y16 .no .no .no ∧ ((F = [] ∧ y3 = .ow (il S)) ∨ (F ≠ [] ∧ y3 = .sh (il S))) ∧ Pn y16 ∧ Gd (m + 90 * F.length) g') er rfl rfl (by rw [rng0_len]; exact line_le (by omega)) (by
      rintro x hx acc r ha ⟨F, g1, y3, y16, rfl, sF, rfl, h3, h16, hg1⟩
      rw [rng0_len] at ha
      have la : F.length < 4 := by simpa [ils] using ha
      obtain ⟨A, g2, sA, hg2, e1⟩ := m_part646 (fuel := fuel) (k := k + 4) G.h32 G.h33 G.h646 (m + 90 * F.length) (by omega) g1 hg1 S lS
      obtain ⟨j, hj, rfl⟩ := List.getElem_of_mem hx
      rw [rng0_get]
      refine ⟨il A, R20 g2 w c (.sh (il S)) .no .no .no .no .no .no .no .no .no .no .no .no (.sh (.int j)) .no .no .no, ?_, F ++ [A], g2, _, _, by simp [ils], fun T hT => ?_, rfl, .inr ⟨by simp, rfl⟩, .inr ⟨_, rfl⟩, hg2.mono (by simp; omega)⟩
      · have h3' : y3 = .ow (il S) ∨ y3 = .sh (il S) := h3.imp (fun h => h.2) fun h => h.2
        have fA : flat (il A) = false := rfl
        generalize il A = XA at *
        generalize il S = XS at *
        rcases h3' with rfl | rfl <;> rcases h16 with rfl | ⟨_, rfl⟩ <;> simp [lcF, wip, bindT, G.h646, d__law_part, e1, hg2.shal, fA]
      · rcases List.mem_append.mp hT with h | h
        · exact sF T h
        · rw [List.mem_singleton] at h
          subst h
          exact sA) ⟨[], g, _, .no, rfl, by simp, rfl, .inl ⟨rfl, rfl⟩, .inl rfl, hg⟩
  rw [rng0_len] at ln
  have lF : F.length = 4 := by simpa [ils] using ln
  match F, lF, sF with
  | [A, B, K, M], _, sF =>
    obtain rfl : y3 = .sh (il S) := by
      rcases h3 with ⟨h, _⟩ | ⟨_, h⟩
      · cases h
      · exact h
    refine ⟨A, B, K, M, g', sF A (by simp), sF B (by simp), sF K (by simp), sF M (by simp), hg', ?_⟩
    rw [e, thawL_nf rfl]
    rfl
/-- more places joined to a part, sorted -/
theorem join_sub {S K M : List Int} (hS : S.Pairwise (· < ·)) (sK : K.Sublist S) (sM : M.Sublist S) : (sortI (K ++ M.filter fun x => !decide (x ∈ K))).Sublist S ∧ (∀ x, x ∈ sortI (K ++ M.filter fun x => !decide (x ∈ K)) ↔ x ∈ K ∨ x ∈ M) ∧ (sortI (K ++ M.filter fun x => !decide (x ∈ K))).length ≤ S.length := by
  have nS : S.Nodup := hS.imp fun h => Int.ne_of_lt h
  have nd : (K ++ M.filter fun x => !decide (x ∈ K)).Nodup := by
    refine List.nodup_append.mpr ⟨nS.sublist sK, (nS.sublist sM).sublist List.filter_sublist, fun a ha b hb e => ?_⟩
    have := (List.mem_filter.mp hb).2
    subst e
    simp [ha] at this
  have mem : ∀ x, x ∈ sortI (K ++ M.filter fun x => !decide (x ∈ K)) ↔ x ∈ K ∨ x ∈ M := fun x => by
    rw [(sortI_perm _).mem_iff, List.mem_append, List.mem_filter]
    by_cases c : x ∈ K <;> simp [c]
  have sub : (sortI (K ++ M.filter fun x => !decide (x ∈ K))).Sublist S := sub_ltN hS (sort_lt nd) fun x hx => ((mem x).mp hx).elim (fun h => sK.subset h) fun h => sM.subset h
  exact ⟨sub, mem, sub.length_le⟩
end
end Z
/-! RA: the places of a great code. -/
namespace Z
open PySem (Str Operator CmpOp)
def pl14 : List Int := (List.range 14).map fun (i : Nat) => 7 * (i : Int) + 2 ^ i
theorem pl14_ok : pl14.Nodup ∧ pl14.length = 14 ∧ ∀ x ∈ pl14, 0 ≤ x ∧ x ≤ 8283 := by decide +kernel
theorem rng0_natP (n : Nat) : rangeI 0 (n : Int) 1 = (List.range n).map fun (i : Nat) => (i : Int) := by
  have h : rangeN 0 (n : Int) 1 = n := by
    have := rng0_len n
    rwa [List.length_map, rangeI, List.length_map, List.length_range] at this
  unfold rangeI
  rw [h]
  apply List.map_congr_left
  intro k _
  omega
section
variable {Pg : Nat → Option Df} {fuel k f : Nat} {C : Cf}
theorem l14_lc (G : L60 Pg) (g w c : D) (hg : shal g = true) : ev (Cz Pg fuel (k + 7)) (.lc (.bin .Add (.bin .Mult (.con (.int 7)) (.var 15)) (.call 642 [.var 15] [] [])) (.v 15) (.rng1 (.con (.int 14))) [] [15]) (R20 g w c .no .no .no .no .no .no .no .no .no .no .no .no .no .no .no .no .no) = .ok (.ow (il pl14)) (R20 g w c .no .no .no .no .no .no .no .no .no .no .no .no .no .no .no .no .no) := by
  have er := rng1_eq (C := Cz Pg fuel (k + 7)) (b := .con (.int 14)) (r := R20 g w c .no .no .no .no .no .no .no .no .no .no .no .no .no .no .no .no .no) (r2 := R20 g w c .no .no .no .no .no .no .no .no .no .no .no .no .no .no .no .no .no) (y := .inr (.int 14)) (j := ((14 : Nat) : Int)) (by simp) (by simp) (by omega)
  rw [lc_run (fun d => match d with | D.int i => some (D.int (7 * i + 2 ^ i.toNat)) | _ => none) er rfl rfl (by rw [rng0_len]; exact line_le (by omega)) ?hh]
  · have q : ((rangeI 0 ((14 : Nat) : Int) 1).map D.int).filterMap (fun d => match d with | D.int i => some (D.int (7 * i + 2 ^ i.toNat)) | _ => none) = pl14.map .int := by
      rw [rng0_natP]
      unfold pl14
      generalize List.range 14 = l
      induction l with
      | nil => rfl
      | cons x l ih =>
        simp only [List.map_cons, List.filterMap_cons, Int.toNat_natCast] at ih ⊢
        rw [ih]
    rw [q]
    exact thawL_self _ _
  · intro x hx
    rw [rng0_natP, List.map_map] at hx
    obtain ⟨j, hj, rfl⟩ := List.mem_map.mp hx
    rw [List.mem_range] at hj
    have e1 := m_power3 (fuel := fuel) (k := k + 6) G.h642 j (by omega)
    have em : binI .Mult 7 (j : Int) = some (7 * j) := bI_mul 20 20 (by decide) (by omega) (by decide)
    refine ⟨R20 g w c .no .no .no .no .no .no .no .no .no .no .no .no (.sh (.int j)) .no .no .no .no, ?_, rfl⟩
    show _ = R.ok (some (D.int (7 * (j : Int) + 2 ^ ((j : Int)).toNat))) _
    rw [Int.toNat_natCast]
    generalize (2 : Int) ^ j = P at *
    simp [lcF, wip, bindT, em, G.h642, d__law_power_v3, e1]
end
end Z
/-! RB: sums of twos. -/
namespace Z
open PySem (Str Operator CmpOp)
section
variable {Pg : Nat → Option Df} {fuel k f : Nat} {C : Cf}
abbrev T20 (g w c S A d5 d6 d7 d8 d9 d10 d11 : D) (y12 y13 y14 y18 y19 : Sl) : En := R20 g w c (.sh S) (.sh A) (.sh d5) (.sh d6) (.sh d7) (.ow d8) (.sh d9) (.ow d10) (.sh d11) y12 y13 y14 .no .no .no y18 y19
theorem tw_in (h79 : Pg 79 = some d__law_twos_v1) (hf : 1000 ≤ fuel) (g w c S d5 d6 d7 d8 d9 d10 d11 : D) (A : List Int) (lA : A.length ≤ 900) (b : Int) (hd : ∀ a ∈ A, a ≠ b ∧ (a - b).natAbs < 2 ^ 64) (y12 y13 y14 : Sl) :
    ev (Cz Pg fuel (k + 1)) (.lc (.call 79 [.bin .Sub (.var 19) (.var 18)] [] []) (.v 19) (.e (.var 4)) [] [19]) (T20 g w c S (il A) d5 d6 d7 d8 d9 d10 d11 y12 y13 y14 (.sh (.int b)) .no) = .ok (.ow (il (A.map fun a => (v2 (a - b) : Int)))) (T20 g w c S (il A) d5 d6 d7 d8 d9 d10 d11 y12 y13 y14 (.sh (.int b)) .no) := by
  rw [lc_run (r1 := T20 g w c S (il A) d5 d6 d7 d8 d9 d10 d11 y12 y13 y14 (.sh (.int b)) .no) (l := A.map .int) (fun d => match d with | D.int a => some (D.int (v2 (a - b) : Nat)) | _ => none)]
  · have q : List.filterMap (fun d => match d with | D.int a => some (D.int (v2 (a - b) : Nat)) | _ => none) (A.map D.int) = (A.map fun a => (v2 (a - b) : Int)).map .int := by
      clear lA hd
      induction A with
      | nil => rfl
      | cons x l ih => simp only [List.map_cons, List.filterMap_cons, ih]
    rw [q]
    exact thawL_self _ _
  · simp [itemsD]
  · rfl
  · rfl
  · exact line_le (by simp; omega)
  · intro x hx
    obtain ⟨a, ha, rfl⟩ := List.mem_map.mp hx
    obtain ⟨n1, n2⟩ := hd a ha
    have e1 := m_twos1 (fuel := fuel) (k := k) h79 64 (a - b) (by omega) n2 (by omega)
    refine ⟨T20 g w c S (il A) d5 d6 d7 d8 d9 d10 d11 y12 y13 y14 (.sh (.int b)) (.sh (.int a)), ?_, rfl⟩
    generalize il A = XA at *
    simp [lcF, wip, bindT, h79, d__law_twos_v1, e1]
theorem tw_sum (A : List Int) (b : Int) : (A.map fun a => (v2 (a - b) : Int)).sum = (btw A b : Nat) := by
  induction A with
  | nil => rfl
  | cons x l ih =>
    have e : v2 (x - b) = v2 (b - x) := by rw [show x - b = -(b - x) by omega, v2_neg]
    rw [List.map_cons, List.sum_cons, ih, btw_cons, e]
    omega
theorem tw_sums (h79 : Pg 79 = some d__law_twos_v1) (hf : 1000 ≤ fuel) (g w c S d5 d6 d7 d8 d9 d10 d11 : D) (hg : shal g = true) (h8 : shal d8 = true) (h10 : shal d10 = true) (A B : List Int) (lA : A.length ≤ 900) (lB : B.length ≤ 900) (hd : ∀ b ∈ B, ∀ a ∈ A, a ≠ b ∧ (a - b).natAbs < 2 ^ 64) (y13 y14 : Sl) (h13 : Pn y13) (h14 : Pn y14) :
    ev (Cz Pg fuel (k + 1)) (.bi .sum [.lc (.bi .sum [.lc (.call 79 [.bin .Sub (.var 19) (.var 18)] [] []) (.v 19) (.e (.var 4)) [] [19]]) (.v 18) (.e (.var 12)) [] [18]]) (T20 g w c S (il A) d5 d6 d7 d8 d9 d10 d11 (.ow (il B)) y13 y14 .no .no) = .ok (.sh (.int ((B.map fun b => btw A b).sum : Nat))) (T20 g w c S (il A) d5 d6 d7 d8 d9 d10 d11 (.ow (il B)) y13 y14 .no .no) := by
  have el : ev (Cz Pg fuel (k + 1)) (.lc (.bi .sum [.lc (.call 79 [.bin .Sub (.var 19) (.var 18)] [] []) (.v 19) (.e (.var 4)) [] [19]]) (.v 18) (.e (.var 12)) [] [18]) (T20 g w c S (il A) d5 d6 d7 d8 d9 d10 d11 (.ow (il B)) y13 y14 .no .no) = .ok (.ow (il (B.map fun b => (btw A b : Int)))) (T20 g w c S (il A) d5 d6 d7 d8 d9 d10 d11 (.ow (il B)) y13 y14 .no .no) := by
    rw [lc_run (r1 := T20 g w c S (il A) d5 d6 d7 d8 d9 d10 d11 (.sh (il B)) y13 y14 .no .no) (l := B.map .int) (fun d => match d with | D.int b => some (D.int (btw A b : Nat)) | _ => none)]
    · have q : List.filterMap (fun d => match d with | D.int b => some (D.int (btw A b : Nat)) | _ => none) (B.map D.int) = (B.map fun b => (btw A b : Int)).map .int := by
        clear lB hd
        induction B with
        | nil => rfl
        | cons x l ih => simp only [List.map_cons, List.filterMap_cons, ih]
      rw [q]
      simp only [thawL, flat_il, if_true]
      have f1 : shal (il B) = true := flat_il B
      generalize il B = XB at *
      generalize il A = XA at *
      rcases h13 with rfl | ⟨_, rfl⟩ <;> rcases h14 with rfl | ⟨_, rfl⟩ <;> simp [thw, thw1, f1, hg, h8, h10]
    · generalize il A = XA at *
      simp [itemsD]
    · rfl
    · rfl
    · exact line_le (by simp; omega)
    · intro x hx
      obtain ⟨b, hb, rfl⟩ := List.mem_map.mp hx
      have e1 := tw_in (k := k) h79 hf g w c S d5 d6 d7 d8 d9 d10 d11 A lA b (hd b hb) (.sh (il B)) y13 y14
      have es : biD .sum [il (A.map fun a => (v2 (a - b) : Int))] = some (.sh (.int (btw A b : Nat))) := by
        rw [← tw_sum]
        exact bi_sum_il
      refine ⟨T20 g w c S (il A) d5 d6 d7 d8 d9 d10 d11 (.sh (il B)) y13 y14 (.sh (.int b)) .no, ?_, rfl⟩
      generalize il (A.map fun a => (v2 (a - b) : Int)) = X at *
      generalize il A = XA at *
      generalize il B = XB at *
      simp [lcF, wip, bindT, e1, es]
  have es : biD .sum [il (B.map fun b => (btw A b : Int))] = some (.sh (.int ((B.map fun b => btw A b).sum : Nat))) := by
    rw [← sum_cast, List.map_map]
    exact bi_sum_il
  generalize il (B.map fun b => (btw A b : Int)) = X at *
  generalize il A = XA at *
  generalize il B = XB at *
  simp [el, es]
end
end Z
/-! RC: sums of all twos of a row; what is not in a part. -/
namespace Z
open PySem (Str Operator CmpOp)
theorem fm_out6 (Q : List Int) : ∀ l : List Int, List.filterMap (fun x => match x with | D.int a => if decide (a ∈ Q) = false then some (D.int a) else none | _ => none) (l.map D.int) = (l.filter fun a => !decide (a ∈ Q)).map .int
  | [] => rfl
  | x :: l => by
    have ih := fm_out6 Q l
    simp only [List.map_cons, List.filterMap_cons, List.filter_cons] at ih ⊢
    rw [ih]
    by_cases c : x ∈ Q <;> simp [c]
theorem not_in_il6 (x : Int) (l : List Int) : cmpD .NotIn (.int x) (il l) = some (!decide (x ∈ l)) := by
  have := in_take x l.length l
  rw [List.take_of_length_le (by rw [List.length_map]; exact Nat.le_refl _), List.take_length] at this
  exact this
theorem fm_oth (b : Int) : ∀ l : List Int, List.filterMap (fun d => match d with | D.int a => if a = b then none else some (D.int (v2 (a - b) : Nat)) | _ => none) (l.map D.int) = ((l.filter fun a => !decide (a = b)).map fun a => (v2 (a - b) : Int)).map .int
  | [] => rfl
  | x :: l => by
    have ih := fm_oth b l
    simp only [List.map_cons, List.filterMap_cons, List.filter_cons] at ih ⊢
    rw [ih]
    by_cases c : x = b <;> simp [c]
theorem v2_zero6 : v2 0 = 0 := by
  rw [v2, dif_neg (by omega)]
theorem oth_sum (b : Int) : ∀ l : List Int, ((l.filter fun a => !decide (a = b)).map fun a => (v2 (a - b) : Int)).sum = (btw l b : Nat)
  | [] => rfl
  | x :: l => by
    have ih := oth_sum b l
    rw [List.filter_cons]
    by_cases c : x = b
    · subst c
      rw [btw_cons, show x - x = 0 by omega, v2_zero6]
      simp only [decide_true, Bool.not_true, Bool.false_eq_true, if_false]
      rw [ih]
      omega
    · have e : v2 (x - b) = v2 (b - x) := by rw [show x - b = -(b - x) by omega, v2_neg]
      simp only [c, decide_false, Bool.not_false, if_true, List.map_cons, List.sum_cons]
      rw [ih, btw_cons, e]
      omega
theorem all_twos : ∀ S : List Int, (S.map fun b => btw S b).sum = 2 * at2 S
  | [] => rfl
  | p :: S => by
    have ih := all_twos S
    have e : ∀ T : List Int, (T.map fun b => btw (p :: S) b).sum = btw T p + (T.map fun b => btw S b).sum := fun T => by
      induction T with
      | nil => rfl
      | cons b T ih =>
        have e3 : v2 (b - p) = v2 (p - b) := by rw [show b - p = -(p - b) by omega, v2_neg]
        rw [List.map_cons, List.sum_cons, ih, List.map_cons, List.sum_cons, btw_cons, btw_cons, e3]
        omega
    rw [List.map_cons, List.sum_cons, e S, ih, at2_cons, btw_cons, show p - p = 0 by omega, v2_zero6]
    omega
section
variable {Pg : Nat → Option Df} {fuel k f : Nat} {C : Cf}
/-- those of one part that are not in another one -/
theorem out_lc (i j : Nat) (K M : List Int) (r : En) (lr : r.length = 20) (hi : r[i]? = some (.sh (il K))) (hj : r[j]? = some (.sh (il M))) (h17 : r[17]? = some .no) (ni : i ≠ 17) (lM : M.length ≤ 900) :
    ev C (.lc (.var 17) (.v 17) (.e (.var j)) [.val (.cmp .NotIn (.var 17) (.var i))] [17]) r = .ok (.ow (il (M.filter fun a => !decide (a ∈ K)))) r := by
  have hx : wip r [17] = r := by
    show r.set 17 .no = r
    obtain ⟨hl, e⟩ := List.getElem?_eq_some_iff.mp h17
    conv => lhs; rw [← e]
    exact List.set_getElem_self hl
  rw [lc_run (r1 := r) (l := M.map .int) (fun x => match x with | D.int a => if decide (a ∈ K) = false then some (D.int a) else none | _ => none)]
  · rw [fm_out6]
    exact thawL_self _ _
  · simp only [q_ie]
    have : ev C (.var j) r = .ok (.sh (il M)) r := by simp [hj]
    rw [this]
    rfl
  · show ownFree r [17] = true
    simp [ownFree, h17]
  · rfl
  · exact line_le (by simp; omega)
  · intro x hx2
    obtain ⟨a, ha, rfl⟩ := List.mem_map.mp hx2
    rw [hx]
    have nI := not_in_il6 a K
    have g1 : (r.set 17 (.sh (.int a)))[17]? = some (.sh (.int a)) := by rw [List.getElem?_set_self (by omega)]
    have g2 : (r.set 17 (.sh (.int a)))[i]? = some (.sh (il K)) := by rw [List.getElem?_set_ne (by omega)]; exact hi
    refine ⟨r.set 17 (.sh (.int a)), ?_, ?_⟩
    · show _ = R.ok (if decide (a ∈ K) = false then some (D.int a) else none) _
      generalize decide (a ∈ K) = b at *
      generalize il K = XK at *
      cases b <;> simp [lcF, hx, bindT, En.put, h17, g1, g2, nI]
    · show (r.set 17 _).set 17 .no = r
      rw [List.set_set]
      exact hx
theorem tw_in2 (h79 : Pg 79 = some d__law_twos_v1) (hf : 1000 ≤ fuel) (g w c A d5 d6 d7 d8 d9 d10 d11 : D) (S : List Int) (lS : S.length ≤ 900) (b : Int) (hd : ∀ a ∈ S, (a - b).natAbs < 2 ^ 64) (y12 y13 y14 : Sl) :
    ev (Cz Pg fuel (k + 1)) (.lc (.call 79 [.bin .Sub (.var 19) (.var 18)] [] []) (.v 19) (.e (.var 3)) [.val (.cmp .NotEq (.var 19) (.var 18))] [19]) (T20 g w c (il S) A d5 d6 d7 d8 d9 d10 d11 y12 y13 y14 (.sh (.int b)) .no) = .ok (.ow (il ((S.filter fun a => !decide (a = b)).map fun a => (v2 (a - b) : Int)))) (T20 g w c (il S) A d5 d6 d7 d8 d9 d10 d11 y12 y13 y14 (.sh (.int b)) .no) := by
  rw [lc_run (r1 := T20 g w c (il S) A d5 d6 d7 d8 d9 d10 d11 y12 y13 y14 (.sh (.int b)) .no) (l := S.map .int) (fun d => match d with | D.int a => if a = b then none else some (D.int (v2 (a - b) : Nat)) | _ => none)]
  · rw [fm_oth]
    exact thawL_self _ _
  · simp [itemsD]
  · rfl
  · rfl
  · exact line_le (by simp; omega)
  · intro x hx
    obtain ⟨a, ha, rfl⟩ := List.mem_map.mp hx
    refine ⟨T20 g w c (il S) A d5 d6 d7 d8 d9 d10 d11 y12 y13 y14 (.sh (.int b)) (.sh (.int a)), ?_, rfl⟩
    show _ = R.ok (if a = b then none else some (D.int (v2 (a - b) : Nat))) _
    by_cases c1 : a = b
    · subst c1
      generalize il S = XS at *
      simp [lcF, wip, bindT]
    · have e1 := m_twos1 (fuel := fuel) (k := k) h79 64 (a - b) (by omega) (hd a ha) (by omega)
      generalize il S = XS at *
      simp [lcF, wip, bindT, h79, d__law_twos_v1, e1, c1]
theorem tw_all (h79 : Pg 79 = some d__law_twos_v1) (hf : 1000 ≤ fuel) (g w c A d5 d6 d7 d8 d9 d10 d11 : D) (S : List Int) (lS : S.length ≤ 900) (hd : ∀ b ∈ S, ∀ a ∈ S, (a - b).natAbs < 2 ^ 64) (y12 y13 : Sl) :
    ev (Cz Pg fuel (k + 1)) (.bi .sum [.lc (.bi .sum [.lc (.call 79 [.bin .Sub (.var 19) (.var 18)] [] []) (.v 19) (.e (.var 3)) [.val (.cmp .NotEq (.var 19) (.var 18))] [19]]) (.v 18) (.e (.var 3)) [] [18]]) (T20 g w c (il S) A d5 d6 d7 d8 d9 d10 d11 y12 y13 .no .no .no) = .ok (.sh (.int ((2 * at2 S : Nat) : Int))) (T20 g w c (il S) A d5 d6 d7 d8 d9 d10 d11 y12 y13 .no .no .no) := by
  have el : ev (Cz Pg fuel (k + 1)) (.lc (.bi .sum [.lc (.call 79 [.bin .Sub (.var 19) (.var 18)] [] []) (.v 19) (.e (.var 3)) [.val (.cmp .NotEq (.var 19) (.var 18))] [19]]) (.v 18) (.e (.var 3)) [] [18]) (T20 g w c (il S) A d5 d6 d7 d8 d9 d10 d11 y12 y13 .no .no .no) = .ok (.ow (il (S.map fun b => (btw S b : Int)))) (T20 g w c (il S) A d5 d6 d7 d8 d9 d10 d11 y12 y13 .no .no .no) := by
    rw [lc_run (r1 := T20 g w c (il S) A d5 d6 d7 d8 d9 d10 d11 y12 y13 .no .no .no) (l := S.map .int) (fun d => match d with | D.int b => some (D.int (btw S b : Nat)) | _ => none)]
    · have q : ∀ T : List Int, List.filterMap (fun d => match d with | D.int b => some (D.int (btw S b : Nat)) | _ => none) (T.map D.int) = (T.map fun b => (btw S b : Int)).map .int := fun T => by
        induction T with
        | nil => rfl
        | cons x l ih => simp only [List.map_cons, List.filterMap_cons, ih]
      rw [q]
      exact thawL_self _ _
    · simp [itemsD]
    · rfl
    · rfl
    · exact line_le (by simp; omega)
    · intro x hx
      obtain ⟨b, hb, rfl⟩ := List.mem_map.mp hx
      have e1 := tw_in2 (k := k) h79 hf g w c A d5 d6 d7 d8 d9 d10 d11 S lS b (hd b hb) y12 y13 .no
      have es : biD .sum [il ((S.filter fun a => !decide (a = b)).map fun a => (v2 (a - b) : Int))] = some (.sh (.int (btw S b : Nat))) := by
        rw [← oth_sum]
        exact bi_sum_il
      refine ⟨T20 g w c (il S) A d5 d6 d7 d8 d9 d10 d11 y12 y13 .no (.sh (.int b)) .no, ?_, rfl⟩
      generalize il ((S.filter fun a => !decide (a = b)).map fun a => (v2 (a - b) : Int)) = X at *
      generalize il S = XS at *
      simp [lcF, wip, bindT, e1, es]
  have es : biD .sum [il (S.map fun b => (btw S b : Int))] = some (.sh (.int ((2 * at2 S : Nat) : Int))) := by
    rw [← all_twos, ← sum_cast, List.map_map]
    exact bi_sum_il
  generalize il (S.map fun b => (btw S b : Int)) = X at *
  generalize il S = XS at *
  simp [el, es]
end
end Z
/-! RD: what parts of great codes say. -/
namespace Z
open PySem (Str Operator CmpOp)
structure M60 (Pg : Nat → Option Df) : Prop extends L60 Pg where
  h7 : Pg 7 = some d_items_counted
  h79 : Pg 79 = some d__law_twos_v1
  h211 : Pg 211 = some d_size_power
  h675 : Pg 675 = some d_how_many_codewords_v1
  h679 : Pg 679 = some d__law_great_right_v30
section
variable {Pg : Nat → Option Df} {fuel k f : Nat} {C : Cf}
theorem m_great679 (G : M60 Pg) (hf : 1000 ≤ fuel) (m : Nat) (hm : m ≤ 700000) (g : D) (hg : Gd m g) : ∃ g', shal g' = true ∧ callD Pg fuel (k + 8) 679 [g] = .ok (.sh (.bl true)) [g'] := by
  rw [callD_eq G.h679 ⟨rfl, Nat.le_of_ble_eq_true rfl⟩]
  obtain ⟨v1, g1, hv1, hg1, e1⟩ := m_size (fuel := fuel) (k := k + 4) G.h32 G.h33 G.h639 m (by omega) g hg 20 64 (by omega)
  obtain ⟨w, rfl⟩ : ∃ w : Nat, v1 = w := ⟨v1.toNat, by omega⟩
  have hw : 1 ≤ w ∧ w ≤ 64 := by omega
  obtain ⟨P1, P2⟩ := pow_le64 hw.2
  obtain ⟨c, g2, hc, hg2, e2⟩ := m_random (fuel := fuel) (k := k + 5) G.h32 G.h33 (m + 3) (by omega) g1 hg1 12 (by decide)
  obtain ⟨c, rfl⟩ : ∃ j : Nat, c = j := ⟨c.toNat, by omega⟩
  obtain ⟨n, g3, hn, hg3, e3⟩ := m_size (fuel := fuel) (k := k + 4) G.h32 G.h33 G.h639 (m + 6) (by omega) g2 hg2 4 9 (by omega)
  obtain ⟨n, rfl⟩ : ∃ j : Nat, n = j := ⟨n.toNat, by omega⟩
  obtain ⟨nd14, l14, b14⟩ := pl14_ok
  obtain ⟨S, g4, lS, ⟨left, pm⟩, srt, hg4, e4⟩ := m_pick (fuel := fuel) (k := k + 4) G.h32 G.h33 G.h640 (m + 9) (by omega) g3 hg3 pl14 (by omega) n (by omega)
  have lS9 : 4 ≤ S.length ∧ S.length ≤ 9 := by omega
  have ndS : S.Nodup := (List.nodup_append.mp (pm.nodup_iff.mpr nd14)).1
  have bS : ∀ x ∈ S, 0 ≤ x ∧ x ≤ 8283 := fun x hx => b14 x (pm.mem_iff.mp (List.mem_append_left _ hx))
  have ltS := lt_of_le srt ndS
  have P20 : (1048576 : Int) ≤ 2 ^ w := by
    obtain ⟨e, rfl⟩ : ∃ e, w = 20 + e := ⟨w - 20, by omega⟩
    rw [Int.pow_add]
    have : (0 : Int) < 2 ^ e := Int.pow_pos (by decide)
    omega
  have hS : PlW w S := ⟨fun e => by subst e; simp at lS9, ltS, fun x hx => by have := bS x hx; omega⟩
  have e14 := l14_lc (fuel := fuel) (k := k) G.toL60 g2 (.int w) (.int c) hg2.shal
  obtain ⟨A, B, K, M, g5, sA, sB, sK, sM, hg5, e5⟩ := parts4_lc (fuel := fuel) (k := k) G.toL60 (m + 9 + 3 * n) (by omega) g4 hg4 (.int w) (.int c) S (by omega)
  have lA := sA.length_le
  have lB := sB.length_le
  have lK := sK.length_le
  have lM := sM.length_le
  obtain ⟨sKM, mKM, lKM⟩ := join_sub ltS sK sM
  obtain ⟨sBM, mBM, lBM⟩ := join_sub ltS sB sM
  have lf : ∀ (T : List Int) (p : Int → Bool), (T.filter p).length ≤ T.length := fun T p => List.length_filter_le _ _
  have aK := add_il (a := K) (b := M.filter fun a => !decide (a ∈ K)) (by have := lf M fun a => !decide (a ∈ K); omega)
  have aB := add_il (a := B) (b := M.filter fun a => !decide (a ∈ B)) (by have := lf M fun a => !decide (a ∈ B); omega)
  have oK := bi_sorted_il (ns := K ++ M.filter fun a => !decide (a ∈ K)) (by have := lf M fun a => !decide (a ∈ K); rw [List.length_append]; omega)
  have oB := bi_sorted_il (ns := B ++ M.filter fun a => !decide (a ∈ B)) (by have := lf M fun a => !decide (a ∈ B); rw [List.length_append]; omega)
  have nKM : (sortI (K ++ M.filter fun a => !decide (a ∈ K))).Nodup := ndS.sublist sKM
  generalize gKM : sortI (K ++ M.filter fun a => !decide (a ∈ K)) = KM at *
  generalize gBM : sortI (B ++ M.filter fun a => !decide (a ∈ B)) = BM at *
  have sAp : (B.filter fun a => !decide (a ∈ A)).Sublist S := List.filter_sublist.trans sB
  have lAp := sAp.length_le
  have mAp : ∀ x ∈ B.filter fun a => !decide (a ∈ A), x ∉ A := fun x hx => by
    have := (List.mem_filter.mp hx).2
    simpa using this
  have said := fun (X Y Z' : List Int) sX sY sZ l => m_said (fuel := fuel) (k := k) G.toG60 hf w hw S X Y Z' hS (by omega) sX sY sZ l (c : Int) (by omega)
  rw [Int.toNat_natCast] at said
  have t1 := said A B K sA sB sK (by omega)
  have t2 := said A M K sA sM sK (by omega)
  have t3 := said A B KM sA sB sKM (by omega)
  have t4 := said A BM K sA sBM sK (by omega)
  have t5 := said A A [] sA sA (List.nil_sublist _) (by simp; omega)
  clear said
  have nn := said_nonneg (w := w) (c := c) hw.2 hS.wi sA sB sK
  have ch := said_chain (w := w) (c := c) hw.2 hS.wi sA sB sK sM nKM mKM mBM
  have mo := said_more (w := w) (c := c) hw.2 hS.wi sA sB sK sM mBM
  have ow := said_own (w := w) (c := c) hw.2 hS.wi sA
  rw [ow] at t5
  rw [ch] at t4 mo
  have t6 := m_part_bits (fuel := fuel) (k := k) G.toG60 hf w hw S A hS (by omega) sA (c : Int) (by omega)
  have t7 := m_part_bits (fuel := fuel) (k := k) G.toG60 hf w hw S S hS (by omega) (List.Sublist.refl _) (c : Int) (by omega)
  have t8 := m_hm675 (fuel := fuel) (k := k) G.toL60 G.h7 G.h211 G.h675 hf w hw S hS (by omega) (c : Int) (by omega)
  rw [Int.toNat_natCast] at t6 t7 t8
  have hb : Hb w S c ≤ 64 * 9 := by
    unfold Hb
    have := cnt_len w S c
    exact Nat.le_trans (pw2_le w _) (Nat.mul_le_mul hw.2 (by omega))
  have t9 := m_power3 (fuel := fuel) (k := k + 6) G.h642 (Hb w S c) (by omega)
  have t10 := m_said (fuel := fuel) (k := k) G.toG60 hf w hw S A (B.filter fun a => !decide (a ∈ A)) [] hS (by omega) sA sAp (List.nil_sublist _) (by simp only [List.length_nil]; omega) (9 : Int) (by decide)
  have nr : ∀ a ∈ S, ∀ b ∈ S, (a - b).natAbs < 2 ^ 64 := fun a ha b hb => by
    have := bS a ha
    have := bS b hb
    omega
  have fl : ∀ l : List Int, flat (il l) = false := fun _ => rfl
  have shl : ∀ l : List Int, shal (il l) = true := fun l => flat_il l
  have e20 := tw_sums (k := k + 6) G.h79 hf g5 (.int w) (.int c) (il S) (il B) (il K) (il M) (il KM) (.int (saidF w c A B K)) (il BM) (.int (saidF w c A M K + saidF w c A B KM)) hg5.shal (shl KM) (shl BM) A (B.filter fun a => !decide (a ∈ A)) (by omega) (by omega) (fun b hb a ha => ⟨fun e => mAp b hb (e ▸ ha), nr a (sA.subset ha) b (sAp.subset hb)⟩) .no .no (.inl rfl) (.inl rfl)
  have e21 := tw_all (k := k + 6) G.h79 hf g5 (.int w) (.int c) (il A) (il B) (il K) (il M) (il KM) (.int (saidF w c A B K)) (il BM) (.int (saidF w c A M K + saidF w c A B KM)) S (by omega) (fun b hb a ha => nr a ha b hb) (.ow (il (B.filter fun a => !decide (a ∈ A)))) (.sh (.int (((B.filter fun a => !decide (a ∈ A)).map fun b => btw A b).sum : Nat)))
  have apt := said_apart (w := w) (c := 9) hw.2 hS.wi sA sAp mAp (by omega)
  generalize (((B.filter fun a => !decide (a ∈ A)).map fun b => btw A b).sum : Nat) = tw at *
  have s1 : x1 (Cz Pg fuel (k + 7)) (.par [1, 2] [.call 639 [.var 0, .con (.int 20), .con (.int 64)] [] [], .call 33 [.var 0, .con (.int 12)] [] []]) [.io g, .no, .no, .no, .no, .no, .no, .no, .no, .no, .no, .no, .no, .no, .no, .no, .no, .no, .no, .no] = .nx [.io g2, .sh (.int w), .sh (.int c), .no, .no, .no, .no, .no, .no, .no, .no, .no, .no, .no, .no, .no, .no, .no, .no, .no] := by
    simp [G.h639, d__law_size, e1, hg1.shal, G.h33, d__law_random_v1, e2, hg2.shal, puts]
  have s2 : x1 (Cz Pg fuel (k + 7)) (.asg (.v 3) (.call 640 [.var 0, .lc (.bin .Add (.bin .Mult (.con (.int 7)) (.var 15)) (.call 642 [.var 15] [] [])) (.v 15) (.rng1 (.con (.int 14))) [] [15], .call 639 [.var 0, .con (.int 4), .con (.int 9)] [] []] [] [])) [.io g2, .sh (.int w), .sh (.int c), .no, .no, .no, .no, .no, .no, .no, .no, .no, .no, .no, .no, .no, .no, .no, .no, .no] = .nx [.io g4, .sh (.int w), .sh (.int c), .ow (il S), .no, .no, .no, .no, .no, .no, .no, .no, .no, .no, .no, .no, .no, .no, .no, .no] := by
    generalize il S = XS at *
    simp [e14, G.h639, d__law_size, e3, hg3.shal, G.h640, d__law_pick, e4, hg4.shal]
  have s3 : x1 (Cz Pg fuel (k + 7)) (.asg (.t [.v 4, .v 5, .v 6, .v 7]) (.lc (.call 646 [.var 0, .var 3] [] []) (.v 16) (.rng1 (.con (.int 4))) [] [16])) [.io g4, .sh (.int w), .sh (.int c), .ow (il S), .no, .no, .no, .no, .no, .no, .no, .no, .no, .no, .no, .no, .no, .no, .no, .no] = .nx [.io g5, .sh (.int w), .sh (.int c), .sh (il S), .sh (il A), .sh (il B), .sh (il K), .sh (il M), .no, .no, .no, .no, .no, .no, .no, .no, .no, .no, .no, .no] := by
    have eX : D.lst (ils [A, B, K, M]) = .lst [il A, il B, il K, il M] := rfl
    rw [q_asgt, e5, Z.R.run_ok, eX]
    generalize il A = XA at *
    generalize il B = XB at *
    generalize il K = XK at *
    generalize il M = XM at *
    generalize il S = XS at *
    simp [bindTs, bindT]
  have o1 := out_lc (C := Cz Pg fuel (k + 7)) 6 7 K M [.io g5, .sh (.int w), .sh (.int c), .sh (il S), .sh (il A), .sh (il B), .sh (il K), .sh (il M), .no, .no, .no, .no, .no, .no, .no, .no, .no, .no, .no, .no] rfl rfl rfl rfl (by decide) (by omega)
  have s4 : x1 (Cz Pg fuel (k + 7)) (.asg (.v 8) (.bi .sorted [.bin .Add (.var 6) (.lc (.var 17) (.v 17) (.e (.var 7)) [.val (.cmp .NotIn (.var 17) (.var 6))] [17])])) [.io g5, .sh (.int w), .sh (.int c), .sh (il S), .sh (il A), .sh (il B), .sh (il K), .sh (il M), .no, .no, .no, .no, .no, .no, .no, .no, .no, .no, .no, .no] = .nx [.io g5, .sh (.int w), .sh (.int c), .sh (il S), .sh (il A), .sh (il B), .sh (il K), .sh (il M), .ow (il KM), .no, .no, .no, .no, .no, .no, .no, .no, .no, .no, .no] := by
    generalize il KM = XKM at *
    generalize il A = XA at *
    generalize il B = XB at *
    generalize il K = XK at *
    generalize il M = XM at *
    generalize il S = XS at *
    simp [o1, aK, oK, fl KM]
  have s5 : x1 (Cz Pg fuel (k + 7)) (.asg (.v 9) (.call 674 [.var 1, .var 3, .var 2, .var 4, .var 5, .var 6] [] [])) [.io g5, .sh (.int w), .sh (.int c), .sh (il S), .sh (il A), .sh (il B), .sh (il K), .sh (il M), .ow (il KM), .no, .no, .no, .no, .no, .no, .no, .no, .no, .no, .no] = .nx [.io g5, .sh (.int w), .sh (.int c), .sh (il S), .sh (il A), .sh (il B), .sh (il K), .sh (il M), .ow (il KM), .sh (.int (saidF w c A B K)), .no, .no, .no, .no, .no, .no, .no, .no, .no, .no] := by
    generalize il KM = XKM at *
    generalize il A = XA at *
    generalize il B = XB at *
    generalize il K = XK at *
    generalize il M = XM at *
    generalize il S = XS at *
    generalize saidF w c A B K = q1 at *
    simp [G.h674, d_said_bits, t1]
  have o2 := out_lc (C := Cz Pg fuel (k + 7)) 5 7 B M [.io g5, .sh (.int w), .sh (.int c), .sh (il S), .sh (il A), .sh (il B), .sh (il K), .sh (il M), .ow (il KM), .sh (.int (saidF w c A B K)), .no, .no, .no, .no, .no, .no, .no, .no, .no, .no] rfl rfl rfl rfl (by decide) (by omega)
  have s6 : x1 (Cz Pg fuel (k + 7)) (.asg (.v 10) (.bi .sorted [.bin .Add (.var 5) (.lc (.var 17) (.v 17) (.e (.var 7)) [.val (.cmp .NotIn (.var 17) (.var 5))] [17])])) [.io g5, .sh (.int w), .sh (.int c), .sh (il S), .sh (il A), .sh (il B), .sh (il K), .sh (il M), .ow (il KM), .sh (.int (saidF w c A B K)), .no, .no, .no, .no, .no, .no, .no, .no, .no, .no] = .nx [.io g5, .sh (.int w), .sh (.int c), .sh (il S), .sh (il A), .sh (il B), .sh (il K), .sh (il M), .ow (il KM), .sh (.int (saidF w c A B K)), .ow (il BM), .no, .no, .no, .no, .no, .no, .no, .no, .no] := by
    generalize il KM = XKM at *
    generalize il BM = XBM at *
    generalize il A = XA at *
    generalize il B = XB at *
    generalize il K = XK at *
    generalize il M = XM at *
    generalize il S = XS at *
    generalize saidF w c A B K = q1 at *
    simp [o2, aB, oB, fl BM]
  have s7 : x1 (Cz Pg fuel (k + 7)) (.asg (.v 11) (.bin .Add (.call 674 [.var 1, .var 3, .var 2, .var 4, .var 7, .var 6] [] []) (.call 674 [.var 1, .var 3, .var 2, .var 4, .var 5, .var 8] [] []))) [.io g5, .sh (.int w), .sh (.int c), .sh (il S), .sh (il A), .sh (il B), .sh (il K), .sh (il M), .ow (il KM), .sh (.int (saidF w c A B K)), .ow (il BM), .no, .no, .no, .no, .no, .no, .no, .no, .no] = .nx [.io g5, .sh (.int w), .sh (.int c), .sh (il S), .sh (il A), .sh (il B), .sh (il K), .sh (il M), .ow (il KM), .sh (.int (saidF w c A B K)), .ow (il BM), .sh (.int (saidF w c A M K + saidF w c A B KM)), .no, .no, .no, .no, .no, .no, .no, .no] := by
    generalize il KM = XKM at *
    generalize il BM = XBM at *
    generalize il A = XA at *
    generalize il B = XB at *
    generalize il K = XK at *
    generalize il M = XM at *
    generalize il S = XS at *
    generalize saidF w c A B K = q1 at *
    generalize saidF w c A M K = q2 at *
    generalize saidF w c A B KM = q3 at *
    simp [G.h674, d_said_bits, t2, t3]
  have n0 : ¬ saidF w c A B K < 0 := by omega
  have n1 : ¬ saidF w c A M K + saidF w c A B KM < saidF w c A B K := by omega
  have s8 : x1 (Cz Pg fuel (k + 7)) (.ite (.or (.val (.cmp .Lt (.var 9) (.con (.int 0)))) (.or (.val (.cmp .NotEq (.call 674 [.var 1, .var 3, .var 2, .var 4, .var 10, .var 6] [] []) (.var 11))) (.val (.cmp .Lt (.var 11) (.var 9))))) [.ret (.con (.bl false))] []) [.io g5, .sh (.int w), .sh (.int c), .sh (il S), .sh (il A), .sh (il B), .sh (il K), .sh (il M), .ow (il KM), .sh (.int (saidF w c A B K)), .ow (il BM), .sh (.int (saidF w c A M K + saidF w c A B KM)), .no, .no, .no, .no, .no, .no, .no, .no] = .nx [.io g5, .sh (.int w), .sh (.int c), .sh (il S), .sh (il A), .sh (il B), .sh (il K), .sh (il M), .ow (il KM), .sh (.int (saidF w c A B K)), .ow (il BM), .sh (.int (saidF w c A M K + saidF w c A B KM)), .no, .no, .no, .no, .no, .no, .no, .no] := by
    generalize il KM = XKM at *
    generalize il BM = XBM at *
    generalize il A = XA at *
    generalize il B = XB at *
    generalize il K = XK at *
    generalize il M = XM at *
    generalize il S = XS at *
    generalize saidF w c A B K = q1 at *
    generalize saidF w c A M K = q2 at *
    generalize saidF w c A B KM = q3 at *
    simp [G.h674, d_said_bits, t4, n0, n1]
  replace t5 : callD Pg fuel (k + 7) 674 [.int w, il S, .int c, il A, il A, .lst []] = .ok (.sh (.int (Hb w A c : Nat))) [] := t5
  have s9 : x1 (Cz Pg fuel (k + 7)) (.ite (.val (.cmp .NotEq (.call 674 [.var 1, .var 3, .var 2, .var 4, .var 4, .lst []] [] []) (.call 673 [.var 1, .var 3, .var 2, .var 4] [] []))) [.ret (.con (.bl false))] []) [.io g5, .sh (.int w), .sh (.int c), .sh (il S), .sh (il A), .sh (il B), .sh (il K), .sh (il M), .ow (il KM), .sh (.int (saidF w c A B K)), .ow (il BM), .sh (.int (saidF w c A M K + saidF w c A B KM)), .no, .no, .no, .no, .no, .no, .no, .no] = .nx [.io g5, .sh (.int w), .sh (.int c), .sh (il S), .sh (il A), .sh (il B), .sh (il K), .sh (il M), .ow (il KM), .sh (.int (saidF w c A B K)), .ow (il BM), .sh (.int (saidF w c A M K + saidF w c A B KM)), .no, .no, .no, .no, .no, .no, .no, .no] := by
    generalize il KM = XKM at *
    generalize il BM = XBM at *
    generalize il A = XA at *
    generalize il B = XB at *
    generalize il K = XK at *
    generalize il M = XM at *
    generalize il S = XS at *
    generalize saidF w c A B K = q1 at *
    generalize saidF w c A M K = q2 at *
    generalize saidF w c A B KM = q3 at *
    simp [G.h674, d_said_bits, t5, G.h673, d_part_bits, t6]
  have s10 : x1 (Cz Pg fuel (k + 7)) (.ite (.val (.cmp .NotEq (.call 642 [.call 673 [.var 1, .var 3, .var 2, .var 3] [] []] [] []) (.call 675 [.var 1, .var 3, .var 2] [] []))) [.ret (.con (.bl false))] []) [.io g5, .sh (.int w), .sh (.int c), .sh (il S), .sh (il A), .sh (il B), .sh (il K), .sh (il M), .ow (il KM), .sh (.int (saidF w c A B K)), .ow (il BM), .sh (.int (saidF w c A M K + saidF w c A B KM)), .no, .no, .no, .no, .no, .no, .no, .no] = .nx [.io g5, .sh (.int w), .sh (.int c), .sh (il S), .sh (il A), .sh (il B), .sh (il K), .sh (il M), .ow (il KM), .sh (.int (saidF w c A B K)), .ow (il BM), .sh (.int (saidF w c A M K + saidF w c A B KM)), .no, .no, .no, .no, .no, .no, .no, .no] := by
    generalize il KM = XKM at *
    generalize il BM = XBM at *
    generalize il A = XA at *
    generalize il B = XB at *
    generalize il K = XK at *
    generalize il M = XM at *
    generalize il S = XS at *
    generalize saidF w c A B K = q1 at *
    generalize saidF w c A M K = q2 at *
    generalize saidF w c A B KM = q3 at *
    simp [G.h673, d_part_bits, t7, G.h642, d__law_power_v3, t9, G.h675, d_how_many_codewords_v1, t8]
  have o3 := out_lc (C := Cz Pg fuel (k + 7)) 4 5 A B [.io g5, .sh (.int w), .sh (.int c), .sh (il S), .sh (il A), .sh (il B), .sh (il K), .sh (il M), .ow (il KM), .sh (.int (saidF w c A B K)), .ow (il BM), .sh (.int (saidF w c A M K + saidF w c A B KM)), .no, .no, .no, .no, .no, .no, .no, .no] rfl rfl rfl rfl (by decide) (by omega)
  have s11 : x1 (Cz Pg fuel (k + 7)) (.asg (.v 12) (.lc (.var 17) (.v 17) (.e (.var 5)) [.val (.cmp .NotIn (.var 17) (.var 4))] [17])) [.io g5, .sh (.int w), .sh (.int c), .sh (il S), .sh (il A), .sh (il B), .sh (il K), .sh (il M), .ow (il KM), .sh (.int (saidF w c A B K)), .ow (il BM), .sh (.int (saidF w c A M K + saidF w c A B KM)), .no, .no, .no, .no, .no, .no, .no, .no] = .nx [.io g5, .sh (.int w), .sh (.int c), .sh (il S), .sh (il A), .sh (il B), .sh (il K), .sh (il M), .ow (il KM), .sh (.int (saidF w c A B K)), .ow (il BM), .sh (.int (saidF w c A M K + saidF w c A B KM)), .ow (il (B.filter fun a => !decide (a ∈ A))), .no, .no, .no, .no, .no, .no, .no] := by
    generalize il (B.filter fun a => !decide (a ∈ A)) = XAp at *
    generalize il KM = XKM at *
    generalize il BM = XBM at *
    generalize il A = XA at *
    generalize il B = XB at *
    generalize il K = XK at *
    generalize il M = XM at *
    generalize il S = XS at *
    generalize saidF w c A B K = q1 at *
    generalize saidF w c A M K = q2 at *
    generalize saidF w c A B KM = q3 at *
    simp [o3, fl (B.filter fun a => !decide (a ∈ A))]
  have s12 : x1 (Cz Pg fuel (k + 7)) (.asg (.v 13) (.bi .sum [.lc (.bi .sum [.lc (.call 79 [.bin .Sub (.var 19) (.var 18)] [] []) (.v 19) (.e (.var 4)) [] [19]]) (.v 18) (.e (.var 12)) [] [18]])) [.io g5, .sh (.int w), .sh (.int c), .sh (il S), .sh (il A), .sh (il B), .sh (il K), .sh (il M), .ow (il KM), .sh (.int (saidF w c A B K)), .ow (il BM), .sh (.int (saidF w c A M K + saidF w c A B KM)), .ow (il (B.filter fun a => !decide (a ∈ A))), .no, .no, .no, .no, .no, .no, .no] = .nx [.io g5, .sh (.int w), .sh (.int c), .sh (il S), .sh (il A), .sh (il B), .sh (il K), .sh (il M), .ow (il KM), .sh (.int (saidF w c A B K)), .ow (il BM), .sh (.int (saidF w c A M K + saidF w c A B KM)), .ow (il (B.filter fun a => !decide (a ∈ A))), .sh (.int (tw : Nat)), .no, .no, .no, .no, .no, .no] := by
    rw [q_asgv, e20, Z.R.run_ok]
    simp
  have s13 : x1 (Cz Pg fuel (k + 7)) (.asg (.v 14) (.bi .sum [.lc (.bi .sum [.lc (.call 79 [.bin .Sub (.var 19) (.var 18)] [] []) (.v 19) (.e (.var 3)) [.val (.cmp .NotEq (.var 19) (.var 18))] [19]]) (.v 18) (.e (.var 3)) [] [18]])) [.io g5, .sh (.int w), .sh (.int c), .sh (il S), .sh (il A), .sh (il B), .sh (il K), .sh (il M), .ow (il KM), .sh (.int (saidF w c A B K)), .ow (il BM), .sh (.int (saidF w c A M K + saidF w c A B KM)), .ow (il (B.filter fun a => !decide (a ∈ A))), .sh (.int (tw : Nat)), .no, .no, .no, .no, .no, .no] = .nx [.io g5, .sh (.int w), .sh (.int c), .sh (il S), .sh (il A), .sh (il B), .sh (il K), .sh (il M), .ow (il KM), .sh (.int (saidF w c A B K)), .ow (il BM), .sh (.int (saidF w c A M K + saidF w c A B KM)), .ow (il (B.filter fun a => !decide (a ∈ A))), .sh (.int (tw : Nat)), .sh (.int ((2 * at2 S : Nat) : Int)), .no, .no, .no, .no, .no] := by
    rw [q_asgv, e21, Z.R.run_ok]
    simp
  replace t10 : callD Pg fuel (k + 7) 674 [.int w, il S, .int 9, il A, il (B.filter fun a => !decide (a ∈ A)), .lst []] = .ok (.sh (.int (saidF w 9 A (B.filter fun a => !decide (a ∈ A)) []))) [] := t10
  refine ⟨g5, hg5.shal, ?_⟩
  have sz : x1 (Cz Pg fuel (k + 7)) (.ret (.or (.cmp .GtE (.var 14) (.var 1)) (.cmp .Eq (.call 674 [.var 1, .var 3, .con (.int 9), .var 4, .var 12, .lst []] [] []) (.var 13)))) [.io g5, .sh (.int w), .sh (.int c), .sh (il S), .sh (il A), .sh (il B), .sh (il K), .sh (il M), .ow (il KM), .sh (.int (saidF w c A B K)), .ow (il BM), .sh (.int (saidF w c A M K + saidF w c A B KM)), .ow (il (B.filter fun a => !decide (a ∈ A))), .sh (.int (tw : Nat)), .sh (.int ((2 * at2 S : Nat) : Int)), .no, .no, .no, .no, .no] = .ret (.sh (.bl true)) [.io g5, .sh (.int w), .sh (.int c), .sh (il S), .sh (il A), .sh (il B), .sh (il K), .sh (il M), .ow (il KM), .sh (.int (saidF w c A B K)), .ow (il BM), .sh (.int (saidF w c A M K + saidF w c A B KM)), .ow (il (B.filter fun a => !decide (a ∈ A))), .sh (.int (tw : Nat)), .sh (.int ((2 * at2 S : Nat) : Int)), .no, .no, .no, .no, .no] := by
    by_cases hz : at2 S < w
    · rw [apt hz] at t10
      by_cases hy : (w : Int) ≤ ((2 * at2 S : Nat) : Int)
      · generalize ((2 * at2 S : Nat) : Int) = q4 at *
        generalize il (B.filter fun a => !decide (a ∈ A)) = XAp at *
        generalize il A = XA at *
        generalize il S = XS at *
        simp [hy]
      · generalize ((2 * at2 S : Nat) : Int) = q4 at *
        generalize il (B.filter fun a => !decide (a ∈ A)) = XAp at *
        generalize il A = XA at *
        generalize il S = XS at *
        simp [hy, G.h674, d_said_bits, t10]
    · have hy : (w : Int) ≤ ((2 * at2 S : Nat) : Int) := by omega
      generalize ((2 * at2 S : Nat) : Int) = q4 at *
      generalize il (B.filter fun a => !decide (a ∈ A)) = XAp at *
      generalize il A = XA at *
      generalize il S = XS at *
      simp [hy]
  show O.cr d__law_great_right_v30.modes (xs _ s__law_great_right_v30 [.io g, .no, .no, .no, .no, .no, .no, .no, .no, .no, .no, .no, .no, .no, .no, .no, .no, .no, .no, .no]) = _
  unfold s__law_great_right_v30
  rw [q_xs, s1, Z.O.then_nx, q_xs, s2, Z.O.then_nx, q_xs, s3, Z.O.then_nx, q_xs, s4, Z.O.then_nx, q_xs, s5, Z.O.then_nx, q_xs, s6, Z.O.then_nx, q_xs, s7, Z.O.then_nx, q_xs, s8, Z.O.then_nx, q_xs, s9, Z.O.then_nx, q_xs, s10, Z.O.then_nx, q_xs, s11, Z.O.then_nx, q_xs, s12, Z.O.then_nx, q_xs, s13, Z.O.then_nx]
  rw [q_xs, sz]
  simp [d__law_great_right_v30, O.cr, outsOf]
end
end Z
/-! RE: the law's examples (plain). -/
namespace Z
open PySem (Str Operator CmpOp)
theorem said_of {w c : Nat} {S A B K X Y T : List Int} (hw : w ≤ 64) (hS : Wi w S) (mA : ∀ x ∈ A, x ∈ S) (mB : ∀ x ∈ B, x ∈ S) (mK : ∀ x ∈ K, x ∈ S) (nX : X.Nodup) (nY : Y.Nodup) (nT : T.Nodup) (eX : ∀ x, x ∈ A ++ K ↔ x ∈ X) (eY : ∀ x, x ∈ B ++ K ↔ x ∈ Y) (eT : ∀ x, x ∈ A ++ (B ++ K) ↔ x ∈ T) :
    saidF w c A B K = (Hb w X c : Int) + Hb w Y c - Hb w T c - Hb w K c := by
  unfold saidF
  rw [Hb_own hw hS (X := A ++ K) (fun x hx => (List.mem_append.mp hx).elim (mA x) (mK x)) nX eX,
    Hb_own hw hS (X := B ++ K) (fun x hx => (List.mem_append.mp hx).elim (mB x) (mK x)) nY eY,
    Hb_own hw hS (X := A ++ (B ++ K)) (fun x hx => (List.mem_append.mp hx).elim (mA x) fun h => (List.mem_append.mp h).elim (mB x) (mK x)) nT eT]
theorem Hb_big {w c : Nat} {S : List Int} (h : S.length ≤ c) : Hb w S c = Hb w S S.length := by
  unfold Hb cnt_w
  rw [List.take_of_length_le (by rw [br_len]; exact h), List.take_of_length_le (by rw [br_len]; exact Nat.le_refl _)]
theorem Hb_row (b : Int) (n : Nat) (hn : n ≤ 64) (h : Wi 64 (ap b 1 n)) : Hb 64 (ap b 1 n) 64 = (((List.range n).map fun i => (fb 8 i : Int)).map fun x => 64 - x.toNat).sum := by
  have e := br_ap 64 0 b 1 n (by decide) h
  have e : br 64 (ap b 1 n) = fl 0 n := e
  have f : fl 0 n = (List.range n).map fun i => (fb 8 i : Int) := by
    unfold fl
    apply List.map_congr_left
    intro i hi
    have := List.mem_range.mp hi
    rw [fa_fb 8 i (by omega), Nat.zero_mul, Nat.add_zero]
  unfold Hb cnt_w pw2
  rw [e, f, List.take_of_length_le (by simp; omega), List.filter_eq_self.mpr]
  intro x hx
  obtain ⟨i, hi, rfl⟩ := List.mem_map.mp hx
  have hi := List.mem_range.mp hi
  have : ∀ i, i < 64 → fb 8 i < 64 := by decide +kernel
  have := this i (by omega)
  exact decide_eq_true (by omega)
theorem u60 : (br 3 [0] = [0] ∧ br 3 [2] = [0] ∧ br 3 [0, 2] = [0, 1] ∧ br 3 [1, 3] = [0, 1] ∧ br 3 [1, 2] = [0, 0]) ∧ (br 3 [0, 1, 2] = [0, 0, 1] ∧ br 3 [1, 2, 3] = [0, 0, 1] ∧ br 3 [0, 1, 2, 3] = [0, 0, 1, 1]) ∧ (br 64 [0] = [0] ∧ br 64 [8] = [0] ∧ br 64 [0, 8] = [0, 3] ∧ br 64 [0, 9223372036854775808] = [0, 63]) := by
  have a1 : v2 1 = 0 := v2_odd (by decide)
  have a2 : v2 2 = 1 := v2_pow 1
  have a3 : v2 3 = 0 := v2_odd (by decide)
  have a8 : v2 8 = 3 := v2_pow 3
  have a63 : v2 9223372036854775808 = 63 := v2_pow 63
  rw [← nums_br (d := 3) (ps := [0]) ⟨by decide, by decide⟩, ← nums_br (d := 3) (ps := [2]) ⟨by decide, by decide⟩, ← nums_br (d := 3) (ps := [0, 2]) ⟨by decide, by decide⟩, ← nums_br (d := 3) (ps := [1, 3]) ⟨by decide, by decide⟩, ← nums_br (d := 3) (ps := [1, 2]) ⟨by decide, by decide⟩,
    ← nums_br (d := 3) (ps := [0, 1, 2]) ⟨by decide, by decide⟩, ← nums_br (d := 3) (ps := [1, 2, 3]) ⟨by decide, by decide⟩, ← nums_br (d := 3) (ps := [0, 1, 2, 3]) ⟨by decide, by decide⟩,
    ← nums_br (d := 64) (ps := [0]) ⟨by decide, by decide +kernel⟩, ← nums_br (d := 64) (ps := [8]) ⟨by decide, by decide +kernel⟩, ← nums_br (d := 64) (ps := [0, 8]) ⟨by decide, by decide +kernel⟩, ← nums_br (d := 64) (ps := [0, 9223372036854775808]) ⟨by decide, by decide +kernel⟩]
  refine ⟨⟨?_, ?_, ?_, ?_, ?_⟩, ⟨?_, ?_, ?_⟩, ⟨?_, ?_, ?_, ?_⟩⟩ <;> simp [nums, ord, gr, mi, gsum, a1, a2, a3, a8, a63]
theorem h60 : (Hb 3 [0] 3 = 3 ∧ Hb 3 [2] 3 = 3 ∧ Hb 3 [0, 2] 3 = 5 ∧ Hb 3 [1, 2] 3 = 6 ∧ Hb 3 [0, 1, 2] 3 = 8 ∧ Hb 3 [1, 2, 3] 3 = 8 ∧ Hb 3 [0, 1, 2, 3] 3 = 8) ∧ (Hb 3 [0, 2] 4 = 5 ∧ Hb 3 [1, 3] 4 = 5 ∧ Hb 3 [0, 1, 2, 3] 4 = 10 ∧ Hb 3 [0, 2] 2 = 5 ∧ Hb 3 [1, 3] 2 = 5) ∧ (Hb 64 [0] 2 = 64 ∧ Hb 64 [8] 2 = 64 ∧ Hb 64 [0, 8] 2 = 125 ∧ Hb 64 [0, 9223372036854775808] 2 = 65) := by
  obtain ⟨⟨u1, u2, u3, u4, u5⟩, ⟨u6, u7, u8⟩, ⟨u9, u10, u11, u12⟩⟩ := u60
  refine ⟨⟨?_, ?_, ?_, ?_, ?_, ?_, ?_⟩, ⟨?_, ?_, ?_, ?_, ?_⟩, ⟨?_, ?_, ?_, ?_⟩⟩ <;> unfold Hb cnt_w <;> simp only [u1, u2, u3, u4, u5, u6, u7, u8, u9, u10, u11, u12] <;> decide +kernel
theorem row64 : ap 0 1 64 = ap 0 1 32 ++ ap 32 1 32 := by decide +kernel
theorem wi64 : Wi 64 (ap 0 1 64) := ⟨by decide +kernel, by decide +kernel⟩
theorem plw64 : PlW 64 (ap 0 1 64) := ⟨by decide, by decide +kernel, by decide +kernel⟩
theorem h60row : Hb 64 (ap 0 1 64) 64 = 2272 ∧ Hb 64 (ap 0 1 32) 64 = 1632 ∧ Hb 64 (ap 32 1 32) 64 = 1632 := by
  refine ⟨?_, ?_, ?_⟩
  · rw [Hb_row 0 64 (by decide) wi64]
    decide +kernel
  · rw [Hb_row 0 32 (by decide) ⟨by decide +kernel, by decide +kernel⟩]
    decide +kernel
  · rw [Hb_row 32 32 (by decide) ⟨by decide +kernel, by decide +kernel⟩]
    decide +kernel
theorem x60 : (saidF 3 3 [0] [2] [] = 1 ∧ saidF 3 3 [0] [3] [1, 2] = 2 ∧ saidF 3 4 [0, 2] [1, 3] [] = 0) ∧ saidF 64 2 [0] [8] [] = 3 ∧ saidF 64 64 (ap 0 1 32) (ap 32 1 32) [] = 992 ∧ ∀ c, 4 ≤ c → saidF 3 c [0, 2] [1, 3] [] = 0 ∧ Hb 3 [0, 2] c = 5 := by
  obtain ⟨⟨h1, h2, h3, h4, h5, h6, h7⟩, ⟨h8, h9, h10, h11, h12⟩, ⟨h13, h14, h15, h16⟩⟩ := h60
  obtain ⟨r1, r2, r3⟩ := h60row
  have w4 : Wi 3 [0, 1, 2, 3] := ⟨by decide, by decide⟩
  have w2 : Wi 64 [0, 8] := ⟨by decide, by decide +kernel⟩
  refine ⟨⟨?_, ?_, ?_⟩, ?_, ?_, fun c hc => ⟨?_, ?_⟩⟩
  · rw [said_of (X := [0]) (Y := [2]) (T := [0, 2]) (by decide) w4 (by decide) (by decide) (by decide) (by decide) (by decide) (by decide) (by simp) (by simp) (by simp), h1, h2, h3, Hb_nil]
    decide
  · rw [said_of (X := [0, 1, 2]) (Y := [1, 2, 3]) (T := [0, 1, 2, 3]) (by decide) w4 (by decide) (by decide) (by decide) (by decide) (by decide) (by decide) (by simp) (by intro x; simp; omega) (by intro x; simp; omega), h5, h6, h7, h4]
    decide
  · rw [said_of (X := [0, 2]) (Y := [1, 3]) (T := [0, 1, 2, 3]) (by decide) w4 (by decide) (by decide) (by decide) (by decide) (by decide) (by decide) (by simp) (by simp) (by intro x; simp; omega), h8, h9, h10, Hb_nil]
    decide
  · rw [said_of (X := [0]) (Y := [8]) (T := [0, 8]) (by decide) w2 (by decide) (by decide) (by decide) (by decide) (by decide) (by decide) (by simp) (by simp) (by simp), h13, h14, h15, Hb_nil]
    decide
  · rw [said_of (X := ap 0 1 32) (Y := ap 32 1 32) (T := ap 0 1 64) (by decide) wi64 (by rw [row64]; exact fun x hx => List.mem_append_left _ hx) (by rw [row64]; exact fun x hx => List.mem_append_right _ hx) (by simp) (by decide +kernel) (by decide +kernel) wi64.1 (by simp) (by simp) (by rw [row64]; simp), r1, r2, r3, Hb_nil]
    decide
  · rw [said_of (X := [0, 2]) (Y := [1, 3]) (T := [0, 1, 2, 3]) (by decide) w4 (by decide) (by decide) (by decide) (by decide) (by decide) (by decide) (by simp) (by simp) (by intro x; simp; omega), Hb_big (c := c) (S := [0, 2]) (by simp; omega), Hb_big (c := c) (S := [1, 3]) (by simp; omega), Hb_big (c := c) (S := [0, 1, 2, 3]) (by simpa using hc), Hb_nil]
    simp only [List.length_cons, List.length_nil, Nat.zero_add, Nat.reduceAdd, h10, h11, h12]
    decide
  · rw [Hb_big (by simp; omega)]
    exact h11
end Z
/-! RF: k60: the law. -/
namespace Z
open PySem (Str Operator CmpOp)
theorem slc_fr6 (l : List Int) (i : Nat) : slcD (il l) (.int i) .non = some (.ow (il (l.drop i))) := by
  have e : sIx (l.map D.int).length 0 (some (i : Int)) = min i l.length := by
    show (if (i : Int) < 0 then ((i : Int) + ((l.map D.int).length : Nat)).toNat else min ((i : Int)).toNat _) = _
    rw [if_neg (by omega), List.length_map, Int.toNat_natCast]
  have c : cut (l.map D.int) (some (i : Int)) none = (l.drop i).map D.int := by
    show ((l.map D.int).drop (sIx (l.map D.int).length 0 (some (i : Int)))).take _ = _
    rw [e, List.map_drop]
    have e2 : sIx (l.map D.int).length (l.map D.int).length none = l.length := by
      show (l.map D.int).length = _
      rw [List.length_map]
    rw [e2]
    by_cases h : i ≤ l.length
    · rw [Nat.min_eq_left h]
      apply List.take_of_length_le
      simp
    · rw [Nat.min_eq_right (by omega), List.drop_of_length_le (by simp), List.drop_of_length_le (by simp; omega)]
      simp
  simp only [slcD, part?, c]
def d60 : D := .lst [.int 5, .int 0, .int 1, .int 2, .int 0, .int 3, .int 5, .int 65, .int 2272, .int 992, .int 0]
theorem d60_repr : ∃ z, biD .repr [d60] = some (.sh (.str z)) ∧ cmpD .Eq (.str z) (.str z) = some true := by
  have p : pln 100 d60 = true := by decide +kernel
  exact ⟨_, bi_repr_of 100 (by decide) (by decide) p (by decide) (by decide +kernel), (str_same (cps_shown 100 _ p)).2⟩
section
variable {Pg : Nat → Option Df} {fuel k f : Nat} {C : Cf}
theorem m_law60 (G : M60 Pg) (h : Pg f = some d_law_v60) (hf : 1000 ≤ fuel) (ns : List Int) : callD Pg fuel (k + 9) f [.scr ns] = .ok (.sh (.bl true)) [] := by
  rw [callD_eq h ⟨rfl, Nat.le_of_ble_eq_true rfl⟩]
  have er := rng1_eq (C := Cz Pg fuel (k + 8)) (b := .con (.int 2)) (r := [.sh (.scr ns), .no, .no, .no, .no, .no]) (r2 := [.sh (.scr ns), .no, .no, .no, .no, .no]) (y := .inr (.int 2)) (j := ((2 : Nat) : Int)) (by simp) (by simp) (by omega)
  obtain ⟨r', e', y1, y2, rfl, hy1, hy2⟩ := for_run (t := .v 1) (body := [.asg (.v 2) (.call 35 [.var 0, .var 1] [] []),
    .ite (.or (.not (.val (.call 678 [.var 2] [] []))) (.not (.val (.call 679 [.var 2] [] [])))) [.ret (.con (.bl false))] []]) (fun _ r => ∃ y1 y2 : Sl, r = [.sh (.scr ns), y1, y2, .no, .no, .no] ∧ Pn y1 ∧ (y2 = .no ∨ ∃ d, shal d = true ∧ y2 = .ow d)) er (by
    intro j hj r hr
    rw [rng0_len] at hj
    rw [rng0_get]
    obtain ⟨y1, y2, rfl, hy1, hy2⟩ := hr
    obtain ⟨g0, hg0, e0⟩ := m_generator (fuel := fuel) (k := k + 6) G.h34 G.h35 ns j (by omega)
    obtain ⟨g1, hg1, e1⟩ := m_right678 (fuel := fuel) (k := k) G.toL60 hf (1000 * j) (by omega) g0 hg0
    obtain ⟨g2, hg2, e2⟩ := m_great679 (fuel := fuel) (k := k) G hf (1000 * j + 400) (by omega) g1 hg1
    refine ⟨[.sh (.scr ns), .sh (.int j), .ow g2, .no, .no, .no], ?_, _, _, rfl, .inr ⟨_, rfl⟩, .inr ⟨_, hg2, rfl⟩⟩
    rcases hy1 with rfl | ⟨d, rfl⟩ <;> rcases hy2 with rfl | ⟨d', _, rfl⟩ <;> simp [bindT, G.h35, d__law_generator, e0, G.h678, d__law_right_v38, e1, hg1.shal, G.h679, d__law_great_right_v30, e2, hg2]) ⟨.no, .no, rfl, .inl rfl, .inl rfl⟩
  obtain ⟨⟨x1', x2', x3'⟩, x4', x5', x6'⟩ := x60
  obtain ⟨⟨h1, h2, h3, h4, h5, h6, h7⟩, ⟨h8, h9, h10, h11, h12⟩, ⟨h13, h14, h15, h16⟩⟩ := h60
  obtain ⟨r1', r2', r3'⟩ := h60row
  have p4 : PlW 3 [0, 1, 2, 3] := ⟨by decide, by decide, by decide⟩
  have p8 : PlW 64 [0, 8] := ⟨by decide, by decide, by decide +kernel⟩
  have p63 : PlW 64 [0, 9223372036854775808] := ⟨by decide, by decide, by decide +kernel⟩
  have sl := fun (S A : List Int) (p : S.Pairwise (· < ·)) (q : A.Pairwise (· < ·)) (h : ∀ x ∈ A, x ∈ S) => sub_ltN p q h
  have t1 := m_part_bits (fuel := fuel) (k := k + 1) G.toG60 hf 3 (by decide) [0, 1, 2, 3] [0, 2] p4 (by decide) (sl _ _ p4.2.1 (by decide) (by decide)) 3 (by decide)
  have t2 := m_part_bits (fuel := fuel) (k := k + 1) G.toG60 hf 3 (by decide) [0, 1, 2, 3] [] p4 (by decide) (List.nil_sublist _) 3 (by decide)
  have t3 := m_said (fuel := fuel) (k := k + 1) G.toG60 hf 3 (by decide) [0, 1, 2, 3] [0] [2] [] p4 (by decide) (sl _ _ p4.2.1 (by decide) (by decide)) (sl _ _ p4.2.1 (by decide) (by decide)) (List.nil_sublist _) (by decide) 3 (by decide)
  have t4 := m_said (fuel := fuel) (k := k + 1) G.toG60 hf 3 (by decide) [0, 1, 2, 3] [0] [3] [1, 2] p4 (by decide) (sl _ _ p4.2.1 (by decide) (by decide)) (sl _ _ p4.2.1 (by decide) (by decide)) (sl _ _ p4.2.1 (by decide) (by decide)) (by decide) 3 (by decide)
  have t5 := m_said (fuel := fuel) (k := k + 1) G.toG60 hf 3 (by decide) [0, 1, 2, 3] [0, 2] [1, 3] [] p4 (by decide) (sl _ _ p4.2.1 (by decide) (by decide)) (sl _ _ p4.2.1 (by decide) (by decide)) (List.nil_sublist _) (by decide) 4 (by decide)
  have t6 := m_said (fuel := fuel) (k := k + 1) G.toG60 hf 64 (by decide) [0, 8] [0] [8] [] p8 (by decide) (sl _ _ p8.2.1 (by decide) (by decide)) (sl _ _ p8.2.1 (by decide) (by decide)) (List.nil_sublist _) (by decide) 2 (by decide)
  have t7 := m_part_bits (fuel := fuel) (k := k + 1) G.toG60 hf 3 (by decide) [0, 1, 2, 3] [0, 2] p4 (by decide) (sl _ _ p4.2.1 (by decide) (by decide)) 100000000000000000000000000000 (by decide)
  have t8 := m_part_bits (fuel := fuel) (k := k + 1) G.toG60 hf 64 (by decide) [0, 9223372036854775808] [0, 9223372036854775808] p63 (by decide) (List.Sublist.refl _) 2 (by decide)
  have t9 := m_part_bits (fuel := fuel) (k := k + 1) G.toG60 hf 64 (by decide) (ap 0 1 64) (ap 0 1 64) plw64 (by decide) (List.Sublist.refl _) 64 (by decide)
  have t10 := m_said (fuel := fuel) (k := k + 1) G.toG60 hf 64 (by decide) (ap 0 1 64) (ap 0 1 32) (ap 32 1 32) [] plw64 (by decide) (by rw [row64]; exact List.sublist_append_left _ _) (by rw [row64]; exact List.sublist_append_right _ _) (List.nil_sublist _) (by decide +kernel) 64 (by decide)
  have t11 := m_said (fuel := fuel) (k := k + 1) G.toG60 hf 3 (by decide) [0, 1, 2, 3] [0, 2] [1, 3] [] p4 (by decide) (sl _ _ p4.2.1 (by decide) (by decide)) (sl _ _ p4.2.1 (by decide) (by decide)) (List.nil_sublist _) (by decide) 100000000000000000000000000000 (by decide)
  have big : 4 ≤ (100000000000000000000000000000 : Int).toNat := by decide
  have b2 := (x6' _ big).2
  have b1 := (x6' _ big).1
  rw [b2] at t7
  rw [b1] at t11
  clear b1 b2 x6'
  rw [show (3 : Int).toNat = 3 from rfl] at t1 t2 t3 t4
  rw [show (4 : Int).toNat = 4 from rfl] at t5
  rw [show (2 : Int).toNat = 2 from rfl] at t6 t8
  rw [show (64 : Int).toNat = 64 from rfl] at t9 t10
  rw [h3] at t1
  rw [Hb_nil] at t2
  rw [x1'] at t3
  rw [x2'] at t4
  rw [x3'] at t5
  rw [x4'] at t6
  rw [h16] at t8
  rw [r1'] at t9
  rw [x5'] at t10
  replace t1 : callD Pg fuel (k + 8) 673 [.int 3, il [0, 1, 2, 3], .int 3, .lst [.int 0, .int 2]] = .ok (.sh (.int 5)) [] := t1
  replace t2 : callD Pg fuel (k + 8) 673 [.int 3, il [0, 1, 2, 3], .int 3, .lst []] = .ok (.sh (.int 0)) [] := t2
  replace t3 : callD Pg fuel (k + 8) 674 [.int 3, il [0, 1, 2, 3], .int 3, .lst [.int 0], .lst [.int 2], .lst []] = .ok (.sh (.int 1)) [] := t3
  replace t4 : callD Pg fuel (k + 8) 674 [.int 3, il [0, 1, 2, 3], .int 3, .lst [.int 0], .lst [.int 3], .lst [.int 1, .int 2]] = .ok (.sh (.int 2)) [] := t4
  replace t5 : callD Pg fuel (k + 8) 674 [.int 3, il [0, 1, 2, 3], .int 4, .lst [.int 0, .int 2], .lst [.int 1, .int 3], .lst []] = .ok (.sh (.int 0)) [] := t5
  replace t6 : callD Pg fuel (k + 8) 674 [.int 64, .lst [.int 0, .int 8], .int 2, .lst [.int 0], .lst [.int 8], .lst []] = .ok (.sh (.int 3)) [] := t6
  replace t7 : callD Pg fuel (k + 8) 673 [.int 3, il [0, 1, 2, 3], .int 100000000000000000000000000000, .lst [.int 0, .int 2]] = .ok (.sh (.int 5)) [] := t7
  replace t8 : callD Pg fuel (k + 8) 673 [.int 64, .lst [.int 0, .int 9223372036854775808], .int 2, .lst [.int 0, .int 9223372036854775808]] = .ok (.sh (.int 65)) [] := t8
  replace t9 : callD Pg fuel (k + 8) 673 [.int 64, il (ap 0 1 64), .int 64, il (ap 0 1 64)] = .ok (.sh (.int 2272)) [] := t9
  replace t10 : callD Pg fuel (k + 8) 674 [.int 64, il (ap 0 1 64), .int 64, il (ap 0 1 32), il (ap 32 1 32), .lst []] = .ok (.sh (.int 992)) [] := t10
  replace t11 : callD Pg fuel (k + 8) 674 [.int 3, il [0, 1, 2, 3], .int 100000000000000000000000000000, .lst [.int 0, .int 2], .lst [.int 1, .int 3], .lst []] = .ok (.sh (.int 0)) [] := t11
  have c1 := slc_to (ap 0 1 64) 32
  have c2 := slc_fr6 (ap 0 1 64) 32
  rw [show (ap 0 1 64).take 32 = ap 0 1 32 by decide +kernel] at c1
  rw [show (ap 0 1 64).drop 32 = ap 32 1 32 by decide +kernel] at c2
  replace c1 : slcD (il (ap 0 1 64)) .non (.int 32) = some (.ow (il (ap 0 1 32))) := c1
  replace c2 : slcD (il (ap 0 1 64)) (.int 32) .non = some (.ow (il (ap 32 1 32))) := c2
  have g64 := bi_lrange_i (n := 64) (by decide)
  replace g64 : biD .lrange [.int 64] = some (.ow (il (ap 0 1 64))) := g64
  have b10 : bits 10 = 4 := by decide
  have b2' : bits 2 = 2 := by decide
  have eP29 : binI .Pow 10 29 = some 100000000000000000000000000000 := by
    simp only [binI, b10]
    rfl
  have eP63 : binI .Pow 2 63 = some 9223372036854775808 := by
    simp only [binI, b2']
    rfl
  obtain ⟨z, z1, z2⟩ := d60_repr
  have e648 := m_same2 (fuel := fuel) (k := k + 7) G.h648 d60 z z1 z2
  replace e648 : callD Pg fuel (k + 8) 648 [.lst [.int 5, .int 0, .int 1, .int 2, .int 0, .int 3, .int 5, .int 65, .int 2272, .int 992, .int 0], .lst [.int 5, .int 0, .int 1, .int 2, .int 0, .int 3, .int 5, .int 65, .int 2272, .int 992, .int 0]] = .ok (.sh (.bl true)) [] := e648
  have l1 : (1 : Nat) ≤ LINE := by decide
  have l2 : (2 : Nat) ≤ LINE := by decide
  have l3 : (3 : Nat) ≤ LINE := by decide
  have l4 : (4 : Nat) ≤ LINE := by decide
  have l11 : (11 : Nat) ≤ LINE := by decide
  have q6 : 3 + 3 ≤ LINE := by decide
  have q7 : (6 : Nat) < LINE := by decide
  have q9 : 7 + 2 ≤ LINE := by decide
  have q11 : 9 + 2 ≤ LINE := by decide
  have pn : por (.con .non) (fun r => ev (Cz Pg fuel (k + 8)) (.con .non) r) = fun r => .ok (.inr .non) r := rfl
  have eF : D.lst [.int 0, .int 1, .int 2, .int 3] = il [0, 1, 2, 3] := rfl
  have s1 : x1 (Cz Pg fuel (k + 8)) (.asg (.v 3) (.lst [.con (.int 0), .con (.int 1), .con (.int 2), .con (.int 3)])) [.sh (.scr ns), y1, y2, .no, .no, .no] = .nx [.sh (.scr ns), y1, y2, .ow (il [0, 1, 2, 3]), .no, .no] := by
    rw [← eF]
    simp [l4]
  have s3 : x1 (Cz Pg fuel (k + 8)) (.asg (.v 4) (.lst [.call 673 [.con (.int 3), .var 3, .con (.int 3), .lst [.con (.int 0), .con (.int 2)]] [] [], .call 673 [.con (.int 3), .var 3, .con (.int 3), .lst []] [] [], .call 674 [.con (.int 3), .var 3, .con (.int 3), .lst [.con (.int 0)], .lst [.con (.int 2)], .lst []] [] []])) [.sh (.scr ns), y1, y2, .ow (il [0, 1, 2, 3]), .no, .no] = .nx [.sh (.scr ns), y1, y2, .ow (il [0, 1, 2, 3]), .ow (.lst [.int 5, .int 0, .int 1]), .no] := by
    generalize il [0, 1, 2, 3] = X4 at *
    simp [l1, l2, l3, G.h673, d_part_bits, t1, t2, G.h674, d_said_bits, t3]
  have s4 : x1 (Cz Pg fuel (k + 8)) (.asg (.v 4) (.bin .Add (.var 4) (.lst [.call 674 [.con (.int 3), .var 3, .con (.int 3), .lst [.con (.int 0)], .lst [.con (.int 3)], .lst [.con (.int 1), .con (.int 2)]] [] [], .call 674 [.con (.int 3), .var 3, .con (.int 4), .lst [.con (.int 0), .con (.int 2)], .lst [.con (.int 1), .con (.int 3)], .lst []] [] [], .call 674 [.con (.int 64), .lst [.con (.int 0), .con (.int 8)], .con (.int 2), .lst [.con (.int 0)], .lst [.con (.int 8)], .lst []] [] []]))) [.sh (.scr ns), y1, y2, .ow (il [0, 1, 2, 3]), .ow (.lst [.int 5, .int 0, .int 1]), .no] = .nx [.sh (.scr ns), y1, y2, .ow (il [0, 1, 2, 3]), .ow (.lst [.int 5, .int 0, .int 1, .int 2, .int 0, .int 3]), .no] := by
    generalize il [0, 1, 2, 3] = X4 at *
    simp [l1, l2, l3, q6, G.h674, d_said_bits, t4, t5, t6]
  have s5 : x1 (Cz Pg fuel (k + 8)) (.ex (.mut .append 4 [.call 673 [.con (.int 3), .var 3, .bin .Pow (.con (.int 10)) (.con (.int 29)), .lst [.con (.int 0), .con (.int 2)]] [] []])) [.sh (.scr ns), y1, y2, .ow (il [0, 1, 2, 3]), .ow (.lst [.int 5, .int 0, .int 1, .int 2, .int 0, .int 3]), .no] = .nx [.sh (.scr ns), y1, y2, .ow (il [0, 1, 2, 3]), .ow (.lst [.int 5, .int 0, .int 1, .int 2, .int 0, .int 3, .int 5]), .no] := by
    generalize il [0, 1, 2, 3] = X4 at *
    simp [l1, l2, l3, G.h673, d_part_bits, eP29, t7, lstAt, muD, q7]
  have s6 : x1 (Cz Pg fuel (k + 8)) (.asg (.v 5) (.bi .lrange [.con (.int 64)])) [.sh (.scr ns), y1, y2, .ow (il [0, 1, 2, 3]), .ow (.lst [.int 5, .int 0, .int 1, .int 2, .int 0, .int 3, .int 5]), .no] = .nx [.sh (.scr ns), y1, y2, .ow (il [0, 1, 2, 3]), .ow (.lst [.int 5, .int 0, .int 1, .int 2, .int 0, .int 3, .int 5]), .ow (il (ap 0 1 64))] := by
    generalize il [0, 1, 2, 3] = X4 at *
    generalize il (ap 0 1 64) = X64 at *
    simp [g64]
  have s7 : x1 (Cz Pg fuel (k + 8)) (.asg (.v 4) (.bin .Add (.var 4) (.lst [.call 673 [.con (.int 64), .lst [.con (.int 0), .bin .Pow (.con (.int 2)) (.con (.int 63))], .con (.int 2), .lst [.con (.int 0), .bin .Pow (.con (.int 2)) (.con (.int 63))]] [] [], .call 673 [.con (.int 64), .var 5, .con (.int 64), .var 5] [] []]))) [.sh (.scr ns), y1, y2, .ow (il [0, 1, 2, 3]), .ow (.lst [.int 5, .int 0, .int 1, .int 2, .int 0, .int 3, .int 5]), .ow (il (ap 0 1 64))] = .nx [.sh (.scr ns), y1, y2, .ow (il [0, 1, 2, 3]), .ow (.lst [.int 5, .int 0, .int 1, .int 2, .int 0, .int 3, .int 5, .int 65, .int 2272]), .ow (il (ap 0 1 64))] := by
    generalize il [0, 1, 2, 3] = X4 at *
    generalize il (ap 0 1 64) = X64 at *
    simp [l1, l2, l3, G.h673, d_part_bits, eP63, t8, t9, q9]
  have s8 : x1 (Cz Pg fuel (k + 8)) (.asg (.v 4) (.bin .Add (.var 4) (.lst [.call 674 [.con (.int 64), .var 5, .con (.int 64), .slc (.var 5) (.con .non) (.con (.int 32)), .slc (.var 5) (.con (.int 32)) (.con .non), .lst []] [] [], .call 674 [.con (.int 3), .var 3, .bin .Pow (.con (.int 10)) (.con (.int 29)), .lst [.con (.int 0), .con (.int 2)], .lst [.con (.int 1), .con (.int 3)], .lst []] [] []]))) [.sh (.scr ns), y1, y2, .ow (il [0, 1, 2, 3]), .ow (.lst [.int 5, .int 0, .int 1, .int 2, .int 0, .int 3, .int 5, .int 65, .int 2272]), .ow (il (ap 0 1 64))] = .nx [.sh (.scr ns), y1, y2, .ow (il [0, 1, 2, 3]), .ow (.lst [.int 5, .int 0, .int 1, .int 2, .int 0, .int 3, .int 5, .int 65, .int 2272, .int 992, .int 0]), .ow (il (ap 0 1 64))] := by
    generalize il [0, 1, 2, 3] = X4 at *
    generalize il (ap 0 1 64) = X64 at *
    simp [l1, l2, l3, G.h674, d_said_bits, eP29, t10, t11, c1, c2, q11, por, isNon]
  have s9 : x1 (Cz Pg fuel (k + 8)) (.ret (.call 648 [.var 4, .lst [.con (.int 5), .con (.int 0), .con (.int 1), .con (.int 2), .con (.int 0), .con (.int 3), .con (.int 5), .con (.int 65), .con (.int 2272), .con (.int 992), .con (.int 0)]] [] [])) [.sh (.scr ns), y1, y2, .ow (il [0, 1, 2, 3]), .ow (.lst [.int 5, .int 0, .int 1, .int 2, .int 0, .int 3, .int 5, .int 65, .int 2272, .int 992, .int 0]), .ow (il (ap 0 1 64))] = .ret (.sh (.bl true)) [.sh (.scr ns), y1, y2, .ow (il [0, 1, 2, 3]), .ow (.lst [.int 5, .int 0, .int 1, .int 2, .int 0, .int 3, .int 5, .int 65, .int 2272, .int 992, .int 0]), .ow (il (ap 0 1 64))] := by
    generalize il [0, 1, 2, 3] = X4 at *
    generalize il (ap 0 1 64) = X64 at *
    simp [G.h648, d__law_same_v2, e648, l11]
  show O.cr d_law_v60.modes (xs _ s_law_v60 [.sh (.scr ns), .no, .no, .no, .no, .no]) = _
  unfold s_law_v60
  rw [q_xs, e', Z.O.then_nx, q_xs, s1, Z.O.then_nx, q_xs, s3, Z.O.then_nx, q_xs, s4, Z.O.then_nx, q_xs, s5, Z.O.then_nx, q_xs, s6, Z.O.then_nx, q_xs, s7, Z.O.then_nx, q_xs, s8, Z.O.then_nx, q_xs, s9]
  simp [d_law_v60, O.cr, outsOf]
end
end Z
/-! ### the text: printed by zprint.py -/
namespace Z
open PySem PySem.Spec L2
open PyProof.Rows hiding St
def topS (i : Nat) : Stmt := PySem.Challenge.pw_anyplaces_k60_whole_bits_that_parts_say.main.body.getD i (.Pass ⟨0, 0, 0, 0⟩)
def FU : Nat := 100000
def Pl : List (Nat × Df) := [(0, d_is_whole), (1, d_is_between), (2, d_check_number), (3, d_power_of_two), (4, d_twos), (5, d_good_row), (7, d_items_counted), (8, d_is_width), (9, d_check_width), (10, d_is_of_width), (11, d_rises), (12, d_are_places), (13, d_check_places), (19, d_check_code), (376, d_check_part_v1), (671, d_bits_at_v1), (672, d_together), (673, d_part_bits), (674, d_said_bits), (211, d_size_power), (675, d_how_many_codewords_v1), (32, d__law_hash), (33, d__law_random), (34, d__law_cell), (35, d__law_generator), (639, d__law_size), (640, d__law_pick), (641, d__law_code), (642, d__law_power_v3), (643, d__law_made_v1), (644, d__law_powers), (645, d__law_listed_v2), (646, d__law_part), (647, d__law_at), (648, d__law_same_v2), (676, d__law_bits_v3), (677, d__law_lists_v2), (678, d__law_right_v38), (79, d__law_twos_v1), (679, d__law_great_right_v30), (680, d_law_v60)]
def Pg (n : Nat) : Option Df := Pl.lookup n
/-- the names of the module -/
structure Mz (T : Tb) : Prop where
  m_bool : T.mg "bool" = none
  m_int : T.mg "int" = none
  m_isinstance : T.mg "isinstance" = none
  m_len : T.mg "len" = none
  m_list : T.mg "list" = none
  m_max : T.mg "max" = none
  m_min : T.mg "min" = none
  m_range : T.mg "range" = none
  m_repr : T.mg "repr" = none
  m_set : T.mg "set" = none
  m_sorted : T.mg "sorted" = none
  m_sum : T.mg "sum" = none
  m_tuple : T.mg "tuple" = none
  m_zip : T.mg "zip" = none
  g_MOST_WIDTH : ∃ t, T.mg "MOST_WIDTH" = some (.int 64 t)
/-- every def at a depth -/
structure Fm (T : Tb) (k : Nat) : Prop where
  c_is_whole : Cal T k "is_whole" [false] (callD Pg FU k 0)
  c_is_between : Cal T k "is_between" [false, false, false] (callD Pg FU k 1)
  c_check_number : Cal T k "check_number" [false, false, false] (callD Pg FU k 2)
  c_power_of_two : Cal T k "power_of_two" [false] (callD Pg FU k 3)
  c_twos : Cal T k "twos" [false] (callD Pg FU k 4)
  c_good_row : Cal T k "good_row" [false] (callD Pg FU k 5)
  c_items_counted : Cal T k "items_counted" [false, false, false] (callD Pg FU k 7)
  c_is_width : Cal T k "is_width" [false] (callD Pg FU k 8)
  c_check_width : Cal T k "check_width" [false] (callD Pg FU k 9)
  c_is_of_width : Cal T k "is_of_width" [false, false] (callD Pg FU k 10)
  c_rises : Cal T k "rises" [false] (callD Pg FU k 11)
  c_are_places : Cal T k "are_places" [false, false] (callD Pg FU k 12)
  c_check_places : Cal T k "check_places" [false, false] (callD Pg FU k 13)
  c_check_code_joined : Cal T k "check_code_joined" [false, false, false] (callD Pg FU k 19)
  c_check_part : Cal T k "check_part" [false, false] (callD Pg FU k 376)
  c_bits_at : Cal T k "bits_at" [false, false, false] (callD Pg FU k 671)
  c_together : Cal T k "together" [false] (callD Pg FU k 672)
  c_part_bits : Cal T k "part_bits" [false, false, false, false] (callD Pg FU k 673)
  c_said_bits : Cal T k "said_bits" [false, false, false, false, false, false] (callD Pg FU k 674)
  c_check_code_codes : Cal T k "check_code_codes" [false, false, false] (callD Pg FU k 19)
  c_size_power : Cal T k "size_power" [false, false, false] (callD Pg FU k 211)
  c_how_many_codewords : Cal T k "how_many_codewords" [false, false, false] (callD Pg FU k 675)
  c__law_hash : Cal T k "_law_hash" [false, false] (callD Pg FU k 32)
  c__law_random : Cal T k "_law_random" [true, false] (callD Pg FU k 33)
  c__law_cell : Cal T k "_law_cell" [false, false] (callD Pg FU k 34)
  c__law_generator : Cal T k "_law_generator" [false, false] (callD Pg FU k 35)
  c__law_size : Cal T k "_law_size" [true, false, false] (callD Pg FU k 639)
  c__law_pick : Cal T k "_law_pick" [true, false, false] (callD Pg FU k 640)
  c__law_code : Cal T k "_law_code" [true, false] (callD Pg FU k 641)
  c__law_power : Cal T k "_law_power" [false] (callD Pg FU k 642)
  c__law_made : Cal T k "_law_made" [false, false, false] (callD Pg FU k 643)
  c__law_powers : Cal T k "_law_powers" [false, false] (callD Pg FU k 644)
  c__law_listed : Cal T k "_law_listed" [false, false, false] (callD Pg FU k 645)
  c__law_part : Cal T k "_law_part" [true, false] (callD Pg FU k 646)
  c__law_at : Cal T k "_law_at" [false, false, false] (callD Pg FU k 647)
  c__law_same : Cal T k "_law_same" [false, false] (callD Pg FU k 648)
  c__law_bits : Cal T k "_law_bits" [false] (callD Pg FU k 676)
  c__law_lists : Cal T k "_law_lists" [false, false, false] (callD Pg FU k 677)
  c__law_right : Cal T k "_law_right" [true] (callD Pg FU k 678)
  c__law_twos : Cal T k "_law_twos" [false] (callD Pg FU k 79)
  c__law_great_right : Cal T k "_law_great_right" [true] (callD Pg FU k 679)
  c_law : Cal T k "law" [false] (callD Pg FU k 680)
theorem sc_is_whole : FnScope ["value"] ["value"] (defScope (topS 7)) := ⟨rfl, rfl, rfl, by decide +kernel, rfl, by decide +kernel, by decide +kernel⟩
set_option maxHeartbeats 4000000 in
theorem b_is_whole {T : Tb} {k : Nat} (z : Mz T) (h : Fm T k) : ∀ (f : Addr) (cdv : Value) (A : Around) (outer : List PySem.Env) (s : Shared) (H : Hp) (E : XK), CB T k (asDef T ["value"] "is_whole" (defScope (topS 7)) f cdv A outer s H E) → DSs T (Cq Pg FU k) (asDef T ["value"] "is_whole" (defScope (topS 7)) f cdv A outer s H E) (defBody (topS 7)) s_is_whole :=
  fun f cdv A outer s H E w =>
    ss_cons (s_ret (e_and w (e_isi w .int (b_var 0 rfl (.inl rfl)) (pe_bltn rfl z.m_int (by first | exact PyProof.Rows.boot_int | exact PySem.boot_int) rfl) z.m_isinstance) (e_one (e_not w (b_of (e_isi w .bool (b_var 0 rfl (.inl rfl)) (pe_bltn rfl z.m_bool (by first | exact PyProof.Rows.boot_bool | exact PySem.boot_bool) rfl) z.m_isinstance))))))
    (ss_nil)
theorem sc_is_between : FnScope ["value", "low", "high"] ["value", "low", "high"] (defScope (topS 8)) := ⟨rfl, rfl, rfl, by decide +kernel, rfl, by decide +kernel, by decide +kernel⟩
set_option maxHeartbeats 4000000 in
theorem b_is_between {T : Tb} {k : Nat} (z : Mz T) (h : Fm T k) : ∀ (f : Addr) (cdv : Value) (A : Around) (outer : List PySem.Env) (s : Shared) (H : Hp) (E : XK), CB T k (asDef T ["value", "low", "high"] "is_between" (defScope (topS 8)) f cdv A outer s H E) → DSs T (Cq Pg FU k) (asDef T ["value", "low", "high"] "is_between" (defScope (topS 8)) f cdv A outer s H E) (defBody (topS 8)) s_is_between :=
  fun f cdv A outer s H E w =>
    ss_cons (s_if (t_not (t_val w (b_of (e_fn w h.c_is_whole rfl (a_cons (b_var 0 rfl (.inl rfl)) (a_nil)))))) (ss_cons (s_ret (e_bool))
    (ss_nil)) (ss_nil))
    (ss_cons (s_ret (e_and w (e_or w (e_cmp w (b_var 1 rfl (.inl rfl)) (b_of (e_none))) (e_one (e_cmp w (b_var 0 rfl (.inl rfl)) (b_var 1 rfl (.inl rfl))))) (e_one (e_or w (e_cmp w (b_var 2 rfl (.inl rfl)) (b_of (e_none))) (e_one (e_cmp w (b_var 0 rfl (.inl rfl)) (b_var 2 rfl (.inl rfl))))))))
    (ss_nil))
theorem sc_check_number : FnScope ["number", "low", "high"] ["number", "low", "high"] (defScope (topS 9)) := ⟨rfl, rfl, rfl, by decide +kernel, rfl, by decide +kernel, by decide +kernel⟩
set_option maxHeartbeats 4000000 in
theorem b_check_number {T : Tb} {k : Nat} (z : Mz T) (h : Fm T k) : ∀ (f : Addr) (cdv : Value) (A : Around) (outer : List PySem.Env) (s : Shared) (H : Hp) (E : XK), CB T k (asDef T ["number", "low", "high"] "check_number" (defScope (topS 9)) f cdv A outer s H E) → DSs T (Cq Pg FU k) (asDef T ["number", "low", "high"] "check_number" (defScope (topS 9)) f cdv A outer s H E) (defBody (topS 9)) s_check_number :=
  fun f cdv A outer s H E w =>
    ss_cons (s_if (t_not (t_val w (b_of (e_fn w h.c_is_between rfl (a_cons (b_var 0 rfl (.inl rfl)) (a_cons (b_var 1 rfl (.inl rfl)) (a_cons (b_var 2 rfl (.inl rfl)) (a_nil)))))))) (ss_cons (s_nev)
    (ss_nil)) (ss_nil))
    (ss_nil)
theorem sc_power_of_two : FnScope ["many"] ["many"] (defScope (topS 10)) := ⟨rfl, rfl, rfl, by decide +kernel, rfl, by decide +kernel, by decide +kernel⟩
set_option maxHeartbeats 4000000 in
theorem b_power_of_two {T : Tb} {k : Nat} (z : Mz T) (h : Fm T k) : ∀ (f : Addr) (cdv : Value) (A : Around) (outer : List PySem.Env) (s : Shared) (H : Hp) (E : XK), CB T k (asDef T ["many"] "power_of_two" (defScope (topS 10)) f cdv A outer s H E) → DSs T (Cq Pg FU k) (asDef T ["many"] "power_of_two" (defScope (topS 10)) f cdv A outer s H E) (defBody (topS 10)) s_power_of_two :=
  fun f cdv A outer s H E w =>
    ss_cons (s_ret (e_bin w (b_of (e_int)) (b_var 0 rfl (.inl rfl))))
    (ss_nil)
theorem sc_twos : FnScope ["number", "found"] ["number"] (defScope (topS 11)) := ⟨rfl, rfl, rfl, by decide +kernel, rfl, by decide +kernel, by decide +kernel⟩
set_option maxHeartbeats 4000000 in
theorem b_twos {T : Tb} {k : Nat} (z : Mz T) (h : Fm T k) : ∀ (f : Addr) (cdv : Value) (A : Around) (outer : List PySem.Env) (s : Shared) (H : Hp) (E : XK), CB T k (asDef T ["number", "found"] "twos" (defScope (topS 11)) f cdv A outer s H E) → DSs T (Cq Pg FU k) (asDef T ["number", "found"] "twos" (defScope (topS 11)) f cdv A outer s H E) (defBody (topS 11)) s_twos :=
  fun f cdv A outer s H E w =>
    ss_cons (s_set w 1 (e_int) rfl (.inl rfl) (.inr rfl))
    (ss_cons (s_whl (t_cmp w (b_of (e_bin w (b_var 0 rfl (.inl rfl)) (b_of (e_int)))) (b_of (e_int))) (ss_cons (s_par2 w 0 1 (v_cons (e_bin w (b_var 0 rfl (.inl rfl)) (b_of (e_int))) (v_cons (e_bin w (b_var 1 rfl (.inl rfl)) (b_of (e_int))) (v_nil))) rfl rfl rfl rfl)
    (ss_nil)))
    (ss_cons (s_retv 1 (L2.pe_var rfl (.inl rfl)))
    (ss_nil)))
theorem sc_good_row : FnScope ["places", "order", "numbers", "left", "sums", "at", "taken", "have", "place"] ["places"] (defScope (topS 12)) := ⟨rfl, rfl, rfl, by decide +kernel, rfl, by decide +kernel, by decide +kernel⟩
set_option maxHeartbeats 4000000 in
theorem b_good_row {T : Tb} {k : Nat} (z : Mz T) (h : Fm T k) : ∀ (f : Addr) (cdv : Value) (A : Around) (outer : List PySem.Env) (s : Shared) (H : Hp) (E : XK), CB T k (asDef T ["places", "order", "numbers", "left", "sums", "at", "taken", "have", "place"] "good_row" (defScope (topS 12)) f cdv A outer s H E) → DSs T (Cq Pg FU k) (asDef T ["places", "order", "numbers", "left", "sums", "at", "taken", "have", "place"] "good_row" (defScope (topS 12)) f cdv A outer s H E) (defBody (topS 12)) s_good_row :=
  fun f cdv A outer s H E w =>
    ss_cons (s_parT w (n_cons w 1 (n_cons w 2 (n_cons w 3 (n_cons w 4 (n_nil) rfl (.inl rfl) (.inr rfl)) rfl (.inl rfl) (.inr rfl)) rfl (.inl rfl) (.inr rfl)) rfl (.inl rfl) (.inr rfl)) (v_cons (e_lst (l_nil)) (v_cons (e_lst (l_nil)) (v_cons (e_biT (bi := .list) (bi_list w.eK) z.m_list (by first | exact PyProof.Rows.boot_list | exact PySem.boot_list) (a_cons (b_var 0 rfl (.inl rfl)) (a_nil))) (v_cons (e_bin w (b_of (e_lst (l_cons (e_int) (l_nil)))) (b_of (e_biB (bi := .len) (bi_len w.eK) z.m_len (by first | exact PyProof.Rows.boot_len | exact PySem.boot_len) (a_cons (b_var 0 rfl (.inl rfl)) (a_nil))))) (v_nil))))))
    (ss_cons (s_whl (t_cmp w (b_var 3 rfl (.inl rfl)) (b_of (e_lst (l_nil)))) (ss_cons (s_set w 5 (e_index w (b_var 4 rfl (.inl rfl)) (b_of (e_biB (bi := .min) (bi_min w.eK w.calm) z.m_min (by first | exact PyProof.Rows.boot_min | exact PySem.boot_min) (a_cons (b_var 4 rfl (.inl rfl)) (a_nil))))) rfl (.inl rfl) (.inr rfl))
    (ss_cons (s_set w 6 (e_popAt w 3 (L2.pe_var rfl (.inl rfl)) (e_var 5 rfl (.inl rfl))) rfl (.inr rfl) (.inl rfl))
    (ss_cons (s_ex (e_append w 1 (L2.pe_var rfl (.inl rfl)) (e_var 6 rfl (.inr (.inl rfl)))))
    (ss_cons (s_ex (e_append w 2 (L2.pe_var rfl (.inl rfl)) (e_popAt w 4 (L2.pe_var rfl (.inl rfl)) (e_var 5 rfl (.inl rfl)))))
    (ss_cons (s_setc w 4 [("have", 7), ("place", 8)] rfl rfl rfl (i_zs w (l_cons (e_var 4 rfl (.inl rfl)) (l_cons (e_var 3 rfl (.inl rfl)) (l_nil))) z.m_zip) (fun _ _ _ _ _ => g_t (w.blk _ _ _ _ _) (gs_cons (g_v (w.blk _ _ _ _ _) 7 rfl (.inl rfl) (.inr rfl)) (gs_cons (g_v (w.blk _ _ _ _ _) 8 rfl (.inl rfl) (.inr rfl)) (gs_nil)))) (fun _ _ _ _ _ => c_nil) (fun _ _ _ _ _ => e_bin (w.blk _ _ _ _ _) (b_var 7 rfl (.inl rfl)) (b_of (e_fn (w.blk _ _ _ _ _) h.c_twos rfl (a_cons (b_of (e_bin (w.blk _ _ _ _ _) (b_var 8 rfl (.inl rfl)) (b_var 6 rfl (.inr (.inl rfl))))) (a_nil))))) (blkOk_by (by kernel_rfl)))
    (ss_nil)))))))
    (ss_cons (s_ret (e_tup (l_cons (e_var 1 rfl (.inl rfl)) (l_cons (e_var 2 rfl (.inl rfl)) (l_nil)))))
    (ss_nil)))
theorem sc_items_counted : FnScope ["width", "numbers", "count", "number"] ["width", "numbers", "count"] (defScope (topS 13)) := ⟨rfl, rfl, rfl, by decide +kernel, rfl, by decide +kernel, by decide +kernel⟩
set_option maxHeartbeats 4000000 in
theorem b_items_counted {T : Tb} {k : Nat} (z : Mz T) (h : Fm T k) : ∀ (f : Addr) (cdv : Value) (A : Around) (outer : List PySem.Env) (s : Shared) (H : Hp) (E : XK), CB T k (asDef T ["width", "numbers", "count", "number"] "items_counted" (defScope (topS 13)) f cdv A outer s H E) → DSs T (Cq Pg FU k) (asDef T ["width", "numbers", "count", "number"] "items_counted" (defScope (topS 13)) f cdv A outer s H E) (defBody (topS 13)) s_items_counted :=
  fun f cdv A outer s H E w =>
    ss_cons (s_ret (e_biB (bi := .len) (bi_len w.eK) z.m_len (by first | exact PyProof.Rows.boot_len | exact PySem.boot_len) (a_cons (b_of (e_lc w [("number", 3)] (i_seq w (e_slc w (b_var 1 rfl (.inl rfl)) (p_none) (p_some (b_var 2 rfl (.inl rfl))))) (fun _ _ _ _ _ => g_v (w.blk _ _ _ _ _) 3 rfl (.inl rfl) (.inr rfl)) (fun _ _ _ _ _ => c_one (t_cmp (w.blk _ _ _ _ _) (b_var 3 rfl (.inl rfl)) (b_var 0 rfl (.inr (.inl rfl))))) (fun _ _ _ _ _ => e_var 3 rfl (.inl rfl)) (blkOk_by (by kernel_rfl)))) (a_nil))))
    (ss_nil)
theorem sc_is_width : FnScope ["value"] ["value"] (defScope (topS 15)) := ⟨rfl, rfl, rfl, by decide +kernel, rfl, by decide +kernel, by decide +kernel⟩
set_option maxHeartbeats 4000000 in
theorem b_is_width {T : Tb} {k : Nat} (z : Mz T) (h : Fm T k) : ∀ (f : Addr) (cdv : Value) (A : Around) (outer : List PySem.Env) (s : Shared) (H : Hp) (E : XK), CB T k (asDef T ["value"] "is_width" (defScope (topS 15)) f cdv A outer s H E) → DSs T (Cq Pg FU k) (asDef T ["value"] "is_width" (defScope (topS 15)) f cdv A outer s H E) (defBody (topS 15)) s_is_width :=
  fun f cdv A outer s H E w =>
    ss_cons (s_ret (e_fn w h.c_is_between rfl (a_cons (b_var 0 rfl (.inl rfl)) (a_cons (b_of (e_int)) (a_cons (b_of (e_gint z.g_MOST_WIDTH)) (a_nil))))))
    (ss_nil)
theorem sc_check_width : FnScope ["width"] ["width"] (defScope (topS 16)) := ⟨rfl, rfl, rfl, by decide +kernel, rfl, by decide +kernel, by decide +kernel⟩
set_option maxHeartbeats 4000000 in
theorem b_check_width {T : Tb} {k : Nat} (z : Mz T) (h : Fm T k) : ∀ (f : Addr) (cdv : Value) (A : Around) (outer : List PySem.Env) (s : Shared) (H : Hp) (E : XK), CB T k (asDef T ["width"] "check_width" (defScope (topS 16)) f cdv A outer s H E) → DSs T (Cq Pg FU k) (asDef T ["width"] "check_width" (defScope (topS 16)) f cdv A outer s H E) (defBody (topS 16)) s_check_width :=
  fun f cdv A outer s H E w =>
    ss_cons (s_if (t_not (t_val w (b_of (e_fn w h.c_is_width rfl (a_cons (b_var 0 rfl (.inl rfl)) (a_nil)))))) (ss_cons (s_nev)
    (ss_nil)) (ss_nil))
    (ss_nil)
theorem sc_is_of_width : FnScope ["width", "value"] ["width", "value"] (defScope (topS 17)) := ⟨rfl, rfl, rfl, by decide +kernel, rfl, by decide +kernel, by decide +kernel⟩
set_option maxHeartbeats 4000000 in
theorem b_is_of_width {T : Tb} {k : Nat} (z : Mz T) (h : Fm T k) : ∀ (f : Addr) (cdv : Value) (A : Around) (outer : List PySem.Env) (s : Shared) (H : Hp) (E : XK), CB T k (asDef T ["width", "value"] "is_of_width" (defScope (topS 17)) f cdv A outer s H E) → DSs T (Cq Pg FU k) (asDef T ["width", "value"] "is_of_width" (defScope (topS 17)) f cdv A outer s H E) (defBody (topS 17)) s_is_of_width :=
  fun f cdv A outer s H E w =>
    ss_cons (s_ret (e_fn w h.c_is_between rfl (a_cons (b_var 1 rfl (.inl rfl)) (a_cons (b_of (e_int)) (a_cons (b_of (e_bin w (b_of (e_fn w h.c_power_of_two rfl (a_cons (b_var 0 rfl (.inl rfl)) (a_nil)))) (b_of (e_int)))) (a_nil))))))
    (ss_nil)
theorem sc_rises : FnScope ["numbers", "at"] ["numbers"] (defScope (topS 18)) := ⟨rfl, rfl, rfl, by decide +kernel, rfl, by decide +kernel, by decide +kernel⟩
set_option maxHeartbeats 4000000 in
theorem b_rises {T : Tb} {k : Nat} (z : Mz T) (h : Fm T k) : ∀ (f : Addr) (cdv : Value) (A : Around) (outer : List PySem.Env) (s : Shared) (H : Hp) (E : XK), CB T k (asDef T ["numbers", "at"] "rises" (defScope (topS 18)) f cdv A outer s H E) → DSs T (Cq Pg FU k) (asDef T ["numbers", "at"] "rises" (defScope (topS 18)) f cdv A outer s H E) (defBody (topS 18)) s_rises :=
  fun f cdv A outer s H E w =>
    ss_cons (s_ret (e_cmp w (b_of (e_lc w [("at", 1)] (i_rng2 (b_of (e_int)) (b_of (e_biB (bi := .len) (bi_len w.eK) z.m_len (by first | exact PyProof.Rows.boot_len | exact PySem.boot_len) (a_cons (b_var 0 rfl (.inr (.inl rfl))) (a_nil)))) z.m_range) (fun _ _ _ _ _ => g_v (w.blk _ _ _ _ _) 1 rfl (.inl rfl) (.inr rfl)) (fun _ _ _ _ _ => c_one (t_cmp (w.blk _ _ _ _ _) (b_of (e_idx (w.blk _ _ _ _ _) (b_var 0 rfl (.inr (.inl rfl))) (b_of (e_bin (w.blk _ _ _ _ _) (b_var 1 rfl (.inl rfl)) (b_of (e_int)))))) (b_of (e_idx (w.blk _ _ _ _ _) (b_var 0 rfl (.inr (.inl rfl))) (b_var 1 rfl (.inl rfl)))))) (fun _ _ _ _ _ => e_var 1 rfl (.inl rfl)) (blkOk_by (by kernel_rfl)))) (b_of (e_lst (l_nil)))))
    (ss_nil)
theorem sc_are_places : FnScope ["width", "value", "item"] ["width", "value"] (defScope (topS 19)) := ⟨rfl, rfl, rfl, by decide +kernel, rfl, by decide +kernel, by decide +kernel⟩
set_option maxHeartbeats 4000000 in
theorem b_are_places {T : Tb} {k : Nat} (z : Mz T) (h : Fm T k) : ∀ (f : Addr) (cdv : Value) (A : Around) (outer : List PySem.Env) (s : Shared) (H : Hp) (E : XK), CB T k (asDef T ["width", "value", "item"] "are_places" (defScope (topS 19)) f cdv A outer s H E) → DSs T (Cq Pg FU k) (asDef T ["width", "value", "item"] "are_places" (defScope (topS 19)) f cdv A outer s H E) (defBody (topS 19)) s_are_places :=
  fun f cdv A outer s H E w =>
    ss_cons (s_if (t_w (w_or (t_not (t_val w (b_of (e_isi w .list (b_var 1 rfl (.inl rfl)) (pe_bltn rfl z.m_list (by first | exact PyProof.Rows.boot_list | exact PySem.boot_list) rfl) z.m_isinstance)))) (w_or1 (t_cmp w (b_var 1 rfl (.inl rfl)) (b_of (e_lst (l_nil))))))) (ss_cons (s_ret (e_bool))
    (ss_nil)) (ss_nil))
    (ss_cons (s_ret (e_and w (e_cmp w (b_of (e_lc w [("item", 2)] (i_seq w (e_var 1 rfl (.inl rfl))) (fun _ _ _ _ _ => g_v (w.blk _ _ _ _ _) 2 rfl (.inl rfl) (.inr rfl)) (fun _ _ _ _ _ => c_one (t_not (t_val (w.blk _ _ _ _ _) (b_of (e_fn (w.blk _ _ _ _ _) h.c_is_of_width rfl (a_cons (b_var 0 rfl (.inr (.inl rfl))) (a_cons (b_var 2 rfl (.inl rfl)) (a_nil)))))))) (fun _ _ _ _ _ => e_var 2 rfl (.inl rfl)) (blkOk_by (by kernel_rfl)))) (b_of (e_lst (l_nil)))) (e_one (e_fn w h.c_rises rfl (a_cons (b_var 1 rfl (.inl rfl)) (a_nil))))))
    (ss_nil))
theorem sc_check_places : FnScope ["width", "places"] ["width", "places"] (defScope (topS 20)) := ⟨rfl, rfl, rfl, by decide +kernel, rfl, by decide +kernel, by decide +kernel⟩
set_option maxHeartbeats 4000000 in
theorem b_check_places {T : Tb} {k : Nat} (z : Mz T) (h : Fm T k) : ∀ (f : Addr) (cdv : Value) (A : Around) (outer : List PySem.Env) (s : Shared) (H : Hp) (E : XK), CB T k (asDef T ["width", "places"] "check_places" (defScope (topS 20)) f cdv A outer s H E) → DSs T (Cq Pg FU k) (asDef T ["width", "places"] "check_places" (defScope (topS 20)) f cdv A outer s H E) (defBody (topS 20)) s_check_places :=
  fun f cdv A outer s H E w =>
    ss_cons (s_ex (e_fn w h.c_check_width rfl (a_cons (b_var 0 rfl (.inl rfl)) (a_nil))))
    (ss_cons (s_if (t_not (t_val w (b_of (e_fn w h.c_are_places rfl (a_cons (b_var 0 rfl (.inl rfl)) (a_cons (b_var 1 rfl (.inl rfl)) (a_nil))))))) (ss_cons (s_nev)
    (ss_nil)) (ss_nil))
    (ss_nil))
theorem sc_check_code_joined : FnScope ["width", "places", "count"] ["width", "places", "count"] (defScope (topS 22)) := ⟨rfl, rfl, rfl, by decide +kernel, rfl, by decide +kernel, by decide +kernel⟩
set_option maxHeartbeats 4000000 in
theorem b_check_code_joined {T : Tb} {k : Nat} (z : Mz T) (h : Fm T k) : ∀ (f : Addr) (cdv : Value) (A : Around) (outer : List PySem.Env) (s : Shared) (H : Hp) (E : XK), CB T k (asDef T ["width", "places", "count"] "check_code" (defScope (topS 22)) f cdv A outer s H E) → DSs T (Cq Pg FU k) (asDef T ["width", "places", "count"] "check_code" (defScope (topS 22)) f cdv A outer s H E) (defBody (topS 22)) s_check_code :=
  fun f cdv A outer s H E w =>
    ss_cons (s_ex (e_fn w h.c_check_places rfl (a_cons (b_var 0 rfl (.inl rfl)) (a_cons (b_var 1 rfl (.inl rfl)) (a_nil)))))
    (ss_cons (s_ex (e_fn w h.c_check_number rfl (a_cons (b_var 2 rfl (.inl rfl)) (a_cons (b_of (e_int)) (a_cons (b_of (e_none)) (a_nil))))))
    (ss_nil))
theorem sc_check_part : FnScope ["places", "part", "item"] ["places", "part"] (defScope (topS 24)) := ⟨rfl, rfl, rfl, by decide +kernel, rfl, by decide +kernel, by decide +kernel⟩
set_option maxHeartbeats 4000000 in
theorem b_check_part {T : Tb} {k : Nat} (z : Mz T) (h : Fm T k) : ∀ (f : Addr) (cdv : Value) (A : Around) (outer : List PySem.Env) (s : Shared) (H : Hp) (E : XK), CB T k (asDef T ["places", "part", "item"] "check_part" (defScope (topS 24)) f cdv A outer s H E) → DSs T (Cq Pg FU k) (asDef T ["places", "part", "item"] "check_part" (defScope (topS 24)) f cdv A outer s H E) (defBody (topS 24)) s_check_part_v1 :=
  fun f cdv A outer s H E w =>
    ss_cons (s_if (t_w (w_or (t_not (t_val w (b_of (e_isi w .list (b_var 1 rfl (.inl rfl)) (pe_bltn rfl z.m_list (by first | exact PyProof.Rows.boot_list | exact PySem.boot_list) rfl) z.m_isinstance)))) (w_or1 (t_cmp w (b_of (e_lc w [("item", 2)] (i_seq w (e_var 1 rfl (.inl rfl))) (fun _ _ _ _ _ => g_v (w.blk _ _ _ _ _) 2 rfl (.inl rfl) (.inr rfl)) (fun _ _ _ _ _ => c_one (t_w (w_or (t_not (t_val (w.blk _ _ _ _ _) (b_of (e_fn (w.blk _ _ _ _ _) h.c_is_whole rfl (a_cons (b_var 2 rfl (.inl rfl)) (a_nil)))))) (w_or1 (t_cmp (w.blk _ _ _ _ _) (b_var 2 rfl (.inl rfl)) (b_var 0 rfl (.inr (.inl rfl)))))))) (fun _ _ _ _ _ => e_var 2 rfl (.inl rfl)) (blkOk_by (by kernel_rfl)))) (b_of (e_lst (l_nil))))))) (ss_cons (s_nev)
    (ss_nil)) (ss_nil))
    (ss_cons (s_if (t_not (t_val w (b_of (e_fn w h.c_rises rfl (a_cons (b_var 1 rfl (.inl rfl)) (a_nil)))))) (ss_cons (s_nev)
    (ss_nil)) (ss_nil))
    (ss_nil))
theorem sc_bits_at : FnScope ["width", "count", "part", "number"] ["width", "count", "part"] (defScope (topS 25)) := ⟨rfl, rfl, rfl, by decide +kernel, rfl, by decide +kernel, by decide +kernel⟩
set_option maxHeartbeats 4000000 in
theorem b_bits_at {T : Tb} {k : Nat} (z : Mz T) (h : Fm T k) : ∀ (f : Addr) (cdv : Value) (A : Around) (outer : List PySem.Env) (s : Shared) (H : Hp) (E : XK), CB T k (asDef T ["width", "count", "part", "number"] "bits_at" (defScope (topS 25)) f cdv A outer s H E) → DSs T (Cq Pg FU k) (asDef T ["width", "count", "part", "number"] "bits_at" (defScope (topS 25)) f cdv A outer s H E) (defBody (topS 25)) s_bits_at_v1 :=
  fun f cdv A outer s H E w =>
    ss_cons (s_ret (e_biB (bi := .sum) (bi_sum w.eK w.calm) z.m_sum (by first | exact PyProof.Rows.boot_sum | exact PySem.boot_sum) (a_cons (b_of (e_lc w [("number", 3)] (i_seq w (e_slc w (b_of (e_idx w (b_of (e_fn w h.c_good_row rfl (a_cons (b_var 2 rfl (.inl rfl)) (a_nil)))) (b_of (e_int)))) (p_none) (p_some (b_var 1 rfl (.inl rfl))))) (fun _ _ _ _ _ => g_v (w.blk _ _ _ _ _) 3 rfl (.inl rfl) (.inr rfl)) (fun _ _ _ _ _ => c_one (t_cmp (w.blk _ _ _ _ _) (b_var 3 rfl (.inl rfl)) (b_var 0 rfl (.inr (.inl rfl))))) (fun _ _ _ _ _ => e_bin (w.blk _ _ _ _ _) (b_var 0 rfl (.inr (.inl rfl))) (b_var 3 rfl (.inl rfl))) (blkOk_by (by kernel_rfl)))) (a_nil))))
    (ss_nil)
theorem sc_together : FnScope ["parts", "part", "place"] ["parts"] (defScope (topS 26)) := ⟨rfl, rfl, rfl, by decide +kernel, rfl, by decide +kernel, by decide +kernel⟩
set_option maxHeartbeats 4000000 in
theorem b_together {T : Tb} {k : Nat} (z : Mz T) (h : Fm T k) : ∀ (f : Addr) (cdv : Value) (A : Around) (outer : List PySem.Env) (s : Shared) (H : Hp) (E : XK), CB T k (asDef T ["parts", "part", "place"] "together" (defScope (topS 26)) f cdv A outer s H E) → DSs T (Cq Pg FU k) (asDef T ["parts", "part", "place"] "together" (defScope (topS 26)) f cdv A outer s H E) (defBody (topS 26)) s_together :=
  fun f cdv A outer s H E w =>
    ss_cons (s_ret (e_srs w z.m_sorted z.m_set (by first | exact PyProof.Rows.boot_sorted | exact PySem.boot_sorted) (by first | exact PyProof.Rows.boot_set | exact PySem.boot_set) (e_lc2 w [("part", 1), ("place", 2)] [2] (i_seq w (e_var 0 rfl (.inl rfl))) (fun _ _ _ _ _ => g_v (w.blk _ _ _ _ _) 1 rfl (.inl rfl) (.inr rfl)) (fun _ _ _ _ _ => c_nil) (fun _ _ _ _ _ => i_seq (w.blk _ _ _ _ _) (e_var 1 rfl (.inl rfl))) (fun _ _ _ _ _ => g_v (w.blk _ _ _ _ _) 2 rfl (.inl rfl) (.inr rfl)) (fun _ _ _ _ _ => c_nil) (fun _ _ _ _ _ => e_var 2 rfl (.inl rfl)) (blkOk_by (by kernel_rfl)))))
    (ss_nil)
theorem sc_part_bits : FnScope ["width", "places", "count", "part"] ["width", "places", "count", "part"] (defScope (topS 27)) := ⟨rfl, rfl, rfl, by decide +kernel, rfl, by decide +kernel, by decide +kernel⟩
set_option maxHeartbeats 4000000 in
theorem b_part_bits {T : Tb} {k : Nat} (z : Mz T) (h : Fm T k) : ∀ (f : Addr) (cdv : Value) (A : Around) (outer : List PySem.Env) (s : Shared) (H : Hp) (E : XK), CB T k (asDef T ["width", "places", "count", "part"] "part_bits" (defScope (topS 27)) f cdv A outer s H E) → DSs T (Cq Pg FU k) (asDef T ["width", "places", "count", "part"] "part_bits" (defScope (topS 27)) f cdv A outer s H E) (defBody (topS 27)) s_part_bits :=
  fun f cdv A outer s H E w =>
    ss_cons (s_ex (e_fn w h.c_check_code_joined rfl (a_cons (b_var 0 rfl (.inl rfl)) (a_cons (b_var 1 rfl (.inl rfl)) (a_cons (b_var 2 rfl (.inl rfl)) (a_nil))))))
    (ss_cons (s_ex (e_fn w h.c_check_part rfl (a_cons (b_var 1 rfl (.inl rfl)) (a_cons (b_var 3 rfl (.inl rfl)) (a_nil)))))
    (ss_cons (s_ret (e_fn w h.c_bits_at rfl (a_cons (b_var 0 rfl (.inl rfl)) (a_cons (b_var 2 rfl (.inl rfl)) (a_cons (b_var 3 rfl (.inl rfl)) (a_nil))))))
    (ss_nil)))
theorem sc_said_bits : FnScope ["width", "places", "count", "one", "other", "third", "part", "both"] ["width", "places", "count", "one", "other", "third"] (defScope (topS 28)) := ⟨rfl, rfl, rfl, by decide +kernel, rfl, by decide +kernel, by decide +kernel⟩
set_option maxHeartbeats 4000000 in
theorem b_said_bits {T : Tb} {k : Nat} (z : Mz T) (h : Fm T k) : ∀ (f : Addr) (cdv : Value) (A : Around) (outer : List PySem.Env) (s : Shared) (H : Hp) (E : XK), CB T k (asDef T ["width", "places", "count", "one", "other", "third", "part", "both"] "said_bits" (defScope (topS 28)) f cdv A outer s H E) → DSs T (Cq Pg FU k) (asDef T ["width", "places", "count", "one", "other", "third", "part", "both"] "said_bits" (defScope (topS 28)) f cdv A outer s H E) (defBody (topS 28)) s_said_bits :=
  fun f cdv A outer s H E w =>
    ss_cons (s_ex (e_fn w h.c_check_code_joined rfl (a_cons (b_var 0 rfl (.inl rfl)) (a_cons (b_var 1 rfl (.inl rfl)) (a_cons (b_var 2 rfl (.inl rfl)) (a_nil))))))
    (ss_cons (s_for w (i_seq w (e_lst (l_cons (e_var 3 rfl (.inl rfl)) (l_cons (e_var 4 rfl (.inl rfl)) (l_cons (e_var 5 rfl (.inl rfl)) (l_nil)))))) (g_v w 6 rfl (.inl rfl) (.inr rfl)) (ss_cons (s_ex (e_fn w h.c_check_part rfl (a_cons (b_var 1 rfl (.inl rfl)) (a_cons (b_var 6 rfl (.inl rfl)) (a_nil)))))
    (ss_nil)))
    (ss_cons (s_set w 7 (e_bin w (b_of (e_fn w h.c_bits_at rfl (a_cons (b_var 0 rfl (.inl rfl)) (a_cons (b_var 2 rfl (.inl rfl)) (a_cons (b_of (e_fn w h.c_together rfl (a_cons (b_of (e_lst (l_cons (e_var 3 rfl (.inl rfl)) (l_cons (e_var 5 rfl (.inl rfl)) (l_nil))))) (a_nil)))) (a_nil)))))) (b_of (e_fn w h.c_bits_at rfl (a_cons (b_var 0 rfl (.inl rfl)) (a_cons (b_var 2 rfl (.inl rfl)) (a_cons (b_of (e_fn w h.c_together rfl (a_cons (b_of (e_lst (l_cons (e_var 4 rfl (.inl rfl)) (l_cons (e_var 5 rfl (.inl rfl)) (l_nil))))) (a_nil)))) (a_nil))))))) rfl (.inl rfl) (.inr rfl))
    (ss_cons (s_ret (e_bin w (b_of (e_bin w (b_var 7 rfl (.inl rfl)) (b_of (e_fn w h.c_bits_at rfl (a_cons (b_var 0 rfl (.inl rfl)) (a_cons (b_var 2 rfl (.inl rfl)) (a_cons (b_of (e_fn w h.c_together rfl (a_cons (b_of (e_lst (l_cons (e_var 3 rfl (.inl rfl)) (l_cons (e_var 4 rfl (.inl rfl)) (l_cons (e_var 5 rfl (.inl rfl)) (l_nil)))))) (a_nil)))) (a_nil)))))))) (b_of (e_fn w h.c_bits_at rfl (a_cons (b_var 0 rfl (.inl rfl)) (a_cons (b_var 2 rfl (.inl rfl)) (a_cons (b_var 5 rfl (.inl rfl)) (a_nil))))))))
    (ss_nil))))
theorem sc_check_code_codes : FnScope ["width", "places", "count"] ["width", "places", "count"] (defScope (topS 30)) := ⟨rfl, rfl, rfl, by decide +kernel, rfl, by decide +kernel, by decide +kernel⟩
set_option maxHeartbeats 4000000 in
theorem b_check_code_codes {T : Tb} {k : Nat} (z : Mz T) (h : Fm T k) : ∀ (f : Addr) (cdv : Value) (A : Around) (outer : List PySem.Env) (s : Shared) (H : Hp) (E : XK), CB T k (asDef T ["width", "places", "count"] "check_code" (defScope (topS 30)) f cdv A outer s H E) → DSs T (Cq Pg FU k) (asDef T ["width", "places", "count"] "check_code" (defScope (topS 30)) f cdv A outer s H E) (defBody (topS 30)) s_check_code :=
  fun f cdv A outer s H E w =>
    ss_cons (s_ex (e_fn w h.c_check_places rfl (a_cons (b_var 0 rfl (.inl rfl)) (a_cons (b_var 1 rfl (.inl rfl)) (a_nil)))))
    (ss_cons (s_ex (e_fn w h.c_check_number rfl (a_cons (b_var 2 rfl (.inl rfl)) (a_cons (b_of (e_int)) (a_cons (b_of (e_none)) (a_nil))))))
    (ss_nil))
theorem sc_size_power : FnScope ["width", "numbers", "count", "number"] ["width", "numbers", "count"] (defScope (topS 33)) := ⟨rfl, rfl, rfl, by decide +kernel, rfl, by decide +kernel, by decide +kernel⟩
set_option maxHeartbeats 4000000 in
theorem b_size_power {T : Tb} {k : Nat} (z : Mz T) (h : Fm T k) : ∀ (f : Addr) (cdv : Value) (A : Around) (outer : List PySem.Env) (s : Shared) (H : Hp) (E : XK), CB T k (asDef T ["width", "numbers", "count", "number"] "size_power" (defScope (topS 33)) f cdv A outer s H E) → DSs T (Cq Pg FU k) (asDef T ["width", "numbers", "count", "number"] "size_power" (defScope (topS 33)) f cdv A outer s H E) (defBody (topS 33)) s_size_power :=
  fun f cdv A outer s H E w =>
    ss_cons (s_ret (e_biB (bi := .sum) (bi_sum w.eK w.calm) z.m_sum (by first | exact PyProof.Rows.boot_sum | exact PySem.boot_sum) (a_cons (b_of (e_lc w [("number", 3)] (i_seq w (e_slc w (b_var 1 rfl (.inl rfl)) (p_none) (p_some (b_of (e_fn w h.c_items_counted rfl (a_cons (b_var 0 rfl (.inr (.inl rfl))) (a_cons (b_var 1 rfl (.inl rfl)) (a_cons (b_var 2 rfl (.inl rfl)) (a_nil))))))))) (fun _ _ _ _ _ => g_v (w.blk _ _ _ _ _) 3 rfl (.inl rfl) (.inr rfl)) (fun _ _ _ _ _ => c_nil) (fun _ _ _ _ _ => e_bin (w.blk _ _ _ _ _) (b_var 0 rfl (.inr (.inl rfl))) (b_var 3 rfl (.inl rfl))) (blkOk_by (by kernel_rfl)))) (a_nil))))
    (ss_nil)
theorem sc_how_many_codewords : FnScope ["width", "places", "count"] ["width", "places", "count"] (defScope (topS 34)) := ⟨rfl, rfl, rfl, by decide +kernel, rfl, by decide +kernel, by decide +kernel⟩
set_option maxHeartbeats 4000000 in
theorem b_how_many_codewords {T : Tb} {k : Nat} (z : Mz T) (h : Fm T k) : ∀ (f : Addr) (cdv : Value) (A : Around) (outer : List PySem.Env) (s : Shared) (H : Hp) (E : XK), CB T k (asDef T ["width", "places", "count"] "how_many_codewords" (defScope (topS 34)) f cdv A outer s H E) → DSs T (Cq Pg FU k) (asDef T ["width", "places", "count"] "how_many_codewords" (defScope (topS 34)) f cdv A outer s H E) (defBody (topS 34)) s_how_many_codewords_v1 :=
  fun f cdv A outer s H E w =>
    ss_cons (s_ex (e_fn w h.c_check_code_codes rfl (a_cons (b_var 0 rfl (.inl rfl)) (a_cons (b_var 1 rfl (.inl rfl)) (a_cons (b_var 2 rfl (.inl rfl)) (a_nil))))))
    (ss_cons (s_ret (e_fn w h.c_power_of_two rfl (a_cons (b_of (e_fn w h.c_size_power rfl (a_cons (b_var 0 rfl (.inl rfl)) (a_cons (b_of (e_idx w (b_of (e_fn w h.c_good_row rfl (a_cons (b_var 1 rfl (.inl rfl)) (a_nil)))) (b_of (e_int)))) (a_cons (b_var 2 rfl (.inl rfl)) (a_nil)))))) (a_nil))))
    (ss_nil))
theorem sc__law_hash : FnScope ["_law_seed", "_law_index", "_law_mixed"] ["_law_seed", "_law_index"] (defScope (topS 36)) := ⟨rfl, rfl, rfl, by decide +kernel, rfl, by decide +kernel, by decide +kernel⟩
set_option maxHeartbeats 4000000 in
theorem b__law_hash {T : Tb} {k : Nat} (z : Mz T) (h : Fm T k) : ∀ (f : Addr) (cdv : Value) (A : Around) (outer : List PySem.Env) (s : Shared) (H : Hp) (E : XK), CB T k (asDef T ["_law_seed", "_law_index", "_law_mixed"] "_law_hash" (defScope (topS 36)) f cdv A outer s H E) → DSs T (Cq Pg FU k) (asDef T ["_law_seed", "_law_index", "_law_mixed"] "_law_hash" (defScope (topS 36)) f cdv A outer s H E) (defBody (topS 36)) s__law_hash :=
  fun f cdv A outer s H E w =>
    ss_cons (s_set w 2 (e_bin w (b_of (e_biT (bi := .int) (bi_int) z.m_int (by first | exact PyProof.Rows.boot_int | exact PySem.boot_int) (a_cons (b_of (e_bin w (b_of (e_bin w (b_of (e_bin w (b_of (e_bin w (b_var 0 rfl (.inl rfl)) (b_of (e_int)))) (b_of (e_bin w (b_of (e_bin w (b_of (e_int)) (b_var 1 rfl (.inl rfl)))) (b_var 1 rfl (.inl rfl)))))) (b_of (e_bin w (b_of (e_int)) (b_var 1 rfl (.inl rfl)))))) (b_of (e_int)))) (a_nil)))) (b_of (e_int))) rfl (.inl rfl) (.inr rfl))
    (ss_cons (s_set w 2 (e_bin w (b_of (e_biT (bi := .int) (bi_int) z.m_int (by first | exact PyProof.Rows.boot_int | exact PySem.boot_int) (a_cons (b_of (e_bin w (b_of (e_bin w (b_of (e_bin w (b_var 2 rfl (.inl rfl)) (b_var 2 rfl (.inl rfl)))) (b_of (e_bin w (b_of (e_int)) (b_var 1 rfl (.inl rfl)))))) (b_of (e_int)))) (a_nil)))) (b_of (e_int))) rfl (.inl rfl) (.inr rfl))
    (ss_cons (s_ret (e_bin w (b_of (e_biT (bi := .int) (bi_int) z.m_int (by first | exact PyProof.Rows.boot_int | exact PySem.boot_int) (a_cons (b_of (e_bin w (b_var 2 rfl (.inl rfl)) (b_of (e_int)))) (a_nil)))) (b_of (e_int))))
    (ss_nil)))
theorem sc__law_random : FnScope ["_law_generator_here", "_law_bound", "_law_drawn", "_law_turn"] ["_law_generator_here", "_law_bound"] (defScope (topS 37)) := ⟨rfl, rfl, rfl, by decide +kernel, rfl, by decide +kernel, by decide +kernel⟩
set_option maxHeartbeats 4000000 in
theorem b__law_random {T : Tb} {k : Nat} (z : Mz T) (h : Fm T k) : ∀ (f : Addr) (cdv : Value) (A : Around) (outer : List PySem.Env) (s : Shared) (H : Hp) (E : XK), CB T k (asDef T ["_law_generator_here", "_law_bound", "_law_drawn", "_law_turn"] "_law_random" (defScope (topS 37)) f cdv A outer s H E) → DSs T (Cq Pg FU k) (asDef T ["_law_generator_here", "_law_bound", "_law_drawn", "_law_turn"] "_law_random" (defScope (topS 37)) f cdv A outer s H E) (defBody (topS 37)) s__law_random :=
  fun f cdv A outer s H E w =>
    ss_cons (s_if (t_cmp w (b_of (e_idx w (b_var 0 rfl (.inl rfl)) (b_of (e_int)))) (b_of (e_int))) (ss_cons (s_set w 2 (e_bin w (b_of (e_biT (bi := .int) (bi_int) z.m_int (by first | exact PyProof.Rows.boot_int | exact PySem.boot_int) (a_cons (b_of (e_idx w (b_var 0 rfl (.inl rfl)) (b_of (e_int)))) (a_nil)))) (b_var 1 rfl (.inl rfl))) rfl (.inl rfl) (.inr rfl))
    (ss_cons (s_seti 0 (e_bin w (b_of (e_idx w (b_var 0 rfl (.inl rfl)) (b_of (e_int)))) (b_var 1 rfl (.inl rfl))) (L2.pe_var rfl (.inl rfl)) (e_int))
    (ss_cons (s_retv 2 (L2.pe_var rfl (.inl rfl)))
    (ss_nil)))) (ss_nil))
    (ss_cons (s_set w 2 (e_int) rfl (.inl rfl) (.inr rfl))
    (ss_cons (s_for w (i_rng1 (b_of (e_bin w (b_of (e_int)) (b_of (e_bin w (b_of (e_bits (b_var 1 rfl (.inl rfl)))) (b_of (e_int)))))) z.m_range) (g_v w 3 rfl (.inl rfl) (.inr rfl)) (ss_cons (s_seti 0 (e_bin w (b_of (e_idx w (b_var 0 rfl (.inl rfl)) (b_of (e_int)))) (b_of (e_int))) (L2.pe_var rfl (.inl rfl)) (e_int))
    (ss_cons (s_set w 2 (e_bin w (b_of (e_bin w (b_var 2 rfl (.inl rfl)) (b_of (e_int)))) (b_of (e_fn w h.c__law_hash rfl (a_cons (b_of (e_idx w (b_var 0 rfl (.inl rfl)) (b_of (e_int)))) (a_cons (b_of (e_idx w (b_var 0 rfl (.inl rfl)) (b_of (e_int)))) (a_nil)))))) rfl (.inl rfl) (.inr rfl))
    (ss_nil))))
    (ss_cons (s_ret (e_bin w (b_of (e_biT (bi := .int) (bi_int) z.m_int (by first | exact PyProof.Rows.boot_int | exact PySem.boot_int) (a_cons (b_var 2 rfl (.inl rfl)) (a_nil)))) (b_var 1 rfl (.inl rfl))))
    (ss_nil))))
theorem sc__law_cell : FnScope ["_law_script", "_law_index"] ["_law_script", "_law_index"] (defScope (topS 38)) := ⟨rfl, rfl, rfl, by decide +kernel, rfl, by decide +kernel, by decide +kernel⟩
set_option maxHeartbeats 4000000 in
theorem b__law_cell {T : Tb} {k : Nat} (z : Mz T) (h : Fm T k) : ∀ (f : Addr) (cdv : Value) (A : Around) (outer : List PySem.Env) (s : Shared) (H : Hp) (E : XK), CB T k (asDef T ["_law_script", "_law_index"] "_law_cell" (defScope (topS 38)) f cdv A outer s H E) → DSs T (Cq Pg FU k) (asDef T ["_law_script", "_law_index"] "_law_cell" (defScope (topS 38)) f cdv A outer s H E) (defBody (topS 38)) s__law_cell :=
  fun f cdv A outer s H E w =>
    ss_cons (s_if (t_cmp w (b_var 1 rfl (.inl rfl)) (b_of (e_biB (bi := .len) (bi_len w.eK) z.m_len (by first | exact PyProof.Rows.boot_len | exact PySem.boot_len) (a_cons (b_var 0 rfl (.inl rfl)) (a_nil))))) (ss_cons (s_ret (e_idx w (b_var 0 rfl (.inl rfl)) (b_var 1 rfl (.inl rfl))))
    (ss_nil)) (ss_nil))
    (ss_cons (s_ret (e_bin w (b_of (e_biB (bi := .sum) (bi_sum w.eK w.calm) z.m_sum (by first | exact PyProof.Rows.boot_sum | exact PySem.boot_sum) (a_cons (b_of (e_slc w (b_var 0 rfl (.inl rfl)) (p_none) (p_some (b_of (e_int))))) (a_nil)))) (b_of (e_int))))
    (ss_nil))
theorem sc__law_generator : FnScope ["_law_script", "_law_index", "_law_seed"] ["_law_script", "_law_index"] (defScope (topS 39)) := ⟨rfl, rfl, rfl, by decide +kernel, rfl, by decide +kernel, by decide +kernel⟩
set_option maxHeartbeats 4000000 in
theorem b__law_generator {T : Tb} {k : Nat} (z : Mz T) (h : Fm T k) : ∀ (f : Addr) (cdv : Value) (A : Around) (outer : List PySem.Env) (s : Shared) (H : Hp) (E : XK), CB T k (asDef T ["_law_script", "_law_index", "_law_seed"] "_law_generator" (defScope (topS 39)) f cdv A outer s H E) → DSs T (Cq Pg FU k) (asDef T ["_law_script", "_law_index", "_law_seed"] "_law_generator" (defScope (topS 39)) f cdv A outer s H E) (defBody (topS 39)) s__law_generator :=
  fun f cdv A outer s H E w =>
    ss_cons (s_set w 2 (e_fn w h.c__law_cell rfl (a_cons (b_var 0 rfl (.inl rfl)) (a_cons (b_var 1 rfl (.inl rfl)) (a_nil)))) rfl (.inl rfl) (.inr rfl))
    (ss_cons (s_ret (e_lst (l_cons (e_bin w (b_of (e_biT (bi := .int) (bi_int) z.m_int (by first | exact PyProof.Rows.boot_int | exact PySem.boot_int) (a_cons (b_of (e_biB (bi := .max) (bi_max w.eK w.calm) z.m_max (by first | exact PyProof.Rows.boot_max | exact PySem.boot_max) (a_cons (b_of (e_bin w (b_var 2 rfl (.inl rfl)) (b_of (e_bin w (b_of (e_int)) (b_of (e_int)))))) (a_cons (b_of (e_int)) (a_nil))))) (a_nil)))) (b_of (e_bin w (b_of (e_bin w (b_of (e_int)) (b_of (e_int)))) (b_of (e_int))))) (l_cons (e_bin w (b_of (e_biT (bi := .int) (bi_int) z.m_int (by first | exact PyProof.Rows.boot_int | exact PySem.boot_int) (a_cons (b_var 2 rfl (.inl rfl)) (a_nil)))) (b_of (e_int))) (l_cons (e_bin w (b_of (e_int)) (b_var 1 rfl (.inl rfl))) (l_nil))))))
    (ss_nil))
theorem sc__law_size : FnScope ["_law_generator_here", "_law_least", "_law_most"] ["_law_generator_here", "_law_least", "_law_most"] (defScope (topS 40)) := ⟨rfl, rfl, rfl, by decide +kernel, rfl, by decide +kernel, by decide +kernel⟩
set_option maxHeartbeats 4000000 in
theorem b__law_size {T : Tb} {k : Nat} (z : Mz T) (h : Fm T k) : ∀ (f : Addr) (cdv : Value) (A : Around) (outer : List PySem.Env) (s : Shared) (H : Hp) (E : XK), CB T k (asDef T ["_law_generator_here", "_law_least", "_law_most"] "_law_size" (defScope (topS 40)) f cdv A outer s H E) → DSs T (Cq Pg FU k) (asDef T ["_law_generator_here", "_law_least", "_law_most"] "_law_size" (defScope (topS 40)) f cdv A outer s H E) (defBody (topS 40)) s__law_size :=
  fun f cdv A outer s H E w =>
    ss_cons (s_ret (e_bin w (b_var 1 rfl (.inl rfl)) (b_of (e_fn w h.c__law_random rfl (a_cons (b_var 0 rfl (.inl rfl)) (a_cons (b_of (e_bin w (b_of (e_bin w (b_var 2 rfl (.inl rfl)) (b_var 1 rfl (.inl rfl)))) (b_of (e_int)))) (a_nil)))))))
    (ss_nil)
theorem sc__law_pick : FnScope ["_law_generator_here", "_law_numbers", "_law_many", "_law_left", "_law_turn"] ["_law_generator_here", "_law_numbers", "_law_many"] (defScope (topS 41)) := ⟨rfl, rfl, rfl, by decide +kernel, rfl, by decide +kernel, by decide +kernel⟩
set_option maxHeartbeats 4000000 in
theorem b__law_pick {T : Tb} {k : Nat} (z : Mz T) (h : Fm T k) : ∀ (f : Addr) (cdv : Value) (A : Around) (outer : List PySem.Env) (s : Shared) (H : Hp) (E : XK), CB T k (asDef T ["_law_generator_here", "_law_numbers", "_law_many", "_law_left", "_law_turn"] "_law_pick" (defScope (topS 41)) f cdv A outer s H E) → DSs T (Cq Pg FU k) (asDef T ["_law_generator_here", "_law_numbers", "_law_many", "_law_left", "_law_turn"] "_law_pick" (defScope (topS 41)) f cdv A outer s H E) (defBody (topS 41)) s__law_pick :=
  fun f cdv A outer s H E w =>
    ss_cons (s_set w 3 (e_biT (bi := .list) (bi_list w.eK) z.m_list (by first | exact PyProof.Rows.boot_list | exact PySem.boot_list) (a_cons (b_var 1 rfl (.inl rfl)) (a_nil))) rfl (.inr rfl) (.inl rfl))
    (ss_cons (s_ret (e_biB (bi := .sorted) (bi_sorted w.eK (by have := w.room.un; omega)) z.m_sorted (by first | exact PyProof.Rows.boot_sorted | exact PySem.boot_sorted) (a_cons (b_of (e_lc w [("_law_turn", 4)] (i_rng1 (b_of (e_biB (bi := .min) (bi_min w.eK w.calm) z.m_min (by first | exact PyProof.Rows.boot_min | exact PySem.boot_min) (a_cons (b_var 2 rfl (.inl rfl)) (a_cons (b_of (e_biB (bi := .len) (bi_len w.eK) z.m_len (by first | exact PyProof.Rows.boot_len | exact PySem.boot_len) (a_cons (b_var 3 rfl (.inr (.inl rfl))) (a_nil)))) (a_nil))))) z.m_range) (fun _ _ _ _ _ => g_v (w.blk _ _ _ _ _) 4 rfl (.inl rfl) (.inr rfl)) (fun _ _ _ _ _ => c_nil) (fun _ _ _ _ _ => e_popAt (w.blk _ _ _ _ _) 3 (L2.pe_var rfl (.inr (.inl rfl))) (e_fn (w.blk _ _ _ _ _) h.c__law_random rfl (a_cons (b_var 0 rfl (.inr (.inl rfl))) (a_cons (b_of (e_biB (bi := .len) (bi_len (w.blk _ _ _ _ _).eK) z.m_len (by first | exact PyProof.Rows.boot_len | exact PySem.boot_len) (a_cons (b_var 3 rfl (.inr (.inl rfl))) (a_nil)))) (a_nil))))) (blkOk_by (by kernel_rfl)))) (a_nil))))
    (ss_nil))
theorem sc__law_code : FnScope ["_law_generator_here", "_law_most", "_law_width", "_law_spots"] ["_law_generator_here", "_law_most"] (defScope (topS 42)) := ⟨rfl, rfl, rfl, by decide +kernel, rfl, by decide +kernel, by decide +kernel⟩
set_option maxHeartbeats 4000000 in
theorem b__law_code {T : Tb} {k : Nat} (z : Mz T) (h : Fm T k) : ∀ (f : Addr) (cdv : Value) (A : Around) (outer : List PySem.Env) (s : Shared) (H : Hp) (E : XK), CB T k (asDef T ["_law_generator_here", "_law_most", "_law_width", "_law_spots"] "_law_code" (defScope (topS 42)) f cdv A outer s H E) → DSs T (Cq Pg FU k) (asDef T ["_law_generator_here", "_law_most", "_law_width", "_law_spots"] "_law_code" (defScope (topS 42)) f cdv A outer s H E) (defBody (topS 42)) s__law_code :=
  fun f cdv A outer s H E w =>
    ss_cons (s_set w 2 (e_fn w h.c__law_size rfl (a_cons (b_var 0 rfl (.inl rfl)) (a_cons (b_of (e_int)) (a_cons (b_of (e_int)) (a_nil))))) rfl (.inl rfl) (.inr rfl))
    (ss_cons (s_set w 3 (e_fn w h.c__law_pick rfl (a_cons (b_var 0 rfl (.inl rfl)) (a_cons (b_of (e_lrg1 w (b_of (e_idx w (b_of (e_lst (l_cons (e_int) (l_cons (e_int) (l_cons (e_int) (l_cons (e_int) (l_nil))))))) (b_of (e_bin w (b_var 2 rfl (.inl rfl)) (b_of (e_int)))))) z.m_list z.m_range)) (a_cons (b_of (e_fn w h.c__law_size rfl (a_cons (b_var 0 rfl (.inl rfl)) (a_cons (b_of (e_int)) (a_cons (b_var 1 rfl (.inl rfl)) (a_nil)))))) (a_nil))))) rfl (.inl rfl) (.inr rfl))
    (ss_cons (s_ret (e_tup (l_cons (e_var 2 rfl (.inl rfl)) (l_cons (e_var 3 rfl (.inl rfl)) (l_cons (e_fn w h.c__law_random rfl (a_cons (b_var 0 rfl (.inl rfl)) (a_cons (b_of (e_idx w (b_of (e_lst (l_cons (e_int) (l_cons (e_int) (l_cons (e_int) (l_cons (e_int) (l_nil))))))) (b_of (e_bin w (b_var 2 rfl (.inl rfl)) (b_of (e_int)))))) (a_nil)))) (l_nil))))))
    (ss_nil)))
theorem sc__law_power : FnScope ["_law_many", "_law_found", "_law_turn"] ["_law_many"] (defScope (topS 43)) := ⟨rfl, rfl, rfl, by decide +kernel, rfl, by decide +kernel, by decide +kernel⟩
set_option maxHeartbeats 4000000 in
theorem b__law_power {T : Tb} {k : Nat} (z : Mz T) (h : Fm T k) : ∀ (f : Addr) (cdv : Value) (A : Around) (outer : List PySem.Env) (s : Shared) (H : Hp) (E : XK), CB T k (asDef T ["_law_many", "_law_found", "_law_turn"] "_law_power" (defScope (topS 43)) f cdv A outer s H E) → DSs T (Cq Pg FU k) (asDef T ["_law_many", "_law_found", "_law_turn"] "_law_power" (defScope (topS 43)) f cdv A outer s H E) (defBody (topS 43)) s__law_power_v3 :=
  fun f cdv A outer s H E w =>
    ss_cons (s_set w 1 (e_int) rfl (.inl rfl) (.inr rfl))
    (ss_cons (s_for w (i_rng1 (b_var 0 rfl (.inl rfl)) z.m_range) (g_v w 2 rfl (.inl rfl) (.inr rfl)) (ss_cons (s_set w 1 (e_bin w (b_var 1 rfl (.inl rfl)) (b_var 1 rfl (.inl rfl))) rfl (.inl rfl) (.inr rfl))
    (ss_nil)))
    (ss_cons (s_retv 1 (L2.pe_var rfl (.inl rfl)))
    (ss_nil)))
theorem sc__law_made : FnScope ["_law_width", "_law_powers_here", "_law_spot", "_law_found", "_law_item"] ["_law_width", "_law_powers_here", "_law_spot"] (defScope (topS 44)) := ⟨rfl, rfl, rfl, by decide +kernel, rfl, by decide +kernel, by decide +kernel⟩
set_option maxHeartbeats 4000000 in
theorem b__law_made {T : Tb} {k : Nat} (z : Mz T) (h : Fm T k) : ∀ (f : Addr) (cdv : Value) (A : Around) (outer : List PySem.Env) (s : Shared) (H : Hp) (E : XK), CB T k (asDef T ["_law_width", "_law_powers_here", "_law_spot", "_law_found", "_law_item"] "_law_made" (defScope (topS 44)) f cdv A outer s H E) → DSs T (Cq Pg FU k) (asDef T ["_law_width", "_law_powers_here", "_law_spot", "_law_found", "_law_item"] "_law_made" (defScope (topS 44)) f cdv A outer s H E) (defBody (topS 44)) s__law_made_v1 :=
  fun f cdv A outer s H E w =>
    ss_cons (s_set w 3 (e_int) rfl (.inl rfl) (.inr rfl))
    (ss_cons (s_for w (i_seq w (e_rev1 w (b_var 1 rfl (.inl rfl)))) (g_v w 4 rfl (.inl rfl) (.inr rfl)) (ss_cons (s_set w 3 (e_bin w (b_of (e_biT (bi := .int) (bi_int) z.m_int (by first | exact PyProof.Rows.boot_int | exact PySem.boot_int) (a_cons (b_of (e_bin w (b_of (e_bin w (b_var 3 rfl (.inl rfl)) (b_var 2 rfl (.inl rfl)))) (b_var 4 rfl (.inl rfl)))) (a_nil)))) (b_of (e_fn w h.c__law_power rfl (a_cons (b_var 0 rfl (.inl rfl)) (a_nil))))) rfl (.inl rfl) (.inr rfl))
    (ss_nil)))
    (ss_cons (s_retv 3 (L2.pe_var rfl (.inl rfl)))
    (ss_nil)))
theorem sc__law_powers : FnScope ["_law_width", "_law_count", "_law_found", "_law_turn", "_law_longer", "_law_powers_here", "_law_item"] ["_law_width", "_law_count"] (defScope (topS 45)) := ⟨rfl, rfl, rfl, by decide +kernel, rfl, by decide +kernel, by decide +kernel⟩
set_option maxHeartbeats 4000000 in
theorem b__law_powers {T : Tb} {k : Nat} (z : Mz T) (h : Fm T k) : ∀ (f : Addr) (cdv : Value) (A : Around) (outer : List PySem.Env) (s : Shared) (H : Hp) (E : XK), CB T k (asDef T ["_law_width", "_law_count", "_law_found", "_law_turn", "_law_longer", "_law_powers_here", "_law_item"] "_law_powers" (defScope (topS 45)) f cdv A outer s H E) → DSs T (Cq Pg FU k) (asDef T ["_law_width", "_law_count", "_law_found", "_law_turn", "_law_longer", "_law_powers_here", "_law_item"] "_law_powers" (defScope (topS 45)) f cdv A outer s H E) (defBody (topS 45)) s__law_powers :=
  fun f cdv A outer s H E w =>
    ss_cons (s_set w 2 (e_lst (l_cons (e_lst (l_nil)) (l_nil))) rfl (.inl rfl) (.inr rfl))
    (ss_cons (s_for w (i_rng1 (b_var 1 rfl (.inl rfl)) z.m_range) (g_v w 3 rfl (.inl rfl) (.inr rfl)) (ss_cons (s_set w 4 (e_lst (l_nil)) rfl (.inl rfl) (.inr rfl))
    (ss_cons (s_for w (i_seq w (e_var 2 rfl (.inl rfl))) (g_v w 5 rfl (.inr rfl) (.inl rfl)) (ss_cons (s_set w 4 (e_bin w (b_var 4 rfl (.inl rfl)) (b_of (e_lc w [("_law_item", 6)] (i_rng1 (b_of (e_fn w h.c__law_power rfl (a_cons (b_var 0 rfl (.inl rfl)) (a_nil)))) z.m_range) (fun _ _ _ _ _ => g_v (w.blk _ _ _ _ _) 6 rfl (.inl rfl) (.inr rfl)) (fun _ _ _ _ _ => c_nil) (fun _ _ _ _ _ => e_bin (w.blk _ _ _ _ _) (b_var 5 rfl (.inr (.inl rfl))) (b_of (e_lst (l_cons (e_var 6 rfl (.inl rfl)) (l_nil))))) (blkOk_by (by kernel_rfl))))) rfl (.inl rfl) (.inr rfl))
    (ss_nil)))
    (ss_cons (s_set w 2 (e_var 4 rfl (.inl rfl)) rfl (.inl rfl) (.inr rfl))
    (ss_nil)))))
    (ss_cons (s_retv 2 (L2.pe_var rfl (.inl rfl)))
    (ss_nil)))
theorem sc__law_listed : FnScope ["_law_width", "_law_spots", "_law_count", "_law_found", "_law_powers_here", "_law_spot"] ["_law_width", "_law_spots", "_law_count"] (defScope (topS 46)) := ⟨rfl, rfl, rfl, by decide +kernel, rfl, by decide +kernel, by decide +kernel⟩
set_option maxHeartbeats 4000000 in
theorem b__law_listed {T : Tb} {k : Nat} (z : Mz T) (h : Fm T k) : ∀ (f : Addr) (cdv : Value) (A : Around) (outer : List PySem.Env) (s : Shared) (H : Hp) (E : XK), CB T k (asDef T ["_law_width", "_law_spots", "_law_count", "_law_found", "_law_powers_here", "_law_spot"] "_law_listed" (defScope (topS 46)) f cdv A outer s H E) → DSs T (Cq Pg FU k) (asDef T ["_law_width", "_law_spots", "_law_count", "_law_found", "_law_powers_here", "_law_spot"] "_law_listed" (defScope (topS 46)) f cdv A outer s H E) (defBody (topS 46)) s__law_listed_v2 :=
  fun f cdv A outer s H E w =>
    ss_cons (s_set w 3 (e_dnt) rfl (.inl rfl) (.inr rfl))
    (ss_cons (s_for w (i_seq w (e_fn w h.c__law_powers rfl (a_cons (b_var 0 rfl (.inr (.inl rfl))) (a_cons (b_var 2 rfl (.inl rfl)) (a_nil))))) (g_v w 4 rfl (.inr rfl) (.inl rfl)) (ss_cons (s_dput w 3 (e_bool) (L2.pe_var rfl (.inl rfl)) (e_biT (bi := .tuple) (bi_tuple w.eK) z.m_tuple (by first | exact PyProof.Rows.boot_tuple | exact PySem.boot_tuple) (a_cons (b_of (e_lc w [("_law_spot", 5)] (i_seq w (e_var 1 rfl (.inl rfl))) (fun _ _ _ _ _ => g_v (w.blk _ _ _ _ _) 5 rfl (.inl rfl) (.inr rfl)) (fun _ _ _ _ _ => c_nil) (fun _ _ _ _ _ => e_fn (w.blk _ _ _ _ _) h.c__law_made rfl (a_cons (b_var 0 rfl (.inr (.inl rfl))) (a_cons (b_var 4 rfl (.inr (.inl rfl))) (a_cons (b_var 5 rfl (.inl rfl)) (a_nil))))) (blkOk_by (by kernel_rfl)))) (a_nil))))
    (ss_nil)))
    (ss_cons (s_ret (e_biB (bi := .sorted) (bi_sorted w.eK (by have := w.room.un; omega)) z.m_sorted (by first | exact PyProof.Rows.boot_sorted | exact PySem.boot_sorted) (a_cons (b_of (e_dls w 3 (L2.pe_var rfl (.inl rfl)) z.m_list (by first | exact PyProof.Rows.boot_list | exact PySem.boot_list))) (a_nil))))
    (ss_nil)))
theorem sc__law_part : FnScope ["_law_generator_here", "_law_spots", "_law_spot"] ["_law_generator_here", "_law_spots"] (defScope (topS 47)) := ⟨rfl, rfl, rfl, by decide +kernel, rfl, by decide +kernel, by decide +kernel⟩
set_option maxHeartbeats 4000000 in
theorem b__law_part {T : Tb} {k : Nat} (z : Mz T) (h : Fm T k) : ∀ (f : Addr) (cdv : Value) (A : Around) (outer : List PySem.Env) (s : Shared) (H : Hp) (E : XK), CB T k (asDef T ["_law_generator_here", "_law_spots", "_law_spot"] "_law_part" (defScope (topS 47)) f cdv A outer s H E) → DSs T (Cq Pg FU k) (asDef T ["_law_generator_here", "_law_spots", "_law_spot"] "_law_part" (defScope (topS 47)) f cdv A outer s H E) (defBody (topS 47)) s__law_part :=
  fun f cdv A outer s H E w =>
    ss_cons (s_ret (e_lc w [("_law_spot", 2)] (i_seq w (e_var 1 rfl (.inl rfl))) (fun _ _ _ _ _ => g_v (w.blk _ _ _ _ _) 2 rfl (.inl rfl) (.inr rfl)) (fun _ _ _ _ _ => c_one (t_cmp (w.blk _ _ _ _ _) (b_of (e_fn (w.blk _ _ _ _ _) h.c__law_random rfl (a_cons (b_var 0 rfl (.inr (.inl rfl))) (a_cons (b_of (e_int)) (a_nil))))) (b_of (e_int)))) (fun _ _ _ _ _ => e_var 2 rfl (.inl rfl)) (blkOk_by (by kernel_rfl))))
    (ss_nil)
theorem sc__law_at : FnScope ["_law_spots", "_law_words", "_law_part_here", "_law_spot"] ["_law_spots", "_law_words", "_law_part_here"] (defScope (topS 48)) := ⟨rfl, rfl, rfl, by decide +kernel, rfl, by decide +kernel, by decide +kernel⟩
set_option maxHeartbeats 4000000 in
theorem b__law_at {T : Tb} {k : Nat} (z : Mz T) (h : Fm T k) : ∀ (f : Addr) (cdv : Value) (A : Around) (outer : List PySem.Env) (s : Shared) (H : Hp) (E : XK), CB T k (asDef T ["_law_spots", "_law_words", "_law_part_here", "_law_spot"] "_law_at" (defScope (topS 48)) f cdv A outer s H E) → DSs T (Cq Pg FU k) (asDef T ["_law_spots", "_law_words", "_law_part_here", "_law_spot"] "_law_at" (defScope (topS 48)) f cdv A outer s H E) (defBody (topS 48)) s__law_at :=
  fun f cdv A outer s H E w =>
    ss_cons (s_ret (e_biT (bi := .tuple) (bi_tuple w.eK) z.m_tuple (by first | exact PyProof.Rows.boot_tuple | exact PySem.boot_tuple) (a_cons (b_of (e_lc w [("_law_spot", 3)] (i_seq w (e_var 2 rfl (.inl rfl))) (fun _ _ _ _ _ => g_v (w.blk _ _ _ _ _) 3 rfl (.inl rfl) (.inr rfl)) (fun _ _ _ _ _ => c_nil) (fun _ _ _ _ _ => e_idx (w.blk _ _ _ _ _) (b_var 1 rfl (.inr (.inl rfl))) (b_of (e_index (w.blk _ _ _ _ _) (b_var 0 rfl (.inr (.inl rfl))) (b_var 3 rfl (.inl rfl))))) (blkOk_by (by kernel_rfl)))) (a_nil))))
    (ss_nil)
theorem sc__law_same : FnScope ["_law_one_told", "_law_other_told"] ["_law_one_told", "_law_other_told"] (defScope (topS 49)) := ⟨rfl, rfl, rfl, by decide +kernel, rfl, by decide +kernel, by decide +kernel⟩
set_option maxHeartbeats 4000000 in
theorem b__law_same {T : Tb} {k : Nat} (z : Mz T) (h : Fm T k) : ∀ (f : Addr) (cdv : Value) (A : Around) (outer : List PySem.Env) (s : Shared) (H : Hp) (E : XK), CB T k (asDef T ["_law_one_told", "_law_other_told"] "_law_same" (defScope (topS 49)) f cdv A outer s H E) → DSs T (Cq Pg FU k) (asDef T ["_law_one_told", "_law_other_told"] "_law_same" (defScope (topS 49)) f cdv A outer s H E) (defBody (topS 49)) s__law_same_v2 :=
  fun f cdv A outer s H E w =>
    ss_cons (s_ret (e_cmp w (b_of (e_biB (bi := .repr) (bi_repr w.eK w.grd (by have := w.room.un; omega)) z.m_repr (by first | exact PyProof.Rows.boot_repr | exact PySem.boot_repr) (a_cons (b_var 0 rfl (.inl rfl)) (a_nil)))) (b_of (e_biB (bi := .repr) (bi_repr w.eK w.grd (by have := w.room.un; omega)) z.m_repr (by first | exact PyProof.Rows.boot_repr | exact PySem.boot_repr) (a_cons (b_var 1 rfl (.inl rfl)) (a_nil))))))
    (ss_nil)
theorem sc__law_bits : FnScope ["_law_many", "_law_found"] ["_law_many"] (defScope (topS 50)) := ⟨rfl, rfl, rfl, by decide +kernel, rfl, by decide +kernel, by decide +kernel⟩
set_option maxHeartbeats 4000000 in
theorem b__law_bits {T : Tb} {k : Nat} (z : Mz T) (h : Fm T k) : ∀ (f : Addr) (cdv : Value) (A : Around) (outer : List PySem.Env) (s : Shared) (H : Hp) (E : XK), CB T k (asDef T ["_law_many", "_law_found"] "_law_bits" (defScope (topS 50)) f cdv A outer s H E) → DSs T (Cq Pg FU k) (asDef T ["_law_many", "_law_found"] "_law_bits" (defScope (topS 50)) f cdv A outer s H E) (defBody (topS 50)) s__law_bits_v3 :=
  fun f cdv A outer s H E w =>
    ss_cons (s_set w 1 (e_int) rfl (.inl rfl) (.inr rfl))
    (ss_cons (s_whl (t_w (w_and (t_cmp w (b_var 0 rfl (.inl rfl)) (b_of (e_int))) (w_and1 (t_cmp w (b_of (e_bin w (b_of (e_biT (bi := .int) (bi_int) z.m_int (by first | exact PyProof.Rows.boot_int | exact PySem.boot_int) (a_cons (b_var 0 rfl (.inl rfl)) (a_nil)))) (b_of (e_int)))) (b_of (e_int)))))) (ss_cons (s_par2 w 0 1 (v_cons (e_bin w (b_var 0 rfl (.inl rfl)) (b_of (e_int))) (v_cons (e_bin w (b_var 1 rfl (.inl rfl)) (b_of (e_int))) (v_nil))) rfl rfl rfl rfl)
    (ss_nil)))
    (ss_cons (s_ret (e_ite (t_cmp w (b_var 0 rfl (.inl rfl)) (b_of (e_int))) (e_var 1 rfl (.inl rfl)) (e_none)))
    (ss_nil)))
theorem sc__law_lists : FnScope ["_law_spots", "_law_listing", "_law_part_here", "_law_found", "_law_words"] ["_law_spots", "_law_listing", "_law_part_here"] (defScope (topS 51)) := ⟨rfl, rfl, rfl, by decide +kernel, rfl, by decide +kernel, by decide +kernel⟩
set_option maxHeartbeats 4000000 in
theorem b__law_lists {T : Tb} {k : Nat} (z : Mz T) (h : Fm T k) : ∀ (f : Addr) (cdv : Value) (A : Around) (outer : List PySem.Env) (s : Shared) (H : Hp) (E : XK), CB T k (asDef T ["_law_spots", "_law_listing", "_law_part_here", "_law_found", "_law_words"] "_law_lists" (defScope (topS 51)) f cdv A outer s H E) → DSs T (Cq Pg FU k) (asDef T ["_law_spots", "_law_listing", "_law_part_here", "_law_found", "_law_words"] "_law_lists" (defScope (topS 51)) f cdv A outer s H E) (defBody (topS 51)) s__law_lists_v2 :=
  fun f cdv A outer s H E w =>
    ss_cons (s_set w 3 (e_dnt) rfl (.inl rfl) (.inr rfl))
    (ss_cons (s_for w (i_seq w (e_var 1 rfl (.inl rfl))) (g_v w 4 rfl (.inl rfl) (.inr rfl)) (ss_cons (s_dput w 3 (e_bool) (L2.pe_var rfl (.inl rfl)) (e_fn w h.c__law_at rfl (a_cons (b_var 0 rfl (.inl rfl)) (a_cons (b_var 4 rfl (.inl rfl)) (a_cons (b_var 2 rfl (.inl rfl)) (a_nil))))))
    (ss_nil)))
    (ss_cons (s_ret (e_dlen 3 (L2.pe_var rfl (.inl rfl)) z.m_len (by first | exact PyProof.Rows.boot_len | exact PySem.boot_len)))
    (ss_nil)))
theorem sc__law_right : FnScope ["_law_generator_here", "_law_width", "_law_spots", "_law_count", "_law_listing", "_law_parts", "_law_handed", "_law_part_here", "_law_one", "_law_other", "_law_known", "_law_told", "_law_words", "_law_near", "_law_nearer", "_law_turn", "_law_item"] ["_law_generator_here"] (defScope (topS 52)) := ⟨rfl, rfl, rfl, by decide +kernel, rfl, by decide +kernel, by decide +kernel⟩
set_option maxHeartbeats 4000000 in
theorem b__law_right {T : Tb} {k : Nat} (z : Mz T) (h : Fm T k) : ∀ (f : Addr) (cdv : Value) (A : Around) (outer : List PySem.Env) (s : Shared) (H : Hp) (E : XK), CB T k (asDef T ["_law_generator_here", "_law_width", "_law_spots", "_law_count", "_law_listing", "_law_parts", "_law_handed", "_law_part_here", "_law_one", "_law_other", "_law_known", "_law_told", "_law_words", "_law_near", "_law_nearer", "_law_turn", "_law_item"] "_law_right" (defScope (topS 52)) f cdv A outer s H E) → DSs T (Cq Pg FU k) (asDef T ["_law_generator_here", "_law_width", "_law_spots", "_law_count", "_law_listing", "_law_parts", "_law_handed", "_law_part_here", "_law_one", "_law_other", "_law_known", "_law_told", "_law_words", "_law_near", "_law_nearer", "_law_turn", "_law_item"] "_law_right" (defScope (topS 52)) f cdv A outer s H E) (defBody (topS 52)) s__law_right_v38 :=
  fun f cdv A outer s H E w =>
    ss_cons (s_asgT w (e_fn w h.c__law_code rfl (a_cons (b_var 0 rfl (.inr (.inl rfl))) (a_cons (b_of (e_int)) (a_nil)))) (g_t w (gs_cons (g_v w 1 rfl (.inl rfl) (.inr rfl)) (gs_cons (g_v w 2 rfl (.inr rfl) (.inl rfl)) (gs_cons (g_v w 3 rfl (.inl rfl) (.inr rfl)) (gs_nil))))))
    (ss_cons (s_set w 4 (e_fn w h.c__law_listed rfl (a_cons (b_var 1 rfl (.inl rfl)) (a_cons (b_var 2 rfl (.inr (.inl rfl))) (a_cons (b_var 3 rfl (.inl rfl)) (a_nil))))) rfl (.inl rfl) (.inr rfl))
    (ss_cons (s_setc w 5 [("_law_turn", 15)] rfl rfl rfl (i_rng1 (b_of (e_int)) z.m_range) (fun _ _ _ _ _ => g_v (w.blk _ _ _ _ _) 15 rfl (.inl rfl) (.inr rfl)) (fun _ _ _ _ _ => c_nil) (fun _ _ _ _ _ => e_fn (w.blk _ _ _ _ _) h.c__law_part rfl (a_cons (b_var 0 rfl (.inr (.inl rfl))) (a_cons (b_var 2 rfl (.inr (.inl rfl))) (a_nil)))) (blkOk_by (by kernel_rfl)))
    (ss_cons (s_setc w 6 [("_law_part_here", 7)] rfl rfl rfl (i_seq w (e_var 5 rfl (.inl rfl))) (fun _ _ _ _ _ => g_v (w.blk _ _ _ _ _) 7 rfl (.inl rfl) (.inr rfl)) (fun _ _ _ _ _ => c_nil) (fun _ _ _ _ _ => e_biT (bi := .list) (bi_list (w.blk _ _ _ _ _).eK) z.m_list (by first | exact PyProof.Rows.boot_list | exact PySem.boot_list) (a_cons (b_var 7 rfl (.inl rfl)) (a_nil))) (blkOk_by (by kernel_rfl)))
    (ss_cons (s_for w (i_seq w (e_bin w (b_var 5 rfl (.inl rfl)) (b_of (e_lst (l_cons (e_lst (l_nil)) (l_cons (e_var 2 rfl (.inr (.inl rfl))) (l_nil))))))) (g_v w 7 rfl (.inl rfl) (.inr rfl)) (ss_cons (s_if (t_not (t_val w (b_of (e_fn w h.c__law_same rfl (a_cons (b_of (e_fn w h.c_part_bits rfl (a_cons (b_var 1 rfl (.inl rfl)) (a_cons (b_of (e_biT (bi := .list) (bi_list w.eK) z.m_list (by first | exact PyProof.Rows.boot_list | exact PySem.boot_list) (a_cons (b_var 2 rfl (.inr (.inl rfl))) (a_nil)))) (a_cons (b_var 3 rfl (.inl rfl)) (a_cons (b_of (e_biT (bi := .list) (bi_list w.eK) z.m_list (by first | exact PyProof.Rows.boot_list | exact PySem.boot_list) (a_cons (b_var 7 rfl (.inl rfl)) (a_nil)))) (a_nil))))))) (a_cons (b_of (e_fn w h.c__law_bits rfl (a_cons (b_of (e_fn w h.c__law_lists rfl (a_cons (b_var 2 rfl (.inr (.inl rfl))) (a_cons (b_var 4 rfl (.inl rfl)) (a_cons (b_var 7 rfl (.inl rfl)) (a_nil)))))) (a_nil)))) (a_nil))))))) (ss_cons (s_ret (e_bool))
    (ss_nil)) (ss_nil))
    (ss_nil)))
    (ss_cons (s_asgT w (e_var 6 rfl (.inl rfl)) (g_t w (gs_cons (g_v w 8 rfl (.inr rfl) (.inl rfl)) (gs_cons (g_v w 9 rfl (.inl rfl) (.inr rfl)) (gs_cons (g_v w 10 rfl (.inr rfl) (.inl rfl)) (gs_nil))))))
    (ss_cons (s_set w 11 (e_fn w h.c_said_bits rfl (a_cons (b_var 1 rfl (.inl rfl)) (a_cons (b_of (e_biT (bi := .list) (bi_list w.eK) z.m_list (by first | exact PyProof.Rows.boot_list | exact PySem.boot_list) (a_cons (b_var 2 rfl (.inr (.inl rfl))) (a_nil)))) (a_cons (b_var 3 rfl (.inl rfl)) (a_cons (b_var 8 rfl (.inr (.inl rfl))) (a_cons (b_var 9 rfl (.inl rfl)) (a_cons (b_var 10 rfl (.inr (.inl rfl))) (a_nil)))))))) rfl (.inl rfl) (.inr rfl))
    (ss_cons (s_if (t_w (w_or (t_not (t_val w (b_of (e_isi w .int (b_var 11 rfl (.inl rfl)) (pe_bltn rfl z.m_int (by first | exact PyProof.Rows.boot_int | exact PySem.boot_int) rfl) z.m_isinstance)))) (w_or (t_cmp w (b_var 11 rfl (.inl rfl)) (b_of (e_int))) (w_or (t_cmp w (b_var 6 rfl (.inl rfl)) (b_var 5 rfl (.inl rfl))) (w_or1 (t_not (t_val w (b_of (e_fn w h.c__law_same rfl (a_cons (b_of (e_fn w h.c_said_bits rfl (a_cons (b_var 1 rfl (.inl rfl)) (a_cons (b_var 2 rfl (.inr (.inl rfl))) (a_cons (b_var 3 rfl (.inl rfl)) (a_cons (b_var 9 rfl (.inl rfl)) (a_cons (b_var 8 rfl (.inr (.inl rfl))) (a_cons (b_var 10 rfl (.inr (.inl rfl))) (a_nil))))))))) (a_cons (b_var 11 rfl (.inl rfl)) (a_nil)))))))))))) (ss_cons (s_ret (e_bool))
    (ss_nil)) (ss_nil))
    (ss_cons (s_set w 12 (e_idx w (b_var 4 rfl (.inl rfl)) (b_of (e_fn w h.c__law_random rfl (a_cons (b_var 0 rfl (.inr (.inl rfl))) (a_cons (b_of (e_biB (bi := .len) (bi_len w.eK) z.m_len (by first | exact PyProof.Rows.boot_len | exact PySem.boot_len) (a_cons (b_var 4 rfl (.inl rfl)) (a_nil)))) (a_nil)))))) rfl (.inr rfl) (.inl rfl))
    (ss_cons (s_setc w 13 [("_law_item", 16)] rfl rfl rfl (i_seq w (e_var 4 rfl (.inl rfl))) (fun _ _ _ _ _ => g_v (w.blk _ _ _ _ _) 16 rfl (.inl rfl) (.inr rfl)) (fun _ _ _ _ _ => c_one (t_cmp (w.blk _ _ _ _ _) (b_of (e_fn (w.blk _ _ _ _ _) h.c__law_at rfl (a_cons (b_var 2 rfl (.inr (.inl rfl))) (a_cons (b_var 16 rfl (.inl rfl)) (a_cons (b_var 10 rfl (.inr (.inl rfl))) (a_nil)))))) (b_of (e_fn (w.blk _ _ _ _ _) h.c__law_at rfl (a_cons (b_var 2 rfl (.inr (.inl rfl))) (a_cons (b_var 12 rfl (.inr (.inl rfl))) (a_cons (b_var 10 rfl (.inr (.inl rfl))) (a_nil)))))))) (fun _ _ _ _ _ => e_var 16 rfl (.inl rfl)) (blkOk_by (by kernel_rfl)))
    (ss_cons (s_setc w 14 [("_law_item", 16)] rfl rfl rfl (i_seq w (e_var 13 rfl (.inl rfl))) (fun _ _ _ _ _ => g_v (w.blk _ _ _ _ _) 16 rfl (.inl rfl) (.inr rfl)) (fun _ _ _ _ _ => c_one (t_cmp (w.blk _ _ _ _ _) (b_of (e_fn (w.blk _ _ _ _ _) h.c__law_at rfl (a_cons (b_var 2 rfl (.inr (.inl rfl))) (a_cons (b_var 16 rfl (.inl rfl)) (a_cons (b_var 8 rfl (.inr (.inl rfl))) (a_nil)))))) (b_of (e_fn (w.blk _ _ _ _ _) h.c__law_at rfl (a_cons (b_var 2 rfl (.inr (.inl rfl))) (a_cons (b_var 12 rfl (.inr (.inl rfl))) (a_cons (b_var 8 rfl (.inr (.inl rfl))) (a_nil)))))))) (fun _ _ _ _ _ => e_var 16 rfl (.inl rfl)) (blkOk_by (by kernel_rfl)))
    (ss_cons (s_ret (e_cmp w (b_of (e_fn w h.c__law_lists rfl (a_cons (b_var 2 rfl (.inr (.inl rfl))) (a_cons (b_var 13 rfl (.inl rfl)) (a_cons (b_var 9 rfl (.inl rfl)) (a_nil)))))) (b_of (e_bin w (b_of (e_fn w h.c__law_lists rfl (a_cons (b_var 2 rfl (.inr (.inl rfl))) (a_cons (b_var 14 rfl (.inl rfl)) (a_cons (b_var 9 rfl (.inl rfl)) (a_nil)))))) (b_of (e_fn w h.c__law_power rfl (a_cons (b_var 11 rfl (.inl rfl)) (a_nil))))))))
    (ss_nil))))))))))))
theorem sc__law_twos : FnScope ["_law_number", "_law_found"] ["_law_number"] (defScope (topS 53)) := ⟨rfl, rfl, rfl, by decide +kernel, rfl, by decide +kernel, by decide +kernel⟩
set_option maxHeartbeats 4000000 in
theorem b__law_twos {T : Tb} {k : Nat} (z : Mz T) (h : Fm T k) : ∀ (f : Addr) (cdv : Value) (A : Around) (outer : List PySem.Env) (s : Shared) (H : Hp) (E : XK), CB T k (asDef T ["_law_number", "_law_found"] "_law_twos" (defScope (topS 53)) f cdv A outer s H E) → DSs T (Cq Pg FU k) (asDef T ["_law_number", "_law_found"] "_law_twos" (defScope (topS 53)) f cdv A outer s H E) (defBody (topS 53)) s__law_twos_v1 :=
  fun f cdv A outer s H E w =>
    ss_cons (s_set w 1 (e_int) rfl (.inl rfl) (.inr rfl))
    (ss_cons (s_whl (t_cmp w (b_of (e_bin w (b_of (e_biT (bi := .int) (bi_int) z.m_int (by first | exact PyProof.Rows.boot_int | exact PySem.boot_int) (a_cons (b_var 0 rfl (.inl rfl)) (a_nil)))) (b_of (e_int)))) (b_of (e_int))) (ss_cons (s_par2 w 0 1 (v_cons (e_bin w (b_var 0 rfl (.inl rfl)) (b_of (e_int))) (v_cons (e_bin w (b_var 1 rfl (.inl rfl)) (b_of (e_int))) (v_nil))) rfl rfl rfl rfl)
    (ss_nil)))
    (ss_cons (s_retv 1 (L2.pe_var rfl (.inl rfl)))
    (ss_nil)))
theorem sc__law_great_right : FnScope ["_law_generator_here", "_law_width", "_law_count", "_law_spots", "_law_one", "_law_other", "_law_known", "_law_more", "_law_both", "_law_told", "_law_wide", "_law_chain", "_law_apart", "_law_twos_here", "_law_whole", "_law_at_here", "_law_turn", "_law_spot", "_law_low", "_law_high"] ["_law_generator_here"] (defScope (topS 54)) := ⟨rfl, rfl, rfl, by decide +kernel, rfl, by decide +kernel, by decide +kernel⟩
set_option maxHeartbeats 4000000 in
theorem b__law_great_right {T : Tb} {k : Nat} (z : Mz T) (h : Fm T k) : ∀ (f : Addr) (cdv : Value) (A : Around) (outer : List PySem.Env) (s : Shared) (H : Hp) (E : XK), CB T k (asDef T ["_law_generator_here", "_law_width", "_law_count", "_law_spots", "_law_one", "_law_other", "_law_known", "_law_more", "_law_both", "_law_told", "_law_wide", "_law_chain", "_law_apart", "_law_twos_here", "_law_whole", "_law_at_here", "_law_turn", "_law_spot", "_law_low", "_law_high"] "_law_great_right" (defScope (topS 54)) f cdv A outer s H E) → DSs T (Cq Pg FU k) (asDef T ["_law_generator_here", "_law_width", "_law_count", "_law_spots", "_law_one", "_law_other", "_law_known", "_law_more", "_law_both", "_law_told", "_law_wide", "_law_chain", "_law_apart", "_law_twos_here", "_law_whole", "_law_at_here", "_law_turn", "_law_spot", "_law_low", "_law_high"] "_law_great_right" (defScope (topS 54)) f cdv A outer s H E) (defBody (topS 54)) s__law_great_right_v30 :=
  fun f cdv A outer s H E w =>
    ss_cons (s_par2 w 1 2 (v_cons (e_fn w h.c__law_size rfl (a_cons (b_var 0 rfl (.inr (.inl rfl))) (a_cons (b_of (e_int)) (a_cons (b_of (e_int)) (a_nil))))) (v_cons (e_fn w h.c__law_random rfl (a_cons (b_var 0 rfl (.inr (.inl rfl))) (a_cons (b_of (e_int)) (a_nil)))) (v_nil))) rfl rfl rfl rfl)
    (ss_cons (s_set w 3 (e_fn w h.c__law_pick rfl (a_cons (b_var 0 rfl (.inr (.inl rfl))) (a_cons (b_of (e_lc w [("_law_at_here", 15)] (i_rng1 (b_of (e_int)) z.m_range) (fun _ _ _ _ _ => g_v (w.blk _ _ _ _ _) 15 rfl (.inl rfl) (.inr rfl)) (fun _ _ _ _ _ => c_nil) (fun _ _ _ _ _ => e_bin (w.blk _ _ _ _ _) (b_of (e_bin (w.blk _ _ _ _ _) (b_of (e_int)) (b_var 15 rfl (.inl rfl)))) (b_of (e_fn (w.blk _ _ _ _ _) h.c__law_power rfl (a_cons (b_var 15 rfl (.inl rfl)) (a_nil))))) (blkOk_by (by kernel_rfl)))) (a_cons (b_of (e_fn w h.c__law_size rfl (a_cons (b_var 0 rfl (.inr (.inl rfl))) (a_cons (b_of (e_int)) (a_cons (b_of (e_int)) (a_nil)))))) (a_nil))))) rfl (.inr rfl) (.inl rfl))
    (ss_cons (s_asgT w (e_lc w [("_law_turn", 16)] (i_rng1 (b_of (e_int)) z.m_range) (fun _ _ _ _ _ => g_v (w.blk _ _ _ _ _) 16 rfl (.inl rfl) (.inr rfl)) (fun _ _ _ _ _ => c_nil) (fun _ _ _ _ _ => e_fn (w.blk _ _ _ _ _) h.c__law_part rfl (a_cons (b_var 0 rfl (.inr (.inl rfl))) (a_cons (b_var 3 rfl (.inr (.inl rfl))) (a_nil)))) (blkOk_by (by kernel_rfl))) (g_t w (gs_cons (g_v w 4 rfl (.inr rfl) (.inl rfl)) (gs_cons (g_v w 5 rfl (.inr rfl) (.inl rfl)) (gs_cons (g_v w 6 rfl (.inr rfl) (.inl rfl)) (gs_cons (g_v w 7 rfl (.inl rfl) (.inr rfl)) (gs_nil)))))))
    (ss_cons (s_set w 8 (e_biB (bi := .sorted) (bi_sorted w.eK (by have := w.room.un; omega)) z.m_sorted (by first | exact PyProof.Rows.boot_sorted | exact PySem.boot_sorted) (a_cons (b_of (e_bin w (b_var 6 rfl (.inr (.inl rfl))) (b_of (e_lc w [("_law_spot", 17)] (i_seq w (e_var 7 rfl (.inl rfl))) (fun _ _ _ _ _ => g_v (w.blk _ _ _ _ _) 17 rfl (.inl rfl) (.inr rfl)) (fun _ _ _ _ _ => c_one (t_cmp (w.blk _ _ _ _ _) (b_var 17 rfl (.inl rfl)) (b_var 6 rfl (.inr (.inl rfl))))) (fun _ _ _ _ _ => e_var 17 rfl (.inl rfl)) (blkOk_by (by kernel_rfl)))))) (a_nil))) rfl (.inl rfl) (.inr rfl))
    (ss_cons (s_set w 9 (e_fn w h.c_said_bits rfl (a_cons (b_var 1 rfl (.inl rfl)) (a_cons (b_var 3 rfl (.inr (.inl rfl))) (a_cons (b_var 2 rfl (.inl rfl)) (a_cons (b_var 4 rfl (.inr (.inl rfl))) (a_cons (b_var 5 rfl (.inr (.inl rfl))) (a_cons (b_var 6 rfl (.inr (.inl rfl))) (a_nil)))))))) rfl (.inl rfl) (.inr rfl))
    (ss_cons (s_set w 10 (e_biB (bi := .sorted) (bi_sorted w.eK (by have := w.room.un; omega)) z.m_sorted (by first | exact PyProof.Rows.boot_sorted | exact PySem.boot_sorted) (a_cons (b_of (e_bin w (b_var 5 rfl (.inr (.inl rfl))) (b_of (e_lc w [("_law_spot", 17)] (i_seq w (e_var 7 rfl (.inl rfl))) (fun _ _ _ _ _ => g_v (w.blk _ _ _ _ _) 17 rfl (.inl rfl) (.inr rfl)) (fun _ _ _ _ _ => c_one (t_cmp (w.blk _ _ _ _ _) (b_var 17 rfl (.inl rfl)) (b_var 5 rfl (.inr (.inl rfl))))) (fun _ _ _ _ _ => e_var 17 rfl (.inl rfl)) (blkOk_by (by kernel_rfl)))))) (a_nil))) rfl (.inl rfl) (.inr rfl))
    (ss_cons (s_set w 11 (e_bin w (b_of (e_fn w h.c_said_bits rfl (a_cons (b_var 1 rfl (.inl rfl)) (a_cons (b_var 3 rfl (.inr (.inl rfl))) (a_cons (b_var 2 rfl (.inl rfl)) (a_cons (b_var 4 rfl (.inr (.inl rfl))) (a_cons (b_var 7 rfl (.inl rfl)) (a_cons (b_var 6 rfl (.inr (.inl rfl))) (a_nil))))))))) (b_of (e_fn w h.c_said_bits rfl (a_cons (b_var 1 rfl (.inl rfl)) (a_cons (b_var 3 rfl (.inr (.inl rfl))) (a_cons (b_var 2 rfl (.inl rfl)) (a_cons (b_var 4 rfl (.inr (.inl rfl))) (a_cons (b_var 5 rfl (.inr (.inl rfl))) (a_cons (b_var 8 rfl (.inl rfl)) (a_nil)))))))))) rfl (.inl rfl) (.inr rfl))
    (ss_cons (s_if (t_w (w_or (t_cmp w (b_var 9 rfl (.inl rfl)) (b_of (e_int))) (w_or (t_cmp w (b_of (e_fn w h.c_said_bits rfl (a_cons (b_var 1 rfl (.inl rfl)) (a_cons (b_var 3 rfl (.inr (.inl rfl))) (a_cons (b_var 2 rfl (.inl rfl)) (a_cons (b_var 4 rfl (.inr (.inl rfl))) (a_cons (b_var 10 rfl (.inl rfl)) (a_cons (b_var 6 rfl (.inr (.inl rfl))) (a_nil))))))))) (b_var 11 rfl (.inl rfl))) (w_or1 (t_cmp w (b_var 11 rfl (.inl rfl)) (b_var 9 rfl (.inl rfl))))))) (ss_cons (s_ret (e_bool))
    (ss_nil)) (ss_nil))
    (ss_cons (s_if (t_cmp w (b_of (e_fn w h.c_said_bits rfl (a_cons (b_var 1 rfl (.inl rfl)) (a_cons (b_var 3 rfl (.inr (.inl rfl))) (a_cons (b_var 2 rfl (.inl rfl)) (a_cons (b_var 4 rfl (.inr (.inl rfl))) (a_cons (b_var 4 rfl (.inr (.inl rfl))) (a_cons (b_of (e_lst (l_nil))) (a_nil))))))))) (b_of (e_fn w h.c_part_bits rfl (a_cons (b_var 1 rfl (.inl rfl)) (a_cons (b_var 3 rfl (.inr (.inl rfl))) (a_cons (b_var 2 rfl (.inl rfl)) (a_cons (b_var 4 rfl (.inr (.inl rfl))) (a_nil)))))))) (ss_cons (s_ret (e_bool))
    (ss_nil)) (ss_nil))
    (ss_cons (s_if (t_cmp w (b_of (e_fn w h.c__law_power rfl (a_cons (b_of (e_fn w h.c_part_bits rfl (a_cons (b_var 1 rfl (.inl rfl)) (a_cons (b_var 3 rfl (.inr (.inl rfl))) (a_cons (b_var 2 rfl (.inl rfl)) (a_cons (b_var 3 rfl (.inr (.inl rfl))) (a_nil))))))) (a_nil)))) (b_of (e_fn w h.c_how_many_codewords rfl (a_cons (b_var 1 rfl (.inl rfl)) (a_cons (b_var 3 rfl (.inr (.inl rfl))) (a_cons (b_var 2 rfl (.inl rfl)) (a_nil))))))) (ss_cons (s_ret (e_bool))
    (ss_nil)) (ss_nil))
    (ss_cons (s_setc w 12 [("_law_spot", 17)] rfl rfl rfl (i_seq w (e_var 5 rfl (.inr (.inl rfl)))) (fun _ _ _ _ _ => g_v (w.blk _ _ _ _ _) 17 rfl (.inl rfl) (.inr rfl)) (fun _ _ _ _ _ => c_one (t_cmp (w.blk _ _ _ _ _) (b_var 17 rfl (.inl rfl)) (b_var 4 rfl (.inr (.inl rfl))))) (fun _ _ _ _ _ => e_var 17 rfl (.inl rfl)) (blkOk_by (by kernel_rfl)))
    (ss_cons (s_set w 13 (e_biB (bi := .sum) (bi_sum w.eK w.calm) z.m_sum (by first | exact PyProof.Rows.boot_sum | exact PySem.boot_sum) (a_cons (b_of (e_lc w [("_law_low", 18)] (i_seq w (e_var 12 rfl (.inl rfl))) (fun _ _ _ _ _ => g_v (w.blk _ _ _ _ _) 18 rfl (by first | exact .inl rfl | exact .inr rfl) (by first | exact .inr rfl | exact .inl rfl)) (fun _ _ _ _ _ => c_nil) (fun _ _ _ _ _ => e_biB (bi := .sum) (bi_sum (w.blk _ _ _ _ _).eK (w.blk _ _ _ _ _).calm) z.m_sum (by first | exact PyProof.Rows.boot_sum | exact PySem.boot_sum) (a_cons (b_of (e_lc (w.blk _ _ _ _ _) [("_law_high", 19)] (i_seq (w.blk _ _ _ _ _) (e_var 4 rfl (by first | exact .inl rfl | exact .inr (.inl rfl) | exact .inr (.inr rfl)))) (fun _ _ _ _ _ => g_v ((w.blk _ _ _ _ _).blk _ _ _ _ _) 19 rfl (by first | exact .inl rfl | exact .inr rfl) (by first | exact .inr rfl | exact .inl rfl)) (fun _ _ _ _ _ => c_nil) (fun _ _ _ _ _ => e_fn ((w.blk _ _ _ _ _).blk _ _ _ _ _) h.c__law_twos rfl (a_cons (b_of (e_bin ((w.blk _ _ _ _ _).blk _ _ _ _ _) (b_var 19 rfl (by first | exact .inl rfl | exact .inr (.inl rfl) | exact .inr (.inr rfl))) (b_var 18 rfl (by first | exact .inl rfl | exact .inr (.inl rfl) | exact .inr (.inr rfl))))) (a_nil))) (blkOk_by (by kernel_rfl)))) (a_nil))) (blkOk_by (by kernel_rfl)))) (a_nil))) rfl (.inl rfl) (.inr rfl))
    (ss_cons (s_set w 14 (e_biB (bi := .sum) (bi_sum w.eK w.calm) z.m_sum (by first | exact PyProof.Rows.boot_sum | exact PySem.boot_sum) (a_cons (b_of (e_lc w [("_law_low", 18)] (i_seq w (e_var 3 rfl (.inr (.inl rfl)))) (fun _ _ _ _ _ => g_v (w.blk _ _ _ _ _) 18 rfl (by first | exact .inl rfl | exact .inr rfl) (by first | exact .inr rfl | exact .inl rfl)) (fun _ _ _ _ _ => c_nil) (fun _ _ _ _ _ => e_biB (bi := .sum) (bi_sum (w.blk _ _ _ _ _).eK (w.blk _ _ _ _ _).calm) z.m_sum (by first | exact PyProof.Rows.boot_sum | exact PySem.boot_sum) (a_cons (b_of (e_lc (w.blk _ _ _ _ _) [("_law_high", 19)] (i_seq (w.blk _ _ _ _ _) (e_var 3 rfl (by first | exact .inl rfl | exact .inr (.inl rfl) | exact .inr (.inr rfl)))) (fun _ _ _ _ _ => g_v ((w.blk _ _ _ _ _).blk _ _ _ _ _) 19 rfl (by first | exact .inl rfl | exact .inr rfl) (by first | exact .inr rfl | exact .inl rfl)) (fun _ _ _ _ _ => c_one (t_cmp ((w.blk _ _ _ _ _).blk _ _ _ _ _) (b_var 19 rfl (by first | exact .inl rfl | exact .inr (.inl rfl) | exact .inr (.inr rfl))) (b_var 18 rfl (by first | exact .inl rfl | exact .inr (.inl rfl) | exact .inr (.inr rfl))))) (fun _ _ _ _ _ => e_fn ((w.blk _ _ _ _ _).blk _ _ _ _ _) h.c__law_twos rfl (a_cons (b_of (e_bin ((w.blk _ _ _ _ _).blk _ _ _ _ _) (b_var 19 rfl (by first | exact .inl rfl | exact .inr (.inl rfl) | exact .inr (.inr rfl))) (b_var 18 rfl (by first | exact .inl rfl | exact .inr (.inl rfl) | exact .inr (.inr rfl))))) (a_nil))) (blkOk_by (by kernel_rfl)))) (a_nil))) (blkOk_by (by kernel_rfl)))) (a_nil))) rfl (.inl rfl) (.inr rfl))
    (ss_cons (s_ret (e_or w (e_cmp w (b_var 14 rfl (.inl rfl)) (b_var 1 rfl (.inl rfl))) (e_one (e_cmp w (b_of (e_fn w h.c_said_bits rfl (a_cons (b_var 1 rfl (.inl rfl)) (a_cons (b_var 3 rfl (.inr (.inl rfl))) (a_cons (b_of (e_int)) (a_cons (b_var 4 rfl (.inr (.inl rfl))) (a_cons (b_var 12 rfl (.inl rfl)) (a_cons (b_of (e_lst (l_nil))) (a_nil))))))))) (b_var 13 rfl (.inl rfl))))))
    (ss_nil))))))))))))))
theorem sc_law : FnScope ["_law_script", "_law_index", "_law_generator_here", "_law_four", "_law_told", "_law_row"] ["_law_script"] (defScope (topS 55)) := ⟨rfl, rfl, rfl, by decide +kernel, rfl, by decide +kernel, by decide +kernel⟩
set_option maxHeartbeats 4000000 in
theorem b_law {T : Tb} {k : Nat} (z : Mz T) (h : Fm T k) : ∀ (f : Addr) (cdv : Value) (A : Around) (outer : List PySem.Env) (s : Shared) (H : Hp) (E : XK), CB T k (asDef T ["_law_script", "_law_index", "_law_generator_here", "_law_four", "_law_told", "_law_row"] "law" (defScope (topS 55)) f cdv A outer s H E) → DSs T (Cq Pg FU k) (asDef T ["_law_script", "_law_index", "_law_generator_here", "_law_four", "_law_told", "_law_row"] "law" (defScope (topS 55)) f cdv A outer s H E) (defBody (topS 55)) s_law_v60 :=
  fun f cdv A outer s H E w =>
    ss_cons (s_for w (i_rng1 (b_of (e_int)) z.m_range) (g_v w 1 rfl (.inl rfl) (.inr rfl)) (ss_cons (s_set w 2 (e_fn w h.c__law_generator rfl (a_cons (b_var 0 rfl (.inl rfl)) (a_cons (b_var 1 rfl (.inl rfl)) (a_nil)))) rfl (.inl rfl) (.inr rfl))
    (ss_cons (s_if (t_w (w_or (t_not (t_val w (b_of (e_fn w h.c__law_right rfl (a_cons (b_var 2 rfl (.inl rfl)) (a_nil)))))) (w_or1 (t_not (t_val w (b_of (e_fn w h.c__law_great_right rfl (a_cons (b_var 2 rfl (.inl rfl)) (a_nil))))))))) (ss_cons (s_ret (e_bool))
    (ss_nil)) (ss_nil))
    (ss_nil))))
    (ss_cons (s_set w 3 (e_lst (l_cons (e_int) (l_cons (e_int) (l_cons (e_int) (l_cons (e_int) (l_nil)))))) rfl (.inl rfl) (.inr rfl))
    (ss_cons (s_set w 4 (e_lst (l_cons (e_fn w h.c_part_bits rfl (a_cons (b_of (e_int)) (a_cons (b_var 3 rfl (.inl rfl)) (a_cons (b_of (e_int)) (a_cons (b_of (e_lst (l_cons (e_int) (l_cons (e_int) (l_nil))))) (a_nil)))))) (l_cons (e_fn w h.c_part_bits rfl (a_cons (b_of (e_int)) (a_cons (b_var 3 rfl (.inl rfl)) (a_cons (b_of (e_int)) (a_cons (b_of (e_lst (l_nil))) (a_nil)))))) (l_cons (e_fn w h.c_said_bits rfl (a_cons (b_of (e_int)) (a_cons (b_var 3 rfl (.inl rfl)) (a_cons (b_of (e_int)) (a_cons (b_of (e_lst (l_cons (e_int) (l_nil)))) (a_cons (b_of (e_lst (l_cons (e_int) (l_nil)))) (a_cons (b_of (e_lst (l_nil))) (a_nil)))))))) (l_nil))))) rfl (.inl rfl) (.inr rfl))
    (ss_cons (s_set w 4 (e_bin w (b_var 4 rfl (.inl rfl)) (b_of (e_lst (l_cons (e_fn w h.c_said_bits rfl (a_cons (b_of (e_int)) (a_cons (b_var 3 rfl (.inl rfl)) (a_cons (b_of (e_int)) (a_cons (b_of (e_lst (l_cons (e_int) (l_nil)))) (a_cons (b_of (e_lst (l_cons (e_int) (l_nil)))) (a_cons (b_of (e_lst (l_cons (e_int) (l_cons (e_int) (l_nil))))) (a_nil)))))))) (l_cons (e_fn w h.c_said_bits rfl (a_cons (b_of (e_int)) (a_cons (b_var 3 rfl (.inl rfl)) (a_cons (b_of (e_int)) (a_cons (b_of (e_lst (l_cons (e_int) (l_cons (e_int) (l_nil))))) (a_cons (b_of (e_lst (l_cons (e_int) (l_cons (e_int) (l_nil))))) (a_cons (b_of (e_lst (l_nil))) (a_nil)))))))) (l_cons (e_fn w h.c_said_bits rfl (a_cons (b_of (e_int)) (a_cons (b_of (e_lst (l_cons (e_int) (l_cons (e_int) (l_nil))))) (a_cons (b_of (e_int)) (a_cons (b_of (e_lst (l_cons (e_int) (l_nil)))) (a_cons (b_of (e_lst (l_cons (e_int) (l_nil)))) (a_cons (b_of (e_lst (l_nil))) (a_nil)))))))) (l_nil))))))) rfl (.inl rfl) (.inr rfl))
    (ss_cons (s_ex (e_append w 4 (L2.pe_var rfl (.inl rfl)) (e_fn w h.c_part_bits rfl (a_cons (b_of (e_int)) (a_cons (b_var 3 rfl (.inl rfl)) (a_cons (b_of (e_bin w (b_of (e_int)) (b_of (e_int)))) (a_cons (b_of (e_lst (l_cons (e_int) (l_cons (e_int) (l_nil))))) (a_nil))))))))
    (ss_cons (s_set w 5 (e_lrg1 w (b_of (e_int)) z.m_list z.m_range) rfl (.inl rfl) (.inr rfl))
    (ss_cons (s_set w 4 (e_bin w (b_var 4 rfl (.inl rfl)) (b_of (e_lst (l_cons (e_fn w h.c_part_bits rfl (a_cons (b_of (e_int)) (a_cons (b_of (e_lst (l_cons (e_int) (l_cons (e_bin w (b_of (e_int)) (b_of (e_int))) (l_nil))))) (a_cons (b_of (e_int)) (a_cons (b_of (e_lst (l_cons (e_int) (l_cons (e_bin w (b_of (e_int)) (b_of (e_int))) (l_nil))))) (a_nil)))))) (l_cons (e_fn w h.c_part_bits rfl (a_cons (b_of (e_int)) (a_cons (b_var 5 rfl (.inl rfl)) (a_cons (b_of (e_int)) (a_cons (b_var 5 rfl (.inl rfl)) (a_nil)))))) (l_nil)))))) rfl (.inl rfl) (.inr rfl))
    (ss_cons (s_set w 4 (e_bin w (b_var 4 rfl (.inl rfl)) (b_of (e_lst (l_cons (e_fn w h.c_said_bits rfl (a_cons (b_of (e_int)) (a_cons (b_var 5 rfl (.inl rfl)) (a_cons (b_of (e_int)) (a_cons (b_of (e_slc w (b_var 5 rfl (.inl rfl)) (p_none) (p_some (b_of (e_int))))) (a_cons (b_of (e_slc w (b_var 5 rfl (.inl rfl)) (p_some (b_of (e_int))) (p_none))) (a_cons (b_of (e_lst (l_nil))) (a_nil)))))))) (l_cons (e_fn w h.c_said_bits rfl (a_cons (b_of (e_int)) (a_cons (b_var 3 rfl (.inl rfl)) (a_cons (b_of (e_bin w (b_of (e_int)) (b_of (e_int)))) (a_cons (b_of (e_lst (l_cons (e_int) (l_cons (e_int) (l_nil))))) (a_cons (b_of (e_lst (l_cons (e_int) (l_cons (e_int) (l_nil))))) (a_cons (b_of (e_lst (l_nil))) (a_nil)))))))) (l_nil)))))) rfl (.inl rfl) (.inr rfl))
    (ss_cons (s_ret (e_fn w h.c__law_same rfl (a_cons (b_var 4 rfl (.inl rfl)) (a_cons (b_of (e_lst (l_cons (e_int) (l_cons (e_int) (l_cons (e_int) (l_cons (e_int) (l_cons (e_int) (l_cons (e_int) (l_cons (e_int) (l_cons (e_int) (l_cons (e_int) (l_cons (e_int) (l_cons (e_int) (l_nil)))))))))))))) (a_nil)))))
    (ss_nil)))))))))
/-- the defs as they stand -/
structure Lz (T : Tb) : Prop where
  z : Mz T
  d_is_whole : ∃ f fd, DfAt T "is_whole" (topS 7) ["value"] ["value"] f fd
  d_is_between : ∃ f fd, DfAt T "is_between" (topS 8) ["value", "low", "high"] ["value", "low", "high"] f fd
  d_check_number : ∃ f fd, DfAt T "check_number" (topS 9) ["number", "low", "high"] ["number", "low", "high"] f fd
  d_power_of_two : ∃ f fd, DfAt T "power_of_two" (topS 10) ["many"] ["many"] f fd
  d_twos : ∃ f fd, DfAt T "twos" (topS 11) ["number", "found"] ["number"] f fd
  d_good_row : ∃ f fd, DfAt T "good_row" (topS 12) ["places", "order", "numbers", "left", "sums", "at", "taken", "have", "place"] ["places"] f fd
  d_items_counted : ∃ f fd, DfAt T "items_counted" (topS 13) ["width", "numbers", "count", "number"] ["width", "numbers", "count"] f fd
  d_is_width : ∃ f fd, DfAt T "is_width" (topS 15) ["value"] ["value"] f fd
  d_check_width : ∃ f fd, DfAt T "check_width" (topS 16) ["width"] ["width"] f fd
  d_is_of_width : ∃ f fd, DfAt T "is_of_width" (topS 17) ["width", "value"] ["width", "value"] f fd
  d_rises : ∃ f fd, DfAt T "rises" (topS 18) ["numbers", "at"] ["numbers"] f fd
  d_are_places : ∃ f fd, DfAt T "are_places" (topS 19) ["width", "value", "item"] ["width", "value"] f fd
  d_check_places : ∃ f fd, DfAt T "check_places" (topS 20) ["width", "places"] ["width", "places"] f fd
  d_check_code_joined : ∃ f fd, DfAtA T "check_code_joined" "check_code" (topS 22) ["width", "places", "count"] ["width", "places", "count"] f fd
  d_check_part : ∃ f fd, DfAt T "check_part" (topS 24) ["places", "part", "item"] ["places", "part"] f fd
  d_bits_at : ∃ f fd, DfAt T "bits_at" (topS 25) ["width", "count", "part", "number"] ["width", "count", "part"] f fd
  d_together : ∃ f fd, DfAt T "together" (topS 26) ["parts", "part", "place"] ["parts"] f fd
  d_part_bits : ∃ f fd, DfAt T "part_bits" (topS 27) ["width", "places", "count", "part"] ["width", "places", "count", "part"] f fd
  d_said_bits : ∃ f fd, DfAt T "said_bits" (topS 28) ["width", "places", "count", "one", "other", "third", "part", "both"] ["width", "places", "count", "one", "other", "third"] f fd
  d_check_code_codes : ∃ f fd, DfAtA T "check_code_codes" "check_code" (topS 30) ["width", "places", "count"] ["width", "places", "count"] f fd
  d_size_power : ∃ f fd, DfAt T "size_power" (topS 33) ["width", "numbers", "count", "number"] ["width", "numbers", "count"] f fd
  d_how_many_codewords : ∃ f fd, DfAt T "how_many_codewords" (topS 34) ["width", "places", "count"] ["width", "places", "count"] f fd
  d__law_hash : ∃ f fd, DfAt T "_law_hash" (topS 36) ["_law_seed", "_law_index", "_law_mixed"] ["_law_seed", "_law_index"] f fd
  d__law_random : ∃ f fd, DfAt T "_law_random" (topS 37) ["_law_generator_here", "_law_bound", "_law_drawn", "_law_turn"] ["_law_generator_here", "_law_bound"] f fd
  d__law_cell : ∃ f fd, DfAt T "_law_cell" (topS 38) ["_law_script", "_law_index"] ["_law_script", "_law_index"] f fd
  d__law_generator : ∃ f fd, DfAt T "_law_generator" (topS 39) ["_law_script", "_law_index", "_law_seed"] ["_law_script", "_law_index"] f fd
  d__law_size : ∃ f fd, DfAt T "_law_size" (topS 40) ["_law_generator_here", "_law_least", "_law_most"] ["_law_generator_here", "_law_least", "_law_most"] f fd
  d__law_pick : ∃ f fd, DfAt T "_law_pick" (topS 41) ["_law_generator_here", "_law_numbers", "_law_many", "_law_left", "_law_turn"] ["_law_generator_here", "_law_numbers", "_law_many"] f fd
  d__law_code : ∃ f fd, DfAt T "_law_code" (topS 42) ["_law_generator_here", "_law_most", "_law_width", "_law_spots"] ["_law_generator_here", "_law_most"] f fd
  d__law_power : ∃ f fd, DfAt T "_law_power" (topS 43) ["_law_many", "_law_found", "_law_turn"] ["_law_many"] f fd
  d__law_made : ∃ f fd, DfAt T "_law_made" (topS 44) ["_law_width", "_law_powers_here", "_law_spot", "_law_found", "_law_item"] ["_law_width", "_law_powers_here", "_law_spot"] f fd
  d__law_powers : ∃ f fd, DfAt T "_law_powers" (topS 45) ["_law_width", "_law_count", "_law_found", "_law_turn", "_law_longer", "_law_powers_here", "_law_item"] ["_law_width", "_law_count"] f fd
  d__law_listed : ∃ f fd, DfAt T "_law_listed" (topS 46) ["_law_width", "_law_spots", "_law_count", "_law_found", "_law_powers_here", "_law_spot"] ["_law_width", "_law_spots", "_law_count"] f fd
  d__law_part : ∃ f fd, DfAt T "_law_part" (topS 47) ["_law_generator_here", "_law_spots", "_law_spot"] ["_law_generator_here", "_law_spots"] f fd
  d__law_at : ∃ f fd, DfAt T "_law_at" (topS 48) ["_law_spots", "_law_words", "_law_part_here", "_law_spot"] ["_law_spots", "_law_words", "_law_part_here"] f fd
  d__law_same : ∃ f fd, DfAt T "_law_same" (topS 49) ["_law_one_told", "_law_other_told"] ["_law_one_told", "_law_other_told"] f fd
  d__law_bits : ∃ f fd, DfAt T "_law_bits" (topS 50) ["_law_many", "_law_found"] ["_law_many"] f fd
  d__law_lists : ∃ f fd, DfAt T "_law_lists" (topS 51) ["_law_spots", "_law_listing", "_law_part_here", "_law_found", "_law_words"] ["_law_spots", "_law_listing", "_law_part_here"] f fd
  d__law_right : ∃ f fd, DfAt T "_law_right" (topS 52) ["_law_generator_here", "_law_width", "_law_spots", "_law_count", "_law_listing", "_law_parts", "_law_handed", "_law_part_here", "_law_one", "_law_other", "_law_known", "_law_told", "_law_words", "_law_near", "_law_nearer", "_law_turn", "_law_item"] ["_law_generator_here"] f fd
  d__law_twos : ∃ f fd, DfAt T "_law_twos" (topS 53) ["_law_number", "_law_found"] ["_law_number"] f fd
  d__law_great_right : ∃ f fd, DfAt T "_law_great_right" (topS 54) ["_law_generator_here", "_law_width", "_law_count", "_law_spots", "_law_one", "_law_other", "_law_known", "_law_more", "_law_both", "_law_told", "_law_wide", "_law_chain", "_law_apart", "_law_twos_here", "_law_whole", "_law_at_here", "_law_turn", "_law_spot", "_law_low", "_law_high"] ["_law_generator_here"] f fd
  d_law : ∃ f fd, DfAt T "law" (topS 55) ["_law_script", "_law_index", "_law_generator_here", "_law_four", "_law_told", "_law_row"] ["_law_script"] f fd
theorem fam {T : Tb} (l : Lz T) : ∀ k : Nat, Fm T k
  | 0 => ⟨let ⟨_, _, q⟩ := l.d_is_whole; cal_zero q, let ⟨_, _, q⟩ := l.d_is_between; cal_zero q, let ⟨_, _, q⟩ := l.d_check_number; cal_zero q, let ⟨_, _, q⟩ := l.d_power_of_two; cal_zero q, let ⟨_, _, q⟩ := l.d_twos; cal_zero q, let ⟨_, _, q⟩ := l.d_good_row; cal_zero q, let ⟨_, _, q⟩ := l.d_items_counted; cal_zero q, let ⟨_, _, q⟩ := l.d_is_width; cal_zero q, let ⟨_, _, q⟩ := l.d_check_width; cal_zero q, let ⟨_, _, q⟩ := l.d_is_of_width; cal_zero q, let ⟨_, _, q⟩ := l.d_rises; cal_zero q, let ⟨_, _, q⟩ := l.d_are_places; cal_zero q, let ⟨_, _, q⟩ := l.d_check_places; cal_zero q, let ⟨_, _, q⟩ := l.d_check_code_joined; cal_zeroA q, let ⟨_, _, q⟩ := l.d_check_part; cal_zero q, let ⟨_, _, q⟩ := l.d_bits_at; cal_zero q, let ⟨_, _, q⟩ := l.d_together; cal_zero q, let ⟨_, _, q⟩ := l.d_part_bits; cal_zero q, let ⟨_, _, q⟩ := l.d_said_bits; cal_zero q, let ⟨_, _, q⟩ := l.d_check_code_codes; cal_zeroA q, let ⟨_, _, q⟩ := l.d_size_power; cal_zero q, let ⟨_, _, q⟩ := l.d_how_many_codewords; cal_zero q, let ⟨_, _, q⟩ := l.d__law_hash; cal_zero q, let ⟨_, _, q⟩ := l.d__law_random; cal_zero q, let ⟨_, _, q⟩ := l.d__law_cell; cal_zero q, let ⟨_, _, q⟩ := l.d__law_generator; cal_zero q, let ⟨_, _, q⟩ := l.d__law_size; cal_zero q, let ⟨_, _, q⟩ := l.d__law_pick; cal_zero q, let ⟨_, _, q⟩ := l.d__law_code; cal_zero q, let ⟨_, _, q⟩ := l.d__law_power; cal_zero q, let ⟨_, _, q⟩ := l.d__law_made; cal_zero q, let ⟨_, _, q⟩ := l.d__law_powers; cal_zero q, let ⟨_, _, q⟩ := l.d__law_listed; cal_zero q, let ⟨_, _, q⟩ := l.d__law_part; cal_zero q, let ⟨_, _, q⟩ := l.d__law_at; cal_zero q, let ⟨_, _, q⟩ := l.d__law_same; cal_zero q, let ⟨_, _, q⟩ := l.d__law_bits; cal_zero q, let ⟨_, _, q⟩ := l.d__law_lists; cal_zero q, let ⟨_, _, q⟩ := l.d__law_right; cal_zero q, let ⟨_, _, q⟩ := l.d__law_twos; cal_zero q, let ⟨_, _, q⟩ := l.d__law_great_right; cal_zero q, let ⟨_, _, q⟩ := l.d_law; cal_zero q⟩
  | k + 1 => ⟨let ⟨_, _, q⟩ := l.d_is_whole; cal_step (df := d_is_whole) (i := 0) q rfl rfl rfl (b_is_whole l.z (fam l k)), let ⟨_, _, q⟩ := l.d_is_between; cal_step (df := d_is_between) (i := 1) q rfl rfl rfl (b_is_between l.z (fam l k)), let ⟨_, _, q⟩ := l.d_check_number; cal_step (df := d_check_number) (i := 2) q rfl rfl rfl (b_check_number l.z (fam l k)), let ⟨_, _, q⟩ := l.d_power_of_two; cal_step (df := d_power_of_two) (i := 3) q rfl rfl rfl (b_power_of_two l.z (fam l k)), let ⟨_, _, q⟩ := l.d_twos; cal_step (df := d_twos) (i := 4) q rfl rfl rfl (b_twos l.z (fam l k)), let ⟨_, _, q⟩ := l.d_good_row; cal_step (df := d_good_row) (i := 5) q rfl rfl rfl (b_good_row l.z (fam l k)), let ⟨_, _, q⟩ := l.d_items_counted; cal_step (df := d_items_counted) (i := 7) q rfl rfl rfl (b_items_counted l.z (fam l k)), let ⟨_, _, q⟩ := l.d_is_width; cal_step (df := d_is_width) (i := 8) q rfl rfl rfl (b_is_width l.z (fam l k)), let ⟨_, _, q⟩ := l.d_check_width; cal_step (df := d_check_width) (i := 9) q rfl rfl rfl (b_check_width l.z (fam l k)), let ⟨_, _, q⟩ := l.d_is_of_width; cal_step (df := d_is_of_width) (i := 10) q rfl rfl rfl (b_is_of_width l.z (fam l k)), let ⟨_, _, q⟩ := l.d_rises; cal_step (df := d_rises) (i := 11) q rfl rfl rfl (b_rises l.z (fam l k)), let ⟨_, _, q⟩ := l.d_are_places; cal_step (df := d_are_places) (i := 12) q rfl rfl rfl (b_are_places l.z (fam l k)), let ⟨_, _, q⟩ := l.d_check_places; cal_step (df := d_check_places) (i := 13) q rfl rfl rfl (b_check_places l.z (fam l k)), let ⟨_, _, q⟩ := l.d_check_code_joined; cal_stepA (df := d_check_code) (i := 19) q rfl rfl rfl (b_check_code_joined l.z (fam l k)), let ⟨_, _, q⟩ := l.d_check_part; cal_step (df := d_check_part_v1) (i := 376) q rfl rfl rfl (b_check_part l.z (fam l k)), let ⟨_, _, q⟩ := l.d_bits_at; cal_step (df := d_bits_at_v1) (i := 671) q rfl rfl rfl (b_bits_at l.z (fam l k)), let ⟨_, _, q⟩ := l.d_together; cal_step (df := d_together) (i := 672) q rfl rfl rfl (b_together l.z (fam l k)), let ⟨_, _, q⟩ := l.d_part_bits; cal_step (df := d_part_bits) (i := 673) q rfl rfl rfl (b_part_bits l.z (fam l k)), let ⟨_, _, q⟩ := l.d_said_bits; cal_step (df := d_said_bits) (i := 674) q rfl rfl rfl (b_said_bits l.z (fam l k)), let ⟨_, _, q⟩ := l.d_check_code_codes; cal_stepA (df := d_check_code) (i := 19) q rfl rfl rfl (b_check_code_codes l.z (fam l k)), let ⟨_, _, q⟩ := l.d_size_power; cal_step (df := d_size_power) (i := 211) q rfl rfl rfl (b_size_power l.z (fam l k)), let ⟨_, _, q⟩ := l.d_how_many_codewords; cal_step (df := d_how_many_codewords_v1) (i := 675) q rfl rfl rfl (b_how_many_codewords l.z (fam l k)), let ⟨_, _, q⟩ := l.d__law_hash; cal_step (df := d__law_hash) (i := 32) q rfl rfl rfl (b__law_hash l.z (fam l k)), let ⟨_, _, q⟩ := l.d__law_random; cal_step (df := d__law_random) (i := 33) q rfl rfl rfl (b__law_random l.z (fam l k)), let ⟨_, _, q⟩ := l.d__law_cell; cal_step (df := d__law_cell) (i := 34) q rfl rfl rfl (b__law_cell l.z (fam l k)), let ⟨_, _, q⟩ := l.d__law_generator; cal_step (df := d__law_generator) (i := 35) q rfl rfl rfl (b__law_generator l.z (fam l k)), let ⟨_, _, q⟩ := l.d__law_size; cal_step (df := d__law_size) (i := 639) q rfl rfl rfl (b__law_size l.z (fam l k)), let ⟨_, _, q⟩ := l.d__law_pick; cal_step (df := d__law_pick) (i := 640) q rfl rfl rfl (b__law_pick l.z (fam l k)), let ⟨_, _, q⟩ := l.d__law_code; cal_step (df := d__law_code) (i := 641) q rfl rfl rfl (b__law_code l.z (fam l k)), let ⟨_, _, q⟩ := l.d__law_power; cal_step (df := d__law_power_v3) (i := 642) q rfl rfl rfl (b__law_power l.z (fam l k)), let ⟨_, _, q⟩ := l.d__law_made; cal_step (df := d__law_made_v1) (i := 643) q rfl rfl rfl (b__law_made l.z (fam l k)), let ⟨_, _, q⟩ := l.d__law_powers; cal_step (df := d__law_powers) (i := 644) q rfl rfl rfl (b__law_powers l.z (fam l k)), let ⟨_, _, q⟩ := l.d__law_listed; cal_step (df := d__law_listed_v2) (i := 645) q rfl rfl rfl (b__law_listed l.z (fam l k)), let ⟨_, _, q⟩ := l.d__law_part; cal_step (df := d__law_part) (i := 646) q rfl rfl rfl (b__law_part l.z (fam l k)), let ⟨_, _, q⟩ := l.d__law_at; cal_step (df := d__law_at) (i := 647) q rfl rfl rfl (b__law_at l.z (fam l k)), let ⟨_, _, q⟩ := l.d__law_same; cal_step (df := d__law_same_v2) (i := 648) q rfl rfl rfl (b__law_same l.z (fam l k)), let ⟨_, _, q⟩ := l.d__law_bits; cal_step (df := d__law_bits_v3) (i := 676) q rfl rfl rfl (b__law_bits l.z (fam l k)), let ⟨_, _, q⟩ := l.d__law_lists; cal_step (df := d__law_lists_v2) (i := 677) q rfl rfl rfl (b__law_lists l.z (fam l k)), let ⟨_, _, q⟩ := l.d__law_right; cal_step (df := d__law_right_v38) (i := 678) q rfl rfl rfl (b__law_right l.z (fam l k)), let ⟨_, _, q⟩ := l.d__law_twos; cal_step (df := d__law_twos_v1) (i := 79) q rfl rfl rfl (b__law_twos l.z (fam l k)), let ⟨_, _, q⟩ := l.d__law_great_right; cal_step (df := d__law_great_right_v30) (i := 679) q rfl rfl rfl (b__law_great_right l.z (fam l k)), let ⟨_, _, q⟩ := l.d_law; cal_step (df := d_law_v60) (i := 680) q rfl rfl rfl (b_law l.z (fam l k))⟩
theorem bn_is_whole : ∀ (kV doc pm : Value) (an : Option Addr) (cdv ct : Value) (us : List Value), us.length = [("value" : Str)].length → bindArgs (PySem.W.fnOf "is_whole" "is_whole" (defArgs (topS 7)) (defBody (topS 7)) (defScope (topS 7)) .none kV doc pm an cdv ct) ⟨us, []⟩ = pure ((["value"] : List Str).zip us) :=
  fun _ _ _ _ _ _ us hl => match us, hl with | [_], _ => rfl
theorem bn_is_between : ∀ (kV doc pm : Value) (an : Option Addr) (cdv ct : Value) (us : List Value), us.length = [("value" : Str), ("low" : Str), ("high" : Str)].length → bindArgs (PySem.W.fnOf "is_between" "is_between" (defArgs (topS 8)) (defBody (topS 8)) (defScope (topS 8)) .none kV doc pm an cdv ct) ⟨us, []⟩ = pure ((["value", "low", "high"] : List Str).zip us) :=
  fun _ _ _ _ _ _ us hl => match us, hl with | [_, _, _], _ => rfl
theorem bn_check_number : ∀ (kV doc pm : Value) (an : Option Addr) (cdv ct : Value) (us : List Value), us.length = [("number" : Str), ("low" : Str), ("high" : Str)].length → bindArgs (PySem.W.fnOf "check_number" "check_number" (defArgs (topS 9)) (defBody (topS 9)) (defScope (topS 9)) .none kV doc pm an cdv ct) ⟨us, []⟩ = pure ((["number", "low", "high"] : List Str).zip us) :=
  fun _ _ _ _ _ _ us hl => match us, hl with | [_, _, _], _ => rfl
theorem bn_power_of_two : ∀ (kV doc pm : Value) (an : Option Addr) (cdv ct : Value) (us : List Value), us.length = [("many" : Str)].length → bindArgs (PySem.W.fnOf "power_of_two" "power_of_two" (defArgs (topS 10)) (defBody (topS 10)) (defScope (topS 10)) .none kV doc pm an cdv ct) ⟨us, []⟩ = pure ((["many"] : List Str).zip us) :=
  fun _ _ _ _ _ _ us hl => match us, hl with | [_], _ => rfl
theorem bn_twos : ∀ (kV doc pm : Value) (an : Option Addr) (cdv ct : Value) (us : List Value), us.length = [("number" : Str)].length → bindArgs (PySem.W.fnOf "twos" "twos" (defArgs (topS 11)) (defBody (topS 11)) (defScope (topS 11)) .none kV doc pm an cdv ct) ⟨us, []⟩ = pure ((["number"] : List Str).zip us) :=
  fun _ _ _ _ _ _ us hl => match us, hl with | [_], _ => rfl
theorem bn_good_row : ∀ (kV doc pm : Value) (an : Option Addr) (cdv ct : Value) (us : List Value), us.length = [("places" : Str)].length → bindArgs (PySem.W.fnOf "good_row" "good_row" (defArgs (topS 12)) (defBody (topS 12)) (defScope (topS 12)) .none kV doc pm an cdv ct) ⟨us, []⟩ = pure ((["places"] : List Str).zip us) :=
  fun _ _ _ _ _ _ us hl => match us, hl with | [_], _ => rfl
theorem bn_items_counted : ∀ (kV doc pm : Value) (an : Option Addr) (cdv ct : Value) (us : List Value), us.length = [("width" : Str), ("numbers" : Str), ("count" : Str)].length → bindArgs (PySem.W.fnOf "items_counted" "items_counted" (defArgs (topS 13)) (defBody (topS 13)) (defScope (topS 13)) .none kV doc pm an cdv ct) ⟨us, []⟩ = pure ((["width", "numbers", "count"] : List Str).zip us) :=
  fun _ _ _ _ _ _ us hl => match us, hl with | [_, _, _], _ => rfl
theorem bn_is_width : ∀ (kV doc pm : Value) (an : Option Addr) (cdv ct : Value) (us : List Value), us.length = [("value" : Str)].length → bindArgs (PySem.W.fnOf "is_width" "is_width" (defArgs (topS 15)) (defBody (topS 15)) (defScope (topS 15)) .none kV doc pm an cdv ct) ⟨us, []⟩ = pure ((["value"] : List Str).zip us) :=
  fun _ _ _ _ _ _ us hl => match us, hl with | [_], _ => rfl
theorem bn_check_width : ∀ (kV doc pm : Value) (an : Option Addr) (cdv ct : Value) (us : List Value), us.length = [("width" : Str)].length → bindArgs (PySem.W.fnOf "check_width" "check_width" (defArgs (topS 16)) (defBody (topS 16)) (defScope (topS 16)) .none kV doc pm an cdv ct) ⟨us, []⟩ = pure ((["width"] : List Str).zip us) :=
  fun _ _ _ _ _ _ us hl => match us, hl with | [_], _ => rfl
theorem bn_is_of_width : ∀ (kV doc pm : Value) (an : Option Addr) (cdv ct : Value) (us : List Value), us.length = [("width" : Str), ("value" : Str)].length → bindArgs (PySem.W.fnOf "is_of_width" "is_of_width" (defArgs (topS 17)) (defBody (topS 17)) (defScope (topS 17)) .none kV doc pm an cdv ct) ⟨us, []⟩ = pure ((["width", "value"] : List Str).zip us) :=
  fun _ _ _ _ _ _ us hl => match us, hl with | [_, _], _ => rfl
theorem bn_rises : ∀ (kV doc pm : Value) (an : Option Addr) (cdv ct : Value) (us : List Value), us.length = [("numbers" : Str)].length → bindArgs (PySem.W.fnOf "rises" "rises" (defArgs (topS 18)) (defBody (topS 18)) (defScope (topS 18)) .none kV doc pm an cdv ct) ⟨us, []⟩ = pure ((["numbers"] : List Str).zip us) :=
  fun _ _ _ _ _ _ us hl => match us, hl with | [_], _ => rfl
theorem bn_are_places : ∀ (kV doc pm : Value) (an : Option Addr) (cdv ct : Value) (us : List Value), us.length = [("width" : Str), ("value" : Str)].length → bindArgs (PySem.W.fnOf "are_places" "are_places" (defArgs (topS 19)) (defBody (topS 19)) (defScope (topS 19)) .none kV doc pm an cdv ct) ⟨us, []⟩ = pure ((["width", "value"] : List Str).zip us) :=
  fun _ _ _ _ _ _ us hl => match us, hl with | [_, _], _ => rfl
theorem bn_check_places : ∀ (kV doc pm : Value) (an : Option Addr) (cdv ct : Value) (us : List Value), us.length = [("width" : Str), ("places" : Str)].length → bindArgs (PySem.W.fnOf "check_places" "check_places" (defArgs (topS 20)) (defBody (topS 20)) (defScope (topS 20)) .none kV doc pm an cdv ct) ⟨us, []⟩ = pure ((["width", "places"] : List Str).zip us) :=
  fun _ _ _ _ _ _ us hl => match us, hl with | [_, _], _ => rfl
theorem bn_check_code_joined : ∀ (kV doc pm : Value) (an : Option Addr) (cdv ct : Value) (us : List Value), us.length = [("width" : Str), ("places" : Str), ("count" : Str)].length → bindArgs (PySem.W.fnOf "check_code" "check_code" (defArgs (topS 22)) (defBody (topS 22)) (defScope (topS 22)) .none kV doc pm an cdv ct) ⟨us, []⟩ = pure ((["width", "places", "count"] : List Str).zip us) :=
  fun _ _ _ _ _ _ us hl => match us, hl with | [_, _, _], _ => rfl
theorem bn_check_part : ∀ (kV doc pm : Value) (an : Option Addr) (cdv ct : Value) (us : List Value), us.length = [("places" : Str), ("part" : Str)].length → bindArgs (PySem.W.fnOf "check_part" "check_part" (defArgs (topS 24)) (defBody (topS 24)) (defScope (topS 24)) .none kV doc pm an cdv ct) ⟨us, []⟩ = pure ((["places", "part"] : List Str).zip us) :=
  fun _ _ _ _ _ _ us hl => match us, hl with | [_, _], _ => rfl
theorem bn_bits_at : ∀ (kV doc pm : Value) (an : Option Addr) (cdv ct : Value) (us : List Value), us.length = [("width" : Str), ("count" : Str), ("part" : Str)].length → bindArgs (PySem.W.fnOf "bits_at" "bits_at" (defArgs (topS 25)) (defBody (topS 25)) (defScope (topS 25)) .none kV doc pm an cdv ct) ⟨us, []⟩ = pure ((["width", "count", "part"] : List Str).zip us) :=
  fun _ _ _ _ _ _ us hl => match us, hl with | [_, _, _], _ => rfl
theorem bn_together : ∀ (kV doc pm : Value) (an : Option Addr) (cdv ct : Value) (us : List Value), us.length = [("parts" : Str)].length → bindArgs (PySem.W.fnOf "together" "together" (defArgs (topS 26)) (defBody (topS 26)) (defScope (topS 26)) .none kV doc pm an cdv ct) ⟨us, []⟩ = pure ((["parts"] : List Str).zip us) :=
  fun _ _ _ _ _ _ us hl => match us, hl with | [_], _ => rfl
theorem bn_part_bits : ∀ (kV doc pm : Value) (an : Option Addr) (cdv ct : Value) (us : List Value), us.length = [("width" : Str), ("places" : Str), ("count" : Str), ("part" : Str)].length → bindArgs (PySem.W.fnOf "part_bits" "part_bits" (defArgs (topS 27)) (defBody (topS 27)) (defScope (topS 27)) .none kV doc pm an cdv ct) ⟨us, []⟩ = pure ((["width", "places", "count", "part"] : List Str).zip us) :=
  fun _ _ _ _ _ _ us hl => match us, hl with | [_, _, _, _], _ => rfl
theorem bn_said_bits : ∀ (kV doc pm : Value) (an : Option Addr) (cdv ct : Value) (us : List Value), us.length = [("width" : Str), ("places" : Str), ("count" : Str), ("one" : Str), ("other" : Str), ("third" : Str)].length → bindArgs (PySem.W.fnOf "said_bits" "said_bits" (defArgs (topS 28)) (defBody (topS 28)) (defScope (topS 28)) .none kV doc pm an cdv ct) ⟨us, []⟩ = pure ((["width", "places", "count", "one", "other", "third"] : List Str).zip us) :=
  fun _ _ _ _ _ _ us hl => match us, hl with | [_, _, _, _, _, _], _ => rfl
theorem bn_check_code_codes : ∀ (kV doc pm : Value) (an : Option Addr) (cdv ct : Value) (us : List Value), us.length = [("width" : Str), ("places" : Str), ("count" : Str)].length → bindArgs (PySem.W.fnOf "check_code" "check_code" (defArgs (topS 30)) (defBody (topS 30)) (defScope (topS 30)) .none kV doc pm an cdv ct) ⟨us, []⟩ = pure ((["width", "places", "count"] : List Str).zip us) :=
  fun _ _ _ _ _ _ us hl => match us, hl with | [_, _, _], _ => rfl
theorem bn_size_power : ∀ (kV doc pm : Value) (an : Option Addr) (cdv ct : Value) (us : List Value), us.length = [("width" : Str), ("numbers" : Str), ("count" : Str)].length → bindArgs (PySem.W.fnOf "size_power" "size_power" (defArgs (topS 33)) (defBody (topS 33)) (defScope (topS 33)) .none kV doc pm an cdv ct) ⟨us, []⟩ = pure ((["width", "numbers", "count"] : List Str).zip us) :=
  fun _ _ _ _ _ _ us hl => match us, hl with | [_, _, _], _ => rfl
theorem bn_how_many_codewords : ∀ (kV doc pm : Value) (an : Option Addr) (cdv ct : Value) (us : List Value), us.length = [("width" : Str), ("places" : Str), ("count" : Str)].length → bindArgs (PySem.W.fnOf "how_many_codewords" "how_many_codewords" (defArgs (topS 34)) (defBody (topS 34)) (defScope (topS 34)) .none kV doc pm an cdv ct) ⟨us, []⟩ = pure ((["width", "places", "count"] : List Str).zip us) :=
  fun _ _ _ _ _ _ us hl => match us, hl with | [_, _, _], _ => rfl
theorem bn__law_hash : ∀ (kV doc pm : Value) (an : Option Addr) (cdv ct : Value) (us : List Value), us.length = [("_law_seed" : Str), ("_law_index" : Str)].length → bindArgs (PySem.W.fnOf "_law_hash" "_law_hash" (defArgs (topS 36)) (defBody (topS 36)) (defScope (topS 36)) .none kV doc pm an cdv ct) ⟨us, []⟩ = pure ((["_law_seed", "_law_index"] : List Str).zip us) :=
  fun _ _ _ _ _ _ us hl => match us, hl with | [_, _], _ => rfl
theorem bn__law_random : ∀ (kV doc pm : Value) (an : Option Addr) (cdv ct : Value) (us : List Value), us.length = [("_law_generator_here" : Str), ("_law_bound" : Str)].length → bindArgs (PySem.W.fnOf "_law_random" "_law_random" (defArgs (topS 37)) (defBody (topS 37)) (defScope (topS 37)) .none kV doc pm an cdv ct) ⟨us, []⟩ = pure ((["_law_generator_here", "_law_bound"] : List Str).zip us) :=
  fun _ _ _ _ _ _ us hl => match us, hl with | [_, _], _ => rfl
theorem bn__law_cell : ∀ (kV doc pm : Value) (an : Option Addr) (cdv ct : Value) (us : List Value), us.length = [("_law_script" : Str), ("_law_index" : Str)].length → bindArgs (PySem.W.fnOf "_law_cell" "_law_cell" (defArgs (topS 38)) (defBody (topS 38)) (defScope (topS 38)) .none kV doc pm an cdv ct) ⟨us, []⟩ = pure ((["_law_script", "_law_index"] : List Str).zip us) :=
  fun _ _ _ _ _ _ us hl => match us, hl with | [_, _], _ => rfl
theorem bn__law_generator : ∀ (kV doc pm : Value) (an : Option Addr) (cdv ct : Value) (us : List Value), us.length = [("_law_script" : Str), ("_law_index" : Str)].length → bindArgs (PySem.W.fnOf "_law_generator" "_law_generator" (defArgs (topS 39)) (defBody (topS 39)) (defScope (topS 39)) .none kV doc pm an cdv ct) ⟨us, []⟩ = pure ((["_law_script", "_law_index"] : List Str).zip us) :=
  fun _ _ _ _ _ _ us hl => match us, hl with | [_, _], _ => rfl
theorem bn__law_size : ∀ (kV doc pm : Value) (an : Option Addr) (cdv ct : Value) (us : List Value), us.length = [("_law_generator_here" : Str), ("_law_least" : Str), ("_law_most" : Str)].length → bindArgs (PySem.W.fnOf "_law_size" "_law_size" (defArgs (topS 40)) (defBody (topS 40)) (defScope (topS 40)) .none kV doc pm an cdv ct) ⟨us, []⟩ = pure ((["_law_generator_here", "_law_least", "_law_most"] : List Str).zip us) :=
  fun _ _ _ _ _ _ us hl => match us, hl with | [_, _, _], _ => rfl
theorem bn__law_pick : ∀ (kV doc pm : Value) (an : Option Addr) (cdv ct : Value) (us : List Value), us.length = [("_law_generator_here" : Str), ("_law_numbers" : Str), ("_law_many" : Str)].length → bindArgs (PySem.W.fnOf "_law_pick" "_law_pick" (defArgs (topS 41)) (defBody (topS 41)) (defScope (topS 41)) .none kV doc pm an cdv ct) ⟨us, []⟩ = pure ((["_law_generator_here", "_law_numbers", "_law_many"] : List Str).zip us) :=
  fun _ _ _ _ _ _ us hl => match us, hl with | [_, _, _], _ => rfl
theorem bn__law_code : ∀ (kV doc pm : Value) (an : Option Addr) (cdv ct : Value) (us : List Value), us.length = [("_law_generator_here" : Str), ("_law_most" : Str)].length → bindArgs (PySem.W.fnOf "_law_code" "_law_code" (defArgs (topS 42)) (defBody (topS 42)) (defScope (topS 42)) .none kV doc pm an cdv ct) ⟨us, []⟩ = pure ((["_law_generator_here", "_law_most"] : List Str).zip us) :=
  fun _ _ _ _ _ _ us hl => match us, hl with | [_, _], _ => rfl
theorem bn__law_power : ∀ (kV doc pm : Value) (an : Option Addr) (cdv ct : Value) (us : List Value), us.length = [("_law_many" : Str)].length → bindArgs (PySem.W.fnOf "_law_power" "_law_power" (defArgs (topS 43)) (defBody (topS 43)) (defScope (topS 43)) .none kV doc pm an cdv ct) ⟨us, []⟩ = pure ((["_law_many"] : List Str).zip us) :=
  fun _ _ _ _ _ _ us hl => match us, hl with | [_], _ => rfl
theorem bn__law_made : ∀ (kV doc pm : Value) (an : Option Addr) (cdv ct : Value) (us : List Value), us.length = [("_law_width" : Str), ("_law_powers_here" : Str), ("_law_spot" : Str)].length → bindArgs (PySem.W.fnOf "_law_made" "_law_made" (defArgs (topS 44)) (defBody (topS 44)) (defScope (topS 44)) .none kV doc pm an cdv ct) ⟨us, []⟩ = pure ((["_law_width", "_law_powers_here", "_law_spot"] : List Str).zip us) :=
  fun _ _ _ _ _ _ us hl => match us, hl with | [_, _, _], _ => rfl
theorem bn__law_powers : ∀ (kV doc pm : Value) (an : Option Addr) (cdv ct : Value) (us : List Value), us.length = [("_law_width" : Str), ("_law_count" : Str)].length → bindArgs (PySem.W.fnOf "_law_powers" "_law_powers" (defArgs (topS 45)) (defBody (topS 45)) (defScope (topS 45)) .none kV doc pm an cdv ct) ⟨us, []⟩ = pure ((["_law_width", "_law_count"] : List Str).zip us) :=
  fun _ _ _ _ _ _ us hl => match us, hl with | [_, _], _ => rfl
theorem bn__law_listed : ∀ (kV doc pm : Value) (an : Option Addr) (cdv ct : Value) (us : List Value), us.length = [("_law_width" : Str), ("_law_spots" : Str), ("_law_count" : Str)].length → bindArgs (PySem.W.fnOf "_law_listed" "_law_listed" (defArgs (topS 46)) (defBody (topS 46)) (defScope (topS 46)) .none kV doc pm an cdv ct) ⟨us, []⟩ = pure ((["_law_width", "_law_spots", "_law_count"] : List Str).zip us) :=
  fun _ _ _ _ _ _ us hl => match us, hl with | [_, _, _], _ => rfl
theorem bn__law_part : ∀ (kV doc pm : Value) (an : Option Addr) (cdv ct : Value) (us : List Value), us.length = [("_law_generator_here" : Str), ("_law_spots" : Str)].length → bindArgs (PySem.W.fnOf "_law_part" "_law_part" (defArgs (topS 47)) (defBody (topS 47)) (defScope (topS 47)) .none kV doc pm an cdv ct) ⟨us, []⟩ = pure ((["_law_generator_here", "_law_spots"] : List Str).zip us) :=
  fun _ _ _ _ _ _ us hl => match us, hl with | [_, _], _ => rfl
theorem bn__law_at : ∀ (kV doc pm : Value) (an : Option Addr) (cdv ct : Value) (us : List Value), us.length = [("_law_spots" : Str), ("_law_words" : Str), ("_law_part_here" : Str)].length → bindArgs (PySem.W.fnOf "_law_at" "_law_at" (defArgs (topS 48)) (defBody (topS 48)) (defScope (topS 48)) .none kV doc pm an cdv ct) ⟨us, []⟩ = pure ((["_law_spots", "_law_words", "_law_part_here"] : List Str).zip us) :=
  fun _ _ _ _ _ _ us hl => match us, hl with | [_, _, _], _ => rfl
theorem bn__law_same : ∀ (kV doc pm : Value) (an : Option Addr) (cdv ct : Value) (us : List Value), us.length = [("_law_one_told" : Str), ("_law_other_told" : Str)].length → bindArgs (PySem.W.fnOf "_law_same" "_law_same" (defArgs (topS 49)) (defBody (topS 49)) (defScope (topS 49)) .none kV doc pm an cdv ct) ⟨us, []⟩ = pure ((["_law_one_told", "_law_other_told"] : List Str).zip us) :=
  fun _ _ _ _ _ _ us hl => match us, hl with | [_, _], _ => rfl
theorem bn__law_bits : ∀ (kV doc pm : Value) (an : Option Addr) (cdv ct : Value) (us : List Value), us.length = [("_law_many" : Str)].length → bindArgs (PySem.W.fnOf "_law_bits" "_law_bits" (defArgs (topS 50)) (defBody (topS 50)) (defScope (topS 50)) .none kV doc pm an cdv ct) ⟨us, []⟩ = pure ((["_law_many"] : List Str).zip us) :=
  fun _ _ _ _ _ _ us hl => match us, hl with | [_], _ => rfl
theorem bn__law_lists : ∀ (kV doc pm : Value) (an : Option Addr) (cdv ct : Value) (us : List Value), us.length = [("_law_spots" : Str), ("_law_listing" : Str), ("_law_part_here" : Str)].length → bindArgs (PySem.W.fnOf "_law_lists" "_law_lists" (defArgs (topS 51)) (defBody (topS 51)) (defScope (topS 51)) .none kV doc pm an cdv ct) ⟨us, []⟩ = pure ((["_law_spots", "_law_listing", "_law_part_here"] : List Str).zip us) :=
  fun _ _ _ _ _ _ us hl => match us, hl with | [_, _, _], _ => rfl
theorem bn__law_right : ∀ (kV doc pm : Value) (an : Option Addr) (cdv ct : Value) (us : List Value), us.length = [("_law_generator_here" : Str)].length → bindArgs (PySem.W.fnOf "_law_right" "_law_right" (defArgs (topS 52)) (defBody (topS 52)) (defScope (topS 52)) .none kV doc pm an cdv ct) ⟨us, []⟩ = pure ((["_law_generator_here"] : List Str).zip us) :=
  fun _ _ _ _ _ _ us hl => match us, hl with | [_], _ => rfl
theorem bn__law_twos : ∀ (kV doc pm : Value) (an : Option Addr) (cdv ct : Value) (us : List Value), us.length = [("_law_number" : Str)].length → bindArgs (PySem.W.fnOf "_law_twos" "_law_twos" (defArgs (topS 53)) (defBody (topS 53)) (defScope (topS 53)) .none kV doc pm an cdv ct) ⟨us, []⟩ = pure ((["_law_number"] : List Str).zip us) :=
  fun _ _ _ _ _ _ us hl => match us, hl with | [_], _ => rfl
theorem bn__law_great_right : ∀ (kV doc pm : Value) (an : Option Addr) (cdv ct : Value) (us : List Value), us.length = [("_law_generator_here" : Str)].length → bindArgs (PySem.W.fnOf "_law_great_right" "_law_great_right" (defArgs (topS 54)) (defBody (topS 54)) (defScope (topS 54)) .none kV doc pm an cdv ct) ⟨us, []⟩ = pure ((["_law_generator_here"] : List Str).zip us) :=
  fun _ _ _ _ _ _ us hl => match us, hl with | [_], _ => rfl
theorem bn_law : ∀ (kV doc pm : Value) (an : Option Addr) (cdv ct : Value) (us : List Value), us.length = [("_law_script" : Str)].length → bindArgs (PySem.W.fnOf "law" "law" (defArgs (topS 55)) (defBody (topS 55)) (defScope (topS 55)) .none kV doc pm an cdv ct) ⟨us, []⟩ = pure ((["_law_script"] : List Str).zip us) :=
  fun _ _ _ _ _ _ us hl => match us, hl with | [_], _ => rfl
/-- what the top must have written -/
structure Kz (K : PySem.W.Frag) : Prop where
  d_is_whole : ∃ f fd, DfQ K "is_whole" (topS 7) ["value"] f fd
  d_is_between : ∃ f fd, DfQ K "is_between" (topS 8) ["value", "low", "high"] f fd
  d_check_number : ∃ f fd, DfQ K "check_number" (topS 9) ["number", "low", "high"] f fd
  d_power_of_two : ∃ f fd, DfQ K "power_of_two" (topS 10) ["many"] f fd
  d_twos : ∃ f fd, DfQ K "twos" (topS 11) ["number"] f fd
  d_good_row : ∃ f fd, DfQ K "good_row" (topS 12) ["places"] f fd
  d_items_counted : ∃ f fd, DfQ K "items_counted" (topS 13) ["width", "numbers", "count"] f fd
  d_is_width : ∃ f fd, DfQ K "is_width" (topS 15) ["value"] f fd
  d_check_width : ∃ f fd, DfQ K "check_width" (topS 16) ["width"] f fd
  d_is_of_width : ∃ f fd, DfQ K "is_of_width" (topS 17) ["width", "value"] f fd
  d_rises : ∃ f fd, DfQ K "rises" (topS 18) ["numbers"] f fd
  d_are_places : ∃ f fd, DfQ K "are_places" (topS 19) ["width", "value"] f fd
  d_check_places : ∃ f fd, DfQ K "check_places" (topS 20) ["width", "places"] f fd
  d_check_code_joined : ∃ f fd, DfQA K "check_code_joined" "check_code" (topS 22) ["width", "places", "count"] f fd
  d_check_part : ∃ f fd, DfQ K "check_part" (topS 24) ["places", "part"] f fd
  d_bits_at : ∃ f fd, DfQ K "bits_at" (topS 25) ["width", "count", "part"] f fd
  d_together : ∃ f fd, DfQ K "together" (topS 26) ["parts"] f fd
  d_part_bits : ∃ f fd, DfQ K "part_bits" (topS 27) ["width", "places", "count", "part"] f fd
  d_said_bits : ∃ f fd, DfQ K "said_bits" (topS 28) ["width", "places", "count", "one", "other", "third"] f fd
  d_check_code_codes : ∃ f fd, DfQA K "check_code_codes" "check_code" (topS 30) ["width", "places", "count"] f fd
  d_size_power : ∃ f fd, DfQ K "size_power" (topS 33) ["width", "numbers", "count"] f fd
  d_how_many_codewords : ∃ f fd, DfQ K "how_many_codewords" (topS 34) ["width", "places", "count"] f fd
  d__law_hash : ∃ f fd, DfQ K "_law_hash" (topS 36) ["_law_seed", "_law_index"] f fd
  d__law_random : ∃ f fd, DfQ K "_law_random" (topS 37) ["_law_generator_here", "_law_bound"] f fd
  d__law_cell : ∃ f fd, DfQ K "_law_cell" (topS 38) ["_law_script", "_law_index"] f fd
  d__law_generator : ∃ f fd, DfQ K "_law_generator" (topS 39) ["_law_script", "_law_index"] f fd
  d__law_size : ∃ f fd, DfQ K "_law_size" (topS 40) ["_law_generator_here", "_law_least", "_law_most"] f fd
  d__law_pick : ∃ f fd, DfQ K "_law_pick" (topS 41) ["_law_generator_here", "_law_numbers", "_law_many"] f fd
  d__law_code : ∃ f fd, DfQ K "_law_code" (topS 42) ["_law_generator_here", "_law_most"] f fd
  d__law_power : ∃ f fd, DfQ K "_law_power" (topS 43) ["_law_many"] f fd
  d__law_made : ∃ f fd, DfQ K "_law_made" (topS 44) ["_law_width", "_law_powers_here", "_law_spot"] f fd
  d__law_powers : ∃ f fd, DfQ K "_law_powers" (topS 45) ["_law_width", "_law_count"] f fd
  d__law_listed : ∃ f fd, DfQ K "_law_listed" (topS 46) ["_law_width", "_law_spots", "_law_count"] f fd
  d__law_part : ∃ f fd, DfQ K "_law_part" (topS 47) ["_law_generator_here", "_law_spots"] f fd
  d__law_at : ∃ f fd, DfQ K "_law_at" (topS 48) ["_law_spots", "_law_words", "_law_part_here"] f fd
  d__law_same : ∃ f fd, DfQ K "_law_same" (topS 49) ["_law_one_told", "_law_other_told"] f fd
  d__law_bits : ∃ f fd, DfQ K "_law_bits" (topS 50) ["_law_many"] f fd
  d__law_lists : ∃ f fd, DfQ K "_law_lists" (topS 51) ["_law_spots", "_law_listing", "_law_part_here"] f fd
  d__law_right : ∃ f fd, DfQ K "_law_right" (topS 52) ["_law_generator_here"] f fd
  d__law_twos : ∃ f fd, DfQ K "_law_twos" (topS 53) ["_law_number"] f fd
  d__law_great_right : ∃ f fd, DfQ K "_law_great_right" (topS 54) ["_law_generator_here"] f fd
  d_law : ∃ f fd, DfQ K "law" (topS 55) ["_law_script"] f fd
  m_bool : PySem.W.nsIn K mainGlobals "bool" = some none
  m_int : PySem.W.nsIn K mainGlobals "int" = some none
  m_isinstance : PySem.W.nsIn K mainGlobals "isinstance" = some none
  m_len : PySem.W.nsIn K mainGlobals "len" = some none
  m_list : PySem.W.nsIn K mainGlobals "list" = some none
  m_max : PySem.W.nsIn K mainGlobals "max" = some none
  m_min : PySem.W.nsIn K mainGlobals "min" = some none
  m_range : PySem.W.nsIn K mainGlobals "range" = some none
  m_repr : PySem.W.nsIn K mainGlobals "repr" = some none
  m_set : PySem.W.nsIn K mainGlobals "set" = some none
  m_sorted : PySem.W.nsIn K mainGlobals "sorted" = some none
  m_sum : PySem.W.nsIn K mainGlobals "sum" = some none
  m_tuple : PySem.W.nsIn K mainGlobals "tuple" = some none
  m_zip : PySem.W.nsIn K mainGlobals "zip" = some none
  g_MOST_WIDTH : ∃ t, PySem.W.nsIn K mainGlobals "MOST_WIDTH" = some (some (.int 64 t))
theorem Kz.lz {K : PySem.W.Frag} (q : Kz K) {P : Program} {w : World} {mg : Str → Option Value} {h bs : Heap} (inK : K.In h) (G : h.Ns mainGlobals mg) : Lz (tbOf P w K mg bs) where
  z := {
    m_bool := PySem.W.mg_none_of inK G q.m_bool,
    m_int := PySem.W.mg_none_of inK G q.m_int,
    m_isinstance := PySem.W.mg_none_of inK G q.m_isinstance,
    m_len := PySem.W.mg_none_of inK G q.m_len,
    m_list := PySem.W.mg_none_of inK G q.m_list,
    m_max := PySem.W.mg_none_of inK G q.m_max,
    m_min := PySem.W.mg_none_of inK G q.m_min,
    m_range := PySem.W.mg_none_of inK G q.m_range,
    m_repr := PySem.W.mg_none_of inK G q.m_repr,
    m_set := PySem.W.mg_none_of inK G q.m_set,
    m_sorted := PySem.W.mg_none_of inK G q.m_sorted,
    m_sum := PySem.W.mg_none_of inK G q.m_sum,
    m_tuple := PySem.W.mg_none_of inK G q.m_tuple,
    m_zip := PySem.W.mg_none_of inK G q.m_zip,
    g_MOST_WIDTH := let ⟨t, e⟩ := q.g_MOST_WIDTH; ⟨t, PySem.W.mg_of inK G e⟩ }
  d_is_whole := let ⟨f, fd, e⟩ := q.d_is_whole; ⟨f, fd, e.at sc_is_whole inK G⟩
  d_is_between := let ⟨f, fd, e⟩ := q.d_is_between; ⟨f, fd, e.at sc_is_between inK G⟩
  d_check_number := let ⟨f, fd, e⟩ := q.d_check_number; ⟨f, fd, e.at sc_check_number inK G⟩
  d_power_of_two := let ⟨f, fd, e⟩ := q.d_power_of_two; ⟨f, fd, e.at sc_power_of_two inK G⟩
  d_twos := let ⟨f, fd, e⟩ := q.d_twos; ⟨f, fd, e.at sc_twos inK G⟩
  d_good_row := let ⟨f, fd, e⟩ := q.d_good_row; ⟨f, fd, e.at sc_good_row inK G⟩
  d_items_counted := let ⟨f, fd, e⟩ := q.d_items_counted; ⟨f, fd, e.at sc_items_counted inK G⟩
  d_is_width := let ⟨f, fd, e⟩ := q.d_is_width; ⟨f, fd, e.at sc_is_width inK G⟩
  d_check_width := let ⟨f, fd, e⟩ := q.d_check_width; ⟨f, fd, e.at sc_check_width inK G⟩
  d_is_of_width := let ⟨f, fd, e⟩ := q.d_is_of_width; ⟨f, fd, e.at sc_is_of_width inK G⟩
  d_rises := let ⟨f, fd, e⟩ := q.d_rises; ⟨f, fd, e.at sc_rises inK G⟩
  d_are_places := let ⟨f, fd, e⟩ := q.d_are_places; ⟨f, fd, e.at sc_are_places inK G⟩
  d_check_places := let ⟨f, fd, e⟩ := q.d_check_places; ⟨f, fd, e.at sc_check_places inK G⟩
  d_check_code_joined := let ⟨f, fd, e⟩ := q.d_check_code_joined; ⟨f, fd, e.at sc_check_code_joined inK G⟩
  d_check_part := let ⟨f, fd, e⟩ := q.d_check_part; ⟨f, fd, e.at sc_check_part inK G⟩
  d_bits_at := let ⟨f, fd, e⟩ := q.d_bits_at; ⟨f, fd, e.at sc_bits_at inK G⟩
  d_together := let ⟨f, fd, e⟩ := q.d_together; ⟨f, fd, e.at sc_together inK G⟩
  d_part_bits := let ⟨f, fd, e⟩ := q.d_part_bits; ⟨f, fd, e.at sc_part_bits inK G⟩
  d_said_bits := let ⟨f, fd, e⟩ := q.d_said_bits; ⟨f, fd, e.at sc_said_bits inK G⟩
  d_check_code_codes := let ⟨f, fd, e⟩ := q.d_check_code_codes; ⟨f, fd, e.at sc_check_code_codes inK G⟩
  d_size_power := let ⟨f, fd, e⟩ := q.d_size_power; ⟨f, fd, e.at sc_size_power inK G⟩
  d_how_many_codewords := let ⟨f, fd, e⟩ := q.d_how_many_codewords; ⟨f, fd, e.at sc_how_many_codewords inK G⟩
  d__law_hash := let ⟨f, fd, e⟩ := q.d__law_hash; ⟨f, fd, e.at sc__law_hash inK G⟩
  d__law_random := let ⟨f, fd, e⟩ := q.d__law_random; ⟨f, fd, e.at sc__law_random inK G⟩
  d__law_cell := let ⟨f, fd, e⟩ := q.d__law_cell; ⟨f, fd, e.at sc__law_cell inK G⟩
  d__law_generator := let ⟨f, fd, e⟩ := q.d__law_generator; ⟨f, fd, e.at sc__law_generator inK G⟩
  d__law_size := let ⟨f, fd, e⟩ := q.d__law_size; ⟨f, fd, e.at sc__law_size inK G⟩
  d__law_pick := let ⟨f, fd, e⟩ := q.d__law_pick; ⟨f, fd, e.at sc__law_pick inK G⟩
  d__law_code := let ⟨f, fd, e⟩ := q.d__law_code; ⟨f, fd, e.at sc__law_code inK G⟩
  d__law_power := let ⟨f, fd, e⟩ := q.d__law_power; ⟨f, fd, e.at sc__law_power inK G⟩
  d__law_made := let ⟨f, fd, e⟩ := q.d__law_made; ⟨f, fd, e.at sc__law_made inK G⟩
  d__law_powers := let ⟨f, fd, e⟩ := q.d__law_powers; ⟨f, fd, e.at sc__law_powers inK G⟩
  d__law_listed := let ⟨f, fd, e⟩ := q.d__law_listed; ⟨f, fd, e.at sc__law_listed inK G⟩
  d__law_part := let ⟨f, fd, e⟩ := q.d__law_part; ⟨f, fd, e.at sc__law_part inK G⟩
  d__law_at := let ⟨f, fd, e⟩ := q.d__law_at; ⟨f, fd, e.at sc__law_at inK G⟩
  d__law_same := let ⟨f, fd, e⟩ := q.d__law_same; ⟨f, fd, e.at sc__law_same inK G⟩
  d__law_bits := let ⟨f, fd, e⟩ := q.d__law_bits; ⟨f, fd, e.at sc__law_bits inK G⟩
  d__law_lists := let ⟨f, fd, e⟩ := q.d__law_lists; ⟨f, fd, e.at sc__law_lists inK G⟩
  d__law_right := let ⟨f, fd, e⟩ := q.d__law_right; ⟨f, fd, e.at sc__law_right inK G⟩
  d__law_twos := let ⟨f, fd, e⟩ := q.d__law_twos; ⟨f, fd, e.at sc__law_twos inK G⟩
  d__law_great_right := let ⟨f, fd, e⟩ := q.d__law_great_right; ⟨f, fd, e.at sc__law_great_right inK G⟩
  d_law := let ⟨f, fd, e⟩ := q.d_law; ⟨f, fd, e.at sc_law inK G⟩
/-- the law, called -/
theorem law_fn {K : PySem.W.Frag} (q : Kz K) (k : Nat) {P : Program} {w : World} {mg : Str → Option Value} {fa : Addr} {h : Heap} (inK : K.In h) (G : h.Ns mainGlobals mg) (hf : mg "law" = some (.ref fa)) :
    ∃ fd : FuncData, (∀ (s : Shared) (u : Value), BindsTo s fd ⟨[u], []⟩ [("_law_script", u)]) ∧ ∀ bs : Heap, K.In bs → bs.Ns mainGlobals mg → FnG (tbOf P w K mg bs) (k + 1) fa fd ["_law_script"] (spD (tbOf P w K mg bs) [false] (callD Pg FU (k + 1) 680)) := by
  obtain ⟨f, fd, e⟩ := q.d_law
  cases hf.symm.trans (PySem.W.mg_of inK G e.ns)
  exact ⟨fd, fun s u => .of_eq (e.bn [u] rfl), fun bs _ _ => fng_step (df := d_law_v60) (i := 680) (e.at sc_law inK G) rfl rfl rfl (b_law (q.lz inK G).z (fam (q.lz inK G) k))⟩
end Z
namespace Z
def DEP : Nat := 120
theorem ans : ∀ ns : List Int, ns.length ≤ 63 → callD Pg FU (DEP + 1) 680 [.scr ns] = .ok (.sh (.bl true)) [] := fun ns _ =>
  m_law60 (k := 112) (f := 680) ⟨⟨⟨⟨⟨rfl, rfl, rfl, rfl, rfl, rfl, rfl, rfl, rfl, rfl⟩, rfl⟩, rfl, rfl, rfl, rfl, rfl, rfl, rfl⟩, rfl, rfl, rfl, rfl, rfl, rfl, rfl, rfl, rfl, rfl, rfl, rfl, rfl, rfl, rfl, rfl, rfl⟩, rfl, rfl, rfl, rfl, rfl⟩ rfl (Nat.le_of_ble_eq_true rfl) ns
end Z
open PySem PySem.W PyProof.Rows
set_option maxHeartbeats 0 in
theorem PySem.Challenge.cw_anyplaces_k60_whole_bits_that_parts_say_holds : PySem.Challenge.rw_anyplaces_k60_whole_bits_that_parts_say.Holds := by
  w_on; o_law; k_head; (case hw => w_witness2)
  k_fill
  refine Z.head_of (l := PySem.Challenge.rw_anyplaces_k60_whole_bits_that_parts_say) (n := 63) (k := Z.DEP + 1) (x := "_law_script") (c := Z.callD Z.Pg Z.FU (Z.DEP + 1) 680) rfl (by decide) rfl ⟨rfl, by decide, by decide⟩ (fun w h Y => PySem.W.kIn_of Y) ?F Z.ans
  case F =>
    intro w mg fa h KX G hmg
    refine' Z.law_fn ?zq Z.DEP KX G hmg
    case zq =>
      refine' ⟨?d_is_whole, ?d_is_between, ?d_check_number, ?d_power_of_two, ?d_twos, ?d_good_row, ?d_items_counted, ?d_is_width, ?d_check_width, ?d_is_of_width, ?d_rises, ?d_are_places, ?d_check_places, ?d_check_code_joined, ?d_check_part, ?d_bits_at, ?d_together, ?d_part_bits, ?d_said_bits, ?d_check_code_codes, ?d_size_power, ?d_how_many_codewords, ?d__law_hash, ?d__law_random, ?d__law_cell, ?d__law_generator, ?d__law_size, ?d__law_pick, ?d__law_code, ?d__law_power, ?d__law_made, ?d__law_powers, ?d__law_listed, ?d__law_part, ?d__law_at, ?d__law_same, ?d__law_bits, ?d__law_lists, ?d__law_right, ?d__law_twos, ?d__law_great_right, ?d_law, ?m_bool, ?m_int, ?m_isinstance, ?m_len, ?m_list, ?m_max, ?m_min, ?m_range, ?m_repr, ?m_set, ?m_sorted, ?m_sum, ?m_tuple, ?m_zip, ?g_MOST_WIDTH⟩
      (case d_is_whole => refine' ⟨_, Z.dfq_mk Z.bn_is_whole ?a ?l ?c ?k⟩; (case a => k_is); (case l => k_is); (case c => k_is); (case k => k_is))
      (case d_is_between => refine' ⟨_, Z.dfq_mk Z.bn_is_between ?a ?l ?c ?k⟩; (case a => k_is); (case l => k_is); (case c => k_is); (case k => k_is))
      (case d_check_number => refine' ⟨_, Z.dfq_mk Z.bn_check_number ?a ?l ?c ?k⟩; (case a => k_is); (case l => k_is); (case c => k_is); (case k => k_is))
      (case d_power_of_two => refine' ⟨_, Z.dfq_mk Z.bn_power_of_two ?a ?l ?c ?k⟩; (case a => k_is); (case l => k_is); (case c => k_is); (case k => k_is))
      (case d_twos => refine' ⟨_, Z.dfq_mk Z.bn_twos ?a ?l ?c ?k⟩; (case a => k_is); (case l => k_is); (case c => k_is); (case k => k_is))
      (case d_good_row => refine' ⟨_, Z.dfq_mk Z.bn_good_row ?a ?l ?c ?k⟩; (case a => k_is); (case l => k_is); (case c => k_is); (case k => k_is))
      (case d_items_counted => refine' ⟨_, Z.dfq_mk Z.bn_items_counted ?a ?l ?c ?k⟩; (case a => k_is); (case l => k_is); (case c => k_is); (case k => k_is))
      (case d_is_width => refine' ⟨_, Z.dfq_mk Z.bn_is_width ?a ?l ?c ?k⟩; (case a => k_is); (case l => k_is); (case c => k_is); (case k => k_is))
      (case d_check_width => refine' ⟨_, Z.dfq_mk Z.bn_check_width ?a ?l ?c ?k⟩; (case a => k_is); (case l => k_is); (case c => k_is); (case k => k_is))
      (case d_is_of_width => refine' ⟨_, Z.dfq_mk Z.bn_is_of_width ?a ?l ?c ?k⟩; (case a => k_is); (case l => k_is); (case c => k_is); (case k => k_is))
      (case d_rises => refine' ⟨_, Z.dfq_mk Z.bn_rises ?a ?l ?c ?k⟩; (case a => k_is); (case l => k_is); (case c => k_is); (case k => k_is))
      (case d_are_places => refine' ⟨_, Z.dfq_mk Z.bn_are_places ?a ?l ?c ?k⟩; (case a => k_is); (case l => k_is); (case c => k_is); (case k => k_is))
      (case d_check_places => refine' ⟨_, Z.dfq_mk Z.bn_check_places ?a ?l ?c ?k⟩; (case a => k_is); (case l => k_is); (case c => k_is); (case k => k_is))
      (case d_check_code_joined => refine' ⟨_, Z.dfq_mkA Z.bn_check_code_joined ?a ?l ?c ?k⟩; (case a => k_is); (case l => k_is); (case c => k_is); (case k => k_is))
      (case d_check_part => refine' ⟨_, Z.dfq_mk Z.bn_check_part ?a ?l ?c ?k⟩; (case a => k_is); (case l => k_is); (case c => k_is); (case k => k_is))
      (case d_bits_at => refine' ⟨_, Z.dfq_mk Z.bn_bits_at ?a ?l ?c ?k⟩; (case a => k_is); (case l => k_is); (case c => k_is); (case k => k_is))
      (case d_together => refine' ⟨_, Z.dfq_mk Z.bn_together ?a ?l ?c ?k⟩; (case a => k_is); (case l => k_is); (case c => k_is); (case k => k_is))
      (case d_part_bits => refine' ⟨_, Z.dfq_mk Z.bn_part_bits ?a ?l ?c ?k⟩; (case a => k_is); (case l => k_is); (case c => k_is); (case k => k_is))
      (case d_said_bits => refine' ⟨_, Z.dfq_mk Z.bn_said_bits ?a ?l ?c ?k⟩; (case a => k_is); (case l => k_is); (case c => k_is); (case k => k_is))
      (case d_check_code_codes => refine' ⟨_, Z.dfq_mkA Z.bn_check_code_codes ?a ?l ?c ?k⟩; (case a => k_is); (case l => k_is); (case c => k_is); (case k => k_is))
      (case d_size_power => refine' ⟨_, Z.dfq_mk Z.bn_size_power ?a ?l ?c ?k⟩; (case a => k_is); (case l => k_is); (case c => k_is); (case k => k_is))
      (case d_how_many_codewords => refine' ⟨_, Z.dfq_mk Z.bn_how_many_codewords ?a ?l ?c ?k⟩; (case a => k_is); (case l => k_is); (case c => k_is); (case k => k_is))
      (case d__law_hash => refine' ⟨_, Z.dfq_mk Z.bn__law_hash ?a ?l ?c ?k⟩; (case a => k_is); (case l => k_is); (case c => k_is); (case k => k_is))
      (case d__law_random => refine' ⟨_, Z.dfq_mk Z.bn__law_random ?a ?l ?c ?k⟩; (case a => k_is); (case l => k_is); (case c => k_is); (case k => k_is))
      (case d__law_cell => refine' ⟨_, Z.dfq_mk Z.bn__law_cell ?a ?l ?c ?k⟩; (case a => k_is); (case l => k_is); (case c => k_is); (case k => k_is))
      (case d__law_generator => refine' ⟨_, Z.dfq_mk Z.bn__law_generator ?a ?l ?c ?k⟩; (case a => k_is); (case l => k_is); (case c => k_is); (case k => k_is))
      (case d__law_size => refine' ⟨_, Z.dfq_mk Z.bn__law_size ?a ?l ?c ?k⟩; (case a => k_is); (case l => k_is); (case c => k_is); (case k => k_is))
      (case d__law_pick => refine' ⟨_, Z.dfq_mk Z.bn__law_pick ?a ?l ?c ?k⟩; (case a => k_is); (case l => k_is); (case c => k_is); (case k => k_is))
      (case d__law_code => refine' ⟨_, Z.dfq_mk Z.bn__law_code ?a ?l ?c ?k⟩; (case a => k_is); (case l => k_is); (case c => k_is); (case k => k_is))
      (case d__law_power => refine' ⟨_, Z.dfq_mk Z.bn__law_power ?a ?l ?c ?k⟩; (case a => k_is); (case l => k_is); (case c => k_is); (case k => k_is))
      (case d__law_made => refine' ⟨_, Z.dfq_mk Z.bn__law_made ?a ?l ?c ?k⟩; (case a => k_is); (case l => k_is); (case c => k_is); (case k => k_is))
      (case d__law_powers => refine' ⟨_, Z.dfq_mk Z.bn__law_powers ?a ?l ?c ?k⟩; (case a => k_is); (case l => k_is); (case c => k_is); (case k => k_is))
      (case d__law_listed => refine' ⟨_, Z.dfq_mk Z.bn__law_listed ?a ?l ?c ?k⟩; (case a => k_is); (case l => k_is); (case c => k_is); (case k => k_is))
      (case d__law_part => refine' ⟨_, Z.dfq_mk Z.bn__law_part ?a ?l ?c ?k⟩; (case a => k_is); (case l => k_is); (case c => k_is); (case k => k_is))
      (case d__law_at => refine' ⟨_, Z.dfq_mk Z.bn__law_at ?a ?l ?c ?k⟩; (case a => k_is); (case l => k_is); (case c => k_is); (case k => k_is))
      (case d__law_same => refine' ⟨_, Z.dfq_mk Z.bn__law_same ?a ?l ?c ?k⟩; (case a => k_is); (case l => k_is); (case c => k_is); (case k => k_is))
      (case d__law_bits => refine' ⟨_, Z.dfq_mk Z.bn__law_bits ?a ?l ?c ?k⟩; (case a => k_is); (case l => k_is); (case c => k_is); (case k => k_is))
      (case d__law_lists => refine' ⟨_, Z.dfq_mk Z.bn__law_lists ?a ?l ?c ?k⟩; (case a => k_is); (case l => k_is); (case c => k_is); (case k => k_is))
      (case d__law_right => refine' ⟨_, Z.dfq_mk Z.bn__law_right ?a ?l ?c ?k⟩; (case a => k_is); (case l => k_is); (case c => k_is); (case k => k_is))
      (case d__law_twos => refine' ⟨_, Z.dfq_mk Z.bn__law_twos ?a ?l ?c ?k⟩; (case a => k_is); (case l => k_is); (case c => k_is); (case k => k_is))
      (case d__law_great_right => refine' ⟨_, Z.dfq_mk Z.bn__law_great_right ?a ?l ?c ?k⟩; (case a => k_is); (case l => k_is); (case c => k_is); (case k => k_is))
      (case d_law => refine' ⟨_, Z.dfq_mk Z.bn_law ?a ?l ?c ?k⟩; (case a => k_is); (case l => k_is); (case c => k_is); (case k => k_is))
      (case m_bool => k_is)
      (case m_int => k_is)
      (case m_isinstance => k_is)
      (case m_len => k_is)
      (case m_list => k_is)
      (case m_max => k_is)
      (case m_min => k_is)
      (case m_range => k_is)
      (case m_repr => k_is)
      (case m_set => k_is)
      (case m_sorted => k_is)
      (case m_sum => k_is)
      (case m_tuple => k_is)
      (case m_zip => k_is)
      (case g_MOST_WIDTH => refine' ⟨_, Eq.trans ?g ?h⟩; (case g => k_is); (case h => exact rfl))
