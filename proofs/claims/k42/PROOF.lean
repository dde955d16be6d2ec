import PyProof.Rows.All
import PyProof.EqLayable
import KE.SortData
import PyProof.ReprReads
import HandS.ForMost
import HandS.ForExc
import HandS.Wide
import HandS.Defaults
import HandS.Style
import HandS.TupAny
import HandS.Deep
import PyProof.Rows.SortShellAny
import HandS.IsInst
import HandS.Conv
import HandS.WideBits
import HandS.RaiseMore
import PyProof.ReprRoads
import HandS.Flow
import HandS.NoneIn
import PyProof.LongRange
import PyProof.ListRange
import HandS.Dict
import HandS.Small
import HandS.TupLen
import HandS.DictComp
import KE.KDictZip
import HandS.SetFor
import HandS.Strs
import KE.KExcSuper
import KE.KSuper
import HandS.Exc
import HandS.Ends
import HandS.ExcInit
import HandS.TryMany
import KE.KDictItemsList
import HandS.ListItems
import KE.KMinBuiltin
import PySem.Challenge.RW_anyplaces_k42_whole_distance_of_neighbou
set_option autoImplicit false
set_option linter.all false
set_option Elab.async false
set_option maxRecDepth 100000
/-! ZA: data as trees, a small language, its evaluator. No machine in sight. -/
namespace Z
open PySem (Str Operator CmpOp)
abbrev Ky := Sum Int Str
inductive D where
  | non
  | bl (b : Bool)
  | int (i : Int)
  | str (s : Str)
  | lst (l : List D)
  | tup (l : List D)
  | dct (ks : List Ky) (vs : List D)
  /-- a dict of tuples; its values are all True -/
  | dts (ks : List (List Ky))
  /-- a dict of tuples with any values -/
  | dtv (ks : List (List Ky)) (vs : List D)
  | fn (f : Nat)
  | exn (c : Nat) (v : D)
  | scr (l : List Int)
instance : Inhabited D := ⟨.non⟩
inductive Sl where
  | no
  | sh (d : D)
  | ow (d : D)
  | io (d : D)
abbrev En := List Sl
inductive Val where
  | sh (d : D)
  | ow (d : D)
def Val.d : Val → D
  | .sh d => d
  | .ow d => d
def Val.sl : Val → Sl
  | .sh d => .sh d
  | .ow d => .ow d
def Sl.d? : Sl → Option D
  | .no => none
  | .sh d => some d
  | .ow d => some d
  | .io d => some d
@[simp] theorem Val.d_sh (d : D) : (Val.sh d).d = d := rfl
@[simp] theorem Val.d_ow (d : D) : (Val.ow d).d = d := rfl
@[simp] theorem Val.sl_sh (d : D) : (Val.sh d).sl = .sh d := rfl
@[simp] theorem Val.sl_ow (d : D) : (Val.ow d).sl = .ow d := rfl
/-- an outcome: a value and the slots; an error of a class, with its value; nothing known -/
inductive R (A : Type) where
  | ok (a : A) (r : En)
  | exc (c : Nat) (v : D) (r : En)
  | bad
def R.bind {A B : Type} (x : R A) (f : A → En → R B) : R B :=
  match x with
  | .ok a r => f a r
  | .exc c v r => .exc c v r
  | .bad => .bad
@[simp] theorem R.bind_ok {A B : Type} (a : A) (r : En) (f : A → En → R B) : (R.ok a r).bind f = f a r := rfl
@[simp] theorem R.bind_exc {A B : Type} (c : Nat) (v : D) (r : En) (f : A → En → R B) : (R.exc c v r).bind f = .exc c v r := rfl
@[simp] theorem R.bind_bad {A B : Type} (f : A → En → R B) : (R.bad : R A).bind f = .bad := rfl
def R.of {A : Type} (x : Option A) (r : En) : R A :=
  match x with
  | some a => .ok a r
  | none => .bad
@[simp] theorem R.of_some {A : Type} (a : A) (r : En) : R.of (some a) r = .ok a r := rfl
@[simp] theorem R.of_none {A : Type} (r : En) : R.of (none : Option A) r = .bad := rfl
/-! ### equality, truth, kinds -/
mutual
def eqv : D → D → Bool
  | .non, .non => true
  | .bl a, .bl b => a == b
  | .bl a, .int j => (if a then 1 else 0) == j
  | .int i, .bl b => i == (if b then 1 else 0)
  | .int i, .int j => i == j
  | .str x, .str y => x == y
  | .lst xs, .lst ys => eqvs xs ys
  | .tup xs, .tup ys => eqvs xs ys
  | _, _ => false
def eqvs : List D → List D → Bool
  | [], [] => true
  | x :: xs, y :: ys => eqv x y && eqvs xs ys
  | _, _ => false
end
mutual
def lay : D → Bool
  | .non => true
  | .bl _ => true
  | .int _ => true
  | .str x => PySem.PyData.strOk x
  | .lst xs => lays xs
  | .tup xs => lays xs
  | _ => false
def lays : List D → Bool
  | [] => true
  | x :: xs => lay x && lays xs
end
mutual
def dep : D → Nat
  | .lst xs => deps xs + 1
  | .tup xs => deps xs + 1
  | _ => 0
def deps : List D → Nat
  | [] => 0
  | x :: xs => max (dep x) (deps xs)
end
/-- what == may be asked of -/
def okq (d : D) : Bool := lay d && decide (dep d ≤ 64)
def flat : D → Bool
  | .non => true
  | .bl _ => true
  | .int _ => true
  | .str _ => true
  | _ => false
def LINE : Nat := 16777216
def tru : D → Option Bool
  | .non => some false
  | .bl b => some b
  | .int i => some (i != 0)
  | .str s => if s.length ≤ LINE then some (s.length != 0) else none
  | .lst l => some (!l.isEmpty)
  | .tup l => some (!l.isEmpty)
  | .dct ks _ => some (!ks.isEmpty)
  | _ => none
/-! ### operators -/
def bits (i : Int) : Nat := i.natAbs.log2 + 1
def binI (op : Operator) (i j : Int) : Option Int :=
  match op with
  | .Add => some (i + j)
  | .Sub => some (i - j)
  | .Mult => if bits i + bits j ≤ 1000000 then some (i * j) else none
  | .FloorDiv => if 0 < j ∧ bits j ≤ 9000 then some (i / j) else none
  | .Mod => if 0 < j then some (i % j) else none
  | .Pow => if 0 ≤ j ∧ bits i * j.toNat ≤ 1000000 then some (i ^ j.toNat) else none
  | .LShift => if 0 ≤ j ∧ bits i + j.toNat ≤ 1000000 then some (i * 2 ^ j.toNat) else none
  | .RShift => if 0 ≤ j then some (i / 2 ^ j.toNat) else none
  | .BitAnd => some (PySem.Builtin.bitAnd i j)
  | .BitOr => some (PySem.Builtin.bitOr i j)
  | .BitXor => some (PySem.Builtin.bitXor i j)
  | _ => none
def binD (op : Operator) (a b : D) : Option Val :=
  match a, b with
  | .int i, .int j => (binI op i j).map fun k => .sh (.int k)
  | .str x, .str y => match op with
    | .Add => if x.length + y.length ≤ LINE then some (.sh (.str (x ++ y))) else none
    | _ => none
  | .lst x, .lst y => match op with
    | .Add => if x.length + y.length ≤ LINE then some (.ow (.lst (x ++ y))) else none
    | _ => none
  | .lst x, .int n => match op with
    | .Mult => if n.natAbs ≤ LINE ∧ x.length * n.toNat ≤ LINE then some (.ow (.lst (List.replicate n.toNat x).flatten)) else none
    | _ => none
  | .tup x, .tup y => match op with
    | .Add => if x.length + y.length ≤ LINE then some (.sh (.tup (x ++ y))) else none
    | _ => none
  | _, _ => none
def ordI (op : CmpOp) (i j : Int) : Option Bool :=
  match op with
  | .Lt => some (decide (i < j))
  | .LtE => some (decide (i ≤ j))
  | .Gt => some (decide (j < i))
  | .GtE => some (decide (j ≤ i))
  | _ => none
def isD (a b : D) : Option Bool :=
  match b with
  | .non => some (match a with | .non => true | _ => false)
  | .bl k => match a with
    | .bl c => some (c == k)
    | _ => none
  | _ => none
def inD (a b : D) : Option Bool :=
  match b with
  | .lst xs => if flat a && xs.all flat then some (xs.any fun x => eqv x a) else if okq a && okq (.lst xs) then some (xs.any fun x => eqv x a) else none
  | .tup xs => if flat a && xs.all flat then some (xs.any fun x => eqv x a) else none
  | _ => none
mutual
def pyT : D → PySem.PyData
  | .non => .none
  | .bl b => .bool b
  | .int i => .int i
  | .str s => .str s
  | .lst l => .list (pyTs l)
  | .tup l => .tuple (pyTs l)
  | _ => .none
def pyTs : List D → List PySem.PyData
  | [] => []
  | d :: ds => pyT d :: pyTs ds
end
/-- lists of one kind, in order -/
def ltq (a b : D) : Option Bool :=
  match a, b with
  | .lst _, .lst _ => if okq a && okq b && PySem.W.alike (pyT a) (pyT b) then some (PySem.W.dataLt (pyT a) (pyT b)) else none
  | _, _ => none
/-- a list of any things beside an empty one -/
def nilq (a b : D) : Option Bool :=
  match a, b with
  | .lst (_ :: _), .lst [] => some false
  | _, _ => none
def cmpD (op : CmpOp) (a b : D) : Option Bool :=
  match op with
  | .Eq => if okq a && okq b then some (eqv a b) else nilq a b
  | .NotEq => if okq a && okq b then some (!eqv a b) else (nilq a b).map (!·)
  | .Is => isD a b
  | .IsNot => (isD a b).map (!·)
  | .In => inD a b
  | .NotIn => (inD a b).map (!·)
  | .Lt => match a, b with
    | .int i, .int j => ordI .Lt i j
    | .lst x, .lst y => ltq (.lst x) (.lst y)
    | _, _ => none
  | op => match a, b with
    | .int i, .int j => ordI op i j
    | _, _ => none
/-! ### places in lists -/
def ixN (n : Nat) (i : Int) : Option Nat := if 0 ≤ i then (if i < n then some i.toNat else none) else if -(n : Int) ≤ i then some (i + n).toNat else none
def atL (l : List D) (i : Int) : Option D := (ixN l.length i).bind fun j => l[j]?
def idxD (a i : D) : Option D :=
  match i with
  | .int k => match a with
    | .lst l => atL l k
    | .tup l => atL l k
    | .scr l => ((ixN l.length k).bind fun j => l[j]?).map D.int
    | _ => none
  | _ => none
/-- a bound of a slice: n where it is left out is d -/
def sIx (n d : Nat) : Option Int → Nat
  | none => d
  | some v => if v < 0 then (v + (n : Int)).toNat else min v.toNat n
def cut {A : Type} (l : List A) (lo hi : Option Int) : List A := (l.drop (sIx l.length 0 lo)).take (sIx l.length l.length hi - sIx l.length 0 lo)
def part? : D → Option (Option Int)
  | .non => some none
  | .int i => some (some i)
  | _ => none
def slcD (a lo hi : D) : Option Val :=
  match part? lo, part? hi with
  | some l, some h => match a with
    | .lst xs => some (.ow (.lst (cut xs l h)))
    | .scr xs => some (.ow (.lst ((cut xs l h).map .int)))
    | _ => none
  | _, _ => none
def revD (a : D) : Option Val :=
  match a with
  | .lst xs => some (.ow (.lst xs.reverse))
  | _ => none
/-! ### built-in functions -/
def intsD : List D → Option (List Int)
  | [] => some []
  | .int i :: r => (intsD r).map (i :: ·)
  | _ => none
def minI : List Int → Option Int
  | [] => none
  | x :: r => some (r.foldl min x)
def maxI : List Int → Option Int
  | [] => none
  | x :: r => some (r.foldl max x)
def sortI (l : List Int) : List Int := l.mergeSort (fun a b => decide (a ≤ b))
def rangeN (lo hi st : Int) : Nat := if st = 1 then (hi - lo).toNat else if st = -1 then (lo - hi).toNat else if 0 < st then ((hi - lo + st - 1) / st).toNat else ((lo - hi + (-st) - 1) / (-st)).toNat
def rangeI (lo hi st : Int) : List Int := (List.range (rangeN lo hi st)).map fun (k : Nat) => lo + k * st
inductive BI where
  | len | sum | sorted | min | max | abs | int | list | tuple | repr | bool | lrange | set | dict | str | minl
def lenD : D → Option Nat
  | .lst l => some l.length
  | .tup l => some l.length
  | .dct ks _ => some ks.length
  | .scr l => some l.length
  | .str s => if s.length ≤ LINE then some s.length else none
  | _ => none
def seqD : D → Option (List D)
  | .lst l => some l
  | .tup l => some l
  | _ => none
def reprD (d : D) : Option Str := if okq d && (pyT d).showable && decide ((pyT d).shown.length ≤ LINE) then some (pyT d).shown else none
def lenF : List D → Option Val
  | [d] => (lenD d).map fun n => .sh (.int n)
  | _ => none
def sumF : List D → Option Val
  | [.lst l] => (intsD l).map fun ns => .sh (.int ns.sum)
  | _ => none
def tupn : D → Bool
  | .tup (_ :: _) => true
  | _ => false
def othr : D → Bool
  | .non => false
  | .tup _ => false
  | _ => true
/-- things of one kind that can be sorted -/
def srtOk (l : List D) : Bool := okq (.lst l) && (l.all fun a => l.all fun b => PySem.W.alike (pyT a) (pyT b)) && (l.all tupn || l.all othr)
def sortF : List D → Option Val
  | [.lst l] => match intsD l with
    | some ns => some (.ow (.lst ((sortI ns).map .int)))
    | none => if srtOk l = true then some (.ow (.lst (l.mergeSort (PySem.W.dataLe false pyT)))) else none
  | _ => none
/-- each once -/
def nubI : List Int → List Int
  | [] => []
  | x :: l => if x ∈ l then nubI l else x :: nubI l
def sdI (ns : List Int) : List Int := sortI (nubI ns)
def srsD : D → Option Val
  | .lst l => (intsD l).bind fun ns => if ns.length ≤ 200 then some (.ow (.lst ((sdI ns).map .int))) else none
  | _ => none
def minF : List D → Option Val
  | [.lst l] => (intsD l).bind fun ns => (minI ns).map fun m => .sh (.int m)
  | [.int i, .int j] => some (.sh (.int (if j < i then j else i)))
  | _ => none
def maxF : List D → Option Val
  | [.lst l] => (intsD l).bind fun ns => (maxI ns).map fun m => .sh (.int m)
  | [.int i, .int j] => some (.sh (.int (if j > i then j else i)))
  | _ => none
def absF : List D → Option Val
  | [.int i] => some (.sh (.int (if i < 0 then -i else i)))
  | _ => none
def intF : List D → Option Val
  | [.int i] => some (.sh (.int i))
  | [.bl b] => some (.sh (.int (if b then 1 else 0)))
  | _ => none
def listF : List D → Option Val
  | [d] => (seqD d).map fun l => .ow (.lst l)
  | _ => none
def tupleF : List D → Option Val
  | [.lst l] => some (.sh (.tup l))
  | _ => none
def reprF : List D → Option Val
  | [d] => (reprD d).map fun s => .sh (.str s)
  | _ => none
/-- without a subtraction from a power of two: so no test runs away -/
def sm62 (i : Int) : Bool := Nat.ble i.natAbs 4000000000000000000
theorem sm62_iff {i : Int} : sm62 i = true ↔ -(2 ^ 62) ≤ i ∧ i < 2 ^ 62 ∧ i.natAbs ≤ 4000000000000000000 := by
  unfold sm62
  rw [Nat.ble_eq]
  omega
def rgOk (a b : Int) : Bool := decide ((b - a).toNat ≤ 1048576)
def lrangeF : List D → Option Val
  | [.int n] => if rgOk 0 n then some (.ow (.lst ((rangeI 0 n 1).map .int))) else none
  | [.int a, .int b] => if rgOk a b then some (.ow (.lst ((rangeI a b 1).map .int))) else none
  | _ => none
/-- pairs of a number and a thing -/
def pairsD : List D → Option (List (Int × D))
  | [] => some []
  | .tup [.int i, d] :: r => (pairsD r).map ((i, d) :: ·)
  | _ => none
def dictF : List D → Option Val
  | [.lst l] => (pairsD l).bind fun ps => if decide (ps.map (·.1)).Nodup = true then some (.ow (.dct (ps.map fun p => .inl p.1) (ps.map (·.2)))) else none
  | _ => none
/-- lists, as lists -/
def llD : List D → Option (List (List D))
  | [] => some []
  | .lst l :: r => (llD r).map (l :: ·)
  | _ => none
/-- the first one of the shortest -/
def minLL : List (List D) → List D → List D
  | [], b => b
  | x :: r, b => minLL r (if x.length < b.length then x else b)
def minlF : List D → Option Val
  | [.lst l] => match llD l with
    | some (b :: r) => some (.sh (.lst (minLL r b)))
    | _ => none
  | _ => none
def biD (b : BI) (ds : List D) : Option Val :=
  match b with
  | .len => lenF ds
  | .sum => sumF ds
  | .sorted => sortF ds
  | .min => minF ds
  | .max => maxF ds
  | .abs => absF ds
  | .int => intF ds
  | .list => listF ds
  | .tuple => tupleF ds
  | .repr => reprF ds
  | .lrange => lrangeF ds
  | .dict => dictF ds
  | .minl => minlF ds
  | _ => none
inductive Ty where
  | int | bool | str | list | tuple | dict | cls (c : Nat)
def isiD (d : D) (t : Ty) : Option Bool :=
  match t, d with
  | .cls _, _ => none
  | _, .fn _ => none
  | _, .exn _ _ => none
  | _, .scr _ => none
  | _, .dts _ => none
  | _, .dtv _ _ => none
  | .int, .int _ => some true
  | .int, .bl _ => some true
  | .bool, .bl _ => some true
  | .str, .str _ => some true
  | .list, .lst _ => some true
  | .tuple, .tup _ => some true
  | .dict, .dct _ _ => some true
  | _, _ => some false
inductive MT where
  | index | bitlen | count
def indexD (x : D) (l : List D) : Option Nat := (List.range l.length).find? fun k => match l[k]? with | some y => eqv y x | none => false
def mtD (m : MT) (o : D) (ds : List D) : Option D :=
  match m, o, ds with
  | .index, .lst l, [x] => if flat x && l.all flat then (indexD x l).map fun k => .int k else none
  | .bitlen, .int i, [] => some (.int (PySem.Builtin.Int.intBits i))
  | _, _, _ => none
inductive MU where
  | append | pop | popAt | reverse | remove
/-- a method that changes: the new thing, what it hands back -/
def muD (m : MU) (o : D) (ds : List D) : Option (D × D) :=
  match m, o, ds with
  | .append, .lst l, [x] => if l.length < LINE then some (.lst (l ++ [x]), .non) else none
  | .pop, .lst l, [] => (l[l.length - 1]?).map fun y => (.lst l.dropLast, y)
  | .popAt, .lst l, [.int i] => if l.length ≤ LINE then (ixN l.length i).bind fun k => (l[k]?).map fun y => (.lst (l.eraseIdx k), y) else none
  | .reverse, .lst l, [] => some (.lst l.reverse, .non)
  | .remove, .lst l, [.int k] => (intsD l).bind fun ns => if k ∈ ns then some (.lst ((ns.eraseIdx (ns.idxOf k)).map .int), .non) else none
  | _, _, _ => none
def setD (o i v : D) : Option D :=
  match o, i with
  | .lst l, .int k => (ixN l.length k).map fun j => .lst (l.set j v)
  | _, _ => none
def keyD : D → Option Ky
  | .int i => some (.inl i)
  | .str s => some (.inr s)
  | _ => none
def keysD : List D → Option (List Ky)
  | [] => some []
  | d :: ds => (keyD d).bind fun k => (keysD ds).map (k :: ·)
/-- the value of a key -/
def dtvGet : List (List Ky) → List D → List Ky → Option D
  | x :: ks, v :: vs, k => if x = k then some v else dtvGet ks vs k
  | _, _, _ => none
/-- the values, that of a key anew -/
def dtvSet : List (List Ky) → List D → List Ky → D → List D
  | x :: ks, y :: vs, k, v => (if x = k then v else y) :: dtvSet ks vs k v
  | _, _, _, _ => []
/-- a dict of tuples gets one -/
def dputD (o k v : D) : Option D :=
  match o, k, v with
  | .dts ks, .tup l, .bl true => if ks.length < 100000 then (keysD l).map fun k => .dts (if (ks.any fun x => decide (x = k)) = true then ks else ks ++ [k]) else none
  | .dtv ks vs, .tup l, v => if ks.length < 100000 then (keysD l).map fun k => if (ks.any fun x => decide (x = k)) = true then .dtv ks (dtvSet ks vs k v) else .dtv (ks ++ [k]) (vs ++ [v]) else none
  | _, _, _ => none
/-! ### the language -/
inductive Tg where
  | v (i : Nat)
  | t (ts : List Tg)
mutual
inductive E where
  | var (i : Nat)
  | con (d : D)
  | neg (a : E)
  | not (a : E)
  | bin (op : Operator) (a b : E)
  | cmp (op : CmpOp) (a b : E)
  | chn (op op' : CmpOp) (a b c : E)
  | and (a b : E)
  | or (a b : E)
  | ite (c : T) (a b : E)
  | lst (es : List E)
  | tup (es : List E)
  | idx (a i : E)
  | slc (a lo hi : E)
  | rev (a : E)
  | lc (elt : E) (t : Tg) (it : I) (ifs : List T) (own : List Nat)
  /-- sorted(set(xs)) -/
  | srs (a : E)
  | lc2 (elt : E) (t : Tg) (it : I) (ifs : List T) (t1 : Tg) (it1 : I) (ifs1 : List T) (own own1 : List Nat)
  | call (f : Nat) (es : List E) (perm : List Nat) (dfl : List D)
  | callO (f : Nat) (es : List E)
  /-- a def that may raise -/
  | callX (f : Nat) (es : List E)
  /-- list(zip(.., ..)) -/
  | lzp (es : List E)
  /-- list(x.items()) of a dict of numbers -/
  | dit (i : Nat)
  /-- k in x, or not in x, of a dict of numbers -/
  | kin (neg : Bool) (k : E) (i : Nat)
  /-- {} that will hold tuples -/
  | dnt
  /-- {} that will hold tuples with values -/
  | dtn
  /-- x.get(tuple, other) -/
  | dtg (i : Nat) (k d : E)
  /-- len of a dict of tuples -/
  | dlen (i : Nat)
  /-- {} -/
  | dk0
  /-- list(x) of a dict of tuples -/
  | dls (i : Nat)
  /-- {x: y for x, y in ..} of plain names -/
  | dcz (i j : Nat) (it : I)
  /-- dict(zip(.., .., strict=True)) -/
  | dzp (es : List E)
  /-- x[k] of a dict of numbers -/
  | dget (i : Nat) (k : E)
  /-- tuple in x, or not in x, of a dict of tuples -/
  | din (neg : Bool) (k : E) (i : Nat)
  | callN (f : Nat) (e : E) (es : List E)
  /-- f(.., new): the last argument is a new thing, changed by the def and then let go -/
  | callE (f : Nat) (es : List E) (e : E)
  /-- tuple in x, or not in x, of one's own dict of tuples with any values -/
  | dvi (neg : Bool) (k : E) (i : Nat)
  /-- x[tuple] of one's own dict of tuples with any values -/
  | dvg (i : Nat) (k : E)
  | bi (b : BI) (es : List E)
  | mth (m : MT) (o : E) (es : List E)
  | bits (o : E)
  | mut (m : MU) (i : Nat) (es : List E)
  | isi (e : E) (t : Ty)
  /-- names that are only looked at stay one's own -/
  | keep (e : E)
/-- a test -/
inductive T where
  | val (e : E)
  | not (t : T)
  | and (a b : T)
  | or (a b : T)
  | ite (c a b : T)
/-- what is walked -/
inductive I where
  | e (e : E)
  | rng1 (a : E)
  | rng2 (a b : E)
  | rng3 (a b c : E)
  | enm (a : E)
  | zip (strict : Bool) (es : List E)
  | rvd (a : E)
  /-- zip(.., strict=True) that was stored ahead under the name of slot i -/
  | zv (i : Nat) (es : List E)
  /-- the keys of a dict of tuples, which is given up -/
  | dk (i : Nat)
end
inductive S where
  | asg (t : Tg) (e : E)
  | par (ts : List Nat) (es : List E)
  | aug (i : Nat) (op : Operator) (e : E)
  | seti (i : Nat) (x e : E)
  | ex (e : E)
  | ret (e : E)
  | retN
  | ite (c : T) (a b : List S)
  | for_ (t : Tg) (it : I) (b : List S)
  /-- one's own list of numbers walked; it stays one's own -/
  | forO (t : Tg) (i : Nat) (b : List S)
  /-- one's own list of tuples, numbered and walked, stays one's own -/
  | forE (t : Tg) (i : Nat) (b : List S)
  | whl (c : T) (b : List S)
  | brk
  | cnt
  | pass
  | rse (c : Nat) (es : List E)
  | nev
  /-- x[tuple] = True -/
  | dput (i : Nat) (k v : E)
  /-- x[number] = v of a dict of numbers -/
  | kput (i : Nat) (k v : E)
  | try_ (b : List S) (c : Nat) (i : Option Nat) (h : List S)
/-- a def: which parameters are changed, how many names, the body -/
structure Df where
  modes : List Bool
  names : Nat
  body : List S
/-- what a call yields: its value, the changed parameters' things -/
inductive CR where
  | ok (v : Val) (outs : List D)
  | exc (c : Nat) (v : D) (outs : List D)
  | bad
structure Cf where
  call : Nat → List D → CR
  modes : Nat → Option (List Bool)
  fuel : Nat
/-! ### slots -/
def En.rd (r : En) (i : Nat) : Option D := (r[i]?).bind Sl.d?
def En.put (r : En) (i : Nat) (v : Val) : Option En :=
  match r[i]? with
  | some (.io _) => none
  | some _ => some (r.set i v.sl)
  | none => none
/-- the thing that a slot owns, changed -/
def En.chg (r : En) (i : Nat) (d : D) : Option En :=
  match r[i]? with
  | some (.ow _) => some (r.set i (.ow d))
  | some (.io _) => some (r.set i (.io d))
  | _ => none
def En.own? (r : En) (i : Nat) : Option D :=
  match r[i]? with
  | some (.ow d) => some d
  | some (.io d) => some d
  | _ => none
def lstAt (r : En) (i : Nat) : Bool :=
  match r.own? i with
  | some (.lst _) => true
  | _ => false
def frz1 (r : En) (i : Nat) : Option En :=
  match r[i]? with
  | some (.ow d) => some (r.set i (.sh d))
  | some (.io _) => none
  | _ => some r
def frzs (r : En) : List Nat → Option En
  | [] => some r
  | i :: is => (frz1 r i).bind fun r1 => frzs r1 is
def wip (r : En) : List Nat → En
  | [] => r
  | i :: is => (wip r is).set i .no
/-- behind a comprehension: its own names as they were -/
def back (r0 r : En) : List Nat → En
  | [] => r
  | i :: is => (back r0 r is).set i (r0.getD i .no)
/-- a thing whose items are no things -/
def shal : D → Bool
  | .lst l => l.all flat
  | .dct _ vs => vs.all flat
  | .dts _ => true
  | _ => false
/-- a slot as it was, if what it owns is shallow -/
def thw1 (x y : Sl) : Option Sl :=
  match x, y with
  | .no, _ => some .no
  | .sh d, _ => some (.sh d)
  | .ow _, .ow d => if shal d then some (.ow d) else none
  | .ow _, .sh d => if shal d then some (.ow d) else none
  | .io _, .io d => if shal d then some (.io d) else none
  | _, _ => none
def thw : En → En → Option En
  | [], [] => some []
  | x :: xs, y :: ys => (thw1 x y).bind fun z => (thw xs ys).map (z :: ·)
  | _, _ => none
/-- a thing, or a tuple of no things -/
def tfl : D → Bool
  | .tup l => l.all flat
  | d => flat d
def shx : D → Bool
  | .lst l => l.all tfl
  | .dct _ vs => vs.all flat
  | .dts _ => true
  | _ => false
def thx1 (x y : Sl) : Option Sl :=
  match x, y with
  | .no, _ => some .no
  | .sh d, _ => some (.sh d)
  | .ow _, .ow d => if shx d then some (.ow d) else none
  | .ow _, .sh d => if shx d then some (.ow d) else none
  | .io _, .io d => if shx d then some (.io d) else none
  | _, _ => none
def thx : En → En → Option En
  | [], [] => some []
  | x :: xs, y :: ys => (thx1 x y).bind fun z => (thx xs ys).map (z :: ·)
  | _, _ => none
def kpV : Val → Bool
  | .sh d => tfl d
  | .ow d => shx d
/-- names that were only looked at are given back -/
def keepR (r : En) (v : Val) (r1 : En) : R Val :=
  if kpV v = true then (match thx r r1 with | some r2 => .ok v r2 | none => .bad) else .bad
/-- behind a comprehension of flat items: names that were only walked stay one's own -/
def thawL (r : En) (ds : List D) (rb : En) : R Val :=
  if ds.all flat = true then
    (match thw r rb with | some r2 => .ok (.ow (.lst ds)) r2 | none => .ok (.ow (.lst ds)) rb)
  else .ok (.ow (.lst ds)) rb
def ownFree (r : En) (l : List Nat) : Bool := l.all fun i => match r[i]? with | some (.io _) => false | some _ => true | none => false
mutual
/-- the slots of a target -/
def tgS : Tg → List Nat
  | .v i => [i]
  | .t ts => tgSs ts
def tgSs : List Tg → List Nat
  | [] => []
  | t :: ts => tgS t ++ tgSs ts
end
mutual
def bindT : Tg → D → En → Option En
  | .v i, d, r => r.put i (.sh d)
  | .t ts, d, r => match d with
    | .tup ds => bindTs ts ds r
    | .lst ds => bindTs ts ds r
    | _ => none
def bindTs : List Tg → List D → En → Option En
  | [], [], r => some r
  | t :: ts, d :: ds, r => (bindT t d r).bind fun r1 => bindTs ts ds r1
  | _, _, _ => none
end
def isVar : E → Option Nat
  | .var i => some i
  | _ => none
/-- borrowed names are read at the end -/
def res (r : En) : List (Nat ⊕ D) → Option (List D)
  | [] => some []
  | .inl i :: xs => (r.rd i).bind fun d => (res r xs).map (d :: ·)
  | .inr d :: xs => (res r xs).map (d :: ·)
def scal : D → Bool := flat
/-- arguments for a def: the changed ones must be owned names or new things -/
def argsOk (r : En) : List Bool → List (Nat ⊕ D) → Bool
  | [], [] => true
  | true :: ms, .inl i :: xs => (r.own? i).isSome && argsOk r ms xs
  | true :: _, .inr _ :: _ => false
  | false :: ms, _ :: xs => argsOk r ms xs
  | _, _ => false
def inouts : List Bool → List (Nat ⊕ D) → List Nat
  | true :: ms, .inl i :: xs => i :: inouts ms xs
  | _ :: ms, _ :: xs => inouts ms xs
  | _, _ => []
def plains : List Bool → List (Nat ⊕ D) → List Nat
  | false :: ms, .inl i :: xs => i :: plains ms xs
  | _ :: ms, _ :: xs => plains ms xs
  | _, _ => []
def chgs (r : En) : List Nat → List D → Option En
  | [], [] => some r
  | i :: is, d :: ds => (r.chg i d).bind fun r1 => chgs r1 is ds
  | _, _ => none
def apart (l m : List Nat) : Bool := decide l.Nodup && l.all fun i => !m.contains i
def permL {A : Type} (l : List A) : List Nat → Option (List A)
  | [] => some []
  | i :: is => (l[i]?).bind fun a => (permL l is).map (a :: ·)
/-- arguments in the order of the parameters; none given: as written -/
def permO (l : List (Nat ⊕ D)) (p : List Nat) : Option (List (Nat ⊕ D)) := if p.isEmpty = true then some l else permL l p
/-- behind a call: names that were only looked at stay one's own if the answer is no thing -/
def after (r : En) (ms : List Bool) (xs : List (Nat ⊕ D)) (c : CR) : R Val :=
  match frzs r (plains ms xs) with
  | none => .bad
  | some rf => match c with
    | .ok v outs => if scal v.d && outs.all shal then
        (match chgs r (inouts ms xs) outs with | some r1 => .ok v r1 | none => .bad)
      else (match chgs rf (inouts ms xs) outs with | some r1 => .ok v r1 | none => .bad)
    | _ => .bad
/-- a call whose first argument is a new thing, changed by the def and then let go -/
def callNR (ms : List Bool) (c : List D → CR) (d : D) (ys : List (Nat ⊕ D)) (r2 : En) : R Val :=
  match ms with
  | true :: ms => if ms.all (fun b => !b) && decide (ms.length = ys.length) then
      (match frzs r2 (plains ms ys), res r2 ys with
        | some rf, some ds => (match c (d :: ds) with | .ok q _ => .ok q rf | _ => .bad)
        | _, _ => .bad) else .bad
  | _ => .bad
/-- a call whose last argument is a new thing, changed by the def and then let go -/
def callER (ms : List Bool) (c : List D → CR) (ys : List (Nat ⊕ D)) (d : D) (r2 : En) : R Val :=
  if ms = (ys.map fun _ => false) ++ [true] then
    (match frzs r2 (plains (ys.map fun _ => false) ys), res r2 ys with
      | some rf, some ds => (match c (ds ++ [d]) with | .ok q _ => .ok q rf | _ => .bad)
      | _, _ => .bad) else .bad
/-- a call by its arguments -/
def callR (ms : List Bool) (c : List D → CR) (xs : List (Nat ⊕ D)) (r1 : En) : R Val :=
  if argsOk r1 ms xs && apart (inouts ms xs) (plains ms xs) && decide (ms.length = xs.length) then
    (match res r1 xs with
      | some ds => after r1 ms xs (c ds)
      | none => .bad) else .bad
/-- what is handed back is no thing that the caller holds -/
def keepV : Val → Bool
  | .sh d => flat d
  | .ow d => shal d
/-- a call whose looked-at arguments stay one's own, as the answer is no thing or a new list of no things -/
def callRO (ms : List Bool) (c : List D → CR) (xs : List (Nat ⊕ D)) (r1 : En) : R Val :=
  if argsOk r1 ms xs && apart (inouts ms xs) (plains ms xs) && decide (ms.length = xs.length) then
    (match res r1 xs with
      | some ds => match frzs r1 (plains ms xs) with
        | none => .bad
        | some _ => match c ds with
          | .ok v outs => if keepV v && outs.all shal then
              (match chgs r1 (inouts ms xs) outs with | some r2 => .ok v r2 | none => .bad) else .bad
          | _ => .bad
      | none => .bad) else .bad
/-- pairs of two lists that are as long -/
def lzpF : List D → Option Val
  | [.lst l, .lst m] => if l.length = m.length ∧ l.length ≤ 100000 then some (.ow (.lst (l.zipWith (fun x y => D.tup [x, y]) m))) else none
  | _ => none
def kyD : Ky → D
  | .inl i => .int i
  | .inr s => .str s
/-- the pairs of a dict -/
def kvD : List Ky → List D → List D
  | k :: ks, v :: vs => .tup [kyD k, v] :: kvD ks vs
  | _, _ => []
/-- the values, that of a number anew -/
def kSet : List Ky → List D → Ky → D → List D
  | x :: ks, y :: vs, k, v => (if x = k then v else y) :: kSet ks vs k v
  | _, _, _, _ => []
def kputD (o k v : D) : Option D :=
  match o, k with
  | .dct ks vs, .int n => if ks.length < 100000 then some (if ks.contains (.inl n) = true then .dct ks (kSet ks vs (.inl n) v) else .dct (ks ++ [.inl n]) (vs ++ [v])) else none
  | _, _ => none
/-- a call of a def that may raise -/
def callRX (ms : List Bool) (c : List D → CR) (xs : List (Nat ⊕ D)) (r1 : En) : R Val :=
  if argsOk r1 ms xs && apart (inouts ms xs) (plains ms xs) && decide (ms.length = xs.length) then
    (match res r1 xs with
      | some ds => match c ds with
        | .exc e v outs => (match frzs r1 (plains ms xs) with
          | some rf => (match chgs rf (inouts ms xs) outs with | some r2 => .exc e v r2 | none => .bad)
          | none => .bad)
        | y => after r1 ms xs y
      | none => .bad) else .bad
def enumD (l : List D) : List D := (List.range l.length).zipWith (fun (k : Nat) d => D.tup [.int k, d]) l
def zip2D (a b : List D) : List D := a.zipWith (fun x y => D.tup [x, y]) b
def zip3D : List D → List D → List D → List D
  | x :: xs, y :: ys, z :: zs => D.tup [x, y, z] :: zip3D xs ys zs
  | _, _, _ => []
/-- what is walked -/
def itemsD : D → Option (List D)
  | .lst l => some l
  | .tup l => some l
  | _ => none
def lstD : D → Option (List D)
  | .lst l => some l
  | _ => none
def rngD : List D → Option (List D)
  | [.int n] => if sm62 n then some ((rangeI 0 n 1).map .int) else none
  | [.int a, .int b] => if sm62 a && sm62 b then some ((rangeI a b 1).map .int) else none
  | [.int a, .int b, .int c] => if sm62 a && sm62 b && decide (c = -1) then some ((rangeI a b (-1)).map .int) else none
  | _ => none
def zipD (strict : Bool) : List D → Option (List D)
  | [a, b] => (lstD a).bind fun l => (lstD b).bind fun m => if !strict || l.length == m.length then some (zip2D l m) else none
  | [a, b, c] => (lstD a).bind fun l => (lstD b).bind fun m => (lstD c).bind fun n => if l.length == m.length && m.length == n.length then some (zip3D l m n) else none
  | _ => none
/-- within a comprehension no error is carried -/
def R.nox {A : Type} : R A → R A
  | .exc _ _ _ => .bad
  | x => x
@[simp] theorem R.nox_ok {A : Type} (a : A) (r : En) : (R.ok a r).nox = .ok a r := rfl
/-- a comprehension's outer turns: each adds to what is made -/
def lcA (f : D → List D → En → R (List D)) : List D → List D → En → R (List D)
  | [], acc, r => .ok acc r
  | x :: xs, acc, r => (f x acc r).nox.bind fun acc1 r1 => lcA f xs acc1 r1
def lcL (f : D → En → R (Option D)) : List D → List D → En → R (List D)
  | [], acc, r => .ok acc r
  | x :: xs, acc, r => (f x r).nox.bind fun o r1 => match o with
    | some y => if acc.length < LINE then lcL f xs (acc ++ [y]) r1 else .bad
    | none => lcL f xs acc r1
/-! ### evaluation -/
def tupK (k : List Ky) : D := .tup (k.map kyD)
/-- slots that hold nothing of their own -/
def noAt (r : En) (l : List Nat) : Bool := l.all fun i => match r[i]? with
  | some .no => true
  | some (.sh _) => true
  | _ => false
def dgetL : List Ky → List D → Int → Option D
  | k :: ks, d :: ds, n => if k = .inl n then some d else dgetL ks ds n
  | _, _, _ => none
/-- an argument: a name is only looked at -/
def bor (e : E) (f : En → R Val) (r : En) : R (Nat ⊕ D) :=
  match isVar e with
  | some i => if (r.rd i).isSome = true then .ok (.inl i) r else .bad
  | none => (f r).bind fun v r1 => .ok (.inr v.d) r1
def isNon : E → Bool
  | .con .non => true
  | _ => false
/-- an end of a slice -/
def por (e : E) (f : En → R Val) (r : En) : R (Nat ⊕ D) :=
  if isNon e then .ok (.inr .non) r else (bor e f r).bind fun x r1 => R.of (match res r1 [x] with | some [.int i] => some (.inr (.int i)) | _ => none) r1
def lstB (r : En) (x : Nat ⊕ D) : Bool :=
  match res r [x] with
  | some [.lst _] => true
  | _ => false
def op1 (f : D → Option Val) (x : Nat ⊕ D) (r : En) : R Val := R.of (match res r [x] with | some [a] => f a | _ => none) r
def op2 (f : D → D → Option Val) (x y : Nat ⊕ D) (r : En) : R Val := R.of (match res r [x, y] with | some [a, b] => f a b | _ => none) r
def op3 (f : D → D → D → Option Val) (x y z : Nat ⊕ D) (r : En) : R Val := R.of (match res r [x, y, z] with | some [a, b, c] => f a b c | _ => none) r
def opn (f : List D → Option Val) (xs : List (Nat ⊕ D)) (r : En) : R Val := R.of ((res r xs).bind f) r
def boolV (x : Option Bool) : Option Val := x.map fun k => .sh (.bl k)
mutual
def ev (C : Cf) : E → En → R Val
  | .var i, r => match r[i]? with
    | some (.sh d) => .ok (.sh d) r
    | some (.ow d) => .ok (.sh d) (r.set i (.sh d))
    | _ => .bad
  | .con d, r => .ok (.sh d) r
  | .neg a, r => (ev C a r).bind fun v r1 => match v.d with
    | .int i => .ok (.sh (.int (-i))) r1
    | _ => .bad
  | .not a, r => (bor a (fun r => ev C a r) r).bind fun x r1 => op1 (fun u => boolV ((tru u).map (!·))) x r1
  | .bin op a b, r => (bor a (fun r => ev C a r) r).bind fun x r1 => (bor b (fun r => ev C b r) r1).bind fun y r2 => op2 (binD op) x y r2
  | .cmp op a b, r => (bor a (fun r => ev C a r) r).bind fun x r1 => (bor b (fun r => ev C b r) r1).bind fun y r2 => op2 (fun u v => boolV (cmpD op u v)) x y r2
  | .chn op op' a b c, r => (bor a (fun r => ev C a r) r).bind fun x r1 => (bor b (fun r => ev C b r) r1).bind fun y r2 => (op2 (fun u v => boolV (cmpD op u v)) x y r2).bind fun q r3 => match q.d with
    | .bl true => (bor c (fun r => ev C c r) r3).bind fun z r4 => op2 (fun u v => boolV (cmpD op' u v)) y z r4
    | .bl false => .ok (.sh (.bl false)) r3
    | _ => .bad
  | .and a b, r => (ev C a r).bind fun x r1 => match tru x.d with
    | some true => (ev C b r1).bind fun y r2 => .ok (.sh y.d) r2
    | some false => .ok (.sh x.d) r1
    | none => .bad
  | .or a b, r => (ev C a r).bind fun x r1 => match tru x.d with
    | some false => (ev C b r1).bind fun y r2 => .ok (.sh y.d) r2
    | some true => .ok (.sh x.d) r1
    | none => .bad
  | .ite c a b, r => (evT C c r).bind fun k r1 => if k = true then ev C a r1 else ev C b r1
  | .lst es, r => (evs C es r).bind fun ds r1 => if ds.length ≤ LINE then .ok (.ow (.lst ds)) r1 else .bad
  | .tup es, r => (evs C es r).bind fun ds r1 => if ds.length ≤ LINE then .ok (.sh (.tup ds)) r1 else .bad
  | .idx a b, r => (bor a (fun r => ev C a r) r).bind fun x r1 => (bor b (fun r => ev C b r) r1).bind fun y r2 => op2 (fun u v => (idxD u v).map .sh) x y r2
  | .slc a lo hi, r => (bor a (fun r => ev C a r) r).bind fun x r1 => (por lo (fun r => ev C lo r) r1).bind fun y r2 => (por hi (fun r => ev C hi r) r2).bind fun z r3 => op3 slcD x y z r3
  | .rev a, r => (bor a (fun r => ev C a r) r).bind fun x r1 => op1 revD x r1
  | .lc elt t it ifs own, r => (evI C it r).bind fun l r1 => if ownFree r1 own && (tgS t).all own.contains then
      (lcL (fun x r2 => (R.of (bindT t x (wip r2 own)) r2).bind fun r3 _ => (evC C ifs r3).bind fun k r4 => if k = true then (ev C elt r4).bind fun v r5 => .ok (some v.d) r5 else .ok none r4) l [] (wip r1 own)).bind fun ds r6 =>
        thawL r ds (back r1 r6 own) else .bad
  | .srs a, r => (ev C a r).bind fun v r1 => R.of (srsD v.d) r1
  | .lc2 elt t it ifs t1 it1 ifs1 own own1, r => (evI C it r).bind fun l r1 => if ownFree r1 own && (tgS t).all own.contains && ((tgS t1).all own1.contains && own1.all own.contains) then
      (lcA (fun x acc r2 => (R.of (bindT t x (wip r2 own)) r2).bind fun r3 _ => (evC C ifs r3).bind fun k r4 => if k = true then
        (evI C it1 r4).bind fun l1 r5 => lcL (fun x r2 => (R.of (bindT t1 x (wip r2 own1)) r2).bind fun r3 _ => (evC C ifs1 r3).bind fun k r4 => if k = true then (ev C elt r4).bind fun v r5 => .ok (some v.d) r5 else .ok none r4) l1 acc r5 else .ok acc r4) l [] (wip r1 own)).bind fun ds r6 =>
        thawL r ds (back r1 r6 own) else .bad
  | .call f es perm dfl, r => (evA C es r).bind fun ys r1 => match permO (ys ++ dfl.map .inr) perm, C.modes f with
    | some xs, some ms => callR ms (C.call f) xs r1
    | _, _ => .bad
  | .dnt, r => .ok (.ow (.dts [])) r
  | .dtn, r => .ok (.ow (.dtv [] [])) r
  | .dtg i k d, r => match r[i]? with
    | some (.ow (.dtv _ _)) => (ev C k r).bind fun kv r1 => (ev C d r1).bind fun dv r2 => match r2[i]?, kv.d with
      | some (.ow (.dtv ks vs)), .tup l => (match keysD l with
        | some kk => .ok (.sh ((dtvGet ks vs kk).getD dv.d)) r2
        | none => .bad)
      | _, _ => .bad
    | _ => .bad
  | .dlen i, r => match r[i]? with
    | some (.ow (.dts ks)) => .ok (.sh (.int ks.length)) r
    | _ => .bad
  | .dk0, r => .ok (.ow (.dct [] [])) r
  | .dls i, r => match r[i]? with
    | some (.ow (.dts ks)) => .ok (.ow (.lst (ks.map tupK))) r
    | _ => .bad
  | .dcz i j it, r => (evI C it r).bind fun l r1 => if noAt r1 [i, j] && decide (i ≠ j) && decide (l.length ≤ 100000) then R.of (dictF [.lst l]) r1 else .bad
  | .dzp es, r => (evs C es r).bind fun ds r1 => R.of ((zipD true ds).bind fun l => dictF [.lst l]) r1
  | .dget i k, r => if (r.rd i).isSome = true then (ev C k r).bind fun v r1 => match r1.rd i, v.d with
    | some (.dct ks vs), .int n => R.of ((dgetL ks vs n).map .sh) r1
    | _, _ => .bad else .bad
  | .din neg k i, r => (ev C k r).bind fun v r1 => match r1[i]?, v.d with
    | some (.ow (.dts ks)), .tup l => (match keysD l with
      | some kk => .ok (.sh (.bl (xor neg (ks.any fun x => decide (x = kk))))) r1
      | none => .bad)
    | _, _ => .bad
  | .callO f es, r => (evA C es r).bind fun ys r1 => match C.modes f with
    | some ms => callRO ms (C.call f) ys r1
    | none => .bad
  | .callX f es, r => (evA C es r).bind fun ys r1 => match C.modes f with
    | some ms => callRX ms (C.call f) ys r1
    | none => .bad
  | .lzp es, r => (evs C es r).bind fun ds r1 => R.of (lzpF ds) r1
  | .dit i, r => match r.rd i with
    | some (.dct ks vs) => if (r[i]?.any fun x => match x with | .ow _ => true | .io _ => true | _ => false) = true then .ok (.ow (.lst (kvD ks vs))) r else .bad
    | _ => .bad
  | .kin neg k i, r => (ev C k r).bind fun v r1 => match r1.rd i, v.d with
    | some (.dct ks _), .int n => .ok (.sh (.bl (xor neg (ks.contains (.inl n))))) r1
    | _, _ => .bad
  | .callE f es e, r => (evA C es r).bind fun ys r1 => (ev C e r1).bind fun v r2 => match v, C.modes f with
    | .ow d, some ms => callER ms (C.call f) ys d r2
    | _, _ => .bad
  | .dvi neg k i, r => (ev C k r).bind fun v r1 => match r1.own? i, v.d with
    | some (.dtv ks _), .tup l => (match keysD l with
      | some kk => .ok (.sh (.bl (xor neg (ks.any fun x => decide (x = kk))))) r1
      | none => .bad)
    | _, _ => .bad
  | .dvg i k, r => if (r.own? i).isSome = true then (ev C k r).bind fun v r1 => match r1.own? i, v.d with
    | some (.dtv ks vs), .tup l => (match keysD l with
      | some kk => R.of ((dtvGet ks vs kk).map .sh) r1
      | none => .bad)
    | _, _ => .bad else .bad
  | .callN f e es, r => (ev C e r).bind fun v r1 => (evA C es r1).bind fun ys r2 => match v, C.modes f with
    | .ow d, some ms => callNR ms (C.call f) d ys r2
    | _, _ => .bad
  | .bi b es, r => (evA C es r).bind fun xs r1 => opn (biD b) xs r1
  | .bits o, r => (bor o (fun r => ev C o r) r).bind fun x r1 => op1 (fun d => (mtD .bitlen d []).map Val.sh) x r1
  | .mth m o es, r => (bor o (fun r => ev C o r) r).bind fun x r1 => if lstB r1 x = true then (evA C es r1).bind fun xs r2 => opn (fun l => match l with | d :: ds => (mtD m d ds).map Val.sh | [] => none) (x :: xs) r2 else .bad
  | .mut m i es, r => if lstAt r i then (evs C es r).bind fun ds r1 => (R.of ((r1.own? i).bind fun o => (muD m o ds).bind fun p => (r1.chg i p.1).map fun r2 => (Val.sh p.2, r2)) r1).bind (fun q _ => .ok q.1 q.2) else .bad
  | .keep e, r => (ev C e r).bind fun v r1 => keepR r v r1
  | .isi a t, r => (bor a (fun r => ev C a r) r).bind fun x r1 => op1 (fun u => boolV (isiD u t)) x r1
def evs (C : Cf) : List E → En → R (List D)
  | [], r => .ok [] r
  | e :: es, r => (ev C e r).bind fun v r1 => (evs C es r1).bind fun vs r2 => .ok (v.d :: vs) r2
def evA (C : Cf) : List E → En → R (List (Nat ⊕ D))
  | [], r => .ok [] r
  | e :: es, r => (bor e (fun r => ev C e r) r).bind fun x r1 => (evA C es r1).bind fun xs r2 => .ok (x :: xs) r2
def evT (C : Cf) : T → En → R Bool
  | .val e, r => (bor e (fun r => ev C e r) r).bind fun x r1 => R.of (match res r1 [x] with | some [a] => tru a | _ => none) r1
  | .not a, r => (evT C a r).bind fun b r1 => .ok (!b) r1
  | .and a b, r => (evT C a r).bind fun k r1 => if k = true then evT C b r1 else .ok false r1
  | .or a b, r => (evT C a r).bind fun k r1 => if k = true then .ok true r1 else evT C b r1
  | .ite c a b, r => (evT C c r).bind fun k r1 => if k = true then evT C a r1 else evT C b r1
def evC (C : Cf) : List T → En → R Bool
  | [], r => .ok true r
  | e :: es, r => (evT C e r).bind fun k r1 => if k = true then evC C es r1 else .ok false r1
def evI (C : Cf) : I → En → R (List D)
  | .e a, r => (ev C a r).bind fun v r1 => R.of (itemsD v.d) r1
  | .rng1 a, r => (bor a (fun r => ev C a r) r).bind fun x r1 => R.of (match res r1 [x] with | some [u] => rngD [u] | _ => none) r1
  | .rng2 a b, r => (bor a (fun r => ev C a r) r).bind fun x r1 => (bor b (fun r => ev C b r) r1).bind fun y r2 => R.of (match res r2 [x, y] with | some [u, v] => rngD [u, v] | _ => none) r2
  | .rng3 a b c, r => (bor a (fun r => ev C a r) r).bind fun x r1 => (bor b (fun r => ev C b r) r1).bind fun y r2 => (bor c (fun r => ev C c r) r2).bind fun z r3 => R.of (match res r3 [x, y, z] with | some [u, v, w] => rngD [u, v, w] | _ => none) r3
  | .enm a, r => (ev C a r).bind fun v r1 => R.of ((lstD v.d).map enumD) r1
  | .zip s es, r => (evs C es r).bind fun ds r1 => R.of (zipD s ds) r1
  | .rvd a, r => (ev C a r).bind fun v r1 => R.of ((lstD v.d).map List.reverse) r1
  | .zv i es, r => match r[i]? with
    | some .no => (evs C es r).bind fun ds r1 => R.of (zipD true ds) r1
    | _ => .bad
  | .dk i, r => match r[i]? with
    | some (.ow (.dts ks)) => .ok (ks.map tupK) (r.set i .no)
    | _ => .bad
end
/-- behind a statement -/
inductive O where
  | nx (r : En)
  | ret (v : Val) (r : En)
  | brk (r : En)
  | cnt (r : En)
  | exc (c : Nat) (v : D) (r : En)
  | bad
def R.run {A : Type} (x : R A) (f : A → En → O) : O :=
  match x with
  | .ok a r => f a r
  | .exc c v r => .exc c v r
  | .bad => .bad
@[simp] theorem R.run_ok {A : Type} (a : A) (r : En) (f : A → En → O) : (R.ok a r).run f = f a r := rfl
@[simp] theorem R.run_exc {A : Type} (c : Nat) (v : D) (r : En) (f : A → En → O) : (R.exc c v r).run f = .exc c v r := rfl
@[simp] theorem R.run_bad {A : Type} (f : A → En → O) : (R.bad : R A).run f = .bad := rfl
/-- where no error is carried -/
def O.nox : O → O
  | .exc _ _ _ => .bad
  | x => x
@[simp] theorem O.nox_nx (r : En) : (O.nx r).nox = .nx r := rfl
@[simp] theorem O.nox_ret (v : Val) (r : En) : (O.ret v r).nox = .ret v r := rfl
def O.of (x : Option En) : O :=
  match x with
  | some r => .nx r
  | none => .bad
def O.then (x : O) (f : En → O) : O :=
  match x with
  | .nx r => f r
  | x => x
/-- behind a loop's turn -/
def O.turn (x : O) (f : En → O) : O :=
  match x with
  | .nx r => f r
  | .cnt r => f r
  | .brk r => .nx r
  | x => x
@[simp] theorem O.of_some (r : En) : O.of (some r) = .nx r := rfl
@[simp] theorem O.of_none : O.of none = .bad := rfl
@[simp] theorem O.then_nx (r : En) (f : En → O) : (O.nx r).then f = f r := rfl
@[simp] theorem O.then_ret (v : Val) (r : En) (f : En → O) : (O.ret v r).then f = .ret v r := rfl
@[simp] theorem O.then_brk (r : En) (f : En → O) : (O.brk r).then f = .brk r := rfl
@[simp] theorem O.then_cnt (r : En) (f : En → O) : (O.cnt r).then f = .cnt r := rfl
@[simp] theorem O.then_exc (c : Nat) (v : D) (r : En) (f : En → O) : (O.exc c v r).then f = .exc c v r := rfl
@[simp] theorem O.turn_nx (r : En) (f : En → O) : (O.nx r).turn f = f r := rfl
@[simp] theorem O.turn_cnt (r : En) (f : En → O) : (O.cnt r).turn f = f r := rfl
@[simp] theorem O.turn_brk (r : En) (f : En → O) : (O.brk r).turn f = .nx r := rfl
@[simp] theorem O.turn_ret (v : Val) (r : En) (f : En → O) : (O.ret v r).turn f = .ret v r := rfl
@[simp] theorem O.turn_exc (c : Nat) (v : D) (r : En) (f : En → O) : (O.exc c v r).turn f = .exc c v r := rfl
def forL (f : D → En → O) : List D → En → O
  | [], r => .nx r
  | x :: xs, r => (f x r).turn fun r1 => forL f xs r1
def heldI (i : Nat) (ns : List Int) (r : En) : Bool :=
  match r[i]? with
  | some (.io (.lst es)) => decide (intsD es = some ns)
  | _ => false
def O.held (i : Nat) (ns : List Int) : O → O
  | .nx r => if heldI i ns r = true then .nx r else .bad
  | .cnt r => if heldI i ns r = true then .cnt r else .bad
  | .brk r => if heldI i ns r = true then .brk r else .bad
  | x => x
def fEq : D → D → Bool
  | .non, .non => true
  | .bl a, .bl b => a == b
  | .int a, .int b => decide (a = b)
  | _, _ => false
def fEqs : List D → List D → Bool
  | [], [] => true
  | x :: xs, y :: ys => fEq x y && fEqs xs ys
  | _, _ => false
def tEq : D → D → Bool
  | .tup a, .tup b => fEqs a b
  | a, b => fEq a b
def tEqs : List D → List D → Bool
  | [], [] => true
  | x :: xs, y :: ys => tEq x y && tEqs xs ys
  | _, _ => false
def heldE (i : Nat) (ds : List D) (r : En) : Bool := match r[i]? with
  | some (.io (.lst es)) => tEqs es ds
  | _ => false
def O.heldG (o : O) (p : En → Bool) : O := match o with
  | .nx r => if p r = true then .nx r else .bad
  | .cnt r => if p r = true then .cnt r else .bad
  | .brk r => if p r = true then .brk r else .bad
  | o => o
def forE (i : Nat) (f : D → En → O) (r : En) : O :=
  match r[i]? with
  | some (.ow (.lst ds)) => if tEqs ds ds = true then (forL (fun x r2 => (f x r2).heldG (heldE i ds)) (enumD ds) (r.set i (.io (.lst ds)))).then fun r1 => .nx (r1.set i (.ow (.lst ds))) else .bad
  | _ => .bad
def forO (i : Nat) (f : D → En → O) (r : En) : O :=
  match r[i]? with
  | some (.ow (.lst ds)) => match intsD ds with
    | some ns => (forL (fun x r2 => (f x r2).held i ns) ds (r.set i (.io (.lst ds)))).then fun r1 => .nx (r1.set i (.ow (.lst ds)))
    | none => .bad
  | _ => .bad
def whlL (c : En → R Bool) (b : En → O) : Nat → En → O
  | 0, _ => .bad
  | n + 1, r => (c r).run fun k r1 => if k = true then (b r1).turn fun r2 => whlL c b n r2 else .nx r1
def puts (r : En) : List Nat → List Val → Option En
  | [], [] => some r
  | i :: is, v :: vs => (r.put i v).bind fun r1 => puts r1 is vs
  | _, _ => none
def evV (C : Cf) : List E → En → R (List Val)
  | [], r => .ok [] r
  | e :: es, r => (ev C e r).bind fun v r1 => (evV C es r1).bind fun vs r2 => .ok (v :: vs) r2
def retV (C : Cf) (e : E) (r : En) : R Val :=
  match isVar e with
  | some i => match r[i]? with
    | some (.sh d) => .ok (.sh d) r
    | some (.ow d) => .ok (.ow d) r
    | _ => .bad
  | none => ev C e r
mutual
def xs (C : Cf) : List S → En → O
  | [], r => .nx r
  | s :: ss, r => (x1 C s r).then fun r1 => xs C ss r1
def x1 (C : Cf) : S → En → O
  | .asg t e, r => (ev C e r).run fun v r1 => match t with
    | .v i => O.of (r1.put i v)
    | .t ts => O.of (bindT (.t ts) v.d r1)
  | .par is es, r => (evV C es r).run fun vs r1 => if is.Nodup then O.of (puts r1 is vs) else .bad
  | .aug i op e, r => match r.rd i with
    | some (.int x) => (ev C e r).run fun v r1 => match v.d with
      | .int y => match binI op x y with
        | some z => O.of (r1.put i (.sh (.int z)))
        | none => .bad
      | _ => .bad
    | _ => .bad
  | .seti i x e, r => (ev C e r).run fun v r1 => if (r1.own? i).isSome = true then (ev C x r1).run fun k r2 => O.of ((r2.own? i).bind fun o => (setD o k.d v.d).bind fun d => r2.chg i d) else .bad
  | .ex e, r => (ev C e r).run fun _ r1 => .nx r1
  | .ret e, r => (retV C e r).run fun v r1 => .ret v r1
  | .retN, r => .ret (.sh .non) r
  | .ite c a b, r => (evT C c r).run fun k r1 => if k = true then xs C a r1 else xs C b r1
  | .for_ t it b, r => (evI C it r).run fun l r1 => forL (fun x r2 => (O.of (bindT t x r2)).then fun r3 => xs C b r3) l r1
  | .forE t i b, r => forE i (fun x r2 => (O.of (bindT t x r2)).then fun r3 => xs C b r3) r
  | .forO t i b, r => forO i (fun x r2 => (O.of (bindT t x r2)).then fun r3 => xs C b r3) r
  | .whl c b, r => whlL (evT C c) (xs C b) C.fuel r
  | .brk, r => .brk r
  | .cnt, r => .cnt r
  | .pass, r => .nx r
  | .nev, _ => .bad
  | .dput i a b, r => (ev C b r).run fun v r1 => if (r1.own? i).isSome = true then (ev C a r1).run fun k r2 => O.of ((r2.own? i).bind fun o => (dputD o k.d v.d).bind fun d => r2.chg i d) else .bad
  | .kput i a b, r => (ev C b r).run fun v r1 => if (r1.own? i).isSome = true then (ev C a r1).run fun k r2 => O.of ((r2.own? i).bind fun o => (kputD o k.d v.d).bind fun d => r2.chg i d) else .bad
  | .rse c es, r => (evs C es r).run fun ds r1 => match ds with
    | [d] => .exc c d r1
    | [] => .exc c .non r1
    | _ => .bad
  | .try_ b c none h, r => match xs C b r with
    | .exc c' _ r1 => if c' = c then (xs C h r1).nox else .bad
    | o => o
  | .try_ _ _ (some _) _, _ => .bad
end
def En.start (ms : List Bool) (n : Nat) (ds : List D) : En := (ms.zipWith (fun m d => if m then Sl.io d else Sl.sh d) ds) ++ List.replicate (n - ds.length) .no
def outsOf (r : En) : Nat → List Bool → Option (List D)
  | _, [] => some []
  | i, true :: ms => match r[i]? with
    | some (.io d) => (outsOf r (i + 1) ms).map (d :: ·)
    | _ => none
  | i, false :: ms => outsOf r (i + 1) ms
def O.cr (ms : List Bool) : O → CR
  | .nx r => match outsOf r 0 ms with | some l => .ok (.sh .non) l | none => .bad
  | .ret v r => match outsOf r 0 ms with | some l => .ok v l | none => .bad
  | .exc c v r => match outsOf r 0 ms with | some l => .exc c v l | none => .bad
  | _ => .bad
def callD (P : Nat → Option Df) (fuel : Nat) : Nat → Nat → List D → CR
  | 0, _, _ => .bad
  | k + 1, f, ds => match P f with
    | none => .bad
    | some df => if ds.length = df.modes.length ∧ ds.length ≤ df.names then
        (xs { call := callD P fuel k, modes := fun g => (P g).map (·.modes), fuel := fuel } df.body (En.start df.modes df.names ds)).cr df.modes
      else .bad
end Z
/-! ZB: how data trees lie in the tracked heap; slots; what a step may change. -/
namespace Z
open PySem PySem.Spec L2
open PyProof.Rows hiding St
/-- what a law's text fixes -/
structure Tb where
  P : Program
  w : World
  K : PySem.W.Frag
  mg : Str → Option Value
  base : Heap
  adr : Nat → Addr
abbrev Ext (H H' : Hp) : Prop := Same H H'
theorem sqL_ext {K : PySem.W.Frag} {H H' : Hp} {a : Addr} {xs : List V} (e : Ext H H') (h : SqL K H a xs) : SqL K H' a xs := e.seq h
mutual
def Rep (T : Tb) (H : Hp) : D → V → Prop
  | .non, v => v = .non
  | .bl b, v => v = .bl b
  | .int i, v => v = .int i
  | .str s, v => v = .str s
  | .lst ds, v => ∃ a xs, v = .ref a ∧ H a = some (.lst xs) ∧ Reps T H ds xs
  | .tup ds, v => ∃ a xs, v = .ref a ∧ H a = some (.tup xs) ∧ Reps T H ds xs
  | .dct ks ds, v => ∃ a kvs, v = .ref a ∧ H a = some (.dK kvs) ∧ kvs.map (·.1) = ks ∧ Reps T H ds (kvs.map (·.2))
  | .dts ks, v => ∃ a, v = .ref a ∧ H a = some (.dT (ks.map fun k => (k, V.bl true)))
  | .dtv ks ds, v => ∃ a kvs, v = .ref a ∧ H a = some (.dT kvs) ∧ kvs.map (·.1) = ks ∧ Reps T H ds (kvs.map (·.2))
  | .fn f, v => v = .ref (T.adr f)
  | .exn _ _, _ => False
  | .scr ns, v => ∃ a, v = .ref a ∧ SqL T.K H a (ns.map V.int)
def Reps (T : Tb) (H : Hp) : List D → List V → Prop
  | [], vs => vs = []
  | d :: ds, vs => ∃ v r, vs = v :: r ∧ Rep T H d v ∧ Reps T H ds r
end
mutual
theorem Rep.ext {T : Tb} {H H' : Hp} (e : Ext H H') : ∀ (d : D) (v : V), Rep T H d v → Rep T H' d v
  | .non, _, h => h
  | .bl _, _, h => h
  | .int _, _, h => h
  | .str _, _, h => h
  | .lst ds, v, h => by
    simp only [Rep] at h ⊢
    obtain ⟨a, xs, h1, h2, h3⟩ := h
    exact ⟨a, xs, h1, e _ _ h2, Reps.ext e ds xs h3⟩
  | .tup ds, v, h => by
    simp only [Rep] at h ⊢
    obtain ⟨a, xs, h1, h2, h3⟩ := h
    exact ⟨a, xs, h1, e _ _ h2, Reps.ext e ds xs h3⟩
  | .dct ks ds, v, h => by
    simp only [Rep] at h ⊢
    obtain ⟨a, kvs, h1, h2, h3, h4⟩ := h
    exact ⟨a, kvs, h1, e _ _ h2, h3, Reps.ext e ds _ h4⟩
  | .dts _, v, h => by
    simp only [Rep] at h ⊢
    obtain ⟨a, h1, h2⟩ := h
    exact ⟨a, h1, e _ _ h2⟩
  | .dtv ks ds, v, h => by
    simp only [Rep] at h ⊢
    obtain ⟨a, kvs, h1, h2, h3, h4⟩ := h
    exact ⟨a, kvs, h1, e _ _ h2, h3, Reps.ext e ds _ h4⟩
  | .fn _, _, h => h
  | .exn _ _, _, h => h
  | .scr _, v, h => by
    simp only [Rep] at h ⊢
    obtain ⟨a, h1, h2⟩ := h
    exact ⟨a, h1, sqL_ext e h2⟩
theorem Reps.ext {T : Tb} {H H' : Hp} (e : Ext H H') : ∀ (ds : List D) (vs : List V), Reps T H ds vs → Reps T H' ds vs
  | [], _, h => h
  | d :: ds, vs, h => by
    simp only [Reps] at h ⊢
    obtain ⟨v, r, h1, h2, h3⟩ := h
    exact ⟨v, r, h1, Rep.ext e d v h2, Reps.ext e ds r h3⟩
end
section
variable {T : Tb} {H : Hp}
theorem Reps.nil : Reps T H [] [] := by simp only [Reps]
theorem Reps.cons {d : D} {v : V} {ds : List D} {vs : List V} (h : Rep T H d v) (t : Reps T H ds vs) : Reps T H (d :: ds) (v :: vs) := by
  simp only [Reps]; exact ⟨v, vs, rfl, h, t⟩
theorem Reps.of_nil {vs : List V} (h : Reps T H [] vs) : vs = [] := by simpa only [Reps] using h
theorem Reps.of_cons {d : D} {ds : List D} {vs : List V} (h : Reps T H (d :: ds) vs) : ∃ v r, vs = v :: r ∧ Rep T H d v ∧ Reps T H ds r := by
  simpa only [Reps] using h
theorem Reps.length : ∀ {ds : List D} {vs : List V}, Reps T H ds vs → vs.length = ds.length
  | [], _, h => by rw [h.of_nil]; rfl
  | d :: ds, _, h => by
    obtain ⟨v, r, rfl, _, h2⟩ := h.of_cons
    simp [Reps.length h2]
theorem Reps.get : ∀ {ds : List D} {vs : List V} {i : Nat} {d : D}, Reps T H ds vs → ds[i]? = some d → ∃ v, vs[i]? = some v ∧ Rep T H d v
  | [], _, _, _, _, e => by simp at e
  | d :: ds, _, 0, d', h, e => by
    obtain ⟨v, r, rfl, h1, h2⟩ := h.of_cons
    simp at e; subst e
    exact ⟨v, by simp, h1⟩
  | d :: ds, _, i + 1, d', h, e => by
    obtain ⟨v, r, rfl, h1, h2⟩ := h.of_cons
    obtain ⟨u, e1, q⟩ := Reps.get (i := i) h2 (by simpa using e)
    exact ⟨u, by simpa using e1, q⟩
theorem Reps.append : ∀ {ds es : List D} {vs us : List V}, Reps T H ds vs → Reps T H es us → Reps T H (ds ++ es) (vs ++ us)
  | [], _, _, _, h, t => by rw [h.of_nil]; exact t
  | d :: ds, _, _, _, h, t => by
    obtain ⟨v, r, rfl, h1, h2⟩ := h.of_cons
    exact .cons h1 (Reps.append h2 t)
theorem Reps.take : ∀ {ds : List D} {vs : List V} (n : Nat), Reps T H ds vs → Reps T H (ds.take n) (vs.take n)
  | _, _, 0, _ => by simp; exact .nil
  | [], _, _ + 1, h => by rw [h.of_nil]; simp; exact .nil
  | d :: ds, _, n + 1, h => by
    obtain ⟨v, r, rfl, h1, h2⟩ := h.of_cons
    simpa using Reps.cons h1 (Reps.take n h2)
theorem Reps.drop : ∀ {ds : List D} {vs : List V} (n : Nat), Reps T H ds vs → Reps T H (ds.drop n) (vs.drop n)
  | _, _, 0, h => by simpa using h
  | [], _, _ + 1, h => by rw [h.of_nil]; simp; exact .nil
  | d :: ds, _, n + 1, h => by
    obtain ⟨v, r, rfl, h1, h2⟩ := h.of_cons
    simpa using Reps.drop n h2
theorem Reps.reverse : ∀ {ds : List D} {vs : List V}, Reps T H ds vs → Reps T H ds.reverse vs.reverse
  | [], _, h => by rw [h.of_nil]; simp; exact .nil
  | d :: ds, _, h => by
    obtain ⟨v, r, rfl, h1, h2⟩ := h.of_cons
    simpa using (Reps.reverse h2).append (.cons h1 .nil)
theorem Reps.set : ∀ {ds : List D} {vs : List V} {d : D} {v : V} (i : Nat), Reps T H ds vs → Rep T H d v → Reps T H (ds.set i d) (vs.set i v)
  | [], _, _, _, _, h, _ => by rw [h.of_nil]; simp; exact .nil
  | d :: ds, _, _, _, 0, h, q => by
    obtain ⟨v, r, rfl, h1, h2⟩ := h.of_cons
    simpa using Reps.cons q h2
  | d :: ds, _, _, _, i + 1, h, q => by
    obtain ⟨v, r, rfl, h1, h2⟩ := h.of_cons
    simpa using Reps.cons h1 (Reps.set i h2 q)
theorem Reps.eraseIdx : ∀ {ds : List D} {vs : List V} (i : Nat), Reps T H ds vs → Reps T H (ds.eraseIdx i) (vs.eraseIdx i)
  | [], _, _, h => by rw [h.of_nil]; simp; exact .nil
  | d :: ds, _, 0, h => by
    obtain ⟨v, r, rfl, h1, h2⟩ := h.of_cons
    simpa using h2
  | d :: ds, _, i + 1, h => by
    obtain ⟨v, r, rfl, h1, h2⟩ := h.of_cons
    simpa using Reps.cons h1 (Reps.eraseIdx i h2)
theorem Reps.dropLast {ds : List D} {vs : List V} (h : Reps T H ds vs) : Reps T H ds.dropLast vs.dropLast := by
  rw [List.dropLast_eq_take, List.dropLast_eq_take, h.length]
  exact h.take _
theorem Reps.rep {ds : List D} {vs : List V} (h : Reps T H ds vs) : ∀ n : Nat, Reps T H (List.replicate n ds).flatten (List.replicate n vs).flatten
  | 0 => by simp; exact .nil
  | n + 1 => by
    rw [List.replicate_succ, List.replicate_succ, List.flatten_cons, List.flatten_cons]
    exact h.append (h.rep n)
theorem Reps.toIs : ∀ {ds : List D} {vs : List V} {ns : List Int}, Reps T H ds vs → Z.intsD ds = some ns → vs = ns.map V.int
  | [], _, ns, h, e => by
    simp [Z.intsD] at e; subst e
    rw [h.of_nil]; rfl
  | d :: ds, _, ns, h, e => by
    obtain ⟨v, r, rfl, h1, h2⟩ := h.of_cons
    cases d with
    | int i =>
      simp only [Z.intsD] at e
      cases e2 : Z.intsD ds with
      | none => rw [e2] at e; cases e
      | some ms =>
        rw [e2] at e
        simp at e; subst e
        simp only [Rep] at h1
        rw [h1, Reps.toIs h2 e2]; rfl
    | _ => simp [Z.intsD] at e
theorem Reps.of_ints (T : Tb) (H : Hp) : ∀ ns : List Int, Reps T H (ns.map D.int) (ns.map V.int)
  | [] => .nil
  | n :: ns => by
    simp only [List.map_cons]
    exact .cons (by simp only [Rep]) (Reps.of_ints T H ns)
theorem ints_map (ns : List Int) : Z.intsD (ns.map D.int) = some ns := by
  induction ns with
  | nil => rfl
  | cons n ns ih => simp [Z.intsD, ih]
end
/-- an owned thing: its object may be changed, its items lie in P -/
def RepO (T : Tb) (P H : Hp) (a : Addr) (d : D) : Prop :=
  match d with
  | .lst ds => ∃ xs, H a = some (.lst xs) ∧ Reps T P ds xs
  | .dct ks ds => ∃ kvs, H a = some (.dK kvs) ∧ kvs.map (·.1) = ks ∧ Reps T P ds (kvs.map (·.2))
  | .dts ks => H a = some (.dT (ks.map fun k => (k, V.bl true)))
  | .dtv ks ds => ∃ kvs, H a = some (.dT kvs) ∧ kvs.map (·.1) = ks ∧ Reps T P ds (kvs.map (·.2))
  | _ => False
def OwnAt (r : En) (i : Nat) : Prop := ∃ d, r[i]? = some (.ow d) ∨ r[i]? = some (.io d)
def Own (σ : St) (r : En) (a : Addr) : Prop := ∃ i, OwnAt r i ∧ σ[i]? = some (some (.ref a))
structure RS (T : Tb) (P H : Hp) (σ : St) (r : En) : Prop where
  sub : Ext P H
  len : r.length = σ.length
  sh : ∀ (i : Nat) (d : D), r[i]? = some (Sl.sh d) → ∃ v, σ[i]? = some (some v) ∧ Rep T P d v
  own : ∀ (i : Nat) (d : D), (r[i]? = some (Sl.ow d) ∨ r[i]? = some (Sl.io d)) → ∃ a, σ[i]? = some (some (.ref a)) ∧ P a = none ∧ RepO T P H a d
  dis : ∀ (i j : Nat) (a : Addr), OwnAt r i → OwnAt r j → σ[i]? = some (some (.ref a)) → σ[j]? = some (some (.ref a)) → i = j
theorem RepO.some {T : Tb} {P H : Hp} {a : Addr} {d : D} (h : RepO T P H a d) : ∃ o, H a = some o := by
  cases d with
  | lst ds => obtain ⟨xs, e, _⟩ := h; exact ⟨_, e⟩
  | dct ks ds => obtain ⟨xs, e, _⟩ := h; exact ⟨_, e⟩
  | dts ks => exact ⟨_, h⟩
  | dtv ks ds => obtain ⟨xs, e, _⟩ := h; exact ⟨_, e⟩
  | _ => exact False.elim h
theorem RepO.move {T : Tb} {P H P' H' : Hp} {a : Addr} {d : D} (h : RepO T P H a d) (e : Ext P P') (k : H' a = H a) : RepO T P' H' a d := by
  cases d with
  | lst ds => obtain ⟨xs, h1, h2⟩ := h; exact ⟨xs, by rw [k]; exact h1, Reps.ext e _ _ h2⟩
  | dct ks ds => obtain ⟨xs, h1, h2, h3⟩ := h; exact ⟨xs, by rw [k]; exact h1, h2, Reps.ext e _ _ h3⟩
  | dts ks => exact k.trans h
  | dtv ks ds => obtain ⟨xs, h1, h2, h3⟩ := h; exact ⟨xs, by rw [k]; exact h1, h2, Reps.ext e _ _ h3⟩
  | _ => exact False.elim h
/-- an owned thing is a thing -/
theorem RepO.rep {T : Tb} {P H P' : Hp} {a : Addr} {d : D} (h : RepO T P H a d) (e : Ext P P') (k : P' a = H a) : Rep T P' d (.ref a) := by
  cases d with
  | lst ds =>
    obtain ⟨xs, h1, h2⟩ := h
    simp only [Rep]
    exact ⟨a, xs, rfl, k.trans h1, Reps.ext e _ _ h2⟩
  | dct ks ds =>
    obtain ⟨xs, h1, h2, h3⟩ := h
    simp only [Rep]
    exact ⟨a, xs, rfl, k.trans h1, h2, Reps.ext e _ _ h3⟩
  | dts ks =>
    simp only [Rep]
    exact ⟨a, rfl, k.trans h⟩
  | dtv ks ds =>
    obtain ⟨xs, h1, h2, h3⟩ := h
    simp only [Rep]
    exact ⟨a, xs, rfl, k.trans h1, h2, Reps.ext e _ _ h3⟩
  | _ => exact False.elim h
/-- nothing, or a tuple -/
def NT (H : Hp) (b : Addr) : Prop := ∀ o, H b = some o → ∃ xs, o = HO.tup xs
theorem NT.of {H : Hp} {b : Addr} (h : H b = none) : NT H b := fun o e => by rw [h] at e; cases e
theorem nt_lst {H : Hp} {b : Addr} {xs : List V} (h : H b = some (.lst xs)) : ¬ NT H b := fun n => by
  obtain ⟨_, e⟩ := n _ h
  cases e
theorem RepO.nt {T : Tb} {P H : Hp} {a : Addr} {d : D} (h : RepO T P H a d) : ¬ NT H a := fun n => by
  cases d with
  | lst ds => obtain ⟨xs, e, _⟩ := h; obtain ⟨_, e2⟩ := n _ e; cases e2
  | dct ks ds => obtain ⟨xs, e, _⟩ := h; obtain ⟨_, e2⟩ := n _ e; cases e2
  | dts ks => obtain ⟨_, e2⟩ := n _ h; cases e2
  | dtv ks ds => obtain ⟨xs, e, _⟩ := h; obtain ⟨_, e2⟩ := n _ e; cases e2
  | _ => exact False.elim h
/-- what a step may change: O are the owned ones -/
structure Stp (O : Addr → Prop) (P H P' H' : Hp) : Prop where
  pp : Ext P P'
  fr : ∀ b o, H b = some o → ¬ O b → H' b = some o
  dm : ∀ b, H' b = none → H b = none
  nw : ∀ b, P' b ≠ none → P b ≠ none ∨ NT H b ∨ O b
theorem Stp.refl {O : Addr → Prop} {P H : Hp} : Stp O P H P H := ⟨.refl _, fun _ _ h _ => h, fun _ h => h, fun _ h => .inl h⟩
theorem Stp.trans {O O1 : Addr → Prop} {P H P1 H1 P2 H2 : Hp} (a : Stp O P H P1 H1) (b : Stp O1 P1 H1 P2 H2) (s : ∀ c, O1 c → O c ∨ H c = none) : Stp O P H P2 H2 where
  pp := a.pp.trans b.pp
  fr := fun c o h n => b.fr c o (a.fr c o h n) fun z => (s c z).elim n fun e => by rw [e] at h; cases h
  dm := fun c h => a.dm c (b.dm c h)
  nw := fun c h => by
    rcases b.nw c h with h | h | h
    · exact a.nw c h
    · by_cases oc : O c
      · exact .inr (.inr oc)
      · exact .inr (.inl fun o e => h o (a.fr c o e oc))
    · rcases s c h with h | h
      · exact .inr (.inr h)
      · exact .inr (.inl (.of h))
def kle : Sl → Sl → Prop
  | .io _, .io _ => True
  | .ow _, .ow _ => True
  | .ow _, .sh _ => True
  | .ow _, .no => True
  | .sh _, .sh _ => True
  | .no, .no => True
  | _, _ => False
theorem kle.refl : ∀ x : Sl, kle x x
  | .no => trivial
  | .sh _ => trivial
  | .ow _ => trivial
  | .io _ => trivial
theorem kle.trans {x y z : Sl} (h1 : kle x y) (h2 : kle y z) : kle x z := by
  cases x <;> cases y <;> first | exact False.elim h1 | (cases z <;> first | trivial | exact False.elim h2)
def Kd (r r' : En) : Prop := r'.length = r.length ∧ ∀ (i : Nat) (x x' : Sl), r[i]? = some x → r'[i]? = some x' → kle x x'
theorem Kd.refl (r : En) : Kd r r := ⟨rfl, fun i x x' h h' => by rw [h] at h'; cases h'; exact kle.refl x⟩
theorem Kd.trans {r r1 r2 : En} (a : Kd r r1) (b : Kd r1 r2) : Kd r r2 := ⟨b.1.trans a.1, fun i x x' h h' => by
  have hi : i < r1.length := by
    rw [a.1]
    exact (List.getElem?_eq_some_iff.mp h).1
  exact (a.2 i x _ h (List.getElem?_eq_getElem hi)).trans (b.2 i _ x' (List.getElem?_eq_getElem hi) h')⟩
theorem Kd.own {r r' : En} (k : Kd r r') {i : Nat} (h : OwnAt r' i) : OwnAt r i := by
  obtain ⟨d, h⟩ := h
  have hi : i < r.length := by
    rw [← k.1]
    rcases h with h | h <;> exact (List.getElem?_eq_some_iff.mp h).1
  have q := List.getElem?_eq_getElem hi
  rcases h with h | h
  · have z := k.2 i _ _ q h
    cases e : r[i] with
    | ow d' => exact ⟨d', .inl (by rw [q, e])⟩
    | _ => rw [e] at z; exact False.elim z
  · have z := k.2 i _ _ q h
    cases e : r[i] with
    | io d' => exact ⟨d', .inr (by rw [q, e])⟩
    | _ => rw [e] at z; exact False.elim z
theorem Kd.owns {σ : St} {r r' : En} (k : Kd r r') {a : Addr} (h : Own σ r' a) : Own σ r a := let ⟨i, h1, h2⟩ := h; ⟨i, k.own h1, h2⟩
/-- behind a step: the slots' values stay, their things may have changed -/
structure Aft (T : Tb) (σ : St) (P H : Hp) (r : En) (P' H' : Hp) (r' : En) : Prop where
  rs : RS T P' H' σ r'
  st : Stp (Own σ r) P H P' H'
  kd : Kd r r'
theorem Aft.refl {T : Tb} {σ : St} {P H : Hp} {r : En} (h : RS T P H σ r) : Aft T σ P H r P H r := ⟨h, .refl, .refl _⟩
theorem Aft.trans {T : Tb} {σ : St} {P H P1 H1 P2 H2 : Hp} {r r1 r2 : En} (a : Aft T σ P H r P1 H1 r1) (b : Aft T σ P1 H1 r1 P2 H2 r2) : Aft T σ P H r P2 H2 r2 :=
  ⟨b.rs, a.st.trans b.st fun _ h => .inl (a.kd.owns h), a.kd.trans b.kd⟩
/-- a result: a thing of P, or a new one that no one else holds -/
def RV (T : Tb) (H P' H' : Hp) (v : Val) (u : V) : Prop :=
  match v with
  | .sh d => Rep T P' d u
  | .ow d => ∃ a, u = .ref a ∧ P' a = none ∧ RepO T P' H' a d ∧ H a = none
section
variable {T : Tb} {σ : St} {P H P' H' : Hp} {r r' : En}
theorem RS.ownNT (h : RS T P H σ r) {a : Addr} (o : Own σ r a) : ¬ NT H a := by
  obtain ⟨i, ⟨d, hd⟩, hs⟩ := o
  obtain ⟨b, e, _, q⟩ := h.own i d hd
  rw [hs] at e
  cases e
  exact q.nt
theorem RS.ownsome (h : RS T P H σ r) {a : Addr} (o : Own σ r a) : ∃ x, H a = some x := by
  obtain ⟨i, ⟨d, hd⟩, hs⟩ := o
  obtain ⟨b, e, _, q⟩ := h.own i d hd
  rw [hs] at e; cases e
  exact q.some
theorem RS.ownfree (h : RS T P H σ r) {a : Addr} (o : Own σ r a) : P a = none := by
  obtain ⟨i, ⟨d, hd⟩, hs⟩ := o
  obtain ⟨b, e, n, q⟩ := h.own i d hd
  rw [hs] at e; cases e
  exact n
/-- more is settled -/
theorem RS.grow (h : RS T P H σ r) (e : Ext P P') (k : Ext P' H') (fr : ∀ a, Own σ r a → P' a = none ∧ H' a = H a) : RS T P' H' σ r where
  sub := k
  len := h.len
  sh := fun i d q => let ⟨v, e1, e2⟩ := h.sh i d q; ⟨v, e1, Rep.ext e _ _ e2⟩
  own := fun i d q => by
    obtain ⟨a, e1, e2, e3⟩ := h.own i d q
    obtain ⟨n, z⟩ := fr a ⟨i, ⟨d, q⟩, e1⟩
    exact ⟨a, e1, n, e3.move e z⟩
  dis := h.dis
theorem upd_sub {b : Addr} {o : HO} (e : Ext P H) (n : P b = none) : Ext P (upd H b o) := fun c u h => by
  rw [upd_ne (ne_of_none h n)]
  exact e c u h
theorem upd_ext {b : Addr} {o : HO} (n : P b = none) : Ext P (upd P b o) := fun c u h => by
  rw [upd_ne (ne_of_none h n)]; exact h
/-- a new thing is laid and settled -/
theorem Aft.laid (h : RS T P H σ r) {p : Addr} {o : HO} (n : H p = none) : Aft T σ P H r (upd P p o) (upd H p o) r := by
  have np : P p = none := h.sub.free n
  have ho : ∀ a, Own σ r a → a ≠ p := fun a q z => by
    obtain ⟨x, e⟩ := h.ownsome q
    rw [z, n] at e; cases e
  refine ⟨h.grow (upd_ext np) (fun c u e => ?_) fun a q => ⟨by rw [upd_ne (ho a q)]; exact h.ownfree q, by rw [upd_ne (ho a q)]⟩, ⟨upd_ext np, fun c u e _ => ?_, fun c e => ?_, fun c e => ?_⟩, .refl _⟩
  · by_cases z : c = p
    · subst z; rw [upd_same] at e; cases e; exact upd_same
    · rw [upd_ne z] at e ⊢; exact h.sub c u e
  · rw [upd_ne (ne_of_none e n)]; exact e
  · by_cases z : c = p
    · subst z; exact n
    · rw [upd_ne z] at e; exact e
  · by_cases z : c = p
    · subst z; exact .inr (.inl (.of n))
    · rw [upd_ne z] at e; exact .inl e
/-- a new thing is laid, not settled -/
theorem Aft.laidO (h : RS T P H σ r) {p : Addr} {o : HO} (n : H p = none) : Aft T σ P H r P (upd H p o) r := by
  have ho : ∀ a, Own σ r a → a ≠ p := fun a q z => by
    obtain ⟨x, e⟩ := h.ownsome q
    rw [z, n] at e; cases e
  refine ⟨h.grow (.refl _) (upd_sub h.sub (h.sub.free n)) fun a q => ⟨h.ownfree q, by rw [upd_ne (ho a q)]⟩, ⟨.refl _, fun c u e _ => ?_, fun c e => ?_, fun c e => .inl e⟩, .refl _⟩
  · rw [upd_ne (ne_of_none e n)]; exact e
  · by_cases z : c = p
    · subst z; exact n
    · rw [upd_ne z] at e; exact e
/-- a result is settled -/
theorem RV.settle {v : Val} {u : V} (h0 : RS T P H σ r) (h : Aft T σ P H r P' H' r') (q : RV T H P' H' v u) : ∃ P2, Aft T σ P H r P2 H' r' ∧ Ext P' P2 ∧ Rep T P2 v.d u := by
  cases v with
  | sh d => exact ⟨P', h, .refl _, q⟩
  | ow d =>
    obtain ⟨a, rfl, n, ro, fa⟩ := q
    obtain ⟨o, e⟩ := ro.some
    have ex : Ext P' (upd P' a o) := upd_ext n
    have ho : ∀ b, Own σ r' b → b ≠ a := fun b z y => by
      subst y
      obtain ⟨x, w⟩ := h0.ownsome (h.kd.owns z)
      rw [fa] at w; cases w
    refine ⟨upd P' a o, ⟨h.rs.grow ex (fun c x y => ?_) fun b z => ⟨by rw [upd_ne (ho b z)]; exact h.rs.ownfree z, rfl⟩, ⟨h.st.pp.trans ex, h.st.fr, h.st.dm, fun c z => ?_⟩, h.kd⟩, ex, ?_⟩
    · by_cases z : c = a
      · subst z; rw [upd_same] at y; cases y; exact e
      · rw [upd_ne z] at y; exact h.rs.sub c x y
    · by_cases y : c = a
      · subst y; exact .inr (.inl (.of fa))
      · rw [upd_ne y] at z; exact h.st.nw c z
    · exact ro.rep ex (by rw [upd_same, e])
end
section
variable {T : Tb} {P H : Hp}
theorem flat_rep {P' : Hp} {d : D} {u : V} (f : flat d = true) (h : Rep T P d u) : Rep T P' d u := by
  cases d <;> first | (simp only [Rep] at h ⊢; exact h) | cases f
theorem flats_rep {P' : Hp} : ∀ {ds : List D} {us : List V}, ds.all flat = true → Reps T P ds us → Reps T P' ds us
  | [], us, _, h => by rw [h.of_nil]; exact .nil
  | d :: ds, us, f, h => by
    obtain ⟨v, t, rfl, h1, h2⟩ := h.of_cons
    simp only [List.all_cons, Bool.and_eq_true] at f
    exact .cons (flat_rep f.1 h1) (flats_rep f.2 h2)
theorem shal_repO {P' : Hp} {a : Addr} {d : D} (s : shal d = true) (h : RepO T P H a d) : RepO T P' H a d := by
  cases d with
  | lst ds => obtain ⟨xs, e, q⟩ := h; exact ⟨xs, e, flats_rep s q⟩
  | dct ks ds => obtain ⟨xs, e, q, q2⟩ := h; exact ⟨xs, e, q, flats_rep s q2⟩
  | dts ks => exact h
  | dtv ks ds => cases s
  | _ => exact False.elim h
theorem rep_repO {P' H' : Hp} {a : Addr} {d : D} (s : shal d = true) (h : Rep T P' d (.ref a)) (e : Ext P' H') : RepO T P H' a d := by
  cases d with
  | lst ds =>
    simp only [Rep] at h
    obtain ⟨b, xs, e1, e2, e3⟩ := h
    cases e1
    exact ⟨xs, e _ _ e2, flats_rep s e3⟩
  | dct ks ds =>
    simp only [Rep] at h
    obtain ⟨b, kvs, e1, e2, e3, e4⟩ := h
    cases e1
    exact ⟨kvs, e _ _ e2, e3, flats_rep s e4⟩
  | dts ks =>
    simp only [Rep] at h
    obtain ⟨b, e1, e2⟩ := h
    cases e1
    exact e _ _ e2
  | _ => cases s
theorem thw_get : ∀ {r rb r2 : En}, thw r rb = some r2 → r2.length = r.length ∧ r2.length = rb.length ∧ ∀ (j : Nat) (z : Sl), r2[j]? = some z → ∃ x y, r[j]? = some x ∧ rb[j]? = some y ∧ thw1 x y = some z
  | [], [], r2, h => by cases h; exact ⟨rfl, rfl, fun j z e => by simp at e⟩
  | [], _ :: _, _, h => by cases h
  | _ :: _, [], _, h => by cases h
  | x :: r, y :: rb, r2, h => by
    simp only [thw] at h
    cases c : thw1 x y with
    | none => rw [c] at h; cases h
    | some w =>
      rw [c] at h
      cases c2 : thw r rb with
      | none => rw [c2] at h; cases h
      | some r3 =>
        rw [c2] at h
        cases h
        obtain ⟨l1, l2, g⟩ := thw_get c2
        refine ⟨by simp [l1], by simp [l2], fun j z e => ?_⟩
        cases j with
        | zero => simp at e; subst e; exact ⟨x, y, rfl, rfl, c⟩
        | succ j => simpa using g j z (by simpa using e)
/-- names that were only walked are given back -/
theorem thw_ok {σ : St} {r rb r2 : En} {P' H' : Hp} (rs : RS T P H σ r) (a : Aft T σ P H r P' H' rb) (h : thw r rb = some r2) : Aft T σ P H r P H' r2 := by
  obtain ⟨l1, l2, g⟩ := thw_get h
  have inv : ∀ (j : Nat) (z : Sl), r2[j]? = some z → ∃ x y, r[j]? = some x ∧ rb[j]? = some y ∧ ((x = .no ∧ z = .no) ∨ (∃ d, x = .sh d ∧ z = .sh d) ∨ (∃ d d', x = .ow d ∧ (y = .ow d' ∨ y = .sh d') ∧ shal d' = true ∧ z = .ow d') ∨ (∃ d d', x = .io d ∧ y = .io d' ∧ shal d' = true ∧ z = .io d')) := fun j z e => by
    obtain ⟨x, y, h1, h2, h3⟩ := g j z e
    refine ⟨x, y, h1, h2, ?_⟩
    cases x with
    | no => simp [thw1] at h3; exact .inl ⟨rfl, h3.symm⟩
    | sh d => simp [thw1] at h3; exact .inr (.inl ⟨d, rfl, h3.symm⟩)
    | ow d =>
      cases y with
      | ow d' => simp [thw1] at h3; exact .inr (.inr (.inl ⟨d, d', rfl, .inl rfl, h3.1, h3.2.symm⟩))
      | sh d' => simp [thw1] at h3; exact .inr (.inr (.inl ⟨d, d', rfl, .inr rfl, h3.1, h3.2.symm⟩))
      | _ => simp [thw1] at h3
    | io d =>
      cases y with
      | io d' => simp [thw1] at h3; exact .inr (.inr (.inr ⟨d, d', rfl, rfl, h3.1, h3.2.symm⟩))
      | _ => simp [thw1] at h3
  have ownJ : ∀ j, OwnAt r2 j → OwnAt r j := fun j ⟨d, o⟩ => by
    rcases o with o | o
    · obtain ⟨x, y, h1, _, q⟩ := inv j _ o
      rcases q with ⟨_, q⟩ | ⟨_, _, q⟩ | ⟨d1, d2, rfl, _, _, q⟩ | ⟨d1, d2, rfl, _, _, q⟩
      · cases q
      · cases q
      · exact ⟨d1, .inl h1⟩
      · cases q
    · obtain ⟨x, y, h1, _, q⟩ := inv j _ o
      rcases q with ⟨_, q⟩ | ⟨_, _, q⟩ | ⟨d1, d2, rfl, _, _, q⟩ | ⟨d1, d2, rfl, _, _, q⟩
      · cases q
      · cases q
      · cases q
      · exact ⟨d1, .inr h1⟩
  refine ⟨⟨fun b o e => a.rs.sub _ _ (a.st.pp _ _ e), by rw [l1]; exact rs.len, fun j d e => ?_, fun j d e => ?_, fun i j b o1 o2 => rs.dis i j b (ownJ i o1) (ownJ j o2)⟩, ⟨.refl _, a.st.fr, a.st.dm, fun b e => .inl e⟩, ⟨l1, fun j x z h1 h2 => ?_⟩⟩
  · obtain ⟨x, y, h1, _, q⟩ := inv j _ e
    rcases q with ⟨_, q⟩ | ⟨d', rfl, q⟩ | ⟨_, _, _, _, _, q⟩ | ⟨_, _, _, _, _, q⟩
    · cases q
    · cases q; exact rs.sh j d h1
    · cases q
    · cases q
  · have key : ∃ d1 y, (r[j]? = some (.ow d1) ∨ r[j]? = some (.io d1)) ∧ rb[j]? = some y ∧ (y = .ow d ∨ y = .sh d ∨ y = .io d) ∧ shal d = true := by
      rcases e with e | e
      · obtain ⟨x, y, h1, h2, q⟩ := inv j _ e
        rcases q with ⟨_, q⟩ | ⟨_, _, q⟩ | ⟨d1, d2, rfl, hy, hs, q⟩ | ⟨d1, d2, rfl, _, _, q⟩
        · cases q
        · cases q
        · cases q; exact ⟨d1, y, .inl h1, h2, hy.elim .inl fun w => .inr (.inl w), hs⟩
        · cases q
      · obtain ⟨x, y, h1, h2, q⟩ := inv j _ e
        rcases q with ⟨_, q⟩ | ⟨_, _, q⟩ | ⟨d1, d2, rfl, _, _, q⟩ | ⟨d1, d2, rfl, hy, hs, q⟩
        · cases q
        · cases q
        · cases q
        · cases q; exact ⟨d1, y, .inr h1, h2, .inr (.inr hy), hs⟩
    obtain ⟨d1, y, h1, h2, hy, hs⟩ := key
    obtain ⟨b, e1, e2, _⟩ := rs.own j d1 h1
    refine ⟨b, e1, e2, ?_⟩
    rcases hy with rfl | rfl | rfl
    · obtain ⟨c, q1, _, q3⟩ := a.rs.own j d (.inl h2)
      rw [e1] at q1; cases q1
      exact shal_repO hs q3
    · obtain ⟨u, q1, q2⟩ := a.rs.sh j d h2
      rw [e1] at q1; cases q1
      exact rep_repO hs q2 a.rs.sub
    · obtain ⟨c, q1, _, q3⟩ := a.rs.own j d (.inr h2)
      rw [e1] at q1; cases q1
      exact shal_repO hs q3
  · obtain ⟨x', y, h3, _, q⟩ := inv j _ h2
    rw [h1] at h3; cases h3
    rcases q with ⟨rfl, rfl⟩ | ⟨_, rfl, rfl⟩ | ⟨_, _, rfl, _, _, rfl⟩ | ⟨_, _, rfl, _, _, rfl⟩ <;> trivial
end
end Z
/-! ZC: the judgement, the rules of expressions. -/
namespace Z
open PySem PySem.Spec L2
open PyProof.Rows hiding St
/-- what is wanted of an error: its class, its value, the slots, the heap -/
abbrev WX := Nat → V → St → Hp → Prop
abbrev Rel (A B : Type) := Hp → Hp → Hp → A → B → Prop
def Go {A B : Type} (T : Tb) (W : WX) (rel : Rel A B) (σ : St) (P H : Hp) (r : En) (x : R A) (Q : B → Hp → Prop) : Prop :=
  match x with
  | .ok a r' => ∀ u P' H', Aft T σ P H r P' H' r' → rel H P' H' a u → Q u H'
  | .exc c d r' => ∀ u P' H', Aft T σ P H r P' H' r' → Rep T P' d u → W c u σ H'
  | .bad => False
def Anti {A B : Type} (rel : Rel A B) : Prop := ∀ (H H1 P' H' : Hp) (a : A) (u : B), (∀ b, H1 b = none → H b = none) → rel H1 P' H' a u → rel H P' H' a u
abbrev relV (T : Tb) : Rel Val V := fun H P' H' v u => RV T H P' H' v u
abbrev relSs (T : Tb) : Rel (List D) (List V) := fun _ P' _ ds us => Reps T P' ds us
def RB (T : Tb) (σ : St) (P : Hp) (x : Nat ⊕ D) (u : V) : Prop :=
  match x with
  | .inl i => σ[i]? = some (some u)
  | .inr d => Rep T P d u
def RBs (T : Tb) (σ : St) (P : Hp) : List (Nat ⊕ D) → List V → Prop
  | [], us => us = []
  | x :: xs, us => ∃ u r, us = u :: r ∧ RB T σ P x u ∧ RBs T σ P xs r
abbrev relB (T : Tb) (σ : St) : Rel (Nat ⊕ D) V := fun _ P' _ x u => RB T σ P' x u
abbrev relBs (T : Tb) (σ : St) : Rel (List (Nat ⊕ D)) (List V) := fun _ P' _ x u => RBs T σ P' x u
abbrev relK : Rel Bool Bool := fun _ _ _ a b => b = a
theorem anti_V (T : Tb) : Anti (relV T) := fun H H1 P' H' v u h q => by
  cases v with
  | sh d => exact q
  | ow d => obtain ⟨a, e, n, ro, f⟩ := q; exact ⟨a, e, n, ro, h a f⟩
theorem anti_Ss (T : Tb) : Anti (relSs T) := fun _ _ _ _ _ _ _ q => q
theorem anti_B (T : Tb) (σ : St) : Anti (relB T σ) := fun _ _ _ _ _ _ _ q => q
theorem anti_Bs (T : Tb) (σ : St) : Anti (relBs T σ) := fun _ _ _ _ _ _ _ q => q
theorem anti_K : Anti relK := fun _ _ _ _ _ _ _ q => q
section
variable {A B B' : Type} {T : Tb} {W : WX} {rel : Rel A B} {σ : St} {P H P1 H1 : Hp} {r r1 : En} {x : R A} {Q Q' : B → Hp → Prop}
theorem Go.step (an : Anti rel) (a : Aft T σ P H r P1 H1 r1) (h : Go T W rel σ P H r x Q) : Go T W rel σ P1 H1 r1 x Q := by
  cases x with
  | ok v r' => exact fun u P' H' b q => h u P' H' (a.trans b) (an _ _ _ _ _ _ a.st.dm q)
  | exc c d r' => exact fun u P' H' b q => h u P' H' (a.trans b) q
  | bad => exact h
theorem Go.mono (h : Go T W rel σ P H r x Q) (k : ∀ u H', Q u H' → Q' u H') : Go T W rel σ P H r x Q' := by
  cases x with
  | ok v r' => exact fun u P' H' b q => k _ _ (h u P' H' b q)
  | exc c d r' => exact h
  | bad => exact h
/-- a step of a chain -/
theorem Go.bind {C C' : Type} {rel' : Rel C C'} {Q2 : C' → Hp → Prop} {g : A → En → R C} (an : Anti rel') (h : Go T W rel' σ P H r (x.bind g) Q2) :
    Go T W rel σ P H r x fun u H1 => ∃ P1 r1 v, Aft T σ P H r P1 H1 r1 ∧ rel H P1 H1 v u ∧ x = .ok v r1 ∧ Go T W rel' σ P1 H1 r1 (g v r1) Q2 := by
  cases x with
  | ok v r' => exact fun u P' H' b q => ⟨P', r', v, b, q, rfl, Go.step an b h⟩
  | exc c d r' => exact h
  | bad => exact h
end
section
variable {A B : Type} {T : Tb} {W : WX} {rel : Rel A B} {σ : St} {P H : Hp} {r : En} {Q : B → Hp → Prop}
/-- .. whose value is settled -/
theorem Go.bindS {x : R Val} {g : Val → En → R A} (rs : RS T P H σ r) (an : Anti rel) (h : Go T W rel σ P H r (x.bind g) Q) :
    Go T W (relV T) σ P H r x fun u H1 => ∃ P1 r1 v, Aft T σ P H r P1 H1 r1 ∧ Rep T P1 v.d u ∧ x = .ok v r1 ∧ Go T W rel σ P1 H1 r1 (g v r1) Q := by
  refine (Go.bind an h).mono fun u H1 ⟨P1, r1, v, a, q, e, h1⟩ => ?_
  obtain ⟨P2, a2, ex, rp⟩ := RV.settle rs a q
  refine ⟨P2, r1, v, a2, rp, e, ?_⟩
  cases x with
  | ok v' r' => cases e; exact Go.step an a2 h
  | exc c d r' => cases e
  | bad => cases e
end
/-! ### readings -/
def tE (T : Tb) (W : WX) (f : En → R Val) : TE := fun σ H Q => ∃ P r, RS T P H σ r ∧ Go T W (relV T) σ P H r (f r) Q
def tB (T : Tb) (W : WX) (f : En → R (Nat ⊕ D)) : TE := fun σ H Q => ∃ P r, RS T P H σ r ∧ Go T W (relB T σ) σ P H r (f r) Q
def tS (T : Tb) (W : WX) (f : En → R (List D)) : TA := fun σ H Q => ∃ P r, RS T P H σ r ∧ Go T W (relSs T) σ P H r (f r) Q
def tA (T : Tb) (W : WX) (f : En → R (List (Nat ⊕ D))) : TA := fun σ H Q => ∃ P r, RS T P H σ r ∧ Go T W (relBs T σ) σ P H r (f r) Q
def tK (T : Tb) (W : WX) (f : En → R Bool) : TT := fun σ H Q => ∃ P r, RS T P H σ r ∧ Go T W relK σ P H r (f r) Q
theorem peImp {X : Cx} {e : PySem.Expr} {t t' : TE} (h : PE X e t) (k : ∀ σ H Q, t' σ H Q → t σ H Q) : PE X e t' := ⟨fun pins s σ H Q I q => h.run pins s σ H Q I (k _ _ _ q)⟩
theorem ptImp {X : Cx} {e : PySem.Expr} {t t' : TT} (h : PT X e t) (k : ∀ σ H Q, t' σ H Q → t σ H Q) : PT X e t' := ⟨fun pins s σ H Q I q => h.run pins s σ H Q I (k _ _ _ q)⟩
theorem paImp {X : Cx} {e : List PySem.Expr} {t t' : TA} (h : PA X e t) (k : ∀ σ H Q, t' σ H Q → t σ H Q) : PA X e t' := ⟨fun pos pins s σ H Q I q => h.run pos pins s σ H Q I (k _ _ _ q)⟩
/-! ### what an argument is -/
/-- a thing of P, or an owned one -/
def RA (T : Tb) (P H : Hp) (d : D) (u : V) : Prop := Rep T P d u ∨ ∃ a, u = .ref a ∧ P a = none ∧ RepO T P H a d
def RAs (T : Tb) (P H : Hp) : List D → List V → Prop
  | [], us => us = []
  | x :: xs, us => ∃ u r, us = u :: r ∧ RA T P H x u ∧ RAs T P H xs r
section
variable {T : Tb} {W : WX} {σ : St} {P H P1 H1 : Hp} {r : En}
theorem RS.rd (h : RS T P H σ r) {i : Nat} {d : D} {u : V} (e : r.rd i = some d) (q : σ[i]? = some (some u)) : RA T P H d u := by
  unfold En.rd at e
  cases c : r[i]? with
  | none => rw [c] at e; cases e
  | some x =>
    rw [c] at e
    cases x with
    | no => cases e
    | sh d' =>
      cases e
      obtain ⟨v, e1, e2⟩ := h.sh i d c
      rw [q] at e1; cases e1
      exact .inl e2
    | ow d' =>
      cases e
      obtain ⟨a, e1, n, e2⟩ := h.own i d (.inl c)
      rw [q] at e1; cases e1
      exact .inr ⟨a, rfl, n, e2⟩
    | io d' =>
      cases e
      obtain ⟨a, e1, n, e2⟩ := h.own i d (.inr c)
      rw [q] at e1; cases e1
      exact .inr ⟨a, rfl, n, e2⟩
theorem RB.ext {x : Nat ⊕ D} {u : V} (e : Ext P P1) (h : RB T σ P x u) : RB T σ P1 x u := by
  cases x with
  | inl i => exact h
  | inr d => exact Rep.ext e _ _ h
theorem RBs.ext (e : Ext P P1) : ∀ {xs : List (Nat ⊕ D)} {us : List V}, RBs T σ P xs us → RBs T σ P1 xs us
  | [], _, h => h
  | x :: xs, _, h => by
    obtain ⟨u, t, e1, h1, h2⟩ := h
    exact ⟨u, t, e1, h1.ext e, RBs.ext e h2⟩
/-- borrowed names are read -/
theorem res_ok (rs : RS T P H σ r) : ∀ {xs : List (Nat ⊕ D)} {us : List V} {ds : List D}, RBs T σ P xs us → res r xs = some ds → RAs T P H ds us
  | [], _, _, h, e => by cases e; exact h
  | x :: xs, _, ds, h, e => by
    obtain ⟨u, t, rfl, h1, h2⟩ := h
    cases x with
    | inl i =>
      simp only [res] at e
      cases c : r.rd i with
      | none => rw [c] at e; cases e
      | some d =>
        rw [c] at e
        cases c2 : res r xs with
        | none => rw [c2] at e; cases e
        | some ds' =>
          rw [c2] at e; cases e
          exact ⟨u, t, rfl, rs.rd c h1, res_ok rs h2 c2⟩
    | inr d =>
      simp only [res] at e
      cases c2 : res r xs with
      | none => rw [c2] at e; cases e
      | some ds' =>
        rw [c2] at e; cases e
        exact ⟨u, t, rfl, .inl h1, res_ok rs h2 c2⟩
theorem RA.lst (rs : RS T P H σ r) {l : List D} {u : V} (h : RA T P H (.lst l) u) : ∃ a xs, u = .ref a ∧ H a = some (.lst xs) ∧ Reps T P l xs := by
  rcases h with h | ⟨a, e, n, h⟩
  · simp only [Rep] at h
    obtain ⟨a, xs, e, h1, h2⟩ := h
    exact ⟨a, xs, e, rs.sub _ _ h1, h2⟩
  · obtain ⟨xs, h1, h2⟩ := h
    exact ⟨a, xs, e, h1, h2⟩
theorem RA.tup (rs : RS T P H σ r) {l : List D} {u : V} (h : RA T P H (.tup l) u) : ∃ a xs, u = .ref a ∧ H a = some (.tup xs) ∧ Reps T P l xs := by
  rcases h with h | ⟨a, e, n, h⟩
  · simp only [Rep] at h
    obtain ⟨a, xs, e, h1, h2⟩ := h
    exact ⟨a, xs, e, rs.sub _ _ h1, h2⟩
  · exact False.elim h
theorem RA.int {i : Int} {u : V} (h : RA T P H (.int i) u) : u = .int i := by
  rcases h with h | ⟨a, e, n, h⟩
  · simpa only [Rep] using h
  · exact False.elim h
theorem RA.str {i : Str} {u : V} (h : RA T P H (.str i) u) : u = .str i := by
  rcases h with h | ⟨a, e, n, h⟩
  · simpa only [Rep] using h
  · exact False.elim h
theorem RA.bl {i : Bool} {u : V} (h : RA T P H (.bl i) u) : u = .bl i := by
  rcases h with h | ⟨a, e, n, h⟩
  · simpa only [Rep] using h
  · exact False.elim h
theorem RA.non {u : V} (h : RA T P H .non u) : u = .non := by
  rcases h with h | ⟨a, e, n, h⟩
  · simpa only [Rep] using h
  · exact False.elim h
theorem RA.scr (rs : RS T P H σ r) {l : List Int} {u : V} (h : RA T P H (.scr l) u) : ∃ a, u = .ref a ∧ SqL T.K H a (l.map V.int) := by
  rcases h with h | ⟨a, e, n, h⟩
  · simp only [Rep] at h
    obtain ⟨a, e, h1⟩ := h
    exact ⟨a, e, sqL_ext rs.sub h1⟩
  · exact False.elim h
/-- an argument as a thing of the whole heap -/
theorem RA.rep (rs : RS T P H σ r) {d : D} {u : V} (h : RA T P H d u) : Rep T H d u := by
  rcases h with h | ⟨a, e, n, h⟩
  · exact Rep.ext rs.sub _ _ h
  · subst e; exact h.rep rs.sub rfl
end
end Z
/-! ZD: operators, comparisons, truth by data. -/
namespace Z
open PySem PySem.Spec L2
open PyProof.Rows hiding St
theorem LINE_eq : LINE = sizeLine := by rw [sizeLine_eq]; rfl
theorem bits_le (i : Int) : Builtin.Int.intBits i ≤ bits i := by
  unfold Builtin.Int.intBits bits
  split <;> omega
section
variable {X : Cx} {T : Tb} {W : WX}
theorem op_ints (op : Operator) : OpR X (binaryOp op) (fun x y H Q => ∃ i j k, x = .int i ∧ y = .int j ∧ binI op i j = some k ∧ Q (.int k) H) := by
  intro pins s σ H x y v u Q I rx ry h
  obtain ⟨i, j, k, rfl, rfl, e, q⟩ := h
  have bl : bitsLine = 134217728 := by decide
  cases op with
  | Add => simp only [binI, Option.some.injEq] at e; subst e; exact op_add pins s σ H _ _ v u Q I rx ry ⟨i, j, rfl, rfl, q⟩
  | Sub => simp only [binI, Option.some.injEq] at e; subst e; exact op_sub pins s σ H _ _ v u Q I rx ry ⟨i, j, rfl, rfl, q⟩
  | Mult =>
    simp only [binI] at e
    split at e
    · rename_i h
      cases e
      exact op_mulW pins s σ H _ _ v u Q I rx ry ⟨i, j, rfl, rfl, by unfold CMulW; unfold bits at h; omega, q⟩
    · cases e
  | FloorDiv =>
    simp only [binI] at e
    split at e
    · rename_i h
      cases e
      exact op_fdivW pins s σ H _ _ v u Q I rx ry ⟨i, j, rfl, rfl, ⟨h.1, by have := h.2; unfold bits at this; omega⟩, q⟩
    · cases e
  | Mod =>
    simp only [binI] at e
    split at e
    · rename_i h
      cases e
      exact op_mod pins s σ H _ _ v u Q I rx ry ⟨i, j, rfl, rfl, h, q⟩
    · cases e
  | Pow =>
    simp only [binI] at e
    split at e
    · rename_i h
      cases e
      obtain ⟨t, rfl⟩ := rx
      obtain ⟨t', rfl⟩ := ry
      refine PyProof.Rows.pow_int h.1 ?_ ⟨.int _, H, I.tok _, ⟨_, rfl⟩, q⟩
      have h1 := Nat.le_trans (Nat.mul_le_mul_right j.toNat (bits_le i)) h.2
      have h2 : ((Builtin.Int.intBits i * j.toNat : Nat) : Int) ≤ ((1000000 : Nat) : Int) := Int.ofNat_le.mpr h1
      have h3 : ((j.toNat : Nat) : Int) = j := Int.toNat_of_nonneg h.1
      rw [Int.natCast_mul, h3] at h2
      exact Int.le_trans h2 (by decide)
    · cases e
  | LShift =>
    simp only [binI] at e
    split at e
    · rename_i h
      cases e
      obtain ⟨t, rfl⟩ := rx
      obtain ⟨t', rfl⟩ := ry
      refine PyProof.Rows.lshift_int h.1 ?_ ⟨.int _, H, I.tok _, ⟨_, rfl⟩, q⟩
      have h1 := bits_le i
      have h2 := h.2
      have h3 : ((j.toNat : Nat) : Int) = j := Int.toNat_of_nonneg h.1
      have h4 : ((Builtin.Int.intBits i : Nat) : Int) + j ≤ 1000000 := by omega
      exact Int.le_trans h4 (by decide)
    · cases e
  | RShift =>
    simp only [binI] at e
    split at e
    · rename_i h
      cases e
      exact op_shr pins s σ H _ _ v u Q I rx ry ⟨i, j, rfl, rfl, h, q⟩
    · cases e
  | BitAnd => simp only [binI, Option.some.injEq] at e; subst e; exact op_and pins s σ H _ _ v u Q I rx ry ⟨i, j, rfl, rfl, q⟩
  | BitOr => simp only [binI, Option.some.injEq] at e; subst e; exact op_or pins s σ H _ _ v u Q I rx ry ⟨i, j, rfl, rfl, q⟩
  | BitXor => simp only [binI, Option.some.injEq] at e; subst e; exact op_xor pins s σ H _ _ v u Q I rx ry ⟨i, j, rfl, rfl, q⟩
  | _ => simp [binI] at e
/-- an operation of two arguments, by data -/
def rD2 (T : Tb) (W : WX) (g : D → D → Option Val) : R2 := fun x y H Q => ∃ a b v σ P r, RS T P H σ r ∧ RA T P H a x ∧ RA T P H b y ∧ g a b = some v ∧ Go T W (relV T) σ P H r (.ok v r) Q
def rD1 (T : Tb) (W : WX) (g : D → Option Val) : V → Hp → VK → Prop := fun x H Q => ∃ a v σ P r, RS T P H σ r ∧ RA T P H a x ∧ g a = some v ∧ Go T W (relV T) σ P H r (.ok v r) Q
def rDn (T : Tb) (W : WX) (g : List D → Option Val) : List V → Hp → VK → Prop := fun xs H Q => ∃ as v σ P r, RS T P H σ r ∧ RAs T P H as xs ∧ g as = some v ∧ Go T W (relV T) σ P H r (.ok v r) Q
section
variable {σ : St} {P H : Hp} {r : En} {Q : VK}
theorem Go.here {d : D} {u : V} (rs : RS T P H σ r) (h : Go T W (relV T) σ P H r (.ok (.sh d) r) Q) (q : Rep T P d u) : Q u H := h u P H (.refl rs) q
theorem Go.newL {ds : List D} {xs : List V} {p : Addr} (rs : RS T P H σ r) (h : Go T W (relV T) σ P H r (.ok (.ow (.lst ds)) r) Q) (n : H p = none) (q : Reps T P ds xs) : Q (.ref p) (upd H p (.lst xs)) :=
  h _ P _ (Aft.laidO rs n) ⟨p, rfl, rs.sub.free n, ⟨xs, upd_same, q⟩, n⟩
theorem Go.newT {ds : List D} {xs : List V} {p : Addr} (rs : RS T P H σ r) (h : Go T W (relV T) σ P H r (.ok (.sh (.tup ds)) r) Q) (n : H p = none) (q : Reps T P ds xs) : Q (.ref p) (upd H p (.tup xs)) := by
  refine h _ (upd P p (.tup xs)) _ (Aft.laid rs n) ?_
  show Rep T _ (.tup ds) _
  simp only [Rep]
  exact ⟨p, xs, rfl, upd_same, Reps.ext (upd_ext (rs.sub.free n)) _ _ q⟩
end
theorem op_binD (hK : X.K = T.K) (op : Operator) : OpR X (binaryOp op) (rD2 T W (binD op)) := by
  intro pins s σ0 H x y v u Q I rx ry h
  obtain ⟨a, b, w, σ, P, r, rs, ha, hb, e, q⟩ := h
  cases a with
  | int i =>
    cases b with
    | int j =>
      simp only [binD] at e
      cases e2 : binI op i j with
      | none => rw [e2] at e; cases e
      | some k =>
        rw [e2] at e; cases e
        exact op_ints op pins s σ0 H x y v u Q I rx ry ⟨i, j, k, ha.int, hb.int, e2, q.here rs (by simp only [Rep])⟩
    | _ => simp [binD] at e
  | str i =>
    cases b with
    | str j =>
      cases op with
      | Add =>
        simp only [binD] at e
        split at e
        · rename_i hl
          cases e
          exact op_add_str pins s σ0 H x y v u Q I rx ry ⟨i, j, ha.str, hb.str, by rw [← LINE_eq]; exact hl, q.here rs (by simp only [Rep])⟩
        · cases e
      | _ => simp [binD] at e
    | _ => simp [binD] at e
  | lst l =>
    cases b with
    | lst m =>
      cases op with
      | Add =>
        simp only [binD] at e
        split at e
        · rename_i hl
          cases e
          obtain ⟨p1, xs, e1, h1, q1⟩ := ha.lst rs
          obtain ⟨p2, ys, e2, h2, q2⟩ := hb.lst rs
          exact op_cat pins s σ0 H x y v u Q I rx ry ⟨p1, p2, xs, ys, e1, e2, h1, h2, by rw [← LINE_eq, q1.length, q2.length]; exact hl, fun p n => q.newL rs n (q1.append q2)⟩
        · cases e
      | _ => simp [binD] at e
    | int n =>
      cases op with
      | Mult =>
        simp only [binD] at e
        split at e
        · rename_i hl
          cases e
          obtain ⟨p1, xs, e1, h1, q1⟩ := ha.lst rs
          exact op_rep pins s σ0 H x y v u Q I rx ry ⟨p1, n, xs, e1, hb.int, h1, by have := hl.1; have L : (LINE : Nat) = 16777216 := rfl; omega, by have := hl.1; have L : (LINE : Nat) = 16777216 := rfl; omega, by rw [← LINE_eq, q1.length]; exact hl.2, fun p n' => q.newL rs n' (q1.rep _)⟩
        · cases e
      | _ => simp [binD] at e
    | _ => simp [binD] at e
  | tup l =>
    cases b with
    | tup m =>
      cases op with
      | Add =>
        simp only [binD] at e
        split at e
        · rename_i hl
          cases e
          obtain ⟨p1, xs, e1, h1, q1⟩ := ha.tup rs
          obtain ⟨p2, ys, e2, h2, q2⟩ := hb.tup rs
          have ra : Rep T P (.tup l) x := ha.resolve_right (by rintro ⟨_, _, _, h⟩; exact h)
          have rb : Rep T P (.tup m) y := hb.resolve_right (by rintro ⟨_, _, _, h⟩; exact h)
          refine op_catA pins s σ0 H x y v u Q I rx ry ⟨p1, p2, xs, ys, e1, e2, .inl (.inl h1), .inl (.inl h2), by rw [← LINE_eq, q1.length, q2.length]; exact hl, fun z => ?_, fun _ z => ?_, fun _ _ p n => q.newT rs n (q1.append q2)⟩
          · have : l = [] := by
              have := q1.length
              rw [z] at this
              exact List.length_eq_zero_iff.mp this.symm
            subst this
            rw [e2] at rb
            exact q.here rs rb
          · have : m = [] := by
              have := q2.length
              rw [z] at this
              exact List.length_eq_zero_iff.mp this.symm
            subst this
            rw [e1] at ra
            rw [List.append_nil] at q
            exact q.here rs ra
        · cases e
      | _ => simp [binD] at e
    | _ => simp [binD] at e
  | _ => simp [binD] at e
/-! ### comparisons -/
mutual
theorem dp_of {K : PySem.W.Frag} {H : Hp} (hT : T.K = K) : ∀ (d : D) (u : V), lay d = true → Rep T H d u → Dp K H u (pyT d)
  | .non, u, _, h => by simp only [Rep] at h; subst h; simp only [pyT]; exact .non
  | .bl b, u, _, h => by simp only [Rep] at h; subst h; simp only [pyT]; exact .bl b
  | .int i, u, _, h => by simp only [Rep] at h; subst h; simp only [pyT]; exact .int i
  | .str s, u, _, h => by simp only [Rep] at h; subst h; simp only [pyT]; exact .str s
  | .lst l, u, hl, h => by
    simp only [Rep] at h
    obtain ⟨a, xs, rfl, h1, h2⟩ := h
    simp only [pyT]
    simp only [lay] at hl
    exact .lst (.inl (.inl h1)) (dps_of hT l xs hl h2)
  | .tup l, u, hl, h => by
    simp only [Rep] at h
    obtain ⟨a, xs, rfl, h1, h2⟩ := h
    simp only [pyT]
    simp only [lay] at hl
    exact .tup (.inl (.inl h1)) (dps_of hT l xs hl h2)
  | .dct _ _, _, hl, _ => by simp [lay] at hl
  | .dts _, _, hl, _ => by simp [lay] at hl
  | .dtv _ _, _, hl, _ => by simp [lay] at hl
  | .fn _, _, hl, _ => by simp [lay] at hl
  | .exn _ _, _, hl, _ => by simp [lay] at hl
  | .scr _, _, hl, _ => by simp [lay] at hl
theorem dps_of {K : PySem.W.Frag} {H : Hp} (hT : T.K = K) : ∀ (ds : List D) (us : List V), lays ds = true → Reps T H ds us → DpAll K H us (pyTs ds)
  | [], us, _, h => by rw [h.of_nil]; simp only [pyTs]; exact .nil
  | d :: ds, us, hl, h => by
    obtain ⟨v, t, rfl, h1, h2⟩ := h.of_cons
    simp only [lays, Bool.and_eq_true] at hl
    simp only [pyTs]
    exact .cons (dp_of hT d v hl.1 h1) (dps_of hT ds t hl.2 h2)
end
mutual
theorem canLay_pyT : ∀ d : D, lay d = true → (pyT d).canLay0 = true
  | .non, _ => by simp [pyT, PyData.canLay0]
  | .bl b, _ => by simp [pyT, PyData.canLay0]
  | .int i, _ => by simp [pyT, PyData.canLay0]
  | .str s, h => by simpa [pyT, PyData.canLay0, lay] using h
  | .lst l, h => by simp only [pyT, PyData.canLay0]; exact canLays_pyT l (by simpa only [lay] using h)
  | .tup l, h => by simp only [pyT, PyData.canLay0]; exact canLays_pyT l (by simpa only [lay] using h)
  | .dct _ _, hl => by simp [lay] at hl
  | .dts _, hl => by simp [lay] at hl
  | .dtv _ _, hl => by simp [lay] at hl
  | .fn _, hl => by simp [lay] at hl
  | .exn _ _, hl => by simp [lay] at hl
  | .scr _, hl => by simp [lay] at hl
theorem canLays_pyT : ∀ ds : List D, lays ds = true → PyData.canLayAll0 (pyTs ds) = true
  | [], _ => by simp [pyTs, PyData.canLayAll0]
  | d :: ds, h => by
    simp only [lays, Bool.and_eq_true] at h
    simp only [pyTs, PyData.canLayAll0, Bool.and_eq_true]
    exact ⟨canLay_pyT d h.1, canLays_pyT ds h.2⟩
end
mutual
theorem depth_pyT : ∀ d : D, (pyT d).depth = dep d
  | .non => by simp [pyT, PyData.depth, dep]
  | .bl b => by simp [pyT, PyData.depth, dep]
  | .int i => by simp [pyT, PyData.depth, dep]
  | .str s => by simp [pyT, PyData.depth, dep]
  | .lst l => by simp only [pyT, PyData.depth, dep]; rw [depths_pyT l]
  | .tup l => by simp only [pyT, PyData.depth, dep]; rw [depths_pyT l]
  | .dct _ _ => by simp [pyT, PyData.depth, dep]
  | .dts _ => by simp [pyT, PyData.depth, dep]
  | .dtv _ _ => by simp [pyT, PyData.depth, dep]
  | .fn _ => by simp [pyT, PyData.depth, dep]
  | .exn _ _ => by simp [pyT, PyData.depth, dep]
  | .scr _ => by simp [pyT, PyData.depth, dep]
theorem depths_pyT : ∀ ds : List D, PyData.depthAll (pyTs ds) = deps ds
  | [] => by simp [pyTs, PyData.depthAll, deps]
  | d :: ds => by simp only [pyTs, PyData.depthAll, deps]; rw [depth_pyT d, depths_pyT ds]
end
theorem shaped_pyT {d : D} (h : okq d = true) : SeqAt.shaped (pyT d) = true := by
  unfold okq at h
  simp only [Bool.and_eq_true, decide_eq_true_eq] at h
  unfold SeqAt.shaped
  rw [canLay_pyT d h.1, depth_pyT d, decide_eq_true h.2]; rfl
mutual
theorem eqv_pyT : ∀ d e : D, lay d = true → lay e = true → PyData.eqv (pyT d) (pyT e) = eqv d e
  | .lst xs, e, h1, h2 => by
    simp only [lay] at h1
    cases e with
    | lst ys => simp only [lay] at h2; simp only [pyT, PyData.eqv, eqv]; exact eqvs_pyT xs ys h1 h2
    | dct _ _ => simp [lay] at h2
    | dts _ => simp [lay] at h2
    | dtv _ _ => simp [lay] at h2
    | fn _ => simp [lay] at h2
    | exn _ _ => simp [lay] at h2
    | scr _ => simp [lay] at h2
    | _ => simp [pyT, PyData.eqv, eqv]
  | .tup xs, e, h1, h2 => by
    simp only [lay] at h1
    cases e with
    | tup ys => simp only [lay] at h2; simp only [pyT, PyData.eqv, eqv]; exact eqvs_pyT xs ys h1 h2
    | dct _ _ => simp [lay] at h2
    | dts _ => simp [lay] at h2
    | dtv _ _ => simp [lay] at h2
    | fn _ => simp [lay] at h2
    | exn _ _ => simp [lay] at h2
    | scr _ => simp [lay] at h2
    | _ => simp [pyT, PyData.eqv, eqv]
  | .non, e, _, h2 => by cases e <;> first | (simp [lay] at h2; done) | simp [pyT, PyData.eqv, eqv]
  | .bl b, e, _, h2 => by cases e <;> first | (simp [lay] at h2; done) | simp [pyT, PyData.eqv, eqv]
  | .int b, e, _, h2 => by cases e <;> first | (simp [lay] at h2; done) | simp [pyT, PyData.eqv, eqv]
  | .str b, e, _, h2 => by
    cases e with
    | str c => simp [pyT, PyData.eqv, eqv]
    | _ => first | (simp [lay] at h2; done) | simp [pyT, PyData.eqv, eqv]
  | .dct _ _, _, h1, _ => by simp [lay] at h1
  | .dts _, _, h1, _ => by simp [lay] at h1
  | .dtv _ _, _, h1, _ => by simp [lay] at h1
  | .fn _, _, h1, _ => by simp [lay] at h1
  | .exn _ _, _, h1, _ => by simp [lay] at h1
  | .scr _, _, h1, _ => by simp [lay] at h1
theorem eqvs_pyT : ∀ ds es : List D, lays ds = true → lays es = true → PyData.eqvAll (pyTs ds) (pyTs es) = eqvs ds es
  | [], [], _, _ => by simp [pyTs, PyData.eqvAll, eqvs]
  | [], _ :: _, _, _ => by simp [pyTs, PyData.eqvAll, eqvs]
  | _ :: _, [], _, _ => by simp [pyTs, PyData.eqvAll, eqvs]
  | d :: ds, e :: es, h1, h2 => by
    simp only [lays, Bool.and_eq_true] at h1 h2
    simp only [pyTs, PyData.eqvAll, eqvs]
    rw [eqv_pyT d e h1.1 h2.1, eqvs_pyT ds es h1.2 h2.2]
end
theorem rep_flatV {H : Hp} {d : D} {u : V} (f : flat d = true) (h : Rep T H d u) : flatV u = true := by
  cases d <;> simp [flat] at f <;> (simp only [Rep] at h; subst h; rfl)
theorem rep_eqV {H : Hp} {d e : D} {u v : V} (f : flat d = true) (g : flat e = true) (h : Rep T H d u) (h' : Rep T H e v) : eqV u v = eqv d e := by
  cases d <;> simp [flat] at f <;> cases e <;> simp [flat] at g <;> (simp only [Rep] at h h'; subst h; subst h'; simp [eqV, eqv])
end
end Z
/-! ZE: comparisons, truth, subscripts, built-in functions and methods, by data. -/
namespace Z
open PySem PySem.Spec L2
open PyProof.Rows hiding St
section
variable {X : Cx} {T : Tb} {W : WX}
theorem all_flatV {H : Hp} : ∀ {ds : List D} {us : List V}, Reps T H ds us → ds.all flat = true → us.all flatV = true
  | [], _, h, _ => by rw [h.of_nil]; rfl
  | d :: ds, _, h, f => by
    obtain ⟨v, t, rfl, h1, h2⟩ := h.of_cons
    simp only [List.all_cons, Bool.and_eq_true] at f ⊢
    exact ⟨rep_flatV f.1 h1, all_flatV h2 f.2⟩
theorem any_eqV {H : Hp} {d : D} {u : V} (fd : flat d = true) (hd : Rep T H d u) : ∀ {ds : List D} {us : List V}, Reps T H ds us → ds.all flat = true → (us.any fun y => eqV y u) = ds.any fun y => eqv y d
  | [], _, h, _ => by rw [h.of_nil]; rfl
  | e :: ds, _, h, f => by
    obtain ⟨v, t, rfl, h1, h2⟩ := h.of_cons
    simp only [List.all_cons, Bool.and_eq_true] at f
    simp only [List.any_cons]
    rw [rep_eqV f.1 fd h1 hd, any_eqV fd hd h2 f.2]
theorem flat_RA {P P' H : Hp} {d : D} {u : V} (f : flat d = true) (h : RA T P H d u) : Rep T P' d u := by
  rcases h with h | ⟨a, e, n, h⟩
  · cases d <;> simp [flat] at f <;> (simp only [Rep] at h ⊢; exact h)
  · cases d <;> simp [flat] at f <;> exact False.elim h
theorem any_pyT (a : D) (ha : lay a = true) : ∀ l : List D, lays l = true → ((pyTs l).any fun z => PyData.eqv z (pyT a)) = l.any fun x => eqv x a
  | [], _ => rfl
  | x :: l, h => by
    simp only [lays, Bool.and_eq_true] at h
    simp only [pyTs, List.any_cons]
    rw [eqv_pyT x a h.1 ha, any_pyT a ha l h.2]
theorem nil_cmp (hu : X.A.units + 65 < cLine) {pins : List (Addr × Obj)} {s : Shared} {σ0 σ : St} {P H : Hp} {r : En} {x y : V} {v u : Value} {Q : V → Hp → Prop} {a b : D} {k : Bool} (I : Inv X pins σ0 H s) (rx : RelV x v) (ry : RelV y u) (rs : RS T P H σ r) (ha : RA T P H a x) (hb : RA T P H b y) (e : nilq a b = some k) :
    (Q (.bl k) H → wpAny (model X.prog X.w) X.A (compareOp .Eq v u) (EP X pins σ0 Q) X.xe s) ∧ (Q (.bl (!k)) H → wpAny (model X.prog X.w) X.A (compareOp .NotEq v u) (EP X pins σ0 Q) X.xe s) := by
  unfold nilq at e
  split at e
  · rename_i d l
    cases e
    obtain ⟨p, xs, rfl, h1, h2⟩ := ha.lst rs
    obtain ⟨q, ys, rfl, h3, h4⟩ := hb.lst rs
    have : ys = [] := List.eq_nil_of_length_eq_zero h4.length
    subst this
    cases rx
    cases ry
    obtain ⟨its, rv, hl, hz⟩ := I.list (.inl (.inl h1))
    obtain ⟨its2, rv2, hl2, hz2⟩ := I.list (.inl (.inl h3))
    have z1 : its.length ≠ 0 := by
      have e1 := h2.length
      have e2 := rv.length
      simp only [List.length_cons] at e1
      omega
    have z2 : its2.length = 0 := by
      have e2 := rv2.length
      simpa using e2.symm
    have hsz : (its.toArray.size != its2.toArray.size) = true := by
      rw [bne_iff_ne, List.size_toArray, List.size_toArray]
      omega
    exact ⟨fun f => SeqAt.eq_list_lengthsAt hl.isList hl2.isList hsz (by omega) ⟨.bl _, H, I, rfl, f⟩, fun f => SeqAt.RcNeAt.lists_lengths hl.isList hl2.isList hsz (by omega) _ _ _ _ ⟨.bl _, H, I, rfl, f⟩⟩
  · cases e
theorem op_cmpD (hK : X.K = T.K) (hu : X.A.units + 65 < cLine) (op : CmpOp) : OpR X (compareOp op) (rD2 T W (fun a b => boolV (cmpD op a b))) := by
  intro pins s σ0 H x y v u Q I rx ry h
  obtain ⟨a, b, w, σ, P, r, rs, ha, hb, e, q⟩ := h
  unfold boolV at e
  dsimp only at e
  cases e2 : cmpD op a b with
  | none => rw [e2] at e; cases e
  | some k =>
    rw [e2] at e
    cases e
    have fin : Q (.bl k) H := q.here rs (by simp only [Rep])
    have ord : ∀ (hop : ∀ a b, cmpD op a b = match a, b with | .int i, .int j => ordI op i j | _, _ => none), ∃ i j, x = .int i ∧ y = .int j ∧ ordI op i j = some k := fun hop => by
      rw [hop] at e2
      cases a with
      | int i =>
        cases b with
        | int j => exact ⟨i, j, ha.int, hb.int, e2⟩
        | _ => cases e2
      | _ => cases e2
    cases op with
    | Eq =>
      simp only [cmpD] at e2
      split at e2
      · rename_i hq
        rw [Bool.and_eq_true] at hq
        cases e2
        have l1 : lay a = true := by have := hq.1; unfold okq at this; rw [Bool.and_eq_true] at this; exact this.1
        have l2 : lay b = true := by have := hq.2; unfold okq at this; rw [Bool.and_eq_true] at this; exact this.1
        refine op_eqD (by omega) pins s σ0 H x y v u Q I rx ry ⟨pyT a, pyT b, dp_of hK.symm a x l1 (ha.rep rs), dp_of hK.symm b y l2 (hb.rep rs), shaped_pyT hq.1, shaped_pyT hq.2, ?_⟩
        rw [eqv_pyT a b l1 l2]
        exact fin
      · exact (nil_cmp hu I rx ry rs ha hb e2).1 fin
    | NotEq =>
      simp only [cmpD] at e2
      split at e2
      · rename_i hq
        rw [Bool.and_eq_true] at hq
        cases e2
        have l1 : lay a = true := by have := hq.1; unfold okq at this; rw [Bool.and_eq_true] at this; exact this.1
        have l2 : lay b = true := by have := hq.2; unfold okq at this; rw [Bool.and_eq_true] at this; exact this.1
        refine op_neD (by omega) pins s σ0 H x y v u Q I rx ry ⟨pyT a, pyT b, dp_of hK.symm a x l1 (ha.rep rs), dp_of hK.symm b y l2 (hb.rep rs), shaped_pyT hq.1, shaped_pyT hq.2, ?_⟩
        rw [eqv_pyT a b l1 l2]
        exact fin
      · cases c : nilq a b with
        | none => rw [c] at e2; cases e2
        | some k' =>
          rw [c] at e2
          cases e2
          exact (nil_cmp hu I rx ry rs ha hb c).2 fin
    | Lt =>
      simp only [cmpD] at e2
      cases a with
      | int i =>
        cases b with
        | int j =>
          obtain rfl := ha.int
          obtain rfl := hb.int
          cases e2
          exact op_lt pins s σ0 H _ _ v u Q I rx ry ⟨i, j, rfl, rfl, fin⟩
        | _ => cases e2
      | lst l =>
        cases b with
        | lst m =>
          simp only [ltq] at e2
          split at e2
          · rename_i hq
            rw [Bool.and_eq_true, Bool.and_eq_true] at hq
            cases e2
            obtain ⟨⟨q1, q2⟩, q3⟩ := hq
            have l1 : lay (.lst l) = true := by have := q1; unfold okq at this; rw [Bool.and_eq_true] at this; exact this.1
            have l2 : lay (.lst m) = true := by have := q2; unfold okq at this; rw [Bool.and_eq_true] at this; exact this.1
            have d1 : dep (.lst l) ≤ 64 := by have := q1; unfold okq at this; rw [Bool.and_eq_true, decide_eq_true_eq] at this; exact this.2
            obtain ⟨as, r1⟩ := Dp.reads I _ x v (dp_of hK.symm _ x l1 (ha.rep rs)) rx
            obtain ⟨bs, r2⟩ := Dp.reads I _ y u (dp_of hK.symm _ y l2 (hb.rep rs)) ry
            have dd : (pyT (.lst l)).depth ≤ 64 := by rw [depth_pyT]; exact d1
            exact PySem.W.rcLt_alike (pyT (.lst l)) (pyT (.lst m)) X.A s v u as bs r1 r2 q3 (by simp [pyT]) (by omega) _ _ _ _ ⟨.bl _, H, I, rfl, fin⟩
          · cases e2
        | _ => cases e2
      | _ => cases e2
    | LtE =>
      obtain ⟨i, j, rfl, rfl, z⟩ := ord fun _ _ => rfl
      cases z
      exact op_le pins s σ0 H _ _ v u Q I rx ry ⟨i, j, rfl, rfl, fin⟩
    | Gt =>
      obtain ⟨i, j, rfl, rfl, z⟩ := ord fun _ _ => rfl
      cases z
      exact op_gt pins s σ0 H _ _ v u Q I rx ry ⟨i, j, rfl, rfl, fin⟩
    | GtE =>
      obtain ⟨i, j, rfl, rfl, z⟩ := ord fun _ _ => rfl
      cases z
      exact op_ge pins s σ0 H _ _ v u Q I rx ry ⟨i, j, rfl, rfl, fin⟩
    | Is =>
      simp only [cmpD] at e2
      cases b with
      | non =>
        simp only [isD] at e2
        refine op_isN pins s σ0 H x y v u Q I rx ry ⟨hb.non, ?_⟩
        have : decide (x = V.non) = k := by
          cases e2
          cases a with
          | non => rw [ha.non]; rfl
          | bl _ => rw [ha.bl]; rfl
          | int _ => rw [ha.int]; rfl
          | str _ => rw [ha.str]; rfl
          | lst _ => obtain ⟨p, xs, e, _⟩ := ha.lst rs; rw [e]; rfl
          | tup _ => obtain ⟨p, xs, e, _⟩ := ha.tup rs; rw [e]; rfl
          | dct _ _ =>
            have z := ha.rep rs
            simp only [Rep] at z
            obtain ⟨p, xs, e, _⟩ := z; rw [e]; rfl
          | dts _ =>
            have z := ha.rep rs
            simp only [Rep] at z
            obtain ⟨p, e, _⟩ := z; rw [e]; rfl
          | dtv _ _ =>
            have z := ha.rep rs
            simp only [Rep] at z
            obtain ⟨p, xs, e, _⟩ := z; rw [e]; rfl
          | fn _ =>
            have z := ha.rep rs
            simp only [Rep] at z
            rw [z]; rfl
          | exn _ _ =>
            have z := ha.rep rs
            simp only [Rep] at z
          | scr _ => obtain ⟨p, e, _⟩ := ha.scr rs; rw [e]; rfl
        rw [this]
        exact fin
      | bl c =>
        simp only [isD] at e2
        cases a with
        | bl d =>
          cases e2
          refine op_isBl pins s σ0 H x y v u Q I rx ry ⟨d, c, ha.bl, hb.bl, ?_⟩
          have z : decide (d = c) = (d == c) := (Bool.beq_eq_decide_eq d c).symm
          rw [z]
          exact fin
        | _ => cases e2
      | _ => simp [isD] at e2
    | IsNot =>
      simp only [cmpD] at e2
      cases b with
      | non =>
        simp only [isD] at e2
        refine op_notN pins s σ0 H x y v u Q I rx ry ⟨hb.non, ?_⟩
        have : (!decide (x = V.non)) = k := by
          cases e2
          cases a with
          | non => rw [ha.non]; rfl
          | bl _ => rw [ha.bl]; rfl
          | int _ => rw [ha.int]; rfl
          | str _ => rw [ha.str]; rfl
          | lst _ => obtain ⟨p, xs, e, _⟩ := ha.lst rs; rw [e]; rfl
          | tup _ => obtain ⟨p, xs, e, _⟩ := ha.tup rs; rw [e]; rfl
          | dct _ _ =>
            have z := ha.rep rs
            simp only [Rep] at z
            obtain ⟨p, xs, e, _⟩ := z; rw [e]; rfl
          | dts _ =>
            have z := ha.rep rs
            simp only [Rep] at z
            obtain ⟨p, e, _⟩ := z; rw [e]; rfl
          | dtv _ _ =>
            have z := ha.rep rs
            simp only [Rep] at z
            obtain ⟨p, xs, e, _⟩ := z; rw [e]; rfl
          | fn _ =>
            have z := ha.rep rs
            simp only [Rep] at z
            rw [z]; rfl
          | exn _ _ =>
            have z := ha.rep rs
            simp only [Rep] at z
          | scr _ => obtain ⟨p, e, _⟩ := ha.scr rs; rw [e]; rfl
        rw [this]
        exact fin
      | bl c =>
        simp only [isD] at e2
        cases a with
        | bl d =>
          cases e2
          refine op_notBl pins s σ0 H x y v u Q I rx ry ⟨d, c, ha.bl, hb.bl, ?_⟩
          have z : decide (d = c) = (d == c) := (Bool.beq_eq_decide_eq d c).symm
          rw [z]
          exact fin
        | _ => cases e2
      | _ => simp [isD] at e2
    | In =>
      simp only [cmpD] at e2
      cases b with
      | lst l =>
        simp only [inD] at e2
        split at e2
        · rename_i hf
          rw [Bool.and_eq_true] at hf
          cases e2
          obtain ⟨p, xs, e, h1, h2⟩ := hb.lst rs
          have hx : Rep T P a x := flat_RA hf.1 ha
          refine op_in_seq pins s σ0 H x y v u Q I rx ry ⟨p, xs, e, .inl (.inl (.inl h1)), rep_flatV hf.1 hx, all_flatV h2 hf.2, ?_⟩
          have z : inV x xs = l.any fun x => eqv x a := any_eqV hf.1 hx h2 hf.2
          simp only [Bool.false_eq_true, if_false]
          rw [z]
          exact fin
        · split at e2
          · rename_i hq
            rw [Bool.and_eq_true] at hq
            cases e2
            have l1 : lay a = true := by have := hq.1; unfold okq at this; rw [Bool.and_eq_true] at this; exact this.1
            have l2 : lay (.lst l) = true := by have := hq.2; unfold okq at this; rw [Bool.and_eq_true] at this; exact this.1
            refine op_inD hu pins s σ0 H x y v u Q I rx ry ⟨pyT a, pyTs l, dp_of hK.symm a x l1 (ha.rep rs), dp_of hK.symm (.lst l) y l2 (hb.rep rs), shaped_pyT hq.1, shaped_pyT hq.2, ?_⟩
            rw [any_pyT a l1 l (by simpa only [lay] using l2)]
            exact fin
          · cases e2
      | tup l =>
        simp only [inD] at e2
        split at e2
        · rename_i hf
          rw [Bool.and_eq_true] at hf
          cases e2
          obtain ⟨p, xs, e, h1, h2⟩ := hb.tup rs
          have hx : Rep T P a x := flat_RA hf.1 ha
          refine op_in_seq pins s σ0 H x y v u Q I rx ry ⟨p, xs, e, .inr (.inl (.inl h1)), rep_flatV hf.1 hx, all_flatV h2 hf.2, ?_⟩
          have z : inV x xs = l.any fun x => eqv x a := any_eqV hf.1 hx h2 hf.2
          simp only [Bool.false_eq_true, if_false]
          rw [z]
          exact fin
        · cases e2
      | _ => simp [inD] at e2
    | NotIn =>
      simp only [cmpD] at e2
      cases b with
      | lst l =>
        simp only [inD] at e2
        split at e2
        · rename_i hf
          rw [Bool.and_eq_true] at hf
          cases e2
          obtain ⟨p, xs, e, h1, h2⟩ := hb.lst rs
          have hx : Rep T P a x := flat_RA hf.1 ha
          refine op_notIn_seq pins s σ0 H x y v u Q I rx ry ⟨p, xs, e, .inl (.inl (.inl h1)), rep_flatV hf.1 hx, all_flatV h2 hf.2, ?_⟩
          have z : inV x xs = l.any fun x => eqv x a := any_eqV hf.1 hx h2 hf.2
          simp only [if_true]
          rw [z]
          exact fin
        · split at e2
          · rename_i hq
            rw [Bool.and_eq_true] at hq
            cases e2
            have l1 : lay a = true := by have := hq.1; unfold okq at this; rw [Bool.and_eq_true] at this; exact this.1
            have l2 : lay (.lst l) = true := by have := hq.2; unfold okq at this; rw [Bool.and_eq_true] at this; exact this.1
            refine op_notInD hu pins s σ0 H x y v u Q I rx ry ⟨pyT a, pyTs l, dp_of hK.symm a x l1 (ha.rep rs), dp_of hK.symm (.lst l) y l2 (hb.rep rs), shaped_pyT hq.1, shaped_pyT hq.2, ?_⟩
            rw [any_pyT a l1 l (by simpa only [lay] using l2)]
            exact fin
          · cases e2
      | tup l =>
        simp only [inD] at e2
        split at e2
        · rename_i hf
          rw [Bool.and_eq_true] at hf
          cases e2
          obtain ⟨p, xs, e, h1, h2⟩ := hb.tup rs
          have hx : Rep T P a x := flat_RA hf.1 ha
          refine op_notIn_seq pins s σ0 H x y v u Q I rx ry ⟨p, xs, e, .inr (.inl (.inl h1)), rep_flatV hf.1 hx, all_flatV h2 hf.2, ?_⟩
          have z : inV x xs = l.any fun x => eqv x a := any_eqV hf.1 hx h2 hf.2
          simp only [if_true]
          rw [z]
          exact fin
        · cases e2
      | _ => simp [inD] at e2
/-! ### truth -/
theorem reps_isEmpty {H : Hp} {ds : List D} {us : List V} (h : Reps T H ds us) : us.isEmpty = ds.isEmpty := by
  have e := h.length
  cases ds with
  | nil => rw [h.of_nil]; rfl
  | cons d ds =>
    cases us with
    | nil => simp at e
    | cons _ _ => rfl
theorem truV_of {σ : St} {P H : Hp} {r : En} (hK : X.K = T.K) (rs : RS T P H σ r) {d : D} {u : V} {k : Bool} (h : RA T P H d u) (e : tru d = some k) : TruV X.K u H k := by
  cases d with
  | non => rw [h.non]; cases e; exact rfl
  | bl b => rw [h.bl]; cases e; exact rfl
  | int i => rw [h.int]; cases e; exact rfl
  | str s =>
    rw [h.str]
    simp only [tru] at e
    split at e
    · rename_i hl
      cases e
      refine ⟨by rw [← LINE_eq]; exact hl, ?_⟩
      show (s.length != 0) = ((s.length : Int) != 0)
      by_cases z : s.length = 0
      · rw [z]; rfl
      · have z1 : (s.length != 0) = true := by simpa using z
        have z2 : ((s.length : Int) != 0) = true := by simp; omega
        rw [z1, z2]
    · cases e
  | lst l =>
    obtain ⟨p, xs, e1, h1, h2⟩ := h.lst rs
    rw [e1]
    cases e
    exact .inl ⟨xs, .inl (.inl h1), by rw [reps_isEmpty h2]⟩
  | tup l =>
    obtain ⟨p, xs, e1, h1, h2⟩ := h.tup rs
    rw [e1]
    cases e
    exact .inr (.inl ⟨xs, .inl (.inl h1), by rw [reps_isEmpty h2]⟩)
  | dct ks vs =>
    have z := h.rep rs
    simp only [Rep] at z
    obtain ⟨p, kvs, e1, h1, h2, h3⟩ := z
    rw [e1]
    cases e
    refine .inr (.inr ⟨kvs, h1, ?_⟩)
    rw [← h2]
    cases kvs <;> rfl
  | dts _ => cases e
  | dtv _ _ => cases e
  | fn _ => cases e
  | exn _ _ => cases e
  | scr _ => cases e
end
end Z
/-! ZF: subscripts, slices, built-in functions and methods, by data. -/
namespace Z
open PySem PySem.Spec L2
open PyProof.Rows hiding St
section
variable {X : Cx} {T : Tb} {W : WX}
theorem ixN_eq : Z.ixN = L2.ixN := rfl
theorem atL_rep {H : Hp} {ds : List D} {us : List V} {k : Int} {d : D} (h : Reps T H ds us) (e : atL ds k = some d) : ∃ u, atI us k = some u ∧ Rep T H d u := by
  unfold atL at e
  unfold atI
  rw [h.length, ← ixN_eq]
  cases c : Z.ixN ds.length k with
  | none => rw [c] at e; cases e
  | some j =>
    rw [c] at e
    obtain ⟨u, e1, q⟩ := h.get (show ds[j]? = some d from e)
    exact ⟨u, e1, q⟩
theorem ix_D (hK : X.K = T.K) : IxR X (rD2 T W (fun u v => (idxD u v).map .sh)) := by
  intro value slice pins s σ0 H x y v u Q I rx ry h hs
  obtain ⟨a, b, w, σ, P, r, rs, ha, hb, e, q⟩ := h
  dsimp only at e
  cases b with
  | int k =>
    cases a with
    | lst l =>
      simp only [idxD] at e
      cases c : atL l k with
      | none => rw [c] at e; cases e
      | some d =>
        rw [c] at e; cases e
        obtain ⟨p, xs, e1, h1, h2⟩ := ha.lst rs
        obtain ⟨z, e2, q2⟩ := atL_rep h2 c
        exact ix_list value slice pins s σ0 H x y v u Q I rx ry ⟨p, xs, k, z, e1, hb.int, .inl (.inl h1), e2, q.here rs q2⟩ hs
    | tup l =>
      simp only [idxD] at e
      cases c : atL l k with
      | none => rw [c] at e; cases e
      | some d =>
        rw [c] at e; cases e
        obtain ⟨p, xs, e1, h1, h2⟩ := ha.tup rs
        obtain ⟨z, e2, q2⟩ := atL_rep h2 c
        exact ix_tup value slice pins s σ0 H x y v u Q I rx ry ⟨p, xs, k, z, e1, hb.int, .inl (.inl h1), e2, q.here rs q2⟩ hs
    | scr l =>
      simp only [idxD] at e
      cases c : (Z.ixN l.length k).bind fun j => l[j]? with
      | none => rw [c] at e; cases e
      | some i =>
        rw [c] at e; cases e
        obtain ⟨p, e1, h1⟩ := ha.scr rs
        refine ix_list value slice pins s σ0 H x y v u Q I rx ry ⟨p, _, k, .int i, e1, hb.int, by rw [hK]; exact h1, ?_, q.here rs (by simp only [Rep])⟩ hs
        unfold atI
        rw [List.length_map, ← ixN_eq]
        cases c2 : Z.ixN l.length k with
        | none => rw [c2] at c; cases c
        | some j =>
          rw [c2] at c
          have c' : l[j]? = some i := c
          show (l.map V.int)[j]? = _
          rw [List.getElem?_map, c']; rfl
    | _ => simp [idxD] at e
  | _ => simp [idxD] at e
theorem cut_eq {A : Type} (l : List A) (lo hi : Option Int) : cut l lo hi = (l.drop (HT.sIx l.length 0 lo)).take (HT.sIx l.length l.length hi - HT.sIx l.length 0 lo) := by
  unfold cut
  have z : ∀ n d o, Z.sIx n d o = HT.sIx n d o := fun n d o => by cases o <;> rfl
  rw [z, z]
theorem cut_rep {H : Hp} {ds : List D} {us : List V} (lo hi : Option Int) (h : Reps T H ds us) : Reps T H (cut ds lo hi) (cutV us lo hi) := by
  rw [cut_eq]
  unfold cutV
  rw [h.length]
  exact (h.drop _).take _
def rSl (T : Tb) (W : WX) : V → Option Int → Option Int → Hp → VK → Prop := fun x lo hi H Q => ∃ a b c v σ P r, RS T P H σ r ∧ RA T P H a x ∧ part? b = some lo ∧ part? c = some hi ∧ slcD a b c = some v ∧ Go T W (relV T) σ P H r (.ok v r) Q
theorem sl_D (hK : X.K = T.K) : SlR X (rSl T W) := by
  intro pins s σ0 H x v vl vu lo hi sl Q I rx hs pl pu h
  obtain ⟨a, b, c, w, σ, P, r, rs, ha, hb, hc, e, q⟩ := h
  unfold slcD at e
  rw [hb, hc] at e
  cases a with
  | lst l =>
    cases e
    obtain ⟨p, xs, e1, h1, h2⟩ := ha.lst rs
    exact sl_list pins s σ0 H x v vl vu lo hi sl Q I rx hs pl pu ⟨p, xs, e1, .inl (.inl h1), fun p' n => q.newL rs n (cut_rep lo hi h2)⟩
  | scr l =>
    cases e
    obtain ⟨p, e1, h1⟩ := ha.scr rs
    refine sl_list pins s σ0 H x v vl vu lo hi sl Q I rx hs pl pu ⟨p, _, e1, by rw [hK]; exact h1, fun p' n => q.newL rs n ?_⟩
    have z : cutV (l.map V.int) lo hi = (cut l lo hi).map V.int := by
      rw [cut_eq]
      unfold cutV
      rw [List.length_map, List.map_take, List.map_drop]
    rw [z]
    exact Reps.of_ints T P _
  | _ => cases e
/-! ### built-in functions -/
theorem ra1 {P H : Hp} {d : D} {ds : List D} {us : List V} (h : RAs T P H (d :: ds) us) : ∃ u t, us = u :: t ∧ RA T P H d u ∧ RAs T P H ds t := h
theorem ra0 {P H : Hp} {us : List V} (h : RAs T P H [] us) : us = [] := h
theorem lenV_of {σ : St} {P H : Hp} {r : En} (hK : X.K = T.K) (rs : RS T P H σ r) {d : D} {u : V} {n : Nat} (h : RA T P H d u) (hd : ∀ ks vs, d ≠ .dct ks vs) (e : lenD d = some n) : LenV X.K u H n := by
  cases d with
  | lst l =>
    obtain ⟨p, xs, e1, h1, h2⟩ := h.lst rs
    cases e; rw [e1, ← h2.length]
    exact .inl ⟨xs, .inl (.inl h1), rfl⟩
  | tup l =>
    obtain ⟨p, xs, e1, h1, h2⟩ := h.tup rs
    cases e; rw [e1, ← h2.length]
    exact .inr ⟨xs, .inl (.inl h1), rfl⟩
  | scr l =>
    obtain ⟨p, e1, h1⟩ := h.scr rs
    cases e; rw [e1]
    exact .inl ⟨_, by rw [hK]; exact h1, by rw [List.length_map]⟩
  | str s =>
    rw [h.str]
    simp only [lenD] at e
    split at e
    · rename_i hl
      cases e
      exact ⟨by rw [← LINE_eq]; exact hl, rfl⟩
    · cases e
  | dct ks vs => exact absurd rfl (hd ks vs)
  | _ => cases e
theorem bi_len (hK : X.K = T.K) : CallR X (.builtin "len") (rDn T W (biD .len)) := by
  intro pins s σ0 H xs us Q I r0 h
  obtain ⟨as, w, σ, P, r, rs, ha, e, q⟩ := h
  replace e : lenF as = some w := e
  unfold lenF at e
  split at e
  · rename_i d
    obtain ⟨u, t, rfl, h1, h2⟩ := ra1 ha
    obtain rfl := ra0 h2
    cases c : lenD d with
    | none => rw [c] at e; cases e
    | some n =>
      rw [c] at e; cases e
      have fin : Q (.int (n : Nat)) H := q.here rs (by simp only [Rep])
      by_cases hd : ∃ ks vs, d = .dct ks vs
      · obtain ⟨ks, vs, rfl⟩ := hd
        have z := h1.rep rs
        simp only [Rep] at z
        obtain ⟨p, kvs, rfl, z1, z2, z3⟩ := z
        refine call_lenD pins s σ0 H _ us Q I r0 ⟨p, kvs, rfl, z1, ?_⟩
        cases c
        rw [← z2, List.length_map] at fin
        exact fin
      · exact call_len pins s σ0 H _ us Q I r0 ⟨u, n, rfl, lenV_of hK rs h1 (fun ks vs e => hd ⟨ks, vs, e⟩) c, fin⟩
  · cases e
theorem ints_rep {σ : St} {P H : Hp} {r : En} (hK : X.K = T.K) (rs : RS T P H σ r) {l : List D} {ns : List Int} {u : V} (h : RA T P H (.lst l) u) (e : Z.intsD l = some ns) : ∃ p, u = .ref p ∧ SqL X.K H p (ns.map V.int) := by
  obtain ⟨p, xs, e1, h1, h2⟩ := h.lst rs
  exact ⟨p, e1, .inl (.inl (by rw [← h2.toIs e]; exact h1))⟩
theorem bi_sum (hK : X.K = T.K) (hc : X.calm = true) : CallR X (.builtin "sum") (rDn T W (biD .sum)) := by
  intro pins s σ0 H xs us Q I r0 h
  obtain ⟨as, w, σ, P, r, rs, ha, e, q⟩ := h
  replace e : sumF as = some w := e
  unfold sumF at e
  split at e
  · rename_i l
    obtain ⟨u, t, rfl, h1, h2⟩ := ra1 ha
    obtain rfl := ra0 h2
    cases c : Z.intsD l with
    | none => rw [c] at e; cases e
    | some ns =>
      rw [c] at e; cases e
      obtain ⟨p, rfl, z⟩ := ints_rep hK rs h1 c
      exact cr_sum hc pins s σ0 H _ us Q I r0 ⟨p, ns, rfl, z, q.here rs (by simp only [Rep])⟩
  · cases e
theorem foldl_min : ∀ (l : List Int) (a : Int), (l.foldl min a = a ∨ l.foldl min a ∈ l) ∧ l.foldl min a ≤ a ∧ ∀ y ∈ l, l.foldl min a ≤ y
  | [], a => ⟨.inl rfl, Int.le_refl _, fun _ h => by cases h⟩
  | b :: l, a => by
    obtain ⟨h1, h2, h3⟩ := foldl_min l (min a b)
    simp only [List.foldl_cons]
    refine ⟨?_, by omega, fun y hy => ?_⟩
    · rcases h1 with h1 | h1
      · rw [h1]
        by_cases z : a ≤ b
        · exact .inl (by omega)
        · exact .inr (by rw [show min a b = b by omega]; exact List.mem_cons_self)
      · exact .inr (List.mem_cons_of_mem _ h1)
    · rcases List.mem_cons.mp hy with rfl | hy
      · omega
      · exact h3 y hy
theorem foldl_max : ∀ (l : List Int) (a : Int), (l.foldl max a = a ∨ l.foldl max a ∈ l) ∧ a ≤ l.foldl max a ∧ ∀ y ∈ l, y ≤ l.foldl max a
  | [], a => ⟨.inl rfl, Int.le_refl _, fun _ h => by cases h⟩
  | b :: l, a => by
    obtain ⟨h1, h2, h3⟩ := foldl_max l (max a b)
    simp only [List.foldl_cons]
    refine ⟨?_, by omega, fun y hy => ?_⟩
    · rcases h1 with h1 | h1
      · rw [h1]
        by_cases z : b ≤ a
        · exact .inl (by omega)
        · exact .inr (by rw [show max a b = b by omega]; exact List.mem_cons_self)
      · exact .inr (List.mem_cons_of_mem _ h1)
    · rcases List.mem_cons.mp hy with rfl | hy
      · omega
      · exact h3 y hy
theorem minI_spec {ns : List Int} {m : Int} (h : minI ns = some m) : m ∈ ns ∧ ∀ y ∈ ns, m ≤ y := by
  cases ns with
  | nil => cases h
  | cons a l =>
    cases h
    obtain ⟨h1, h2, h3⟩ := foldl_min l a
    refine ⟨?_, fun y hy => ?_⟩
    · rcases h1 with h1 | h1
      · rw [h1]; exact List.mem_cons_self
      · exact List.mem_cons_of_mem _ h1
    · rcases List.mem_cons.mp hy with rfl | hy
      · exact h2
      · exact h3 y hy
theorem maxI_spec {ns : List Int} {m : Int} (h : maxI ns = some m) : m ∈ ns ∧ ∀ y ∈ ns, y ≤ m := by
  cases ns with
  | nil => cases h
  | cons a l =>
    cases h
    obtain ⟨h1, h2, h3⟩ := foldl_max l a
    refine ⟨?_, fun y hy => ?_⟩
    · rcases h1 with h1 | h1
      · rw [h1]; exact List.mem_cons_self
      · exact List.mem_cons_of_mem _ h1
    · rcases List.mem_cons.mp hy with rfl | hy
      · exact h2
      · exact h3 y hy
theorem bi_min (hK : X.K = T.K) (hc : X.calm = true) : CallR X (.builtin "min") (rDn T W (biD .min)) := by
  intro pins s σ0 H xs us Q I r0 h
  obtain ⟨as, w, σ, P, r, rs, ha, e, q⟩ := h
  replace e : minF as = some w := e
  unfold minF at e
  split at e
  · rename_i l
    obtain ⟨u, t, rfl, h1, h2⟩ := ra1 ha
    obtain rfl := ra0 h2
    cases c : Z.intsD l with
    | none => rw [c] at e; cases e
    | some ns =>
      rw [c] at e
      obtain ⟨p, rfl, z⟩ := ints_rep hK rs h1 c
      simp only [Option.bind_some] at e
      cases c2 : minI ns with
      | none => rw [c2] at e; cases e
      | some m =>
        rw [c2] at e; cases e
        obtain ⟨m1, m2⟩ := minI_spec c2
        refine cr_min hc pins s σ0 H _ us Q I r0 ⟨p, ns, rfl, z, List.length_pos_of_mem m1, fun m' k1 k2 => ?_⟩
        have z1 := k2 m m1
        have z2 := m2 m' k1
        rw [show m' = m by omega]
        exact q.here rs (by simp only [Rep])
  · rename_i i j
    obtain ⟨u, t, rfl, h1, h2⟩ := ra1 ha
    obtain ⟨u', t', rfl, h3, h4⟩ := ra1 h2
    obtain rfl := ra0 h4
    cases e
    exact call_min2 hc pins s σ0 H _ us Q I r0 ⟨i, j, by rw [h1.int, h3.int], q.here rs (by simp only [Rep])⟩
  · cases e
theorem bi_max (hK : X.K = T.K) (hc : X.calm = true) : CallR X (.builtin "max") (rDn T W (biD .max)) := by
  intro pins s σ0 H xs us Q I r0 h
  obtain ⟨as, w, σ, P, r, rs, ha, e, q⟩ := h
  replace e : maxF as = some w := e
  unfold maxF at e
  split at e
  · rename_i l
    obtain ⟨u, t, rfl, h1, h2⟩ := ra1 ha
    obtain rfl := ra0 h2
    cases c : Z.intsD l with
    | none => rw [c] at e; cases e
    | some ns =>
      rw [c] at e
      obtain ⟨p, rfl, z⟩ := ints_rep hK rs h1 c
      simp only [Option.bind_some] at e
      cases c2 : maxI ns with
      | none => rw [c2] at e; cases e
      | some m =>
        rw [c2] at e; cases e
        obtain ⟨m1, m2⟩ := maxI_spec c2
        refine cr_max hc pins s σ0 H _ us Q I r0 ⟨p, ns, rfl, z, List.length_pos_of_mem m1, fun m' k1 k2 => ?_⟩
        have z1 := k2 m m1
        have z2 := m2 m' k1
        rw [show m' = m by omega]
        exact q.here rs (by simp only [Rep])
  · rename_i i j
    obtain ⟨u, t, rfl, h1, h2⟩ := ra1 ha
    obtain ⟨u', t', rfl, h3, h4⟩ := ra1 h2
    obtain rfl := ra0 h4
    cases e
    exact call_max2 hc pins s σ0 H _ us Q I r0 ⟨i, j, by rw [h1.int, h3.int], q.here rs (by simp only [Rep])⟩
  · cases e
theorem bi_int : CallR X (.type "int") (rDn T W (biD .int)) := by
  intro pins s σ0 H xs us Q I r0 h
  obtain ⟨as, w, σ, P, r, rs, ha, e, q⟩ := h
  replace e : intF as = some w := e
  unfold intF at e
  split at e
  · rename_i i
    obtain ⟨u, t, rfl, h1, h2⟩ := ra1 ha
    obtain rfl := ra0 h2
    cases e
    exact call_int1 pins s σ0 H _ us Q I r0 (.inl ⟨i, by rw [h1.int], q.here rs (by simp only [Rep])⟩)
  · rename_i i
    obtain ⟨u, t, rfl, h1, h2⟩ := ra1 ha
    obtain rfl := ra0 h2
    cases e
    exact call_int1 pins s σ0 H _ us Q I r0 (.inr ⟨i, by rw [h1.bl], q.here rs (by simp only [Rep])⟩)
  · cases e
theorem bi_list (hK : X.K = T.K) : CallR X (.type "list") (rDn T W (biD .list)) := by
  intro pins s σ0 H xs us Q I r0 h
  obtain ⟨as, w, σ, P, r, rs, ha, e, q⟩ := h
  replace e : listF as = some w := e
  unfold listF at e
  split at e
  · rename_i d
    obtain ⟨u, t, rfl, h1, h2⟩ := ra1 ha
    obtain rfl := ra0 h2
    cases d with
    | lst l =>
      simp only [seqD, Option.map_some] at e
      cases e
      obtain ⟨p, xs, rfl, z1, z2⟩ := h1.lst rs
      exact call_list_of pins s σ0 H _ us Q I r0 ⟨p, xs, rfl, .inl (.inl (.inl z1)), fun l n => q.newL rs n z2⟩
    | tup l =>
      simp only [seqD, Option.map_some] at e
      cases e
      obtain ⟨p, xs, rfl, z1, z2⟩ := h1.tup rs
      exact call_list_of pins s σ0 H _ us Q I r0 ⟨p, xs, rfl, .inr (.inl (.inl z1)), fun l n => q.newL rs n z2⟩
    | _ => cases e
  · cases e
theorem sortI_uniq {ns ms : List Int} (p : ms.Perm ns) (s : ms.Pairwise (· ≤ ·)) : ms = sortI ns := by
  have h1 : (sortI ns).Perm ns := List.mergeSort_perm ns _
  have h2 : (sortI ns).Pairwise (fun a b => decide (a ≤ b) = true) := List.pairwise_mergeSort (fun a b c h h' => by simp only [decide_eq_true_eq] at *; omega) (fun a b => by simp only [Bool.or_eq_true, decide_eq_true_eq]; omega) ns
  have h3 : (sortI ns).Pairwise (· ≤ ·) := h2.imp fun h => of_decide_eq_true h
  exact (p.trans h1.symm).eq_of_pairwise (fun a b _ _ h h' => by omega) s h3
theorem bi_repr (hK : X.K = T.K) (hg : X.A.guards = some []) (hu : X.A.units + 200 < cLine) : CallR X (.builtin "repr") (rDn T W (biD .repr)) := by
  intro pins s σ0 H xs us Q I r0 h
  obtain ⟨as, w, σ, P, r, rs, ha, e, q⟩ := h
  replace e : reprF as = some w := e
  unfold reprF at e
  split at e
  · rename_i d
    obtain ⟨u, t, rfl, h1, h2⟩ := ra1 ha
    obtain rfl := ra0 h2
    unfold reprD at e
    split at e
    rotate_left
    · cases e
    · rename_i hd
      simp only [Bool.and_eq_true, decide_eq_true_eq] at hd
      obtain ⟨⟨hq, hs⟩, hz⟩ := hd
      cases e
      have hz' : (pyT d).shown.length ≤ sizeLine := by rw [← LINE_eq]; exact hz
      have hl : lay d = true := by unfold okq at hq; rw [Bool.and_eq_true] at hq; exact hq.1
      have hdp : dep d ≤ 64 := by unfold okq at hq; rw [Bool.and_eq_true, decide_eq_true_eq] at hq; exact hq.2
      have fin : Q (.str (pyT d).shown) H := q.here rs (by simp only [Rep])
      obtain ⟨uv, rfl, rv⟩ := vals1 r0
      cases d with
      | non =>
        rw [h1.non] at rv
        cases rv
        simp only [pyT, PyData.shown] at fin
        exact PySem.P.repr_of_none ⟨.str _, H, I.tok _, ⟨_, rfl⟩, fin⟩
      | bl b =>
        rw [h1.bl] at rv
        cases rv
        simp only [pyT, PyData.shown] at fin
        exact PySem.P.repr_of_bool ⟨.str _, H, I.tok _, ⟨_, rfl⟩, fin⟩
      | int i =>
        rw [h1.int] at rv
        obtain ⟨t, rfl⟩ := rv
        simp only [pyT, PyData.shown] at fin
        simp only [pyT, PyData.showable, decide_eq_true_eq] at hs
        exact PySem.P.repr_of_int hs ⟨.str _, H, I.tok _, ⟨_, rfl⟩, fin⟩
      | str x =>
        rw [h1.str] at rv
        obtain ⟨t, rfl⟩ := rv
        simp only [pyT, PyData.shown] at fin hz'
        exact PySem.P.repr_of_str ⟨.str _, H, I.tok _, ⟨_, rfl⟩, fin⟩ hz'
      | lst l =>
        have hdp' : Dp X.K H u (pyT (.lst l)) := dp_of hK.symm _ _ hl (h1.rep rs)
        obtain ⟨p, xs, rfl, _⟩ := h1.lst rs
        cases rv
        obtain ⟨as, rd⟩ := Dp.reads I _ _ _ hdp' rfl
        refine PySem.repr_of_reads' rd hs (PyData.noDict_hsm (PyData.hasDict_of_canLay _ (canLay_pyT _ hl))) hg (by rw [depth_pyT]; omega) (fun _ _ e => e) (fun h' t tk hk => ⟨.str _, H, I.kept hk, ⟨_, rfl⟩, fin⟩) hz'
      | tup l =>
        have hdp' : Dp X.K H u (pyT (.tup l)) := dp_of hK.symm _ _ hl (h1.rep rs)
        obtain ⟨p, xs, rfl, _⟩ := h1.tup rs
        cases rv
        obtain ⟨as, rd⟩ := Dp.reads I _ _ _ hdp' rfl
        refine PySem.repr_of_reads' rd hs (PyData.noDict_hsm (PyData.hasDict_of_canLay _ (canLay_pyT _ hl))) hg (by rw [depth_pyT]; omega) (fun _ _ e => e) (fun h' t tk hk => ⟨.str _, H, I.kept hk, ⟨_, rfl⟩, fin⟩) hz'
      | _ => simp [lay] at hl
  · cases e
/-! ### isinstance -/
def tyName : Ty → String
  | .int => "int"
  | .bool => "bool"
  | .str => "str"
  | .list => "list"
  | .tuple => "tuple"
  | .dict => "dict"
  | .cls _ => ""
theorem isi_D (hK : X.K = T.K) (t : Ty) (ht : ∀ c, t ≠ .cls c) : CallR X (.builtin "isinstance") (fun xs H Q => ∃ x, xs = [x, .ty (tyName t)] ∧ rD1 T W (fun u => boolV (isiD u t)) x H Q) := by
  intro pins s σ0 H xs us Q I r0 h
  obtain ⟨x, rfl, a, w, σ, P, r, rs, ha, e, q⟩ := h
  dsimp only [boolV] at e
  cases c : isiD a t with
  | none => rw [c] at e; cases e
  | some k =>
    rw [c] at e; cases e
    have fin : Q (.bl k) H := q.here rs (by simp only [Rep])
    have go : ∀ (n : String), TyOf X.K H x (.type n) → PySem.W.kitOne X.K (.type n) (.type (tyName t)) = some k → wpAny (model X.prog X.w) X.A (call (.builtin "isinstance") us) (EP X pins σ0 Q) X.xe s := fun n ty e =>
      call_isi pins s σ0 H _ us Q I r0 ⟨x, .ty (tyName t), .type n, .type (tyName t), k, rfl, .ty _, .base ty, e, fin⟩
    cases a with
    | non =>
      obtain rfl := ha.non
      refine go "NoneType" .non ?_
      cases t <;> simp [isiD] at c <;> subst c <;> exact kit_ty (by decide +kernel)
    | bl b =>
      obtain rfl := ha.bl
      refine go "bool" (.bl b) ?_
      cases t <;> simp [isiD] at c <;> subst c <;> exact kit_ty (by decide +kernel)
    | int b =>
      obtain rfl := ha.int
      refine go "int" (.int b) ?_
      cases t <;> simp [isiD] at c <;> subst c <;> exact kit_ty (by decide +kernel)
    | str b =>
      obtain rfl := ha.str
      refine go "str" (.str b) ?_
      cases t <;> simp [isiD] at c <;> subst c <;> exact kit_ty (by decide +kernel)
    | lst b =>
      obtain ⟨p, xs, rfl, z, _⟩ := ha.lst rs
      refine go "list" (.lst z) ?_
      cases t <;> simp [isiD] at c <;> subst c <;> exact kit_ty (by decide +kernel)
    | tup b =>
      obtain ⟨p, xs, rfl, z, _⟩ := ha.tup rs
      refine go "tuple" (.tup z) ?_
      cases t <;> simp [isiD] at c <;> subst c <;> exact kit_ty (by decide +kernel)
    | dct ks vs =>
      have z := ha.rep rs
      simp only [Rep] at z
      obtain ⟨p, kvs, rfl, z1, z2, z3⟩ := z
      refine go "dict" (.dK z1) ?_
      cases t <;> simp [isiD] at c <;> subst c <;> exact kit_ty (by decide +kernel)
    | dts _ => cases t <;> simp [isiD] at c
    | dtv _ _ => cases t <;> simp [isiD] at c
    | fn _ => cases t <;> simp [isiD] at c
    | exn _ _ => cases t <;> simp [isiD] at c
    | scr _ => cases t <;> simp [isiD] at c
end
end Z
/-! ZG: the rules of expressions: each wants the rules of its parts. -/
namespace Z
open PySem PySem.Spec L2
open PyProof.Rows hiding St
section
variable {X : Cx} {T : Tb} {W : WX} {e : PySem.Expr} {fa fb fc : En → R (Nat ⊕ D)}
theorem rb2 {σ : St} {P P' : Hp} {x y : Nat ⊕ D} {u v : V} (h : RB T σ P x u) (e : Ext P P') (h' : RB T σ P' y v) : RBs T σ P' [x, y] [u, v] := ⟨u, _, rfl, h.ext e, v, _, rfl, h', rfl⟩
theorem res1 {σ : St} {P H : Hp} {r : En} (rs : RS T P H σ r) {x : Nat ⊕ D} {u : V} (h : RB T σ P x u) {l : List D} (e : res r [x] = some l) : ∃ a, l = [a] ∧ RA T P H a u := by
  have z := res_ok rs (show RBs T σ P [x] [u] from ⟨u, _, rfl, h, rfl⟩) e
  match l, z with
  | [], z => cases z
  | [a], ⟨u', t, e1, z, _⟩ => cases e1; exact ⟨a, rfl, z⟩
  | _ :: _ :: _, ⟨_, _, e1, _, ⟨_, _, e2, _⟩⟩ => cases e1; cases e2
theorem res2 {σ : St} {P H : Hp} {r : En} (rs : RS T P H σ r) {x y : Nat ⊕ D} {u v : V} (h : RBs T σ P [x, y] [u, v]) {l : List D} (e : res r [x, y] = some l) : ∃ a b, l = [a, b] ∧ RA T P H a u ∧ RA T P H b v := by
  have z := res_ok rs h e
  match l, z with
  | [], z => cases z
  | [a], ⟨_, _, e1, _, e2⟩ => cases e1; cases e2
  | [a, b], ⟨_, _, e1, z1, ⟨_, _, e2, z2, _⟩⟩ => cases e1; cases e2; exact ⟨a, b, rfl, z1, z2⟩
  | _ :: _ :: _ :: _, ⟨_, _, e1, _, ⟨_, _, e2, _, ⟨_, _, e3, _⟩⟩⟩ => cases e1; cases e2; cases e3
/-- an operation of two -/
theorem de_op2 {g : D → D → Option Val} (h : PE X e (tOp (rD2 T W g) (tB T W fa) (tB T W fb))) : PE X e (tE T W fun r => (fa r).bind fun x r1 => (fb r1).bind fun y r2 => op2 g x y r2) := by
  refine peImp h fun σ H Q ⟨P, r, rs, go⟩ => ⟨P, r, rs, (Go.bind (anti_V T) go).mono fun u H1 ⟨P1, r1, x, a1, q1, e1, go1⟩ => ⟨P1, r1, a1.rs, (Go.bind (anti_V T) go1).mono fun v H2 ⟨P2, r2, y, a2, q2, e2, go2⟩ => ?_⟩⟩
  unfold op2 at go2
  cases c : res r2 [x, y] with
  | none => rw [c] at go2; exact go2.elim
  | some l =>
    obtain ⟨a, b, rfl, h1, h2⟩ := res2 a2.rs (rb2 q1 a2.st.pp q2) c
    rw [c] at go2
    dsimp only at go2
    cases c2 : g a b with
    | none => rw [c2] at go2; exact go2.elim
    | some w => rw [c2] at go2; exact ⟨a, b, w, σ, P2, r2, a2.rs, h1, h2, c2, go2⟩
theorem de_op1 {g : D → Option Val} (h : PE X e (tUn (rD1 T W g) (tB T W fa))) : PE X e (tE T W fun r => (fa r).bind fun x r1 => op1 g x r1) := by
  refine peImp h fun σ H Q ⟨P, r, rs, go⟩ => ⟨P, r, rs, (Go.bind (anti_V T) go).mono fun u H1 ⟨P1, r1, x, a1, q1, e1, go1⟩ => ?_⟩
  unfold op1 at go1
  cases c : res r1 [x] with
  | none => rw [c] at go1; exact go1.elim
  | some l =>
    obtain ⟨a, rfl, h1⟩ := res1 a1.rs q1 c
    rw [c] at go1
    dsimp only at go1
    cases c2 : g a with
    | none => rw [c2] at go1; exact go1.elim
    | some w => rw [c2] at go1; exact ⟨a, w, σ, P1, r1, a1.rs, h1, c2, go1⟩
theorem de_opn {g : List D → Option Val} {f : En → R (List (Nat ⊕ D))} (h : PE X e (tCB (rDn T W g) (tA T W f))) : PE X e (tE T W fun r => (f r).bind fun xs r1 => opn g xs r1) := by
  refine peImp h fun σ H Q ⟨P, r, rs, go⟩ => ⟨P, r, rs, (Go.bind (anti_V T) go).mono fun us H1 ⟨P1, r1, xs, a1, q1, e1, go1⟩ => ?_⟩
  unfold opn at go1
  cases c : res r1 xs with
  | none => rw [c] at go1; exact go1.elim
  | some l =>
    rw [c] at go1
    simp only [Option.bind_some] at go1
    cases c2 : g l with
    | none => rw [c2] at go1; exact go1.elim
    | some w => rw [c2] at go1; exact ⟨l, w, σ, P1, r1, a1.rs, res_ok a1.rs q1 c, c2, go1⟩
/-- an argument that is no name -/
theorem db_of {f : En → R Val} (h : PE X e (tE T W f)) : PE X e (tB T W fun r => (f r).bind fun v r1 => .ok (.inr v.d) r1) :=
  peImp h fun σ H Q ⟨P, r, rs, go⟩ => ⟨P, r, rs, (Go.bindS rs (anti_B T σ) go).mono fun u H1 ⟨P1, r1, v, a1, q1, e1, go1⟩ => go1 u P1 H1 (.refl a1.rs) q1⟩
theorem db_var {i : Nat} (h : PE X e (tVar i)) : PE X e (tB T W fun r => if (r.rd i).isSome = true then .ok (.inl i) r else .bad) := by
  refine peImp h fun σ H Q ⟨P, r, rs, go⟩ => ?_
  dsimp only at go
  by_cases c : (r.rd i).isSome = true
  · rw [if_pos c] at go
    obtain ⟨d, c⟩ := Option.isSome_iff_exists.mp c
    have z : ∃ v, σ[i]? = some (some v) := by
      unfold En.rd at c
      cases c1 : r[i]? with
      | none => rw [c1] at c; cases c
      | some x =>
        rw [c1] at c
        cases x with
        | no => cases c
        | sh d' => obtain ⟨v, e1, _⟩ := rs.sh i d' c1; exact ⟨v, e1⟩
        | ow d' => obtain ⟨a, e1, _⟩ := rs.own i d' (.inl c1); exact ⟨_, e1⟩
        | io d' => obtain ⟨a, e1, _⟩ := rs.own i d' (.inr c1); exact ⟨_, e1⟩
    obtain ⟨v, z⟩ := z
    exact ⟨v, z, go v P H (.refl rs) z⟩
  · rw [if_neg c] at go
    exact go.elim
theorem setD_own {σ : St} {P H : Hp} {r : En} {i : Nat} {d : D} (rs : RS T P H σ r) (h : r[i]? = some (.ow d)) : ∃ P' u, Aft T σ P H r P' H (r.set i (.sh d)) ∧ Rep T P' d u ∧ σ[i]? = some (some u) := by
  obtain ⟨a, e, n, ro⟩ := rs.own i d (.inl h)
  obtain ⟨o, ho⟩ := ro.some
  have ex : Ext P (upd P a o) := upd_ext n
  have hi : i < r.length := (List.getElem?_eq_some_iff.mp h).1
  have oi : OwnAt r i := ⟨d, .inl h⟩
  have get : ∀ (j : Nat) (x : Sl), (r.set i (.sh d))[j]? = some x → (j = i ∧ x = .sh d) ∨ (j ≠ i ∧ r[j]? = some x) := fun j x q => by
    by_cases z : j = i
    · subst z
      rw [List.getElem?_set_self hi] at q
      exact .inl ⟨rfl, (Option.some.inj q).symm⟩
    · rw [List.getElem?_set_ne (Ne.symm z)] at q
      exact .inr ⟨z, q⟩
  have rp : Rep T (upd P a o) d (.ref a) := ro.rep ex (by rw [upd_same, ho])
  refine ⟨upd P a o, .ref a, ⟨⟨fun c x y => ?_, by rw [List.length_set]; exact rs.len, fun j d' q => ?_, fun j d' q => ?_, fun j k b q1 q2 => ?_⟩, ⟨ex, fun _ _ e _ => e, fun _ e => e, fun c z => ?_⟩, ⟨by rw [List.length_set], fun j x x' q1 q2 => ?_⟩⟩, rp, e⟩
  · by_cases z : c = a
    · subst z; rw [upd_same] at y; cases y; exact ho
    · rw [upd_ne z] at y; exact rs.sub c x y
  · rcases get j _ q with ⟨rfl, z⟩ | ⟨z, q⟩
    · cases z; exact ⟨_, e, rp⟩
    · obtain ⟨v, e1, e2⟩ := rs.sh j d' q
      exact ⟨v, e1, Rep.ext ex _ _ e2⟩
  · have q' : j ≠ i ∧ (r[j]? = some (.ow d') ∨ r[j]? = some (.io d')) := by
      rcases q with q | q
      · rcases get j _ q with ⟨rfl, z⟩ | ⟨z, q⟩
        · cases z
        · exact ⟨z, .inl q⟩
      · rcases get j _ q with ⟨rfl, z⟩ | ⟨z, q⟩
        · cases z
        · exact ⟨z, .inr q⟩
    obtain ⟨b, e1, n1, ro1⟩ := rs.own j d' q'.2
    have hb : b ≠ a := fun z => q'.1 (rs.dis j i b ⟨d', q'.2⟩ oi e1 (by rw [z]; exact e))
    exact ⟨b, e1, by rw [upd_ne hb]; exact n1, ro1.move ex rfl⟩
  · have h1 : OwnAt r j := by
      obtain ⟨d1, q1⟩ := q1
      rcases q1 with q1 | q1
      · rcases get j _ q1 with ⟨rfl, z⟩ | ⟨z, q⟩
        · cases z
        · exact ⟨d1, .inl q⟩
      · rcases get j _ q1 with ⟨rfl, z⟩ | ⟨z, q⟩
        · cases z
        · exact ⟨d1, .inr q⟩
    have h2 : OwnAt r k := by
      obtain ⟨d1, q2⟩ := q2
      rcases q2 with q2 | q2
      · rcases get k _ q2 with ⟨rfl, z⟩ | ⟨z, q⟩
        · cases z
        · exact ⟨d1, .inl q⟩
      · rcases get k _ q2 with ⟨rfl, z⟩ | ⟨z, q⟩
        · cases z
        · exact ⟨d1, .inr q⟩
    exact rs.dis j k b h1 h2
  · by_cases z' : c = a
    · subst z'; exact .inr (.inr ⟨i, oi, e⟩)
    · rw [upd_ne z'] at z; exact .inl z
  · rcases get j _ q2 with ⟨rfl, z⟩ | ⟨z, q⟩
    · rw [h] at q1; cases q1; subst z; exact trivial
    · rw [q1] at q; cases q; exact kle.refl x
theorem de_var {C : Cf} {i : Nat} (h : PE X e (tVar i)) : PE X e (tE T W (ev C (.var i))) := by
  refine peImp h fun σ H Q ⟨P, r, rs, go⟩ => ?_
  simp only [ev] at go
  cases c : r[i]? with
  | none => rw [c] at go; exact go.elim
  | some x =>
    rw [c] at go
    cases x with
    | no => exact go.elim
    | sh d => obtain ⟨v, e1, e2⟩ := rs.sh i d c; exact ⟨v, e1, go v P H (.refl rs) e2⟩
    | ow d =>
      obtain ⟨P', u, a, q, e1⟩ := setD_own rs c
      exact ⟨u, e1, go u P' H a q⟩
    | io d => exact go.elim
theorem de_con {C : Cf} {d : D} {v : V} (h : PE X e (tC v)) (q : ∀ H, Rep T H d v) : PE X e (tE T W (ev C (.con d))) := by
  refine peImp h fun σ H Q ⟨P, r, rs, go⟩ => ?_
  simp only [ev] at go
  exact go v P H (.refl rs) (q P)
theorem de_neg {f : En → R Val} (ha : PE X e (tE T W f)) {pos : Pos} : PE X (.UnaryOp .USub e pos) (tE T W fun r => (f r).bind fun v r1 => match v.d with
    | .int i => .ok (.sh (.int (-i))) r1
    | _ => .bad) := by
  refine peImp (pe_un un_neg ha) fun σ H Q ⟨P, r, rs, go⟩ => ⟨P, r, rs, (Go.bindS rs (anti_V T) go).mono fun u H1 ⟨P1, r1, v, a1, q1, e1, go1⟩ => ?_⟩
  cases c : v.d with
  | int i =>
    rw [c] at go1 q1
    simp only [Rep] at q1
    subst q1
    exact ⟨i, rfl, go1 _ P1 H1 (.refl a1.rs) (by show Rep _ _ _ _; simp only [Rep])⟩
  | _ => rw [c] at go1; exact go1.elim
theorem de_not (hK : X.K = T.K) (ha : PE X e (tB T W fa)) {pos : Pos} : PE X (.UnaryOp .Not e pos) (tE T W fun r => (fa r).bind fun x r1 => op1 (fun u => boolV ((tru u).map (!·))) x r1) := by
  refine de_op1 (peImp (pe_notT ha) fun σ H Q h => ?_)
  obtain ⟨P, r, rs, go⟩ := h
  refine ⟨P, r, rs, go.mono fun u H1 ⟨a, v, σ', P1, r1, rs1, ra, hv, go1⟩ => ?_⟩
  dsimp only at hv
  cases c : tru a with
  | none => rw [c] at hv; cases hv
  | some k =>
    rw [c] at hv
    cases hv
    exact ⟨k, truV_of hK rs1 ra c, go1.here rs1 (by simp only [Rep])⟩
theorem de_and (hK : X.K = T.K) {a b : PySem.Expr} {rest : List PySem.Expr} {pos : Pos} {f g : En → R Val} (ha : PE X a (tE T W f)) (hb : PE X (.BoolOp .And (b :: rest) pos) (tE T W g)) :
    PE X (.BoolOp .And (a :: b :: rest) pos) (tE T W fun r => (f r).bind fun x r1 => match tru x.d with
      | some true => (g r1).bind fun y r2 => .ok (.sh y.d) r2
      | some false => .ok (.sh x.d) r1
      | none => .bad) := by
  refine peImp (pe_andT ha hb) fun σ H Q ⟨P, r, rs, go⟩ => ⟨P, r, rs, (Go.bindS rs (anti_V T) go).mono fun u H1 ⟨P1, r1, v, a1, q1, e1, go1⟩ => ?_⟩
  cases c : tru v.d with
  | none => rw [c] at go1; exact go1.elim
  | some k =>
    refine ⟨k, truV_of hK a1.rs (.inl q1) c, ?_⟩
    rw [c] at go1
    cases k with
    | true =>
      rw [if_pos rfl]
      refine ⟨P1, r1, a1.rs, (Go.bindS a1.rs (anti_V T) go1).mono fun u2 H2 ⟨P2, r2, v2, a2, q2, e2, go2⟩ => ?_⟩
      exact go2 u2 P2 H2 (.refl a2.rs) q2
    | false =>
      rw [if_neg Bool.false_ne_true]
      exact go1 u P1 H1 (.refl a1.rs) q1
theorem de_or (hK : X.K = T.K) {a b : PySem.Expr} {rest : List PySem.Expr} {pos : Pos} {f g : En → R Val} (ha : PE X a (tE T W f)) (hb : PE X (.BoolOp .Or (b :: rest) pos) (tE T W g)) :
    PE X (.BoolOp .Or (a :: b :: rest) pos) (tE T W fun r => (f r).bind fun x r1 => match tru x.d with
      | some false => (g r1).bind fun y r2 => .ok (.sh y.d) r2
      | some true => .ok (.sh x.d) r1
      | none => .bad) := by
  refine peImp (pe_orT ha hb) fun σ H Q ⟨P, r, rs, go⟩ => ⟨P, r, rs, (Go.bindS rs (anti_V T) go).mono fun u H1 ⟨P1, r1, v, a1, q1, e1, go1⟩ => ?_⟩
  cases c : tru v.d with
  | none => rw [c] at go1; exact go1.elim
  | some k =>
    refine ⟨k, truV_of hK a1.rs (.inl q1) c, ?_⟩
    rw [c] at go1
    cases k with
    | false =>
      rw [if_neg Bool.false_ne_true]
      refine ⟨P1, r1, a1.rs, (Go.bindS a1.rs (anti_V T) go1).mono fun u2 H2 ⟨P2, r2, v2, a2, q2, e2, go2⟩ => ?_⟩
      exact go2 u2 P2 H2 (.refl a2.rs) q2
    | true =>
      rw [if_pos rfl]
      exact go1 u P1 H1 (.refl a1.rs) q1
theorem de_ite {c a b : PySem.Expr} {pos : Pos} {f g : En → R Val} {t : En → R Bool} (hc : PT X c (tK T W t)) (ha : PE X a (tE T W f)) (hb : PE X b (tE T W g)) :
    PE X (.IfExp c a b pos) (tE T W fun r => (t r).bind fun k r1 => if k = true then f r1 else g r1) := by
  refine peImp (pe_ifExp hc ha hb) fun σ H Q ⟨P, r, rs, go⟩ => ⟨P, r, rs, (Go.bind (anti_V T) go).mono fun u H1 ⟨P1, r1, k, a1, q1, e1, go1⟩ => ?_⟩
  subst q1
  cases u with
  | true => rw [if_pos rfl] at go1 ⊢; exact ⟨P1, r1, a1.rs, go1⟩
  | false => rw [if_neg Bool.false_ne_true] at go1 ⊢; exact ⟨P1, r1, a1.rs, go1⟩
/-! lists of expressions -/
def notStar : PySem.Expr → Bool
  | .Starred _ _ => false
  | _ => true
theorem star_one {e : PySem.Expr} (h : notStar e = true) (es : List PySem.Expr) (env : PySem.Env) : starEach (e :: es) env = (false, eval e env) :: starEach es env := by
  cases e <;> first | rfl | cases h
theorem star_all : ∀ {es : List PySem.Expr}, es.all notStar = true → ∀ (env : PySem.Env) (pos : Pos), (backTo pos (starEach es env)).any (·.1) = false
  | [], _, _, _ => rfl
  | e :: es, h, env, pos => by
    simp only [List.all_cons, Bool.and_eq_true] at h
    rw [star_one h.1]
    have ih := star_all h.2 env pos
    cases es with
    | nil => rfl
    | cons e2 es2 =>
      simp only [List.all_cons, Bool.and_eq_true] at h
      rw [star_one h.2.1] at ih ⊢
      simpa [backTo] using ih
theorem ds_nil {C : Cf} : PA X [] (tS T W (evs C [])) := paImp pa_nil fun σ H Q ⟨P, r, rs, go⟩ => by
  simp only [evs] at go
  exact go [] P H (.refl rs) Reps.nil
theorem ds_cons {es : List PySem.Expr} {f : En → R Val} {g : En → R (List D)} (hs : notStar e = true) (ha : PE X e (tE T W f)) (hb : PA X es (tS T W g)) :
    PA X (e :: es) (tS T W fun r => (f r).bind fun v r1 => (g r1).bind fun vs r2 => .ok (v.d :: vs) r2) := by
  refine paImp (pa_cons ha hb (star_one hs es X.env)) fun σ H Q ⟨P, r, rs, go⟩ => ⟨P, r, rs, (Go.bindS rs (anti_Ss T) go).mono fun u H1 ⟨P1, r1, v, a1, q1, e1, go1⟩ => ⟨P1, r1, a1.rs, (Go.bind (anti_Ss T) go1).mono fun us H2 ⟨P2, r2, vs, a2, q2, e2, go2⟩ => ?_⟩⟩
  exact go2 (u :: us) P2 H2 (.refl a2.rs) (.cons (Rep.ext a2.st.pp _ _ q1) q2)
theorem da_nil {C : Cf} : PA X [] (tA T W (evA C [])) := paImp pa_nil fun σ H Q ⟨P, r, rs, go⟩ => by
  simp only [evA] at go
  exact go [] P H (.refl rs) rfl
theorem da_cons {es : List PySem.Expr} {g : En → R (List (Nat ⊕ D))} (hs : notStar e = true) (ha : PE X e (tB T W fa)) (hb : PA X es (tA T W g)) :
    PA X (e :: es) (tA T W fun r => (fa r).bind fun x r1 => (g r1).bind fun xs r2 => .ok (x :: xs) r2) := by
  refine paImp (pa_cons ha hb (star_one hs es X.env)) fun σ H Q ⟨P, r, rs, go⟩ => ⟨P, r, rs, (Go.bind (anti_Bs T σ) go).mono fun u H1 ⟨P1, r1, x, a1, q1, e1, go1⟩ => ⟨P1, r1, a1.rs, (Go.bind (anti_Bs T σ) go1).mono fun us H2 ⟨P2, r2, xs, a2, q2, e2, go2⟩ => ?_⟩⟩
  exact go2 (u :: us) P2 H2 (.refl a2.rs) ⟨u, us, rfl, q1.ext a2.st.pp, q2⟩
theorem de_lst {es : List PySem.Expr} {pos : Pos} {g : En → R (List D)} (h : PA X es (tS T W g)) : PE X (.List es pos) (tE T W fun r => (g r).bind fun ds r1 => if ds.length ≤ LINE then .ok (.ow (.lst ds)) r1 else .bad) := by
  refine peImp (pe_lst h) fun σ H Q ⟨P, r, rs, go⟩ => ⟨P, r, rs, (Go.bind (anti_V T) go).mono fun us H1 ⟨P1, r1, ds, a1, q1, e1, go1⟩ => ?_⟩
  by_cases hl : ds.length ≤ LINE
  · rw [if_pos hl] at go1
    exact ⟨by rw [q1.length, ← LINE_eq]; exact hl, fun p n => go1.newL a1.rs n q1⟩
  · rw [if_neg hl] at go1; exact go1.elim
theorem de_tup {es : List PySem.Expr} {k : Nat} {pos : Pos} {g : En → R (List D)} (h : PA X es (tS T W g)) : PE X (.Tuple es k pos) (tE T W fun r => (g r).bind fun ds r1 => if ds.length ≤ LINE then .ok (.sh (.tup ds)) r1 else .bad) := by
  refine peImp (pe_tup h) fun σ H Q ⟨P, r, rs, go⟩ => ⟨P, r, rs, (Go.bind (anti_V T) go).mono fun us H1 ⟨P1, r1, ds, a1, q1, e1, go1⟩ => ?_⟩
  by_cases hl : ds.length ≤ LINE
  · rw [if_pos hl] at go1
    exact ⟨by rw [q1.length, ← LINE_eq]; exact hl, fun p n => go1.newT a1.rs n q1⟩
  · rw [if_neg hl] at go1; exact go1.elim
end
end Z
/-! ZH: slots stored, targets, what is walked. -/
namespace Z
open PySem PySem.Spec L2
open PyProof.Rows hiding St
/-- owned by a local name -/
def OwnL (σ : St) (r : En) (a : Addr) : Prop := ∃ (i : Nat) (d : D), r[i]? = some (Sl.ow d) ∧ σ[i]? = some (some (.ref a))
/-- behind a statement: slots may have been stored -/
structure AftS (T : Tb) (σ : St) (P H : Hp) (r : En) (σ' : St) (P' H' : Hp) (r' : En) : Prop where
  rs : RS T P' H' σ' r'
  st : Stp (Own σ r) P H P' H'
  ow : ∀ b, Own σ' r' b → Own σ r b ∨ H b = none
  ol : ∀ b, OwnL σ' r' b → OwnL σ r b ∨ H b = none
  io : ∀ (i : Nat) (d : D), r[i]? = some (Sl.io d) → (∃ d', r'[i]? = some (Sl.io d')) ∧ σ'[i]? = σ[i]?
  len : r'.length = r.length
section
variable {T : Tb} {W : WX} {σ σ1 σ2 : St} {P H P1 H1 P2 H2 : Hp} {r r1 r2 : En}
theorem AftS.refl (h : RS T P H σ r) : AftS T σ P H r σ P H r := ⟨h, .refl, fun _ h => .inl h, fun _ h => .inl h, fun i d h => ⟨⟨d, h⟩, rfl⟩, rfl⟩
theorem AftS.trans (a : AftS T σ P H r σ1 P1 H1 r1) (b : AftS T σ1 P1 H1 r1 σ2 P2 H2 r2) : AftS T σ P H r σ2 P2 H2 r2 where
  rs := b.rs
  st := a.st.trans b.st a.ow
  ow := fun c h => by
    rcases b.ow c h with h | h
    · exact a.ow c h
    · exact .inr (a.st.dm c h)
  ol := fun c h => by
    rcases b.ol c h with h | h
    · exact a.ol c h
    · exact .inr (a.st.dm c h)
  io := fun i d h => by
    obtain ⟨⟨d1, h1⟩, e1⟩ := a.io i d h
    obtain ⟨h2, e2⟩ := b.io i d1 h1
    exact ⟨h2, e2.trans e1⟩
  len := b.len.trans a.len
theorem Aft.toS (a : Aft T σ P H r P1 H1 r1) : AftS T σ P H r σ P1 H1 r1 where
  rs := a.rs
  st := a.st
  ow := fun c h => .inl (a.kd.owns h)
  ol := fun c ⟨i, d, h, e⟩ => by
    have hi : i < r.length := by rw [← a.kd.1]; exact (List.getElem?_eq_some_iff.mp h).1
    have q := List.getElem?_eq_getElem hi
    have z := a.kd.2 i _ _ q h
    cases c : r[i] with
    | ow d' => exact .inl ⟨i, d', by rw [q, c], e⟩
    | _ => rw [c] at z; exact False.elim z
  io := fun i d h => by
    have hi : i < r1.length := by rw [a.kd.1]; exact (List.getElem?_eq_some_iff.mp h).1
    have q := List.getElem?_eq_getElem hi
    have z := a.kd.2 i _ _ h q
    cases e : r1[i] with
    | io d' => exact ⟨⟨d', by rw [q, e]⟩, rfl⟩
    | _ => rw [e] at z; exact False.elim z
  len := a.kd.1
theorem RS.get (h : RS T P H σ r) {i : Nat} {x : Sl} (e : r[i]? = some x) : i < r.length ∧ i < σ.length := by
  have := (List.getElem?_eq_some_iff.mp e).1
  exact ⟨this, by rw [← h.len]; exact this⟩
theorem set_get {A : Type} {l : List A} {i j : Nat} {a x : A} (hi : i < l.length) (q : (l.set i a)[j]? = some x) : (j = i ∧ x = a) ∨ (j ≠ i ∧ l[j]? = some x) := by
  by_cases z : j = i
  · subst z
    rw [List.getElem?_set_self hi] at q
    exact .inl ⟨rfl, (Option.some.inj q).symm⟩
  · rw [List.getElem?_set_ne (Ne.symm z)] at q
    exact .inr ⟨z, q⟩
/-- a value that may be stored at a slot -/
def RW (T : Tb) (σ : St) (H0 P H : Hp) (r : En) (v : Val) (u : V) : Prop :=
  match v with
  | .sh d => Rep T P d u
  | .ow d => ∃ a, u = .ref a ∧ P a = none ∧ RepO T P H a d ∧ ¬ Own σ r a ∧ H0 a = none
theorem RV.rw {H0 : Hp} {v : Val} {u : V} (h : RV T H0 P H v u) (fr : ∀ b, Own σ r b → H0 b ≠ none) : RW T σ H0 P H r v u := by
  cases v with
  | sh d => exact h
  | ow d => obtain ⟨a, e, n, ro, f⟩ := h; exact ⟨a, e, n, ro, fun o => fr a o f, f⟩
/-- a slot is stored -/
theorem put_ok {σ0 : St} {P0 H0 : Hp} {r0 : En} (a : AftS T σ0 P0 H0 r0 σ P H r) {i : Nat} {v : Val} {u : V} (q : RW T σ H0 P H r v u) (e : r.put i v = some r1) :
    AftS T σ0 P0 H0 r0 (σ.set i (some u)) P H r1 := by
  have h := a.rs
  unfold En.put at e
  cases c : r[i]? with
  | none => rw [c] at e; cases e
  | some x =>
    rw [c] at e
    obtain ⟨hi, hs⟩ := h.get c
    have nio : ∀ d, x ≠ .io d := fun d z => by subst z; cases e
    have e1 : r1 = r.set i v.sl := by
      cases x with
      | io d => exact absurd rfl (nio d)
      | _ => exact (Option.some.inj e).symm
    subst e1
    have ownI : ∀ (j : Nat) (d : D), ((r.set i v.sl)[j]? = some (Sl.ow d) ∨ (r.set i v.sl)[j]? = some (Sl.io d)) → (j = i ∧ v = .ow d) ∨ (j ≠ i ∧ (r[j]? = some (Sl.ow d) ∨ r[j]? = some (Sl.io d))) := fun j d z => by
      rcases z with z | z
      · rcases set_get hi z with ⟨e1, e2⟩ | ⟨n, e2⟩
        · cases v with
          | sh d' => cases e2
          | ow d' => cases e2; exact .inl ⟨e1, rfl⟩
        · exact .inr ⟨n, .inl e2⟩
      · rcases set_get hi z with ⟨e1, e2⟩ | ⟨n, e2⟩
        · cases v <;> cases e2
        · exact .inr ⟨n, .inr e2⟩
    have noti : ∀ d, v = .ow d → ∃ a, u = .ref a ∧ P a = none ∧ RepO T P H a d ∧ ¬ Own σ r a ∧ H0 a = none := fun d z => by
      subst z
      exact q
    refine ⟨⟨h.sub, by rw [List.length_set, List.length_set]; exact h.len, fun j d z => ?_, fun j d z => ?_, fun j k b o1 o2 s1 s2 => ?_⟩, a.st, fun b o => ?_, fun b o => ?_, fun j d z => ?_, by rw [List.length_set]; exact a.len⟩
    · rcases set_get hi z with ⟨e1, e2⟩ | ⟨n, e2⟩
      · subst e1
        cases v with
        | sh d' => cases e2; exact ⟨u, List.getElem?_set_self hs, q⟩
        | ow d' => cases e2
      · obtain ⟨w, e3, e4⟩ := h.sh j d e2
        exact ⟨w, by rw [List.getElem?_set_ne (Ne.symm n)]; exact e3, e4⟩
    · rcases ownI j d z with ⟨e1, e2⟩ | ⟨n, e2⟩
      · subst e1
        obtain ⟨b, e3, n, ro, _⟩ := noti d e2
        exact ⟨b, by rw [List.getElem?_set_self hs, e3], n, ro⟩
      · obtain ⟨b, e3, e4, e5⟩ := h.own j d e2
        exact ⟨b, by rw [List.getElem?_set_ne (Ne.symm n)]; exact e3, e4, e5⟩
    · obtain ⟨d1, o1⟩ := o1
      obtain ⟨d2, o2⟩ := o2
      rcases ownI j d1 o1 with ⟨e1, z1⟩ | ⟨n1, z1⟩
      · subst e1
        rcases ownI k d2 o2 with ⟨e2, z2⟩ | ⟨n2, z2⟩
        · exact e2.symm
        · obtain ⟨c, e, _, _, no, _⟩ := noti d1 z1
          rw [List.getElem?_set_self hs, e] at s1
          rw [List.getElem?_set_ne (Ne.symm n2)] at s2
          cases s1
          exact absurd ⟨k, ⟨d2, z2⟩, s2⟩ no
      · rcases ownI k d2 o2 with ⟨e2, z2⟩ | ⟨n2, z2⟩
        · subst e2
          obtain ⟨c, e, _, _, no, _⟩ := noti d2 z2
          rw [List.getElem?_set_self hs, e] at s2
          rw [List.getElem?_set_ne (Ne.symm n1)] at s1
          cases s2
          exact absurd ⟨j, ⟨d1, z1⟩, s1⟩ no
        · rw [List.getElem?_set_ne (Ne.symm n1)] at s1
          rw [List.getElem?_set_ne (Ne.symm n2)] at s2
          exact h.dis j k b ⟨d1, z1⟩ ⟨d2, z2⟩ s1 s2
    · obtain ⟨j, ⟨d, o⟩, s⟩ := o
      rcases ownI j d o with ⟨e1, z⟩ | ⟨n, z⟩
      · subst e1
        obtain ⟨c, e, n, ro, _, f⟩ := noti d z
        rw [List.getElem?_set_self hs, e] at s
        cases s
        exact .inr f
      · rw [List.getElem?_set_ne (Ne.symm n)] at s
        exact a.ow b ⟨j, ⟨d, z⟩, s⟩
    · obtain ⟨j, d, o, s⟩ := o
      rcases set_get hi o with ⟨e1, e2⟩ | ⟨n, e2⟩
      · subst e1
        cases v with
        | sh d' => cases e2
        | ow d' =>
          cases e2
          obtain ⟨c, e, n, ro, _, f⟩ := noti d rfl
          rw [List.getElem?_set_self hs, e] at s
          cases s
          exact .inr f
      · rw [List.getElem?_set_ne (Ne.symm n)] at s
        exact a.ol b ⟨j, d, e2, s⟩
    · obtain ⟨⟨d', z1⟩, z2⟩ := a.io j d z
      have n : i ≠ j := fun y => by subst y; rw [c] at z1; cases z1; exact nio d' rfl
      exact ⟨⟨d', by rw [List.getElem?_set_ne n]; exact z1⟩, (List.getElem?_set_ne n).trans z2⟩
/-- a step within a statement -/
theorem AftS.step (a : AftS T σ P H r σ1 P1 H1 r1) (b : Aft T σ1 P1 H1 r1 P2 H2 r2) : AftS T σ P H r σ1 P2 H2 r2 := a.trans b.toS
/-! ### targets -/
/-- a target takes a settled thing: outside its slots nothing changes -/
def gD (T : Tb) (t : Tg) : TG := fun v σ H Q => ∃ P r d r', RS T P H σ r ∧ Rep T P d v ∧ bindT t d r = some r' ∧ ∀ σ', AftS T σ P H r σ' P H r' → σ'.length = σ.length → (∀ j, j ∉ tgS t → σ'[j]? = σ[j]?) → Q σ' H
def gDs (T : Tb) (ts : List Tg) : TGs := fun vs σ H Q => ∃ P r ds r', RS T P H σ r ∧ Reps T P ds vs ∧ bindTs ts ds r = some r' ∧ ∀ σ', AftS T σ P H r σ' P H r' → σ'.length = σ.length → (∀ j, j ∉ tgSs ts → σ'[j]? = σ[j]?) → Q σ' H
end
section
variable {X : Cx} {T : Tb}
theorem pgImp {tg : PySem.Expr} {t t' : TG} (h : PG X tg t) (k : ∀ v σ H Q, t' v σ H Q → t v σ H Q) : PG X tg t' := ⟨fun pins s σ H v u Q I r q => h.run pins s σ H v u Q I r (k _ _ _ _ q)⟩
theorem pgsImp {tg : List PySem.Expr} {t t' : TGs} (h : PGs X tg t) (k : ∀ v σ H Q, t' v σ H Q → t v σ H Q) : PGs X tg t' := ⟨fun pins s σ H v u Q I r q => h.run pins s σ H v u Q I r (k _ _ _ _ q)⟩
theorem dg_v {tg : PySem.Expr} {i : Nat} (h : PG X tg (gName i)) : PG X tg (gD T (.v i)) := pgImp h fun v σ H Q ⟨P, r, d, r', rs, rp, e, q⟩ => by
  simp only [bindT] at e
  have z := put_ok (AftS.refl rs) (v := .sh d) (show RW T σ H P H r (.sh d) v from rp) e
  exact q _ z (by rw [List.length_set]) fun j hj => by
    simp only [tgS, List.mem_singleton] at hj
    exact List.getElem?_set_ne (Ne.symm hj)
theorem dgs_nil : PGs X [] (gDs T []) := pgsImp pgs_nil fun v σ H Q ⟨P, r, ds, r', rs, rp, e, q⟩ => by
  cases ds with
  | nil =>
    simp only [bindTs, Option.some.injEq] at e
    subst e
    exact ⟨rp.of_nil, q σ (.refl rs) rfl fun _ _ => rfl⟩
  | cons d ds => simp [bindTs] at e
theorem dgs_cons {e : PySem.Expr} {es : List PySem.Expr} {t : Tg} {ts : List Tg} (h1 : PG X e (gD T t)) (h2 : PGs X es (gDs T ts)) (hs : (assignEach (e :: es) X.env).map (·.2) = assign e X.env :: (assignEach es X.env).map (·.2)) : PGs X (e :: es) (gDs T (t :: ts)) :=
  pgsImp (pgs_cons h1 h2 hs) fun v σ H Q ⟨P, r, ds, r', rs, rp, e, q⟩ => by
  cases ds with
  | nil => simp [bindTs] at e
  | cons d ds =>
    obtain ⟨u, us, rfl, p1, p2⟩ := rp.of_cons
    simp only [bindTs] at e
    cases c : bindT t d r with
    | none => rw [c] at e; cases e
    | some r1 =>
      rw [c] at e
      refine ⟨u, us, rfl, P, r, d, r1, rs, p1, c, fun σ1 a1 l1 o1 => ?_⟩
      refine ⟨P, r1, ds, r', a1.rs, p2, e, fun σ2 a2 l2 o2 => ?_⟩
      refine q σ2 (a1.trans a2) (l2.trans l1) fun j hj => ?_
      simp only [tgSs, List.mem_append, not_or] at hj
      exact (o2 j hj.2).trans (o1 j hj.1)
theorem pg_or {e : PySem.Expr} {t u : TG} (h1 : PG X e t) (h2 : PG X e u) : PG X e (fun v σ H Q => t v σ H Q ∨ u v σ H Q) := ⟨fun pins s σ H v w Q I r q => q.elim (h1.run pins s σ H v w Q I r) (h2.run pins s σ H v w Q I r)⟩
theorem bindTs_len : ∀ (ts : List Tg) (ds : List D) (r r' : En), bindTs ts ds r = some r' → ts.length = ds.length := by
  intro ts
  induction ts with
  | nil => intro ds r r' e; cases ds with
    | nil => rfl
    | cons _ _ => simp [bindTs] at e
  | cons t ts ih => intro ds r r' e; cases ds with
    | nil => simp [bindTs] at e
    | cons d ds =>
      simp only [bindTs] at e
      cases c : bindT t d r with
      | none => rw [c] at e; cases e
      | some r1 => rw [c] at e; simp [ih ds r1 r' e]
theorem dg_t (hc : X.calm = true) {es : List PySem.Expr} {k : Nat} {pos : Pos} {ts : List Tg} {n : Nat} (h : PGs X es (gDs T ts)) (hn : (assignEach es X.env).length = n) (hl : ts.length = n) (hst : (assignEach es X.env).findIdx? (·.1) = none) :
    PG X (.Tuple es k pos) (gD T (.t ts)) := pgImp (pg_or (pg_tup hc h hn hst) (pg_unl hc h hn hst)) fun v σ H Q ⟨P, r, d, r', rs, rp, e, q⟩ => by
  cases d with
  | tup ds =>
    simp only [bindT] at e
    simp only [Rep] at rp
    obtain ⟨a, xs, e1, h1, h2⟩ := rp
    exact .inl ⟨a, xs, e1, .inl (.inl (rs.sub _ _ h1)), by rw [h2.length, ← bindTs_len ts ds r r' e, hl], P, r, ds, r', rs, h2, e, fun σ' a' l o => q σ' a' l fun j hj => o j (by simpa only [tgS] using hj)⟩
  | lst ds =>
    simp only [bindT] at e
    simp only [Rep] at rp
    obtain ⟨a, xs, e1, h1, h2⟩ := rp
    exact .inr ⟨a, xs, e1, .inl (.inl (rs.sub _ _ h1)), by rw [h2.length, ← bindTs_len ts ds r r' e, hl], P, r, ds, r', rs, h2, e, fun σ' a' l o => q σ' a' l fun j hj => o j (by simpa only [tgS] using hj)⟩
  | _ => simp [bindT] at e
end
end Z
/-! ZI: what is walked; comprehensions. -/
namespace Z
open PySem PySem.Spec L2
open PyProof.Rows hiding St
/-- an iterator that gives just these things, whatever more is settled meanwhile -/
structure Wk (T : Tb) (P : Hp) (J : It) (ds : List D) : Prop where
  go : ∀ i H, i < ds.length → Ext P H → J.go i H
  stop : ∀ H, Ext P H → J.stop ds.length H
  yld : ∀ i d H x H' Pc, ds[i]? = some d → Ext P Pc → Ext Pc H → J.yld i H x H' → (H' = H ∧ Rep T Pc d x) ∨ ∃ p xs es, H p = none ∧ H' = upd H p (.tup xs) ∧ x = .ref p ∧ d = .tup es ∧ Reps T Pc es xs
theorem Wk.mono {T : Tb} {P P' : Hp} {J : It} {ds : List D} (h : Wk T P J ds) (e : Ext P P') : Wk T P' J ds :=
  ⟨fun i H l k => h.go i H l (e.trans k), fun H k => h.stop H (e.trans k), fun i d H x H' Pc l k1 k2 y => h.yld i d H x H' Pc l (e.trans k1) k2 y⟩
abbrev relI (T : Tb) : Rel (List D) It := fun _ P' _ ds J => Wk T P' J ds
theorem anti_I (T : Tb) : Anti (relI T) := fun _ _ _ _ _ _ _ q => q
def tI (T : Tb) (W : WX) (f : En → R (List D)) : TI := fun σ H R => ∃ P r, RS T P H σ r ∧ Go T W (relI T) σ P H r (f r) R
section
variable {X : Cx} {T : Tb} {W : WX} {tg l : PySem.Expr}
theorem piImp {t t' : TI} (h : PI X tg l t) (k : ∀ σ H Q, t' σ H Q → t σ H Q) : PI X tg l t' := ⟨fun pins s σ H Q I q => h.run pins s σ H Q I (k _ _ _ q)⟩
theorem wk_list {P : Hp} {a : Addr} {xs : List V} {ds : List D} (h : P a = some (.lst xs)) (q : Reps T P ds xs) : Wk T P (Itl T.K a) ds where
  go := fun i H hi e => by
    have z : i < xs.length := by rw [q.length]; exact hi
    exact ⟨xs, xs[i], .inl (.inl (e _ _ h)), List.getElem?_eq_getElem z⟩
  stop := fun H e => ⟨xs, .inl (.inl (e _ _ h)), by rw [q.length]; exact Nat.le_refl _⟩
  yld := fun i d H x H' Pc hd e1 e2 y => by
    obtain ⟨rfl, y⟩ := y
    obtain ⟨u, eu, ru⟩ := q.get hd
    have z := y xs (.inl (.inl (e2 _ _ (e1 _ _ h))))
    rw [eu] at z; cases z
    exact .inl ⟨rfl, Rep.ext e1 _ _ ru⟩
theorem wk_tup {P : Hp} {a : Addr} {xs : List V} {ds : List D} (h : P a = some (.tup xs)) (q : Reps T P ds xs) : Wk T P (Itt T.K a) ds where
  go := fun i H hi e => by
    have z : i < xs.length := by rw [q.length]; exact hi
    exact ⟨xs, xs[i], .inl (.inl (e _ _ h)), List.getElem?_eq_getElem z⟩
  stop := fun H e => ⟨xs, .inl (.inl (e _ _ h)), by rw [q.length]; exact Nat.le_refl _⟩
  yld := fun i d H x H' Pc hd e1 e2 y => by
    obtain ⟨rfl, y⟩ := y
    obtain ⟨u, eu, ru⟩ := q.get hd
    have z := y xs (.inl (.inl (e2 _ _ (e1 _ _ h))))
    rw [eu] at z; cases z
    exact .inl ⟨rfl, Rep.ext e1 _ _ ru⟩
/-- a list or a tuple -/
theorem di_seq (hK : X.K = T.K) {f : En → R Val} (he : PE X l (tE T W f)) : PI X tg l (tI T W fun r => (f r).bind fun v r1 => R.of (itemsD v.d) r1) := by
  refine ⟨fun pins s σ H Q I ⟨P, r, rs, go⟩ => ?_⟩
  refine thn (he.run pins s σ H _ I ⟨P, r, rs, Go.bindS rs (anti_I T) go⟩) fun v s1 ⟨x, H1, I1, r1, P1, rr, w, a1, q1, e1, go1⟩ => ?_
  cases c : w.d with
  | lst ds =>
    rw [c] at go1 q1
    simp only [Rep] at q1
    obtain ⟨a, xs, rfl, h1, h2⟩ := q1
    cases r1
    have hq : SqL X.K H1 a xs := .inl (.inl (a1.rs.sub _ _ h1))
    obtain ⟨its, rv, p, hz⟩ := I1.list hq
    refine wpAny_pyIter_list p.isList ⟨s1.heap.objs.size, [s1.heap.objs.size], _, _, H1, rfl, I1.kept (t' := s1.toks) fun b o e => Heap.get?_push_of_some _ e, turn_list a _, ⟨_, Heap.get?_push_size _ rfl, rfl, rfl⟩, fun b hb => ?_, ?_⟩
    · obtain rfl : b = s1.heap.objs.size := by simpa using hb
      exact I1.fpOk (Nat.le_refl _) (I1.hok.fresh (Nat.le_refl _))
    · rw [hK]
      exact go1 _ P1 H1 (.refl a1.rs) (wk_list h1 h2)
  | tup ds =>
    rw [c] at go1 q1
    simp only [Rep] at q1
    obtain ⟨a, xs, rfl, h1, h2⟩ := q1
    cases r1
    have hq : SqT X.K H1 a xs := .inl (.inl (a1.rs.sub _ _ h1))
    obtain ⟨its, rv, p, hz⟩ := I1.tuple hq
    refine wpAny_pyIter_tuple (show s1.heap.IsTuple a its.toArray from p) ⟨s1.heap.objs.size, [s1.heap.objs.size], _, _, H1, rfl, I1.kept (t' := s1.toks) fun b o e => Heap.get?_push_of_some _ e, turn_tuple a _, ⟨_, Heap.get?_push_size _ rfl, rfl, rfl⟩, fun b hb => ?_, ?_⟩
    · obtain rfl : b = s1.heap.objs.size := by simpa using hb
      exact I1.fpOk (Nat.le_refl _) (I1.hok.fresh (Nat.le_refl _))
    · rw [hK]
      exact go1 _ P1 H1 (.refl a1.rs) (wk_tup h1 h2)
  | _ => rw [c] at go1; exact go1.elim
theorem rangeI_get {a b : Int} {i : Nat} {d : D} (h : ((rangeI a b 1).map D.int)[i]? = some d) : d = .int (a + i) := by
  unfold rangeI at h
  rw [List.getElem?_map, List.getElem?_map] at h
  by_cases z : i < rangeN a b 1
  · rw [List.getElem?_range z] at h
    simp at h
    exact h.symm
  · rw [List.getElem?_eq_none (by simpa using Nat.le_of_not_lt z)] at h
    cases h
theorem wk_rng (P : Hp) (a b : Int) : Wk T P (Itr a (b - a).toNat) ((rangeI a b 1).map D.int) where
  go := fun i H hi _ => by
    have z : i < (b - a).toNat := by simpa only [rangeI, rangeN, List.length_map, List.length_range, if_true] using hi
    exact z
  stop := fun H _ => by
    show (b - a).toNat ≤ _
    simp [rangeI, rangeN]
  yld := fun i d H x H' Pc hd _ _ y => by
    obtain ⟨rfl, rfl⟩ := y
    rw [rangeI_get hd]
    exact .inl ⟨rfl, by simp only [Rep]⟩
section
variable {fa fb fc : En → R (Nat ⊕ D)}
theorem di_rng1 {a : PySem.Expr} {p pos : Pos} (hg : Gl X "range") (hm : X.mg "range" = none) (hs : notStar a = true) (ha : PE X a (tB T W fa)) :
    PI X tg (.Call (.Name "range" p) [a] [] pos) (tI T W fun r => (fa r).bind fun x r1 => R.of (match res r1 [x] with | some [u] => rngD [u] | _ => none) r1) := by
  refine piImp (pi_range1 hg hm (pa_cons ha pa_nil (star_one hs _ _)) (star_one hs [] X.env)) fun σ H Q ⟨P, r, rs, go⟩ => ⟨P, r, rs, (Go.bind (anti_I T) go).mono fun us H1 ⟨P1, r1, x, a1, q1, e1, go1⟩ => ?_⟩
  cases c : res r1 [x] with
  | none => rw [c] at go1; exact go1.elim
  | some ds =>
    obtain ⟨d, rfl, z1⟩ := res1 a1.rs q1 c
    rw [c] at go1
    dsimp only at go1
    cases d with
    | int n =>
      simp only [rngD] at go1
      split at go1
      · rename_i hn
        rw [sm62_iff] at hn
        refine ⟨n, by rw [z1.int], hn.1, hn.2.1, go1 _ P1 H1 (.refl a1.rs) ?_⟩
        have z := wk_rng (T := T) P1 0 n
        rw [Int.sub_zero] at z
        exact z
      · exact go1.elim
    | _ => exact go1.elim
theorem di_rng2 {a b : PySem.Expr} {p pos : Pos} (hg : Gl X "range") (hm : X.mg "range" = none) (hs : notStar a = true) (hs' : notStar b = true) (ha : PE X a (tB T W fa)) (hb : PE X b (tB T W fb)) :
    PI X tg (.Call (.Name "range" p) [a, b] [] pos) (tI T W fun r => (fa r).bind fun x r1 => (fb r1).bind fun y r2 => R.of (match res r2 [x, y] with | some [u, v] => rngD [u, v] | _ => none) r2) := by
  refine piImp (pi_range2 hg hm (pa_cons ha (pa_cons hb pa_nil (star_one hs' _ _)) (star_one hs _ _)) (by rw [star_one hs, star_one hs']; rfl) (by rw [star_one hs']; rfl)) fun σ H Q ⟨P, r, rs, go⟩ => ⟨P, r, rs, (Go.bind (anti_I T) go).mono fun u H1 ⟨P1, r1, x, a1, q1, e1, go1⟩ => ⟨P1, r1, a1.rs, (Go.bind (anti_I T) go1).mono fun v H2 ⟨P2, r2, y, a2, q2, e2, go2⟩ => ?_⟩⟩
  cases c : res r2 [x, y] with
  | none => rw [c] at go2; exact go2.elim
  | some ds =>
    obtain ⟨d, d', rfl, z1, z2⟩ := res2 a2.rs (rb2 q1 a2.st.pp q2) c
    rw [c] at go2
    dsimp only at go2
    cases d with
    | int n =>
      cases d' with
      | int m =>
        simp only [rngD] at go2
        split at go2
        · rename_i hn
          simp only [sm62_iff, Bool.and_eq_true] at hn
          exact ⟨n, m, by rw [z1.int, z2.int], ⟨hn.1.1, hn.1.2.1, hn.2.1, hn.2.2.1⟩, go2 _ P2 H2 (.refl a2.rs) (wk_rng P2 n m)⟩
        · exact go2.elim
      | _ => exact go2.elim
    | _ => exact go2.elim
end
theorem wk_enum {P : Hp} {a : Addr} {xs : List V} {ds : List D} (h : P a = some (.lst xs)) (q : Reps T P ds xs) : Wk T P (Ite T.K a) (enumD ds) where
  go := fun i H hi e => by
    have z : i < xs.length := by rw [q.length]; simpa [enumD] using hi
    exact ⟨xs, xs[i], .inl (.inl (e _ _ h)), List.getElem?_eq_getElem z⟩
  stop := fun H e => ⟨xs, .inl (.inl (e _ _ h)), by rw [q.length]; simp [enumD]⟩
  yld := fun i d H x H' Pc hd e1 e2 y => by
    obtain ⟨p, z, rfl, n, rfl, y⟩ := y
    have hi : i < ds.length := by
      have := (List.getElem?_eq_some_iff.mp hd).1
      simpa [enumD] using this
    have e3 : d = .tup [.int i, ds[i]] := by
      unfold enumD at hd
      rw [List.getElem?_zipWith, List.getElem?_range hi, List.getElem?_eq_getElem hi] at hd
      exact (Option.some.inj hd).symm
    obtain ⟨u, eu, ru⟩ := q.get (List.getElem?_eq_getElem hi)
    have z1 := y xs (.inl (.inl (e2 _ _ (e1 _ _ h))))
    rw [eu] at z1; cases z1
    exact .inr ⟨p, _, _, n, rfl, rfl, e3, .cons (by simp only [Rep]) (.cons (Rep.ext e1 _ _ ru) .nil)⟩
theorem di_enum (hK : X.K = T.K) {a : PySem.Expr} {p pos tpos : Pos} {elts : List PySem.Expr} {kk : Nat} {f : En → R Val} (hg : Gl X "enumerate") (hm : X.mg "enumerate" = none) (hs : notStar a = true) (ha : PE X a (tE T W f)) :
    PI X (.Tuple elts kk tpos) (.Call (.Name "enumerate" p) [a] [] pos) (tI T W fun r => (f r).bind fun v r1 => R.of ((lstD v.d).map enumD) r1) := by
  refine piImp (pi_enum hg hm (pa_cons ha pa_nil (star_one hs _ _)) (star_one hs _ _)) fun σ H Q ⟨P, r, rs, go⟩ => ⟨P, r, rs, (Go.bindS rs (anti_I T) go).mono fun u H1 ⟨P1, r1, v, a1, q1, e1, go1⟩ => ?_⟩
  cases c : v.d with
  | lst ds =>
    rw [c] at go1 q1
    simp only [Rep] at q1
    obtain ⟨b, xs, rfl, h1, h2⟩ := q1
    refine ⟨b, xs, rfl, .inl (.inl (a1.rs.sub _ _ h1)), ?_⟩
    rw [hK]
    exact go1 _ P1 H1 (.refl a1.rs) (wk_enum h1 h2)
  | _ => rw [c] at go1; exact go1.elim
end
end Z
/-! ZJ: list comprehensions. -/
namespace Z
open PySem PySem.Spec L2
open PyProof.Rows hiding St
theorem wip_len (r : En) : ∀ vs : List Nat, (wip r vs).length = r.length
  | [] => rfl
  | v :: vs => by simp only [wip]; rw [List.length_set, wip_len r vs]
theorem wip_in (r : En) : ∀ {vs : List Nat} {j : Nat} {x : Sl}, j ∈ vs → (wip r vs)[j]? = some x → x = .no
  | [], _, _, h, _ => by cases h
  | v :: vs, j, x, h, e => by
    simp only [wip] at e
    by_cases hv : v = j
    · subst hv
      by_cases z : v < (wip r vs).length
      · rw [List.getElem?_set_self z] at e; exact (Option.some.inj e).symm
      · rw [List.getElem?_eq_none (by simpa using z)] at e; cases e
    · rw [List.getElem?_set_ne hv] at e
      rcases List.mem_cons.mp h with h | h
      · exact absurd h.symm hv
      · exact wip_in r h e
theorem wip_out (r : En) : ∀ {vs : List Nat} {j : Nat}, j ∉ vs → (wip r vs)[j]? = r[j]?
  | [], _, _ => rfl
  | v :: vs, j, h => by
    simp only [List.mem_cons, not_or] at h
    simp only [wip]
    rw [List.getElem?_set_ne (Ne.symm h.1), wip_out r h.2]
theorem back_len (r0 r : En) : ∀ vs : List Nat, (back r0 r vs).length = r.length
  | [] => rfl
  | v :: vs => by simp only [back]; rw [List.length_set, back_len r0 r vs]
theorem back_in (r0 r : En) : ∀ {vs : List Nat} {j : Nat} {x : Sl}, j ∈ vs → (back r0 r vs)[j]? = some x → x = r0.getD j .no
  | [], _, _, h, _ => by cases h
  | v :: vs, j, x, h, e => by
    simp only [back] at e
    by_cases hv : v = j
    · subst hv
      by_cases z : v < (back r0 r vs).length
      · rw [List.getElem?_set_self z] at e; exact (Option.some.inj e).symm
      · rw [List.getElem?_eq_none (by simpa using z)] at e; cases e
    · rw [List.getElem?_set_ne hv] at e
      rcases List.mem_cons.mp h with h | h
      · exact absurd h.symm hv
      · exact back_in r0 r h e
theorem back_out (r0 r : En) : ∀ {vs : List Nat} {j : Nat}, j ∉ vs → (back r0 r vs)[j]? = r[j]?
  | [], _, _ => rfl
  | v :: vs, j, h => by
    simp only [List.mem_cons, not_or] at h
    simp only [back]
    rw [List.getElem?_set_ne (Ne.symm h.1), back_out r0 r h.2]
mutual
theorem bindT_out : ∀ (t : Tg) (d : D) (r r' : En), bindT t d r = some r' → r'.length = r.length ∧ ∀ j, j ∉ tgS t → r'[j]? = r[j]?
  | .v i, d, r, r', e => by
    simp only [bindT, En.put] at e
    split at e
    · cases e
    · cases e
      refine ⟨by rw [List.length_set], fun j h => ?_⟩
      simp only [tgS, List.mem_singleton] at h
      exact List.getElem?_set_ne (Ne.symm h)
    · cases e
  | .t ts, d, r, r', e => by
    cases d with
    | tup ds =>
      simp only [bindT] at e
      obtain ⟨h1, h2⟩ := bindTs_out ts ds r r' e
      exact ⟨h1, fun j h => h2 j (by simpa only [tgS] using h)⟩
    | lst ds =>
      simp only [bindT] at e
      obtain ⟨h1, h2⟩ := bindTs_out ts ds r r' e
      exact ⟨h1, fun j h => h2 j (by simpa only [tgS] using h)⟩
    | _ => simp [bindT] at e
theorem bindTs_out : ∀ (ts : List Tg) (ds : List D) (r r' : En), bindTs ts ds r = some r' → r'.length = r.length ∧ ∀ j, j ∉ tgSs ts → r'[j]? = r[j]?
  | [], [], r, r', e => by
    simp only [bindTs, Option.some.injEq] at e
    subst e
    exact ⟨rfl, fun _ _ => rfl⟩
  | [], _ :: _, r, r', e => by simp [bindTs] at e
  | _ :: _, [], r, r', e => by simp [bindTs] at e
  | t :: ts, d :: ds, r, r', e => by
    simp only [bindTs] at e
    cases c : bindT t d r with
    | none => rw [c] at e; cases e
    | some r1 =>
      rw [c] at e
      obtain ⟨h1, h2⟩ := bindT_out t d r r1 c
      obtain ⟨h3, h4⟩ := bindTs_out ts ds r1 r' e
      refine ⟨h3.trans h1, fun j h => ?_⟩
      simp only [tgSs, List.mem_append, not_or] at h
      exact (h4 j h.2).trans (h2 j h.1)
end
theorem nox_noexc {A : Type} (x : R A) (c : Nat) (v : D) (r : En) : x.nox ≠ .exc c v r := by cases x <;> simp [R.nox]
theorem lcL_noexc (f : D → En → R (Option D)) : ∀ (l : List D) (acc : List D) (r : En) (c : Nat) (v : D) (r' : En), lcL f l acc r ≠ .exc c v r'
  | [], acc, r, c, v, r', e => by simp [lcL] at e
  | x :: xs, acc, r, c, v, r', e => by
    simp only [lcL] at e
    cases h : (f x r).nox with
    | ok o r1 =>
      rw [h] at e
      simp only [R.bind_ok] at e
      cases o with
      | none => exact lcL_noexc f xs acc r1 c v r' e
      | some y =>
        dsimp only at e
        split at e
        · exact lcL_noexc f xs _ r1 c v r' e
        · cases e
    | exc c' v' r1 => exact nox_noexc _ _ _ _ h
    | bad => rw [h] at e; cases e
theorem nox_ok_inv {A : Type} {x : R A} {a : A} {r : En} (h : x.nox = .ok a r) : x = .ok a r := by
  cases x <;> simp [R.nox] at h ⊢; exact h
theorem lcL_inv {f : D → En → R (Option D)} {x : D} {xs acc : List D} {r r6 : En} {ds : List D} (h : lcL f (x :: xs) acc r = .ok ds r6) :
    ∃ o r1, f x r = .ok o r1 ∧ ((o = none ∧ lcL f xs acc r1 = .ok ds r6) ∨ ∃ y, o = some y ∧ acc.length < LINE ∧ lcL f xs (acc ++ [y]) r1 = .ok ds r6) := by
  simp only [lcL] at h
  cases e : (f x r).nox with
  | ok o r1 =>
    rw [e] at h
    simp only [R.bind_ok] at h
    refine ⟨o, r1, nox_ok_inv e, ?_⟩
    cases o with
    | none => exact .inl ⟨rfl, h⟩
    | some y =>
      dsimp only at h
      split at h
      · rename_i hl
        exact .inr ⟨y, rfl, hl, h⟩
      · cases h
  | exc c v r1 => rw [e] at h; cases h
  | bad => rw [e] at h; cases h
section
variable {T : Tb} {σ : St} {P H : Hp} {r : En}
theorem RS.wip (h : RS T P H σ r) (vs : List Nat) : RS T P H (wipe σ vs) (wip r vs) := by
  have get : ∀ (j : Nat) (x : Sl), (Z.wip r vs)[j]? = some x → x ≠ .no → j ∉ vs ∧ r[j]? = some x := fun j x e n => by
    by_cases z : j ∈ vs
    · exact absurd (wip_in r z e) n
    · rw [wip_out r z] at e; exact ⟨z, e⟩
  have so : ∀ j, j ∉ vs → (wipe σ vs)[j]? = σ[j]? := fun j z => L2.wipe_out z
  have own : ∀ j, OwnAt (Z.wip r vs) j → j ∉ vs ∧ OwnAt r j := fun j ⟨d, o⟩ => by
    rcases o with o | o
    · obtain ⟨z, e⟩ := get j _ o (by intro w; cases w)
      exact ⟨z, d, .inl e⟩
    · obtain ⟨z, e⟩ := get j _ o (by intro w; cases w)
      exact ⟨z, d, .inr e⟩
  refine ⟨h.sub, by rw [wip_len, L2.wipe_length]; exact h.len, fun j d e => ?_, fun j d e => ?_, fun j k a o1 o2 s1 s2 => ?_⟩
  · obtain ⟨z, e⟩ := get j _ e (by intro w; cases w)
    obtain ⟨v, e1, e2⟩ := h.sh j d e
    exact ⟨v, by rw [so j z]; exact e1, e2⟩
  · have e' : j ∉ vs ∧ (r[j]? = some (Sl.ow d) ∨ r[j]? = some (Sl.io d)) := by
      rcases e with e | e
      · obtain ⟨z, e⟩ := get j _ e (by intro w; cases w); exact ⟨z, .inl e⟩
      · obtain ⟨z, e⟩ := get j _ e (by intro w; cases w); exact ⟨z, .inr e⟩
    obtain ⟨a, e1, e2⟩ := h.own j d e'.2
    exact ⟨a, by rw [so j e'.1]; exact e1, e2⟩
  · obtain ⟨z1, o1⟩ := own j o1
    obtain ⟨z2, o2⟩ := own k o2
    rw [so j z1] at s1
    rw [so k z2] at s2
    exact h.dis j k a o1 o2 s1 s2
theorem own_wip (vs : List Nat) {a : Addr} (h : Own (wipe σ vs) (wip r vs) a) : Own σ r a := by
  obtain ⟨i, ⟨d, o⟩, s⟩ := h
  have z : i ∉ vs := fun z => by
    rcases o with o | o
    · exact nomatch wip_in r z o
    · exact nomatch wip_in r z o
  rw [wip_out r z] at o
  rw [L2.wipe_out z] at s
  exact ⟨i, ⟨d, o⟩, s⟩
theorem RS.updD (h : RS T P H σ r) {D : Addr} {o : HO} (n : P D = none) (no : ¬ Own σ r D) : RS T P (upd H D o) σ r :=
  h.grow (.refl _) (upd_sub h.sub n) fun a q => ⟨h.ownfree q, by rw [upd_ne (fun z => no (by rw [← z]; exact q))]⟩
end
def WF : WX := fun _ _ _ _ => False
section
variable {X : Cx} {T : Tb} {W : WX}
/-- the turn of a comprehension -/
def lcF (t : Tg) (fc : En → R Bool) (fe : En → R Val) (vs : List Nat) (x : D) (r2 : En) : R (Option D) :=
  (R.of (bindT t x (wip r2 vs)) r2).bind fun r3 _ => (fc r3).bind fun k r4 => if k = true then (fe r4).bind fun v r5 => .ok (some v.d) r5 else .ok none r4
theorem lcF_inv {t : Tg} {fc : En → R Bool} {fe : En → R Val} {vs : List Nat} {x : D} {r2 r5 : En} {o : Option D} (h : lcF t fc fe vs x r2 = .ok o r5) :
    ∃ r3 k r4, bindT t x (wip r2 vs) = some r3 ∧ fc r3 = .ok k r4 ∧ ((k = false ∧ o = none ∧ r5 = r4) ∨ (k = true ∧ ∃ v, fe r4 = .ok v r5 ∧ o = some v.d)) := by
  unfold lcF at h
  cases c : bindT t x (wip r2 vs) with
  | none => rw [c] at h; cases h
  | some r3 =>
    rw [c] at h
    simp only [R.of_some, R.bind_ok] at h
    cases c2 : fc r3 with
    | ok k r4 =>
      rw [c2] at h
      simp only [R.bind_ok] at h
      refine ⟨r3, k, r4, rfl, c2, ?_⟩
      cases k with
      | false =>
        simp only [Bool.false_eq_true, if_false] at h
        cases h
        exact .inl ⟨rfl, rfl, rfl⟩
      | true =>
        simp only [if_true] at h
        cases c3 : fe r4 with
        | ok v r6 =>
          rw [c3] at h
          simp only [R.bind_ok] at h
          cases h
          exact .inr ⟨rfl, v, rfl, rfl⟩
        | exc _ _ _ => rw [c3] at h; cases h
        | bad => rw [c3] at h; cases h
    | exc _ _ _ => rw [c2] at h; cases h
    | bad => rw [c2] at h; cases h
theorem de_lc00 {x : R (List D)} {t : Tg} {fc : En → R Bool} {fe : En → R Val} (vs : List Nat) (σ : St) (H : Hp) (Q : VK) (P : Hp) (r : En) (rs : RS T P H σ r)
    (go : Go T W (relV T) σ P H r (x.bind fun l r1 => if ownFree r1 vs && (tgS t).all vs.contains then
      (lcL (lcF t fc fe vs) l [] (wip r1 vs)).bind fun ds r6 => thawL r ds (back r1 r6 vs) else .bad) Q) :
    Go T W (relI T) σ P H r x fun J H1 => tLc (fun _ _ R => R J H1) (gD T t) (tK T WF fc) (tE T WF fe) vs σ H Q := by
  have gox := go
  refine (Go.bind (anti_V T) go).mono fun J H1 ⟨P1, r1, l, a1, wk, e1, go1⟩ => ?_
  unfold tLc
  by_cases cond : (ownFree r1 vs && (tgS t).all vs.contains) = true
  rotate_left
  · rw [if_neg cond] at go1; exact go1.elim
  rw [if_pos cond] at go1
  have condx := cond
  rw [Bool.and_eq_true] at cond
  obtain ⟨of, tin⟩ := cond
  have tin' : ∀ j, j ∈ tgS t → j ∈ vs := fun j h => by
    have z := List.all_eq_true.mp tin j h
    simpa using z
  intro D nD
  have hok : ∃ ds r6, lcL (lcF t fc fe vs) l [] (wip r1 vs) = .ok ds r6 := by
    cases c : lcL (lcF t fc fe vs) l [] (wip r1 vs) with
    | ok ds r6 => exact ⟨ds, r6, rfl⟩
    | exc c' v r' => exact absurd c (lcL_noexc _ _ _ _ _ _ _)
    | bad => rw [c] at go1; exact go1.elim
  obtain ⟨ds, r6, hok⟩ := hok
  have rs1 := a1.rs
  have nP : P1 D = none := rs1.sub.free nD
  have nO : ¬ Own σ r1 D := fun o => by
    obtain ⟨x, e⟩ := rs1.ownsome o
    rw [nD] at e; cases e
  -- the word of the loop
  let Pv : Nat → Hp → Prop := fun i H' => ∃ P' r2 acc accV, lcL (lcF t fc fe vs) (l.drop i) acc r2 = .ok ds r6 ∧ RS T P' H' (wipe σ vs) (wip r2 vs) ∧
    Stp (fun b => Own (wipe σ vs) (wip r1 vs) b ∨ b = D) P1 (upd H1 D (.lst [])) P' H' ∧ r2.length = r1.length ∧ (∀ (j : Nat) (x x' : Sl), j ∉ vs → r1[j]? = some x → r2[j]? = some x' → kle x x') ∧
    H' D = some (.lst accV) ∧ Reps T P' acc accV ∧ P' D = none
  have ownK : ∀ {r2 : En}, r2.length = r1.length → (∀ (j : Nat) (x x' : Sl), j ∉ vs → r1[j]? = some x → r2[j]? = some x' → kle x x') → ∀ b, Own (wipe σ vs) (wip r2 vs) b → Own (wipe σ vs) (wip r1 vs) b := fun {r2} hl hk b ⟨j, ⟨d, o⟩, s⟩ => by
    have z : j ∉ vs := fun z => by
      rcases o with o | o
      · exact nomatch wip_in r2 z o
      · exact nomatch wip_in r2 z o
    rw [wip_out r2 z] at o
    have hj : j < r1.length := by
      rw [← hl]
      rcases o with o | o <;> exact (List.getElem?_eq_some_iff.mp o).1
    have q := List.getElem?_eq_getElem hj
    refine ⟨j, ?_, s⟩
    rcases o with o | o
    · have w := hk j _ _ z q o
      cases c : r1[j] with
      | ow d' => exact ⟨d', .inl (by rw [wip_out r1 z, q, c])⟩
      | _ => rw [c] at w; exact False.elim w
    · have w := hk j _ _ z q o
      cases c : r1[j] with
      | io d' => exact ⟨d', .inr (by rw [wip_out r1 z, q, c])⟩
      | _ => rw [c] at w; exact False.elim w
  refine ⟨fun i m H' => m = l.length - i ∧ i ≤ l.length ∧ Pv i H', ⟨l.length, by simp, Nat.zero_le _, ?_⟩, ?_⟩
  · refine ⟨P1, wip r1 vs, [], [], by rw [List.drop_zero]; exact hok, ?_, .refl, wip_len r1 vs, fun j x x' z h1 h2 => ?_, upd_same, .nil, nP⟩
    · have z := (Aft.laidO (o := .lst []) rs1 nD).rs.wip vs
      have e : wip (wip r1 vs) vs = wip r1 vs := by
        apply List.ext_getElem?
        intro j
        by_cases z : j ∈ vs
        · by_cases hj : j < r1.length
          · have h1 : j < (wip (wip r1 vs) vs).length := by rw [wip_len, wip_len]; exact hj
            have h2 : j < (wip r1 vs).length := by rw [wip_len]; exact hj
            rw [List.getElem?_eq_getElem h1, List.getElem?_eq_getElem h2, wip_in _ z (List.getElem?_eq_getElem h1), wip_in _ z (List.getElem?_eq_getElem h2)]
          · rw [List.getElem?_eq_none (by rw [wip_len, wip_len]; omega), List.getElem?_eq_none (by rw [wip_len]; omega)]
        · rw [wip_out _ z]
      rw [e]
      exact z
    · rw [wip_out r1 z, h1] at h2
      cases h2
      exact kle.refl x
  · rintro i m H' ⟨rfl, hi, P', r2, acc, accV, heq, rs2, st2, len2, kd2, hD, hacc, pD⟩
    by_cases hlt : i < l.length
    · refine .inr ⟨wk.go i H' hlt (st2.pp.trans rs2.sub), Pv (i + 1), fun H2 pv => ⟨l.length - (i + 1), by omega, rfl, hlt, pv⟩, fun x H2 y => ?_⟩
      rw [List.drop_eq_getElem_cons hlt] at heq
      obtain ⟨o, r5, hf, hrest⟩ := lcL_inv heq
      obtain ⟨r3, k, r4, hb, hfc, hfe⟩ := lcF_inv hf
      -- the item
      have hyl : ∃ Pc, Aft T (wipe σ vs) P' H' (wip r2 vs) Pc H2 (wip r2 vs) ∧ Rep T Pc l[i] x := by
        rcases wk.yld i l[i] H' x H2 P' (List.getElem?_eq_getElem hlt) st2.pp rs2.sub y with ⟨rfl, rp⟩ | ⟨p, xs, es, np, rfl, rfl, e2, rp⟩
        · exact ⟨P', .refl rs2, rp⟩
        · refine ⟨upd P' p (.tup xs), Aft.laid rs2 np, ?_⟩
          rw [e2]
          simp only [Rep]
          exact ⟨p, xs, rfl, upd_same, Reps.ext (upd_ext (rs2.sub.free np)) _ _ rp⟩
      obtain ⟨Pc, ac, rx⟩ := hyl
      have nOw : ¬ Own (wipe σ vs) (wip r2 vs) D := fun o => nO (own_wip vs (ownK len2 kd2 D o))
      have hD2 : H2 D = some (.lst accV) := ac.st.fr _ _ hD nOw
      have pD2 : Pc D = none := by
        cases c : Pc D with
        | none => rfl
        | some o =>
          rcases ac.st.nw D (by rw [c]; intro z; cases z) with z | z | z
          · exact absurd pD z
          · exact absurd z (nt_lst hD)
          · exact absurd z nOw
      refine ⟨Pc, wip r2 vs, l[i], r3, ac.rs, rx, hb, fun σ2 aS ls os => ⟨?_, ?_⟩⟩
      · apply List.ext_getElem?
        intro j
        by_cases z : j ∈ vs
        · have both : ∀ τ : St, j < τ.length → (wipe τ vs)[j]? = some none := fun τ hj => by
            have h1 : j < (wipe τ vs).length := by rw [L2.wipe_length]; exact hj
            rw [List.getElem?_eq_getElem h1]
            cases c : (wipe τ vs)[j] with
            | none => rfl
            | some v =>
              have w : (wipe τ vs)[j]? = some (some v) := by rw [List.getElem?_eq_getElem h1, c]
              exact absurd z (L2.wipe_some w).2
          have ls' : σ2.length = σ.length := by rw [ls, L2.wipe_length]
          by_cases hj : j < σ.length
          · rw [both σ2 (by rw [ls']; exact hj), both σ hj]
          · rw [List.getElem?_eq_none (by rw [L2.wipe_length, ls']; omega), List.getElem?_eq_none (by rw [L2.wipe_length]; omega)]
        · rw [L2.wipe_out z, os j (fun w => z (tin' j w))]
      · have bo := bindT_out t l[i] (wip r2 vs) r3 hb
        have no3 : ¬ Own σ2 r3 D := fun o => by
          rcases aS.ow D o with z | z
          · exact nOw z
          · rw [hD2] at z; cases z
        refine ⟨Pc, r3, aS.rs, ?_⟩
        rw [hfc]
        intro k' P4 H4 a4 ek
        subst ek
        have hD4 : H4 D = some (.lst accV) := a4.st.fr _ _ hD2 no3
        have pD4 : P4 D = none := by
          cases c : P4 D with
          | none => rfl
          | some o =>
            rcases a4.st.nw D (by rw [c]; intro z; cases z) with z | z | z
            · exact absurd pD2 z
            · exact absurd z (nt_lst hD2)
            · exact absurd z no3
        have no4 : ¬ Own σ2 r4 D := fun o => no3 (a4.kd.owns o)
        have wσ : wipe σ2 vs = wipe σ vs := by
          apply List.ext_getElem?
          intro j
          by_cases z : j ∈ vs
          · have both : ∀ τ : St, j < τ.length → (wipe τ vs)[j]? = some none := fun τ hj => by
              have h1 : j < (wipe τ vs).length := by rw [L2.wipe_length]; exact hj
              rw [List.getElem?_eq_getElem h1]
              cases c : (wipe τ vs)[j] with
              | none => rfl
              | some v =>
                have w : (wipe τ vs)[j]? = some (some v) := by rw [List.getElem?_eq_getElem h1, c]
                exact absurd z (L2.wipe_some w).2
            have ls' : σ2.length = σ.length := by rw [ls, L2.wipe_length]
            by_cases hj : j < σ.length
            · rw [both σ2 (by rw [ls']; exact hj), both σ hj]
            · rw [List.getElem?_eq_none (by rw [L2.wipe_length, ls']; omega), List.getElem?_eq_none (by rw [L2.wipe_length]; omega)]
          · rw [L2.wipe_out z, os j (fun w => z (tin' j w))]
        -- from the turn's start to any later point
        have chain : ∀ {P5 H5 : Hp} {r5 : En}, Aft T σ2 Pc H2 r3 P5 H5 r5 → RS T P5 H5 (wipe σ vs) (wip r5 vs) ∧ Stp (fun b => Own (wipe σ vs) (wip r1 vs) b ∨ b = D) P1 (upd H1 D (.lst [])) P5 H5 ∧ r5.length = r1.length ∧
            (∀ (j : Nat) (x x' : Sl), j ∉ vs → r1[j]? = some x → r5[j]? = some x' → kle x x') := fun {P5 H5 r5} a5 => by
          refine ⟨by rw [← wσ]; exact a5.rs.wip vs, ?_, ?_, ?_⟩
          · refine (st2.trans ac.st fun c h => .inl (.inl (ownK len2 kd2 c h))).trans a5.st fun c h => ?_
            rcases aS.ow c h with z | z
            · exact .inl (.inl (ownK len2 kd2 c z))
            · exact .inr (st2.dm c (ac.st.dm c z))
          · rw [a5.kd.1, bo.1, wip_len, len2]
          · intro j x x' z h1 h2
            have hj : j < r2.length := by rw [len2]; exact (List.getElem?_eq_some_iff.mp h1).1
            have q2 := List.getElem?_eq_getElem hj
            have q3 : r3[j]? = some r2[j] := by rw [bo.2 j (fun w => z (tin' j w)), wip_out r2 z, q2]
            exact (kd2 j x _ z h1 q2).trans (a5.kd.2 j _ x' q3 h2)
        rcases hfe with ⟨rfl, rfl, rfl⟩ | ⟨rfl, v, hfe, rfl⟩
        · rw [if_neg Bool.false_ne_true]
          obtain ⟨c1, c2, c3, c4⟩ := chain a4
          rcases hrest with ⟨_, hr⟩ | ⟨_, z, _⟩
          · exact ⟨P4, r5, acc, accV, hr, c1, c2, c3, c4, hD4, Reps.ext (ac.st.pp.trans a4.st.pp) _ _ hacc, pD4⟩
          · cases z
        · rw [if_pos rfl]
          refine ⟨P4, r4, a4.rs, ?_⟩
          rw [hfe]
          intro u P5 H5 a5 rv
          obtain ⟨P6, a6, ex6, rp⟩ := RV.settle a4.rs a5 rv
          rcases hrest with ⟨z, _⟩ | ⟨y', ey, hlen, hr⟩
          · cases z
          cases ey
          have hD5 : H5 D = some (.lst accV) := a5.st.fr _ _ hD4 no4
          have a36 := a4.trans a6
          obtain ⟨c1, c2, c3, c4⟩ := chain a36
          have pD6 : P6 D = none := by
            cases c : P6 D with
            | none => rfl
            | some o =>
              rcases a6.st.nw D (by rw [c]; intro z; cases z) with z | z | z
              · exact absurd pD4 z
              · exact absurd z (nt_lst hD4)
              · exact absurd z no4
          have nOw5 : ¬ Own (wipe σ vs) (wip r5 vs) D := fun o => nO (own_wip vs (ownK c3 c4 D o))
          refine ⟨accV, hD5, by rw [hacc.length, ← LINE_eq]; exact hlen, P6, r5, acc ++ [v.d], accV ++ [u], hr, c1.updD pD6 nOw5, ⟨c2.pp, fun b o e n => ?_, fun b e => ?_, c2.nw⟩, c3, c4, upd_same, ?_, pD6⟩
          · have nb : b ≠ D := fun z => n (.inr z)
            rw [upd_ne nb]
            exact c2.fr b o e n
          · by_cases z : b = D
            · subst z; rw [upd_same] at e; cases e
            · rw [upd_ne z] at e; exact c2.dm b e
          · exact (Reps.ext (ac.st.pp.trans (a4.st.pp.trans a6.st.pp)) _ _ hacc).append (.cons rp .nil)
    · have ei : i = l.length := by omega
      subst ei
      refine .inl ⟨wk.stop H' (st2.pp.trans rs2.sub), ?_⟩
      rw [List.drop_length] at heq
      simp only [lcL] at heq
      rw [hok] at go1
      simp only [R.bind_ok] at go1
      obtain ⟨rfl, rfl⟩ : ds = acc ∧ r6 = r2 := by injection heq with h1 h2; exact ⟨h1.symm, h2.symm⟩
      -- back
      have get : ∀ (j : Nat) (x : Sl), (back r1 r6 vs)[j]? = some x → (j ∈ vs ∧ r1[j]? = some x) ∨ (j ∉ vs ∧ (wip r6 vs)[j]? = some x) := fun j x e => by
        by_cases z : j ∈ vs
        · have hj : j < r1.length := by rw [← len2, ← back_len r1 r6 vs]; exact (List.getElem?_eq_some_iff.mp e).1
          have w := back_in r1 r6 z e
          rw [List.getD_eq_getElem?_getD, List.getElem?_eq_getElem hj] at w
          exact .inl ⟨z, by rw [List.getElem?_eq_getElem hj, w]; rfl⟩
        · rw [back_out r1 r6 z] at e
          exact .inr ⟨z, by rw [wip_out r6 z]; exact e⟩
      have nio : ∀ j d, j ∈ vs → r1[j]? ≠ some (Sl.io d) := fun j d h e => by
        have z := List.all_eq_true.mp of j h
        rw [e] at z
        cases z
      have so : ∀ j, j ∉ vs → (wipe σ vs)[j]? = σ[j]? := fun j z => L2.wipe_out z
      have hid : ∀ j a, j ∈ vs → OwnAt r1 j → σ[j]? = some (some (.ref a)) → ¬ Own (wipe σ vs) (wip r1 vs) a ∧ a ≠ D := fun j a z o s => by
        refine ⟨fun ⟨k, ⟨d, w⟩, sk⟩ => ?_, fun e => nO (by rw [← e]; exact ⟨j, o, s⟩)⟩
        have zk : k ∉ vs := fun y => by
          rcases w with w | w
          · exact nomatch wip_in r1 y w
          · exact nomatch wip_in r1 y w
        rw [wip_out r1 zk] at w
        rw [so k zk] at sk
        have := rs1.dis j k a o ⟨d, w⟩ s sk
        exact zk (this ▸ z)
      have hold : ∀ j a, j ∈ vs → OwnAt r1 j → σ[j]? = some (some (.ref a)) → H' a = H1 a ∧ P' a = none := fun j a z o s => by
        obtain ⟨h1, h2⟩ := hid j a z o s
        have o1 : Own σ r1 a := ⟨j, o, s⟩
        obtain ⟨x, hx⟩ := rs1.ownsome o1
        have n1 : ¬ (Own (wipe σ vs) (wip r1 vs) a ∨ a = D) := fun w => w.elim h1 h2
        refine ⟨by rw [hx]; exact st2.fr a x (by rw [upd_ne h2]; exact hx) n1, ?_⟩
        cases c : P' a with
        | none => rfl
        | some y =>
          rcases st2.nw a (by rw [c]; intro w; cases w) with w | w | w
          · exact absurd (rs1.ownfree o1) w
          · exact absurd (fun o e => w o (by rw [upd_ne h2]; exact e)) (rs1.ownNT o1)
          · exact absurd w n1
      have ownB : ∀ (j : Nat), OwnAt (back r1 r6 vs) j → (j ∈ vs ∧ OwnAt r1 j) ∨ (j ∉ vs ∧ OwnAt (wip r6 vs) j) := fun j ⟨d, o⟩ => by
        rcases o with o | o
        · rcases get j _ o with ⟨z, e⟩ | ⟨z, e⟩
          · exact .inl ⟨z, d, .inl e⟩
          · exact .inr ⟨z, d, .inl e⟩
        · rcases get j _ o with ⟨z, e⟩ | ⟨z, e⟩
          · exact .inl ⟨z, d, .inr e⟩
          · exact .inr ⟨z, d, .inr e⟩
      have ownB1 : ∀ j, OwnAt (back r1 r6 vs) j → OwnAt r1 j := fun j o => by
        rcases ownB j o with ⟨z, o⟩ | ⟨z, ⟨d, o⟩⟩
        · exact o
        · rw [wip_out r6 z] at o
          have hj : j < r1.length := by
            rw [← len2]
            rcases o with o | o <;> exact (List.getElem?_eq_some_iff.mp o).1
          have q := List.getElem?_eq_getElem hj
          rcases o with o | o
          · have w := kd2 j _ _ z q o
            cases c : r1[j] with
            | ow d' => exact ⟨d', .inl (by rw [q, c])⟩
            | _ => rw [c] at w; exact False.elim w
          · have w := kd2 j _ _ z q o
            cases c : r1[j] with
            | io d' => exact ⟨d', .inr (by rw [q, c])⟩
            | _ => rw [c] at w; exact False.elim w
      have aft : Aft T σ P1 H1 r1 P' H' (back r1 r6 vs) := by
        refine ⟨⟨rs2.sub, by rw [back_len, len2]; exact rs1.len, fun j d e => ?_, fun j d e => ?_, fun j k a o1 o2 s1 s2 => ?_⟩, ⟨st2.pp, fun b o e n => ?_, fun b e => ?_, fun b e => ?_⟩, ⟨by rw [back_len, len2], fun j x x' h1 h2 => ?_⟩⟩
        · rcases get j _ e with ⟨z, e⟩ | ⟨z, e⟩
          · obtain ⟨v, e1, e2⟩ := rs1.sh j d e
            exact ⟨v, e1, Rep.ext st2.pp _ _ e2⟩
          · obtain ⟨v, e1, e2⟩ := rs2.sh j d e
            exact ⟨v, by rw [← so j z]; exact e1, e2⟩
        · have e' : (j ∈ vs ∧ (r1[j]? = some (Sl.ow d) ∨ r1[j]? = some (Sl.io d))) ∨ (j ∉ vs ∧ ((wip r6 vs)[j]? = some (Sl.ow d) ∨ (wip r6 vs)[j]? = some (Sl.io d))) := by
            rcases e with e | e
            · rcases get j _ e with ⟨z, e⟩ | ⟨z, e⟩
              · exact .inl ⟨z, .inl e⟩
              · exact .inr ⟨z, .inl e⟩
            · rcases get j _ e with ⟨z, e⟩ | ⟨z, e⟩
              · exact .inl ⟨z, .inr e⟩
              · exact .inr ⟨z, .inr e⟩
          rcases e' with ⟨z, e⟩ | ⟨z, e⟩
          · obtain ⟨a, e1, e2, e3⟩ := rs1.own j d e
            obtain ⟨h1, h2⟩ := hold j a z ⟨d, e⟩ e1
            exact ⟨a, e1, h2, e3.move st2.pp h1⟩
          · obtain ⟨a, e1, e2, e3⟩ := rs2.own j d e
            exact ⟨a, by rw [← so j z]; exact e1, e2, e3⟩
        · exact rs1.dis j k a (ownB1 j o1) (ownB1 k o2) s1 s2
        · have nb : b ≠ D := fun z => by rw [z, nD] at e; cases e
          exact st2.fr b o (by rw [upd_ne nb]; exact e) fun w => w.elim (fun q => n (own_wip vs q)) nb
        · have := st2.dm b e
          by_cases z : b = D
          · subst z; exact nD
          · rw [upd_ne z] at this; exact this
        · rcases st2.nw b e with w | w | w | w
          · exact .inl w
          · by_cases z : b = D
            · subst z; exact .inr (.inl (.of nD))
            · exact .inr (.inl fun o e => w o (by rw [upd_ne z]; exact e))
          · exact .inr (.inr (own_wip vs w))
          · subst w; exact absurd pD e
        · rcases get j _ h2 with ⟨z, e⟩ | ⟨z, e⟩
          · rw [h1] at e; cases e; exact kle.refl x
          · rw [wip_out r6 z] at e
            exact kd2 j x x' z h1 e
      have aft0 : Aft T σ P H r P' H' (back r1 r6 vs) := a1.trans aft
      have go2 : Go T W (relV T) σ P H r (thawL r ds (back r1 r6 vs)) Q := by
        rw [e1, R.bind_ok, if_pos condx, hok, R.bind_ok] at gox
        exact gox
      have rv : RV T H P' H' (.ow (.lst ds)) (.ref D) := ⟨D, rfl, pD, ⟨accV, hD, hacc⟩, a1.st.dm D nD⟩
      unfold thawL at go2
      by_cases fl : ds.all flat = true
      · rw [if_pos fl] at go2
        cases cw : thw r (back r1 r6 vs) with
        | none => rw [cw] at go2; exact go2 (.ref D) P' H' aft0 rv
        | some r2 =>
          rw [cw] at go2
          refine go2 (.ref D) P H' (thw_ok rs aft0 cw) ⟨D, rfl, ?_, ⟨accV, hD, flats_rep fl hacc⟩, a1.st.dm D nD⟩
          cases z : P D with
          | none => rfl
          | some w => rw [aft0.st.pp _ _ z] at pD; cases pD
      · rw [if_neg fl] at go2
        exact go2 (.ref D) P' H' aft0 rv
theorem de_lc0 {fi : En → R (List D)} {t : Tg} {fc : En → R Bool} {fe : En → R Val} (vs : List Nat) :
    ∀ (σ : St) (H : Hp) (Q : VK), tE T W (fun r => (fi r).bind fun l r1 => if ownFree r1 vs && (tgS t).all vs.contains then
      (lcL (lcF t fc fe vs) l [] (wip r1 vs)).bind fun ds r6 => thawL r ds (back r1 r6 vs) else .bad) σ H Q →
      tLc (tI T W fi) (gD T t) (tK T WF fc) (tE T WF fe) vs σ H Q :=
  fun σ H Q ⟨P, r, rs, go⟩ => ⟨P, r, rs, de_lc00 vs σ H Q P r rs go⟩
theorem de_lc {elt tg iter : PySem.Expr} {ifs : List PySem.Expr} {scope : Scope} {own : List (Str × Nat)} {pos : Pos} {fi : En → R (List D)} {t : Tg} {fc : En → R Bool} {fe : En → R Val}
    (hc : X.calm = true) (hN : X.N.Nodup) (hi : PI X tg iter (tI T W fi)) (ok : BlkOk X.N X.env.scope scope own)
    (hg : ∀ (s : Shared) (H : Hp) (C : Addr) (cl : List (Str × Addr)) (fp : List Addr), PG (X.blk s H scope (compEnvC scope cl C X.env) fp) tg (gD T t))
    (ht : ∀ (s : Shared) (H : Hp) (C : Addr) (cl : List (Str × Addr)) (fp : List Addr), PTs (X.blk s H scope (compEnvC scope cl C X.env) fp) ifs (tK T WF fc))
    (he : ∀ (s : Shared) (H : Hp) (C : Addr) (cl : List (Str × Addr)) (fp : List Addr), PE (X.blk s H scope (compEnvC scope cl C X.env) fp) elt (tE T WF fe))
    (hs : ∀ x, foldedSetIterable iter X.env x = pure x) :
    ∀ (σ : St) (H : Hp) (Q : VK), tE T W (fun r => (fi r).bind fun l r1 => if ownFree r1 (own.map (·.2)) && (tgS t).all (own.map (·.2)).contains then
      (lcL (lcF t fc fe (own.map (·.2))) l [] (wip r1 (own.map (·.2)))).bind fun ds r6 => thawL r ds (back r1 r6 (own.map (·.2))) else .bad) σ H Q →
      tLc (tI T W fi) (gD T t) (tK T WF fc) (tE T WF fe) (own.map (·.2)) σ H Q := fun σ H Q h => de_lc0 _ σ H Q h
end
end Z
/-! ZK: statements. -/
namespace Z
open PySem PySem.Spec L2
open PyProof.Rows hiding St
/-- what is handed back: a settled thing, a new one, or one that a local name owned -/
def RL (T : Tb) (σ : St) (r : En) (H P' H' : Hp) (v : Val) (u : V) : Prop :=
  match v with
  | .sh d => Rep T P' d u
  | .ow d => ∃ a, u = .ref a ∧ P' a = none ∧ RepO T P' H' a d ∧ (H a = none ∨ OwnL σ r a)
def GoS (T : Tb) (W : WX) (σ : St) (P H : Hp) (r : En) (o : O) (D : Ends) : Prop :=
  match o with
  | .nx r' => ∀ σ' P' H', AftS T σ P H r σ' P' H' r' → D.nx σ' H'
  | .ret v r' => ∀ u σ' P' H', AftS T σ P H r σ' P' H' r' → RL T σ r H P' H' v u → D.rt u H'
  | .brk r' => ∀ σ' P' H', AftS T σ P H r σ' P' H' r' → D.bk σ' H'
  | .cnt r' => ∀ σ' P' H', AftS T σ P H r σ' P' H' r' → D.ct σ' H'
  | .exc c d r' => ∀ u σ' P' H', AftS T σ P H r σ' P' H' r' → Rep T P' d u → W c u σ' H'
  | .bad => False
section
variable {T : Tb} {W : WX} {σ σ1 : St} {P H P1 H1 : Hp} {r r1 : En} {o : O} {D : Ends}
theorem RL.back (a : AftS T σ P H r σ1 P1 H1 r1) {P' H' : Hp} {v : Val} {u : V} (h : RL T σ1 r1 H1 P' H' v u) : RL T σ r H P' H' v u := by
  cases v with
  | sh d => exact h
  | ow d =>
    obtain ⟨b, e, n, ro, f⟩ := h
    refine ⟨b, e, n, ro, ?_⟩
    rcases f with f | f
    · exact .inl (a.st.dm b f)
    · exact (a.ol b f).symm
theorem GoS.step (a : AftS T σ P H r σ1 P1 H1 r1) (h : GoS T W σ P H r o D) : GoS T W σ1 P1 H1 r1 o D := by
  cases o with
  | nx r' => exact fun σ' P' H' b => h σ' P' H' (a.trans b)
  | ret v r' => exact fun u σ' P' H' b q => h u σ' P' H' (a.trans b) (q.back a)
  | brk r' => exact fun σ' P' H' b => h σ' P' H' (a.trans b)
  | cnt r' => exact fun σ' P' H' b => h σ' P' H' (a.trans b)
  | exc c d r' => exact fun u σ' P' H' b q => h u σ' P' H' (a.trans b) q
  | bad => exact h
theorem GoS.then {g : En → O} (h : GoS T W σ P H r (o.then g) D) :
    GoS T W σ P H r o { D with nx := fun σ1 H1 => ∃ P1 r1, AftS T σ P H r σ1 P1 H1 r1 ∧ o = .nx r1 ∧ GoS T W σ1 P1 H1 r1 (g r1) D } := by
  cases o with
  | nx r' => exact fun σ' P' H' b => ⟨P', r', b, rfl, GoS.step b h⟩
  | ret v r' => exact h
  | brk r' => exact h
  | cnt r' => exact h
  | exc c d r' => exact h
  | bad => exact h
theorem GoS.mono {D' : Ends} (h : GoS T W σ P H r o D) (k1 : ∀ σ H, D.nx σ H → D'.nx σ H) (k2 : ∀ u H, D.rt u H → D'.rt u H) (k3 : ∀ σ H, D.bk σ H → D'.bk σ H) (k4 : ∀ σ H, D.ct σ H → D'.ct σ H) : GoS T W σ P H r o D' := by
  cases o with
  | nx r' => exact fun σ' P' H' b => k1 _ _ (h σ' P' H' b)
  | ret v r' => exact fun u σ' P' H' b q => k2 _ _ (h u σ' P' H' b q)
  | brk r' => exact fun σ' P' H' b => k3 _ _ (h σ' P' H' b)
  | cnt r' => exact fun σ' P' H' b => k4 _ _ (h σ' P' H' b)
  | exc c d r' => exact h
  | bad => exact h
/-- an expression ahead of a statement's end -/
theorem GoS.run {A B : Type} {rel : Rel A B} {x : R A} {g : A → En → O} (h : GoS T W σ P H r (x.run g) D) :
    Go T W rel σ P H r x fun u H1 => ∃ P1 r1 v, Aft T σ P H r P1 H1 r1 ∧ rel H P1 H1 v u ∧ x = .ok v r1 ∧ GoS T W σ P1 H1 r1 (g v r1) D := by
  cases x with
  | ok v r' => exact fun u P' H' b q => ⟨P', r', v, b, q, rfl, GoS.step b.toS h⟩
  | exc c d r' => exact fun u P' H' b q => h u σ P' H' b.toS q
  | bad => exact h
/-- .. settled -/
theorem GoS.runS {x : R Val} {g : Val → En → O} (rs : RS T P H σ r) (h : GoS T W σ P H r (x.run g) D) :
    Go T W (relV T) σ P H r x fun u H1 => ∃ P1 r1 v, Aft T σ P H r P1 H1 r1 ∧ Rep T P1 v.d u ∧ x = .ok v r1 ∧ GoS T W σ P1 H1 r1 (g v r1) D := by
  refine (GoS.run h).mono fun u H1 ⟨P1, r1, v, a, q, e, h1⟩ => ?_
  obtain ⟨P2, a2, ex, rp⟩ := RV.settle rs a q
  refine ⟨P2, r1, v, a2, rp, e, ?_⟩
  subst e
  exact GoS.step a2.toS h
/-- .. with the slots' start kept: an owned value may be stored -/
theorem GoS.runW {x : R Val} {g : Val → En → O} (rs : RS T P H σ r) (h : GoS T W σ P H r (x.run g) D) :
    Go T W (relV T) σ P H r x fun u H1 => ∃ P1 r1 v, Aft T σ P H r P1 H1 r1 ∧ RW T σ H P1 H1 r1 v u ∧ x = .ok v r1 ∧ GoS T W σ P H r (g v r1) D := by
  refine (GoS.run h).mono fun u H1 ⟨P1, r1, v, a, q, e, h1⟩ => ⟨P1, r1, v, a, q.rw fun b o e => ?_, e, ?_⟩
  · obtain ⟨x, w⟩ := rs.ownsome (a.kd.owns o)
    rw [e] at w; cases w
  · subst e; exact h
end
/-- a statement's reading -/
def tD (T : Tb) (W : WX) (f : En → O) : TS := fun D σ H => ∃ P r, RS T P H σ r ∧ GoS T W σ P H r (f r) D
section
variable {X : Cx} {T : Tb} {W : WX} {st : Stmt}
theorem psImp {t t' : TS} (h : PS X st t) (k : ∀ D σ H, t' D σ H → t D σ H) : PS X st t' := ⟨fun pins s σ H D I q => h.run pins s σ H D I (k _ _ _ q)⟩
theorem pssImp {sts : List Stmt} {t t' : TS} (h : PSs X sts t) (k : ∀ D σ H, t' D σ H → t D σ H) : PSs X sts t' := ⟨fun pins s σ H D I q => h.run pins s σ H D I (k _ _ _ q)⟩
theorem dss_nil : PSs X [] (tD T W fun r => .nx r) := pssImp pss_nil fun D σ H ⟨P, r, rs, go⟩ => go σ P H (.refl rs)
theorem dss_cons {sts : List Stmt} {f g : En → O} (h1 : PS X st (tD T W f)) (h2 : PSs X sts (tD T W g)) : PSs X (st :: sts) (tD T W fun r => (f r).then g) :=
  pssImp (pss_cons h1 h2) fun D σ H ⟨P, r, rs, go⟩ => ⟨P, r, rs, (GoS.then go).mono (fun σ1 H1 ⟨P1, r1, a, _, q⟩ => ⟨P1, r1, a.rs, q⟩) (fun _ _ h => h) (fun _ _ h => h) (fun _ _ h => h)⟩
theorem ds_ex {e : PySem.Expr} {pos : Pos} {f : En → R Val} (he : PE X e (tE T W f)) (hs : swapsWith e none pos.line X.env = pure false) : PS X (.Expr e pos) (tD T W fun r => (f r).run fun _ r1 => .nx r1) :=
  psImp (ps_expr he hs) fun D σ H ⟨P, r, rs, go⟩ => ⟨P, r, rs, (GoS.run go).mono fun u H1 ⟨P1, r1, v, a, q, e, h1⟩ => h1 σ P1 H1 (.refl a.rs)⟩
theorem ds_ret {e : PySem.Expr} {pos : Pos} {f : En → R Val} (he : PE X e (tE T W f)) : PS X (.Return (some e) pos) (tD T W fun r => (f r).run fun v r1 => .ret v r1) :=
  psImp (ps_ret he) fun D σ H ⟨P, r, rs, go⟩ => ⟨P, r, rs, by
    dsimp only at go
    cases c : f r with
    | ok v r' =>
      rw [c] at go
      intro u P' H' b q
      refine go u σ P' H' b.toS ?_
      cases v with
      | sh d => exact q
      | ow d => obtain ⟨a, e, n, ro, f⟩ := q; exact ⟨a, e, n, ro, .inl f⟩
    | exc c' d r' => rw [c] at go; exact fun u P' H' b q => go u σ P' H' b.toS q
    | bad => rw [c] at go; exact go⟩
/-- return x: an owned thing is handed over -/
theorem ds_retv {C : Cf} {e : PySem.Expr} {pos : Pos} {i : Nat} (he : PE X e (tVar i)) : PS X (.Return (some e) pos) (tD T W fun r => (retV C (.var i) r).run fun v r1 => .ret v r1) :=
  psImp (ps_ret he) fun D σ H ⟨P, r, rs, go⟩ => by
    simp only [retV, isVar] at go
    cases c : r[i]? with
    | none => rw [c] at go; exact go.elim
    | some x =>
      rw [c] at go
      cases x with
      | no => exact go.elim
      | sh d => obtain ⟨v, e1, e2⟩ := rs.sh i d c; exact ⟨v, e1, go v σ P H (.refl rs) e2⟩
      | ow d =>
        obtain ⟨a, e1, n, ro⟩ := rs.own i d (.inl c)
        exact ⟨.ref a, e1, go (.ref a) σ P H (.refl rs) ⟨a, rfl, n, ro, .inr ⟨i, d, c, e1⟩⟩⟩
      | io d => exact go.elim
theorem ds_if {c : PySem.Expr} {a b : List Stmt} {pos : Pos} {t : En → R Bool} {f g : En → O} (hc : PT X c (tK T W t)) (ha : PSs X a (tD T W f)) (hb : PSs X b (tD T W g)) :
    PS X (.If c a b pos) (tD T W fun r => (t r).run fun k r1 => if k = true then f r1 else g r1) :=
  psImp (ps_if hc ha hb) fun D σ H ⟨P, r, rs, go⟩ => ⟨P, r, rs, (GoS.run go).mono fun k H1 ⟨P1, r1, v, a1, q, e, h1⟩ => by
    have q : k = v := q
    subst q
    cases k with
    | true => rw [if_pos rfl] at h1 ⊢; exact ⟨P1, r1, a1.rs, h1⟩
    | false => rw [if_neg Bool.false_ne_true] at h1 ⊢; exact ⟨P1, r1, a1.rs, h1⟩⟩
/-- x = e -/
theorem ds_set {te : TE} {i : Nat} {f : En → R Val} (h : PS X st (tAsg te (gName i))) (ht : ∀ σ H Q, tE T W f σ H Q → te σ H Q) : PS X st (tD T W fun r => (f r).run fun v r1 => O.of (r1.put i v)) :=
  psImp h fun D σ H ⟨P, r, rs, go⟩ => ht σ H _ ⟨P, r, rs, (GoS.runW rs go).mono fun u H1 ⟨P1, r1, v, a, q, e, h1⟩ => by
    cases c : r1.put i v with
    | none => rw [c] at h1; exact h1.elim
    | some r2 =>
      rw [c] at h1
      exact h1 _ P1 H1 (put_ok a.toS q c)⟩
/-- a, b = e -/
theorem ds_asgT {tg e : PySem.Expr} {pos : Pos} {f : En → R Val} {t : Tg} (he : PE X e (tE T W f)) (hg : PG X tg (gD T t)) (hs : swapsWithSole [tg] e pos.line X.env = pure false) (hw : swappedStores [tg] e X.env = pure none)
    (h1 : (assignEach [tg] X.env).map (·.2) = [assign tg X.env]) : PS X (.Assign [tg] e pos) (tD T W fun r => (f r).run fun v r1 => O.of (bindT t v.d r1)) :=
  psImp (ps_asg he hg hs hw h1) fun D σ H ⟨P, r, rs, go⟩ => ⟨P, r, rs, (GoS.runS rs go).mono fun u H1 ⟨P1, r1, v, a, q, e, h1⟩ => by
    cases c : bindT t v.d r1 with
    | none => rw [c] at h1; exact h1.elim
    | some r2 =>
      rw [c] at h1
      exact ⟨P1, r1, v.d, r2, a.rs, q, c, fun σ' aS _ _ => h1 σ' P1 H1 aS⟩⟩
/-- the thing that a slot owns is changed -/
theorem chg_ok {σ : St} {P H : Hp} {r r1 : En} {i : Nat} {d d' : D} {a : Addr} {o : HO} (rs : RS T P H σ r) (e0 : r.own? i = some d) (ea : σ[i]? = some (some (.ref a))) (e : r.chg i d' = some r1) (ro : RepO T P (upd H a o) a d') :
    Aft T σ P H r P (upd H a o) r1 := by
  have oi : OwnAt r i ∧ ∃ x, r[i]? = some x ∧ ((∃ d, x = .ow d ∧ r1 = r.set i (.ow d')) ∨ (∃ d, x = .io d ∧ r1 = r.set i (.io d'))) := by
    unfold En.chg at e
    cases c : r[i]? with
    | none => rw [c] at e; cases e
    | some x =>
      rw [c] at e
      cases x with
      | ow d => cases e; exact ⟨⟨d, .inl c⟩, _, rfl, .inl ⟨d, rfl, rfl⟩⟩
      | io d => cases e; exact ⟨⟨d, .inr c⟩, _, rfl, .inr ⟨d, rfl, rfl⟩⟩
      | _ => cases e
  obtain ⟨oi, x, cx, hx⟩ := oi
  obtain ⟨hi, hs⟩ := rs.get cx
  have own : Own σ r a := ⟨i, oi, ea⟩
  have pa : P a = none := rs.ownfree own
  obtain ⟨ox, hH⟩ := rs.ownsome own
  have key : ∃ y, r1 = r.set i y ∧ kle x y ∧ (∀ d2, y ≠ .sh d2) ∧ (∀ d2, (y = .ow d2 ∨ y = .io d2) → d2 = d') := by
    rcases hx with ⟨d2, rfl, rfl⟩ | ⟨d2, rfl, rfl⟩
    · exact ⟨_, rfl, trivial, fun _ h => (nomatch h), fun _ h => by rcases h with h | h <;> cases h; rfl⟩
    · exact ⟨_, rfl, trivial, fun _ h => (nomatch h), fun _ h => by rcases h with h | h <;> cases h; rfl⟩
  obtain ⟨y, rfl, hk, nsh, hy⟩ := key
  have ownJ : ∀ j, OwnAt (r.set i y) j → OwnAt r j := fun j ⟨d2, o2⟩ => by
    rcases o2 with o2 | o2
    · rcases set_get hi o2 with ⟨e1, _⟩ | ⟨_, e2⟩
      · rw [e1]; exact oi
      · exact ⟨d2, .inl e2⟩
    · rcases set_get hi o2 with ⟨e1, _⟩ | ⟨_, e2⟩
      · rw [e1]; exact oi
      · exact ⟨d2, .inr e2⟩
  refine ⟨⟨upd_sub rs.sub pa, by rw [List.length_set]; exact rs.len, fun j d2 z => ?_, fun j d2 z => ?_, fun j k b o1 o2 s1 s2 => rs.dis j k b (ownJ j o1) (ownJ k o2) s1 s2⟩, ⟨.refl _, fun b ob eb nb => ?_, fun b eb => ?_, fun b eb => .inl eb⟩, ⟨by rw [List.length_set], fun j x1 x2 h1 h2 => ?_⟩⟩
  · rcases set_get hi z with ⟨_, e2⟩ | ⟨_, e2⟩
    · exact absurd e2.symm (nsh d2)
    · exact rs.sh j d2 e2
  · have z' : (j = i ∧ (y = .ow d2 ∨ y = .io d2)) ∨ (j ≠ i ∧ (r[j]? = some (Sl.ow d2) ∨ r[j]? = some (Sl.io d2))) := by
      rcases z with z | z
      · rcases set_get hi z with ⟨e1, e2⟩ | ⟨n, e2⟩
        · exact .inl ⟨e1, .inl e2.symm⟩
        · exact .inr ⟨n, .inl e2⟩
      · rcases set_get hi z with ⟨e1, e2⟩ | ⟨n, e2⟩
        · exact .inl ⟨e1, .inr e2.symm⟩
        · exact .inr ⟨n, .inr e2⟩
    rcases z' with ⟨rfl, z'⟩ | ⟨n, z'⟩
    · rw [hy d2 z']
      exact ⟨a, ea, pa, ro⟩
    · obtain ⟨b, e1, e2, e3⟩ := rs.own j d2 z'
      have nb : b ≠ a := fun w => n (rs.dis j i b ⟨d2, z'⟩ oi e1 (by rw [w]; exact ea))
      exact ⟨b, e1, e2, e3.move (.refl _) (upd_ne nb)⟩
  · have nba : b ≠ a := fun w => nb (by rw [w]; exact own)
    rw [upd_ne nba]; exact eb
  · by_cases w : b = a
    · subst w; rw [upd_same] at eb; cases eb
    · rw [upd_ne w] at eb; exact eb
  · rcases set_get hi h2 with ⟨e1, e2⟩ | ⟨_, e2⟩
    · subst e1
      rw [cx] at h1; cases h1
      rw [e2]; exact hk
    · rw [h1] at e2; cases e2; exact kle.refl x1
theorem own_at {σ : St} {P H : Hp} {r : En} {i : Nat} {d : D} (rs : RS T P H σ r) (e : r.own? i = some d) : ∃ a, σ[i]? = some (some (.ref a)) ∧ P a = none ∧ RepO T P H a d := by
  unfold En.own? at e
  cases c : r[i]? with
  | none => rw [c] at e; cases e
  | some x =>
    rw [c] at e
    cases x with
    | ow d' => cases e; exact rs.own i d (.inl c)
    | io d' => cases e; exact rs.own i d (.inr c)
    | _ => cases e
/-- x[i] = e -/
theorem ds_seti {o ix e : PySem.Expr} {pos tpos : Pos} {i : Nat} {f g : En → R Val} (he : PE X e (tE T W f)) (ho : PE X o (tVar i)) (hi : PE X ix (tE T W g))
    (hs : swapsWithSole [.Subscript o ix tpos] e pos.line X.env = pure false) (hw : swappedStores [.Subscript o ix tpos] e X.env = pure none) (h1 : (assignEach [.Subscript o ix tpos] X.env).map (·.2) = [assign (.Subscript o ix tpos) X.env])
    (ha : ∀ v, assign (.Subscript o ix tpos) X.env v = (do
      let ov ← holding [v] (eval o X.env)
      let iv ← holding [v, ov] (eval ix X.env)
      standAt tpos
      holding [v, ov, iv] (setItem ov iv v)
      release [v, ov, iv] [])) :
    PS X (.Assign [.Subscript o ix tpos] e pos) (tD T W fun r => (f r).run fun v r1 => if (r1.own? i).isSome = true then (g r1).run fun k r2 => O.of ((r2.own? i).bind fun o => (setD o k.d v.d).bind fun d => r2.chg i d) else .bad) :=
  psImp (ps_asg he (pg_sub ho hi set_list ha) hs hw h1) fun D σ H ⟨P, r, rs, go⟩ => ⟨P, r, rs, (GoS.runS rs go).mono fun u H1 ⟨P1, r1, v, a1, q1, e1, go1⟩ => by
    by_cases hown : (r1.own? i).isSome = true
    rotate_left
    · rw [if_neg hown] at go1; exact go1.elim
    rw [if_pos hown] at go1
    obtain ⟨d0, hd0⟩ := Option.isSome_iff_exists.mp hown
    obtain ⟨a0, ea0, _, _⟩ := own_at a1.rs hd0
    obtain ⟨w, hw⟩ : ∃ w, σ[i]? = some (some w) := ⟨_, ea0⟩
    exact ⟨w, hw, P1, r1, a1.rs, (GoS.runS a1.rs go1).mono fun kx H2 ⟨P2, r2, k, a2, q2, e2, go2⟩ => by
      cases c : r2.own? i with
      | none => rw [c] at go2; exact go2.elim
      | some d =>
        rw [c] at go2
        simp only [Option.bind_some] at go2
        obtain ⟨a, ea, pa, ro⟩ := own_at a2.rs c
        rw [hw] at ea; cases ea
        cases d with
        | dct ks vs => simp [setD] at go2; exact go2.elim
        | dts ks => simp [setD] at go2; exact go2.elim
        | dtv ks vs => simp [setD] at go2; exact go2.elim
        | lst l =>
          obtain ⟨xs, hx, rx⟩ := ro
          cases c2 : setD (.lst l) k.d v.d with
          | none => rw [c2] at go2; exact go2.elim
          | some d' =>
            rw [c2] at go2
            simp only [Option.bind_some] at go2
            cases c3 : r2.chg i d' with
            | none => rw [c3] at go2; exact go2.elim
            | some r3 =>
              rw [c3] at go2
              cases ck : k.d with
              | int n =>
                rw [ck] at c2 q2
                simp only [Rep] at q2
                simp only [setD] at c2
                cases c4 : Z.ixN l.length n with
                | none => rw [c4] at c2; cases c2
                | some j =>
                  rw [c4] at c2
                  cases c2
                  refine ⟨a, xs, n, j, rfl, q2, hx, by rw [rx.length]; exact c4, go2 σ P2 _ (chg_ok a2.rs c hw c3 ?_).toS⟩
                  exact ⟨xs.set j u, upd_same, rx.set j (Rep.ext a2.st.pp _ _ q1)⟩
              | _ => rw [ck] at c2; simp [setD] at c2
        | _ => exact False.elim ro⟩⟩
end
end Z
/-! ZL: loops, several stores at once, methods that change. -/
namespace Z
open PySem PySem.Spec L2
open PyProof.Rows hiding St
section
variable {T : Tb} {W : WX} {σ : St} {P H : Hp} {r : En} {o : O} {D : Ends}
theorem GoS.turn {g : En → O} (h : GoS T W σ P H r (o.turn g) D) :
    GoS T W σ P H r o { D with nx := fun σ1 H1 => ∃ P1 r1, AftS T σ P H r σ1 P1 H1 r1 ∧ GoS T W σ1 P1 H1 r1 (g r1) D, ct := fun σ1 H1 => ∃ P1 r1, AftS T σ P H r σ1 P1 H1 r1 ∧ GoS T W σ1 P1 H1 r1 (g r1) D, bk := D.nx } := by
  cases o with
  | nx r' => exact fun σ' P' H' b => ⟨P', r', b, GoS.step b h⟩
  | cnt r' => exact fun σ' P' H' b => ⟨P', r', b, GoS.step b h⟩
  | ret v r' => exact h
  | brk r' => exact h
  | exc c d r' => exact h
  | bad => exact h
end
section
variable {X : Cx} {T : Tb} {W : WX} {st : Stmt}
theorem ds_for {tg iter : PySem.Expr} {body : List Stmt} {pos : Pos} {t : Tg} {fi : En → R (List D)} {fb : En → O} (hp : PassesOwn (model X.prog X.w) X.A X.env X.xe) (hc : X.calm = true) (hi : PI X tg iter (tI T W fi)) (hg : PG X tg (gD T t)) (hb : PSs X body (tD T W fb))
    (hs : ∀ x, foldedSetIterable iter X.env x = pure x) :
    PS X (.For tg iter body [] pos) (tD T W fun r => (fi r).run fun l r1 => forL (fun x r2 => (O.of (bindT t x r2)).then fun r3 => fb r3) l r1) :=
  psImp (ps_for hp hc hi hg hb hs) fun D σ H ⟨P, r, rs, go⟩ => ⟨P, r, rs, (GoS.run go).mono fun J H1 ⟨P1, r1, l, a1, wk, e1, go1⟩ => by
    have wk : Wk T P1 J l := wk
    refine ⟨fun i m σ' H' => m = l.length - i ∧ i ≤ l.length ∧ ∃ P' r2, AftS T σ P1 H1 r1 σ' P' H' r2 ∧ GoS T W σ' P' H' r2 (forL (fun x r2 => (O.of (bindT t x r2)).then fun r3 => fb r3) (l.drop i) r2) D,
      ⟨l.length, by simp, Nat.zero_le _, P1, r1, .refl a1.rs, by rw [List.drop_zero]; exact go1⟩, ?_⟩
    rintro i m σ' H' ⟨rfl, hi, P', r2, aS, go2⟩
    by_cases hlt : i < l.length
    · refine .inr ⟨wk.go i H' hlt (aS.st.pp.trans aS.rs.sub), fun σ2 H2 => ∃ P2 r3, AftS T σ P1 H1 r1 σ2 P2 H2 r3 ∧ GoS T W σ2 P2 H2 r3 (forL (fun x r2 => (O.of (bindT t x r2)).then fun r3 => fb r3) (l.drop (i + 1)) r3) D,
        fun σ2 H2 ⟨P2, r3, b, g⟩ => ⟨l.length - (i + 1), by omega, rfl, hlt, P2, r3, b, g⟩, fun x H2 y => ?_⟩
      rw [List.drop_eq_getElem_cons hlt] at go2
      have hyl : ∃ Pc, Aft T σ' P' H' r2 Pc H2 r2 ∧ Rep T Pc l[i] x := by
        rcases wk.yld i l[i] H' x H2 P' (List.getElem?_eq_getElem hlt) aS.st.pp aS.rs.sub y with ⟨rfl, rp⟩ | ⟨p, xs, es, np, rfl, rfl, e2, rp⟩
        · exact ⟨P', .refl aS.rs, rp⟩
        · refine ⟨upd P' p (.tup xs), Aft.laid aS.rs np, ?_⟩
          rw [e2]
          simp only [Rep]
          exact ⟨p, xs, rfl, upd_same, Reps.ext (upd_ext (aS.rs.sub.free np)) _ _ rp⟩
      obtain ⟨Pc, ac, rx⟩ := hyl
      simp only [forL] at go2
      cases c : bindT t l[i] r2 with
      | none => rw [c] at go2; exact go2.elim
      | some r3 =>
        rw [c] at go2
        simp only [O.of_some, O.then_nx] at go2
        refine ⟨Pc, r2, l[i], r3, ac.rs, rx, c, fun σ2 a2 _ _ => ⟨Pc, r3, a2.rs, ?_⟩⟩
        have a3 : AftS T σ' P' H' r2 σ2 Pc H2 r3 := ac.toS.trans a2
        refine (GoS.turn (GoS.step a3 go2)).mono (fun σ4 H4 ⟨P4, r4, b, g⟩ => ⟨P4, r4, (aS.trans a3).trans b, g⟩) (fun _ _ h => h) (fun _ _ h => h) (fun σ4 H4 ⟨P4, r4, b, g⟩ => ⟨P4, r4, (aS.trans a3).trans b, g⟩)
    · have e : i = l.length := by omega
      subst e
      rw [List.drop_length] at go2
      exact .inl ⟨wk.stop H' (aS.st.pp.trans aS.rs.sub), go2 σ' P' H' (.refl aS.rs)⟩⟩
theorem ds_whl {c : PySem.Expr} {body : List Stmt} {pos : Pos} {t : En → R Bool} {fb : En → O} (n : Nat) (hp : PassesOwn (model X.prog X.w) X.A X.env X.xe) (hc : PT X c (tK T W t)) (hb : PSs X body (tD T W fb)) :
    PS X (.While c body [] pos) (tD T W fun r => whlL t fb n r) :=
  psImp (ps_while hp hc hb) fun D σ H ⟨P, r, rs, go⟩ => by
    refine ⟨fun m σ H => ∃ P r, RS T P H σ r ∧ GoS T W σ P H r (whlL t fb m r) D, ⟨n, P, r, rs, go⟩, ?_⟩
    rintro m σ1 H1 ⟨P1, r1, rs1, go1⟩
    cases m with
    | zero => exact go1.elim
    | succ m =>
      simp only [whlL] at go1
      refine ⟨P1, r1, rs1, (GoS.run go1).mono fun k H2 ⟨P2, r2, k', a2, ek, e2, go2⟩ => ?_⟩
      have ek : k = k' := ek
      subst ek
      cases k with
      | true =>
        rw [if_pos rfl] at go2 ⊢
        refine ⟨fun σ3 H3 => ∃ P3 r3, RS T P3 H3 σ3 r3 ∧ GoS T W σ3 P3 H3 r3 (whlL t fb m r3) D, fun σ3 H3 h => ⟨m, Nat.lt_succ_self m, h⟩, P2, r2, a2.rs, ?_⟩
        exact (GoS.turn go2).mono (fun σ4 H4 ⟨P4, r4, b, g⟩ => ⟨P4, r4, b.rs, g⟩) (fun _ _ h => h) (fun _ _ h => h) (fun σ4 H4 ⟨P4, r4, b, g⟩ => ⟨P4, r4, b.rs, g⟩)
      | false =>
        rw [if_neg Bool.false_ne_true] at go2 ⊢
        exact go2 _ P2 H2 (.refl a2.rs)
/-! ### several stores at once -/
def owsOf : List Val → List V → List Addr
  | .ow _ :: vs, .ref a :: us => a :: owsOf vs us
  | _ :: vs, _ :: us => owsOf vs us
  | _, _ => []
def RVs (T : Tb) (H P' H' : Hp) : List Val → List V → Prop
  | [], us => us = []
  | v :: vs, us => ∃ u t, us = u :: t ∧ RV T H P' H' v u ∧ RVs T H P' H' vs t ∧ ∀ d a, v = .ow d → u = .ref a → a ∉ owsOf vs t
abbrev relVs (T : Tb) : Rel (List Val) (List V) := fun H P' H' vs us => RVs T H P' H' vs us
theorem anti_Vs (T : Tb) : Anti (relVs T) := by
  intro H H1 P' H' vs
  induction vs with
  | nil => intro us _ q; exact q
  | cons v vs ih =>
    intro us h q
    obtain ⟨u, t, e, q1, q2, q3⟩ := q
    exact ⟨u, t, e, anti_V T _ _ _ _ _ _ h q1, ih t h q2, q3⟩
def tV (T : Tb) (W : WX) (f : En → R (List Val)) : TA := fun σ H Q => ∃ P r, RS T P H σ r ∧ Go T W (relVs T) σ P H r (f r) Q
theorem dv_nil {C : Cf} : PA X [] (tV T W (evV C [])) := paImp pa_nil fun σ H Q ⟨P, r, rs, go⟩ => by
  simp only [evV] at go
  exact go [] P H (.refl rs) rfl
theorem owsOf_some {P' H' : Hp} {H : Hp} {a : Addr} : ∀ {vs : List Val} {us : List V}, RVs T H P' H' vs us → a ∈ owsOf vs us → H a = none ∧ ∃ x, H' a = some x
  | [], us, h, m => by cases us <;> cases m
  | v :: vs, us, h, m => by
    obtain ⟨u, t, rfl, q1, q2, q3⟩ := h
    cases v with
    | sh d =>
      have m' : a ∈ owsOf vs t := by cases u <;> exact m
      exact owsOf_some q2 m'
    | ow d =>
      obtain ⟨b, rfl, n, ro, f⟩ := q1
      rcases List.mem_cons.mp m with rfl | m
      · exact ⟨f, ro.some⟩
      · exact owsOf_some q2 m
/-- a value stays what it is -/
theorem RV.keep {σ : St} {P H P1 H1 P2 H2 : Hp} {r r1 r2 : En} {v : Val} {u : V} (rs : RS T P H σ r) (a : Aft T σ P H r P1 H1 r1) (h : RV T H P1 H1 v u) (b : Aft T σ P1 H1 r1 P2 H2 r2) : RV T H P2 H2 v u := by
  cases v with
  | sh d => exact Rep.ext b.st.pp _ _ h
  | ow d =>
    obtain ⟨c, e, n, ro, f⟩ := h
    obtain ⟨x, hx⟩ := ro.some
    have no : ¬ Own σ r1 c := fun o => by
      obtain ⟨y, hy⟩ := rs.ownsome (a.kd.owns o)
      rw [f] at hy; cases hy
    have hk : H2 c = some x := b.st.fr _ _ hx no
    refine ⟨c, e, ?_, ro.move b.st.pp (hk.trans hx.symm), f⟩
    cases z : P2 c with
    | none => rfl
    | some y =>
      rcases b.st.nw c (by rw [z]; intro w; cases w) with w | w | w
      · exact absurd n w
      · exact absurd w ro.nt
      · exact absurd w no
theorem dv_cons {e : PySem.Expr} {es : List PySem.Expr} {f : En → R Val} {g : En → R (List Val)} (hs : notStar e = true) (ha : PE X e (tE T W f)) (hb : PA X es (tV T W g)) :
    PA X (e :: es) (tV T W fun r => (f r).bind fun v r1 => (g r1).bind fun vs r2 => .ok (v :: vs) r2) := by
  refine paImp (pa_cons ha hb (star_one hs es X.env)) fun σ H Q ⟨P, r, rs, go⟩ => ⟨P, r, rs, (Go.bind (anti_Vs T) go).mono fun u H1 ⟨P1, r1, v, a1, q1, e1, go1⟩ => ⟨P1, r1, a1.rs, (Go.bind (anti_Vs T) go1).mono fun us H2 ⟨P2, r2, vs, a2, q2, e2, go2⟩ => ?_⟩⟩
  have k : RVs T H P2 H2 (v :: vs) (u :: us) := by
    refine ⟨u, us, rfl, RV.keep rs a1 q1 a2, anti_Vs T _ _ _ _ _ _ a1.st.dm q2, fun d b ev eu m => ?_⟩
    subst ev
    obtain ⟨c, ec, n, ro, f⟩ := q1
    rw [eu] at ec; cases ec
    obtain ⟨x, hx⟩ := ro.some
    have := (owsOf_some q2 m).1
    rw [hx] at this; cases this
  -- the continuation starts behind both, the relation at the whole's start
  have go3 : Go T W (relVs T) σ P H r (.ok (v :: vs) r2) Q := by
    dsimp only at go
    rw [e1] at go
    simp only [R.bind_ok] at go
    rw [e2] at go
    exact go
  exact go3 (u :: us) P2 H2 (a1.trans a2) k
def setsV (σ : St) : List Nat → List V → St
  | i :: is, v :: vs => setsV (σ.set i (some v)) is vs
  | _, _ => σ
theorem puts_ok {σ0 : St} {P0 H0 : Hp} {r0 : En} : ∀ {is : List Nat} {vs : List Val} {us : List V} {σ : St} {P H : Hp} {r r1 : En}, AftS T σ0 P0 H0 r0 σ P H r → RVs T H0 P H vs us → (∀ a, a ∈ owsOf vs us → ¬ Own σ r a) → puts r is vs = some r1 →
    AftS T σ0 P0 H0 r0 (setsV σ is us) P H r1
  | [], [], us, σ, P, H, r, r1, a, q, no, e => by
    simp only [puts, Option.some.injEq] at e
    subst e
    cases q
    exact a
  | [], _ :: _, _, _, _, _, _, _, _, _, _, e => by simp [puts] at e
  | _ :: _, [], _, _, _, _, _, _, _, _, _, e => by simp [puts] at e
  | i :: is, v :: vs, us, σ, P, H, r, r1, a, q, no, e => by
    obtain ⟨u, t, rfl, q1, q2, q3⟩ := q
    simp only [puts] at e
    cases c : r.put i v with
    | none => rw [c] at e; cases e
    | some r2 =>
      rw [c] at e
      have q1' : RW T σ H0 P H r v u := by
        cases v with
        | sh d => exact q1
        | ow d =>
          obtain ⟨b, eb, n, ro, f⟩ := q1
          subst eb
          exact ⟨b, rfl, n, ro, no b List.mem_cons_self, f⟩
      have a2 := put_ok a q1' c
      show AftS T σ0 P0 H0 r0 (setsV (σ.set i (some u)) is t) P H r1
      refine puts_ok a2 q2 (fun b m o => ?_) e
      -- b is not owned behind the store
      have hb := owsOf_some q2 m
      have m' : b ∈ owsOf (v :: vs) (u :: t) := by
        cases v with
        | sh d => cases u <;> exact m
        | ow d =>
          obtain ⟨b', eb, _⟩ := q1
          subst eb
          exact List.mem_cons_of_mem _ m
      obtain ⟨j, ⟨d, oj⟩, sj⟩ := o
      have hlen : i < r.length ∧ r2 = r.set i v.sl := by
        unfold En.put at c
        cases c3 : r[i]? with
        | none => rw [c3] at c; cases c
        | some x =>
          rw [c3] at c
          have hi := (List.getElem?_eq_some_iff.mp c3).1
          cases x with
          | io d => cases c
          | _ => exact ⟨hi, (Option.some.inj c).symm⟩
      obtain ⟨hi, rfl⟩ := hlen
      have hs : i < σ.length := by rw [← a.rs.len]; exact hi
      by_cases z : j = i
      · subst z
        rw [List.getElem?_set_self hi] at oj
        rw [List.getElem?_set_self hs] at sj
        cases v with
        | sh d' => rcases oj with oj | oj <;> cases oj
        | ow d' =>
          cases sj
          exact q3 d' b rfl rfl m
      · rw [List.getElem?_set_ne (Ne.symm z)] at oj sj
        exact no b m' ⟨j, ⟨d, oj⟩, sj⟩
theorem no_own {σ : St} {P H P1 H1 : Hp} {r r1 : En} {vs : List Val} {us : List V} (rs : RS T P H σ r) (a : Aft T σ P H r P1 H1 r1) (q : RVs T H P1 H1 vs us) : ∀ b, b ∈ owsOf vs us → ¬ Own σ r1 b := fun b m o => by
  obtain ⟨x, hx⟩ := rs.ownsome (a.kd.owns o)
  have := (owsOf_some q m).1
  rw [hx] at this; cases this
theorem parW {σ : St} {P H : Hp} {r : En} {x : R (List Val)} {g : List Val → En → O} {D : Ends} (h : GoS T W σ P H r (x.run g) D) :
    Go T W (relVs T) σ P H r x fun us H1 => ∃ P1 r1 vs, Aft T σ P H r P1 H1 r1 ∧ RVs T H P1 H1 vs us ∧ x = .ok vs r1 ∧ GoS T W σ P H r (g vs r1) D :=
  (GoS.run h).mono fun us H1 ⟨P1, r1, v, a, q, e, h1⟩ => ⟨P1, r1, v, a, q, e, by subst e; exact h⟩
theorem rvs_len {H P' H' : Hp} : ∀ {vs : List Val} {us : List V}, RVs T H P' H' vs us → us.length = vs.length
  | [], us, h => by cases h; rfl
  | v :: vs, us, h => by
    obtain ⟨u, t, rfl, _, q, _⟩ := h
    simp [rvs_len q]
theorem puts_len : ∀ {is : List Nat} {vs : List Val} {r r1 : En}, puts r is vs = some r1 → vs.length = is.length
  | [], [], _, _, _ => rfl
  | [], _ :: _, _, _, e => by simp [puts] at e
  | _ :: _, [], _, _, e => by simp [puts] at e
  | i :: is, v :: vs, r, r1, e => by
    simp only [puts] at e
    cases c : r.put i v with
    | none => rw [c] at e; cases e
    | some r2 => rw [c] at e; simp [puts_len e]
theorem ds_par2 {i j : Nat} {ta : TA} {f : En → R (List Val)} (h : PS X st (tPar i j ta)) (ht : ∀ σ H Q, tV T W f σ H Q → ta σ H Q) (hij : i ≠ j) :
    PS X st (tD T W fun r => (f r).run fun vs r1 => if [i, j].Nodup then O.of (puts r1 [i, j] vs) else .bad) :=
  psImp h fun D σ H ⟨P, r, rs, go⟩ => ht σ H _ ⟨P, r, rs, (parW go).mono fun us H1 ⟨P1, r1, vs, a, q, e, h1⟩ => by
    rw [if_pos (by simp [hij])] at h1
    cases c : puts r1 [i, j] vs with
    | none => rw [c] at h1; exact h1.elim
    | some r2 =>
      rw [c] at h1
      have l : us.length = 2 := by rw [rvs_len q, puts_len c]; rfl
      match us, l with
      | [u, w], _ => exact ⟨u, w, rfl, h1 _ P1 H1 (puts_ok a.toS q (no_own rs a q) c)⟩⟩
/-- names, one after another -/
def gNs : List Nat → TGs
  | [] => gNil
  | i :: is => gCons (gName i) (gNs is)
theorem gNs_run : ∀ (is : List Nat) (us : List V) (σ : St) (H : Hp) (Q : St → Hp → Prop), us.length = is.length → Q (setsV σ is us) H → gNs is us σ H Q
  | [], [], σ, H, Q, _, q => ⟨rfl, q⟩
  | [], _ :: _, _, _, _, l, _ => by cases l
  | _ :: _, [], _, _, _, l, _ => by cases l
  | i :: is, u :: us, σ, H, Q, l, q => ⟨u, us, rfl, gNs_run is us _ H Q (by simpa using l) q⟩
theorem ds_parT (hc : X.calm = true) {tes es : List PySem.Expr} {k k' : Nat} {tp ep pos : Pos} {is : List Nat} {f : En → R (List Val)} (hg : PGs X tes (gNs is)) (ha : PA X es (tV T W f)) (hl : (assignEach tes X.env).length = is.length) (hst : (assignEach tes X.env).findIdx? (·.1) = none)
    (hs : swapsWithSole [.Tuple tes k tp] (.Tuple es k' ep) pos.line X.env = pure false) (hw : swappedStores [.Tuple tes k tp] (.Tuple es k' ep) X.env = pure none) (h1 : (assignEach [.Tuple tes k tp] X.env).map (·.2) = [assign (.Tuple tes k tp) X.env])
    (hn : is.Nodup) (hsz : is.length ≤ 1000) :
    PS X (.Assign [.Tuple tes k tp] (.Tuple es k' ep) pos) (tD T W fun r => (f r).run fun vs r1 => if is.Nodup then O.of (puts r1 is vs) else .bad) :=
  psImp (ps_asg (pe_tup ha) (pg_tup hc hg hl hst) hs hw h1) fun D σ H ⟨P, r, rs, go⟩ => ⟨P, r, rs, (parW go).mono fun us H1 ⟨P1, r1, vs, a, q, e, h1⟩ => by
    rw [if_pos hn] at h1
    cases c : puts r1 is vs with
    | none => rw [c] at h1; exact h1.elim
    | some r2 =>
      rw [c] at h1
      have l : us.length = is.length := by rw [rvs_len q, puts_len c]
      refine ⟨by rw [l, sizeLine_eq]; omega, fun p np => ?_⟩
      refine ⟨p, us, rfl, .inl (.inl upd_same), l, gNs_run is us σ _ _ l ?_⟩
      have a2 : Aft T σ P1 H1 r1 P1 (upd H1 p (.tup us)) r1 := Aft.laidO a.rs np
      have q2 : RVs T H P1 (upd H1 p (.tup us)) vs us := by
        clear h1 c l
        revert q
        generalize hH2 : upd H1 p (.tup us) = H2 at *
        clear hH2
        intro q
        have key : ∀ (vs : List Val) (ws : List V), RVs T H P1 H1 vs ws → RVs T H P1 H2 vs ws := by
          intro vs
          induction vs with
          | nil => intro ws q; exact q
          | cons v vs ih =>
            intro ws q
            obtain ⟨u, t, e, q1, q2, q3⟩ := q
            exact ⟨u, t, e, RV.keep rs a q1 a2, ih t q2, q3⟩
        exact key vs us q
      exact h1 _ P1 _ (puts_ok (a.toS.trans a2.toS) q2 (no_own rs (a.trans a2) q2) c)⟩
end
end Z
/-! ZM: defs: what a call hands over and gets back. -/
namespace Z
open PySem PySem.Spec L2
open PyProof.Rows hiding St
/-- a def keeps a promise wherever no repr is under way -/
structure FnG (T : Tb) (k : Nat) (f : Addr) (fd : FuncData) (ps : List Str) (sp : Sp) : Prop where
  len : ∀ vs H Q E, sp vs H Q E → vs.length = ps.length
  run : ∀ (A : Around) (outer : List PySem.Env) (s : Shared) (H : Hp) (args : Args) (us : List Value) (vs : List V) (Q : VK) (E : XK), Room k A → A.guards = some [] →
    Env0 T.P T.w T.K T.mg T.base A outer s H → BindsTo s fd args (ps.zip us) → Vals vs us → sp vs H Q E →
    codeAny (model T.P T.w) A (.call (.ref f) args) (L2.CR L2.CX0 outer T.P T.w H s Q E) s
/-- the addresses of the changed parameters -/
def ioA : List Bool → List V → List Addr
  | true :: ms, .ref a :: vs => a :: ioA ms vs
  | _ :: ms, _ :: vs => ioA ms vs
  | _, _ => []
/-- the arguments lie so -/
def RArgs (T : Tb) (P H : Hp) : List Bool → List D → List V → Prop
  | [], [], vs => vs = []
  | false :: ms, d :: ds, vs => ∃ v t, vs = v :: t ∧ Rep T P d v ∧ RArgs T P H ms ds t
  | true :: ms, d :: ds, vs => ∃ a t, vs = .ref a :: t ∧ P a = none ∧ RepO T P H a d ∧ RArgs T P H ms ds t ∧ a ∉ ioA ms t
  | _, _, _ => False
/-- the changed parameters' things behind a call -/
def ROuts (T : Tb) (P' H' : Hp) : List Addr → List D → Prop
  | [], ds => ds = []
  | a :: as, ds => ∃ d t, ds = d :: t ∧ P' a = none ∧ RepO T P' H' a d ∧ ROuts T P' H' as t
structure AftC (T : Tb) (as : List Addr) (P H P' H' : Hp) (outs : List D) : Prop where
  sub : Ext P' H'
  pp : Ext P P'
  fr : ∀ b o, H b = some o → b ∉ as → H' b = some o
  dm : ∀ b, H' b = none → H b = none
  nw : ∀ b, P' b ≠ none → P b ≠ none ∨ NT H b
  outs : ROuts T P' H' as outs
def GoC (T : Tb) (as : List Addr) (P H : Hp) (c : CR) (Q : VK) : Prop :=
  match c with
  | .ok v outs => ∀ u P' H', AftC T as P H P' H' outs → RV T H P' H' v u → Q u H'
  | .exc _ _ _ => False
  | .bad => False
def spD (T : Tb) (ms : List Bool) (c : List D → CR) : Sp := fun vs H Q _ => ∃ P ds, Ext P H ∧ RArgs T P H ms ds vs ∧ GoC T (ioA ms vs) P H (c ds) Q
theorem RArgs.len {T : Tb} {P H : Hp} : ∀ {ms : List Bool} {ds : List D} {vs : List V}, RArgs T P H ms ds vs → ds.length = ms.length ∧ vs.length = ms.length
  | [], [], vs, h => by cases h; exact ⟨rfl, rfl⟩
  | [], _ :: _, _, h => by cases h
  | true :: _, [], _, h => by cases h
  | false :: _, [], _, h => by cases h
  | false :: ms, d :: ds, vs, h => by
    obtain ⟨v, t, rfl, _, h⟩ := h
    obtain ⟨h1, h2⟩ := h.len
    exact ⟨by simp [h1], by simp [h2]⟩
  | true :: ms, d :: ds, vs, h => by
    obtain ⟨v, t, rfl, _, _, h, _⟩ := h
    obtain ⟨h1, h2⟩ := h.len
    exact ⟨by simp [h1], by simp [h2]⟩
/-- the callee's slots -/
theorem start_get {T : Tb} {P H : Hp} : ∀ {ms : List Bool} {ds : List D} {vs : List V}, RArgs T P H ms ds vs →
    (∀ (i : Nat) (d : D), (ms.zipWith (fun m d => if m then Sl.io d else Sl.sh d) ds)[i]? = some (Sl.sh d) → ∃ v, vs[i]? = some v ∧ Rep T P d v) ∧
    (∀ (i : Nat) (d : D), (ms.zipWith (fun m d => if m then Sl.io d else Sl.sh d) ds)[i]? = some (Sl.io d) → ∃ a, vs[i]? = some (.ref a) ∧ P a = none ∧ RepO T P H a d ∧ a ∈ ioA ms vs) ∧
    (∀ (i : Nat) (d : D), (ms.zipWith (fun m d => if m then Sl.io d else Sl.sh d) ds)[i]? ≠ some (Sl.ow d)) ∧
    (∀ (i j : Nat) (d d' : D) (a : Addr), (ms.zipWith (fun m d => if m then Sl.io d else Sl.sh d) ds)[i]? = some (Sl.io d) → (ms.zipWith (fun m d => if m then Sl.io d else Sl.sh d) ds)[j]? = some (Sl.io d') → vs[i]? = some (.ref a) → vs[j]? = some (.ref a) → i = j)
  | [], [], vs, h => by simp
  | [], _ :: _, _, h => by cases h
  | true :: _, [], _, h => by cases h
  | false :: _, [], _, h => by cases h
  | false :: ms, d :: ds, vs, h => by
    obtain ⟨v, t, rfl, hv, h⟩ := h
    obtain ⟨h1, h2, h3, h4⟩ := start_get h
    refine ⟨fun i d' e => ?_, fun i d' e => ?_, fun i d' e => ?_, fun i j d1 d2 a e1 e2 s1 s2 => ?_⟩
    · cases i with
      | zero => simp at e; subst e; exact ⟨v, rfl, hv⟩
      | succ i => exact h1 i d' (by simpa using e)
    · cases i with
      | zero => simp at e
      | succ i =>
        obtain ⟨a, e1, e2, e3, e4⟩ := h2 i d' (by simpa using e)
        exact ⟨a, e1, e2, e3, by cases v <;> exact e4⟩
    · cases i with
      | zero => simp at e
      | succ i => exact h3 i d' (by simpa using e)
    · cases i with
      | zero => simp at e1
      | succ i =>
        cases j with
        | zero => simp at e2
        | succ j => rw [h4 i j d1 d2 a (by simpa using e1) (by simpa using e2) (by simpa using s1) (by simpa using s2)]
  | true :: ms, d :: ds, vs, h => by
    obtain ⟨b, t, rfl, n, ro, h, nb⟩ := h
    obtain ⟨h1, h2, h3, h4⟩ := start_get h
    refine ⟨fun i d' e => ?_, fun i d' e => ?_, fun i d' e => ?_, fun i j d1 d2 a e1 e2 s1 s2 => ?_⟩
    · cases i with
      | zero => simp at e
      | succ i => exact h1 i d' (by simpa using e)
    · cases i with
      | zero => simp at e; subst e; exact ⟨b, rfl, n, ro, List.mem_cons_self⟩
      | succ i =>
        obtain ⟨a, e1, e2, e3, e4⟩ := h2 i d' (by simpa using e)
        exact ⟨a, e1, e2, e3, List.mem_cons_of_mem _ e4⟩
    · cases i with
      | zero => simp at e
      | succ i => exact h3 i d' (by simpa using e)
    · cases i with
      | zero =>
        cases j with
        | zero => rfl
        | succ j =>
          simp at s1
          subst s1
          obtain ⟨a', q1, q2, q3, q4⟩ := h2 j d2 (by simpa using e2)
          have s2' : t[j]? = some (.ref b) := by simpa using s2
          rw [s2'] at q1; cases q1
          exact absurd q4 nb
      | succ i =>
        cases j with
        | zero =>
          simp at s2
          subst s2
          obtain ⟨a', q1, q2, q3, q4⟩ := h2 i d1 (by simpa using e1)
          have s1' : t[i]? = some (.ref b) := by simpa using s1
          rw [s1'] at q1; cases q1
          exact absurd q4 nb
        | succ j => rw [h4 i j d1 d2 a (by simpa using e1) (by simpa using e2) (by simpa using s1) (by simpa using s2)]
theorem start_rs {T : Tb} {P H : Hp} {ms : List Bool} {ds : List D} {vs : List V} {N : List Str} (e : Ext P H) (h : RArgs T P H ms ds vs) (hn : ms.length ≤ N.length) :
    RS T P H (L2.start N vs) (En.start ms N.length ds) ∧ (∀ b, Own (L2.start N vs) (En.start ms N.length ds) b → b ∈ ioA ms vs) ∧ ∀ b, ¬ OwnL (L2.start N vs) (En.start ms N.length ds) b := by
  obtain ⟨l1, l2⟩ := h.len
  obtain ⟨h1, h2, h3, h4⟩ := start_get h
  have lz : (ms.zipWith (fun m d => if m then Sl.io d else Sl.sh d) ds).length = ms.length := by rw [List.length_zipWith, l1, Nat.min_self]
  have get : ∀ (i : Nat) (x : Sl), (En.start ms N.length ds)[i]? = some x → x ≠ .no → (ms.zipWith (fun m d => if m then Sl.io d else Sl.sh d) ds)[i]? = some x ∧ i < vs.length := fun i x q nx => by
    unfold En.start at q
    by_cases hi : i < ms.length
    · rw [List.getElem?_append_left (by rw [lz]; exact hi)] at q
      exact ⟨q, by rw [l2]; exact hi⟩
    · rw [List.getElem?_append_right (by rw [lz]; omega), List.getElem?_replicate] at q
      split at q
      · cases q; exact absurd rfl nx
      · cases q
  have sg : ∀ (i : Nat) (v : V), vs[i]? = some v → (L2.start N vs)[i]? = some (some v) := fun i v q => by
    have hi := (List.getElem?_eq_some_iff.mp q).1
    unfold L2.start
    rw [List.getElem?_append_left (by simpa using hi), List.getElem?_map, q]; rfl
  refine ⟨⟨e, ?_, fun i d q => ?_, fun i d q => ?_, fun i j a ⟨d1, o1⟩ ⟨d2, o2⟩ s1 s2 => ?_⟩, fun b ⟨i, ⟨d, o⟩, s⟩ => ?_, fun b ⟨i, d, o, s⟩ => ?_⟩
  · unfold En.start L2.start
    rw [List.length_append, List.length_append, lz, List.length_replicate, List.length_map, List.length_replicate, l1, l2]
  · obtain ⟨q, _⟩ := get i _ q (by intro z; cases z)
    obtain ⟨v, e1, e2⟩ := h1 i d q
    exact ⟨v, sg i v e1, e2⟩
  · rcases q with q | q
    · obtain ⟨q, _⟩ := get i _ q (by intro z; cases z)
      exact absurd q (h3 i d)
    · obtain ⟨q, _⟩ := get i _ q (by intro z; cases z)
      obtain ⟨a, e1, e2, e3, _⟩ := h2 i d q
      exact ⟨a, sg i _ e1, e2, e3⟩
  · have f : ∀ i d, ((En.start ms N.length ds)[i]? = some (Sl.ow d) ∨ (En.start ms N.length ds)[i]? = some (Sl.io d)) → (ms.zipWith (fun m d => if m then Sl.io d else Sl.sh d) ds)[i]? = some (Sl.io d) ∧ i < vs.length := fun i d o => by
      rcases o with o | o
      · obtain ⟨q, _⟩ := get i _ o (by intro z; cases z)
        exact absurd q (h3 i d)
      · exact get i _ o (by intro z; cases z)
    obtain ⟨f1, g1⟩ := f i d1 o1
    obtain ⟨f2, g2⟩ := f j d2 o2
    have b1 : vs[i]? = some (.ref a) := by
      have z := sg i _ (List.getElem?_eq_getElem g1)
      rw [s1] at z
      rw [List.getElem?_eq_getElem g1]
      exact congrArg some (Option.some.inj (Option.some.inj z)).symm
    have b2 : vs[j]? = some (.ref a) := by
      have z := sg j _ (List.getElem?_eq_getElem g2)
      rw [s2] at z
      rw [List.getElem?_eq_getElem g2]
      exact congrArg some (Option.some.inj (Option.some.inj z)).symm
    exact h4 i j d1 d2 a f1 f2 b1 b2
  · rcases o with o | o
    · obtain ⟨q, _⟩ := get i _ o (by intro z; cases z)
      exact absurd q (h3 i d)
    · obtain ⟨q, g1⟩ := get i _ o (by intro z; cases z)
      obtain ⟨a, e1, _, _, e4⟩ := h2 i d q
      have z := sg i _ e1
      rw [s] at z
      cases z
      exact e4
  · obtain ⟨q, _⟩ := get i _ o (by intro z; cases z)
    exact absurd q (h3 i d)
end Z
/-! ZN: a def by its body; a def called. -/
namespace Z
open PySem PySem.Spec L2
open PyProof.Rows hiding St
/-- what a rule may know of where it stands -/
structure CB (T : Tb) (k : Nat) (X : Cx) : Prop where
  eP : X.prog = T.P
  ew : X.w = T.w
  eK : X.K = T.K
  emg : X.mg = T.mg
  ebase : X.base = T.base
  calm : X.calm = true
  room : Room k X.A
  grd : X.A.guards = some []
  nd : X.N.Nodup
theorem CB.blk {T : Tb} {k : Nat} {X : Cx} (c : CB T k X) (s : Shared) (H : Hp) (sc : Scope) (e : PySem.Env) (fp : List Addr) : CB T k (X.blk s H sc e fp) := ⟨c.eP, c.ew, c.eK, c.emg, c.ebase, c.calm, c.room, c.grd, c.nd⟩
/-- .. -/
abbrev asDef (T : Tb) (N : List Str) (qual : Str) (sc : Scope) (f : Addr) (cdv : Value) (A : Around) (outer : List PySem.Env) (s : Shared) (H : Hp) (E : XK) : Cx := (cxOf L2.CX0 T.P T.w T.K T.mg T.base N qual sc f cdv A outer s H E).nox
section
variable {T : Tb}
/-- a def of the text, by what its body does -/
theorem fnG_of {k : Nat} {f : Addr} {name qual : Str} {params : Arguments} {body : List Stmt} {scope : Scope} {dV kV doc pm cdv ct oc : Value} {an od : Option Addr} {osl : Array (Option Value)} {N ps : List Str} {sp : Sp}
    (lk : T.K.lookup f = some ⟨oc, od, .func (PySem.W.fnOf name qual params body scope dV kV doc pm an cdv ct), osl⟩) (hcd : PySem.W.codeIn T.K cdv qual = true) (S : FnScope N ps scope) (len : ∀ vs H Q E, sp vs H Q E → vs.length = ps.length)
    (hbody : ∀ (cdv : Value) (A : Around) (outer : List PySem.Env) (s : Shared) (H : Hp) (E : XK), CB T k (asDef T N qual scope f cdv A outer s H E) → ∀ (vs : List V) (Q : VK), sp vs H Q E → ∃ t, PSs (asDef T N qual scope f cdv A outer s H E) body t ∧ t { nx := fun _ H' => Q .non H', rt := Q } (L2.start N vs) H) :
    FnG T (k + 1) f (PySem.W.fnOf name qual params body scope dV kV doc pm an cdv ct) ps sp := by
  constructor
  · exact len
  intro A outer s H args us vs Q E hr hg e0 hb r hsp
  have hl := len vs H Q E hsp
  have KX : T.K.In s.heap := e0.mod.kin.keeps fun b o e => (e0.bs b o e).1
  have lim : s.heap.NoLimit := e0.mod.nolimit.keeps fun b o e => (e0.bs b o e).1
  have hkind : ∀ y ∈ ps.zip us, scope.names.lookup y.1 = some .local ∨ (scope.names.lookup y.1 = some .cell ∧ ((cellsFrom (s.heap.objs.size + 1) scope.names []).lookup y.1).isSome = true) := by
    rintro ⟨n, v⟩ hy
    have q := S.par n (List.of_mem_zip hy).1
    cases q with
    | inl q => exact .inl q
    | inr q => exact .inr ⟨q, PySem.W.cellsFrom_some _ _ _ (.inl q)⟩
  apply codeAny_call_function hr.depth (KX _ _ lk) rfl S.co S.gen rfl (PySem.W.codeRec_of KX hcd)
  apply hb
  refine wpAny_newFunctionEnv_cells S.kind hkind ?_
  intro env he s1 x
  subst he
  refine And.intro (lim.keeps x.toInCall.keep) (codeAny_func ?_)
  have I := inv_start (CX := L2.CX0) (f := f) (cd := cdv) (qual := qual) (E := E) S hr.hd e0 hl r x
  have ck : CB T k (asDef T N qual scope f cdv A outer s H E) := ⟨rfl, rfl, rfl, rfl, rfl, rfl, hr.deeper _, hg, S.nd⟩
  obtain ⟨t, ht, hq⟩ := hbody cdv A outer s H E ck vs Q hsp
  refine wpAny_mono (ht.nox.run [] s1 (L2.start N vs) H _ I hq) ?_ (fun e s' hs => hs)
  intro fl s' hs
  cases fl with
  | ret u =>
    obtain ⟨v, σ', H', J, rv, q⟩ := hs
    exact ⟨v, H', J.os, J.bare, J.base, J.hok, rv, q⟩
  | next =>
    obtain ⟨σ', H', J, q⟩ := hs
    exact ⟨V.non, H', J.os, J.bare, J.base, J.hok, rfl, q⟩
  | brk =>
    obtain ⟨_, _, _, q⟩ := hs
    exact q.elim
  | cont =>
    obtain ⟨_, _, _, q⟩ := hs
    exact q.elim
theorem outs_ok {σ : St} {P H : Hp} {r : En} (rs : RS T P H σ r) : ∀ {ms : List Bool} {vs : List V} {i : Nat} {outs : List D}, outsOf r i ms = some outs → (∀ j v, ms[j]? = some true → vs[j]? = some v → σ[i + j]? = some (some v)) → vs.length = ms.length →
    (∀ (j : Nat), ms[j]? = some true → ∃ a, vs[j]? = some (.ref a)) → ROuts T P H (ioA ms vs) outs
  | [], vs, i, outs, e, _, _, _ => by
    simp only [outsOf, Option.some.injEq] at e
    subst e
    cases vs <;> rfl
  | m :: ms, [], i, outs, e, _, l, _ => by cases l
  | false :: ms, v :: vs, i, outs, e, hv, l, hr => by
    simp only [outsOf] at e
    have z : ioA (false :: ms) (v :: vs) = ioA ms vs := by cases v <;> rfl
    rw [z]
    refine outs_ok rs e (fun j w h q => ?_) (by simpa using l) (fun j q => hr (j + 1) (by simpa using q))
    have := hv (j + 1) w (by simpa using h) (by simpa using q)
    rw [show i + (j + 1) = i + 1 + j by omega] at this
    exact this
  | true :: ms, v :: vs, i, outs, e, hv, l, hr => by
    obtain ⟨a, ea⟩ := hr 0 rfl
    simp at ea
    subst ea
    simp only [outsOf] at e
    cases c : r[i]? with
    | none => rw [c] at e; cases e
    | some x =>
      rw [c] at e
      cases x with
      | io d =>
        cases c2 : outsOf r (i + 1) ms with
        | none => rw [c2] at e; cases e
        | some t =>
          rw [c2] at e
          cases e
          obtain ⟨b, e1, e2, e3⟩ := rs.own i d (.inr c)
          have hva := hv 0 (.ref a) rfl rfl
          rw [Nat.add_zero, e1] at hva
          cases hva
          refine ⟨d, t, rfl, e2, e3, outs_ok rs c2 (fun j w h q => ?_) (by simpa using l) (fun j q => hr (j + 1) (by simpa using q))⟩
          have := hv (j + 1) w (by simpa using h) (by simpa using q)
          rw [show i + (j + 1) = i + 1 + j by omega] at this
          exact this
      | _ => cases e
theorem refs_of {P H : Hp} : ∀ {ms : List Bool} {ds : List D} {vs : List V}, RArgs T P H ms ds vs → ∀ (j : Nat), ms[j]? = some true → ∃ a, vs[j]? = some (.ref a)
  | [], _, _, _, _, e => by simp at e
  | m :: _, [], _, h, _, _ => by cases m <;> cases h
  | false :: ms, d :: ds, vs, h, j, e => by
    obtain ⟨v, t, rfl, _, h⟩ := h
    cases j with
    | zero => simp at e
    | succ j => simpa using refs_of h j (by simpa using e)
  | true :: ms, d :: ds, vs, h, j, e => by
    obtain ⟨a, t, rfl, _, _, h, _⟩ := h
    cases j with
    | zero => exact ⟨a, rfl⟩
    | succ j => simpa using refs_of h j (by simpa using e)
theorem io_start {N : List Str} {ms : List Bool} {ds : List D} {i : Nat} (l : ds.length = ms.length) (h : ms[i]? = some true) : ∃ d, (En.start ms N.length ds)[i]? = some (Sl.io d) := by
  have hi := (List.getElem?_eq_some_iff.mp h).1
  have lz : (ms.zipWith (fun m d => if m then Sl.io d else Sl.sh d) ds).length = ms.length := by rw [List.length_zipWith, l, Nat.min_self]
  unfold En.start
  rw [List.getElem?_append_left (by rw [lz]; exact hi), List.getElem?_zipWith, h, List.getElem?_eq_getElem (by rw [l]; exact hi)]
  exact ⟨_, rfl⟩
theorem outs_io {r : En} : ∀ {ms : List Bool} {i : Nat} {outs : List D}, outsOf r i ms = some outs → ∀ (j : Nat), ms[j]? = some true → ∃ d, r[i + j]? = some (Sl.io d)
  | [], _, _, _, _, h => by simp at h
  | false :: ms, i, outs, e, j, h => by
    simp only [outsOf] at e
    cases j with
    | zero => simp at h
    | succ j =>
      have := outs_io e j (by simpa using h)
      rw [show i + (j + 1) = i + 1 + j by omega]; exact this
  | true :: ms, i, outs, e, j, h => by
    simp only [outsOf] at e
    cases c : r[i]? with
    | none => rw [c] at e; cases e
    | some x =>
      rw [c] at e
      cases x with
      | io d =>
        cases c2 : outsOf r (i + 1) ms with
        | none => rw [c2] at e; cases e
        | some t =>
          cases j with
          | zero => exact ⟨d, by rw [Nat.add_zero]; exact c⟩
          | succ j =>
            have := outs_io c2 j (by simpa using h)
            rw [show i + (j + 1) = i + 1 + j by omega]; exact this
      | _ => cases e
theorem mem_ioA {a : Addr} : ∀ {ms : List Bool} {vs : List V}, a ∈ ioA ms vs → ∃ j : Nat, ms[j]? = some true ∧ vs[j]? = some (.ref a)
  | [], vs, h => by cases vs <;> cases h
  | m :: ms, [], h => by cases m <;> cases h
  | false :: ms, v :: vs, h => by
    have h' : a ∈ ioA ms vs := by cases v <;> exact h
    obtain ⟨j, h1, h2⟩ := mem_ioA h'
    exact ⟨j + 1, by simpa using h1, by simpa using h2⟩
  | true :: ms, v :: vs, h => by
    cases v with
    | ref b =>
      rcases List.mem_cons.mp h with rfl | h
      · exact ⟨0, rfl, rfl⟩
      · obtain ⟨j, h1, h2⟩ := mem_ioA h
        exact ⟨j + 1, by simpa using h1, by simpa using h2⟩
    | _ =>
      obtain ⟨j, h1, h2⟩ := mem_ioA (show a ∈ ioA ms vs from h)
      exact ⟨j + 1, by simpa using h1, by simpa using h2⟩
/-- a def keeps what the evaluator says of its body -/
theorem fn_def {Pg : Nat → Option Df} {fuel k i : Nat} {df : Df} {f : Addr} {name qual : Str} {params : Arguments} {body : List Stmt} {scope : Scope} {dV kV doc pm cdv ct oc : Value} {an od : Option Addr} {osl : Array (Option Value)} {N ps : List Str}
    (lk : T.K.lookup f = some ⟨oc, od, .func (PySem.W.fnOf name qual params body scope dV kV doc pm an cdv ct), osl⟩) (hcd : PySem.W.codeIn T.K cdv qual = true) (S : FnScope N ps scope) (hp : Pg i = some df) (hn : df.names = N.length) (hm : df.modes.length = ps.length)
    (hbody : ∀ (cdv : Value) (A : Around) (outer : List PySem.Env) (s : Shared) (H : Hp) (E : XK), CB T k (asDef T N qual scope f cdv A outer s H E) → PSs (asDef T N qual scope f cdv A outer s H E) body (tD T WF (xs { call := callD Pg fuel k, modes := fun g => (Pg g).map (·.modes), fuel := fuel } df.body))) :
    FnG T (k + 1) f (PySem.W.fnOf name qual params body scope dV kV doc pm an cdv ct) ps (spD T df.modes (callD Pg fuel (k + 1) i)) := by
  refine fnG_of lk hcd S (fun vs H Q E ⟨P, ds, e, h, q⟩ => by rw [h.len.2, hm]) fun cdv A outer s H E ck vs Q ⟨P, ds, e, h, q⟩ => ⟨_, hbody cdv A outer s H E ck, ?_⟩
  simp only [callD, hp] at q
  by_cases hc : ds.length = df.modes.length ∧ ds.length ≤ df.names
  rotate_left
  · rw [if_neg hc] at q; exact q.elim
  rw [if_pos hc] at q
  obtain ⟨rs, ow, nol⟩ := start_rs (N := N) e h (by rw [← hc.1, ← hn]; exact hc.2)
  have lv := h.len.2
  have ld := h.len.1
  rw [hn] at q
  refine ⟨P, En.start df.modes N.length ds, rs, ?_⟩
  -- behind the body
  have fin : ∀ {σ' : St} {P' H' : Hp} {r' : En} {outs : List D}, AftS T (L2.start N vs) P H (En.start df.modes N.length ds) σ' P' H' r' → outsOf r' 0 df.modes = some outs → AftC T (ioA df.modes vs) P H P' H' outs := fun {σ' P' H' r' outs} a eo => by
    have sg : ∀ (j : Nat) (v : V), vs[j]? = some v → (L2.start N vs)[j]? = some (some v) := fun j v q => by
      have hi := (List.getElem?_eq_some_iff.mp q).1
      unfold L2.start
      rw [List.getElem?_append_left (by simpa using hi), List.getElem?_map, q]; rfl
    have ioσ : ∀ (j : Nat), df.modes[j]? = some true → σ'[j]? = (L2.start N vs)[j]? := fun j hj => by
      obtain ⟨d, hd⟩ := io_start (N := N) ld hj
      exact (a.io j d hd).2
    refine ⟨a.rs.sub, a.st.pp, fun b o eb nb => a.st.fr b o eb fun w => nb (ow b w), a.st.dm, fun b eb => ?_, ?_⟩
    · rcases a.st.nw b eb with w | w | w
      · exact .inl w
      · exact .inr w
      · obtain ⟨j, h1, h2⟩ := mem_ioA (ow b w)
        obtain ⟨d, hd⟩ := outs_io eo j h1
        rw [Nat.zero_add] at hd
        obtain ⟨c, e1, e2, _⟩ := a.rs.own j d (.inr hd)
        rw [ioσ j h1, sg j _ h2] at e1
        cases e1
        exact absurd e2 eb
    · refine outs_ok a.rs eo (fun j v hj q => ?_) (by rw [lv]) (refs_of h)
      rw [Nat.zero_add, ioσ j hj]
      exact sg j v q
  cases c : xs { call := callD Pg fuel k, modes := fun g => (Pg g).map (·.modes), fuel := fuel } df.body (En.start df.modes N.length ds) with
  | nx r' =>
    rw [c] at q
    simp only [O.cr] at q
    intro σ' P' H' a
    cases eo : outsOf r' 0 df.modes with
    | none => rw [eo] at q; exact q.elim
    | some outs =>
      rw [eo] at q
      exact q .non P' H' (fin a eo) (by show Rep _ _ _ _; simp only [Rep])
  | ret v r' =>
    rw [c] at q
    simp only [O.cr] at q
    intro u σ' P' H' a rl
    cases eo : outsOf r' 0 df.modes with
    | none => rw [eo] at q; exact q.elim
    | some outs =>
      rw [eo] at q
      refine q u P' H' (fin a eo) ?_
      cases v with
      | sh d => exact rl
      | ow d =>
        obtain ⟨b, e1, n, ro, f⟩ := rl
        exact ⟨b, e1, n, ro, f.elim id fun z => absurd z (nol b)⟩
  | brk r' => rw [c] at q; exact q.elim
  | cnt r' => rw [c] at q; exact q.elim
  | exc c' d r' =>
    rw [c] at q
    simp only [O.cr] at q
    cases eo : outsOf r' 0 df.modes with
    | none => rw [eo] at q; exact q.elim
    | some outs => rw [eo] at q; exact q.elim
  | bad => rw [c] at q; exact q.elim
end
end Z
/-! ZO: calls of defs. -/
namespace Z
open PySem PySem.Spec L2
open PyProof.Rows hiding St
section
variable {T : Tb} {W : WX} {σ : St} {P H : Hp} {r : En}
theorem frz_ok : ∀ {is : List Nat} {P : Hp} {r rf : En}, RS T P H σ r → frzs r is = some rf →
    ∃ Pf, Aft T σ P H r Pf H rf ∧ (∀ i, i ∉ is → rf[i]? = r[i]?) ∧ (∀ (i : Nat) (d : D), i ∈ is → r.rd i = some d → ∃ u, σ[i]? = some (some u) ∧ Rep T Pf d u)
  | [], P, r, rf, rs, e => by
    cases e
    exact ⟨P, .refl rs, fun _ _ => rfl, fun i d h => by cases h⟩
  | i :: is, P, r, rf, rs, e => by
    simp only [frzs] at e
    cases c : frz1 r i with
    | none => rw [c] at e; cases e
    | some r1 =>
      rw [c] at e
      -- one
      have one : ∃ P1, Aft T σ P H r P1 H r1 ∧ (∀ j, j ≠ i → r1[j]? = r[j]?) ∧ (∀ d, r.rd i = some d → ∃ u, σ[i]? = some (some u) ∧ Rep T P1 d u) ∧ (∀ d, r.rd i = some d → r1.rd i = some d) := by
        unfold frz1 at c
        cases q : r[i]? with
        | none =>
          rw [q] at c; cases c
          exact ⟨P, .refl rs, fun _ _ => rfl, fun d h => by simp [En.rd, q] at h, fun _ h => h⟩
        | some x =>
          rw [q] at c
          cases x with
          | no =>
            cases c
            exact ⟨P, .refl rs, fun _ _ => rfl, fun d h => by simp [En.rd, q, Sl.d?] at h, fun _ h => h⟩
          | sh d0 =>
            cases c
            refine ⟨P, .refl rs, fun _ _ => rfl, fun d h => ?_, fun _ h => h⟩
            simp [En.rd, q, Sl.d?] at h
            subst h
            exact rs.sh i _ q
          | ow d0 =>
            cases c
            obtain ⟨P1, u, a, rp, eu⟩ := setD_own rs q
            have hi := (List.getElem?_eq_some_iff.mp q).1
            refine ⟨P1, a, fun j n => List.getElem?_set_ne (Ne.symm n), fun d h => ?_, fun d h => ?_⟩
            · simp [En.rd, q, Sl.d?] at h
              subst h
              exact ⟨u, eu, rp⟩
            · simp [En.rd, q, Sl.d?] at h
              subst h
              simp [En.rd, List.getElem?_set_self hi, Sl.d?]
          | io d0 => cases c
      obtain ⟨P1, a1, n1, g1, k1⟩ := one
      obtain ⟨Pf, a2, n2, g2⟩ := frz_ok (is := is) a1.rs e
      refine ⟨Pf, a1.trans a2, fun j hj => ?_, fun j d hj hd => ?_⟩
      · rw [n2 j (fun z => hj (List.mem_cons_of_mem _ z)), n1 j (fun z => hj (by rw [z]; exact List.mem_cons_self))]
      · by_cases z : j = i
        · subst z
          obtain ⟨u, e1, e2⟩ := g1 d hd
          exact ⟨u, e1, Rep.ext a2.st.pp _ _ e2⟩
        · rcases List.mem_cons.mp hj with w | w
          · exact absurd w z
          · exact g2 j d w (by unfold En.rd; rw [n1 j z]; exact hd)
/-- slots that hold these addresses -/
def SA (σ : St) : List Nat → List Addr → Prop
  | [], as => as = []
  | i :: is, as => ∃ a t, as = a :: t ∧ σ[i]? = some (some (.ref a)) ∧ SA σ is t
theorem SA.mem {a : Addr} : ∀ {is : List Nat} {as : List Addr}, SA σ is as → a ∈ as → ∃ i, i ∈ is ∧ σ[i]? = some (some (.ref a))
  | [], _, h, m => by cases h; cases m
  | i :: is, _, h, m => by
    obtain ⟨b, t, rfl, e, h⟩ := h
    rcases List.mem_cons.mp m with rfl | m
    · exact ⟨i, List.mem_cons_self, e⟩
    · obtain ⟨j, m1, e1⟩ := h.mem m
      exact ⟨j, List.mem_cons_of_mem _ m1, e1⟩
/-- what a call gets -/
theorem args_ok (rs : RS T P H σ r) {Pf : Hp} {rf : En} (rsf : RS T Pf H σ rf) (ex : Ext P Pf) : ∀ {ms : List Bool} {xs : List (Nat ⊕ D)} {us : List V} {ds : List D}, RBs T σ P xs us → res r xs = some ds → argsOk r ms xs = true → (inouts ms xs).Nodup →
    (∀ i, i ∈ inouts ms xs → rf[i]? = r[i]?) → (∀ (i : Nat) (d : D), i ∈ plains ms xs → r.rd i = some d → ∃ u, σ[i]? = some (some u) ∧ Rep T Pf d u) →
    RArgs T Pf H ms ds us ∧ SA σ (inouts ms xs) (ioA ms us) ∧ ∀ i, i ∈ inouts ms xs → OwnAt r i
  | [], [], us, ds, h, e, _, _, _, _ => by
    cases e; cases h
    exact ⟨rfl, rfl, fun i m => by cases m⟩
  | [], _ :: _, _, _, _, _, e, _, _, _ => by cases e
  | false :: _, [], _, _, _, _, e, _, _, _ => by cases e
  | true :: _, [], _, _, _, _, e, _, _, _ => by cases e
  | true :: ms, .inr d :: xs, _, _, _, _, e, _, _, _ => by cases e
  | false :: ms, .inr d :: xs, us, ds, h, e, ok, nd, hi, hp => by
    obtain ⟨u, t, rfl, h1, h2⟩ := h
    simp only [res] at e
    cases c2 : res r xs with
    | none => rw [c2] at e; cases e
    | some ds' =>
      rw [c2] at e; cases e
      obtain ⟨q1, q2, q3⟩ := args_ok rs rsf ex (ms := ms) h2 c2 ok nd hi hp
      refine ⟨⟨u, t, rfl, Rep.ext ex _ _ h1, q1⟩, ?_, q3⟩
      cases u <;> exact q2
  | false :: ms, .inl i :: xs, us, ds, h, e, ok, nd, hi, hp => by
    obtain ⟨u, t, rfl, h1, h2⟩ := h
    simp only [res] at e
    cases c : r.rd i with
    | none => rw [c] at e; cases e
    | some d =>
      rw [c] at e
      cases c2 : res r xs with
      | none => rw [c2] at e; cases e
      | some ds' =>
        rw [c2] at e; cases e
        obtain ⟨q1, q2, q3⟩ := args_ok rs rsf ex (ms := ms) h2 c2 ok nd hi (fun j d' m => hp j d' (List.mem_cons_of_mem _ m))
        obtain ⟨w, e1, e2⟩ := hp i d List.mem_cons_self c
        have h1' : σ[i]? = some (some u) := h1
        rw [h1'] at e1; cases e1
        refine ⟨⟨u, t, rfl, e2, q1⟩, ?_, q3⟩
        cases u <;> exact q2
  | true :: ms, .inl i :: xs, us, ds, h, e, ok, nd, hi, hp => by
    obtain ⟨u, t, rfl, h1, h2⟩ := h
    simp only [res] at e
    simp only [argsOk, Bool.and_eq_true] at ok
    cases c : r.rd i with
    | none => rw [c] at e; cases e
    | some d =>
      rw [c] at e
      cases c2 : res r xs with
      | none => rw [c2] at e; cases e
      | some ds' =>
        rw [c2] at e; cases e
        simp only [inouts, List.nodup_cons] at nd
        obtain ⟨q1, q2, q3⟩ := args_ok rs rsf ex (ms := ms) h2 c2 ok.2 nd.2 (fun j m => hi j (List.mem_cons_of_mem _ m)) hp
        obtain ⟨d0, od⟩ := Option.isSome_iff_exists.mp ok.1
        have ow : OwnAt r i ∧ d0 = d := by
          unfold En.own? at od
          unfold En.rd at c
          cases z : r[i]? with
          | none => rw [z] at od; cases od
          | some x =>
            rw [z] at od c
            cases x with
            | ow d' => cases od; cases c; exact ⟨⟨_, .inl z⟩, rfl⟩
            | io d' => cases od; cases c; exact ⟨⟨_, .inr z⟩, rfl⟩
            | _ => cases od
        obtain ⟨ow, rfl⟩ := ow
        have odf : rf.own? i = some d0 := by unfold En.own?; rw [hi i List.mem_cons_self]; exact od
        obtain ⟨a, e1, e2, e3⟩ := own_at rsf odf
        have h1' : σ[i]? = some (some u) := h1
        rw [h1'] at e1; cases e1
        refine ⟨⟨a, t, rfl, e2, e3, q1, fun m => ?_⟩, ⟨a, _, rfl, h1', q2⟩, fun j m => ?_⟩
        · obtain ⟨j, m1, e4⟩ := q2.mem m
          have := rs.dis i j a ow (q3 j m1) h1' e4
          subst this
          exact nd.1 m1
        · rcases List.mem_cons.mp m with rfl | m
          · exact ow
          · exact q3 j m
/-- the changed slots behind a call -/
theorem chgs_get {P' H' : Hp} : ∀ {is : List Nat} {as : List Addr} {outs : List D} {r r2 : En}, SA σ is as → ROuts T P' H' as outs → chgs r is outs = some r2 →
    r2.length = r.length ∧ ∀ (j : Nat) (x : Sl), r2[j]? = some x → (j ∉ is ∧ r[j]? = some x) ∨ (j ∈ is ∧ ∃ (y : Sl) (a : Addr) (d : D), r[j]? = some y ∧ kle y x ∧ (x = .ow d ∨ x = .io d) ∧ σ[j]? = some (some (.ref a)) ∧ P' a = none ∧ RepO T P' H' a d)
  | [], as, outs, r, r2, h, ho, e => by
    cases h; cases ho; cases e
    exact ⟨rfl, fun j x q => .inl ⟨by simp, q⟩⟩
  | i :: is, as, outs, r, r2, h, ho, e => by
    obtain ⟨a, t, rfl, ea, h⟩ := h
    obtain ⟨d, ds, rfl, pa, ro, ho⟩ := ho
    simp only [chgs] at e
    cases c : r.chg i d with
    | none => rw [c] at e; cases e
    | some r1 =>
      rw [c] at e
      obtain ⟨l, g⟩ := chgs_get h ho e
      have key : ∃ y z, r[i]? = some y ∧ r1 = r.set i z ∧ kle y z ∧ (z = .ow d ∨ z = .io d) := by
        unfold En.chg at c
        cases q : r[i]? with
        | none => rw [q] at c; cases c
        | some x =>
          rw [q] at c
          cases x with
          | ow d' => cases c; exact ⟨_, _, rfl, rfl, trivial, .inl rfl⟩
          | io d' => cases c; exact ⟨_, _, rfl, rfl, trivial, .inr rfl⟩
          | _ => cases c
      obtain ⟨y, z, ey, rfl, k, ez⟩ := key
      have hi := (List.getElem?_eq_some_iff.mp ey).1
      refine ⟨by rw [l, List.length_set], fun j x q => ?_⟩
      rcases g j x q with ⟨n, q⟩ | ⟨m, y', b, d', q1, q2, q3, q4, q5, q6⟩
      · rcases set_get hi q with ⟨e1, e2⟩ | ⟨n2, e2⟩
        · subst e1; subst e2
          exact .inr ⟨List.mem_cons_self, y, a, d, ey, k, ez, ea, pa, ro⟩
        · exact .inl ⟨by simp [n, n2], e2⟩
      · refine .inr ⟨List.mem_cons_of_mem _ m, ?_⟩
        rcases set_get hi q1 with ⟨e1, e2⟩ | ⟨n2, e2⟩
        · subst e1; subst e2
          exact ⟨y, b, d', ey, k.trans q2, q3, q4, q5, q6⟩
        · exact ⟨y', b, d', e2, q2, q3, q4, q5, q6⟩
theorem aft_call {P' H' : Hp} {is : List Nat} {as : List Addr} {outs : List D} {r2 : En} (rs : RS T P H σ r) (sa : SA σ is as) (ow : ∀ i, i ∈ is → OwnAt r i) (sub : Ext P' H') (pp : Ext P P') (fr : ∀ b o, H b = some o → b ∉ as → H' b = some o)
    (dm : ∀ b, H' b = none → H b = none) (nw : ∀ b, P' b ≠ none → P b ≠ none ∨ NT H b) (ho : ROuts T P' H' as outs) (e : chgs r is outs = some r2) : Aft T σ P H r P' H' r2 := by
  obtain ⟨l, g⟩ := chgs_get sa ho e
  have ownJ : ∀ j, OwnAt r2 j → OwnAt r j := fun j ⟨d, o⟩ => by
    rcases o with o | o
    · rcases g j _ o with ⟨_, q⟩ | ⟨m, _⟩
      · exact ⟨d, .inl q⟩
      · exact ow j m
    · rcases g j _ o with ⟨_, q⟩ | ⟨m, _⟩
      · exact ⟨d, .inr q⟩
      · exact ow j m
  refine ⟨⟨sub, by rw [l]; exact rs.len, fun j d q => ?_, fun j d q => ?_, fun j k a o1 o2 => rs.dis j k a (ownJ j o1) (ownJ k o2)⟩, ⟨pp, fun b o eb nb => fr b o eb fun m => ?_, dm, fun b hb => (nw b hb).elim .inl fun z => .inr (.inl z)⟩, ⟨l, fun j x x' h1 h2 => ?_⟩⟩
  · rcases g j _ q with ⟨_, q⟩ | ⟨m, y, a, d', _, _, q3, _⟩
    · obtain ⟨v, e1, e2⟩ := rs.sh j d q
      exact ⟨v, e1, Rep.ext pp _ _ e2⟩
    · rcases q3 with q3 | q3 <;> cases q3
  · have q' : (j ∉ is ∧ (r[j]? = some (Sl.ow d) ∨ r[j]? = some (Sl.io d))) ∨ (∃ a, σ[j]? = some (some (.ref a)) ∧ P' a = none ∧ RepO T P' H' a d) := by
      rcases q with q | q
      · rcases g j _ q with ⟨n, q⟩ | ⟨m, y, a, d', _, _, q3, q4, q5, q6⟩
        · exact .inl ⟨n, .inl q⟩
        · rcases q3 with q3 | q3 <;> cases q3
          exact .inr ⟨a, q4, q5, q6⟩
      · rcases g j _ q with ⟨n, q⟩ | ⟨m, y, a, d', _, _, q3, q4, q5, q6⟩
        · exact .inl ⟨n, .inr q⟩
        · rcases q3 with q3 | q3 <;> cases q3
          exact .inr ⟨a, q4, q5, q6⟩
    rcases q' with ⟨n, q⟩ | q
    · obtain ⟨a, e1, e2, e3⟩ := rs.own j d q
      obtain ⟨o, eo⟩ := e3.some
      have na : a ∉ as := fun m => by
        obtain ⟨i, m1, e4⟩ := sa.mem m
        have := rs.dis j i a ⟨d, q⟩ (ow i m1) e1 e4
        subst this
        exact n m1
      refine ⟨a, e1, ?_, e3.move pp (by rw [fr a o eo na, eo])⟩
      cases z : P' a with
      | none => rfl
      | some w =>
        rcases nw a (by rw [z]; simp) with y | y
        · exact absurd e2 y
        · exact absurd y e3.nt
    · exact q
  · obtain ⟨i, m1, e4⟩ := sa.mem m
    exact nb ⟨i, ow i m1, e4⟩
  · rcases g j _ h2 with ⟨_, q⟩ | ⟨_, y, _, _, q1, q2, _⟩
    · rw [h1] at q; cases q; exact kle.refl x
    · rw [h1] at q1; cases q1; exact q2
theorem shal_outs {P0 P' H' : Hp} (ex : ∀ a, P' a = none → P0 a = none) : ∀ {as : List Addr} {outs : List D}, outs.all shal = true → ROuts T P' H' as outs → ROuts T P0 H' as outs
  | [], _, _, h => h
  | a :: as, _, s, h => by
    obtain ⟨d, t, rfl, h1, h2, h3⟩ := h
    simp only [List.all_cons, Bool.and_eq_true] at s
    exact ⟨d, t, rfl, ex a h1, shal_repO s.1 h2, shal_outs ex s.2 h3⟩
/-- a call's promise, from what the evaluator wants behind it -/
theorem goC_of {c : List D → CR} {ms : List Bool} {xs : List (Nat ⊕ D)} {us : List V} {Q : VK} (rs : RS T P H σ r) (rb : RBs T σ P xs us) (go : Go T W (relV T) σ P H r (callR ms c xs r) Q) :
    spD T ms c us H Q (fun _ _ _ => False) := by
  unfold callR at go
  by_cases k : (argsOk r ms xs && apart (inouts ms xs) (plains ms xs) && decide (ms.length = xs.length)) = true
  rotate_left
  · rw [if_neg k] at go; exact go.elim
  rw [if_pos k] at go
  simp only [Bool.and_eq_true, decide_eq_true_eq] at k
  obtain ⟨⟨k1, k2⟩, k3⟩ := k
  simp only [apart, Bool.and_eq_true, decide_eq_true_eq, List.all_eq_true, Bool.not_eq_true', List.contains_eq_mem, decide_eq_false_iff_not] at k2
  cases er : res r xs with
  | none => rw [er] at go; exact go.elim
  | some ds =>
    rw [er] at go
    simp only [after] at go
    cases ef : frzs r (plains ms xs) with
    | none => rw [ef] at go; exact go.elim
    | some rf =>
      rw [ef] at go
      obtain ⟨Pf, af, n1, g1⟩ := frz_ok rs ef
      obtain ⟨ra, sa, ow⟩ := args_ok rs af.rs af.st.pp rb er k1 k2.1 (fun i m => n1 i (k2.2 i m)) g1
      refine ⟨Pf, ds, af.rs.sub, ra, ?_⟩
      cases ec : c ds with
      | bad => rw [ec] at go; exact go.elim
      | exc _ _ _ =>
        rw [ec] at go; exact go.elim
      | ok v outs =>
        rw [ec] at go
        intro u P' H' a rv
        simp only at go
        split at go
        · rename_i sc
          rw [Bool.and_eq_true] at sc
          split at go
          · rename_i r1 e1
            have nf : ∀ b, P' b = none → P b = none := fun b hb => by
              cases z : P b with
              | none => rfl
              | some w => rw [a.pp _ _ (af.st.pp _ _ z)] at hb; cases hb
            refine go u P H' (aft_call rs sa ow (fun b o hb => a.sub _ _ (a.pp _ _ (af.st.pp _ _ hb))) (.refl _) a.fr a.dm (fun b hb => .inl hb) (shal_outs nf sc.2 a.outs) e1) ?_
            cases v with
            | sh d => exact flat_rep sc.1 rv
            | ow d =>
              obtain ⟨b, _, _, ro, _⟩ := rv
              have : flat d = true := sc.1
              cases d <;> first | exact False.elim ro | cases this
          · exact go.elim
        · split at go
          · rename_i r1 e1
            refine go u P' H' (af.trans (aft_call af.rs sa (fun i m => ?_) a.sub a.pp a.fr a.dm a.nw a.outs e1)) rv
            obtain ⟨d, o⟩ := ow i m
            exact ⟨d, by rw [n1 i (k2.2 i m)]; exact o⟩
          · exact go.elim
end
section
variable {T : Tb} {W : WX} {X : Cx} {k : Nat} {f : Addr} {fd : FuncData} {ps : List Str} {ds : List Value} {dvs : List V} {dfl : List D} {x : Str}
/-- the callee runs -/
theorem run_fnG {sp : Sp} {pins : List (Addr × Obj)} {s : Shared} {σ : St} {H : Hp} {us : List Value} {vs : List V} {Q : VK} (ck : CB T k X) (F : FnG T k f fd ps sp) (hb : Binds T.K fd ps ds) (hd : Vals dvs ds)
    (I : Inv X pins σ H s) (r : Vals vs us) (h : sp (vs ++ dvs) H Q (fun _ _ _ => False)) : wpAny (model X.prog X.w) X.A (call (.ref f) us) (EP X pins σ Q) X.xe s := by
  have r2 : Vals (vs ++ dvs) (us ++ ds) := r.append hd
  have hl : (us ++ ds).length = ps.length := by rw [← r2.length]; exact F.len _ _ _ _ h
  have e0 : Env0 T.P T.w T.K T.mg T.base X.A X.stack s H := by
    rw [← ck.eP, ← ck.ew, ← ck.eK, ← ck.emg, ← ck.ebase]; exact I.env0
  have run := F.run X.A X.stack s H ⟨us, []⟩ (us ++ ds) (vs ++ dvs) Q (fun _ _ _ => False) ck.room ck.grd e0 (hb s us (by rw [← ck.eK]; exact I.kIn) hl) r2 h
  rw [ck.eP, ck.ew]
  refine wpAny_call (codeAny_mono run fun r s' hq => ?_)
  cases r with
  | error e => exact False.elim hq
  | ok fl =>
    cases fl with
    | ret u => exact I.after (by rw [ck.eP, ck.ew]; exact hq)
    | next => exact False.elim hq
    | brk => exact False.elim hq
    | cont => exact False.elim hq
theorem rbs_app {σ : St} {P : Hp} : ∀ {xs ys : List (Nat ⊕ D)} {us vs : List V}, RBs T σ P xs us → RBs T σ P ys vs → RBs T σ P (xs ++ ys) (us ++ vs)
  | [], _, _, _, h, h2 => by cases h; exact h2
  | x :: xs, _, _, _, h, h2 => by
    obtain ⟨u, t, rfl, h1, h⟩ := h
    exact ⟨u, _, rfl, h1, rbs_app h h2⟩
theorem rbs_inr {σ : St} {P : Hp} : ∀ {ds : List D} {us : List V}, Reps T P ds us → RBs T σ P (ds.map .inr) us
  | [], _, h => h.of_nil
  | d :: ds, _, h => by
    obtain ⟨u, t, rfl, h1, h⟩ := h.of_cons
    exact ⟨u, t, rfl, h1, rbs_inr h⟩
def tDef (T : Tb) (ms : List Bool) (c : List D → CR) (dvs : List V) (t : TA) : TE := fun σ H Q => t σ H fun vs H1 => spD T ms c (vs ++ dvs) H1 Q (fun _ _ _ => False)
theorem pe_def {ms : List Bool} {c : List D → CR} {e : PySem.Expr} {es : List PySem.Expr} {p pos : Pos} {t : TA} (ck : CB T k X) (F : FnG T k f fd ps (spD T ms c)) (hg : Gl X x) (hm : T.mg x = some (.ref f)) (hk : PySem.W.keepIn T.K (.ref f) = true) (hb : Binds T.K fd ps ds) (hd : Vals dvs ds)
    (ha : PA X (e :: es) t) (hs : notStar e = true) (hss : es.all notStar = true) (hdb : (x == ("__debug__" : Str)) = false) :
    PE X (.Call (.Name x p) (e :: es) [] pos) (tDef T ms c dvs t) := by
  refine ⟨fun pins s σ H Q I h => ?_⟩
  refine wpAny_Call_Name_kw (ld_glob I hg (by rw [ck.emg]; exact hm) ?_ hdb)
  refine PySem.W.callWith_K (h₀ := X.base) I.ok.mod.kin (by rw [ck.eK]; exact hk) (thn (ha.run pos pins s σ H _ I h) fun us s1 ⟨vs, H1, I1, r, q⟩ => ⟨I1.kIn, ?_⟩) (star_one hs es X.env) (star_all hss X.env pos)
  exact run_fnG ck F hb hd I1 r q
/-- a def's call by what the evaluator says -/
theorem de_def {ms : List Bool} {c : List D → CR} {e : PySem.Expr} {fs : En → R (List (Nat ⊕ D))} {t : TA} (h : PE X e (tDef T ms c dvs t)) (ht : ∀ σ H Q, tA T W fs σ H Q → t σ H Q) (hd : ∀ P, Reps T P dfl dvs) :
    PE X e (tE T W fun r => (fs r).bind fun ys r1 => callR ms c (ys ++ dfl.map .inr) r1) := peImp h fun σ H Q ⟨P, r, rs, go⟩ =>
  ht _ _ _ ⟨P, r, rs, (Go.bind (anti_V T) go).mono fun us H1 ⟨P1, r1, ys, a, q, e, g⟩ => goC_of a.rs (rbs_app q (rbs_inr (hd P1))) g⟩
end
end Z
/-! ZP: methods, isinstance, slices, tests. -/
namespace Z
open PySem PySem.Spec L2
open PyProof.Rows hiding St
section
variable {T : Tb} {W : WX} {X : Cx} {e : PySem.Expr} {fa fb fc : En → R (Nat ⊕ D)}
theorem bind_assoc {A B C : Type} (x : R A) (f : A → En → R B) (g : B → En → R C) : (x.bind f).bind g = x.bind fun a r => (f a r).bind g := by cases x <;> rfl
/-! ### methods that change -/
/-- a method's rule does what the evaluator says -/
def MuOk (T : Tb) (m : MU) (rr : V → List V → Hp → VK → Prop) : Prop :=
  ∀ (P H : Hp) (a : Addr) (l : List D) (xs : List V) (ds : List D) (us : List V) (o' v : D), H a = some (.lst xs) → Reps T P l xs → Reps T P ds us → muD m (.lst l) ds = some (o', v) →
    ∃ l' xs' u, o' = .lst l' ∧ Reps T P l' xs' ∧ Rep T P v u ∧ ∀ Q : VK, Q u (upd H a (.lst xs')) → rr (.ref a) us H Q
theorem mu_append : MuOk T .append rAppend := fun P H a l xs ds us o' v hH hl hd e => by
  match ds, us, hd, e with
  | [x], us, hd, e =>
    obtain ⟨u, t, rfl, h1, h2⟩ := hd.of_cons
    rw [h2.of_nil]
    simp only [muD] at e
    split at e
    · rename_i z
      cases e
      exact ⟨_, xs ++ [u], .non, rfl, hl.append (.cons h1 .nil), by simp only [Rep], fun Q q => ⟨a, xs, u, rfl, rfl, hH, by rw [hl.length, ← LINE_eq]; exact z, q⟩⟩
    · cases e
  | [], _, _, e => simp [muD] at e
  | _ :: _ :: _, _, _, e => simp [muD] at e
theorem ixN_small {n : Nat} {i : Int} {k : Nat} (h : Z.ixN n i = some k) (hn : n ≤ LINE) : -(2 ^ 63) ≤ i ∧ i < 2 ^ 63 ∧ seqIndex? i n = some k := by
  have hl : (LINE : Nat) = 16777216 := rfl
  unfold Z.ixN at h
  unfold seqIndex?
  by_cases c : 0 ≤ i
  · rw [if_pos c] at h
    by_cases c2 : i < (n : Int)
    · rw [if_pos c2] at h
      refine ⟨by omega, by omega, ?_⟩
      rw [← h, if_neg (show ¬ i < 0 by omega)]
      simp [c, c2]
    · rw [if_neg c2] at h; cases h
  · rw [if_neg c] at h
    by_cases c2 : -(n : Int) ≤ i
    · rw [if_pos c2] at h
      refine ⟨by omega, by omega, ?_⟩
      rw [← h, if_pos (show i < 0 by omega)]
      have h1 : 0 ≤ i + n := by omega
      have h2 : i + (n : Int) < n := by omega
      simp [h1, h2]
    · rw [if_neg c2] at h; cases h
theorem mu_popAt : MuOk T .popAt rPopAt := fun P H a l xs ds us o' v hH hl hd e => by
  match ds, us, hd, e with
  | [.int i], us, hd, e =>
    obtain ⟨u, t, rfl, h1, h2⟩ := hd.of_cons
    rw [h2.of_nil]
    simp only [Rep] at h1
    subst h1
    simp only [muD] at e
    by_cases hn : l.length ≤ LINE
    rotate_left
    · rw [if_neg hn] at e; cases e
    rw [if_pos hn] at e
    cases c : Z.ixN l.length i with
    | none => rw [c] at e; cases e
    | some k =>
      rw [c] at e
      simp only [Option.bind_some] at e
      cases c2 : l[k]? with
      | none => rw [c2] at e; cases e
      | some y =>
        rw [c2] at e
        cases e
        obtain ⟨u, e1, e2⟩ := hl.get c2
        obtain ⟨b1, b2, b3⟩ := ixN_small c hn
        exact ⟨_, xs.eraseIdx k, u, rfl, hl.eraseIdx k, e2, fun Q q => ⟨a, xs, i, k, u, rfl, rfl, hH, b1, b2, by rw [hl.length]; exact b3, e1, q⟩⟩
  | [], _, _, e => simp [muD] at e
  | _ :: _ :: _, _, _, e => simp [muD] at e
  | [.non], _, _, e => simp [muD] at e
  | [.bl _], _, _, e => simp [muD] at e
  | [.str _], _, _, e => simp [muD] at e
  | [.lst _], _, _, e => simp [muD] at e
  | [.tup _], _, _, e => simp [muD] at e
  | [.dct _ _], _, _, e => simp [muD] at e
  | [.dts _], _, _, e => simp [muD] at e
  | [.dtv _ _], _, _, e => simp [muD] at e
  | [.fn _], _, _, e => simp [muD] at e
  | [.exn _ _], _, _, e => simp [muD] at e
  | [.scr _], _, _, e => simp [muD] at e
def mutR (m : MU) (i : Nat) (ds : List D) (r1 : En) : R Val := (R.of ((r1.own? i).bind fun o => (muD m o ds).bind fun p => (r1.chg i p.1).map fun r2 => (Val.sh p.2, r2)) r1).bind (fun q _ => .ok q.1 q.2)
theorem mut_go {m : MU} {rr : V → List V → Hp → VK → Prop} (hm : MuOk T m rr) {σ : St} {P H : Hp} {r : En} {i : Nat} {ds : List D} {us : List V} {a : Addr} {Q : VK} (rs : RS T P H σ r) (ea : σ[i]? = some (some (.ref a))) (hd : Reps T P ds us)
    (go : Go T W (relV T) σ P H r (mutR m i ds r) Q) : rr (.ref a) us H Q := by
  unfold mutR at go
  cases c1 : r.own? i with
  | none => rw [c1] at go; exact go.elim
  | some o =>
    rw [c1] at go
    simp only [Option.bind_some] at go
    cases c2 : muD m o ds with
    | none => rw [c2] at go; exact go.elim
    | some p =>
      rw [c2] at go
      simp only [Option.bind_some] at go
      cases c3 : r.chg i p.1 with
      | none => rw [c3] at go; exact go.elim
      | some r2 =>
        rw [c3] at go
        obtain ⟨b, e1, e2, e3⟩ := own_at rs c1
        rw [ea] at e1; cases e1
        have hl : ∃ l, o = .lst l := by
          cases o with
          | lst l => exact ⟨l, rfl⟩
          | _ => cases m <;> simp [muD] at c2
        obtain ⟨l, rfl⟩ := hl
        obtain ⟨xs, hH, hx⟩ := e3
        obtain ⟨l', xs', u, h1, h2, h3, h4⟩ := hm P H a l xs ds us p.1 p.2 hH hx hd c2
        refine h4 Q (go u P (upd H a (.lst xs')) ?_ h3)
        rw [h1] at c3
        exact chg_ok rs c1 ea c3 ⟨xs', upd_same, h2⟩
theorem lstAt_own {r : En} {i : Nat} (h : lstAt r i = true) : ∃ l, r.own? i = some (.lst l) := by
  unfold lstAt at h
  cases c : r.own? i with
  | none => rw [c] at h; cases h
  | some o =>
    rw [c] at h
    cases o <;> first | cases h; done | skip
    exact ⟨_, rfl⟩
theorem tBM_of (hK : X.K = T.K) {m : MU} {rr : V → List V → Hp → VK → Prop} (hm : MuOk T m rr) {i : Nat} {f : En → R (List D)} {σ : St} {H : Hp} {Q : VK}
    (h : tE T W (fun r => if lstAt r i = true then (f r).bind fun ds r1 => mutR m i ds r1 else .bad) σ H Q) {t : TA} (ht : ∀ σ H Q, tS T W f σ H Q → t σ H Q) : tBM X.K "list" rr (tVar i) t σ H Q := by
  obtain ⟨P, r, rs, go⟩ := h
  dsimp only at go
  by_cases k : lstAt r i = true
  · rw [if_pos k] at go
    obtain ⟨l, e0⟩ := lstAt_own k
    obtain ⟨a, ea, _, ro⟩ := own_at rs e0
    obtain ⟨xs, hH, _⟩ := ro
    refine ⟨.ref a, ea, .inl ⟨rfl, xs, .inl (.inl hH)⟩, ht _ _ _ ⟨P, r, rs, (Go.bind (anti_V T) go).mono fun us H1 ⟨P1, r1, ds, a1, q1, e1, go1⟩ => mut_go hm a1.rs ea q1 go1⟩⟩
  · rw [if_neg k] at go; exact go.elim
theorem de_append (hK : X.K = T.K) {o x : PySem.Expr} {apos cpos : Pos} {i : Nat} {f : En → R (List D)} (ho : PE X o (tVar i)) (ha : PA X [x] (tS T W f)) (hs : notStar x = true)
    (hb : attributeBase o "append" X.env (eval o X.env) = eval o X.env) (hl : (apos.endLine == cpos.line) = true) :
    PE X (.Call (.Attribute o "append" apos) [x] [] cpos) (tE T W fun r => if lstAt r i = true then (f r).bind fun ds r1 => mutR .append i ds r1 else .bad) :=
  peImp (pe_bm PySem.F.plainAttrs_list PySem.F.slot_list_append PySem.F.type_list_append (mt_append (X := X)) ho ha hb (by rw [star_one hs]; rfl) hl (star_one hs _ _) rfl) fun σ H Q h => tBM_of hK mu_append h fun _ _ _ h => h
theorem de_popAt (hK : X.K = T.K) {o x : PySem.Expr} {apos cpos : Pos} {i : Nat} {f : En → R (List D)} (ho : PE X o (tVar i)) (ha : PA X [x] (tS T W f)) (hs : notStar x = true)
    (hb : attributeBase o "pop" X.env (eval o X.env) = eval o X.env) (hl : (apos.endLine == cpos.line) = true) :
    PE X (.Call (.Attribute o "pop" apos) [x] [] cpos) (tE T W fun r => if lstAt r i = true then (f r).bind fun ds r1 => mutR .popAt i ds r1 else .bad) :=
  peImp (pe_bm PySem.F.plainAttrs_list PySem.F.slot_list_pop PySem.F.type_list_pop (mt_popAt (X := X)) ho ha hb (by rw [star_one hs]; rfl) hl (star_one hs _ _) rfl) fun σ H Q h => tBM_of hK mu_popAt h fun _ _ _ h => h
/-! ### methods that only look -/
theorem de_bits {o : PySem.Expr} {apos pos : Pos} (ho : PE X o (tB T W fa)) (hb : attributeBase o "bit_length" X.env (eval o X.env) = eval o X.env) (hl : (apos.endLine == pos.line) = true) :
    PE X (.Call (.Attribute o "bit_length" apos) [] [] pos) (tE T W fun r => (fa r).bind fun x r1 => op1 (fun d => (mtD .bitlen d []).map Val.sh) x r1) := by
  refine de_op1 (peImp (pe_bits ho hb hl) fun σ H Q h => ?_)
  obtain ⟨P, r, rs, go⟩ := h
  refine ⟨P, r, rs, go.mono fun u H1 ⟨a, v, σ1, P1, r1, rs1, ra, e, go1⟩ => ?_⟩
  cases a <;> simp only [mtD, Option.map_none, Option.map_some] at e <;> first | (cases e; done) | skip
  cases e
  exact ⟨_, ra.int, go1.here rs1 (by simp only [Rep])⟩
theorem indexD_spec {x : D} {l : List D} {k : Nat} (h : indexD x l = some k) : ∃ y, l[k]? = some y ∧ eqv y x = true ∧ ∀ m z, m < k → l[m]? = some z → eqv z x = false := by
  unfold indexD at h
  rw [List.find?_range_eq_some] at h
  obtain ⟨h1, h2, h3⟩ := h
  cases c : l[k]? with
  | none => rw [c] at h1; cases h1
  | some y =>
    rw [c] at h1
    refine ⟨y, rfl, h1, fun m z hm hz => ?_⟩
    have := h3 m hm
    rw [hz] at this
    simpa using this
theorem de_index (hK : X.K = T.K) {o x : PySem.Expr} {apos cpos : Pos} {f : En → R (List (Nat ⊕ D))} (ho : PE X o (tB T W fa)) (ha : PA X [x] (tA T W f)) (hs : notStar x = true)
    (hb : attributeBase o "index" X.env (eval o X.env) = eval o X.env) (hl : (apos.endLine == cpos.line) = true) :
    PE X (.Call (.Attribute o "index" apos) [x] [] cpos) (tE T W fun r => (fa r).bind fun x r1 => if lstB r1 x then (f r1).bind fun xs r2 => opn (fun l => match l with | d :: ds => (mtD .index d ds).map Val.sh | [] => none) (x :: xs) r2 else .bad) := by
  refine peImp (pe_bm PySem.F.plainAttrs_list PySem.F.slot_list_index PySem.F.type_list_index (mt_index (X := X)) ho ha hb (by rw [star_one hs]; rfl) hl (star_one hs _ _) rfl) fun σ H Q ⟨P, r, rs, go⟩ => ?_
  refine ⟨P, r, rs, (Go.bind (anti_V T) go).mono fun u H1 ⟨P1, r1, x, a1, q1, e1, go1⟩ => ?_⟩
  by_cases k : lstB r1 x = true
  rotate_left
  · rw [if_neg k] at go1; exact go1.elim
  rw [if_pos k] at go1
  have hx : ∃ l, res r1 [x] = some [.lst l] := by
    unfold lstB at k
    split at k
    · rename_i l h; exact ⟨l, h⟩
    · cases k
  obtain ⟨l, hx⟩ := hx
  obtain ⟨d, e0, ra⟩ := res1 a1.rs q1 hx
  cases e0
  obtain ⟨p, xs, rfl, hH, hr⟩ := ra.lst a1.rs
  refine ⟨.inl ⟨rfl, xs, .inl (.inl hH)⟩, ⟨P1, r1, a1.rs, (Go.bind (anti_V T) go1).mono fun us H2 ⟨P2, r2, ys, a2, q2, e2, go2⟩ => ?_⟩⟩
  unfold opn at go2
  cases c : res r2 (x :: ys) with
  | none => rw [c] at go2; exact go2.elim
  | some ds =>
    rw [c] at go2
    simp only [Option.bind_some] at go2
    have rb : RBs T σ P2 (x :: ys) (.ref p :: us) := ⟨_, _, rfl, q1.ext a2.st.pp, q2⟩
    have ras := res_ok a2.rs rb c
    match ds, ras, go2 with
    | [], ras, go2 => exact go2.elim
    | d :: ds, ras, go2 =>
      obtain ⟨u0, t0, e3, ra1, ras⟩ := ras
      cases e3
      simp only at go2
      cases c2 : mtD .index d ds with
      | none => rw [c2] at go2; exact go2.elim
      | some w =>
        rw [c2] at go2
        match d, ds, c2, ra1, ras with
        | .lst l2, [y], c2, ra1, ras =>
          simp only [mtD] at c2
          split at c2
          rotate_left
          · cases c2
          rename_i hf
          rw [Bool.and_eq_true] at hf
          cases c3 : indexD y l2 with
          | none => rw [c3] at c2; cases c2
          | some k =>
            rw [c3] at c2
            cases c2
            obtain ⟨p2, xs2, e4, hH2, hr2⟩ := ra1.lst a2.rs
            cases e4
            obtain ⟨u1, t1, e5, ra2, ras2⟩ := ras
            subst e5
            obtain rfl : t1 = [] := ras2
            have ry : Rep T P2 y u1 := flat_RA hf.1 ra2
            obtain ⟨z, g1, g2, g3⟩ := indexD_spec c3
            have fl : ∀ {m : Nat} {w : D}, l2[m]? = some w → flat w = true := fun {m w} q => List.all_eq_true.mp hf.2 w (List.mem_of_getElem? q)
            obtain ⟨v, e6, e7⟩ := hr2.get g1
            refine ⟨p, xs2, u1, k, v, rfl, rfl, .inl (.inl hH2), rep_flatV hf.1 ry, all_flatV hr2 hf.2, e6, by rw [rep_eqV (fl g1) hf.1 e7 ry]; exact g2, fun m z' hm hz => ?_, go2.here a2.rs (by simp only [Rep])⟩
            have hlt : m < l2.length := by
              have := (List.getElem?_eq_some_iff.mp hz).1
              rw [hr2.length] at this
              exact this
            obtain ⟨v', e8, e9⟩ := hr2.get (List.getElem?_eq_getElem hlt)
            rw [hz] at e8; cases e8
            rw [rep_eqV (fl (List.getElem?_eq_getElem hlt)) hf.1 e9 ry]
            exact g3 m _ hm (List.getElem?_eq_getElem hlt)
        | .lst _, [], c2, _, _ => simp [mtD] at c2
        | .lst _, _ :: _ :: _, c2, _, _ => simp [mtD] at c2
        | .non, _, c2, _, _ => simp [mtD] at c2
        | .bl _, _, c2, _, _ => simp [mtD] at c2
        | .int _, _, c2, _, _ => simp [mtD] at c2
        | .str _, _, c2, _, _ => simp [mtD] at c2
        | .tup _, _, c2, _, _ => simp [mtD] at c2
        | .dct _ _, _, c2, _, _ => simp [mtD] at c2
        | .dts _, _, c2, _, _ => simp [mtD] at c2
        | .dtv _ _, _, c2, _, _ => simp [mtD] at c2
        | .fn _, _, c2, _, _ => simp [mtD] at c2
        | .exn _ _, _, c2, _, _ => simp [mtD] at c2
        | .scr _, _, c2, _, _ => simp [mtD] at c2
end
end Z
/-! ZQ: built-in calls, isinstance, slices, tests. -/
namespace Z
open PySem PySem.Spec L2
open PyProof.Rows hiding St
section
variable {T : Tb} {W : WX} {X : Cx} {e : PySem.Expr} {fa fb fc : En → R (Nat ⊕ D)}
/-! ### built-in functions and types called -/
theorem de_biB {id : String} {x : Str} {a : PySem.Expr} {es : List PySem.Expr} {p pos : Pos} {g : List D → Option Val} {f : En → R (List (Nat ⊕ D))} (hc : CallR X (.builtin id) (rDn T W g)) (hg : Gl X x) (hm : X.mg x = none) (hv : bootBuiltins x = some (.builtin id))
    (hs : notStar a = true) (hss : es.all notStar = true) (ha : PA X (a :: es) (tA T W f)) (hn : x ≠ "__name__") (hd : (x == ("__debug__" : Str)) = false) :
    PE X (.Call (.Name x p) (a :: es) [] pos) (tE T W fun r => (f r).bind fun xs r1 => opn g xs r1) :=
  de_opn (pe_callB hc hg hm hv ha hn hd (star_one hs es X.env) (star_all hss X.env pos))
theorem de_biT {id : String} {x : Str} {a : PySem.Expr} {es : List PySem.Expr} {p pos : Pos} {g : List D → Option Val} {f : En → R (List (Nat ⊕ D))} (hc : CallR X (.type id) (rDn T W g)) (hg : Gl X x) (hm : X.mg x = none) (hv : bootBuiltins x = some (.type id))
    (hs : notStar a = true) (hss : es.all notStar = true) (ha : PA X (a :: es) (tA T W f)) (hn : x ≠ "__name__") (hd : (x == ("__debug__" : Str)) = false) :
    PE X (.Call (.Name x p) (a :: es) [] pos) (tE T W fun r => (f r).bind fun xs r1 => opn g xs r1) :=
  de_opn (pe_callTy hc hg hm hv ha hn hd (star_one hs es X.env) (star_all hss X.env pos))
theorem de_isi (hK : X.K = T.K) {t : Ty} (ht : ∀ c, t ≠ .cls c) {a b : PySem.Expr} {p pos : Pos} (hg : Gl X "isinstance") (hm : X.mg "isinstance" = none) (hs : notStar a = true) (hs' : notStar b = true) (ha : PE X a (tB T W fa)) (hb : PE X b (tC (.ty (tyName t)))) :
    PE X (.Call (.Name "isinstance" p) [a, b] [] pos) (tE T W fun r => (fa r).bind fun x r1 => op1 (fun u => boolV (isiD u t)) x r1) := by
  refine de_op1 (peImp (pe_callB (isi_D (T := T) (W := W) hK t ht) hg hm PyProof.Rows.boot_isinstance (pa_cons ha (pa_cons hb pa_nil (star_one hs' _ _)) (star_one hs _ _)) (by decide) (by decide) (star_one hs _ _) (star_all (by simp [hs']) _ _)) fun σ H Q h => ?_)
  obtain ⟨P, r, rs, go⟩ := h
  refine ⟨P, r, rs, go.mono fun u H1 q => ?_⟩
  exact ⟨u, rfl, q⟩
/-! ### slices -/
def relP (T : Tb) (σ : St) : Rel (Nat ⊕ D) (Option Int) := fun _ _ _ x o => ∃ d, x = .inr d ∧ part? d = some o
theorem anti_P (T : Tb) (σ : St) : Anti (relP T σ) := fun _ _ _ _ _ _ _ q => q
def tP (T : Tb) (W : WX) (f : En → R (Nat ⊕ D)) : TO := fun σ H Q => ∃ P r, RS T P H σ r ∧ Go T W (relP T σ) σ P H r (f r) Q
theorem dp_none : PO X none (tP T W fun r => .ok (.inr .non) r) := ⟨fun pins s σ H Q I ⟨P, r, rs, go⟩ => po_none.run pins s σ H Q I (go none P H (.refl rs) ⟨.non, rfl, rfl⟩)⟩
theorem dp_some (h : PE X e (tB T W fa)) : PO X (some e) (tP T W fun r => (fa r).bind fun x r1 => R.of (match res r1 [x] with | some [.int i] => some (.inr (.int i)) | _ => none) r1) :=
  ⟨fun pins s σ H Q I ⟨P, r, rs, go⟩ => (po_some h).run pins s σ H Q I ⟨P, r, rs, (Go.bind (anti_P T σ) go).mono fun u H1 ⟨P1, r1, x, a1, q1, e1, go1⟩ => by
    cases c : res r1 [x] with
    | none => rw [c] at go1; exact go1.elim
    | some l =>
      obtain ⟨a, rfl, ra⟩ := res1 a1.rs q1 c
      rw [c] at go1
      cases a with
      | int i => exact ⟨i, ra.int, go1 (some i) P1 H1 (.refl a1.rs) ⟨.int i, rfl, rfl⟩⟩
      | _ => exact go1.elim⟩⟩
theorem de_slc (hK : X.K = T.K) {lo hi : Option PySem.Expr} {p2 pos : Pos} (he : PE X e (tB T W fa)) (hl : PO X lo (tP T W fb)) (hh : PO X hi (tP T W fc)) :
    PE X (.Subscript e (.Slice lo hi none p2) pos) (tE T W fun r => (fa r).bind fun x r1 => (fb r1).bind fun y r2 => (fc r2).bind fun z r3 => op3 slcD x y z r3) := by
  refine peImp (pe_slice (sl_D (W := W) hK) he hl hh) fun σ H Q ⟨P, r, rs, go⟩ => ⟨P, r, rs, (Go.bind (anti_V T) go).mono fun u H1 ⟨P1, r1, x, a1, q1, e1, go1⟩ => ⟨P1, r1, a1.rs, (Go.bind (anti_V T) go1).mono fun o H2 ⟨P2, r2, y, a2, q2, e2, go2⟩ => ⟨P2, r2, a2.rs, (Go.bind (anti_V T) go2).mono fun o' H3 ⟨P3, r3, z, a3, q3, e3, go3⟩ => ?_⟩⟩⟩
  obtain ⟨d, rfl, pd⟩ := q2
  obtain ⟨d', rfl, pd'⟩ := q3
  unfold op3 at go3
  cases c : res r3 [x] with
  | none =>
    have : res r3 [x, .inr d, .inr d'] = none := by
      cases x with
      | inl i => simp only [res] at c ⊢; cases z : r3.rd i <;> simp_all
      | inr w => simp [res] at c
    rw [this] at go3; exact go3.elim
  | some l =>
    obtain ⟨a, rfl, ra⟩ := res1 a3.rs ((q1.ext a2.st.pp).ext a3.st.pp) c
    have : res r3 [x, .inr d, .inr d'] = some [a, d, d'] := by
      cases x with
      | inl i => simp only [res] at c ⊢; cases z : r3.rd i <;> simp_all
      | inr w => simp [res] at c ⊢; exact c
    rw [this] at go3
    dsimp only at go3
    cases c2 : slcD a d d' with
    | none => rw [c2] at go3; exact go3.elim
    | some w => rw [c2] at go3; exact ⟨a, d, d', w, σ, P3, r3, a3.rs, ra, pd, pd', c2, go3⟩
/-! ### tests -/
theorem dt_val (hK : X.K = T.K) (ha : PE X e (tB T W fa)) (he : ∀ whole, isTrue e X.env whole = (do let v ← whole; standAt e.pos; holding [v] (truthy v))) :
    PT X e (tK T W fun r => (fa r).bind fun x r1 => R.of (match res r1 [x] with | some [a] => tru a | _ => none) r1) := by
  refine ptImp (pt_truth ha he) fun σ H Q ⟨P, r, rs, go⟩ => ⟨P, r, rs, (Go.bind anti_K go).mono fun u H1 ⟨P1, r1, x, a1, q1, e1, go1⟩ => ?_⟩
  cases c : res r1 [x] with
  | none => rw [c] at go1; exact go1.elim
  | some l =>
    obtain ⟨a, rfl, ra⟩ := res1 a1.rs q1 c
    rw [c] at go1
    dsimp only at go1
    cases c2 : tru a with
    | none => rw [c2] at go1; exact go1.elim
    | some k => rw [c2] at go1; exact ⟨k, truV_of hK a1.rs ra c2, go1 k P1 H1 (.refl a1.rs) rfl⟩
/-- a comparison as a test -/
theorem dt_cmp (hK : X.K = T.K) (hu : X.A.units + 65 < cLine) {op : CmpOp} {a b : PySem.Expr} {pos : Pos} (ha : PE X a (tB T W fa)) (hb : PE X b (tB T W fb)) (hm : behindInMarks op b = false) :
    PT X (.Compare a [op] [b] pos) (tK T W fun r => ((fa r).bind fun x r1 => (fb r1).bind fun y r2 => op2 (fun u v => boolV (cmpD op u v)) x y r2).bind fun v r1 => R.of (tru v.d) r1) := by
  refine ptImp (pt_cmpR (op_cmpD (W := W) hK hu op) ha hb hm) fun σ H Q ⟨P, r, rs, go⟩ => ⟨P, r, rs, ?_⟩
  dsimp only at go
  rw [bind_assoc] at go
  refine (Go.bind anti_K go).mono fun u H1 ⟨P1, r1, x, a1, q1, e1, go1⟩ => ⟨P1, r1, a1.rs, ?_⟩
  rw [bind_assoc] at go1
  refine (Go.bind anti_K go1).mono fun v H2 ⟨P2, r2, y, a2, q2, e2, go2⟩ => ?_
  unfold op2 at go2
  cases c : res r2 [x, y] with
  | none => rw [c] at go2; exact go2.elim
  | some l =>
    obtain ⟨a, b, rfl, h1, h2⟩ := res2 a2.rs (rb2 q1 a2.st.pp q2) c
    rw [c] at go2
    dsimp only at go2
    cases c2 : cmpD op a b with
    | none => rw [c2] at go2; exact go2.elim
    | some k =>
      rw [c2] at go2
      refine ⟨a, b, .sh (.bl k), σ, P2, r2, a2.rs, h1, h2, by simp only [c2]; rfl, fun u' P' H' a' rv => ?_⟩
      have hu' : u' = .bl k := by
        have rv' : Rep T P' (.bl k) u' := rv
        simpa only [Rep] using rv'
      refine ⟨k, hu', go2 k P' H' a' rfl⟩
theorem dt_not {a : PySem.Expr} {pos : Pos} {f : En → R Bool} (h : PT X a (tK T W f)) : PT X (.UnaryOp .Not a pos) (tK T W fun r => (f r).bind fun b r1 => .ok (!b) r1) :=
  ptImp (pt_not h) fun σ H Q ⟨P, r, rs, go⟩ => ⟨P, r, rs, (Go.bind anti_K go).mono fun u H1 ⟨P1, r1, b, a1, q1, e1, go1⟩ => by
    have q1' : u = b := q1
    subst q1'
    exact go1 _ P1 H1 (.refl a1.rs) rfl⟩
theorem pwImp {t t' : TT} (h : PW X e t) (k : ∀ σ H Q, t' σ H Q → t σ H Q) : PW X e t' := ⟨fun wh pins s σ H Q I q => h.run wh pins s σ H Q I (k _ _ _ q)⟩
theorem dw_and {a b : PySem.Expr} {rest : List PySem.Expr} {pos : Pos} {f g : En → R Bool} (ha : PT X a (tK T W f)) (hb : PW X (.BoolOp .And (b :: rest) pos) (tK T W g)) :
    PW X (.BoolOp .And (a :: b :: rest) pos) (tK T W fun r => (f r).bind fun k r1 => if k = true then g r1 else .ok false r1) :=
  pwImp (pw_and ha hb) fun σ H Q ⟨P, r, rs, go⟩ => ⟨P, r, rs, (Go.bind anti_K go).mono fun u H1 ⟨P1, r1, b, a1, q1, e1, go1⟩ => by
    have q1' : u = b := q1
    subst q1'
    cases u with
    | true => exact ⟨P1, r1, a1.rs, go1⟩
    | false => exact go1 _ P1 H1 (.refl a1.rs) rfl⟩
theorem dw_or {a b : PySem.Expr} {rest : List PySem.Expr} {pos : Pos} {f g : En → R Bool} (ha : PT X a (tK T W f)) (hb : PW X (.BoolOp .Or (b :: rest) pos) (tK T W g)) :
    PW X (.BoolOp .Or (a :: b :: rest) pos) (tK T W fun r => (f r).bind fun k r1 => if k = true then .ok true r1 else g r1) :=
  pwImp (pw_or ha hb) fun σ H Q ⟨P, r, rs, go⟩ => ⟨P, r, rs, (Go.bind anti_K go).mono fun u H1 ⟨P1, r1, b, a1, q1, e1, go1⟩ => by
    have q1' : u = b := q1
    subst q1'
    cases u with
    | true => exact go1 _ P1 H1 (.refl a1.rs) rfl
    | false => exact ⟨P1, r1, a1.rs, go1⟩⟩
end
end Z
/-! ZR: zip of two lists, strict. -/
namespace Z
open PySem PySem.Spec
open PyProof.Rows hiding St
open Sem (wp)
/-- the keyword strict=True -/
def skw : List (Str × Value) := [("strict", .bool true)]
theorem zs_ct (u v : Value) : checkTypeCall "zip" ⟨[u, v], skw⟩ = pure () := by kernel_rfl
theorem zs_cn (u v : Value) : checkBuiltinCall "zip.__new__" ⟨[.type "zip", u, v], skw⟩ = pure () := by kernel_rfl
theorem zs_ai (u v w : Value) : PySem.argsOk "object.__init__" ⟨[u, v, w], skw⟩ := by
  unfold PySem.argsOk
  rw [signature?_of (id := "object.__init__") (n := ['_', '_', 't', 'i', 'n', 'i', '_', '_']) (o := ['t', 'c', 'e', 'j', 'b', 'o']) (by kernel_rfl) PySem.F.owner_object]
  kernel_rfl
/-- the five things that zip lays -/
abbrev zsA (h : Heap) (m n : Addr) : Heap := zipH4 h m n
abbrev zsB (h : Heap) (m n : Addr) : Heap := (zsA h m n).push { cls := .type "zip", data := .fields #[.none, .bool false, .bool true, .ref (zipH2 h m n).objs.size, .ref (zipH3 h m n).objs.size] }
theorem zs_new (m n : Addr) (us vs : Array Value) :
    Meets (Builtin.«zip.__new__» ⟨[.type "zip", .ref m, .ref n], skw⟩) (fun _ R s => s.heap.IsList m us ∧ s.heap.IsList n vs ∧ R (.ok (.ret (.ref (zsA s.heap m n).objs.size))) { s with heap := zsB s.heap m n }) :=
  .of_wp fun prog w A R s q => by
    have hsub := sub_zip
    obtain ⟨h0, g0, d0, t0, o0⟩ := s
    obtain ⟨a1, a2, q⟩ := q
    have b1 : Heap.IsList (Shared.heap ⟨h0, g0, d0, t0, o0⟩) m us := a1
    have b2 : Heap.IsList (Shared.heap ⟨h0.push { cls := .type "list_iterator", data := .fields #[.ref m, .int 0 0] }, g0, d0, t0, o0⟩) n vs := Heap.IsList.push a2 _
    unfold skw
    wp_walk using wpAny_pyIter_list b1, wpAny_pyIter_list b2
    exact ⟨_, rfl, q⟩
theorem zs_init {x : Value} {us : List Value} : Meets (Builtin.«object.__init__» ⟨x :: us, skw⟩) (fun _ R s => s.TypeIs x "zip" ∧ R (.ok (.ret .none)) s) := by
  have hl := PySem.F.called_zip.init.lookup
  have hm := PySem.F.called_zip.made
  have hne : (some "zip.__new__" != some "object.__new__") = true := by decide
  refine Meets.of_wp fun prog w A R s hs => ?_
  obtain ⟨hT, hq⟩ := hs
  unfold skw
  cases us with
  | nil =>
    repeat (any_goals (first | assumption | wp_step))
    exact ⟨_, rfl, hq⟩
  | cons a rest =>
    repeat (any_goals (first | assumption | wp_step))
    exact ⟨_, rfl, hq⟩
section
variable {prog : Program} {w : World} {A : Around} {E : Value → Shared → Prop} {s : Shared}
theorem zs_call {us : List Value} {S : PySem.Spec} {Q : Value → Shared → Prop} (hct : checkTypeCall "zip" ⟨us, skw⟩ = pure ()) (hcn : checkBuiltinCall "zip.__new__" ⟨.type "zip" :: us, skw⟩ = pure ()) (hai : ∀ x, PySem.argsOk "object.__init__" ⟨x :: us, skw⟩)
    (g : Meets (Builtin.«zip.__new__» ⟨.type "zip" :: us, skw⟩) S) (q : S A.in1 (wants (fun x s1 => s1.TypeIs x "zip" ∧ Q x s1) E) s) : wpAny (model prog w) A (call (.type "zip") us skw) Q E s := by
  have ft := PySem.F.called_zip
  obtain ⟨c, tl, hmro⟩ := ft.mro
  have hmade := ft.made
  have hsub := ft.sub
  refine wpAny_call (codeAny_of_tree ?_)
  show wpAny _ _ (callAny (.type "zip") _) _ _ _
  refine wpAny_pure ⟨Code.quiet_builtin _ (by decide +kernel), codeAny_builtin PySem.F.entry_type_call ?_⟩
  rw [Around.under_plain (weight_type_call_type "zip" us skw) (units_type_call_type "zip" us skw)]
  have h1 := ft.notType
  have h2 := ft.canCreate
  unfold skw at hct hcn hai g ⊢
  repeat (any_goals (first | assumption | wp_step))
  refine codeAny_mono (codeAny_call_builtin ft.plain PySem.F.entry_zip_new (wpAny_of_eq hcn (g prog w A.in1 _ s q))) fun r s1 hr => ?_
  cases r with
  | error e => exact hr
  | ok fl =>
    cases fl with
    | ret x =>
      obtain ⟨hT, hq⟩ := hr
      have hli := ft.init.lookup
      have hbi := ft.init.bind x
      repeat (any_goals (first | assumption | wp_step))
      refine codeAny_mono (codeAny_call_builtin ft.init.plain PySem.F.entry_object_init (ft.init.check _ _ _ _ _ _ _ _ hT (hai x) (zs_init (x := x) (us := us) prog w A.in1 (wants (fun r s2 => r = .none ∧ Q x s2) E) s1 ⟨hT, rfl, hq⟩))) fun r2 s2 hr2 => ?_
      cases r2 with
      | error e => exact hr2
      | ok fl2 =>
        cases fl2 with
        | ret r =>
          obtain ⟨rfl, hq⟩ := hr2
          repeat (any_goals (first | assumption | wp_step))
        | _ => exact hr2.elim
    | _ => exact hr.elim
end
end Z
/-! ZS: zip of two lists, strict: its turns. -/
namespace Z
open PySem PySem.Spec
open PyProof.Rows hiding St
open Sem (wp)
abbrev ZipS (h : Heap) (c TI TO : Addr) (x : Value) : Prop :=
  h.get? c = some { cls := .type "zip", dict := none, data := .fields #[x, .bool false, .bool true, .ref TI, .ref TO], slots := #[] }
section
variable {prog : Program} {w : World} {A : Around} {E : Value → Shared → Prop} {s : Shared}
theorem zs_make {m n : Addr} {us vs : Array Value} {Q : Value → Shared → Prop} (a1 : s.heap.IsList m us) (a2 : s.heap.IsList n vs)
    (q : ∀ h1, ZipS h1 (s.heap.objs.size + 4) (s.heap.objs.size + 2) (s.heap.objs.size + 3) .none → IsPair h1 (s.heap.objs.size + 2) (.ref s.heap.objs.size) (.ref (s.heap.objs.size + 1)) → IsPair h1 (s.heap.objs.size + 3) .none .none →
      h1.IsListIter s.heap.objs.size m 0 → h1.IsListIter (s.heap.objs.size + 1) n 0 → (∀ b o, s.heap.get? b = some o → h1.get? b = some o) → Q (.ref (s.heap.objs.size + 4)) { s with heap := h1 }) :
    wpAny (model prog w) A (call (.type "zip") [.ref m, .ref n] skw) Q E s := by
  refine zs_call (zs_ct _ _) (zs_cn _ _) (fun x => zs_ai x _ _) (zs_new m n us vs) ⟨a1, a2, ?_⟩
  have e1 : (zipH1 s.heap m).objs.size = s.heap.objs.size + 1 := Heap.size_push ..
  have e2 : (zipH2 s.heap m n).objs.size = s.heap.objs.size + 2 := by rw [Heap.size_push, e1]
  have e3 : (zipH3 s.heap m n).objs.size = s.heap.objs.size + 3 := by rw [Heap.size_push, e2]
  have e4 : (zsA s.heap m n).objs.size = s.heap.objs.size + 4 := by rw [Heap.size_push, e3]
  have k1 : ∀ b o, (zsA s.heap m n).get? b = some o → (zsB s.heap m n).get? b = some o := fun b o e => Heap.get?_push_of_some _ e
  have k2 : ∀ b o, (zipH3 s.heap m n).get? b = some o → (zsB s.heap m n).get? b = some o := fun b o e => k1 b o (Heap.get?_push_of_some _ e)
  have k3 : ∀ b o, (zipH2 s.heap m n).get? b = some o → (zsB s.heap m n).get? b = some o := fun b o e => k2 b o (Heap.get?_push_of_some _ e)
  have k4 : ∀ b o, (zipH1 s.heap m).get? b = some o → (zsB s.heap m n).get? b = some o := fun b o e => k3 b o (Heap.get?_push_of_some _ e)
  have f5 : (zsB s.heap m n).get? (zsA s.heap m n).objs.size = some _ := Heap.get?_push_size _ rfl
  have f4 : (zsB s.heap m n).get? (zipH3 s.heap m n).objs.size = some _ := k1 _ _ (Heap.get?_push_size _ rfl)
  have f3 : (zsB s.heap m n).get? (zipH2 s.heap m n).objs.size = some _ := k2 _ _ (Heap.get?_push_size _ rfl)
  have f2 : (zsB s.heap m n).get? (zipH1 s.heap m).objs.size = some _ := k3 _ _ (Heap.get?_push_size _ rfl)
  have f1 : (zsB s.heap m n).get? s.heap.objs.size = some _ := k4 _ _ (Heap.get?_push_size _ rfl)
  show _ ∧ _
  rw [e4, e2, e3] at f5
  rw [e2, e1] at f3
  rw [e3] at f4
  rw [e1] at f2
  rw [e4]
  exact ⟨⟨_, f5, rfl⟩, q _ f5 f3 f4 ⟨_, f1, rfl, rfl⟩ ⟨_, f2, rfl, rfl⟩ fun b o e => k4 b o (Heap.get?_push_of_some _ e)⟩
/-- a draw, an item is there -/
theorem noe_item {it l : Addr} {i : Nat} {us : Array Value} {x : Value} {Q : Option Value → Shared → Prop} (h1 : s.heap.IsListIter it l i) (h2 : s.heap.IsList l us) (hx : us[i]? = some x)
    (q : ∀ hp, hp.IsListIter it l (i + 1) → Heap.SameBut it s.heap hp → Q (some x) { s with heap := hp }) : wpAny (model prog w) A (Builtin.SmallTypes.nextOrEnd (.ref it)) Q E s := by
  unfold Builtin.SmallTypes.nextOrEnd
  exact wpAny_bind (wpAny_attempt (wpAny_nextOf_list_item h1 h2 hx fun hp a b => wpAny_pure (q hp a b)))
/-- a draw, the list is at its end -/
theorem noe_end {it l : Addr} {i : Nat} {us : Array Value} {Q : Option Value → Shared → Prop} (hh : A.handled = none) (h1 : s.heap.IsListIter it l i) (h2 : s.heap.IsList l us) (hx : us[i]? = none)
    (q : ∀ hp, Heap.ExtBut it s.heap hp → Q none { s with heap := hp }) : wpAny (model prog w) A (Builtin.SmallTypes.nextOrEnd (.ref it)) Q E s := by
  unfold Builtin.SmallTypes.nextOrEnd
  refine wpAny_bind (wpAny_attempt (wpAny_nextOf_list_end hh h1 h2 hx fun hp e a b => ?_))
  obtain ⟨o, ho, hc⟩ := b
  refine wpAny_bind (wpAny_isInstance (T := "StopIteration") (b := true) ⟨o, ho, hc⟩ isSubtype_stop ?_)
  exact wpAny_pure (q hp a)
theorem zs_item {c TI TO i1 i2 m n : Addr} {k1 k2 : Nat} {us vs : Array Value} {x y a b : Value} {Q : Value → Shared → Prop} (D : ZipApart c TI TO i1 i2 m n) (hz : ZipS s.heap c TI TO .none) (hI : IsPair s.heap TI (.ref i1) (.ref i2)) (hO : IsPair s.heap TO a b)
    (j1 : s.heap.IsListIter i1 m k1) (j2 : s.heap.IsListIter i2 n k2) (l1 : s.heap.IsList m us) (l2 : s.heap.IsList n vs) (hx : us[k1]? = some x) (hy : vs[k2]? = some y)
    (q : ∀ hp, ZipS hp c TI TO (rawInt s.heap.objs.size) → IsPair hp TO x y → hp.IsListIter i1 m (k1 + 1) → hp.IsListIter i2 n (k2 + 1) → IsPair hp s.heap.objs.size x y →
      (∀ b o, b ≠ c → b ≠ TO → b ≠ i1 → b ≠ i2 → s.heap.get? b = some o → hp.get? b = some o) → Q (.ref s.heap.objs.size) { s with heap := hp }) :
    wpAny (model prog w) A (Builtin.«zip.__next__» ⟨[.ref c], []⟩) (fun fin s1 => ∃ v, fin = .done (.ret v) ∧ Q v s1) E s := by
  show wpAny _ _ (field (.ref c) 2 >>= _) _ _ _
  refine wpAny_bind (wpAny_field hz rfl (x := .bool true) rfl ?_)
  show wpAny _ _ (field (.ref c) 3 >>= _) _ _ _
  refine wpAny_bind (wpAny_field hz rfl (x := .ref TI) rfl ?_)
  refine wpAny_bind (wpAny_seqItems hI rfl ?_)
  show wpAny _ _ (Builtin.SmallTypes.ownedTupleIsFree (.ref c) >>= _) _ _ _
  refine wpAny_bind ?_
  unfold Builtin.SmallTypes.ownedTupleIsFree
  refine wpAny_bind (wpAny_field hz rfl (x := .none) rfl (wpAny_pure ?_))
  simp only [if_true]
  refine wpAny_bind (wpAny_rule ?_)
  refine wpAny_bind (wpAny_field hz rfl (x := .ref TO) rfl ?_)
  refine wpAny_bind (wpAny_setField_rec hz (by simp) fun g1 z1 s1 => ?_)
  have z1 : ZipS g1 c TI TO .ellipsis := z1
  refine wpAny_bind ?_
  simp only [List.zipIdx_cons, List.zipIdx_nil, List.forIn_cons, List.forIn_nil]
  refine wpAny_bind (wpAny_bind (wpAny_onRaise ?_))
  show wpAny _ _ (Builtin.SmallTypes.nextOrEnd (.ref i1)) _ _ _
  refine noe_item (j1.extBut s1.extBut D.i1z) (l1.extBut s1.extBut D.l1z) hx fun g2 p1 s2 => ?_
  have o2 : IsPair g2 TO a b := s2.extBut _ _ D.TOi1 (s1.extBut _ _ D.TOz hO)
  refine wpAny_bind (wpAny_seqItems o2 rfl ?_)
  refine wpAny_bind (wpAny_updateSeq_pair o2 fun g3 o3 s3 => ?_)
  have o3 : IsPair g3 TO x b := o3
  refine wpAny_bind (wpAny_letGo (wpAny_pure ?_))
  refine wpAny_bind (wpAny_bind (wpAny_onRaise ?_))
  show wpAny _ _ (Builtin.SmallTypes.nextOrEnd (.ref i2)) _ _ _
  refine noe_item (((j2.extBut s1.extBut D.i2z).extBut s2.extBut D.i12.symm).extBut s3.extBut D.TOi2.symm) (((l2.extBut s1.extBut D.l2z).extBut s2.extBut D.l2i1).extBut s3.extBut D.l2TO) hy fun g4 p2 s4 => ?_
  have o4 : IsPair g4 TO x b := s4.extBut _ _ D.TOi2 o3
  refine wpAny_bind (wpAny_seqItems o4 rfl ?_)
  refine wpAny_bind (wpAny_updateSeq_pair o4 fun g5 o5 s5 => ?_)
  have o5 : IsPair g5 TO x y := o5
  refine wpAny_bind (wpAny_letGo (wpAny_pure (wpAny_pure ?_)))
  refine wpAny_bind (wpAny_seqItems o5 rfl ?_)
  refine wpAny_bind (wpAny_newTuple ?_)
  have sz : g5.objs.size = s.heap.objs.size := by rw [s5.1, s4.1, s3.1, s2.1, s1.1]
  have z5 : ZipS g5 c TI TO .ellipsis := s5.extBut _ _ D.TOz.symm (s4.extBut _ _ D.i2z.symm (s3.extBut _ _ D.TOz.symm (s2.extBut _ _ D.i1z.symm z1)))
  have old : ∀ b o, b ≠ c → b ≠ TO → b ≠ i1 → b ≠ i2 → s.heap.get? b = some o → g5.get? b = some o := fun b o n1 n2 n3 n4 e => s5.extBut _ _ n2 (s4.extBut _ _ n4 (s3.extBut _ _ n2 (s2.extBut _ _ n3 (s1.extBut _ _ n1 e))))
  have q1 : g5.IsListIter i1 m (k1 + 1) := ((p1.extBut s3.extBut D.TOi1.symm).extBut s4.extBut D.i12).extBut s5.extBut D.TOi1.symm
  have q2 : g5.IsListIter i2 n (k2 + 1) := p2.extBut s5.extBut D.TOi2.symm
  have b1 : c < g5.objs.size := Heap.lt_size z5
  show wpAny _ _ (Builtin.SmallTypes.ownedTupleHandOut (.ref c) (.ref g5.objs.size) >>= _) _ _ _
  refine wpAny_bind ?_
  unfold Builtin.SmallTypes.ownedTupleHandOut
  have z6 : ZipS (g5.push { cls := .type "tuple", data := .seq #[x, y] }) c TI TO .ellipsis := Heap.get?_push_of_some _ z5
  refine wpAny_bind (wpAny_setField_rec z6 (by simp) fun g7 z7 s7 => ?_)
  have z7 : ZipS g7 c TI TO (rawInt g5.objs.size) := z7
  refine wpAny_setField_rec z7 (by simp) fun g8 z8 s8 => ?_
  have z8 : ZipS g8 c TI TO (rawInt g5.objs.size) := z8
  have up : ∀ b o, b ≠ c → g5.get? b = some o → g8.get? b = some o := fun b o n1 e => s8.extBut _ _ n1 (s7.extBut _ _ n1 (Heap.get?_push_of_some _ e))
  have t8 : IsPair g8 g5.objs.size x y := s8.extBut _ _ (Nat.ne_of_gt b1) (s7.extBut _ _ (Nat.ne_of_gt b1) (Heap.get?_push_size _ rfl))
  rw [sz] at z8 t8
  refine wpAny_pure ⟨_, rfl, ?_⟩
  show Q (.ref g5.objs.size) _
  rw [sz]
  exact q g8 z8 (up _ _ D.TOz o5) (q1.at fun o e => up _ o D.i1z e) (q2.at fun o e => up _ o D.i2z e) t8 fun b o n1 n2 n3 n4 e => up b o n1 (old b o n1 n2 n3 n4 e)
theorem zs_end {c TI TO i1 i2 m n : Addr} {k1 k2 : Nat} {us vs : Array Value} {a b : Value} {Q : Fin → Shared → Prop} (hh : A.handled = none) (D : ZipApart c TI TO i1 i2 m n) (hz : ZipS s.heap c TI TO .none) (hI : IsPair s.heap TI (.ref i1) (.ref i2)) (hO : IsPair s.heap TO a b)
    (j1 : s.heap.IsListIter i1 m k1) (j2 : s.heap.IsListIter i2 n k2) (l1 : s.heap.IsList m us) (l2 : s.heap.IsList n vs) (hx : us[k1]? = none) (hy : vs[k2]? = none)
    (q : ∀ hp e, (∀ b o, b ≠ c → b ≠ TO → b ≠ i1 → b ≠ i2 → s.heap.get? b = some o → hp.get? b = some o) → (∃ o, hp.get? e = some o ∧ o.cls = .type "StopIteration") → E (.ref e) { s with heap := hp }) :
    wpAny (model prog w) A (Builtin.«zip.__next__» ⟨[.ref c], []⟩) Q E s := by
  show wpAny _ _ (field (.ref c) 2 >>= _) _ _ _
  refine wpAny_bind (wpAny_field hz rfl (x := .bool true) rfl ?_)
  show wpAny _ _ (field (.ref c) 3 >>= _) _ _ _
  refine wpAny_bind (wpAny_field hz rfl (x := .ref TI) rfl ?_)
  refine wpAny_bind (wpAny_seqItems hI rfl ?_)
  show wpAny _ _ (Builtin.SmallTypes.ownedTupleIsFree (.ref c) >>= _) _ _ _
  refine wpAny_bind ?_
  unfold Builtin.SmallTypes.ownedTupleIsFree
  refine wpAny_bind (wpAny_field hz rfl (x := .none) rfl (wpAny_pure ?_))
  simp only [if_true]
  refine wpAny_bind (wpAny_rule ?_)
  refine wpAny_bind (wpAny_field hz rfl (x := .ref TO) rfl ?_)
  refine wpAny_bind (wpAny_setField_rec hz (by simp) fun g1 z1 s1 => ?_)
  have z1 : ZipS g1 c TI TO .ellipsis := z1
  refine wpAny_bind ?_
  simp only [List.zipIdx_cons, List.zipIdx_nil, List.forIn_cons, List.forIn_nil]
  refine wpAny_bind (wpAny_bind (wpAny_onRaise ?_))
  show wpAny _ _ (Builtin.SmallTypes.nextOrEnd (.ref i1)) _ _ _
  refine noe_end hh (j1.extBut s1.extBut D.i1z) (l1.extBut s1.extBut D.l1z) hx fun g2 s2 => ?_
  have z2 : ZipS g2 c TI TO .ellipsis := s2 _ _ D.i1z.symm z1
  refine wpAny_bind (wpAny_setField_rec z2 (by simp) fun g3 z3 s3 => ?_)
  have k3 : ∀ b o, b ≠ c → b ≠ i1 → s.heap.get? b = some o → g3.get? b = some o := fun b o n1 n3 e => s3.extBut _ _ n1 (s2 _ _ n3 (s1.extBut _ _ n1 e))
  refine wpAny_bind ?_
  show wpAny _ _ (_ >>= _) _ _ _
  refine wpAny_bind ?_
  simp only [List.drop_succ_cons, List.drop_zero, List.zipIdx_cons, List.zipIdx_nil, List.forIn_cons, List.forIn_nil]
  refine wpAny_bind (wpAny_bind (noe_end hh ((j2.extBut s1.extBut D.i2z).at fun o e => ?_) ((l2.extBut s1.extBut D.l2z).at fun o e => ?_) hy fun g4 s4 => ?_))
  · exact s3.extBut _ _ D.i2z (s2 _ _ D.i12.symm e)
  · exact s3.extBut _ _ D.l2z (s2 _ _ D.l2i1 e)
  rw [if_neg (show ¬ (none : Option Value).isSome = true from Bool.false_ne_true)]
  refine wpAny_pure (wpAny_pure ?_)
  refine wpAny_bind (wpAny_rule ?_)
  show wpAny _ _ (newExc (.type "StopIteration") [] >>= _) _ _ _
  refine wpAny_bind ?_
  simp only [newExc, newTuple]
  refine wpAny_bind (wpAny_newObj_type ?_ (by size_fits))
  refine wpAny_bind (m := firstArgMember _ _) (wpAny_of_eq (a := Value.none) (by first | rfl | (simp only [firstArgMember]; rfl)) ?_)
  refine wpAny_newObj_type ?_ (by size_fits)
  simp only [raiseNew]
  refine wpAny_bind (wpAny_handled ?_)
  rw [hh]
  refine wpAny_bind (wpAny_pure (wpAny_throw ?_))
  refine q _ _ (fun b o n1 _ n3 n4 e => ?_) ⟨_, Heap.get?_push_size _ rfl, rfl⟩
  exact Heap.get?_push_of_some _ (Heap.get?_push_of_some _ (s4 _ _ n4 (k3 b o n1 n3 e)))
end
end Z
/-! ZT: zip, walked. -/
namespace Z
open PySem PySem.Spec L2
open PyProof.Rows hiding St
/-- both lists as they stand at each turn; at the end both are at their end -/
def Itzs (K : PySem.W.Frag) (a b : Addr) : It :=
  ⟨(Itz K a b).go, (Itz K a b).yld, fun i H => ∃ xs ys : List V, SqL K H a xs ∧ SqL K H b ys ∧ xs.length ≤ i ∧ ys.length ≤ i⟩
section
variable {prog : Program} {w : World} {A : Around} {E : Value → Shared → Prop} {s : Shared}
theorem zs_iter {c TI TO : Addr} {x : Value} {Q : Value → Shared → Prop} (hz : ZipS s.heap c TI TO x) (q : Q (.ref c) s) : wpAny (model prog w) A (pyIter (.ref c)) Q E s := by
  have hT : s.TypeIs (.ref c) "zip" := ⟨_, hz, rfl⟩
  refine wpAny_pyIter_slot hT PySem.F.slot_zip_iter (wpAny_call_entry PySem.F.slot_zip_iter hT PySem.F.entry_zip_iter ?_ (PySem.F.args_zip_iter_1 _))
  exact wpAny_pure ⟨_, rfl, "zip", _, hT, PySem.F.slot_zip_next.lookup, q⟩
theorem zs_letgo {elts : List PySem.Expr} {k} {pos : Pos} {c TI TO t : Addr} {Q : Unit → Shared → Prop} (hz : ZipS s.heap c TI TO (rawInt t)) (q : ∀ h1, ZipS h1 c TI TO .none → Heap.SameBut c s.heap h1 → Q () { s with heap := h1 }) :
    wpAny (model prog w) A (letOwnedTupleGo (.Tuple elts k pos) (.ref c) (.ref t)) Q E s := by
  unfold letOwnedTupleGo
  refine wpAny_bind (wpAny_load hz ?_)
  show wpAny _ _ (if (["enumerate", "zip", "dict_itemiterator", "dict_reverseitemiterator", "odict_iterator", "itertools.zip_longest", "itertools.pairwise"].contains "zip" && (#[rawInt t, .bool false, .bool true, .ref TI, .ref TO] : Array Value)[0]? == some (rawInt t)) = true then _ else _) Q E s
  rw [if_pos (by simp)]
  refine wpAny_bind (wpAny_rule ?_)
  exact wpAny_setField_rec hz (by simp) fun h1 z1 s1 => q h1 z1 s1
theorem zs_nx_item {c TI TO i1 i2 m n : Addr} {k1 k2 : Nat} {us vs : Array Value} {x y a b : Value} {Q : Option Value → Shared → Prop} (D : ZipApart c TI TO i1 i2 m n) (hz : ZipS s.heap c TI TO .none) (hI : IsPair s.heap TI (.ref i1) (.ref i2)) (hO : IsPair s.heap TO a b)
    (j1 : s.heap.IsListIter i1 m k1) (j2 : s.heap.IsListIter i2 n k2) (l1 : s.heap.IsList m us) (l2 : s.heap.IsList n vs) (hx : us[k1]? = some x) (hy : vs[k2]? = some y)
    (q : ∀ hp, ZipS hp c TI TO (rawInt s.heap.objs.size) → IsPair hp TO x y → hp.IsListIter i1 m (k1 + 1) → hp.IsListIter i2 n (k2 + 1) → IsPair hp s.heap.objs.size x y →
      (∀ b o, b ≠ c → b ≠ TO → b ≠ i1 → b ≠ i2 → s.heap.get? b = some o → hp.get? b = some o) → Q (some (.ref s.heap.objs.size)) { s with heap := hp }) :
    wpAny (model prog w) A (pyNext (.ref c)) Q E s := by
  have hT : s.TypeIs (.ref c) "zip" := ⟨_, hz, rfl⟩
  unfold pyNext
  refine wpAny_bind (wpAny_attempt (wpAny_callSpecial?_slot (name := Str.ofString "__next__") hT PySem.F.slot_zip_next ?_))
  refine wpAny_call_entry PySem.F.slot_zip_next hT PySem.F.entry_zip_next ?_ (PySem.F.args_zip_next_1 _)
  exact zs_item D hz hI hO j1 j2 l1 l2 hx hy fun hp q1 q2 q3 q4 q5 q6 => wpAny_pure (q hp q1 q2 q3 q4 q5 q6)
theorem zs_nx_end {c TI TO i1 i2 m n : Addr} {k1 k2 : Nat} {us vs : Array Value} {a b : Value} {Q : Option Value → Shared → Prop} (hh : A.handled = none) (D : ZipApart c TI TO i1 i2 m n) (hz : ZipS s.heap c TI TO .none) (hI : IsPair s.heap TI (.ref i1) (.ref i2)) (hO : IsPair s.heap TO a b)
    (j1 : s.heap.IsListIter i1 m k1) (j2 : s.heap.IsListIter i2 n k2) (l1 : s.heap.IsList m us) (l2 : s.heap.IsList n vs) (hx : us[k1]? = none) (hy : vs[k2]? = none)
    (q : ∀ hp, (∀ b o, b ≠ c → b ≠ TO → b ≠ i1 → b ≠ i2 → s.heap.get? b = some o → hp.get? b = some o) → Q none { s with heap := hp }) : wpAny (model prog w) A (pyNext (.ref c)) Q E s := by
  have hT : s.TypeIs (.ref c) "zip" := ⟨_, hz, rfl⟩
  unfold pyNext
  refine wpAny_bind (wpAny_attempt (wpAny_callSpecial?_slot (name := Str.ofString "__next__") hT PySem.F.slot_zip_next ?_))
  refine wpAny_call_entry PySem.F.slot_zip_next hT PySem.F.entry_zip_next ?_ (PySem.F.args_zip_next_1 _)
  refine zs_end hh D hz hI hO j1 j2 l1 l2 hx hy fun hp e a1 a2 => ?_
  obtain ⟨o, ho, hc⟩ := a2
  refine wpAny_bind (wpAny_isInstance (T := "StopIteration") (b := true) ⟨o, ho, hc⟩ isSubtype_stop ?_)
  exact wpAny_pure (q _ a1)
end
theorem mem5 {c z TI TO i1 i2 : Addr} (h : c ∈ [z, TI, TO, i1, i2]) : c = z ∨ c = TI ∨ c = TO ∨ c = i1 ∨ c = i2 := by simpa using h
theorem out5 {c z TI TO i1 i2 : Addr} (h : c ∉ [z, TI, TO, i1, i2]) : c ≠ z ∧ c ≠ TI ∧ c ≠ TO ∧ c ≠ i1 ∧ c ≠ i2 := by simpa using h
theorem turn_zs {P : Program} {w : World} {K : PySem.W.Frag} {elts : List PySem.Expr} {kk : Nat} {tpos : Pos} {a b z TI TO i1 i2 : Addr} (D : ZipApart z TI TO i1 i2 a b) :
    Turn P w K (.Tuple elts kk tpos) (Itzs K a b) [z, TI, TO, i1, i2] z (fun i h => ZipS h z TI TO .none ∧ IsPair h TI (.ref i1) (.ref i2) ∧ (∃ x y, IsPair h TO x y) ∧ h.IsListIter i1 a i ∧ h.IsListIter i2 b i) where
  mem := List.mem_cons_self
  obj := fun i h ⟨hz, hI, ⟨x, y, hO⟩, ⟨o1, e1, _, d1⟩, ⟨o2, e2, _, d2⟩⟩ c hc => by
    rcases mem5 hc with rfl | rfl | rfl | rfl | rfl
    · exact ⟨_, hz, fun v q => nomatch q⟩
    · exact ⟨_, hI, fun v q => nomatch q⟩
    · exact ⟨_, hO, fun v q => nomatch q⟩
    · exact ⟨o1, e1, fun v q => by rw [d1] at q; cases q⟩
    · exact ⟨o2, e2, fun v q => by rw [d2] at q; cases q⟩
  keep := fun i h h' ⟨hz, hI, ⟨x, y, hO⟩, j1, j2⟩ k => ⟨k z (by simp) _ hz, k TI (by simp) _ hI, ⟨x, y, k TO (by simp) _ hO⟩, j1.at fun o q => k i1 (by simp) o q, j2.at fun o q => k i2 (by simp) o q⟩
  item := by
    intro X hP hw hK hc i pins s σ H E I hf ⟨hz, hI, ⟨x0, y0, hO⟩, j1, j2⟩ hg
    subst hP hw hK
    obtain ⟨xs, ys, x, y, qx, qy, hx, hy⟩ := hg
    obtain ⟨is1, r1, p1, _⟩ := I.list qx
    obtain ⟨is2, r2, p2, _⟩ := I.list qy
    obtain ⟨u1, g1, s1⟩ := r1.get hx
    obtain ⟨u2, g2, s2⟩ := r2.get hy
    have zl : z < s.heap.objs.size := Heap.lt_size hz
    refine zs_nx_item D hz hI hO j1 j2 p1.isList p2.isList (x := u1) (y := u2) (by simpa using g1) (by simpa using g2) fun hp z1 o1 m1 m2 t1 k1 => ?_
    refine ⟨_, rfl, zs_letgo (s := { s with heap := hp }) z1 fun h2 z2 sb => ?_⟩
    have t2 : h2.get? s.heap.objs.size = some { cls := .type "tuple", data := .seq #[u1, u2] } := (sb.2 _ (Nat.ne_of_gt zl)).trans t1
    have ok : ObjOk X.prog X.w (upd H s.heap.objs.size (.tup [x, y])) h2 s.heap.objs.size (.tup [x, y]) := ⟨by show 2 ≤ sizeLine; decide, [u1, u2], .cons s1 (.cons s2 .nil), ⟨_, t2, rfl, _, rfl⟩⟩
    have J : Inv X pins σ (upd H s.heap.objs.size (.tup [x, y])) { s with heap := h2 } := I.turnedNew (t' := s.toks) (ch := [z, TI, TO, i1, i2]) (fun c o hb q => by
      obtain ⟨n1, n2, n3, n4, n5⟩ := out5 hb
      exact (sb.2 c n1).trans (k1 c o n1 n3 n4 n5 q)) hf (Nat.le_refl _) ok
    refine ⟨.ref s.heap.objs.size, _, J, rfl, ⟨_, x, y, rfl, I.hok.fresh (Nat.le_refl _), rfl, fun l hl => by rw [I.list_inj hl qx]; exact hx, fun l hl => by rw [I.list_inj hl qy]; exact hy⟩, ⟨z2, ?_, ⟨u1, u2, ?_⟩, ?_, ?_⟩, fun c hcm => ?_⟩
    · exact (sb.2 _ D.TIz).trans (k1 _ _ D.TIz D.TITO D.TIi1 D.TIi2 hI)
    · exact (sb.2 _ D.TOz).trans o1
    · exact m1.at fun o q => (sb.2 _ D.i1z).trans q
    · exact m2.at fun o q => (sb.2 _ D.i2z).trans q
    · have lt : c < s.heap.objs.size := by
        rcases mem5 hcm with rfl | rfl | rfl | rfl | rfl
        · exact zl
        · exact Heap.lt_size hI
        · exact Heap.lt_size hO
        · obtain ⟨_, e1, _⟩ := j1; exact Heap.lt_size e1
        · obtain ⟨_, e2, _⟩ := j2; exact Heap.lt_size e2
      rw [upd_ne (Nat.ne_of_lt lt)]
      exact (hf c hcm).1
  done := by
    intro X hP hw hK hc i pins s σ H E I hf ⟨hz, hI, ⟨x0, y0, hO⟩, j1, j2⟩ hg
    subst hP hw hK
    obtain ⟨xs, ys, qx, qy, e1, e2⟩ := hg
    obtain ⟨is1, r1, p1, _⟩ := I.list qx
    obtain ⟨is2, r2, p2, _⟩ := I.list qy
    have n1 := r1.length
    have n2 := r2.length
    refine zs_nx_end (I.ok.hd hc) D hz hI hO j1 j2 p1.isList p2.isList (by simp; omega) (by simp; omega) fun hp k1 => ⟨rfl, I.turnedL (t' := s.toks) (ch := [z, TI, TO, i1, i2]) (fun c o hb q => ?_) hf⟩
    obtain ⟨n1, n2, n3, n4, n5⟩ := out5 hb
    exact k1 c o n1 n3 n4 n5 q
  self := fun A i s Q E st h => zs_iter st.1 h
/-- a type called with keywords -/
theorem callWith_tyK {M : Model} {A : Around} {E : Value → Shared → Prop} {s : Shared} {env : PySem.Env} {pos : Pos} {id : String} {e : PySem.Expr} {es : List PySem.Expr} {kws : List Keyword} {Q : Value → Shared → Prop}
    (h : wpAny M A (spliced (backTo pos (starEach (e :: es) env))) (fun us s1 => wpAny M A (evalAll ((backToKw pos (keywordEach kws env)).map (·.2))) (fun ws s2 => wpAny M A (call (.type id) us (((backToKw pos (keywordEach kws env)).filterMap (·.1)).zip ws)) Q E s2) E s1) E s)
    (he : backTo pos (starEach (e :: es) env) = (false, (do let v ← eval e env; standAt pos; pure v)) :: backTo pos (starEach es env) ∨ backTo pos (starEach (e :: es) env) = (false, eval e env) :: backTo pos (starEach es env)) (hp : (backTo pos (starEach (e :: es) env)).any (·.1) = false) (ha : (backToKw pos (keywordEach kws env)).all (·.1.isSome) = true)
    (hn : (backToKw pos (keywordEach kws env)).any (·.1.isNone) = false) :
    wpAny M A (callWith pos (.type id) [] (backTo pos (starEach (e :: es) env)) (backToKw pos (keywordEach kws env))) Q E s := by
  have go : wpAny M A (evalArgs (.type id) true (backTo pos (starEach (e :: es) env)) (backToKw pos (keywordEach kws env))) (fun a s1 => wpAny M A (call (.type id) ([] ++ a.pos) a.kw) Q E s1) E s := by
    rcases he with he | he
    · rw [he] at h ⊢; exact evalArgs_kwB ha h
    · rw [he] at h ⊢; exact evalArgs_kwB ha h
  unfold callWith
  refine wpAny_bind (wpAny_holding (wpAny_mono go (fun a s1 h1 => wpAny_bind (wpAny_standAt ?_)) fun _ _ x => x))
  simp only [hp, hn, Bool.or_false]
  refine wpAny_bind (wpAny_pure ?_)
  exact wpAny_bind (wpAny_mono h1 (fun r s2 hr => wpAny_bind (wpAny_holding (wpAny_point (wpAny_pure hr)))) fun _ _ x => x)
def iZipS (K : PySem.W.Frag) (ta : TA) : TI := fun σ H R => ta σ H fun vs H1 => ∃ a b xs ys, vs = [.ref a, .ref b] ∧ SqL K H1 a xs ∧ SqL K H1 b ys ∧ R (Itzs K a b) H1
theorem pi_zs {X : Cx} {e e2 v : PySem.Expr} {ta : TA} {p pos tpos kpos : Pos} {elts : List PySem.Expr} {kk : Nat} (hg : Gl X "zip") (hm : X.mg "zip" = none) (ha : PA X [e, e2] ta) (hv : PE X v (tC (.bl true))) (hs : notStar e = true) (hs2 : notStar e2 = true) :
    PI X (.Tuple elts kk tpos) (.Call (.Name "zip" p) [e, e2] [⟨some "strict", v, kpos⟩] pos) (iZipS X.K ta) := by
  refine ⟨fun pins s σ H R I h => ?_⟩
  refine wpAny_Call_Name_kw (ld_blt I hg hm PyProof.Rows.boot_zip ?_)
  refine callWith_tyK (thn (ha.run pos pins s σ H _ I h) fun us s1 ⟨vs, H1, I1, r1, q1⟩ => thn ((pk_cons (nm := some "strict") (kpos := kpos) hv pk_nil).run pos pins s1 σ H1 (fun zs H2 => zs = [.bl true] ∧ H2 = H1) I1 ⟨rfl, rfl⟩) fun ws s2 ⟨zs, H2, I2, rz, ez, eH⟩ => ?_) (.inr (by rw [star_one hs]; rfl)) (by rw [star_one hs, star_one hs2]; rfl) rfl rfl
  subst ez eH
  obtain ⟨a, b, xs, ys, ex, qx, qy, q⟩ := q1
  subst ex
  obtain ⟨u1, u2, rfl, ra, rb⟩ := r1.two
  obtain ⟨u3, rfl, rc⟩ := rz.one
  cases ra
  cases rb
  cases rc
  obtain ⟨is1, m1, p1, _⟩ := I2.list qx
  obtain ⟨is2, m2, p2, _⟩ := I2.list qy
  have la : a < s2.heap.objs.size := p1.lt
  have lb : b < s2.heap.objs.size := p2.lt
  show wpAny _ _ (call (.type "zip") [.ref a, .ref b] skw) _ _ _
  refine zs_make p1.isList p2.isList fun h1 hz hI hO j1 j2 hk => zs_iter hz ?_
  have J : Inv X pins σ H2 { s2 with heap := h1 } := I2.kept (t' := s2.toks) hk
  refine ⟨s2.heap.objs.size + 4, [s2.heap.objs.size + 4, s2.heap.objs.size + 2, s2.heap.objs.size + 3, s2.heap.objs.size, s2.heap.objs.size + 1], _, _, H2, rfl, J, turn_zs (PySem.W.ktu_apart s2.heap.objs.size a b la lb), ⟨hz, hI, ⟨_, _, hO⟩, j1, j2⟩, fun c hc => ?_, q⟩
  have le : s2.heap.objs.size ≤ c := by
    rcases mem5 hc with rfl | rfl | rfl | rfl | rfl
    all_goals first | exact Nat.le_refl _ | exact Nat.le_add_right _ _
  exact I2.fpOk le (I2.hok.fresh le)
section
variable {T : Tb} {W : WX} {X : Cx}
theorem zip2_get {ds es : List D} {i : Nat} {d : D} (h : (zip2D ds es)[i]? = some d) : ∃ a b, ds[i]? = some a ∧ es[i]? = some b ∧ d = .tup [a, b] := by
  unfold zip2D at h
  rw [List.getElem?_zipWith] at h
  cases c : ds[i]? with
  | none => rw [c] at h; cases h
  | some a =>
    cases c2 : es[i]? with
    | none => rw [c, c2] at h; cases h
    | some b => rw [c, c2] at h; cases h; exact ⟨a, b, rfl, rfl, rfl⟩
theorem wk_zip {P : Hp} {a b : Addr} {xs ys : List V} {ds es : List D} (h : P a = some (.lst xs)) (q : Reps T P ds xs) (h' : P b = some (.lst ys)) (q' : Reps T P es ys) : Wk T P (Itz T.K a b) (zip2D ds es) where
  go := fun i H hi e => by
    have z : i < ds.length ∧ i < es.length := by
      simp only [zip2D, List.length_zipWith] at hi
      exact Nat.lt_min.mp hi
    obtain ⟨x, ex, _⟩ := q.get (List.getElem?_eq_getElem z.1)
    obtain ⟨y, ey, _⟩ := q'.get (List.getElem?_eq_getElem z.2)
    exact ⟨xs, ys, x, y, .inl (.inl (e _ _ h)), .inl (.inl (e _ _ h')), ex, ey⟩
  stop := fun H e => ⟨xs, ys, .inl (.inl (e _ _ h)), .inl (.inl (e _ _ h')), by
    rw [q.length, q'.length]
    simp only [zip2D, List.length_zipWith]
    omega⟩
  yld := fun i d H x H' Pc hd e1 e2 y => by
    obtain ⟨p, x, y', rfl, n, rfl, z1, z2⟩ := y
    obtain ⟨da, db, g1, g2, rfl⟩ := zip2_get hd
    obtain ⟨u, eu, ru⟩ := q.get g1
    obtain ⟨v, ev, rv⟩ := q'.get g2
    have w1 := z1 xs (.inl (.inl (e2 _ _ (e1 _ _ h))))
    have w2 := z2 ys (.inl (.inl (e2 _ _ (e1 _ _ h'))))
    rw [eu] at w1; cases w1
    rw [ev] at w2; cases w2
    exact .inr ⟨p, _, _, n, rfl, rfl, rfl, .cons (Rep.ext e1 _ _ ru) (.cons (Rep.ext e1 _ _ rv) .nil)⟩
theorem wk_zs {P : Hp} {a b : Addr} {xs ys : List V} {ds es : List D} (h : P a = some (.lst xs)) (q : Reps T P ds xs) (h' : P b = some (.lst ys)) (q' : Reps T P es ys) (l : ds.length = es.length) : Wk T P (Itzs T.K a b) (zip2D ds es) where
  go := (wk_zip h q h' q').go
  stop := fun H e => ⟨xs, ys, .inl (.inl (e _ _ h)), .inl (.inl (e _ _ h')), by rw [q.length]; simp only [zip2D, List.length_zipWith]; omega, by rw [q'.length]; simp only [zip2D, List.length_zipWith]; omega⟩
  yld := (wk_zip h q h' q').yld
theorem lstD_some {d : D} {l : List D} (h : lstD d = some l) : d = .lst l := by cases d <;> simp [lstD] at h; rw [h]
theorem lst_two {P : Hp} {ds : List D} {us : List V} {k : Bool} {l : List D} (h : Reps T P ds us) (e : zipD k ds = some l) (n : ds.length = 2) : ∃ a b xs ys l1 l2, us = [.ref a, .ref b] ∧ P a = some (.lst xs) ∧ P b = some (.lst ys) ∧ Reps T P l1 xs ∧ Reps T P l2 ys ∧ l = zip2D l1 l2 ∧ (k = true → l1.length = l2.length) := by
  match ds, n, h, e with
  | [d1, d2], _, h, e =>
    obtain ⟨u1, t1, rfl, h1, h⟩ := h.of_cons
    obtain ⟨u2, t2, rfl, h2, h⟩ := h.of_cons
    rw [h.of_nil]
    simp only [zipD] at e
    cases c1 : lstD d1 with
    | none => rw [c1] at e; cases e
    | some l1 =>
    cases c2 : lstD d2 with
    | none => rw [c1, c2] at e; cases e
    | some l2 =>
    rw [c1, c2] at e
    simp only [Option.bind_some] at e
    have z1 := lstD_some c1
    have z2 := lstD_some c2
    subst z1 z2
    split at e
    · rename_i hk
      cases e
      simp only [Rep] at h1 h2
      obtain ⟨a, xs, rfl, q1, q2⟩ := h1
      obtain ⟨b, ys, rfl, q3, q4⟩ := h2
      refine ⟨a, b, xs, ys, l1, l2, rfl, q1, q3, q2, q4, rfl, fun z => ?_⟩
      subst z
      simpa using hk
    · cases e
theorem evs_len {C : Cf} : ∀ {es : List E} {r r' : En} {ds : List D}, evs C es r = .ok ds r' → ds.length = es.length
  | [], r, r', ds, h => by
    simp only [evs] at h
    cases h; rfl
  | e :: es, r, r', ds, h => by
    simp only [evs] at h
    cases c : ev C e r with
    | ok v r1 =>
      rw [c] at h
      simp only [R.bind_ok] at h
      cases c2 : evs C es r1 with
      | ok vs r2 =>
        rw [c2] at h
        simp only [R.bind_ok] at h
        cases h
        rw [List.length_cons, List.length_cons, evs_len c2]
      | exc _ _ _ => rw [c2] at h; cases h
      | bad => rw [c2] at h; cases h
    | exc _ _ _ => rw [c] at h; cases h
    | bad => rw [c] at h; cases h
theorem di_zs (hK : X.K = T.K) {C : Cf} {a b v : PySem.Expr} {a' b' : E} {p pos tpos kpos : Pos} {elts : List PySem.Expr} {kk : Nat} (hg : Gl X "zip") (hm : X.mg "zip" = none) (hs : notStar a = true) (hs2 : notStar b = true) (hv : PE X v (tC (.bl true))) (ha : PA X [a, b] (tS T W (evs C [a', b']))) :
    PI X (.Tuple elts kk tpos) (.Call (.Name "zip" p) [a, b] [⟨some "strict", v, kpos⟩] pos) (tI T W (evI C (.zip true [a', b']))) := by
  refine piImp (pi_zs hg hm ha hv hs hs2) fun σ H Q ⟨P, r, rs, go⟩ => ?_
  simp only [evI] at go
  refine ⟨P, r, rs, (Go.bind (anti_I T) go).mono fun us H1 ⟨P1, r1, ds, a1, q1, e1, go1⟩ => ?_⟩
  cases c : zipD true ds with
  | none => rw [c] at go1; exact go1.elim
  | some l =>
    rw [c] at go1
    obtain ⟨x, y, xs, ys, l1, l2, rfl, g1, g2, g3, g4, rfl, le⟩ := lst_two q1 c (evs_len e1)
    refine ⟨x, y, xs, ys, rfl, .inl (.inl (a1.rs.sub _ _ g1)), .inl (.inl (a1.rs.sub _ _ g2)), ?_⟩
    rw [hK]
    exact go1 _ P1 H1 (.refl a1.rs) (wk_zs g1 g3 g2 g4 (le rfl))
end
end Z
/-! ZTL: list(range(a, b)) whose ends are any whole numbers. -/
namespace Z
open PySem PySem.Spec L2
open PyProof.Rows hiding St
section
variable {prog : Program} {w : World} {A : Around} {E : Value → Shared → Prop} {s : Shared}
theorem extend_rangeL {R : Result → Shared → Prop} {r : Addr} {a b c : Int} {t u v : Tok} {n : Nat} (hh : A.handled = none) (hr : IsRange s.heap r a b c t u v) (hbig : Builtin.Range.small a b c = false)
    (hn : Builtin.Range.rangeSize a b c = n) (hlen : n ≤ 2 ^ 24) (S : Addr) (res : Value) (c₀ : Nat) (hS : s.heap.get? S = some { cls := .type "list", data := .seq #[] c₀ })
    (hR : ∀ h' tk acc' c', (∀ b o, b ≠ S → s.heap.get? b = some o → h'.get? b = some o) → h'.get? S = some { cls := .type "list", dict := none, data := .seq acc' c', slots := #[] } →
      ItemsOf (fun i v => ∃ t, v = .int (a + i * c) t) acc' n → R (.ok (.ret res)) { s with heap := h', toks := tk }) :
    wpAny (model prog w) A.in1 (Builtin.List.listExtendWith (.ref S) (.ref r) res)
      (fun fin s' => match fin with | .done f => R (.ok f) s' | .again c' => c'.quiet = true ∧ codeAny (model prog w) A c' R s') (fun e s' => R (.error e) s') s := by
  have hSr : S ≠ r := fun e => by rw [e, hr] at hS; simp at hS
  have hSlt : S < s.heap.objs.size := Heap.lt_size hS
  have hSI : S ≠ s.heap.objs.size := Nat.ne_of_lt hSlt
  have hSf : S ∉ [s.heap.objs.size] := fun hm => hSI (List.mem_singleton.mp hm)
  have W := (Walks.longrange (prog := prog) (w := w) (A := A.in1) hh s.heap.objs.size a c n).toS
  have key : ∀ (h : Heap) (c₁ tk : Nat), IsLongIter h s.heap.objs.size (a + ((0 : Nat) : Int) * c) ((n : Int) - ((0 : Nat) : Int)) c → (∀ b o, b ≠ S → s.heap.get? b = some o → h.get? b = some o) →
      h.get? S = some { cls := .type "list", data := .seq #[] c₁ } → codeAny (model prog w) A (.builtin "list.extend.loop" ⟨[.ref S, .ref s.heap.objs.size, res], []⟩) R { s with heap := h, toks := tk } := by
    intro h c₁ tk hit hk hS₁
    refine codeAny_extend_loopS W (by rw [sizeLine_eq]; omega) S hSf res n 0 _ #[] c₁ rfl (Nat.zero_le _) hit hS₁ (ItemsOf.nil _) fun s' acc' c' hm hS' hacc => ?_
    rw [Moved.eq_with hm]
    refine hR s'.heap s'.toks acc' c' (fun b o hb e => hm.heap b o (fun hmem => ?_) (hk b o hb e)) hS' hacc
    rcases List.mem_cons.mp hmem with e' | hmem
    · exact hb e'
    · exact absurd (Heap.lt_size e) (by rw [List.mem_singleton.mp hmem]; exact Nat.lt_irrefl _)
  unfold Builtin.List.listExtendWith
  refine wpAny_bind (wpAny_typeOf (T := "range") ⟨_, hr, rfl⟩ ?_)
  have h1 : Builtin.List.listSameRef (.ref S) (.ref r) = false := by simp [Builtin.List.listSameRef, hSr]
  have h2 : (Value.type "range" == Value.type "list") = false := by decide
  have h3 : (Value.type "range" == Value.type "tuple") = false := by decide
  simp only [h1, h2, h3, Bool.or_false, Bool.false_eq_true, if_false]
  refine wpAny_bind (wpAny_pyIter_longrange hr hbig ?_)
  refine wpAny_bind (wpAny_holding (wpAny_hint_range (n := n) (Heap.get?_push_of_some _ hr) hn hlen ?_))
  have hit₁ : IsLongIter (s.heap.push { cls := .type "longrange_iterator", data := .fields #[rawInt a, rawInt (Builtin.Range.rangeSize a b c), rawInt c] }) s.heap.objs.size (a + ((0 : Nat) : Int) * c) ((n : Int) - ((0 : Nat) : Int)) c := by
    show IsLongIter _ _ _ _ _; rw [hn]; simpa using Heap.get?_push_size _ rfl
  have hS₁ := Heap.get?_push_of_some { cls := .type "longrange_iterator", data := .fields #[rawInt a, rawInt (Builtin.Range.rangeSize a b c), rawInt c] } hS
  refine wpAny_ite_split (fun _ => ?_) (fun _ => wpAny_pure ⟨plainId_quiet F.plain_extend_loop _, key _ c₀ _ hit₁ (fun b o _ e => Heap.get?_push_of_some _ e) hS₁⟩)
  refine wpAny_bind (wpAny_rule ?_)
  refine wpAny_bind ?_
  show wpAny _ _ (updateSeq S (·.push .none) >>= fun _ => updateSeq S (·.pop)) _ _ _
  refine wpAny_bind (wpAny_updateSeq hS₁ rfl ?_)
  have hS₂ := Heap.get?_update_self (Obj.mapSeq (·.push Value.none)) hS₁ rfl
  refine wpAny_updateSeq (hz := by seq_fits) hS₂ rfl ?_
  have hS₃ := Heap.get?_update_self (Obj.mapSeq (·.pop)) hS₂ rfl
  refine wpAny_pure ⟨plainId_quiet F.plain_extend_loop _, key _ _ _ ?_ (fun b o hb e => ?_) hS₃⟩
  · exact (Heap.get?_update_other _ _ hSI).trans ((Heap.get?_update_other _ _ hSI).trans hit₁)
  · exact (Heap.get?_update_other _ _ (Ne.symm hb)).trans ((Heap.get?_update_other _ _ (Ne.symm hb)).trans (Heap.get?_push_of_some _ e))
theorem list_init_rangeL {R : Result → Shared → Prop} {r : Addr} {a b c : Int} {t u v : Tok} {n : Nat} (hh : A.handled = none) (hr : IsRange s.heap r a b c t u v) (hbig : Builtin.Range.small a b c = false)
    (hn : Builtin.Range.rangeSize a b c = n) (hlen : n ≤ 2 ^ 24) (S : Addr) (hS : s.heap.get? S = some { cls := .type "list", data := .seq #[] })
    (hR : ∀ h' tk acc' c', (∀ b o, b ≠ S → s.heap.get? b = some o → h'.get? b = some o) → h'.get? S = some { cls := .type "list", dict := none, data := .seq acc' c', slots := #[] } →
      ItemsOf (fun i v => ∃ t, v = .int (a + i * c) t) acc' n → R (.ok (.ret .none)) { s with heap := h', toks := tk }) :
    wpAny (model prog w) A.in1 (Builtin.«list.__init__» ⟨[.ref S, .ref r], []⟩)
      (fun fin s' => match fin with | .done f => R (.ok f) s' | .again c' => c'.quiet = true ∧ codeAny (model prog w) A c' R s') (fun e s' => R (.error e) s') s := by
  have hSr : S ≠ r := fun e => by rw [e, hr] at hS; simp at hS
  show wpAny _ _ (do let old ← Builtin.List.listItems (.ref S); Builtin.List.listUpdate (.ref S) (fun _ => #[]); letGo old.toList.reverse; Builtin.List.listExtendWith (.ref S) (.ref r) .none) _ _ s
  refine wpAny_bind ?_
  unfold Builtin.List.listItems
  refine wpAny_bind (wpAny_seqItems hS rfl (wpAny_pure ?_))
  show wpAny _ _ (updateSeq S (fun _ => #[]) >>= fun _ => letGo (#[] : Array Value).toList.reverse >>= fun _ => Builtin.List.listExtendWith (.ref S) (.ref r) .none) _ _ s
  refine wpAny_bind (wpAny_updateSeq hS rfl ?_)
  have hS₂ := Heap.get?_update_self (Obj.mapSeq (fun _ => (#[] : Array Value))) hS rfl
  have oth : ∀ b o, b ≠ S → s.heap.get? b = some o → (s.heap.update S (Obj.mapSeq (fun _ => (#[] : Array Value)))).get? b = some o :=
    fun b o hb e => (Heap.get?_update_other _ _ (Ne.symm hb)).trans e
  refine wpAny_bind (wpAny_letGo ?_)
  refine extend_rangeL hh (oth r _ (Ne.symm hSr) hr) hbig hn hlen S .none _ hS₂ fun h' tk acc' c' hk hS' hacc => ?_
  exact hR h' tk acc' c' (fun b o hb e => hk b o hb (oth b o hb e)) hS' hacc
theorem list_range_any {Q : Value → Shared → Prop} {r : Addr} {a b c : Int} {t u v : Tok} {n : Nat} (hh : A.handled = none) (hr : IsRange s.heap r a b c t u v)
    (hn : Builtin.Range.rangeSize a b c = n) (hlen : n ≤ 2 ^ 24)
    (hQ : ∀ h' tk acc' c', (∀ b o, s.heap.get? b = some o → h'.get? b = some o) →
      h'.get? s.heap.objs.size = some { cls := .type "list", dict := none, data := .seq acc' c', slots := #[] } → ItemsOf (fun i v => ∃ t, v = .int (a + i * c) t) acc' n → Q (.ref s.heap.objs.size) { s with heap := h', toks := tk }) :
    wpAny (model prog w) A (call (.type "list") [.ref r]) Q E s := by
  cases hsm : Builtin.Range.small a b c with
  | true => exact call_list_range hh hr hsm hn hlen hQ
  | false =>
    refine callType_codes (Q₁ := fun obj s₁ => obj = .ref s.heap.objs.size ∧ s₁ = { s with heap := s.heap.push { cls := .type "list", data := .seq #[] } }) F.called_list (F.typeCall_list_1 _) F.entry_list_init
      (code_list_new _ ⟨rfl, rfl⟩) fun obj s₁ h₁ => ?_
    obtain ⟨rfl, rfl⟩ := h₁
    have hS : (s.heap.push { cls := .type "list", data := .seq #[] }).get? s.heap.objs.size = some { cls := .type "list", data := .seq #[] } := Heap.get?_push_size _ rfl
    refine ⟨⟨_, hS, rfl⟩, F.args_list_init_2 _ _, list_init_rangeL (A := A.in1) hh (Heap.get?_push_of_some _ hr) hsm hn hlen _ hS fun h' tk acc' c' hk hS' hacc => ?_⟩
    exact ⟨rfl, hQ h' tk acc' c' (fun b o e => hk b o (Nat.ne_of_lt (Heap.lt_size e)) (Heap.get?_push_of_some _ e)) hS' hacc⟩
end
section
variable {X : Cx} {e : Expr} {te : St → Hp → (Int → Int → Hp → Prop) → Prop}
def tLstRgA (te : St → Hp → (Int → Int → Hp → Prop) → Prop) : TE := fun σ H Q => te σ H fun a b H1 => (b - a).toNat ≤ 2 ^ 24 ∧ ∀ q, H1 q = none → Q (.ref q) (upd H1 q (.lst (rgV a b)))
theorem pe_listRgA {p pos : Pos} (hc : X.calm = true) (hg : Gl X "list") (hm : X.mg "list" = none) (he : PRg X e te) (na : starEach [e] X.env = (false, eval e X.env) :: starEach [] X.env := by rfl) : PE X (.Call (.Name "list" p) [e] [] pos) (tLstRgA te) := by
  refine ⟨fun pins s σ H Q I h => ?_⟩
  refine Call_ (ld_blt I hg hm boot_list (PyProof.Rows.callWith_type1 (args_cons (thn (he pins s σ H _ I h) fun x s1 ⟨r, a, b, t, u, v, H1, ex, hr, I1, ok, q⟩ => args_nil ?_) na) na))
  subst ex
  refine list_range_any (n := (b - a).toNat) (I1.ok.hd hc) hr (rangeSize_nat a b) ok fun h' tk acc c' hk e' hi => ?_
  refine ⟨.ref s1.heap.objs.size, upd H1 s1.heap.objs.size (.lst (rgV a b)), I1.laid hk (Nat.le_refl _) (show ObjOk X.prog X.w _ _ _ (.lst (rgV a b)) from ⟨?_, acc.toList, c', vals_rg hi, ?_⟩), rfl, q _ (I1.hok.fresh (Nat.le_refl _))⟩
  · rw [rgV_length, sizeLine_eq]; omega
  · rw [Array.toArray_toList]; exact e'
end
end Z
/-! ZU: list(range(..)), constants, op=, chained comparisons. -/
namespace Z
open PySem PySem.Spec L2
open PyProof.Rows hiding St
section
variable {T : Tb} {W : WX} {X : Cx} {e : PySem.Expr} {fa fb fc : En → R (Nat ⊕ D)}
theorem rg_rep (P : Hp) (a b : Int) : Reps T P ((rangeI a b 1).map D.int) (rgV a b) := by
  have e : rgV a b = (rangeI a b 1).map V.int := by
    unfold rgV rangeI rangeN
    rw [if_pos rfl, List.map_map]
    apply List.map_congr_left
    intro k _
    simp
  rw [e]
  exact Reps.of_ints T P _
theorem rgOk_of {a b : Int} (h : Z.rgOk a b = true) : (b - a).toNat ≤ 2 ^ 24 := Nat.le_trans (of_decide_eq_true h) (by decide)
theorem de_lrg2 (hc : X.calm = true) {a b : PySem.Expr} {p pos p' pos' : Pos} (hg : Gl X "list") (hm : X.mg "list" = none) (hg' : Gl X "range") (hm' : X.mg "range" = none) (hs : notStar a = true) (hs' : notStar b = true) (ha : PE X a (tB T W fa)) (hb : PE X b (tB T W fb)) :
    PE X (.Call (.Name "list" p) [.Call (.Name "range" p') [a, b] [] pos'] [] pos) (tE T W fun r => (fa r).bind fun x r1 => (fb r1).bind fun y r2 => op2 (fun u v => lrangeF [u, v]) x y r2) := by
  refine peImp (pe_listRgA hc hg hm (prg_2 hg' hm' ha hb (star_one hs _ _) (star_one hs' _ _) (star_all (by simp [hs']) _ _))) fun σ H Q ⟨P, r, rs, go⟩ => ⟨P, r, rs, (Go.bind (anti_V T) go).mono fun u H1 ⟨P1, r1, x, a1, q1, e1, go1⟩ => ⟨P1, r1, a1.rs, (Go.bind (anti_V T) go1).mono fun v H2 ⟨P2, r2, y, a2, q2, e2, go2⟩ => ?_⟩⟩
  unfold op2 at go2
  cases c : res r2 [x, y] with
  | none => rw [c] at go2; exact go2.elim
  | some l =>
    obtain ⟨d, d', rfl, ra, rb⟩ := res2 a2.rs (rb2 q1 a2.st.pp q2) c
    rw [c] at go2
    dsimp only at go2
    cases d with
    | int n =>
      cases d' with
      | int m =>
        simp only [lrangeF] at go2
        split at go2
        · rename_i hn
          exact ⟨n, m, ra.int, rb.int, rgOk_of hn, fun q nq => go2.newL a2.rs nq (rg_rep P2 n m)⟩
        · exact go2.elim
      | _ => exact go2.elim
    | _ => exact go2.elim
/-! ### constants -/
theorem de_int {C : Cf} {i : Int} {k : Nat} {pos : Pos} : PE X (.Constant (.int i) k pos) (tE T W (ev C (.con (.int i)))) := de_con pe_int fun _ => by simp only [Rep]
theorem de_none {C : Cf} {k : Nat} {pos : Pos} : PE X (.Constant .none k pos) (tE T W (ev C (.con .non))) := de_con pe_non fun _ => by simp only [Rep]
theorem de_bool {C : Cf} {b : Bool} {k : Nat} {pos : Pos} : PE X (.Constant (.bool b) k pos) (tE T W (ev C (.con (.bl b)))) := de_con pe_bl fun _ => by simp only [Rep]
/-- a name of the module that stands for a constant -/
theorem de_glob {C : Cf} {x : Str} {d : D} {v : V} {u : Value} {pos : Pos} (hg : Gl X x) (hm : X.mg x = some u) (r : RelV v u) (q : ∀ H, Rep T H d v) (hd : (x == ("__debug__" : Str)) = false) : PE X (.Name x pos) (tE T W (ev C (.con d))) := de_con (pe_glob hg hm r hd) q
end
end Z
/-! ZV: the rules in short: the text on the left, the small language on the right. -/
namespace Z
open PySem PySem.Spec L2
open PyProof.Rows hiding St
def DE (T : Tb) (W : WX) (C : Cf) (X : Cx) (e : PySem.Expr) (e' : E) : Prop := PE X e (tE T W (ev C e'))
def DB (T : Tb) (W : WX) (C : Cf) (X : Cx) (e : PySem.Expr) (e' : E) : Prop := PE X e (tB T W (bor e' fun r => ev C e' r))
def DP (T : Tb) (W : WX) (C : Cf) (X : Cx) (e : Option PySem.Expr) (e' : E) : Prop := PO X e (tP T W (por e' fun r => ev C e' r))
def DL (T : Tb) (W : WX) (C : Cf) (X : Cx) (es : List PySem.Expr) (es' : List E) : Prop := PA X es (tS T W (evs C es'))
def DA (T : Tb) (W : WX) (C : Cf) (X : Cx) (es : List PySem.Expr) (es' : List E) : Prop := PA X es (tA T W (evA C es'))
def DV (T : Tb) (W : WX) (C : Cf) (X : Cx) (es : List PySem.Expr) (es' : List E) : Prop := PA X es (tV T W (evV C es'))
def DT (T : Tb) (W : WX) (C : Cf) (X : Cx) (e : PySem.Expr) (t : Z.T) : Prop := PT X e (tK T W (evT C t))
def DW (T : Tb) (W : WX) (C : Cf) (X : Cx) (e : PySem.Expr) (t : Z.T) : Prop := PW X e (tK T W (evT C t))
def DI (T : Tb) (W : WX) (C : Cf) (X : Cx) (tg e : PySem.Expr) (t : I) : Prop := PI X tg e (tI T W (evI C t))
def DG (T : Tb) (X : Cx) (e : PySem.Expr) (t : Tg) : Prop := PG X e (gD T t)
def DGs (T : Tb) (X : Cx) (e : List PySem.Expr) (t : List Tg) : Prop := PGs X e (gDs T t)
def DC (T : Tb) (W : WX) (C : Cf) (X : Cx) (ifs : List PySem.Expr) (ts : List Z.T) : Prop := PTs X ifs (tK T W (evC C ts))
def DS (T : Tb) (W : WX) (C : Cf) (X : Cx) (s : Stmt) (s' : S) : Prop := PS X s (tD T W (x1 C s'))
def DSs (T : Tb) (W : WX) (C : Cf) (X : Cx) (s : List Stmt) (s' : List S) : Prop := PSs X s (tD T W (xs C s'))
section
variable {T : Tb} {W : WX} {C : Cf} {X : Cx} {k : Nat} {pos p p' pos' : Pos} {a b c d : PySem.Expr} {a' b' c' d' : E} {x : Str}
theorem eqE {f g : En → R Val} {e : PySem.Expr} (h : PE X e (tE T W f)) (q : ∀ r, g r = f r) : PE X e (tE T W g) := by rw [show g = f from funext q]; exact h
theorem eqB {f g : En → R (Nat ⊕ D)} {e : PySem.Expr} (h : PE X e (tB T W f)) (q : ∀ r, g r = f r) : PE X e (tB T W g) := by rw [show g = f from funext q]; exact h
theorem eqT {f g : En → R Bool} {e : PySem.Expr} (h : PT X e (tK T W f)) (q : ∀ r, g r = f r) : PT X e (tK T W g) := by rw [show g = f from funext q]; exact h
theorem eqW {f g : En → R Bool} {e : PySem.Expr} (h : PW X e (tK T W f)) (q : ∀ r, g r = f r) : PW X e (tK T W g) := by rw [show g = f from funext q]; exact h
theorem eqS {f g : En → O} {e : Stmt} (h : PS X e (tD T W f)) (q : ∀ r, g r = f r) : PS X e (tD T W g) := by rw [show g = f from funext q]; exact h
theorem eqI {f g : En → R (List D)} {tg e : PySem.Expr} (h : PI X tg e (tI T W f)) (q : ∀ r, g r = f r) : PI X tg e (tI T W g) := by rw [show g = f from funext q]; exact h
/-! ### names, arguments -/
theorem e_var (i : Nat) (hN : X.N[i]? = some x) (hv : Vis X.env.scope x) (hd : (x == ("__debug__" : Str)) = false := by decide) (hc : (x == ("__classdict__" : Str)) = false := by decide) : DE T W C X (.Name x pos) (.var i) := de_var (pe_var hN hv hd hc)
theorem b_var (i : Nat) (hN : X.N[i]? = some x) (hv : Vis X.env.scope x) (hd : (x == ("__debug__" : Str)) = false := by decide) (hc : (x == ("__classdict__" : Str)) = false := by decide) : DB T W C X (.Name x pos) (.var i) := eqB (db_var (pe_var hN hv hd hc)) fun r => rfl
theorem b_of (h : DE T W C X a a') (q : isVar a' = none := by rfl) : DB T W C X a a' := eqB (db_of h) fun r => by unfold bor; rw [q]
theorem p_none : DP T W C X none (.con .non) := dp_none
theorem p_some (h : DB T W C X a a') (q : isNon a' = false := by rfl) : DP T W C X (some a) a' := by
  unfold DP
  rw [show (por a' fun r => ev C a' r) = fun r => (bor a' (fun r => ev C a' r) r).bind fun x r1 => R.of (match res r1 [x] with | some [.int i] => some (.inr (.int i)) | _ => none) r1 from funext fun r => by unfold por; (rw [if_neg (by rw [q]; exact Bool.false_ne_true)] <;> rfl)]
  exact dp_some h
theorem l_nil : DL T W C X [] [] := ds_nil
theorem l_cons {es : List PySem.Expr} {es' : List E} (ha : DE T W C X a a') (hb : DL T W C X es es') (hs : notStar a = true := by rfl) : DL T W C X (a :: es) (a' :: es') := by
  unfold DL
  rw [show evs C (a' :: es') = fun r => (ev C a' r).bind fun v r1 => (evs C es' r1).bind fun vs r2 => .ok (v.d :: vs) r2 from funext fun r => by simp only [evs]]
  exact ds_cons hs ha hb
theorem a_nil : DA T W C X [] [] := da_nil
theorem a_cons {es : List PySem.Expr} {es' : List E} (ha : DB T W C X a a') (hb : DA T W C X es es') (hs : notStar a = true := by rfl) : DA T W C X (a :: es) (a' :: es') := by
  unfold DA
  rw [show evA C (a' :: es') = fun r => (bor a' (fun r => ev C a' r) r).bind fun v r1 => (evA C es' r1).bind fun vs r2 => .ok (v :: vs) r2 from funext fun r => by simp only [evA]]
  exact da_cons hs ha hb
theorem v_nil : DV T W C X [] [] := dv_nil
theorem v_cons {es : List PySem.Expr} {es' : List E} (ha : DE T W C X a a') (hb : DV T W C X es es') (hs : notStar a = true := by rfl) : DV T W C X (a :: es) (a' :: es') := by
  unfold DV
  rw [show evV C (a' :: es') = fun r => (ev C a' r).bind fun v r1 => (evV C es' r1).bind fun vs r2 => .ok (v :: vs) r2 from funext fun r => by simp only [evV]]
  exact dv_cons hs ha hb
/-! ### expressions -/
theorem e_int {i : Int} {j : Nat} : DE T W C X (.Constant (.int i) j pos) (.con (.int i)) := de_int
theorem e_none {j : Nat} : DE T W C X (.Constant .none j pos) (.con .non) := de_none
theorem e_bool {i : Bool} {j : Nat} : DE T W C X (.Constant (.bool i) j pos) (.con (.bl i)) := de_bool
theorem e_glob {e' : D} {v : V} {u : Value} (hm : X.mg x = some u) (r : RelV v u) (q : ∀ H, Rep T H e' v) (hg : Gl X x := by rfl) (hd : (x == ("__debug__" : Str)) = false := by decide) : DE T W C X (.Name x pos) (.con e') := de_glob hg hm r q hd
theorem e_neg (h : DE T W C X a a') : DE T W C X (.UnaryOp .USub a pos) (.neg a') := eqE (de_neg h) fun r => by simp only [ev] <;> rfl
theorem e_not (w : CB T k X) (h : DB T W C X a a') : DE T W C X (.UnaryOp .Not a pos) (.not a') := eqE (de_not w.eK h) fun r => by simp only [ev] <;> rfl
theorem e_bin {op : Operator} (w : CB T k X) (ha : DB T W C X a a') (hb : DB T W C X b b') : DE T W C X (.BinOp a op b pos) (.bin op a' b') := eqE (de_op2 (pe_op (op_binD w.eK op) ha hb)) fun r => by simp only [ev] <;> rfl
theorem e_cmp {op : CmpOp} (w : CB T k X) (ha : DB T W C X a a') (hb : DB T W C X b b') (hm : behindInMarks op b = false := by with_unfolding_all rfl) : DE T W C X (.Compare a [op] [b] pos) (.cmp op a' b') := eqE (de_op2 (pe_cmpR (op_cmpD w.eK (by have := w.room.un; omega) op) ha hb hm)) fun r => by simp only [ev] <;> rfl
theorem e_one {op : BoolOp} (h : DE T W C X a a') : DE T W C X (.BoolOp op [a] pos) a' := pe_one h
theorem e_and {es : List PySem.Expr} (w : CB T k X) (ha : DE T W C X a a') (hb : DE T W C X (.BoolOp .And (b :: es) pos) b') : DE T W C X (.BoolOp .And (a :: b :: es) pos) (.and a' b') := eqE (de_and w.eK ha hb) fun r => by simp only [ev] <;> rfl
theorem e_or {es : List PySem.Expr} (w : CB T k X) (ha : DE T W C X a a') (hb : DE T W C X (.BoolOp .Or (b :: es) pos) b') : DE T W C X (.BoolOp .Or (a :: b :: es) pos) (.or a' b') := eqE (de_or w.eK ha hb) fun r => by simp only [ev] <;> rfl
theorem e_ite {t : Z.T} (hc : DT T W C X c t) (ha : DE T W C X a a') (hb : DE T W C X b b') : DE T W C X (.IfExp c a b pos) (.ite t a' b') := eqE (de_ite hc ha hb) fun r => by simp only [ev] <;> rfl
theorem e_lst {es : List PySem.Expr} {es' : List E} (h : DL T W C X es es') : DE T W C X (.List es pos) (.lst es') := eqE (de_lst h) fun r => by simp only [ev] <;> rfl
theorem e_tup {es : List PySem.Expr} {es' : List E} {j : Nat} (h : DL T W C X es es') : DE T W C X (.Tuple es j pos) (.tup es') := eqE (de_tup h) fun r => by simp only [ev] <;> rfl
theorem e_idx (w : CB T k X) (ha : DB T W C X a a') (hb : DB T W C X b b') (hs : PlainIx b := by intro _ _; rfl) : DE T W C X (.Subscript a b pos) (.idx a' b') := eqE (de_op2 (pe_ix (ix_D w.eK) ha hb hs)) fun r => by simp only [ev] <;> rfl
theorem e_slc {lo hi : Option PySem.Expr} (w : CB T k X) (ha : DB T W C X a a') (hb : DP T W C X lo b') (hc : DP T W C X hi c') : DE T W C X (.Subscript a (.Slice lo hi none p) pos) (.slc a' b' c') := eqE (de_slc w.eK ha hb hc) fun r => by simp only [ev] <;> rfl
theorem e_isi (w : CB T k X) (t : Ty) (ha : DB T W C X a a') (hb : PE X b (tC (.ty (tyName t)))) (hm : X.mg "isinstance" = none) (ht : ∀ c, t ≠ .cls c := by intro _ h; cases h) (hg : Gl X "isinstance" := by rfl) (hs : notStar a = true := by rfl) (hs' : notStar b = true := by rfl) :
    DE T W C X (.Call (.Name "isinstance" p) [a, b] [] pos) (.isi a' t) := eqE (de_isi w.eK ht hg hm hs hs' ha hb) fun r => by simp only [ev] <;> rfl
theorem e_biB {id : String} {es : List PySem.Expr} {es' : List E} {bi : BI} (hc : CallR X (.builtin id) (rDn T W (biD bi))) (hm : X.mg x = none) (hv : bootBuiltins x = some (.builtin id)) (ha : DA T W C X (a :: es) es') (hg : Gl X x := by rfl) (hs : notStar a = true := by rfl) (hss : es.all notStar = true := by rfl)
    (hn : x ≠ "__name__" := by decide) (hd : (x == ("__debug__" : Str)) = false := by decide) : DE T W C X (.Call (.Name x p) (a :: es) [] pos) (.bi bi es') := eqE (de_biB hc hg hm hv hs hss ha hn hd) fun r => by simp only [ev] <;> rfl
theorem e_biT {id : String} {es : List PySem.Expr} {es' : List E} {bi : BI} (hc : CallR X (.type id) (rDn T W (biD bi))) (hm : X.mg x = none) (hv : bootBuiltins x = some (.type id)) (ha : DA T W C X (a :: es) es') (hg : Gl X x := by rfl) (hs : notStar a = true := by rfl) (hss : es.all notStar = true := by rfl)
    (hn : x ≠ "__name__" := by decide) (hd : (x == ("__debug__" : Str)) = false := by decide) : DE T W C X (.Call (.Name x p) (a :: es) [] pos) (.bi bi es') := eqE (de_biT hc hg hm hv hs hss ha hn hd) fun r => by simp only [ev] <;> rfl
theorem res_one (r : En) (x : Nat ⊕ D) : res r [x] = none ∨ ∃ u, res r [x] = some [u] := by
  cases x with
  | inl i =>
    simp only [res]
    cases r.rd i with
    | none => exact .inl rfl
    | some d => exact .inr ⟨d, rfl⟩
  | inr d => exact .inr ⟨d, rfl⟩
theorem res_two (r : En) (x y : Nat ⊕ D) : res r [x, y] = none ∨ ∃ u v, res r [x, y] = some [u, v] := by
  cases x with
  | inl i =>
    simp only [res]
    cases r.rd i with
    | none => exact .inl rfl
    | some d =>
      cases y with
      | inl j =>
        simp only [res]
        cases r.rd j with
        | none => exact .inl rfl
        | some d' => exact .inr ⟨d, d', rfl⟩
      | inr d' => exact .inr ⟨d, d', rfl⟩
  | inr d =>
    cases y with
    | inl j =>
      simp only [res]
      cases r.rd j with
      | none => exact .inl rfl
      | some d' => exact .inr ⟨d, d', rfl⟩
    | inr d' => exact .inr ⟨d, d', rfl⟩
theorem e_lrg2 (w : CB T k X) (ha : DB T W C X a a') (hb : DB T W C X b b') (hm : X.mg "list" = none) (hm' : X.mg "range" = none) (hg : Gl X "list" := by rfl) (hg' : Gl X "range" := by rfl) (hs : notStar a = true := by rfl) (hs' : notStar b = true := by rfl) :
    DE T W C X (.Call (.Name "list" p) [.Call (.Name "range" p') [a, b] [] pos'] [] pos) (.bi .lrange [a', b']) := eqE (de_lrg2 w.calm hg hm hg' hm' hs hs' ha hb) fun r => by
  simp only [ev, evA]
  rw [bind_assoc]
  congr 1
  funext x r1
  rw [bind_assoc, bind_assoc]
  congr 1
  funext y r2
  simp only [R.bind_ok]
  unfold opn op2
  rcases res_two r2 x y with h | ⟨u, v, h⟩
  · rw [h]; rfl
  · rw [h]; rfl
theorem e_append (w : CB T k X) (i : Nat) (ho : PE X a (tVar i)) (hb : DE T W C X b b') (q : attributeBase a "append" X.env (eval a X.env) = eval a X.env := by rfl) (hl : (p'.endLine == pos.line) = true := by rfl) (hs : notStar b = true := by rfl) :
    DE T W C X (.Call (.Attribute a "append" p') [b] [] pos) (.mut .append i [b']) := eqE (de_append w.eK ho (l_cons hb l_nil hs) hs q hl) fun r => by simp only [ev]; rfl
theorem e_popAt (w : CB T k X) (i : Nat) (ho : PE X a (tVar i)) (hb : DE T W C X b b') (q : attributeBase a "pop" X.env (eval a X.env) = eval a X.env := by rfl) (hl : (p'.endLine == pos.line) = true := by rfl) (hs : notStar b = true := by rfl) :
    DE T W C X (.Call (.Attribute a "pop" p') [b] [] pos) (.mut .popAt i [b']) := eqE (de_popAt w.eK ho (l_cons hb l_nil hs) hs q hl) fun r => by simp only [ev]; rfl
theorem e_bits (ha : DB T W C X a a') (q : attributeBase a "bit_length" X.env (eval a X.env) = eval a X.env := by rfl) (hl : (p'.endLine == pos.line) = true := by rfl) : DE T W C X (.Call (.Attribute a "bit_length" p') [] [] pos) (.bits a') := eqE (de_bits ha q hl) fun r => by simp only [ev] <;> rfl
theorem e_index (w : CB T k X) (ha : DB T W C X a a') (hb : DB T W C X b b') (q : attributeBase a "index" X.env (eval a X.env) = eval a X.env := by rfl) (hl : (p'.endLine == pos.line) = true := by rfl) (hs : notStar b = true := by rfl) :
    DE T W C X (.Call (.Attribute a "index" p') [b] [] pos) (.mth .index a' [b']) := eqE (de_index w.eK ha (a_cons hb a_nil hs) hs q hl) fun r => by simp only [ev] <;> rfl
/-- f(..): a def -/
theorem e_def {g : Nat} {ms : List Bool} {f : Addr} {fd : FuncData} {ps : List Str} {ds : List Value} {dvs : List V} {dfl : List D} {es : List PySem.Expr} {es' : List E} (w : CB T k X) (hms : C.modes g = some ms) (F : FnG T k f fd ps (spD T ms (C.call g))) (hm : T.mg x = some (.ref f)) (hk : PySem.W.keepIn T.K (.ref f) = true)
    (hb : Binds T.K fd ps ds) (hd : Vals dvs ds) (hr : ∀ P, Reps T P dfl dvs) (ha : DA T W C X (a :: es) es') (hg : Gl X x := by rfl) (hs : notStar a = true := by rfl) (hss : es.all notStar = true := by rfl) (hdb : (x == ("__debug__" : Str)) = false := by decide) :
    DE T W C X (.Call (.Name x p) (a :: es) [] pos) (.call g es' [] dfl) := eqE (de_def (pe_def w F hg hm hk hb hd ha hs hss hdb) (fun _ _ _ h => h) hr) fun r => by
  simp only [ev]
  congr 1
  funext ys r1
  rw [show permO (ys ++ dfl.map .inr) [] = some (ys ++ dfl.map .inr) from rfl, hms]
/-! ### tests -/
theorem t_val (w : CB T k X) (h : DB T W C X a a') (he : ∀ whole, isTrue a X.env whole = (do let v ← whole; standAt a.pos; holding [v] (truthy v)) := by intro _; rfl) : DT T W C X a (.val a') := eqT (dt_val w.eK h he) fun r => by simp only [evT] <;> rfl
theorem t_cmp {op : CmpOp} (w : CB T k X) (ha : DB T W C X a a') (hb : DB T W C X b b') (hm : behindInMarks op b = false := by with_unfolding_all rfl) : DT T W C X (.Compare a [op] [b] pos) (.val (.cmp op a' b')) := eqT (dt_cmp w.eK (by have := w.room.un; omega) ha hb hm) fun r => by
  simp only [evT, bor, isVar, ev]
  rw [bind_assoc]
  congr 1
theorem t_not {t : Z.T} (h : DT T W C X a t) : DT T W C X (.UnaryOp .Not a pos) (.not t) := eqT (dt_not h) fun r => by simp only [evT] <;> rfl
theorem w_and1 {t : Z.T} (h : DT T W C X a t) : DW T W C X (.BoolOp .And [a] pos) t := pw_and1 h
theorem w_or1 {t : Z.T} (h : DT T W C X a t) : DW T W C X (.BoolOp .Or [a] pos) t := pw_or1 h
theorem w_and {t u : Z.T} {es : List PySem.Expr} (ha : DT T W C X a t) (hb : DW T W C X (.BoolOp .And (b :: es) pos) u) : DW T W C X (.BoolOp .And (a :: b :: es) pos) (.and t u) := eqW (dw_and ha hb) fun r => by simp only [evT] <;> rfl
theorem w_or {t u : Z.T} {es : List PySem.Expr} (ha : DT T W C X a t) (hb : DW T W C X (.BoolOp .Or (b :: es) pos) u) : DW T W C X (.BoolOp .Or (a :: b :: es) pos) (.or t u) := eqW (dw_or ha hb) fun r => by simp only [evT] <;> rfl
theorem t_w {t : Z.T} (h : DW T W C X a t) : DT T W C X a t := h.pt
theorem c_nil : DC T W C X [] [] := ⟨fun pins s σ H Q I ⟨P, r, rs, go⟩ => by
  simp only [evC] at go
  exact pts_nil.run pins s σ H Q I (go true P H (.refl rs) rfl)⟩
theorem c_one {t : Z.T} (h : DT T W C X a t) : DC T W C X [a] [t] := by
  unfold DC
  rw [show evC C [t] = evT C t from funext fun r => by
    simp only [evC]
    cases evT C t r with
    | ok k r1 => cases k <;> rfl
    | exc _ _ _ => rfl
    | bad => rfl]
  exact pts_one h
/-! ### what is walked, targets -/
theorem i_seq (w : CB T k X) (ha : DE T W C X a a') : DI T W C X c a (.e a') := eqI (di_seq w.eK ha) fun r => by simp only [evI] <;> rfl
theorem i_rng1 (ha : DB T W C X a a') (hm : X.mg "range" = none) (hg : Gl X "range" := by rfl) (hs : notStar a = true := by rfl) : DI T W C X c (.Call (.Name "range" p) [a] [] pos) (.rng1 a') := eqI (di_rng1 hg hm hs ha) fun r => by simp only [evI] <;> rfl
theorem i_rng2 (ha : DB T W C X a a') (hb : DB T W C X b b') (hm : X.mg "range" = none) (hg : Gl X "range" := by rfl) (hs : notStar a = true := by rfl) (hs' : notStar b = true := by rfl) : DI T W C X c (.Call (.Name "range" p) [a, b] [] pos) (.rng2 a' b') := eqI (di_rng2 hg hm hs hs' ha hb) fun r => by simp only [evI] <;> rfl
theorem i_enum (w : CB T k X) {es : List PySem.Expr} {j : Nat} (ha : DE T W C X a a') (hm : X.mg "enumerate" = none) (hg : Gl X "enumerate" := by rfl) (hs : notStar a = true := by rfl) : DI T W C X (.Tuple es j p') (.Call (.Name "enumerate" p) [a] [] pos) (.enm a') := eqI (di_enum w.eK hg hm hs ha) fun r => by simp only [evI] <;> rfl
theorem i_zs (w : CB T k X) {es : List PySem.Expr} {j i : Nat} {q : Pos} (ha : DL T W C X [a, b] [a', b']) (hm : X.mg "zip" = none) (hg : Gl X "zip" := by rfl) (hs : notStar a = true := by rfl) (hs' : notStar b = true := by rfl) :
    DI T W C X (.Tuple es j p') (.Call (.Name "zip" p) [a, b] [⟨some "strict", .Constant (.bool true) i q, pos'⟩] pos) (.zip true [a', b']) := di_zs w.eK hg hm hs hs' pe_bl ha
theorem g_v (w : CB T k X) (i : Nat) (hi : X.N[i]? = some x) (hx : L2.Loc X.env.scope x) (hf : X.fn x = true ∨ X.env.scope.names.lookup x = some .local) : DG T X (.Name x pos) (.v i) := dg_v (pg_name w.nd hi hx hf)
theorem gs_nil : DGs T X [] [] := dgs_nil
theorem gs_cons {es : List PySem.Expr} {t : Tg} {ts : List Tg} (h1 : DG T X a t) (h2 : DGs T X es ts) (hs : (assignEach (a :: es) X.env).map (·.2) = assign a X.env :: (assignEach es X.env).map (·.2) := by rfl) : DGs T X (a :: es) (t :: ts) := dgs_cons h1 h2 hs
theorem g_t (w : CB T k X) {es : List PySem.Expr} {j : Nat} {ts : List Tg} (h : DGs T X es ts) (hn : (assignEach es X.env).length = ts.length := by rfl) (hst : (assignEach es X.env).findIdx? (·.1) = none := by rfl) : DG T X (.Tuple es j pos) (.t ts) := dg_t w.calm h hn rfl hst
end
end Z
/-! ZW: comprehensions and statements in short. -/
namespace Z
open PySem PySem.Spec L2
open PyProof.Rows hiding St
section
variable {T : Tb} {W : WX} {C : Cf} {X : Cx} {k : Nat} {pos p p' pos' : Pos} {a b c d : PySem.Expr} {a' b' c' d' : E} {x y z : Str}
theorem lc_conv {elt tg iter : PySem.Expr} {ifs : List PySem.Expr} {scope : Scope} {own : List (Str × Nat)} {it : I} {t : Tg} {ts : List Z.T} {e' : E} (w : CB T k X) (hi : DI T W C X tg iter it) (ok : BlkOk X.N X.env.scope scope own)
    (hg : ∀ (s : Shared) (H : Hp) (CC : Addr) (cl : List (Str × Addr)) (fp : List Addr), DG T (X.blk s H scope (compEnvC scope cl CC X.env) fp) tg t)
    (ht : ∀ (s : Shared) (H : Hp) (CC : Addr) (cl : List (Str × Addr)) (fp : List Addr), DC T WF C (X.blk s H scope (compEnvC scope cl CC X.env) fp) ifs ts)
    (he : ∀ (s : Shared) (H : Hp) (CC : Addr) (cl : List (Str × Addr)) (fp : List Addr), DE T WF C (X.blk s H scope (compEnvC scope cl CC X.env) fp) elt e')
    (hs : ∀ x, foldedSetIterable iter X.env x = pure x) :
    ∀ (σ : St) (H : Hp) (Q : VK), tE T W (ev C (.lc e' t it ts (own.map (·.2)))) σ H Q → tLc (tI T W (evI C it)) (gD T t) (tK T WF (evC C ts)) (tE T WF (ev C e')) (own.map (·.2)) σ H Q := fun σ H Q h => by
  refine de_lc (pos := ⟨0, 0, 0, 0⟩) w.calm w.nd hi ok hg ht he hs σ H Q ?_
  rw [show ev C (.lc e' t it ts (own.map (·.2))) = fun r => (evI C it r).bind fun l r1 => if ownFree r1 (own.map (·.2)) && (tgS t).all (own.map (·.2)).contains then
      (lcL (lcF t (evC C ts) (ev C e') (own.map (·.2))) l [] (wip r1 (own.map (·.2)))).bind fun ds r6 => thawL r ds (back r1 r6 (own.map (·.2))) else .bad from funext fun r => by simp only [ev] <;> rfl] at h
  exact h
/-- [.. for ..] -/
theorem e_lc {elt tg iter : PySem.Expr} {ifs : List PySem.Expr} {scope : Scope} {it : I} {t : Tg} {ts : List Z.T} {e' : E} (w : CB T k X) (own : List (Str × Nat)) (hi : DI T W C X tg iter it)
    (hg : ∀ (s : Shared) (H : Hp) (CC : Addr) (cl : List (Str × Addr)) (fp : List Addr), DG T (X.blk s H scope (compEnvC scope cl CC X.env) fp) tg t)
    (ht : ∀ (s : Shared) (H : Hp) (CC : Addr) (cl : List (Str × Addr)) (fp : List Addr), DC T WF C (X.blk s H scope (compEnvC scope cl CC X.env) fp) ifs ts)
    (he : ∀ (s : Shared) (H : Hp) (CC : Addr) (cl : List (Str × Addr)) (fp : List Addr), DE T WF C (X.blk s H scope (compEnvC scope cl CC X.env) fp) elt e')
    (ok : BlkOk X.N X.env.scope scope own) (hs : ∀ x, foldedSetIterable iter X.env x = pure x := by intro _; rfl) : DE T W C X (.ListComp elt [⟨tg, iter, ifs, 0⟩] scope pos) (.lc e' t it ts (own.map (·.2))) :=
  peImp (pe_lc w.calm w.nd hi ok hg ht he hs) (lc_conv w hi ok hg ht he hs)
/-! ### statements -/
theorem ss_nil : DSs T W C X [] [] := by
  unfold DSs
  rw [show xs C [] = fun r => .nx r from funext fun r => by simp only [xs]]
  exact dss_nil
theorem ss_cons {s : Stmt} {ss : List Stmt} {s' : S} {ss' : List S} (h1 : DS T W C X s s') (h2 : DSs T W C X ss ss') : DSs T W C X (s :: ss) (s' :: ss') := by
  unfold DSs
  rw [show xs C (s' :: ss') = fun r => (x1 C s' r).then (xs C ss') from funext fun r => by simp only [xs]]
  exact dss_cons h1 h2
/-- a statement that is never reached -/
theorem s_nev {s : Stmt} : DS T W C X s .nev := psImp ps_never fun D σ H ⟨P, r, rs, go⟩ => by
  simp only [x1] at go
  exact go.elim
theorem s_ex (h : DE T W C X a a') (hs : swapsWith a none pos.line X.env = pure false := by rfl) : DS T W C X (.Expr a pos) (.ex a') := eqS (ds_ex h hs) fun r => by simp only [x1]
theorem s_ret (h : DE T W C X a a') (q : isVar a' = none := by rfl) : DS T W C X (.Return (some a) pos) (.ret a') := eqS (ds_ret h) fun r => by
  simp only [x1]
  unfold retV
  rw [q]
theorem s_retv (i : Nat) (h : PE X a (tVar i)) : DS T W C X (.Return (some a) pos) (.ret (.var i)) := eqS (ds_retv (C := C) h) fun r => by simp only [x1]
theorem s_if {t : Z.T} {ss tt : List Stmt} {ss' tt' : List S} (hc : DT T W C X c t) (ha : DSs T W C X ss ss') (hb : DSs T W C X tt tt') : DS T W C X (.If c ss tt pos) (.ite t ss' tt') := eqS (ds_if hc ha hb) fun r => by simp only [x1] <;> rfl
theorem s_set (w : CB T k X) (i : Nat) (h : DE T W C X a a') (hi : X.N[i]? = some x) (hx : L2.Loc X.env.scope x) (hf : X.fn x = true ∨ X.env.scope.names.lookup x = some .local) (hs : swapsWith a (some (.Name x pos')) pos.line X.env = pure false := by rfl) : DS T W C X (.Assign [.Name x pos'] a pos) (.asg (.v i) a') :=
  eqS (ds_set (ps_set w.nd hi hx h hs hf) fun _ _ _ h => h) fun r => by simp only [x1] <;> rfl
/-- name = [.. for ..], the name a local, all on one line -/
theorem s_setc {elt tg iter : PySem.Expr} {ifs : List PySem.Expr} {scope : Scope} {it : I} {t : Tg} {ts : List Z.T} {e' : E} (w : CB T k X) (i : Nat) (own : List (Str × Nat)) (hy : X.N[i]? = some x) (hyl : X.env.scope.names.lookup x = some .local)
    (hsw : swapsWith (.ListComp elt [⟨tg, iter, ifs, 0⟩] scope pos) (some (.Name x p')) pos'.line X.env = pure true) (hi : DI T W C X tg iter it)
    (hg : ∀ (s : Shared) (H : Hp) (CC : Addr) (cl : List (Str × Addr)) (fp : List Addr), DG T (X.blk s H scope (compEnvC scope cl CC X.env) fp) tg t)
    (ht : ∀ (s : Shared) (H : Hp) (CC : Addr) (cl : List (Str × Addr)) (fp : List Addr), DC T WF C (X.blk s H scope (compEnvC scope cl CC X.env) fp) ifs ts)
    (he : ∀ (s : Shared) (H : Hp) (CC : Addr) (cl : List (Str × Addr)) (fp : List Addr), DE T WF C (X.blk s H scope (compEnvC scope cl CC X.env) fp) elt e')
    (ok : BlkOk X.N X.env.scope scope own) (hs : ∀ x, foldedSetIterable iter X.env x = pure x := by intro _; rfl) : DS T W C X (.Assign [.Name x p'] (.ListComp elt [⟨tg, iter, ifs, 0⟩] scope pos) pos') (.asg (.v i) (.lc e' t it ts (own.map (·.2)))) :=
  eqS (ds_set (ps_setLc w.calm w.nd hy hyl hsw hi ok hg ht he hs) (lc_conv w hi ok hg ht he hs)) fun r => by simp only [x1] <;> rfl
/-- a, b = e -/
theorem s_asgT {es : List PySem.Expr} {j : Nat} {ts : List Tg} (w : CB T k X) (he : DE T W C X a a') (hg : DG T X (.Tuple es j p) (.t ts)) (hs : swapsWithSole [.Tuple es j p] a pos.line X.env = pure false := by rfl) (hw : swappedStores [.Tuple es j p] a X.env = pure none := by rfl)
    (h1 : (assignEach [.Tuple es j p] X.env).map (·.2) = [assign (.Tuple es j p) X.env] := by rfl) : DS T W C X (.Assign [.Tuple es j p] a pos) (.asg (.t ts) a') := eqS (ds_asgT he hg hs hw h1) fun r => by simp only [x1] <;> rfl
/-- x, y = a, b -/
theorem s_par2 {px py pt : Pos} {kt k2 : Nat} {pt2 : Pos} (w : CB T k X) (i j : Nat) (ha : DV T W C X [a, b] [a', b']) (hi : X.N[i]? = some x) (hj : X.N[j]? = some y) (hx : X.env.scope.names.lookup x = some .local) (hy : X.env.scope.names.lookup y = some .local)
    (hw : swappedStores [.Tuple [.Name x px, .Name y py] kt pt] (.Tuple [a, b] k2 pt2) X.env = pure (some [x, y]) := by rfl) (hs : swapsWithSole [.Tuple [.Name x px, .Name y py] kt pt] (.Tuple [a, b] k2 pt2) pos.line X.env = pure false := by rfl) (hij : i ≠ j := by decide) :
    DS T W C X (.Assign [.Tuple [.Name x px, .Name y py] kt pt] (.Tuple [a, b] k2 pt2) pos) (.par [i, j] [a', b']) := eqS (ds_par2 (ps_par w.calm w.nd hi hj hij hx hy ha hw hs) (fun _ _ _ h => h) hij) fun r => by simp only [x1]
/-- names of the target of a tuple -/
def DNs (X : Cx) (es : List PySem.Expr) (is : List Nat) : Prop := PGs X es (gNs is)
theorem n_nil : DNs X [] [] := pgs_nil
theorem n_cons {es : List PySem.Expr} {is : List Nat} (w : CB T k X) (i : Nat) (h : DNs X es is) (hi : X.N[i]? = some x) (hx : L2.Loc X.env.scope x) (hf : X.fn x = true ∨ X.env.scope.names.lookup x = some .local) (hs : (assignEach (.Name x p :: es) X.env).map (·.2) = assign (.Name x p) X.env :: (assignEach es X.env).map (·.2) := by rfl) : DNs X (.Name x p :: es) (i :: is) := pgs_cons (pg_name w.nd hi hx hf) h hs
theorem s_parT {tes es : List PySem.Expr} {j j' : Nat} {tp ep : Pos} {is : List Nat} {es' : List E} (w : CB T k X) (hg : DNs X tes is) (ha : DV T W C X es es') (hl : (assignEach tes X.env).length = is.length := by rfl) (hst : (assignEach tes X.env).findIdx? (·.1) = none := by rfl)
    (hs : swapsWithSole [.Tuple tes j tp] (.Tuple es j' ep) pos.line X.env = pure false := by rfl) (hw : swappedStores [.Tuple tes j tp] (.Tuple es j' ep) X.env = pure none := by rfl) (h1 : (assignEach [.Tuple tes j tp] X.env).map (·.2) = [assign (.Tuple tes j tp) X.env] := by rfl)
    (hn : is.Nodup := by decide) (hsz : is.length ≤ 1000 := by decide) : DS T W C X (.Assign [.Tuple tes j tp] (.Tuple es j' ep) pos) (.par is es') := eqS (ds_parT w.calm hg ha hl hst hs hw h1 hn hsz) fun r => by simp only [x1]
/-- x[i] = e -/
theorem s_seti {tpos : Pos} (i : Nat) (he : DE T W C X c c') (ho : PE X a (tVar i)) (hi : DE T W C X b b') (hs : swapsWithSole [.Subscript a b tpos] c pos.line X.env = pure false := by rfl) (hw : swappedStores [.Subscript a b tpos] c X.env = pure none := by rfl) (h1 : (assignEach [.Subscript a b tpos] X.env).map (·.2) = [assign (.Subscript a b tpos) X.env] := by rfl)
    (ha : ∀ v, assign (.Subscript a b tpos) X.env v = (do
      let ov ← holding [v] (eval a X.env)
      let iv ← holding [v, ov] (eval b X.env)
      standAt tpos
      holding [v, ov, iv] (setItem ov iv v)
      release [v, ov, iv] []) := by intro _; rfl) : DS T W C X (.Assign [.Subscript a b tpos] c pos) (.seti i b' c') := eqS (ds_seti he ho hi hs hw h1 ha) fun r => by simp only [x1]
/-- loops -/
theorem s_for {body : List Stmt} {tg : PySem.Expr} {it : I} {t : Tg} {ss : List S} (w : CB T k X) (hi : DI T W C X tg a it) (hg : DG T X tg t) (hb : DSs T W C X body ss) (hp : PassesOwn (model X.prog X.w) X.A X.env X.xe := by first | exact PassesOwn.never | exact L2.passes_of rfl | assumption) (hs : ∀ x, foldedSetIterable a X.env x = pure x := by intro _; rfl) :
    DS T W C X (.For tg a body [] pos) (.for_ t it ss) := eqS (ds_for hp w.calm hi hg hb hs) fun r => by simp only [x1]
theorem s_whl {body : List Stmt} {t : Z.T} {ss : List S} (hc : DT T W C X c t) (hb : DSs T W C X body ss) (hp : PassesOwn (model X.prog X.w) X.A X.env X.xe := by first | exact PassesOwn.never | exact L2.passes_of rfl | assumption) : DS T W C X (.While c body [] pos) (.whl t ss) := eqS (ds_whl C.fuel hp hc hb) fun r => by simp only [x1]
end
end Z
/-! ZX: defs of a text, the head. -/
namespace Z
open PySem PySem.Spec L2
open PyProof.Rows hiding St
/-- the evaluator at a depth -/
abbrev Cq (Pg : Nat → Option Df) (fuel k : Nat) : Cf := { call := callD Pg fuel k, modes := fun g => (Pg g).map (·.modes), fuel := fuel }
/-- a def as it stands in the written part -/
structure DfAt (T : Tb) (x : Str) (st : Stmt) (N ps : List Str) (f : Addr) (fd : FuncData) : Prop where
  ex : ∃ (oc : Value) (od : Option Addr) (kV doc pm : Value) (an : Option Addr) (cdv ct : Value) (osl : Array (Option Value)),
    fd = PySem.W.fnOf x x (defArgs st) (defBody st) (defScope st) .none kV doc pm an cdv ct ∧ T.K.lookup f = some ⟨oc, od, .func fd, osl⟩ ∧ PySem.W.codeIn T.K cdv x = true
  sc : FnScope N ps (defScope st)
  mg : T.mg x = some (.ref f)
  kp : PySem.W.keepIn T.K (.ref f) = true
  bn : Binds T.K fd ps []
/-- a name that may be called -/
def Cal (T : Tb) (k : Nat) (x : Str) (ms : List Bool) (c : List D → CR) : Prop :=
  ∃ (f : Addr) (fd : FuncData) (ps : List Str), T.mg x = some (.ref f) ∧ PySem.W.keepIn T.K (.ref f) = true ∧ Binds T.K fd ps [] ∧ FnG T k f fd ps (spD T ms c)
theorem cal_zero {T : Tb} {Pg : Nat → Option Df} {fuel i : Nat} {ms : List Bool} {x : Str} {st : Stmt} {N ps : List Str} {f : Addr} {fd : FuncData} (h : DfAt T x st N ps f fd) : Cal T 0 x ms (callD Pg fuel 0 i) := by
  refine ⟨f, fd, ps, h.mg, h.kp, h.bn, ⟨fun vs H Q E q => ?_, fun A outer s H args us vs Q E _ _ _ _ _ q => ?_⟩⟩
  · obtain ⟨P, ds, _, _, z⟩ := q
    exact z.elim
  · obtain ⟨P, ds, _, _, z⟩ := q
    exact z.elim
theorem fng_step {T : Tb} {Pg : Nat → Option Df} {fuel k i : Nat} {df : Df} {x : Str} {st : Stmt} {N ps : List Str} {f : Addr} {fd : FuncData} (h : DfAt T x st N ps f fd) (hp : Pg i = some df) (hn : df.names = N.length) (hm : df.modes.length = ps.length)
    (hb : ∀ (f : Addr) (cdv : Value) (A : Around) (outer : List PySem.Env) (s : Shared) (H : Hp) (E : XK), CB T k (asDef T N x (defScope st) f cdv A outer s H E) → DSs T WF (Cq Pg fuel k) (asDef T N x (defScope st) f cdv A outer s H E) (defBody st) df.body) :
    FnG T (k + 1) f fd ps (spD T df.modes (callD Pg fuel (k + 1) i)) := by
  obtain ⟨oc, od, kV, doc, pm, an, cdv, ct, osl, rfl, lk, hcd⟩ := h.ex
  exact fn_def lk hcd h.sc hp hn hm fun cdv A outer s H E w => hb f cdv A outer s H E w
theorem cal_step {T : Tb} {Pg : Nat → Option Df} {fuel k i : Nat} {df : Df} {x : Str} {st : Stmt} {N ps : List Str} {f : Addr} {fd : FuncData} (h : DfAt T x st N ps f fd) (hp : Pg i = some df) (hn : df.names = N.length) (hm : df.modes.length = ps.length)
    (hb : ∀ (f : Addr) (cdv : Value) (A : Around) (outer : List PySem.Env) (s : Shared) (H : Hp) (E : XK), CB T k (asDef T N x (defScope st) f cdv A outer s H E) → DSs T WF (Cq Pg fuel k) (asDef T N x (defScope st) f cdv A outer s H E) (defBody st) df.body) :
    Cal T (k + 1) x df.modes (callD Pg fuel (k + 1) i) := ⟨f, fd, ps, h.mg, h.kp, h.bn, fng_step h hp hn hm hb⟩
/-- the program's errors -/
def exN (c : Nat) : Str := (["CodeError", "InvalidNumber", "InvalidWidth", "InvalidWords", "InvalidPlaces", "InvalidItems", "InvalidKnown", "InvalidPrices", "InvalidGrid", "InvalidLine", "InvalidDeed", "Unfit", "TooMany", "NothingToUndo", "NothingToRedo"] : List Str).getD c ""
def adrOf (mg : Str → Option Value) (c : Nat) : Addr := match mg (exN c) with | some (.ref a) => a | _ => 0
abbrev tbOf (P : Program) (w : World) (K : PySem.W.Frag) (mg : Str → Option Value) (bs : Heap) : Tb := ⟨P, w, K, mg, bs, adrOf mg⟩
/-- a def by what the top wrote -/
structure DfQ (K : PySem.W.Frag) (x : Str) (st : Stmt) (ps : List Str) (f : Addr) (fd : FuncData) : Prop where
  ex : ∃ (oc : Value) (od : Option Addr) (kV doc pm : Value) (an : Option Addr) (cdv ct : Value) (osl : Array (Option Value)),
    fd = PySem.W.fnOf x x (defArgs st) (defBody st) (defScope st) .none kV doc pm an cdv ct ∧ K.lookup f = some ⟨oc, od, .func fd, osl⟩ ∧ PySem.W.codeIn K cdv x = true
  ns : PySem.W.nsIn K mainGlobals x = some (some (.ref f))
  kp : PySem.W.keepIn K (.ref f) = true
  bn : ∀ us : List Value, us.length = ps.length → bindArgs fd ⟨us, []⟩ = pure (ps.zip us)
theorem dfq_mk {K : PySem.W.Frag} {x : Str} {st : Stmt} {ps : List Str} {f : Addr} {oc : Value} {od : Option Addr} {kV doc pm cdv ct : Value} {an : Option Addr} {osl : Array (Option Value)}
    (b : ∀ (kV doc pm : Value) (an : Option Addr) (cdv ct : Value) (us : List Value), us.length = ps.length → bindArgs (PySem.W.fnOf x x (defArgs st) (defBody st) (defScope st) .none kV doc pm an cdv ct) ⟨us, []⟩ = pure (ps.zip us))
    (a : PySem.W.nsIn K mainGlobals x = some (some (.ref f))) (l : K.lookup f = some ⟨oc, od, .func (PySem.W.fnOf x x (defArgs st) (defBody st) (defScope st) .none kV doc pm an cdv ct), osl⟩) (c : PySem.W.codeIn K cdv x = true) (k : PySem.W.keepIn K (.ref f) = true) :
    ∃ fd, DfQ K x st ps f fd := ⟨_, ⟨oc, od, kV, doc, pm, an, cdv, ct, osl, rfl, l, c⟩, a, k, b kV doc pm an cdv ct⟩
theorem DfQ.at {K : PySem.W.Frag} {x : Str} {st : Stmt} {N ps : List Str} {f : Addr} {fd : FuncData} {P : Program} {w : World} {mg : Str → Option Value} {h bs : Heap} (q : DfQ K x st ps f fd) (sc : FnScope N ps (defScope st)) (inK : K.In h) (G : h.Ns mainGlobals mg) :
    DfAt (tbOf P w K mg bs) x st N ps f fd := ⟨q.ex, sc, PySem.W.mg_of inK G q.ns, q.kp, Binds.all q.bn⟩
section
variable {T : Tb} {W : WX} {C : Cf} {X : Cx} {k : Nat} {pos p : Pos} {a : PySem.Expr} {x : Str}
/-- f(..) -/
theorem e_fn {g : Nat} {ms : List Bool} {es : List PySem.Expr} {es' : List E} (w : CB T k X) (h : Cal T k x ms (C.call g)) (hms : C.modes g = some ms) (ha : DA T W C X (a :: es) es') (hg : Gl X x := by rfl) (hs : notStar a = true := by rfl) (hss : es.all notStar = true := by rfl) (hdb : (x == ("__debug__" : Str)) = false := by decide) :
    DE T W C X (.Call (.Name x p) (a :: es) [] pos) (.call g es' [] []) := by
  obtain ⟨f, fd, ps, h1, h2, h3, h4⟩ := h
  exact e_def w hms h4 h1 h2 h3 .nil (fun P => .nil) ha hg hs hss hdb
/-- a name of the module that stands for an int -/
theorem e_gint {i : Int} (h : ∃ t, X.mg x = some (.int i t)) (hg : Gl X x := by rfl) (hd : (x == ("__debug__" : Str)) = false := by decide) : DE T W C X (.Name x pos) (.con (.int i)) := by
  obtain ⟨t, h⟩ := h
  exact e_glob h (v := .int i) ⟨t, rfl⟩ (fun _ => by simp only [Rep]) hg hd
end
/-! ### the head -/
/-- a call of the law at the heap behind the top -/
theorem head_call {P : Program} {w : World} {K : PySem.W.Frag} {mg mb : Str → Option Value} {k : Nat} {fa a : Addr} {fd : FuncData} {x : Str} {c : List D → CR} {s1 : Shared} {us : List Value} {ns : List Int}
    (inK : K.In s1.heap) (nsM : s1.heap.Ns mainGlobals mg) (nsB : s1.heap.Ns builtinsNs mb) (boot : ∀ y : Str, y ≠ "__name__" → mb y = bootBuiltins y) (nol : s1.heap.NoLimit) (gn : s1.gens = #[])
    (hob : s1.heap.get? a = some { cls := .type "list", data := .seq us.toArray }) (hin : IntsAre us ns) (hlen : ns.length ≤ sizeLine) (rm : Room k callerA)
    (F : ∀ bs : Heap, K.In bs → bs.Ns mainGlobals mg → FnG (tbOf P w K mg bs) k fa fd [x] (spD (tbOf P w K mg bs) [false] c)) (hbd : ∀ (s : Shared) (u : Value), BindsTo s fd ⟨[u], []⟩ [(x, u)])
    (ans : c [.scr ns] = .ok (.sh (.bl true)) []) :
    codeAny (model P w) callerA (.call (.ref fa) ⟨[.ref a], []⟩) (fun r s2 => r = .ok (.ret (.bool true)) ∧ OldK s1.heap s2.heap ∧ s2.os = s1.os ∧ AllBare s2.gens) s1 := by
  have vv : Vals (ns.map V.int) us := vals_ints hin
  have nn := hin.length
  have main : ∀ H : Hp, Only H → SqL K H a (ns.map V.int) → HOk P w H s1.heap → (∀ b, H b ≠ none → b = a) → (H a ≠ none → K.lookup a = none) →
      codeAny (model P w) callerA (.call (.ref fa) ⟨[.ref a], []⟩) (fun r s2 => r = .ok (.ret (.bool true)) ∧ OldK s1.heap s2.heap ∧ s2.os = s1.os ∧ AllBare s2.gens) s1 := by
    intro H one sq ok at1 notK
    have notA : ∀ {b : Addr} {o : Obj} {es : Array DictEntry} {ep : Nat}, s1.heap.get? b = some o → o.data = .dict es ep → H b = none := fun {b o es ep} g1 g2 => by
      cases hb : H b with
      | none => rfl
      | some u =>
        have z : b = a := at1 b (by rw [hb]; simp)
        rw [z, hob] at g1
        cases g1
        cases (show Data.seq us.toArray _ = Data.dict es ep from g2)
    have keepNs : ∀ {b : Addr} {m : Str → Option Value}, s1.heap.Ns b m → (hidT s1.heap H).Ns b m := fun {b m} ⟨o, es, ep, g1, g2, g3⟩ => ⟨o, es, ep, hidT_get g1 (notA g1 g2), g2, g3⟩
    have inK2 : K.In (hidT s1.heap H) := fun b o g => hidT_get (inK b o g) (by
      cases hb : H b with
      | none => rfl
      | some u =>
        have z : b = a := at1 b (by rw [hb]; simp)
        subst z
        rw [notK (by rw [hb]; simp)] at g
        cases g)
    have md : Mod K mg (hidT s1.heap H) := ⟨inK2, keepNs nsM, ⟨mb, keepNs nsB, boot⟩, nol.elim fun mc z => ⟨mc, keepNs z.1, z.2⟩⟩
    have en : Env0 P w K mg (hidT s1.heap H) callerA [] s1 H := ⟨rfl, md, fun b o g => of_hidT g, Nat.le_of_eq (hidT_size _ _), trivial, fun b z => (by cases z), ok, .of_eq gn⟩
    have sp : spD (tbOf P w K mg (hidT s1.heap H)) [false] c [.ref a] H (fun v _ => v = .bl true) (fun _ _ _ => False) :=
      ⟨H, [.scr ns], .refl H, ⟨.ref a, [], rfl, by simp only [Rep]; exact ⟨a, rfl, sq⟩, rfl⟩, by
        rw [ans]
        intro u P' H' _ rv
        have rv' : Rep (tbOf P w K mg (hidT s1.heap H)) P' (.bl true) u := rv
        simpa only [Rep] using rv'⟩
    refine codeAny_mono ((F _ inK2 (keepNs nsM)).run callerA [] s1 H ⟨[.ref a], []⟩ [.ref a] [.ref a] _ _ rm rfl en (hbd s1 (.ref a)) (.cons rfl .nil) sp) fun r s2 h => ?_
    match r, h with
    | .error _, h => exact h.elim
    | .ok .next, h => exact h.elim
    | .ok .brk, h => exact h.elim
    | .ok .cont, h => exact h.elim
    | .ok (.ret u), h =>
      obtain ⟨v, H2, eo, bare, un, ok2, rl, ev⟩ := h
      have ev : v = .bl true := ev
      subst ev
      have eu : u = Value.bool true := rl
      subst eu
      refine ⟨rfl, OldK.of_keep fun b o g => ?_, eo, bare⟩
      cases hb : H b with
      | none => exact un.keep b o g hb (fun z => by cases z) (by simp)
      | some u =>
        rcases one b with z | ⟨ob, xs, z⟩
        · rw [hb] at z; cases z
        · obtain ⟨q1, _⟩ := ok b _ z
          obtain ⟨q2, _⟩ := ok2 b _ (un.frzs b ob _ z)
          rw [g] at q1
          cases q1
          exact q2
  cases hk : K.lookup a with
  | some o =>
    have g := inK a o hk
    rw [hob] at g
    cases g
    refine main (fun _ => none) (fun _ => .inl rfl) (.inr ⟨_, us.toArray, _, hk, rfl, rfl, rfl, ?_, by simpa using vv⟩) (fun b u z => by cases z) (fun b z => absurd rfl z) fun z => absurd rfl z
    rw [List.size_toArray, nn]
    exact hlen
  | none =>
    refine main (fun b => if b = a then some (.frz { cls := .type "list", data := .seq us.toArray } (.lst (ns.map V.int))) else none) (fun b => ?_) (.inl (.inr ⟨_, if_pos rfl⟩)) (fun b u z => ?_) (fun b z => ?_) fun _ => hk
    · by_cases e : b = a
      · exact .inr ⟨_, _, if_pos e⟩
      · exact .inl (if_neg e)
    · by_cases e : b = a
      · cases (if_pos e).symm.trans z
        subst e
        exact ⟨hob, by rw [List.length_map]; exact hlen, us, _, vv, hob⟩
      · cases (if_neg e).symm.trans z
    · exact Classical.byContradiction fun e => z (if_neg e)
/-- what k_head leaves of a law row -/
theorem head_of {l : PySem.W.OpenLaw} {n k : Nat} {q : Program} {loose : List Str} {XP : (Str → Option Value) → Heap → Prop} {YP : World → Heap → Prop} {d : DefRec} {K : Params → PySem.W.Frag} {c : List D → CR} {x : Str}
    (hn : l.most = some n) (hn2 : n ≤ sizeLine) (hdf : d.params.defaults = []) (rm : Room k callerA) (hY : ∀ (w : World) (h : Heap), YP w h → (K w.params).In h)
    (F : ∀ (w : World) (mg : Str → Option Value) (fa : Addr) (h : Heap), (K w.params).In h → h.Ns mainGlobals mg → mg d.name = some (.ref fa) →
      ∃ fd : FuncData, (∀ (s : Shared) (u : Value), BindsTo s fd ⟨[u], []⟩ [(x, u)]) ∧
        ∀ bs : Heap, (K w.params).In bs → bs.Ns mainGlobals mg → FnG (tbOf l.prog w (K w.params) mg bs) k fa fd [x] (spD (tbOf l.prog w (K w.params) mg bs) [false] c))
    (ans : ∀ ns : List Int, ns.length ≤ n → c [.scr ns] = .ok (.sh (.bl true)) []) :
    PySem.W.WalkO q loose XP YP l.row.toRowW d [] (fun f vs => PySem.call f vs) := by
  refine Att.attach_call hn hdf fun w s₀ s1 mg mb fa o pm cd doc a us ns G Y ho hd hcd hmg hob hin hlen gn => ?_
  obtain ⟨fd, hbd, hF⟩ := F w mg fa _ (hY w _ Y) G.T.g hmg
  exact head_call (hY w _ Y) G.T.g G.T.b G.T.builtins G.T.nolimit gn hob hin (Nat.le_trans hlen hn2) rm hF hbd (ans ns hlen)
end Z
/-! ZY: calls of defs by the parameters' names. -/
namespace Z
open PySem PySem.Spec L2
open PyProof.Rows hiding St
/-- items in the order of the parameters -/
def pmL {A : Type} (is : List Nat) (l : List A) : List A := is.filterMap fun i => l[i]?
theorem vals_get : ∀ {vs : List V} {us : List Value} (i : Nat), Vals vs us → (∃ v u, vs[i]? = some v ∧ us[i]? = some u ∧ RelV v u) ∨ (vs[i]? = none ∧ us[i]? = none)
  | [], [], _, _ => .inr ⟨rfl, rfl⟩
  | v :: vs, u :: us, 0, .cons h _ => .inl ⟨v, u, rfl, rfl, h⟩
  | v :: vs, u :: us, i + 1, .cons _ h => vals_get i h
theorem pm_vals {vs : List V} {us : List Value} (h : Vals vs us) : ∀ is : List Nat, Vals (pmL is vs) (pmL is us)
  | [] => .nil
  | i :: is => by
    rcases vals_get i h with ⟨v, u, e1, e2, r⟩ | ⟨e1, e2⟩
    · unfold pmL
      rw [List.filterMap_cons_some e1, List.filterMap_cons_some e2]
      exact .cons r (pm_vals h is)
    · unfold pmL
      rw [List.filterMap_cons_none e1, List.filterMap_cons_none e2]
      exact pm_vals h is
section
variable {T : Tb} {W : WX} {X : Cx} {k : Nat} {f : Addr} {fd : FuncData} {ps ks : List Str} {is : List Nat} {x : Str} {σ : St} {P : Hp}
theorem rbs_get : ∀ {ys : List (Nat ⊕ D)} {us : List V} {i : Nat} {a : Nat ⊕ D}, RBs T σ P ys us → ys[i]? = some a → ∃ u, us[i]? = some u ∧ RB T σ P a u
  | [], _, _, _, _, e => by cases e
  | y :: ys, _, 0, a, h, e => by
    obtain ⟨u, t, rfl, h1, _⟩ := h
    cases e
    exact ⟨u, rfl, h1⟩
  | y :: ys, _, i + 1, a, h, e => by
    obtain ⟨u, t, rfl, _, h⟩ := h
    exact rbs_get (i := i) h e
theorem rbs_len : ∀ {ys : List (Nat ⊕ D)} {us : List V}, RBs T σ P ys us → us.length = ys.length
  | [], _, h => by cases h; rfl
  | y :: ys, _, h => by
    obtain ⟨u, t, rfl, _, h⟩ := h
    exact congrArg (· + 1) (rbs_len h)
theorem pm_rbs {ys : List (Nat ⊕ D)} {us : List V} (h : RBs T σ P ys us) : ∀ {is : List Nat} {xs : List (Nat ⊕ D)}, permL ys is = some xs → RBs T σ P xs (pmL is us)
  | [], _, e => by cases e; rfl
  | i :: is, xs, e => by
    simp only [permL] at e
    cases c : ys[i]? with
    | none => rw [c] at e; cases e
    | some a =>
      rw [c] at e
      cases c2 : permL ys is with
      | none => rw [c2] at e; cases e
      | some xs' =>
        rw [c2] at e; cases e
        obtain ⟨u, e1, r⟩ := rbs_get h c
        unfold pmL
        rw [List.filterMap_cons_some e1]
        exact ⟨u, _, rfl, r, pm_rbs h c2⟩
theorem pkImp {kws : List Keyword} {t t' : TA} (h : PK X kws t) (i : ∀ σ H Q, t' σ H Q → t σ H Q) : PK X kws t' := ⟨fun pos pins s σ H Q I q => h.run pos pins s σ H Q I (i _ _ _ q)⟩
theorem dk_nil {C : Cf} : PK X [] (tA T W (evA C [])) := pkImp pk_nil fun σ H Q ⟨P, r, rs, go⟩ => by
  simp only [evA] at go
  exact go [] P H (.refl rs) rfl
theorem dk_cons {nm : Option Str} {kpos : Pos} {e : PySem.Expr} {kws : List Keyword} {fa : En → R (Nat ⊕ D)} {g : En → R (List (Nat ⊕ D))} (ha : PE X e (tB T W fa)) (hb : PK X kws (tA T W g)) :
    PK X (⟨nm, e, kpos⟩ :: kws) (tA T W fun r => (fa r).bind fun x r1 => (g r1).bind fun xs r2 => .ok (x :: xs) r2) := by
  refine pkImp (pk_cons ha hb) fun σ H Q ⟨P, r, rs, go⟩ => ⟨P, r, rs, (Go.bind (anti_Bs T σ) go).mono fun u H1 ⟨P1, r1, x, a1, q1, e1, go1⟩ => ⟨P1, r1, a1.rs, (Go.bind (anti_Bs T σ) go1).mono fun us H2 ⟨P2, r2, xs, a2, q2, e2, go2⟩ => ?_⟩⟩
  exact go2 (u :: us) P2 H2 (.refl a2.rs) ⟨u, us, rfl, q1.ext a2.st.pp, q2⟩
/-- how names bind -/
def KwB (fd : FuncData) (ps ks : List Str) (is : List Nat) : Prop := ∀ ws : List Value, ws.length = ks.length → bindArgs fd ⟨[], ks.zip ws⟩ = pure (ps.zip (pmL is ws))
def tDefK (T : Tb) (ms : List Bool) (c : List D → CR) (m : Nat) (is : List Nat) (t : TA) : TE := fun σ H Q => t σ H fun vs H1 => vs.length = m ∧ spD T ms c (pmL is vs) H1 Q (fun _ _ _ => False)
theorem run_fnGK {sp : Sp} {pins : List (Addr × Obj)} {s : Shared} {H : Hp} {ws : List Value} {zs : List V} {Q : VK} (ck : CB T k X) (F : FnG T k f fd ps sp) (hb : KwB fd ps ks is)
    (I : Inv X pins σ H s) (r : Vals zs ws) (l : zs.length = ks.length) (h : sp (pmL is zs) H Q (fun _ _ _ => False)) : wpAny (model X.prog X.w) X.A (call (.ref f) [] (ks.zip ws)) (EP X pins σ Q) X.xe s := by
  have r2 := pm_vals r is
  have e0 : Env0 T.P T.w T.K T.mg T.base X.A X.stack s H := by
    rw [← ck.eP, ← ck.ew, ← ck.eK, ← ck.emg, ← ck.ebase]; exact I.env0
  have run := F.run X.A X.stack s H ⟨[], ks.zip ws⟩ (pmL is ws) (pmL is zs) Q (fun _ _ _ => False) ck.room ck.grd e0 (.of_eq (hb ws (r.length.symm.trans l))) r2 h
  rw [ck.eP, ck.ew]
  refine wpAny_call (codeAny_mono run fun r s' hq => ?_)
  cases r with
  | error e => exact False.elim hq
  | ok fl =>
    cases fl with
    | ret u => exact I.after (by rw [ck.eP, ck.ew]; exact hq)
    | next => exact False.elim hq
    | brk => exact False.elim hq
    | cont => exact False.elim hq
theorem pe_defK {ms : List Bool} {c : List D → CR} {kws : List Keyword} {p pos : Pos} {t : TA} (ck : CB T k X) (F : FnG T k f fd ps (spD T ms c)) (hg : Gl X x) (hm : T.mg x = some (.ref f)) (hk : PySem.W.keepIn T.K (.ref f) = true) (hb : KwB fd ps ks is) (hkw : PK X kws t)
    (hall : (backToKw pos (keywordEach kws X.env)).all (·.1.isSome) = true) (hks : (backToKw pos (keywordEach kws X.env)).filterMap (·.1) = ks) (hdb : (x == ("__debug__" : Str)) = false)
    (hpl : ((backTo pos (starEach [] X.env)).any (·.1) || (backToKw pos (keywordEach kws X.env)).any (·.1.isNone)) = false) :
    PE X (.Call (.Name x p) [] kws pos) (tDefK T ms c ks.length is t) := by
  refine ⟨fun pins s σ H Q I h => ?_⟩
  refine wpAny_Call_Name_kw (ld_glob I hg (by rw [ck.emg]; exact hm) ?_ hdb)
  refine PySem.W.callWith_KW0 (h₀ := X.base) I.ok.mod.kin (by rw [ck.eK]; exact hk) hall ?_ hpl
  refine thn (hkw.run pos pins s σ H _ I h) fun ws s2 ⟨zs, H2, I2, rz, l2, q2⟩ => ⟨I2.kIn, ?_⟩
  rw [hks]
  exact run_fnGK ck F hb I2 rz l2 q2
theorem de_defK {ms : List Bool} {c : List D → CR} {m : Nat} {e : PySem.Expr} {fs : En → R (List (Nat ⊕ D))} (h : PE X e (tDefK T ms c m is (tA T W fs))) :
    PE X e (tE T W fun r => (fs r).bind fun ys r1 => if ys.length = m then (match permL ys is with | some xs => callR ms c xs r1 | none => .bad) else .bad) := peImp h fun σ H Q ⟨P, r, rs, go⟩ =>
  ⟨P, r, rs, (Go.bind (anti_V T) go).mono fun us H1 ⟨P1, r1, ys, a, q, e, g⟩ => by
    by_cases hl : ys.length = m
    · rw [if_pos hl] at g
      cases c2 : permL ys is with
      | none => rw [c2] at g; exact g.elim
      | some xs =>
        rw [c2] at g
        exact ⟨(rbs_len q).trans hl, goC_of a.rs (pm_rbs q c2) g⟩
    · rw [if_neg hl] at g; exact g.elim⟩
end
/-- a name that may be called by names -/
def CalK (T : Tb) (k : Nat) (x : Str) (ms : List Bool) (ks : List Str) (is : List Nat) (c : List D → CR) : Prop :=
  ∃ (f : Addr) (fd : FuncData) (ps : List Str), T.mg x = some (.ref f) ∧ PySem.W.keepIn T.K (.ref f) = true ∧ KwB fd ps ks is ∧ FnG T k f fd ps (spD T ms c)
abbrev BK (x : Str) (st : Stmt) (ps ks : List Str) (is : List Nat) : Prop := ∀ (kV doc pm : Value) (an : Option Addr) (cdv ct : Value) (ws : List Value), ws.length = ks.length → bindArgs (PySem.W.fnOf x x (defArgs st) (defBody st) (defScope st) .none kV doc pm an cdv ct) ⟨[], ks.zip ws⟩ = pure (ps.zip (pmL is ws))
theorem kwb_of {T : Tb} {x : Str} {st : Stmt} {N ps ks : List Str} {is : List Nat} {f : Addr} {fd : FuncData} (h : DfAt T x st N ps f fd) (b : BK x st ps ks is) : KwB fd ps ks is := by
  obtain ⟨oc, od, kV, doc, pm, an, cdv, ct, osl, rfl, _, _⟩ := h.ex
  exact b kV doc pm an cdv ct
theorem calK_zero {T : Tb} {Pg : Nat → Option Df} {fuel i : Nat} {ms : List Bool} {x : Str} {st : Stmt} {N ps ks : List Str} {is : List Nat} {f : Addr} {fd : FuncData} (h : DfAt T x st N ps f fd) (b : BK x st ps ks is) : CalK T 0 x ms ks is (callD Pg fuel 0 i) := by
  refine ⟨f, fd, ps, h.mg, h.kp, kwb_of h b, ⟨fun vs H Q E q => ?_, fun A outer s H args us vs Q E _ _ _ _ _ q => ?_⟩⟩
  · obtain ⟨P, ds, _, _, z⟩ := q
    exact z.elim
  · obtain ⟨P, ds, _, _, z⟩ := q
    exact z.elim
theorem calK_step {T : Tb} {Pg : Nat → Option Df} {fuel k i : Nat} {df : Df} {x : Str} {st : Stmt} {N ps ks : List Str} {is : List Nat} {f : Addr} {fd : FuncData} (h : DfAt T x st N ps f fd) (b : BK x st ps ks is) (hp : Pg i = some df) (hn : df.names = N.length) (hm : df.modes.length = ps.length)
    (hb : ∀ (f : Addr) (cdv : Value) (A : Around) (outer : List PySem.Env) (s : Shared) (H : Hp) (E : XK), CB T k (asDef T N x (defScope st) f cdv A outer s H E) → DSs T WF (Cq Pg fuel k) (asDef T N x (defScope st) f cdv A outer s H E) (defBody st) df.body) :
    CalK T (k + 1) x df.modes ks is (callD Pg fuel (k + 1) i) := ⟨f, fd, ps, h.mg, h.kp, kwb_of h b, fng_step h hp hn hm hb⟩
section
variable {T : Tb} {W : WX} {C : Cf} {X : Cx} {k : Nat} {pos p : Pos} {x : Str}
abbrev DK (T : Tb) (W : WX) (C : Cf) (X : Cx) (kws : List Keyword) (es : List E) : Prop := PK X kws (tA T W (evA C es))
theorem k_nil : DK T W C X [] [] := dk_nil
theorem k_cons {nm : Option Str} {kpos : Pos} {e : PySem.Expr} {e' : E} {kws : List Keyword} {es' : List E} (ha : DB T W C X e e') (hb : DK T W C X kws es') : DK T W C X (⟨nm, e, kpos⟩ :: kws) (e' :: es') := by
  show PK X _ (tA T W (evA C (e' :: es')))
  rw [show evA C (e' :: es') = fun r => (bor e' (fun r => ev C e' r) r).bind fun x r1 => (evA C es' r1).bind fun xs r2 => .ok (x :: xs) r2 from by funext r; simp only [evA]]
  exact dk_cons ha hb
theorem evA_len {C : Cf} : ∀ (es : List E) {r r1 : En} {ys : List (Nat ⊕ D)}, evA C es r = .ok ys r1 → ys.length = es.length
  | [], r, r1, ys, h => by
    simp only [evA] at h
    cases h
    rfl
  | e :: es, r, r1, ys, h => by
    simp only [evA] at h
    cases c : bor e (fun r => ev C e r) r with
    | ok v r2 =>
      rw [c, R.bind_ok] at h
      cases c2 : evA C es r2 with
      | ok vs r3 =>
        rw [c2, R.bind_ok] at h
        cases h
        exact congrArg (· + 1) (evA_len es c2)
      | exc _ _ _ => rw [c2, R.bind_exc] at h; cases h
      | bad => rw [c2, R.bind_bad] at h; cases h
    | exc _ _ _ => rw [c, R.bind_exc] at h; cases h
    | bad => rw [c, R.bind_bad] at h; cases h
/-- f(x = .., ..) -/
theorem e_fnK {g : Nat} {ms : List Bool} {kws : List Keyword} {es' : List E} {ks : List Str} {is : List Nat} (w : CB T k X) (h : CalK T k x ms ks is (C.call g)) (hms : C.modes g = some ms) (ha : DK T W C X kws es') (hl : es'.length = ks.length := by rfl) (hi : is.isEmpty = false := by rfl) (hg : Gl X x := by rfl)
    (hall : (backToKw pos (keywordEach kws X.env)).all (·.1.isSome) = true := by rfl) (hks : (backToKw pos (keywordEach kws X.env)).filterMap (·.1) = ks := by rfl) (hdb : (x == ("__debug__" : Str)) = false := by decide)
    (hpl : ((backTo pos (starEach [] X.env)).any (·.1) || (backToKw pos (keywordEach kws X.env)).any (·.1.isNone)) = false := by rfl) :
    DE T W C X (.Call (.Name x p) [] kws pos) (.call g es' is []) := by
  obtain ⟨f, fd, ps, h1, h2, h3, h4⟩ := h
  refine eqE (de_defK (pe_defK w h4 hg h1 h2 h3 ha hall hks hdb hpl)) fun r => ?_
  simp only [ev]
  cases c : evA C es' r with
  | ok ys r1 =>
    rw [R.bind_ok, R.bind_ok, if_pos (by rw [evA_len es' c]; exact hl), hms]
    simp only [List.map_nil, List.append_nil, permO, hi, Bool.false_eq_true, if_false]
    cases permL ys is <;> rfl
  | exc _ _ _ => rfl
  | bad => rfl
end
/-! ### a chain of two comparisons -/
/-! ### a new thing handed over to be changed -/
section
variable {T : Tb} {W : WX} {X : Cx} {k : Nat} {f : Addr} {fd : FuncData} {ps : List Str} {x : Str}
/-- arguments that are not changed -/
theorem args_plain {σ : St} {P H : Hp} {r : En} {Pf : Hp} (ex : Ext P Pf) : ∀ {ms : List Bool} {xs : List (Nat ⊕ D)} {us : List V} {ds : List D}, RBs T σ P xs us → res r xs = some ds → ms.all (fun b => !b) = true → ms.length = xs.length →
    (∀ (i : Nat) (d : D), i ∈ plains ms xs → r.rd i = some d → ∃ u, σ[i]? = some (some u) ∧ Rep T Pf d u) → RArgs T Pf H ms ds us ∧ ioA ms us = []
  | [], [], us, ds, h, e, _, _, _ => by
    cases e; cases h
    exact ⟨rfl, rfl⟩
  | [], _ :: _, _, _, _, _, _, l, _ => by cases l
  | _ :: _, [], _, _, _, _, _, l, _ => by cases l
  | true :: ms, _ :: _, _, _, _, _, m, _, _ => by simp at m
  | false :: ms, .inr d :: xs, us, ds, h, e, m, l, hp => by
    obtain ⟨u, t, rfl, h1, h2⟩ := h
    simp only [res] at e
    cases c2 : res r xs with
    | none => rw [c2] at e; cases e
    | some ds' =>
      rw [c2] at e; cases e
      obtain ⟨q1, q2⟩ := args_plain ex (ms := ms) h2 c2 (by simpa using m) (by simpa using l) hp
      refine ⟨⟨u, t, rfl, Rep.ext ex _ _ h1, q1⟩, ?_⟩
      cases u <;> exact q2
  | false :: ms, .inl i :: xs, us, ds, h, e, m, l, hp => by
    obtain ⟨u, t, rfl, h1, h2⟩ := h
    simp only [res] at e
    cases c : r.rd i with
    | none => rw [c] at e; cases e
    | some d =>
      rw [c] at e
      cases c2 : res r xs with
      | none => rw [c2] at e; cases e
      | some ds' =>
        rw [c2] at e; cases e
        obtain ⟨q1, q2⟩ := args_plain ex (ms := ms) h2 c2 (by simpa using m) (by simpa using l) (fun j d' m => hp j d' (List.mem_cons_of_mem _ m))
        obtain ⟨w, e1, e2⟩ := hp i d List.mem_cons_self c
        have h1' : σ[i]? = some (some u) := h1
        rw [h1'] at e1; cases e1
        refine ⟨⟨u, t, rfl, e2, q1⟩, ?_⟩
        cases u <;> exact q2
theorem de_callN {ms : List Bool} {c : List D → CR} {e : PySem.Expr} {fe : En → R Val} {fs : En → R (List (Nat ⊕ D))} (h : PE X e (tDef T ms c [] (tCons (tE T W fe) (tA T W fs)))) :
    PE X e (tE T W fun r => (fe r).bind fun v r1 => (fs r1).bind fun ys r2 => match v with | .ow d => callNR ms c d ys r2 | _ => .bad) := peImp h fun σ H Q ⟨P, r, rs, go⟩ => by
  refine ⟨P, r, rs, ?_⟩
  dsimp only at go
  cases e1 : fe r with
  | bad => rw [e1] at go; exact go.elim
  | exc _ _ _ => rw [e1] at go; exact go
  | ok v r1 =>
    rw [e1, R.bind_ok] at go
    intro u P1 H1 a1 rv
    refine ⟨P1, r1, a1.rs, ?_⟩
    cases e2 : fs r1 with
    | bad => rw [e2] at go; exact go.elim
    | exc c' d' r2 =>
      rw [e2] at go
      exact fun u' P' H' a' rp => go u' P' H' (a1.trans a') rp
    | ok ys r2 =>
      rw [e2, R.bind_ok] at go
      intro us P2 H2 a2 rb
      cases v with
      | sh d => exact go.elim
      | ow d =>
        dsimp only at go
        unfold callNR at go
        match ms with
        | [] => exact go.elim
        | false :: ms => exact go.elim
        | true :: ms =>
          dsimp only at go
          by_cases k : (ms.all (fun b => !b) && decide (ms.length = ys.length)) = true
          rotate_left
          · rw [if_neg k] at go; exact go.elim
          rw [if_pos k] at go
          simp only [Bool.and_eq_true, decide_eq_true_eq] at k
          obtain ⟨k1, k2⟩ := k
          cases ef : frzs r2 (plains ms ys) with
          | none => rw [ef] at go; exact go.elim
          | some rf =>
            cases er : res r2 ys with
            | none => rw [ef, er] at go; exact go.elim
            | some ds =>
              rw [ef, er] at go
              dsimp only at go
              obtain ⟨Pf, af, n1, g1⟩ := frz_ok a2.rs ef
              obtain ⟨a, rfl, pa, ro, ha⟩ := rv
              obtain ⟨o1, eo1⟩ := ro.some
              have own1 : ¬ Own σ r1 a := fun ⟨i, m, q⟩ => by
                obtain ⟨j, mj, qj⟩ := a1.kd.owns ⟨i, m, q⟩
                obtain ⟨d2, hd2⟩ := mj
                obtain ⟨b, s1, s2, s3⟩ := rs.own j d2 hd2
                rw [qj] at s1; cases s1
                obtain ⟨o, eo⟩ := s3.some
                rw [ha] at eo; cases eo
              have own2 : ¬ Own σ r2 a := fun z => own1 (a2.kd.owns z)
              have h2a : H2 a = some o1 := a2.st.fr a o1 eo1 own1
              have pa2 : P2 a = none := by
                cases z : P2 a with
                | none => rfl
                | some w =>
                  rcases a2.st.nw a (by rw [z]; simp) with y | y | y
                  · exact absurd pa y
                  · exact absurd y ro.nt
                  · exact absurd y own1
              have paf : Pf a = none := by
                cases z : Pf a with
                | none => rfl
                | some w =>
                  rcases af.st.nw a (by rw [z]; simp) with y | y | y
                  · exact absurd pa2 y
                  · exact absurd y (ro.move a2.st.pp (by rw [h2a, eo1]) : RepO T P2 H2 a d).nt
                  · exact absurd y own2
              have ro2 : RepO T P2 H2 a d := ro.move a2.st.pp (by rw [h2a, eo1])
              have rof : RepO T Pf H2 a d := ro2.move af.st.pp rfl
              obtain ⟨ra, ia⟩ := args_plain (H := H2) af.st.pp rb er k1 k2 g1
              have ii : ioA (true :: ms) ((V.ref a :: us) ++ []) = [a] := by
                rw [List.append_nil]
                show a :: ioA ms us = _
                rw [ia]
              refine ⟨Pf, d :: ds, af.rs.sub, ⟨a, us, by rw [List.append_nil], paf, rof, ra, by rw [ia]; simp⟩, ?_⟩
              rw [ii]
              cases ec : c (d :: ds) with
              | bad => rw [ec] at go; exact go.elim
              | exc _ _ _ => rw [ec] at go; exact go.elim
              | ok q outs =>
                rw [ec] at go
                intro u' P' H' ac rv'
                have keep : ∀ b o, H2 b = some o → b ≠ a → H' b = some o := fun b o e n => ac.fr b o e (by simpa using n)
                have stc : Stp (fun b => b = a) Pf H2 P' H' := ⟨ac.pp, keep, ac.dm, fun b hb => (ac.nw b hb).elim .inl fun z => .inr (.inl z)⟩
                have sa : ∀ b, H' b = none → H b = none := fun b hb => a1.st.dm b (a2.st.dm b (af.st.dm b (ac.dm b hb)))
                have st : Stp (Own σ r) P H P' H' := ((a1.trans (a2.trans af)).st).trans stc fun b hb => by
                  subst hb
                  exact .inr ha
                have kd : Kd r rf := (a1.trans (a2.trans af)).kd
                have ownNa : ∀ i b, OwnAt rf i → σ[i]? = some (some (.ref b)) → b ≠ a := fun i b m q e => by
                  subst e
                  exact own1 (a2.kd.owns (af.kd.owns ⟨i, m, q⟩))
                have rs' : RS T P' H' σ rf := by
                  refine ⟨ac.sub, af.rs.len, fun i d' q => ?_, fun i d' q => ?_, af.rs.dis⟩
                  · obtain ⟨w, w1, w2⟩ := af.rs.sh i d' q
                    exact ⟨w, w1, Rep.ext ac.pp _ _ w2⟩
                  · obtain ⟨b, b1, b2, b3⟩ := af.rs.own i d' q
                    have nb := ownNa i b ⟨d', q⟩ b1
                    obtain ⟨o, eo⟩ := b3.some
                    refine ⟨b, b1, ?_, b3.move ac.pp (by rw [keep b o eo nb, eo])⟩
                    cases z : P' b with
                    | none => rfl
                    | some w =>
                      rcases ac.nw b (by rw [z]; simp) with y | y
                      · exact absurd b2 y
                      · exact absurd y b3.nt
                refine go u' P' H' ⟨rs', st, kd⟩ ?_
                cases q with
                | sh d' => exact rv'
                | ow d' =>
                  obtain ⟨b, b1, b2, b3, b4⟩ := rv'
                  exact ⟨b, b1, b2, b3, a1.st.dm b (a2.st.dm b b4)⟩
end
section
variable {T : Tb} {W : WX} {C : Cf} {X : Cx} {k : Nat} {pos p : Pos} {a : PySem.Expr} {x : Str}
/-- f(new, ..) -/
theorem e_fnN {g : Nat} {ms : List Bool} {es : List PySem.Expr} {a' : E} {es' : List E} (w : CB T k X) (h : Cal T k x ms (C.call g)) (hms : C.modes g = some ms) (ha : DE T W C X a a') (hes : DA T W C X es es') (hg : Gl X x := by rfl) (hs : notStar a = true := by rfl) (hss : es.all notStar = true := by rfl) (hdb : (x == ("__debug__" : Str)) = false := by decide) :
    DE T W C X (.Call (.Name x p) (a :: es) [] pos) (.callN g a' es') := by
  obtain ⟨f, fd, ps, h1, h2, h3, h4⟩ := h
  refine eqE (de_callN (fe := fun r => ev C a' r) (fs := evA C es') (pe_def w h4 hg h1 h2 h3 .nil (pa_cons ha hes (star_one hs es X.env)) hs hss hdb)) fun r => ?_
  simp only [ev]
  cases c1 : ev C a' r with
  | ok v r1 =>
    rw [R.bind_ok, R.bind_ok]
    cases c2 : evA C es' r1 with
    | ok ys r2 =>
      rw [R.bind_ok, R.bind_ok, hms]
      cases v <;> rfl
    | exc _ _ _ => rfl
    | bad => rfl
  | exc _ _ _ => rfl
  | bad => rfl
end
end Z
/-! ZZ: zip of two lists, strict=False. -/
namespace Z
open PySem PySem.Spec L2
open PyProof.Rows hiding St
open Sem (wp)
/-! ### a chain as a test -/
section
variable {X : Cx} {T : Tb} {W : WX} {fa fb fc : En → R (Nat ⊕ D)} {a b c : PySem.Expr} {pos : Pos} {op op' : CmpOp}
theorem dt_chn (ho : OpR X (compareOp op) (rD2 T W fun u v => boolV (cmpD op u v))) (ho' : OpR X (compareOp op') (rD2 T W fun u v => boolV (cmpD op' u v))) (ha : PE X a (tB T W fa)) (hb : PE X b (tB T W fb)) (hc : PE X c (tB T W fc)) (hm : lastMarks [op, op'] [b, c] = false) :
    PT X (.Compare a [op, op'] [b, c] pos) (tK T W fun r => ((fa r).bind fun x r1 => (fb r1).bind fun y r2 => (op2 (fun u v => boolV (cmpD op u v)) x y r2).bind fun q r3 => match q.d with
      | .bl true => (fc r3).bind fun z r4 => op2 (fun u v => boolV (cmpD op' u v)) y z r4
      | .bl false => .ok (.sh (.bl false)) r3
      | _ => .bad).bind fun v r1 => R.of (tru v.d) r1) := by
  refine ptImp (pt_chain ho ho' ha hb hc hm) fun σ H Q ⟨P, r, rs, go⟩ => ⟨P, r, rs, ?_⟩
  dsimp only at go
  rw [bind_assoc] at go
  refine (Go.bind anti_K go).mono fun u H1 ⟨P1, r1, x, a1, q1, e1, go1⟩ => ⟨P1, r1, a1.rs, ?_⟩
  rw [bind_assoc] at go1
  refine (Go.bind anti_K go1).mono fun v H2 ⟨P2, r2, y, a2, q2, e2, go2⟩ => ?_
  rw [bind_assoc] at go2
  have go3 := Go.bind (rel := relV T) anti_K go2
  cases c : res r2 [x, y] with
  | none =>
    have e : op2 (fun u v => boolV (cmpD op u v)) x y r2 = .bad := by unfold op2; rw [c]; rfl
    rw [e] at go3; exact go3.elim
  | some l =>
    obtain ⟨a, b, rfl, h1, h2⟩ := res2 a2.rs (rb2 q1 a2.st.pp q2) c
    cases c2 : cmpD op a b with
    | none =>
      have e : op2 (fun u v => boolV (cmpD op u v)) x y r2 = .bad := by unfold op2; rw [c]; dsimp only; rw [c2]; rfl
      rw [e] at go3; exact go3.elim
    | some k =>
      have e : op2 (fun u v => boolV (cmpD op u v)) x y r2 = .ok (.sh (.bl k)) r2 := by unfold op2; rw [c]; dsimp only; rw [c2]; rfl
      rw [e] at go3
      refine ⟨a, b, .sh (.bl k), σ, P2, r2, a2.rs, h1, h2, by show boolV (cmpD op a b) = _; rw [c2]; rfl, Go.mono go3 fun u3 H3 ⟨P3, r3, q, a3, rv, e3, go4⟩ => ?_⟩
      cases e3
      have eu : u3 = .bl k := by
        have rv : Rep T P3 (.bl k) u3 := rv
        simpa only [Rep] using rv
      refine ⟨k, eu, ?_⟩
      cases k with
      | false =>
        rw [if_neg Bool.false_ne_true]
        exact ⟨false, rfl, go4 false P3 H3 (.refl a3.rs) rfl⟩
      | true =>
        rw [if_pos rfl]
        dsimp only [Val.d_sh] at go4
        rw [bind_assoc] at go4
        refine ⟨P3, r2, a3.rs, (Go.bind anti_K go4).mono fun w H4 ⟨P4, r4, z, a4, q4, e4, go5⟩ => ?_⟩
        unfold op2 at go5
        cases c3 : res r4 [y, z] with
        | none => rw [c3] at go5; exact go5.elim
        | some l =>
          obtain ⟨a', b', rfl, h1', h2'⟩ := res2 a4.rs (rb2 (q2.ext a3.st.pp) a4.st.pp q4) c3
          rw [c3] at go5
          dsimp only at go5
          cases c4 : cmpD op' a' b' with
          | none => rw [c4] at go5; exact go5.elim
          | some k' =>
            rw [c4] at go5
            refine ⟨a', b', .sh (.bl k'), σ, P4, r4, a4.rs, h1', h2', by show boolV (cmpD op' a' b') = _; rw [c4]; rfl, fun u' P' H' a5 rv => ?_⟩
            have hu' : u' = .bl k' := by
              have rv' : Rep T P' (.bl k') u' := rv
              simpa only [Rep] using rv'
            exact ⟨k', hu', go5 k' P' H' a5 rfl⟩
end
section
variable {T : Tb} {W : WX} {C : Cf} {X : Cx} {k : Nat} {pos : Pos} {a b c : PySem.Expr} {a' b' c' : E} {op op' : CmpOp}
theorem t_chn (w : CB T k X) (ha : DB T W C X a a') (hb : DB T W C X b b') (hc : DB T W C X c c') (hm : lastMarks [op, op'] [b, c] = false := by with_unfolding_all rfl) : DT T W C X (.Compare a [op, op'] [b, c] pos) (.val (.chn op op' a' b' c')) :=
  eqT (dt_chn (op_cmpD w.eK (by have := w.room.un; omega) op) (op_cmpD w.eK (by have := w.room.un; omega) op') ha hb hc hm) fun r => by
    simp only [evT, bor, isVar, ev]
    rw [bind_assoc]
    congr 1
end
end Z
/-! ZZA: x += e. -/
namespace Z
open PySem PySem.Spec L2
open PyProof.Rows hiding St
/-! ### x += e, whole numbers -/
end Z
/-! ZZB: zip of three lists of one length, strict or not. -/
namespace Z
open PySem PySem.Spec L2
open PyProof.Rows hiding St
open Sem (wp)
end Z
/-! ZZC: zip of three lists: its turns. -/
namespace Z
open PySem PySem.Spec L2
open PyProof.Rows hiding St
open Sem (wp)
end Z
/-! ZZD: zip of three lists, walked. -/
namespace Z
open PySem PySem.Spec L2
open PyProof.Rows hiding St
open Sem (wp)
end Z
/-! ZZE: zip of two lists kept under a name, walked in the next statement. -/
namespace Z
open PySem PySem.Spec L2
open PyProof.Rows hiding St
open Sem (wp)
/-! ### things of the heap that are known and then forgotten -/
/-! ### the judgement -/
section
variable {T : Tb} {W : WX} {σ σ' : St} {P H P' H' : Hp} {r r' : En} {i : Nat}
/-- values alike but at a slot -/
def Sg (i : Nat) (σ σ' : St) : Prop := σ'.length = σ.length ∧ ∀ j, j ≠ i → σ'[j]? = σ[j]?
theorem Sg.symm (h : Sg i σ σ') : Sg i σ' σ := ⟨h.1.symm, fun j n => (h.2 j n).symm⟩
theorem own_ne (hn : r[i]? = some Sl.no) {j : Nat} (o : OwnAt r j) : j ≠ i := fun z => by
  subst z
  obtain ⟨d, o⟩ := o
  rcases o with o | o <;> (rw [hn] at o; cases o)
theorem Sg.own (h : Sg i σ σ') (hn : r[i]? = some Sl.no) : ∀ a, Own σ' r a → Own σ r a := fun a ⟨j, o, e⟩ => ⟨j, o, by rw [← h.2 j (own_ne hn o)]; exact e⟩
theorem Sg.rs (h : Sg i σ σ') (hn : r[i]? = some Sl.no) (rs : RS T P H σ r) : RS T P H σ' r where
  sub := rs.sub
  len := rs.len.trans h.1.symm
  sh := fun j d e => by
    have : j ≠ i := fun z => by subst z; rw [hn] at e; cases e
    rw [h.2 j this]; exact rs.sh j d e
  own := fun j d e => by
    rw [h.2 j (own_ne hn ⟨d, e⟩)]; exact rs.own j d e
  dis := fun j k a o1 o2 e1 e2 => by
    rw [h.2 j (own_ne hn o1)] at e1
    rw [h.2 k (own_ne hn o2)] at e2
    exact rs.dis j k a o1 o2 e1 e2
theorem kd_no (k : Kd r r') (hn : r[i]? = some Sl.no) : r'[i]? = some Sl.no := by
  have hi : i < r'.length := by rw [k.1]; exact (List.getElem?_eq_some_iff.mp hn).1
  have q := List.getElem?_eq_getElem hi
  have w := k.2 i _ _ hn q
  cases c : r'[i] with
  | no => rw [q, c]
  | _ => rw [c] at w; exact False.elim w
theorem Sg.aft (h : Sg i σ σ') (hn : r[i]? = some Sl.no) (a : Aft T σ P H r P' H' r') : Aft T σ' P H r P' H' r' :=
  ⟨h.rs (kd_no a.kd hn) a.rs, ⟨a.st.pp, fun b o e n => a.st.fr b o e (fun z => n (h.symm.own hn b z)), a.st.dm, fun b e => (a.st.nw b e).imp_right (Or.imp_right (h.symm.own hn b))⟩, a.kd⟩
theorem Sg.go {A B : Type} {rel : Rel A B} {x : R A} {Q : B → Hp → Prop} (h : Sg i σ σ') (hn : r[i]? = some Sl.no) (g : Go T WF rel σ P H r x Q) : Go T WF rel σ' P H r x Q := by
  cases x with
  | ok v r' => exact fun u P' H' b q => g u P' H' (h.symm.aft hn b) q
  | exc c d r' => exact fun u P' H' b q => (g u P' H' (h.symm.aft hn b) q).elim
  | bad => exact g
end
end Z
/-! ZZF: a call whose arguments stay one's own. -/
namespace Z
open PySem PySem.Spec L2
open PyProof.Rows hiding St
end Z
/-! ZZG: dicts of tuples (all values True): {}, x[tuple] = True, len(x). -/
namespace Z
open PySem PySem.Spec L2
open PyProof.Rows hiding St
section
variable {T : Tb} {W : WX} {X : Cx} {σ : St} {P H : Hp} {r : En} {pos p : Pos}
abbrev kvT (ks : List (List Ky)) : List (List L2.Key × V) := ks.map fun k => (k, V.bl true)
theorem any_kvT (k : List L2.Key) : ∀ ks : List (List Ky), ((kvT ks).any fun kv => decide (kv.1 = k)) = ks.any fun x => decide (x = k)
  | [] => rfl
  | x :: ks => by
    have := any_kvT k ks
    simp only [kvT, List.map_cons, List.any_cons] at this ⊢
    rw [this]
theorem putK_true (ks : List (List Ky)) (k : List L2.Key) : putK (kvT ks) k (V.bl true) = kvT (if (ks.any fun x => decide (x = k)) = true then ks else ks ++ [k]) := by
  unfold putK
  rw [any_kvT]
  split
  · simp only [kvT, List.map_map]
    apply List.map_congr_left
    intro x _
    simp
  · simp [kvT]
theorem keys_rep : ∀ {ds : List D} {k : List Ky} {xs : List V}, keysD ds = some k → Reps T P ds xs → xs = k.map kV
  | [], k, xs, e, h => by
    cases e
    exact h.of_nil
  | d :: ds, k, xs, e, h => by
    obtain ⟨v, t, rfl, h1, h2⟩ := h.of_cons
    unfold keysD at e
    cases c : keyD d with
    | none => rw [c] at e; cases e
    | some y =>
      rw [c] at e
      cases c2 : keysD ds with
      | none => rw [c2] at e; cases e
      | some ys =>
        rw [c2] at e
        cases e
        rw [keys_rep c2 h2]
        have : v = kV y := by
          cases d with
          | int i => cases c; exact (by simpa only [Rep] using h1 : v = V.int i)
          | str s => cases c; exact (by simpa only [Rep] using h1 : v = V.str s)
          | _ => cases c
        rw [this]
        rfl
theorem set_dtv : ∀ {vs : List D} {kvs : List (List L2.Key × V)} {ks : List (List Ky)} {kk : List Ky} {v : D} {u : V}, kvs.map (·.1) = ks → Reps T P vs (kvs.map (·.2)) → Rep T P v u →
    Reps T P (dtvSet ks vs kk v) ((kvs.map fun kv => if kv.1 = kk then (kv.1, u) else kv).map (·.2))
  | [], kvs, ks, kk, v, u, e, h, hv => by
    have : kvs = [] := List.map_eq_nil_iff.mp h.of_nil
    subst this
    subst e
    exact .nil
  | d :: vs, [], ks, kk, v, u, e, h, hv => by
    obtain ⟨_, _, z, _⟩ := h.of_cons
    cases z
  | d :: vs, q :: kvs, ks, kk, v, u, e, h, hv => by
    subst e
    obtain ⟨w, r, z, h1, h2⟩ := h.of_cons
    rw [List.map_cons] at z
    cases z
    have ih := set_dtv (kk := kk) (ks := kvs.map (·.1)) rfl h2 hv
    simp only [List.map_cons, dtvSet]
    by_cases c : q.1 = kk
    · rw [if_pos c, if_pos c]
      exact .cons hv ih
    · rw [if_neg c, if_neg c]
      exact .cons h1 ih
theorem putK_dtv {a : Addr} {vs : List D} {kvs : List (List L2.Key × V)} {ks : List (List Ky)} {kk : List Ky} {v : D} {u : V} (hks : kvs.map (·.1) = ks) (hds : Reps T P vs (kvs.map (·.2))) (hv : Rep T P v u) :
    RepO T P (upd H a (.dT (putK kvs kk u))) a (if (ks.any fun x => decide (x = kk)) = true then .dtv ks (dtvSet ks vs kk v) else .dtv (ks ++ [kk]) (vs ++ [v])) := by
  have an : (kvs.any fun kv => decide (kv.1 = kk)) = ks.any fun x => decide (x = kk) := by
    subst hks
    rw [List.any_map]
    rfl
  unfold putK
  rw [an]
  split
  · refine ⟨_, upd_same, ?_, set_dtv hks hds hv⟩
    rw [List.map_map, ← hks]
    apply List.map_congr_left
    intro q _
    show (if q.1 = kk then (q.1, u) else q).1 = q.1
    split <;> rfl
  · refine ⟨_, upd_same, by rw [List.map_append, hks]; rfl, ?_⟩
    rw [List.map_append]
    exact hds.append (.cons hv .nil)
/-- x[tuple] = True -/
theorem ds_dput {o ix e : PySem.Expr} {pos tpos : Pos} {i : Nat} {f g : En → R Val} (hu : X.A.units + 1 < cLine) (he : PE X e (tE T W f)) (ho : PE X o (tVar i)) (hi : PE X ix (tE T W g))
    (hs : swapsWithSole [.Subscript o ix tpos] e pos.line X.env = pure false) (hw : swappedStores [.Subscript o ix tpos] e X.env = pure none) (h1 : (assignEach [.Subscript o ix tpos] X.env).map (·.2) = [assign (.Subscript o ix tpos) X.env])
    (ha : ∀ v, assign (.Subscript o ix tpos) X.env v = (do
      let ov ← holding [v] (eval o X.env)
      let iv ← holding [v, ov] (eval ix X.env)
      standAt tpos
      holding [v, ov, iv] (setItem ov iv v)
      release [v, ov, iv] [])) :
    PS X (.Assign [.Subscript o ix tpos] e pos) (tD T W fun r => (f r).run fun v r1 => if (r1.own? i).isSome = true then (g r1).run fun k r2 => O.of ((r2.own? i).bind fun o => (dputD o k.d v.d).bind fun d => r2.chg i d) else .bad) :=
  psImp (ps_asg he (pg_sub ho hi (set_dict hu) ha) hs hw h1) fun D σ H ⟨P, r, rs, go⟩ => ⟨P, r, rs, (GoS.runS rs go).mono fun u H1 ⟨P1, r1, v, a1, q1, e1, go1⟩ => by
    by_cases hown : (r1.own? i).isSome = true
    rotate_left
    · rw [if_neg hown] at go1; exact go1.elim
    rw [if_pos hown] at go1
    obtain ⟨d0, hd0⟩ := Option.isSome_iff_exists.mp hown
    obtain ⟨a0, ea0, _, _⟩ := own_at a1.rs hd0
    obtain ⟨w, hw⟩ : ∃ w, σ[i]? = some (some w) := ⟨_, ea0⟩
    exact ⟨w, hw, P1, r1, a1.rs, (GoS.runS a1.rs go1).mono fun kx H2 ⟨P2, r2, k, a2, q2, e2, go2⟩ => by
      cases c : r2.own? i with
      | none => rw [c] at go2; exact go2.elim
      | some d =>
        rw [c] at go2
        simp only [Option.bind_some] at go2
        obtain ⟨a, ea, pa, ro⟩ := own_at a2.rs c
        rw [hw] at ea; cases ea
        cases c2 : dputD d k.d v.d with
        | none => rw [c2] at go2; exact go2.elim
        | some d' =>
          rw [c2] at go2
          simp only [Option.bind_some] at go2
          cases c3 : r2.chg i d' with
          | none => rw [c3] at go2; exact go2.elim
          | some r3 =>
            rw [c3] at go2
            cases d with
            | dts ks =>
              cases ck : k.d with
              | tup l =>
                cases cv : v.d with
                | bl bb =>
                  rw [ck, cv] at c2
                  rw [ck] at q2
                  rw [cv] at q1
                  cases bb with
                  | false => simp [dputD] at c2
                  | true =>
                    simp only [dputD] at c2
                    split at c2
                    · rename_i hl
                      cases c4 : keysD l with
                      | none => rw [c4] at c2; cases c2
                      | some kk =>
                        rw [c4] at c2
                        cases c2
                        simp only [Rep] at q1 q2
                        subst q1
                        obtain ⟨b, xs, rfl, hb, rx⟩ := q2
                        rw [keys_rep c4 rx] at hb
                        refine ⟨a, _, rfl, DPut.t ro (a2.rs.sub _ _ hb) (by rw [List.length_map, sizeLine_eq]; omega), ?_⟩
                        rw [putK_true]
                        exact go2 σ P2 _ (chg_ok a2.rs c hw c3 upd_same).toS
                    · cases c2
                | _ => rw [ck, cv] at c2; simp [dputD] at c2
              | _ => rw [ck] at c2; simp [dputD] at c2
            | dtv ks vs =>
              cases ck : k.d with
              | tup l =>
                rw [ck] at c2 q2
                simp only [dputD] at c2
                split at c2
                · rename_i hl
                  cases c4 : keysD l with
                  | none => rw [c4] at c2; cases c2
                  | some kk =>
                    rw [c4] at c2
                    simp only [Option.map_some, Option.some.injEq] at c2
                    simp only [Rep] at q2
                    obtain ⟨b, xs, rfl, hb, rx⟩ := q2
                    rw [keys_rep c4 rx] at hb
                    obtain ⟨kvs, hk, hks, hds⟩ := ro
                    have lk : kvs.length = ks.length := by rw [← hks, List.length_map]
                    refine ⟨a, _, rfl, DPut.t hk (a2.rs.sub _ _ hb) (by rw [lk, sizeLine_eq]; omega), ?_⟩
                    have q1' := Rep.ext a2.st.pp _ _ q1
                    subst c2
                    exact go2 σ P2 _ (chg_ok a2.rs c hw c3 (putK_dtv hks hds q1')).toS
                · cases c2
              | _ => rw [ck] at c2; simp [dputD] at c2
            | _ => simp [dputD] at c2⟩⟩
end
section
variable {T : Tb} {W : WX} {C : Cf} {X : Cx} {k : Nat} {pos p tpos : Pos} {a b c : PySem.Expr} {a' b' c' : E}
theorem s_dput (w : CB T k X) (i : Nat) (he : DE T W C X c c') (ho : PE X a (tVar i)) (hi : DE T W C X b b') (hs : swapsWithSole [.Subscript a b tpos] c pos.line X.env = pure false := by rfl) (hw : swappedStores [.Subscript a b tpos] c X.env = pure none := by rfl) (h1 : (assignEach [.Subscript a b tpos] X.env).map (·.2) = [assign (.Subscript a b tpos) X.env] := by rfl)
    (ha : ∀ v, assign (.Subscript a b tpos) X.env v = (do
      let ov ← holding [v] (eval a X.env)
      let iv ← holding [v, ov] (eval b X.env)
      standAt tpos
      holding [v, ov, iv] (setItem ov iv v)
      release [v, ov, iv] []) := by intro _; rfl) : DS T W C X (.Assign [.Subscript a b tpos] c pos) (.dput i b' c') := eqS (ds_dput (by have := w.room.un; omega) he ho hi hs hw h1 ha) fun r => by simp only [x1]
end
end Z
/-! ZZH: x[::0 - 1] of a list; dict(list of pairs). -/
namespace Z
open PySem PySem.Spec L2
open PyProof.Rows hiding St
end Z
/-! ZZI: list(dict of tuples), {x: y for x, y in ..}, x[k] of a dict of numbers, x[::-1]. -/
namespace Z
open PySem PySem.Spec L2
open PyProof.Rows hiding St
end Z
/-! ZZJ: zip of two lists, strict, its tuple still out; dict(zip(.., strict=True)). -/
namespace Z
open PySem PySem.Spec
open PyProof.Rows hiding St
open Sem (wp)
end Z
/-! ZZK: dict(zip(.., .., strict=True)). -/
namespace Z
open PySem PySem.Spec L2
open PyProof.Rows hiding St
end Z
/-! ZZL: dict(zip(.., .., strict=True)), its rule. -/
namespace Z
open PySem PySem.Spec L2
open PyProof.Rows hiding St
end Z
/-! ZZM: dict(zip(.., .., strict=True)), in short. -/
namespace Z
open PySem PySem.Spec L2
open PyProof.Rows hiding St
end Z
/-! ZZN: list.remove; the keys of a dict of tuples walked, the dict given up. -/
namespace Z
open PySem PySem.Spec L2
open PyProof.Rows hiding St
end Z
/-! ZZO: one's own list of numbers walked; it stays one's own. -/
namespace Z
open PySem PySem.Spec L2
open PyProof.Rows hiding St
end Z
/-! ZZP: list comprehensions of two clauses. -/
namespace Z
open PySem PySem.Spec L2
open PyProof.Rows hiding St
section
variable {X : Cx} {T : Tb} {W : WX}
theorem own_k {σ : St} {r1 r2 : En} {vs : List Nat} (hl : r2.length = r1.length) (hk : ∀ (j : Nat) (x x' : Sl), j ∉ vs → r1[j]? = some x → r2[j]? = some x' → kle x x') : ∀ b, Own (wipe σ vs) (wip r2 vs) b → Own (wipe σ vs) (wip r1 vs) b := fun b ⟨j, ⟨d, o⟩, s⟩ => by
  have z : j ∉ vs := fun z => by
    rcases o with o | o
    · exact nomatch wip_in r2 z o
    · exact nomatch wip_in r2 z o
  rw [wip_out r2 z] at o
  have hj : j < r1.length := by
    rw [← hl]
    rcases o with o | o <;> exact (List.getElem?_eq_some_iff.mp o).1
  have q := List.getElem?_eq_getElem hj
  refine ⟨j, ?_, s⟩
  rcases o with o | o
  · have w := hk j _ _ z q o
    cases c : r1[j] with
    | ow d' => exact ⟨d', .inl (by rw [wip_out r1 z, q, c])⟩
    | _ => rw [c] at w; exact False.elim w
  · have w := hk j _ _ z q o
    cases c : r1[j] with
    | io d' => exact ⟨d', .inr (by rw [wip_out r1 z, q, c])⟩
    | _ => rw [c] at w; exact False.elim w
/-- in the midst of a turn: what is made lies at A -/
structure Mid (T : Tb) (O : Addr → Prop) (P0 H0 : Hp) (σ : St) (vs : List Nat) (rb : En) (A : Addr) (acc : List Z.D) (accV : List V) (σ2 : St) (r : En) (P H : Hp) : Prop where
  ws : wipe σ2 vs = wipe σ vs
  rs : RS T P H σ2 r
  st : Stp O P0 H0 P H
  len : r.length = rb.length
  kd : ∀ (j : Nat) (x x' : Sl), j ∉ vs → rb[j]? = some x → r[j]? = some x' → kle x x'
  hD : H A = some (.lst accV)
  ha : Reps T P acc accV
  pD : P A = none
  no : ¬ Own σ2 r A
  ow : ∀ c, Own σ2 r c → O c ∨ H0 c = none
theorem free_keepS {O : Addr → Prop} {P H P' H' : Hp} {A : Addr} {xs : List V} (s : Stp O P H P' H') (p : P A = none) (h : H A = some (.lst xs)) (n : ¬ O A) : P' A = none := by
  cases c : P' A with
  | none => rfl
  | some o =>
    rcases s.nw A (by rw [c]; intro z; cases z) with z | z | z
    · exact absurd p z
    · exact absurd z (nt_lst h)
    · exact absurd z n
section
variable {O : Addr → Prop} {P0 H0 P H P5 H5 : Hp} {σ σ2 : St} {vs : List Nat} {rb r r5 : En} {A : Addr} {acc : List Z.D} {accV : List V}
theorem Mid.after (m : Mid T O P0 H0 σ vs rb A acc accV σ2 r P H) (a : Aft T σ2 P H r P5 H5 r5) : Mid T O P0 H0 σ vs rb A acc accV σ2 r5 P5 H5 where
  ws := m.ws
  rs := a.rs
  st := m.st.trans a.st m.ow
  len := a.kd.1.trans m.len
  kd := fun j x x' z h1 h2 => by
    have hj : j < r.length := by rw [m.len]; exact (List.getElem?_eq_some_iff.mp h1).1
    have q := List.getElem?_eq_getElem hj
    exact (m.kd j x _ z h1 q).trans (a.kd.2 j _ x' q h2)
  hD := a.st.fr _ _ m.hD m.no
  ha := Reps.ext a.st.pp _ _ m.ha
  pD := free_keepS a.st m.pD m.hD m.no
  no := fun o => m.no (a.kd.owns o)
  ow := fun c h => m.ow c (a.kd.owns h)
theorem Mid.wip (m : Mid T O P0 H0 σ vs rb A acc accV σ2 r P H) : RS T P H (wipe σ vs) (wip r vs) := by
  rw [← m.ws]
  exact m.rs.wip vs
/-- between turns -/
structure Btw (T : Tb) (O : Addr → Prop) (P0 H0 : Hp) (σ : St) (vs : List Nat) (rb : En) (A : Addr) (acc : List Z.D) (r : En) (P H : Hp) (accV : List V) : Prop where
  rs : RS T P H (wipe σ vs) (Z.wip r vs)
  st : Stp O P0 H0 P H
  len : r.length = rb.length
  kd : ∀ (j : Nat) (x x' : Sl), j ∉ vs → rb[j]? = some x → r[j]? = some x' → kle x x'
  hD : H A = some (.lst accV)
  ha : Reps T P acc accV
  pD : P A = none
/-- one item is added -/
theorem Mid.put (m : Mid T O P0 H0 σ vs rb A acc accV σ2 r P H) (oA : O A) (nb : ¬ Own (wipe σ vs) (Z.wip rb vs) A) {d : Z.D} {u : V} (rp : Rep T P d u) : Btw T O P0 H0 σ vs rb A (acc ++ [d]) r P (upd H A (.lst (accV ++ [u]))) (accV ++ [u]) where
  rs := m.wip.updD m.pD fun o => nb (own_k m.len m.kd A o)
  st := ⟨m.st.pp, fun b o e n => by
    have nb : b ≠ A := fun z => n (by rw [z]; exact oA)
    rw [upd_ne nb]
    exact m.st.fr b o e n, fun b e => by
    by_cases z : b = A
    · subst z; rw [upd_same] at e; cases e
    · rw [upd_ne z] at e; exact m.st.dm b e, m.st.nw⟩
  len := m.len
  kd := m.kd
  hD := upd_same
  ha := m.ha.append (.cons rp .nil)
  pD := m.pD
end
end
end Z
/-! ZZQ: sorted(set(xs)), xs a list of numbers. -/
namespace Z
open PySem PySem.Spec L2
open PyProof.Rows hiding St
end Z
/-! ZZR: a def that a second name of the module stands for. -/
namespace Z
open PySem PySem.Spec L2
open PyProof.Rows hiding St
/-- a def named x, found under the name a -/
structure DfAtA (T : Tb) (a x : Str) (st : Stmt) (N ps : List Str) (f : Addr) (fd : FuncData) : Prop where
  ex : ∃ (oc : Value) (od : Option Addr) (kV doc pm : Value) (an : Option Addr) (cdv ct : Value) (osl : Array (Option Value)),
    fd = PySem.W.fnOf x x (defArgs st) (defBody st) (defScope st) .none kV doc pm an cdv ct ∧ T.K.lookup f = some ⟨oc, od, .func fd, osl⟩ ∧ PySem.W.codeIn T.K cdv x = true
  sc : FnScope N ps (defScope st)
  mg : T.mg a = some (.ref f)
  kp : PySem.W.keepIn T.K (.ref f) = true
  bn : Binds T.K fd ps []
structure DfQA (K : PySem.W.Frag) (a x : Str) (st : Stmt) (ps : List Str) (f : Addr) (fd : FuncData) : Prop where
  ex : ∃ (oc : Value) (od : Option Addr) (kV doc pm : Value) (an : Option Addr) (cdv ct : Value) (osl : Array (Option Value)),
    fd = PySem.W.fnOf x x (defArgs st) (defBody st) (defScope st) .none kV doc pm an cdv ct ∧ K.lookup f = some ⟨oc, od, .func fd, osl⟩ ∧ PySem.W.codeIn K cdv x = true
  ns : PySem.W.nsIn K mainGlobals a = some (some (.ref f))
  kp : PySem.W.keepIn K (.ref f) = true
  bn : ∀ us : List Value, us.length = ps.length → bindArgs fd ⟨us, []⟩ = pure (ps.zip us)
theorem DfQA.at {K : PySem.W.Frag} {a x : Str} {st : Stmt} {N ps : List Str} {f : Addr} {fd : FuncData} {P : Program} {w : World} {mg : Str → Option Value} {h bs : Heap} (q : DfQA K a x st ps f fd) (sc : FnScope N ps (defScope st)) (inK : K.In h) (G : h.Ns mainGlobals mg) :
    DfAtA (tbOf P w K mg bs) a x st N ps f fd := ⟨q.ex, sc, PySem.W.mg_of inK G q.ns, q.kp, Binds.all q.bn⟩
end Z
/-! ZZS: dicts of tuples with any values: {}, x.get(tuple, other). -/
namespace Z
open PySem PySem.Spec L2
open PyProof.Rows hiding St
section
variable {T : Tb} {W : WX} {X : Cx} {σ : St} {P H : Hp} {r : En} {pos p : Pos}
theorem de_dtn : PE X (.Dict [] [] pos) (tE T W fun r => .ok (.ow (.dtv [] [])) r) :=
  peImp pe_dnewT fun σ H Q ⟨P, r, rs, go⟩ => fun p n => go _ P _ (Aft.laidO rs n) ⟨p, rfl, rs.sub.free n, ⟨[], upd_same, rfl, .nil⟩, n⟩
end
section
variable {T : Tb} {W : WX} {C : Cf} {X : Cx} {k : Nat} {pos p ap cp : Pos} {o a b : PySem.Expr} {a' b' : E}
theorem e_dtn : DE T W C X (.Dict [] [] pos) .dtn := eqE de_dtn fun r => by simp only [ev]
end
/-! the evaluator's equations -/
section
open PySem (Str Operator CmpOp)
variable {C : Cf} {r : En} {i : Nat} {a b : E}
@[simp] theorem iv_dtn : isVar .dtn = none := rfl
@[simp] theorem qb_dtn {f : En → R Val} : bor .dtn f r = (f r).bind fun v r1 => .ok (.inr v.d) r1 := rfl
@[simp] theorem qr_dtn : retV C .dtn r = ev C .dtn r := rfl
@[simp] theorem q_dtn : ev C .dtn r = .ok (.ow (.dtv [] [])) r := by simp only [ev]
@[simp] theorem iv_dtg : isVar (.dtg i a b) = none := rfl
@[simp] theorem qb_dtg {f : En → R Val} : bor (.dtg i a b) f r = (f r).bind fun v r1 => .ok (.inr v.d) r1 := rfl
@[simp] theorem qr_dtg : retV C (.dtg i a b) r = ev C (.dtg i a b) r := rfl
@[simp] theorem q_dtg : ev C (.dtg i a b) r = match r[i]? with
    | some (.ow (.dtv _ _)) => (ev C a r).bind fun kv r1 => (ev C b r1).bind fun dv r2 => match r2[i]?, kv.d with
      | some (.ow (.dtv ks vs)), .tup l => (match keysD l with
        | some kk => .ok (.sh ((dtvGet ks vs kk).getD dv.d)) r2
        | none => .bad)
      | _, _ => .bad
    | _ => .bad := by simp only [ev] <;> rfl
end
end Z
set_option maxHeartbeats 2000000
/-! ZZT: errors of the program whose __init__ says super().__init__(value) and keeps value: the raw walk. -/
namespace Z
open PySem PySem.W PySem.Calls PyProof.Rows PySem.HandSPX
def xArgs (p1 p2 p3 : Pos) : Arguments := { posonlyargs := [], args := [{ arg := "self", annotation := none, pos := p1 }, { arg := "value", annotation := none, pos := p2 }], vararg := none, kwonlyargs := [], kw_defaults := [], kwarg := none, defaults := [.Constant .none 0 p3] }
def xBody (q1 q2 q3 q4 q5 q6 q7 q8 q9 q10 : Pos) : List Stmt :=
  [.Expr (.Call (.Attribute (.Call (.Name "super" q1) [] [] q2) "__init__" q3) [.Name "value" q4] [] q5) q6, .Assign [.Attribute (.Name "self" q7) "value" q8] (.Name "value" q9) q10]
def xScope : Scope := { kind := .function, names := [(PySem.Str.ofString "self", .local), (PySem.Str.ofString "value", .local), (PySem.Str.ofString "__class__", .free), (PySem.Str.ofString "super", .globalImplicit)], isGenerator := false, isCoroutine := false, more := [] }
/-- what the written part says of the class at C and of its __init__ at fI -/
structure XTxt (P : Program) (K : Frag) (C fI : Addr) : Prop where
  cls : ∃ nm q N bs bm sn sub ab col dd k0 k1 k2 k3 k5, K.lookup C = some (excClassObj nm q C N bs bm true sn sub ab col dd k0 k1 k2 k3 k5 "ValueError.__new__") ∧ refsVE bm = true
  sa : findIn K (.ref C) "__setattr__" = some (some (.builtin "object.__setattr__"))
  noN : findIn K (.ref C) "value" = some none
  iC : findIn K (.ref C) "__init__" = some (some (.ref fI))
  tC : typeIn K (.ref fI) = some (.type "function")
  kC : keepIn K (.ref C) = true
  exC : subIn K (.ref C) (.type "BaseException") = some true
  tyC : typeIn K (.ref C) = some (.type "type")
  te : exmOne K (.ref C) (.ref C) = some true
  sup : ks_superIn K C C "__init__" = some (some (.builtin "ValueError.__init__"))
  veC : subIn K (.ref C) (.type "ValueError") = some true
  opq : nsIn K cStatics "thirdparty.any" = some none
  self : mroIn K C (.ref C) = some true
  fn : ∃ (oc ccl cl : Value) (od cdd cld : Option Addr) (T0 : Addr) (o0 : Obj) (n0 : Nat) (doc pm : Value) (an : Option Addr) (cda cc : Addr) (ct : Value) (osl ccs csl : Array (Option Value)) (qual : Str) (vs : Array Value) (file : Str) (tf : Tok) (p1 p2 p3 q1 q2 q3 q4 q5 q6 q7 q8 q9 q10 : Pos),
    K.lookup fI = some ⟨oc, od, .func (ksFn "__init__" qual (xArgs p1 p2 p3) (xBody q1 q2 q3 q4 q5 q6 q7 q8 q9 q10) xScope (.ref T0) .none doc pm an (.ref cda) ct cc), osl⟩ ∧ K.lookup T0 = some o0 ∧ o0.data = .seq #[.none] n0 ∧ (q3.endLine == q5.line) = true ∧ codeIn K (.ref cda) qual = true ∧
      K.lookup cda = some ⟨ccl, cdd, .fields vs, ccs⟩ ∧ vs[2]? = some (.str file tf) ∧ ((P.main.file : Str) == file) = true ∧ K.lookup cc = some ⟨cl, cld, .cell (some (.ref C)), csl⟩
  top : (P.main.scope.names.lookup ("super" : Str)).isSome = false
end Z
namespace Z
open PySem PySem.Spec L2
open PyProof.Rows hiding St
end Z
/-! ZZU: errors: raise, defs that raise, their calls, try. -/
namespace Z
open PySem PySem.Spec L2
open PyProof.Rows hiding St
/-- a wish about the object of an error as one about its class and value -/
def WK (T : Tb) (Wl : L2.WX) : WX := fun c u σ H => ∀ dd, H dd = none → Wl (.ref (T.adr c)) (some dd) σ (upd H dd (.xd [(("value" : Str), u)]))
/-- an error of the program by its name and number -/
structure XAt (T : Tb) (x : Str) (c : Nat) : Prop where
  mg : T.mg x = some (.ref (T.adr c))
  ms : T.mg "super" = none
  ex : ∃ fI, XTxt T.P T.K (T.adr c) fI
section
variable {T : Tb} {Wl : L2.WX} {C : Cf} {X : Cx} {k : Nat} {pos p : Pos} {a : PySem.Expr} {a' : E} {x : Str}
theorem CB.tr {pn : List (Addr × Obj)} {xe : Value → Shared → Prop} (c : CB T k X) : CB T k (X.tr pn xe) := ⟨c.eP, c.ew, c.eK, c.emg, c.ebase, c.calm, c.room, c.grd, c.nd⟩
end
/-! ### what the top must have written of an error -/
def XQ (P : Program) (K : PySem.W.Frag) (x : Str) : Prop := ∃ C fI : Addr, PySem.W.nsIn K mainGlobals x = some (some (.ref C)) ∧ PySem.W.nsIn K mainGlobals "super" = some none ∧ XTxt P K C fI
theorem XQ.at {P : Program} {K : PySem.W.Frag} {x : Str} {w : World} {mg : Str → Option Value} {h bs : Heap} (q : XQ P K x) (c : Nat) (hx : exN c = x) (inK : K.In h) (G : h.Ns mainGlobals mg) : XAt (tbOf P w K mg bs) x c := by
  obtain ⟨C, fI, e1, e2, t⟩ := q
  have m := PySem.W.mg_of inK G e1
  have ea : adrOf mg c = C := by
    unfold adrOf
    rw [hx, m]
  exact ⟨by show mg x = some (.ref (adrOf mg c)); rw [ea]; exact m, PySem.W.mg_none_of inK G e2, fI, by show XTxt P K (adrOf mg c) fI; rw [ea]; exact t⟩
section
variable {C : Cf} {r : En}
@[simp] theorem q_callX {f : Nat} {es : List E} : ev C (.callX f es) r = (evA C es r).bind fun ys r1 => match C.modes f with | some ms => callRX ms (C.call f) ys r1 | none => .bad := by simp only [ev] <;> rfl
@[simp] theorem q_rse {c : Nat} {es : List E} : x1 C (.rse c es) r = (evs C es r).run fun ds r1 => match ds with | [d] => .exc c d r1 | [] => .exc c .non r1 | _ => .bad := by simp only [x1] <;> rfl
end
end Z
/-! ZZV: list(zip(.., ..)): the raw walk. -/
namespace Z
open PySem PySem.Spec
open PyProof.Rows hiding St
open Sem (wp)
/-- a zip whose tuple T is still out -/
abbrev ZipO (h : Heap) (z TI TO T : Addr) (f : Bool) : Prop :=
  h.get? z = some { cls := .type "zip", dict := none, data := .fields #[rawInt T, .bool f, .bool false, .ref TI, .ref TO], slots := #[] }
section
variable {prog : Program} {w : World} {A : Around} {E : Value → Shared → Prop} {s : Shared}
/-- a zip under way, i pairs drawn -/
structure ZlS (h : Heap) (z TI TO i1 i2 l1 l2 : Addr) (xs ys : Array Value) (S : Addr) (i : Nat) : Prop where
  ti : IsPair h TI (.ref i1) (.ref i2)
  h1 : h.IsListIter i1 l1 i
  h2 : h.IsListIter i2 l2 i
  l1 : h.IsList l1 xs
  l2 : h.IsList l2 ys
  z : (IsZip h z TI TO .none ∧ ∃ a b, IsPair h TO a b) ∨ ∃ T f oT, ZipO h z TI TO T f ∧ h.get? T = some oT ∧ T ≠ z ∧ T ≠ i1 ∧ T ≠ i2 ∧ T ≠ S
theorem ZlS.keep {h h' : Heap} {z TI TO i1 i2 l1 l2 S : Addr} {xs ys : Array Value} {i : Nat} (st : ZlS h z TI TO i1 i2 l1 l2 xs ys S i) (nS : S ∉ [z, TI, TO, i1, i2, l1, l2]) (hk : ∀ b o, b ≠ S → h.get? b = some o → h'.get? b = some o) : ZlS h' z TI TO i1 i2 l1 l2 xs ys S i := by
  simp only [List.mem_cons, List.not_mem_nil, or_false, not_or] at nS
  obtain ⟨dz, dTI, dTO, di1, di2, dl1, dl2⟩ := nS
  obtain ⟨hTI, h1, h2, hl1, hl2, hz⟩ := st
  refine ⟨hk _ _ (Ne.symm dTI) hTI, h1.at fun o e => hk _ o (Ne.symm di1) e, h2.at fun o e => hk _ o (Ne.symm di2) e, hl1.at fun o e => hk _ o (Ne.symm dl1) e, hl2.at fun o e => hk _ o (Ne.symm dl2) e, ?_⟩
  rcases hz with ⟨hz, a, b, hTO⟩ | ⟨T, f, oT, hz, hT, r1, r2, r3, r4⟩
  · exact .inl ⟨hk _ _ (Ne.symm dz) hz, a, b, hk _ _ (Ne.symm dTO) hTO⟩
  · exact .inr ⟨T, f, oT, hk _ _ (Ne.symm dz) hz, hk _ _ r4 hT, r1, r2, r3, r4⟩
/-- tuples made so far -/
structure ZlG (xs ys : Array Value) (lo : Addr) (h : Heap) (as : List Addr) : Prop where
  rise : as.Pairwise (· < ·)
  above : ∀ a ∈ as, lo < a
  pairs : ∀ (j : Nat) (a : Addr), as[j]? = some a → ∃ x y, xs[j]? = some x ∧ ys[j]? = some y ∧ IsPair h a x y
theorem ZlG.there {xs ys : Array Value} {lo : Addr} {h : Heap} {as : List Addr} (g : ZlG xs ys lo h as) {a : Addr} (ha : a ∈ as) : a < h.objs.size := by
  obtain ⟨j, hj⟩ := List.mem_iff_getElem?.mp ha
  obtain ⟨_, _, _, _, e⟩ := g.pairs j a hj
  exact Heap.lt_size e
end
end Z
/-! ZZW: list(zip(.., ..)): the rule. -/
namespace Z
open PySem PySem.Spec L2
open PyProof.Rows hiding St
theorem vals_at : ∀ {vs : List V} {us : List Value}, Vals vs us → ∀ (j : Nat) (u : Value), us[j]? = some u → ∃ v, vs[j]? = some v ∧ RelV v u
  | _, _, .nil, j, u, e => by simp at e
  | _, _, .cons r t, 0, u, e => by
    simp only [List.getElem?_cons_zero, Option.some.injEq] at e
    subst e
    exact ⟨_, rfl, r⟩
  | _, _, .cons r t, j + 1, u, e => vals_at t j u (by simpa using e)
/-! ### the small language -/
section
variable {C : Cf} {r : En}
@[simp] theorem q_lzp {es : List E} : ev C (.lzp es) r = (evs C es r).bind fun ds r1 => R.of (lzpF ds) r1 := by simp only [ev] <;> rfl
end
end Z
/-! ZZX: dicts of numbers: a place set, asked for, list(x.items()). -/
namespace Z
open PySem PySem.Spec L2
open PyProof.Rows hiding St
instance instLawfulKy : LawfulBEq Ky where
  rfl := by
    intro a
    cases a with
    | inl x => show (x == x) = true; simp
    | inr x => show (x == x) = true; simp
  eq_of_beq := by
    intro a b h
    cases a with
    | inl x => cases b with
      | inl y => have h : (x == y) = true := h; simp at h; rw [h]
      | inr y => cases h
    | inr x => cases b with
      | inl y => cases h
      | inr y => have h : (x == y) = true := h; simp at h; rw [h]
section
variable {C : Cf} {r : En}
@[simp] theorem q_kput {i : Nat} {a b : E} : x1 C (.kput i a b) r = (ev C b r).run fun v r1 => if (r1.own? i).isSome = true then (ev C a r1).run fun k r2 => O.of ((r2.own? i).bind fun o => (kputD o k.d v.d).bind fun d => r2.chg i d) else .bad := by simp only [x1]
@[simp] theorem q_dit {i : Nat} : ev C (.dit i) r = match r.rd i with
    | some (.dct ks vs) => if (r[i]?.any fun x => match x with | .ow _ => true | .io _ => true | _ => false) = true then .ok (.ow (.lst (kvD ks vs))) r else .bad
    | _ => .bad := by simp only [ev] <;> rfl
@[simp] theorem q_kin {i : Nat} {neg : Bool} {k : E} : ev C (.kin neg k i) r = (ev C k r).bind fun v r1 => match r1.rd i, v.d with
    | some (.dct ks _), .int n => .ok (.sh (.bl (xor neg (ks.contains (.inl n))))) r1
    | _, _ => .bad := by simp only [ev] <;> rfl
end
end Z
/-! ZZY: x //= e, x %= e. -/
namespace Z
open PySem PySem.Spec L2
open PyProof.Rows hiding St
section
variable {T : Tb} {W : WX} {C : Cf} {X : Cx} {k : Nat} {pos pos' : Pos} {x : Str} {a : PySem.Expr} {a' : E}
theorem CB.u1 (w : CB T k X) : X.A.units + 200 < cLine := by have := w.room.un; omega
end
end Z
/-! ZKM: min(xs, key=len) of a list of lists. -/
namespace Z
open PySem PySem.Spec L2
open PyProof.Rows hiding St
/-- which of two items is the shorter one -/
def shq (n : Nat → Nat) : Nat → Nat → Bool := fun i j => decide ((n i : Int) < (n j : Int))
theorem minLL_arg (ls : List (List D)) (n : Nat → Nat) (hn : ∀ i l, ls[i]? = some l → l.length = n i) : ∀ (r j : Nat) (b : List D), ls.length - (j + 1) = r → j < ls.length → ls[argBest (shq n) j]? = some b → ls[argBest (shq n) (ls.length - 1)]? = some (minLL (ls.drop (j + 1)) b)
  | 0, j, b, hr, hj, hb => by
    have e : j = ls.length - 1 := by omega
    rw [List.drop_eq_nil_of_le (by omega)]
    rw [← e]
    exact hb
  | r + 1, j, b, hr, hj, hb => by
    have hlt : j + 1 < ls.length := by omega
    have ex : ls[j + 1]? = some ls[j + 1] := List.getElem?_eq_getElem hlt
    have c1 := hn _ _ ex
    have c2 := hn _ _ hb
    rw [List.drop_eq_getElem_cons hlt]
    simp only [minLL]
    refine minLL_arg ls n hn r (j + 1) _ (by omega) hlt ?_
    by_cases h : n (j + 1) < n (argBest (shq n) j)
    · have eb : argBest (shq n) (j + 1) = j + 1 := by simp only [argBest]; exact if_pos (by simpa [shq] using h)
      rw [if_pos (by rw [c1, c2]; exact h), eb]
      exact ex
    · have eb : argBest (shq n) (j + 1) = argBest (shq n) j := by simp only [argBest]; exact if_neg (by simpa [shq] using h)
      rw [if_neg (by rw [c1, c2]; exact h), eb]
      exact hb
section
variable {prog : Program} {w : World} {A : Around} {E : Value → Shared → Prop} {s : Shared} {h₀ : Heap} {l I S : Addr} {vs : List Value} {n : Nat → Nat} {R : Result → Shared → Prop} {Q : Value → Shared → Prop}
/-- what was there is there -/
def Kp (h h' : Heap) : Prop := ∀ b o, h.get? b = some o → h'.get? b = some o
theorem Kp.ne {h h' : Heap} {a b : Addr} {o : Obj} (hn : h.get? a = none) (e : h.get? b = some o) : b ≠ a := fun z => by
  rw [z, hn] at e
  cases e
theorem Kp.put {h h' : Heap} {a : Addr} (k : Kp h h') (hn : h.get? a = none) (f : Obj → Obj) : Kp h (h'.update a f) := fun b o e => (Heap.get?_update_ne _ _ _ _ (Kp.ne (h' := h') hn e)).trans (k b o e)
theorem Kp.walk {h h' h2 : Heap} {a : Addr} (k : Kp h h') (hn : h.get? a = none) (hk : ∀ b o, b ∉ [a] → h'.get? b = some o → h2.get? b = some o) : Kp h h2 := fun b o e =>
  hk b o (fun q => Kp.ne (h' := h') hn e (List.mem_singleton.mp q)) (k b o e)
/-- an item of the list is a list of so many things -/
def ItL (h : Heap) (vs : List Value) (n : Nat → Nat) : Prop := ∀ i v, vs[i]? = some v → ∃ (a : Addr) (its : Array Value), v = .ref a ∧ h.IsList a its ∧ its.size = n i ∧ (its.size : Int) < 2 ^ 63
theorem len_of (hi : ItL h₀ vs n) {h : Heap} (k : Kp h₀ h) {i : Nat} {v : Value} {tk : Nat} {G : Value → Shared → Prop} (hv : vs[i]? = some v) (g : ∀ t tk', G (.int (n i) t) { s with heap := h, toks := tk' }) :
    wpAny (model prog w) A (call (.builtin "len") [v]) G E { s with heap := h, toks := tk } := by
  obtain ⟨a, its, rfl, h1, h2, h3⟩ := hi i v hv
  refine Calls.call_len_list (h1.at fun o e => k _ o e) h3 ?_
  rw [h2]
  exact g _ _
theorem ml_loop (hh : A.handled = none) (hl : h₀.IsList l vs.toArray) (hi : ItL h₀ vs n) (hS : h₀.get? S = none) (hI : h₀.get? I = none) (hIS : S ≠ I)
    (hR : ∀ v h' tk, vs[argBest (shq n) (vs.length - 1)]? = some v → Kp h₀ h' → R (.ok (.ret v)) { s with heap := h', toks := tk }) :
    ∀ (r j : Nat) (h : Heap) (tk : Nat) (vb : Value) (tb : Tok) (c : Nat), vs.length - (j + 1) = r → j + 1 ≤ vs.length → Kp h₀ h → h.get? S = some (seqObj "list" #[vb, .int (n (argBest (shq n) j)) tb] c) → h.IsListIter I l (j + 1) → vs[argBest (shq n) j]? = some vb →
      codeAny (model prog w) A (.builtin "min.loop" ⟨[.ref I, .builtin "len", .ref S], []⟩) R { s with heap := h, toks := tk } := by
  have nm : (toString "min" ++ toString ".loop" : String) = "min.loop" := by decide
  have hlI : l ≠ I := by
    obtain ⟨o, e, _⟩ := id hl
    exact Kp.ne (h' := h₀) hI e
  have W := Walks.list (prog := prog) (w := w) (A := A.in1) hh I l hlI vs.toArray
  have sz : vs.toArray.size = vs.length := by simp
  intro r
  induction r with
  | zero =>
    intro j h tk vb tb c hr hj k oS hit hb
    have last : j = vs.length - 1 := by omega
    refine codeAny_builtin PySem.F.entry_min_loop ?_
    rw [Around.under_plainId PySem.F.plain_min_loop _]
    refine wpAny_bind (wpAny_seqItems oS rfl ?_)
    refine wpAny_bind (wpAny_tryCatch (W.done _ _ _ ⟨by rw [sz, show vs.length = j + 1 by omega]; exact hit, hl.at fun o e => k _ o e⟩ fun h1 tk1 k1 => ?_))
    have oS1 := k1 S _ (by simpa using hIS) oS
    refine wpAny_bind ?_
    refine wpAny_updateSeq oS1 rfl ?_
    refine wpAny_bind (wpAny_letGo (wpAny_pure ?_))
    exact hR vb _ _ (by rw [← last]; exact hb) ((k.walk hI k1).put hS _)
  | succ r ih =>
    intro j h tk vb tb c hr hj k oS hit hb
    have lt : j + 1 < vs.length := by omega
    refine codeAny_builtin PySem.F.entry_min_loop ?_
    rw [Around.under_plainId PySem.F.plain_min_loop _]
    refine wpAny_bind (wpAny_seqItems oS rfl ?_)
    refine wpAny_bind (wpAny_tryCatch (W.item (j + 1) _ _ _ (by rw [sz]; exact lt) ⟨hit, hl.at fun o e => k _ o e⟩ fun v h1 tk1 hv st k1 => ?_))
    replace hv : vs[j + 1]? = some v := by simpa using hv
    have oS1 := k1 S _ (by simpa using hIS) oS
    have K1 := k.walk hI k1
    refine wpAny_bind (wpAny_tryCatch (wpAny_holding (len_of hi K1 hv fun t tk2 => ?_)))
    show wpAny _ A.in1 (tryCatch (holding [v, .int (n (j + 1)) t] (richCompare .Lt (.int (n (j + 1)) t) (.int (n (argBest (shq n) j)) tb) >>= _)) _ >>= _) _ _ _
    refine wpAny_bind (wpAny_tryCatch (wpAny_holding (wpAny_bind (CmpOf.ints_lt (prog := prog) (w := w) (A := A.in1) (P := fun i v => ∃ t, v = .int (n i) t) (fun i => (n i : Int)) (fun i v h => h) (j + 1) (argBest (shq n) j) _ _ _ _ _ ⟨t, rfl⟩ ⟨tb, rfl⟩ ?_))))
    refine wpAny_bind (wpAny_holding (wpAny_truthy_bool (wpAny_bind (wpAny_letGo (wpAny_pure ?_)))))
    by_cases q : (n (j + 1) : Int) < (n (argBest (shq n) j) : Int)
    · have eb : argBest (shq n) (j + 1) = j + 1 := by simp only [argBest]; exact if_pos (by simpa [shq] using q)
      simp only [q, decide_true, if_true]
      refine wpAny_bind ?_
      refine wpAny_updateSeq oS1 rfl ?_
      refine wpAny_bind (wpAny_letGo ?_)
      rw [nm]
      obtain ⟨c2, oS2⟩ : ∃ c2, (h1.update S (Obj.mapSeq fun _ => #[v, .int (n (j + 1)) t])).get? S = some (seqObj "list" #[v, .int (n (j + 1)) t] c2) := ⟨_, get?_update_seq oS1 fun _ => #[v, .int (n (j + 1)) t]⟩
      exact wpAny_pure ⟨plainId_quiet PySem.F.plain_min_loop _, ih (j + 1) _ _ v t c2 (by omega) lt (K1.put hS _) (by rw [eb]; exact oS2) (st.1.at fun o e => (Heap.get?_update_ne _ _ _ _ (Ne.symm hIS)).trans e) (by rw [eb]; exact hv)⟩
    · have eb : argBest (shq n) (j + 1) = argBest (shq n) j := by simp only [argBest]; exact if_neg (by simpa [shq] using q)
      simp only [q, decide_false, Bool.false_eq_true, if_false]
      refine wpAny_bind (wpAny_letGo ?_)
      rw [nm]
      exact wpAny_pure ⟨plainId_quiet PySem.F.plain_min_loop _, ih (j + 1) _ _ vb tb c (by omega) lt K1 (by rw [eb]; exact oS1) st.1 (by rw [eb]; exact hb)⟩
theorem min_len (hh : A.handled = none) (hl : s.heap.IsList l vs.toArray) (hi : ItL s.heap vs n) (ne : 0 < vs.length)
    (hQ : ∀ v h' tk, vs[argBest (shq n) (vs.length - 1)]? = some v → Kp s.heap h' → Q v { s with heap := h', toks := tk }) :
    wpAny (model prog w) A (call (.builtin "min") [.ref l] [(Str.ofString "key", .builtin "len")]) Q E s := by
  have nm : (toString "min" ++ toString ".loop" : String) = "min.loop" := by decide
  refine kmb_tree PySem.F.kind_min PySem.F.plain_min PySem.F.entry_min (kmb_min_key _ _) ?_
  refine wpAny_bind (wpAny_of_eq (show Builtin.Builtins.bindParams "min" ["key", "default"] 0 ⟨[], [(Str.ofString "key", .builtin "len")]⟩ = pure [some (.builtin "len"), none] from rfl) ?_)
  refine wpAny_bind (wpAny_pure (wpAny_bind (wpAny_pyIter_list hl (wpAny_bind (wpAny_newList ?_ (Nat.zero_le _))))))
  rw [nm]
  generalize hHI : s.heap.push { cls := .type "list_iterator", data := .fields #[.ref l, .int 0 0] } = HI
  have kI : Kp s.heap HI := fun b o e => by rw [← hHI]; exact Heap.get?_push_of_some _ e
  have szI : HI.objs.size = s.heap.objs.size + 1 := by rw [← hHI]; exact size_push' ..
  have kS : Kp s.heap (HI.push (seqObj "list" #[] 0)) := fun b o e => Heap.get?_push_of_some _ (kI b o e)
  have nI : s.heap.get? s.heap.objs.size = none := Heap.get?_none_of_le (Nat.le_refl _)
  have nS : s.heap.get? HI.objs.size = none := Heap.get?_none_of_le (by rw [szI]; exact Nat.le_succ _)
  have IS : HI.objs.size ≠ s.heap.objs.size := by rw [szI]; exact Nat.succ_ne_self _
  have oI : (HI.push (seqObj "list" #[] 0)).IsListIter s.heap.objs.size l 0 := ⟨_, Heap.get?_push_of_some _ (by rw [← hHI]; exact Heap.get?_push_size _ rfl), rfl, rfl⟩
  have oS : (HI.push (seqObj "list" #[] 0)).get? HI.objs.size = some (seqObj "list" #[] 0) := Heap.get?_push_size _ rfl
  have hlI : l ≠ s.heap.objs.size := by
    obtain ⟨o, e, _⟩ := id hl
    exact Kp.ne (h' := s.heap) nI e
  have W := Walks.list (prog := prog) (w := w) (A := A.in1) hh s.heap.objs.size l hlI vs.toArray
  refine wpAny_pure ⟨plainId_quiet PySem.F.plain_min_loop _, codeAny_builtin PySem.F.entry_min_loop ?_⟩
  rw [Around.under_plainId PySem.F.plain_min_loop _]
  refine wpAny_bind (wpAny_seqItems oS rfl ?_)
  refine wpAny_bind (wpAny_tryCatch (W.item 0 _ _ _ (by simpa using ne) ⟨oI, hl.at fun o e => kS _ o e⟩ fun v h1 tk1 hv st k1 => ?_))
  replace hv : vs[0]? = some v := by simpa using hv
  have oS1 := k1 _ _ (by simpa using IS) oS
  have K1 := kS.walk nI k1
  refine wpAny_bind (wpAny_tryCatch (wpAny_holding (len_of hi K1 hv fun t tk2 => ?_)))
  refine wpAny_bind ?_
  refine wpAny_updateSeq oS1 rfl ?_
  rw [nm]
  obtain ⟨c2, oS2⟩ : ∃ c2, (h1.update HI.objs.size (Obj.mapSeq fun _ => #[v, .int (n 0) t])).get? HI.objs.size = some (seqObj "list" #[v, .int (n 0) t] c2) := ⟨_, get?_update_seq oS1 fun _ => #[v, .int (n 0) t]⟩
  exact wpAny_pure ⟨plainId_quiet PySem.F.plain_min_loop _, ml_loop hh hl hi nS nI IS hQ _ 0 _ _ v t c2 rfl ne (K1.put nS _) oS2 (st.1.at fun o e => (Heap.get?_update_ne _ _ _ _ (Ne.symm IS)).trans e) hv⟩
end
section
variable {X : Cx} {T : Tb} {W : WX} {C : Cf} {k : Nat} {p p2 pos kpos : Pos} {a : PySem.Expr} {es : List PySem.Expr} {es' : List E}
theorem llD_spec : ∀ {l : List D} {ls : List (List D)}, llD l = some ls → l = ls.map D.lst
  | [], _, e => by cases e; rfl
  | d :: l, ls, e => by
    cases d <;> simp only [llD] at e <;> first | (cases e; done) | skip
    rename_i x
    cases c : llD l with
    | none => rw [c] at e; cases e
    | some r =>
      rw [c] at e
      cases e
      rw [llD_spec c]
      rfl
theorem call_minl (hK : X.K = T.K) (hc : X.calm = true) {pins : List (Addr × Obj)} {s : Shared} {σ0 : St} {H : Hp} {xs : List V} {us : List Value} {Q : VK} (I : Inv X pins σ0 H s) (r0 : Vals xs us) (h : rDn T W (biD .minl) xs H Q) :
    wpAny (model X.prog X.w) X.A (call (.builtin "min") us [(Str.ofString "key", .builtin "len")]) (EP X pins σ0 Q) X.xe s := by
  obtain ⟨as, w, σ, P, r, rs, ha, e, q⟩ := h
  replace e : minlF as = some w := e
  unfold minlF at e
  split at e
  · rename_i l
    obtain ⟨u, t, rfl, h1, h2⟩ := ra1 ha
    obtain rfl := ra0 h2
    cases c : llD l with
    | none => rw [c] at e; cases e
    | some ls =>
      rw [c] at e
      cases ls with
      | nil => cases e
      | cons b ls =>
        cases e
        have el := llD_spec c
        obtain ⟨p, ys, rfl, hp, hr⟩ := h1.lst rs
        obtain ⟨its, rv, hl, _⟩ := I.list (.inl (.inl hp))
        rw [Vals.ref1 r0]
        have len1 := hr.length
        have len2 := rv.length
        have len3 : l.length = (b :: ls).length := by rw [el, List.length_map]
        have it : ItL s.heap its fun i => ((b :: ls)[i]?.map List.length).getD 0 := by
          intro i v hv
          obtain ⟨x, e1, e2⟩ := vals_at rv i v hv
          have hi : i < (b :: ls).length := by
            have := (List.getElem?_eq_some_iff.mp hv).1
            omega
          have e3 : (b :: ls)[i]? = some (b :: ls)[i] := List.getElem?_eq_getElem hi
          have e4 : l[i]? = some (.lst (b :: ls)[i]) := by rw [el, List.getElem?_map, e3]; rfl
          obtain ⟨x', f1, f2⟩ := hr.get e4
          obtain rfl : x' = x := Option.some.inj (f1.symm.trans e1)
          simp only [Rep] at f2
          obtain ⟨a, zs, rfl, g1, g2⟩ := f2
          obtain ⟨its2, rv2, hl2, hz2⟩ := I.list (.inl (.inl (rs.sub _ _ g1)))
          cases e2
          have n1 := g2.length
          have n2 := rv2.length
          refine ⟨a, its2.toArray, rfl, hl2.isList, by show its2.toArray.size = ((b :: ls)[i]?.map List.length).getD 0; rw [e3]; simp; omega, ?_⟩
          rw [List.size_toArray]
          rw [sizeLine_eq] at hz2
          omega
        refine min_len (I.ok.hd hc) hl.isList it (by simp at len3; omega) fun v h' tk hv kp => ?_
        obtain ⟨x, e1, e2⟩ := vals_at rv _ v hv
        refine ⟨x, H, I.kept kp, e2, q.here rs ?_⟩
        have g := minLL_arg (b :: ls) (fun i => ((b :: ls)[i]?.map List.length).getD 0) (fun i m e => by rw [e]; rfl) _ 0 b rfl (by simp) rfl
        have e4 : l[argBest (shq fun i => ((b :: ls)[i]?.map List.length).getD 0) (its.length - 1)]? = some (.lst (minLL ls b)) := by
          rw [show its.length = (b :: ls).length by omega, el, List.getElem?_map, g]
          rfl
        obtain ⟨x', f1, f2⟩ := hr.get e4
        obtain rfl : x' = x := Option.some.inj (f1.symm.trans e1)
        exact f2
  · cases e
/-- min(xs, key=len) -/
theorem pe_minl {t : TA} (hK : X.K = T.K) (hc : X.calm = true) (hg : Gl X "min") (hm : X.mg "min" = none) (hg2 : Gl X "len") (hm2 : X.mg "len" = none) (hv : bootBuiltins "min" = some (.builtin "min")) (hv2 : bootBuiltins "len" = some (.builtin "len")) (ha : PA X (a :: es) t)
    (hs : notStar a = true) (hss : es.all notStar = true) : PE X (.Call (.Name "min" p) (a :: es) [⟨some (Str.ofString "key"), .Name "len" p2, kpos⟩] pos) (tCB (rDn T W (biD .minl)) t) := by
  refine ⟨fun pins s σ H Q I h => ?_⟩
  refine wpAny_Call_Name_kw (ld_blt I hg hm hv ?_)
  refine PyProof.Rows.callWith_kw (thn (ha.run pos pins s σ H _ I h) fun us s1 ⟨vs, H1, I1, r1, q1⟩ => ?_) ?_ ?_
  · refine wpAny_evalAll_cons (wpAny_bind (ld_blt I1 hg2 hm2 hv2 (wpAny_bind (wpAny_standAt (wpAny_pure (wpAny_evalAll_nil ?_))))))
    exact call_minl hK hc I1 r1 q1
  · rw [star_one hs es X.env]
    rfl
  · rw [star_one hs es X.env]
    exact star_all hss X.env pos
theorem e_minl (w : CB T k X) (hm : X.mg "min" = none) (hm2 : X.mg "len" = none) (hv : bootBuiltins "min" = some (.builtin "min")) (hv2 : bootBuiltins "len" = some (.builtin "len")) (ha : DA T W C X (a :: es) es') (hg : Gl X "min" := by rfl) (hg2 : Gl X "len" := by rfl) (hs : notStar a = true := by rfl) (hss : es.all notStar = true := by rfl) :
    DE T W C X (.Call (.Name "min" p) (a :: es) [⟨some (Str.ofString "key"), .Name "len" p2, kpos⟩] pos) (.bi .minl es') := eqE (de_opn (pe_minl w.eK w.calm hg hm hg2 hm2 hv hv2 ha hs hss)) fun r => by simp only [ev] <;> rfl
end
end Z
/-! ZDF: defs whose last parameters have defaults. -/
namespace Z
open PySem PySem.Spec L2
open PyProof.Rows hiding St
/-- a def with defaults dvs as it stands in the written part; n values may be written -/
structure DfAtD (T : Tb) (x : Str) (st : Stmt) (N ps : List Str) (dvs : List V) (f : Addr) (fd : FuncData) : Prop where
  ex : ∃ (oc : Value) (od : Option Addr) (dV kV doc pm : Value) (an : Option Addr) (cdv ct : Value) (osl : Array (Option Value)),
    fd = PySem.W.fnOf x x (defArgs st) (defBody st) (defScope st) dV kV doc pm an cdv ct ∧ T.K.lookup f = some ⟨oc, od, .func fd, osl⟩ ∧ PySem.W.codeIn T.K cdv x = true
  sc : FnScope N ps (defScope st)
  mg : T.mg x = some (.ref f)
  kp : PySem.W.keepIn T.K (.ref f) = true
  bn : Binds T.K fd ps []
  bd : ∃ ds, Vals dvs ds ∧ Binds T.K fd ps ds
/-- a name that may be called with the defaults left out -/
def CalD (T : Tb) (k : Nat) (x : Str) (ms : List Bool) (dvs : List V) (c : List D → CR) : Prop :=
  ∃ (f : Addr) (fd : FuncData) (ps : List Str) (ds : List Value), T.mg x = some (.ref f) ∧ PySem.W.keepIn T.K (.ref f) = true ∧ Vals dvs ds ∧ Binds T.K fd ps ds ∧ FnG T k f fd ps (spD T ms c)
section
variable {T : Tb} {Pg : Nat → Option Df} {fuel k i : Nat} {ms : List Bool} {df : Df} {x : Str} {st : Stmt} {N ps : List Str} {dvs : List V} {f : Addr} {fd : FuncData}
theorem fng_zero {c : Nat} : FnG T 0 f fd ps (spD T ms (callD Pg fuel 0 c)) := ⟨fun vs H Q E q => by
  obtain ⟨P, ds, _, _, z⟩ := q
  exact z.elim, fun A outer s H args us vs Q E _ _ _ _ _ q => by
  obtain ⟨P, ds, _, _, z⟩ := q
  exact z.elim⟩
theorem fng_stepD (h : DfAtD T x st N ps dvs f fd) (hp : Pg i = some df) (hn : df.names = N.length) (hm : df.modes.length = ps.length)
    (hb : ∀ (f : Addr) (cdv : Value) (A : Around) (outer : List PySem.Env) (s : Shared) (H : Hp) (E : XK), CB T k (asDef T N x (defScope st) f cdv A outer s H E) → DSs T WF (Cq Pg fuel k) (asDef T N x (defScope st) f cdv A outer s H E) (defBody st) df.body) :
    FnG T (k + 1) f fd ps (spD T df.modes (callD Pg fuel (k + 1) i)) := by
  obtain ⟨oc, od, dV, kV, doc, pm, an, cdv, ct, osl, rfl, lk, hcd⟩ := h.ex
  exact fn_def lk hcd h.sc hp hn hm fun cdv A outer s H E w => hb f cdv A outer s H E w
theorem calT_zero (h : DfAtD T x st N ps dvs f fd) : Cal T 0 x ms (callD Pg fuel 0 i) := ⟨f, fd, ps, h.mg, h.kp, h.bn, fng_zero⟩
theorem calT_step (h : DfAtD T x st N ps dvs f fd) (hp : Pg i = some df) (hn : df.names = N.length) (hm : df.modes.length = ps.length)
    (hb : ∀ (f : Addr) (cdv : Value) (A : Around) (outer : List PySem.Env) (s : Shared) (H : Hp) (E : XK), CB T k (asDef T N x (defScope st) f cdv A outer s H E) → DSs T WF (Cq Pg fuel k) (asDef T N x (defScope st) f cdv A outer s H E) (defBody st) df.body) :
    Cal T (k + 1) x df.modes (callD Pg fuel (k + 1) i) := ⟨f, fd, ps, h.mg, h.kp, h.bn, fng_stepD h hp hn hm hb⟩
theorem calD_zero (h : DfAtD T x st N ps dvs f fd) : CalD T 0 x ms dvs (callD Pg fuel 0 i) :=
  let ⟨ds, v, b⟩ := h.bd
  ⟨f, fd, ps, ds, h.mg, h.kp, v, b, fng_zero⟩
theorem calD_step (h : DfAtD T x st N ps dvs f fd) (hp : Pg i = some df) (hn : df.names = N.length) (hm : df.modes.length = ps.length)
    (hb : ∀ (f : Addr) (cdv : Value) (A : Around) (outer : List PySem.Env) (s : Shared) (H : Hp) (E : XK), CB T k (asDef T N x (defScope st) f cdv A outer s H E) → DSs T WF (Cq Pg fuel k) (asDef T N x (defScope st) f cdv A outer s H E) (defBody st) df.body) :
    CalD T (k + 1) x df.modes dvs (callD Pg fuel (k + 1) i) :=
  let ⟨ds, v, b⟩ := h.bd
  ⟨f, fd, ps, ds, h.mg, h.kp, v, b, fng_stepD h hp hn hm hb⟩
end
section
variable {T : Tb} {W : WX} {C : Cf} {X : Cx} {k : Nat} {pos p : Pos} {a : PySem.Expr} {x : Str}
/-- f(..), the defaults left out -/
theorem e_fnD {g : Nat} {ms : List Bool} {dvs : List V} {dfl : List D} {es : List PySem.Expr} {es' : List E} (w : CB T k X) (h : CalD T k x ms dvs (C.call g)) (hms : C.modes g = some ms) (hr : ∀ P, Reps T P dfl dvs) (ha : DA T W C X (a :: es) es') (hg : Gl X x := by rfl) (hs : notStar a = true := by rfl) (hss : es.all notStar = true := by rfl) (hdb : (x == ("__debug__" : Str)) = false := by decide) :
    DE T W C X (.Call (.Name x p) (a :: es) [] pos) (.call g es' [] dfl) := by
  obtain ⟨f, fd, ps, ds, h1, h2, h3, h4, h5⟩ := h
  exact e_def w hms h5 h1 h2 h4 h3 hr ha hg hs hss hdb
theorem reps_int (T : Tb) (P : Hp) (i : Int) : Reps T P [.int i] [.int i] := ⟨.int i, [], rfl, by simp only [Rep], rfl⟩
end
/-- such a def by what the top wrote; one default, a number -/
structure DfQD (K : PySem.W.Frag) (x : Str) (st : Stmt) (ps : List Str) (dvs : List V) (f : Addr) (fd : FuncData) : Prop where
  ex : ∃ (oc : Value) (od : Option Addr) (dV kV doc pm : Value) (an : Option Addr) (cdv ct : Value) (osl : Array (Option Value)),
    fd = PySem.W.fnOf x x (defArgs st) (defBody st) (defScope st) dV kV doc pm an cdv ct ∧ K.lookup f = some ⟨oc, od, .func fd, osl⟩ ∧ PySem.W.codeIn K cdv x = true
  ns : PySem.W.nsIn K mainGlobals x = some (some (.ref f))
  kp : PySem.W.keepIn K (.ref f) = true
  bn : Binds K fd ps []
  bd : ∃ ds, Vals dvs ds ∧ Binds K fd ps ds
theorem DfQD.at {K : PySem.W.Frag} {x : Str} {st : Stmt} {N ps : List Str} {dvs : List V} {f : Addr} {fd : FuncData} {P : Program} {w : World} {mg : Str → Option Value} {h bs : Heap} (q : DfQD K x st ps dvs f fd) (sc : FnScope N ps (defScope st)) (inK : K.In h) (G : h.Ns mainGlobals mg) :
    DfAtD (tbOf P w K mg bs) x st N ps dvs f fd := ⟨q.ex, sc, PySem.W.mg_of inK G q.ns, q.kp, q.bn, q.bd⟩
/-- how n written values and the defaults behind the first j bind -/
abbrev BD (x : Str) (st : Stmt) (ps : List Str) (n j : Nat) : Prop := ∀ (T : Addr) (kV doc pm : Value) (an : Option Addr) (cdv ct : Value) (us its : List Value), us.length = n → its.length = 1 →
  ∃ k, bindArgs (PySem.W.fnOf x x (defArgs st) (defBody st) (defScope st) (.ref T) kV doc pm an cdv ct) ⟨us, []⟩ = seqItems? (.ref T) >>= k ∧ k (some its.toArray) = pure (ps.zip (us ++ its.drop j))
theorem dfq_mkD {K : PySem.W.Frag} {x : Str} {st : Stmt} {ps : List Str} {n : Nat} {f T0 : Addr} {oc kV doc pm cdv ct oc0 : Value} {od an od0 : Option Addr} {osl osl0 : Array (Option Value)} {i : Int} {t : Tok} {n0 : Nat}
    (b1 : BD x st ps n 0) (b2 : BD x st ps (n + 1) 1) (hn : n + 1 = ps.length)
    (a : PySem.W.nsIn K mainGlobals x = some (some (.ref f))) (l : K.lookup f = some ⟨oc, od, .func (PySem.W.fnOf x x (defArgs st) (defBody st) (defScope st) (.ref T0) kV doc pm an cdv ct), osl⟩) (lT : K.lookup T0 = some ⟨oc0, od0, .seq #[.int i t] n0, osl0⟩)
    (c : PySem.W.codeIn K cdv x = true) (k : PySem.W.keepIn K (.ref f) = true) :
    ∃ fd, DfQD K x st ps [.int i] f fd := by
  have F : FunD K x x (defArgs st) (defBody st) (defScope st) [.int i] [] f (PySem.W.fnOf x x (defArgs st) (defBody st) (defScope st) (.ref T0) kV doc pm an cdv ct) :=
    ⟨⟨oc, od, .ref T0, kV, doc, pm, an, cdv, ct, osl, rfl, l, c, .inr ⟨by simp, T0, _, [.int i t], n0, rfl, lT, rfl, .cons ⟨t, rfl⟩ .nil⟩, .inl rfl⟩, k⟩
  obtain ⟨d1, v1, q1⟩ := F.binds1 n 0 (by simp) (by simpa using hn) b1
  obtain ⟨d2, v2, q2⟩ := F.binds1 (n + 1) 1 (by simp) (by simpa using hn) b2
  cases v2
  exact ⟨_, ⟨oc, od, .ref T0, kV, doc, pm, an, cdv, ct, osl, rfl, l, c⟩, a, k, q2, ⟨d1, v1, q1⟩⟩
end Z
/-! ZKP: names that an expression only looks at stay one's own, also lists of tuples. -/
namespace Z
open PySem PySem.Spec L2
open PyProof.Rows hiding St
end Z
/-! ZKD: a dict of tuples with any values handed over to be changed: tuple in x, x[tuple], f(.., {}). -/
namespace Z
open PySem PySem.Spec L2
open PyProof.Rows hiding St
section
variable {T : Tb} {W : WX} {X : Cx} {σ : St} {P H : Hp} {r : En} {pos p : Pos}
theorem any_valV (k : List L2.Key) : ∀ kvs : List (List L2.Key × V), (valV kvs k).isSome = (kvs.map (·.1)).any fun x => decide (x = k)
  | [] => rfl
  | q :: kvs => by
    have ih := any_valV k kvs
    rw [List.map_cons, List.any_cons, ← ih]
    by_cases c : q.1 = k
    · rw [valV_pos c, decide_eq_true c]; rfl
    · rw [valV_neg c, decide_eq_false c]; rfl
theorem dtv_get : ∀ {vs : List D} {kvs : List (List L2.Key × V)} {ks : List (List Ky)} {kk : List Ky} {d : D}, kvs.map (·.1) = ks → Reps T P vs (kvs.map (·.2)) → dtvGet ks vs kk = some d → ∃ u, valV kvs kk = some u ∧ Rep T P d u
  | [], kvs, ks, kk, d, e, h, g => by
    have : kvs = [] := List.map_eq_nil_iff.mp h.of_nil
    subst this
    subst e
    cases g
  | x :: vs, [], ks, kk, d, e, h, g => by
    obtain ⟨_, _, z, _⟩ := h.of_cons
    cases z
  | x :: vs, q :: kvs, ks, kk, d, e, h, g => by
    subst e
    obtain ⟨w, t, z, h1, h2⟩ := h.of_cons
    rw [List.map_cons] at z
    cases z
    simp only [List.map_cons, dtvGet] at g
    by_cases c : q.1 = kk
    · rw [if_pos c] at g
      cases g
      exact ⟨_, valV_pos c, h1⟩
    · rw [if_neg c] at g
      obtain ⟨u, u1, u2⟩ := dtv_get (ks := kvs.map (·.1)) rfl h2 g
      exact ⟨u, by rw [valV_neg c, u1], u2⟩
theorem tup_at {P1 : Hp} {v : Val} {y : V} {l : List D} {H0 H1 : Hp} (q : relV T H0 P1 H1 v y) (c : v.d = .tup l) : Rep T P1 (.tup l) y := by
  cases v with
  | sh d =>
    rw [← (show d = .tup l from c)]
    exact q
  | ow d =>
    obtain ⟨_, _, _, ro, _⟩ := q
    rw [show d = .tup l from c] at ro
    exact ro.elim
theorem dt_dvni {i : Nat} {a o : PySem.Expr} {f : En → R Val} (hu : X.A.units + 1 < cLine) (ho : PE X o (tVar i)) (ha : PE X a (tE T W f)) (hm : behindInMarks .NotIn o = false) :
    PT X (.Compare a [.NotIn] [o] pos) (tK T W fun r => (f r).bind fun v r1 => match r1.own? i, v.d with
      | some (.dtv ks _), .tup l => (match keysD l with
        | some kk => .ok (xor true (ks.any fun x => decide (x = kk))) r1
        | none => .bad)
      | _, _ => .bad) :=
  ptImp (pt_cmp (pc_dnotin hu ha ho) hm) fun σ H Q ⟨P, r, rs, go⟩ => ⟨P, r, rs, (Go.bind anti_K go).mono fun y H1 ⟨P1, r1, v, a1, q1, e1, go1⟩ => by
    split at go1
    · rename_i ks vs l c1 c2
      split at go1
      · rename_i kk c3
        obtain ⟨b, e1, e2, kvs, hk, hks, hds⟩ := own_at a1.rs c1
        have q2 := tup_at q1 c2
        simp only [Rep] at q2
        obtain ⟨t, xs, rfl, ht, rx⟩ := q2
        rw [keys_rep c3 rx] at ht
        refine ⟨_, e1, b, _, rfl, DGet.t hk (a1.rs.sub _ _ ht), _, rfl, ?_⟩
        rw [any_valV, hks]
        have := go1 _ P1 H1 (.refl a1.rs) rfl
        simpa using this
      · exact go1.elim
    · exact go1.elim⟩
theorem de_dvg {i : Nat} {a b : PySem.Expr} {f : En → R Val} (hu : X.A.units + 1 < cLine) (ho : PE X a (tVar i)) (hb : PE X b (tE T W f)) (hs : NoSl b) :
    PE X (.Subscript a b pos) (tE T W fun r => if (r.own? i).isSome = true then (f r).bind fun v r1 => match r1.own? i, v.d with
      | some (.dtv ks vs), .tup l => (match keysD l with
        | some kk => R.of ((dtvGet ks vs kk).map .sh) r1
        | none => .bad)
      | _, _ => .bad else .bad) :=
  peImp (pe_dget hu ho hb hs) fun σ H Q ⟨P, r, rs, go⟩ => by
    dsimp only at go
    by_cases hsome : (r.own? i).isSome = true
    rotate_left
    · rw [if_neg hsome] at go; exact go.elim
    rw [if_pos hsome] at go
    obtain ⟨d0, hd0⟩ := Option.isSome_iff_exists.mp hsome
    obtain ⟨a0, ea0, _, _⟩ := own_at rs hd0
    refine ⟨_, ea0, P, r, rs, (Go.bind (anti_V T) go).mono fun y H1 ⟨P1, r1, v, a1, q1, e1, go1⟩ => ?_⟩
    split at go1
    · rename_i ks vs l c1 c2
      split at go1
      · rename_i kk c3
        obtain ⟨b, e1, e2, kvs, hk, hks, hds⟩ := own_at a1.rs c1
        rw [ea0] at e1
        cases e1
        have q2 := tup_at q1 c2
        simp only [Rep] at q2
        obtain ⟨t, xs, rfl, ht, rx⟩ := q2
        rw [keys_rep c3 rx] at ht
        cases c4 : dtvGet ks vs kk with
        | none => rw [c4] at go1; exact go1.elim
        | some d =>
          rw [c4] at go1
          obtain ⟨u, u1, u2⟩ := dtv_get hks hds c4
          refine ⟨_, u, rfl, ?_, go1 u P1 H1 (.refl a1.rs) u2⟩
          rw [← u1]
          exact DGet.t hk (a1.rs.sub _ _ ht)
      · exact go1.elim
    · exact go1.elim
/-! ### a new thing last -/
def tApp (ta : TA) (te : TE) : TA := fun σ H Q => ta σ H fun us H1 => te σ H1 fun v H2 => Q (us ++ [v]) H2
theorem rargs_snoc {P H : Hp} {a : Addr} {d : D} (pa : P a = none) (ro : RepO T P H a d) : ∀ {xs : List (Nat ⊕ D)} {ds : List D} {us : List V}, RArgs T P H (xs.map fun _ => false) ds us →
    RArgs T P H ((xs.map fun _ => false) ++ [true]) (ds ++ [d]) (us ++ [.ref a]) ∧ ioA ((xs.map fun _ => false) ++ [true]) (us ++ [.ref a]) = [a]
  | [], [], us, h => by
    cases h
    exact ⟨⟨a, [], rfl, pa, ro, rfl, by simp [ioA]⟩, rfl⟩
  | [], _ :: _, _, h => h.elim
  | _ :: _, [], _, h => h.elim
  | x :: xs, e :: ds, us, h => by
    obtain ⟨v, t, rfl, h1, h2⟩ := h
    obtain ⟨q1, q2⟩ := rargs_snoc pa ro h2
    refine ⟨⟨v, t ++ [.ref a], rfl, h1, q1⟩, ?_⟩
    cases v <;> exact q2
theorem all_false (xs : List (Nat ⊕ D)) : (xs.map fun _ => false).all (fun b => !b) = true := by
  induction xs with
  | nil => rfl
  | cons x xs ih => simp
theorem de_callE {ms : List Bool} {c : List D → CR} {e : PySem.Expr} {fe : En → R Val} {fs : En → R (List (Nat ⊕ D))} (h : PE X e (tDef T ms c [] (tApp (tA T W fs) (tE T W fe)))) :
    PE X e (tE T W fun r => (fs r).bind fun ys r1 => (fe r1).bind fun v r2 => match v with | .ow d => callER ms c ys d r2 | _ => .bad) := peImp h fun σ H Q ⟨P, r, rs, go⟩ => by
  refine ⟨P, r, rs, ?_⟩
  dsimp only at go
  cases e1 : fs r with
  | bad => rw [e1] at go; exact go.elim
  | exc _ _ _ => rw [e1] at go; exact go
  | ok ys r1 =>
    rw [e1, R.bind_ok] at go
    intro us P1 H1 a1 rb
    refine ⟨P1, r1, a1.rs, ?_⟩
    cases e2 : fe r1 with
    | bad => rw [e2] at go; exact go.elim
    | exc c' d' r2 =>
      rw [e2] at go
      exact fun u' P' H' a' rp => go u' P' H' (a1.trans a') rp
    | ok v r2 =>
      rw [e2, R.bind_ok] at go
      intro u P2 H2 a2 rv
      cases v with
      | sh d => exact go.elim
      | ow d =>
        dsimp only at go
        unfold callER at go
        by_cases k : ms = (ys.map fun _ => false) ++ [true]
        rotate_left
        · rw [if_neg k] at go; exact go.elim
        rw [if_pos k] at go
        subst k
        cases ef : frzs r2 (plains (ys.map fun _ => false) ys) with
        | none => rw [ef] at go; exact go.elim
        | some rf =>
          cases er : res r2 ys with
          | none => rw [ef, er] at go; exact go.elim
          | some ds =>
            rw [ef, er] at go
            dsimp only at go
            obtain ⟨Pf, af, n1, g1⟩ := frz_ok a2.rs ef
            obtain ⟨a, rfl, pa, ro, ha⟩ := rv
            have own2 : ¬ Own σ r2 a := fun ⟨i, m, q⟩ => by
              obtain ⟨j, mj, qj⟩ := a2.kd.owns ⟨i, m, q⟩
              obtain ⟨d2, hd2⟩ := mj
              obtain ⟨b, s1, s2, s3⟩ := a1.rs.own j d2 hd2
              rw [qj] at s1; cases s1
              obtain ⟨o, eo⟩ := s3.some
              rw [ha] at eo; cases eo
            have paf : Pf a = none := by
              cases z : Pf a with
              | none => rfl
              | some w =>
                rcases af.st.nw a (by rw [z]; simp) with y | y | y
                · exact absurd pa y
                · exact absurd y ro.nt
                · exact absurd y own2
            have rof : RepO T Pf H2 a d := ro.move af.st.pp rfl
            obtain ⟨ra, ia⟩ := args_plain (H := H2) af.st.pp (rb.ext a2.st.pp) er (all_false ys) (by simp) g1
            obtain ⟨rg, ii⟩ := rargs_snoc paf rof ra
            refine ⟨Pf, ds ++ [d], af.rs.sub, by rw [List.append_nil]; exact rg, ?_⟩
            rw [List.append_nil, ii]
            cases ec : c (ds ++ [d]) with
            | bad => rw [ec] at go; exact go.elim
            | exc _ _ _ => rw [ec] at go; exact go.elim
            | ok q outs =>
              rw [ec] at go
              intro u' P' H' ac rv'
              have keep : ∀ b o, H2 b = some o → b ≠ a → H' b = some o := fun b o e n => ac.fr b o e (by simpa using n)
              have stc : Stp (fun b => b = a) Pf H2 P' H' := ⟨ac.pp, keep, ac.dm, fun b hb => (ac.nw b hb).elim .inl fun z => .inr (.inl z)⟩
              have st : Stp (Own σ r) P H P' H' := ((a1.trans (a2.trans af)).st).trans stc fun b hb => by
                subst hb
                exact .inr (a1.st.dm _ ha)
              have kd : Kd r rf := (a1.trans (a2.trans af)).kd
              have ownNa : ∀ i b, OwnAt rf i → σ[i]? = some (some (.ref b)) → b ≠ a := fun i b m q e => by
                subst e
                exact own2 (af.kd.owns ⟨i, m, q⟩)
              have rs' : RS T P' H' σ rf := by
                refine ⟨ac.sub, af.rs.len, fun i d' q => ?_, fun i d' q => ?_, af.rs.dis⟩
                · obtain ⟨w, w1, w2⟩ := af.rs.sh i d' q
                  exact ⟨w, w1, Rep.ext ac.pp _ _ w2⟩
                · obtain ⟨b, b1, b2, b3⟩ := af.rs.own i d' q
                  have nb := ownNa i b ⟨d', q⟩ b1
                  obtain ⟨o, eo⟩ := b3.some
                  refine ⟨b, b1, ?_, b3.move ac.pp (by rw [keep b o eo nb, eo])⟩
                  cases z : P' b with
                  | none => rfl
                  | some w =>
                    rcases ac.nw b (by rw [z]; simp) with y | y
                    · exact absurd b2 y
                    · exact absurd y b3.nt
              refine go u' P' H' ⟨rs', st, kd⟩ ?_
              cases q with
              | sh d' => exact rv'
              | ow d' =>
                obtain ⟨b, b1, b2, b3, b4⟩ := rv'
                exact ⟨b, b1, b2, b3, a1.st.dm b (a2.st.dm b b4)⟩
end
section
variable {T : Tb} {W : WX} {C : Cf} {X : Cx} {k : Nat} {pos p : Pos} {a b c : PySem.Expr} {x : Str}
theorem a_nilE {c' : E} (hs : notStar c = true) (hc : DE T W C X c c') : PA X [c] (tApp (tA T W (evA C [])) (tE T W fun r => ev C c' r)) :=
  paImp (pa_cons hc pa_nil (star_one hs [] X.env)) fun σ H Q ⟨P, r, rs, go⟩ => by
    simp only [evA] at go
    exact go [] P H (.refl rs) rfl
theorem a_consE {es : List PySem.Expr} {es' : List E} {a' : E} {te : TE} (hs : notStar a = true) (ha : DB T W C X a a') (hb : PA X es (tApp (tA T W (evA C es')) te)) : PA X (a :: es) (tApp (tA T W (evA C (a' :: es'))) te) := by
  rw [show evA C (a' :: es') = fun r => (bor a' (fun r => ev C a' r) r).bind fun v r1 => (evA C es' r1).bind fun vs r2 => .ok (v :: vs) r2 from funext fun r => by simp only [evA]]
  refine paImp (pa_cons ha hb (star_one hs es X.env)) fun σ H Q ⟨P, r, rs, go⟩ => ⟨P, r, rs, (Go.bind (anti_Bs T σ) go).mono fun u H1 ⟨P1, r1, x, a1, q1, e1, go1⟩ => ⟨P1, r1, a1.rs, (Go.bind (anti_Bs T σ) go1).mono fun us H2 ⟨P2, r2, xs, a2, q2, e2, go2⟩ => ?_⟩⟩
  exact go2 (u :: us) P2 H2 (.refl a2.rs) ⟨u, us, rfl, q1.ext a2.st.pp, q2⟩
/-- two arguments and a new thing -/
theorem e_fnE2 {g : Nat} {ms : List Bool} {a' b' c' : E} (w : CB T k X) (h : Cal T k x ms (C.call g)) (hms : C.modes g = some ms) (ha : DB T W C X a a') (hb : DB T W C X b b') (hc : DE T W C X c c') (hg : Gl X x := by rfl) (hs : notStar a = true := by rfl) (hs2 : notStar b = true := by rfl) (hs3 : notStar c = true := by rfl) (hdb : (x == ("__debug__" : Str)) = false := by decide) :
    DE T W C X (.Call (.Name x p) [a, b, c] [] pos) (.callE g [a', b'] c') := by
  obtain ⟨f, fd, ps, h1, h2, h3, h4⟩ := h
  have pa : PA X [a, b, c] (tApp (tA T W (evA C [a', b'])) (tE T W fun r => ev C c' r)) := a_consE hs ha (a_consE hs2 hb (a_nilE hs3 hc))
  refine eqE (de_callE (fe := fun r => ev C c' r) (fs := evA C [a', b']) (pe_def w h4 hg h1 h2 h3 .nil pa hs (by simp [hs2, hs3]) hdb)) fun r => ?_
  simp only [ev]
  cases c1 : evA C [a', b'] r with
  | ok ys r1 =>
    rw [R.bind_ok, R.bind_ok]
    cases c2 : ev C c' r1 with
    | ok v r2 =>
      rw [R.bind_ok, R.bind_ok, hms]
      cases v <;> rfl
    | exc _ _ _ => rfl
    | bad => rfl
  | exc _ _ _ => rfl
  | bad => rfl
theorem e_dvg {b' : E} (w : CB T k X) (i : Nat) (ho : PE X a (tVar i)) (hb : DE T W C X b b') (hs : NoSl b := by intro _ _; rfl) : DE T W C X (.Subscript a b pos) (.dvg i b') := eqE (de_dvg (by have := w.room.un; omega) ho hb hs) fun r => by simp only [ev] <;> rfl
theorem t_dvni {a' : E} (w : CB T k X) (i : Nat) (ho : PE X b (tVar i)) (ha : DE T W C X a a') (hm : behindInMarks .NotIn b = false := by with_unfolding_all rfl) : DT T W C X (.Compare a [.NotIn] [b] pos) (.val (.dvi true a' i)) := eqT (dt_dvni (by have := w.room.un; omega) ho ha hm) fun r => by
  simp only [evT, bor, isVar, ev]
  rw [bind_assoc, bind_assoc]
  congr 1
  funext v r1
  generalize r1.own? i = s
  generalize v.d = dd
  cases s with
  | none => rfl
  | some d => cases d with
    | dtv ks vs => cases dd with
      | tup l =>
        simp only
        cases keysD l <;> rfl
      | _ => rfl
    | _ => rfl
end
end Z
/-! YA: the evaluator's equations as simp rules. -/
namespace Z
open PySem (Str Operator CmpOp)
@[simp] theorem iv_var {i : Nat} : isVar (.var i) = some i := rfl
@[simp] theorem iv_con {d : D} : isVar (.con d) = none := rfl
@[simp] theorem iv_neg {a : E} : isVar (.neg a) = none := rfl
@[simp] theorem iv_not {a : E} : isVar (.not a) = none := rfl
@[simp] theorem iv_bin {op : Operator} {a b : E} : isVar (.bin op a b) = none := rfl
@[simp] theorem iv_cmp {op : CmpOp} {a b : E} : isVar (.cmp op a b) = none := rfl
@[simp] theorem iv_and {a b : E} : isVar (.and a b) = none := rfl
@[simp] theorem iv_or {a b : E} : isVar (.or a b) = none := rfl
@[simp] theorem iv_ite {t : Z.T} {a b : E} : isVar (.ite t a b) = none := rfl
@[simp] theorem iv_lst {es : List E} : isVar (.lst es) = none := rfl
@[simp] theorem iv_tup {es : List E} : isVar (.tup es) = none := rfl
@[simp] theorem iv_idx {a b : E} : isVar (.idx a b) = none := rfl
@[simp] theorem iv_slc {a b c : E} : isVar (.slc a b c) = none := rfl
@[simp] theorem iv_chn {o o' : CmpOp} {a b c : E} : isVar (.chn o o' a b c) = none := rfl
@[simp] theorem iv_lc {a : E} {tg : Tg} {it : I} {ts : List Z.T} {own : List Nat} : isVar (.lc a tg it ts own) = none := rfl
@[simp] theorem iv_call {n : Nat} {es : List E} {own : List Nat} {ds : List D} : isVar (.call n es own ds) = none := rfl
@[simp] theorem iv_callO {n : Nat} {es : List E} : isVar (.callO n es) = none := rfl
@[simp] theorem iv_callN {n : Nat} {e : E} {es : List E} : isVar (.callN n e es) = none := rfl
@[simp] theorem iv_bi {bb : BI} {es : List E} : isVar (.bi bb es) = none := rfl
@[simp] theorem iv_mth {m : MT} {a : E} {es : List E} : isVar (.mth m a es) = none := rfl
@[simp] theorem iv_bits {a : E} : isVar (.bits a) = none := rfl
@[simp] theorem iv_mut {mm : MU} {n : Nat} {es : List E} : isVar (.mut mm n es) = none := rfl
@[simp] theorem iv_isi {a : E} {ty : Ty} : isVar (.isi a ty) = none := rfl
@[simp] theorem in_non : isNon (.con .non) = true := rfl
/-! what stands behind a step is looked at only when the step is done -/
@[simp] theorem qb_con {d : D} {f : En → R Val} {r : En} : bor (.con d) f r = (f r).bind fun v r1 => .ok (.inr v.d) r1 := rfl
@[simp] theorem qb_neg {a : E} {f : En → R Val} {r : En} : bor (.neg a) f r = (f r).bind fun v r1 => .ok (.inr v.d) r1 := rfl
@[simp] theorem qb_not {a : E} {f : En → R Val} {r : En} : bor (.not a) f r = (f r).bind fun v r1 => .ok (.inr v.d) r1 := rfl
@[simp] theorem qb_bin {op : Operator} {a b : E} {f : En → R Val} {r : En} : bor (.bin op a b) f r = (f r).bind fun v r1 => .ok (.inr v.d) r1 := rfl
@[simp] theorem qb_cmp {op : CmpOp} {a b : E} {f : En → R Val} {r : En} : bor (.cmp op a b) f r = (f r).bind fun v r1 => .ok (.inr v.d) r1 := rfl
@[simp] theorem qb_and {a b : E} {f : En → R Val} {r : En} : bor (.and a b) f r = (f r).bind fun v r1 => .ok (.inr v.d) r1 := rfl
@[simp] theorem qb_or {a b : E} {f : En → R Val} {r : En} : bor (.or a b) f r = (f r).bind fun v r1 => .ok (.inr v.d) r1 := rfl
@[simp] theorem qb_ite {t : Z.T} {a b : E} {f : En → R Val} {r : En} : bor (.ite t a b) f r = (f r).bind fun v r1 => .ok (.inr v.d) r1 := rfl
@[simp] theorem qb_lst {es : List E} {f : En → R Val} {r : En} : bor (.lst es) f r = (f r).bind fun v r1 => .ok (.inr v.d) r1 := rfl
@[simp] theorem qb_tup {es : List E} {f : En → R Val} {r : En} : bor (.tup es) f r = (f r).bind fun v r1 => .ok (.inr v.d) r1 := rfl
@[simp] theorem qb_idx {a b : E} {f : En → R Val} {r : En} : bor (.idx a b) f r = (f r).bind fun v r1 => .ok (.inr v.d) r1 := rfl
@[simp] theorem qb_slc {a b c : E} {f : En → R Val} {r : En} : bor (.slc a b c) f r = (f r).bind fun v r1 => .ok (.inr v.d) r1 := rfl
@[simp] theorem qb_lc {a : E} {tg : Tg} {it : I} {ts : List Z.T} {own : List Nat} {f : En → R Val} {r : En} : bor (.lc a tg it ts own) f r = (f r).bind fun v r1 => .ok (.inr v.d) r1 := rfl
@[simp] theorem qb_call {n : Nat} {es : List E} {own : List Nat} {ds : List D} {f : En → R Val} {r : En} : bor (.call n es own ds) f r = (f r).bind fun v r1 => .ok (.inr v.d) r1 := rfl
@[simp] theorem qb_callO {n : Nat} {es : List E} {f : En → R Val} {r : En} : bor (.callO n es) f r = (f r).bind fun v r1 => .ok (.inr v.d) r1 := rfl
@[simp] theorem qb_callN {n : Nat} {e : E} {es : List E} {f : En → R Val} {r : En} : bor (.callN n e es) f r = (f r).bind fun v r1 => .ok (.inr v.d) r1 := rfl
@[simp] theorem qb_chn {o o' : CmpOp} {a b c : E} {f : En → R Val} {r : En} : bor (.chn o o' a b c) f r = (f r).bind fun v r1 => .ok (.inr v.d) r1 := rfl
@[simp] theorem qb_bi {bb : BI} {es : List E} {f : En → R Val} {r : En} : bor (.bi bb es) f r = (f r).bind fun v r1 => .ok (.inr v.d) r1 := rfl
@[simp] theorem qb_mth {m : MT} {a : E} {es : List E} {f : En → R Val} {r : En} : bor (.mth m a es) f r = (f r).bind fun v r1 => .ok (.inr v.d) r1 := rfl
@[simp] theorem qb_bits {a : E} {f : En → R Val} {r : En} : bor (.bits a) f r = (f r).bind fun v r1 => .ok (.inr v.d) r1 := rfl
@[simp] theorem qb_mut {mm : MU} {n : Nat} {es : List E} {f : En → R Val} {r : En} : bor (.mut mm n es) f r = (f r).bind fun v r1 => .ok (.inr v.d) r1 := rfl
@[simp] theorem qb_isi {a : E} {ty : Ty} {f : En → R Val} {r : En} : bor (.isi a ty) f r = (f r).bind fun v r1 => .ok (.inr v.d) r1 := rfl
@[simp] theorem qr_con {d : D} {C : Cf} {r : En} : retV C (.con d) r = ev C (.con d) r := rfl
@[simp] theorem qr_neg {a : E} {C : Cf} {r : En} : retV C (.neg a) r = ev C (.neg a) r := rfl
@[simp] theorem qr_not {a : E} {C : Cf} {r : En} : retV C (.not a) r = ev C (.not a) r := rfl
@[simp] theorem qr_bin {op : Operator} {a b : E} {C : Cf} {r : En} : retV C (.bin op a b) r = ev C (.bin op a b) r := rfl
@[simp] theorem qr_cmp {op : CmpOp} {a b : E} {C : Cf} {r : En} : retV C (.cmp op a b) r = ev C (.cmp op a b) r := rfl
@[simp] theorem qr_and {a b : E} {C : Cf} {r : En} : retV C (.and a b) r = ev C (.and a b) r := rfl
@[simp] theorem qr_or {a b : E} {C : Cf} {r : En} : retV C (.or a b) r = ev C (.or a b) r := rfl
@[simp] theorem qr_ite {t : Z.T} {a b : E} {C : Cf} {r : En} : retV C (.ite t a b) r = ev C (.ite t a b) r := rfl
@[simp] theorem qr_lst {es : List E} {C : Cf} {r : En} : retV C (.lst es) r = ev C (.lst es) r := rfl
@[simp] theorem qr_tup {es : List E} {C : Cf} {r : En} : retV C (.tup es) r = ev C (.tup es) r := rfl
@[simp] theorem qr_idx {a b : E} {C : Cf} {r : En} : retV C (.idx a b) r = ev C (.idx a b) r := rfl
@[simp] theorem qr_slc {a b c : E} {C : Cf} {r : En} : retV C (.slc a b c) r = ev C (.slc a b c) r := rfl
@[simp] theorem qr_lc {a : E} {tg : Tg} {it : I} {ts : List Z.T} {own : List Nat} {C : Cf} {r : En} : retV C (.lc a tg it ts own) r = ev C (.lc a tg it ts own) r := rfl
@[simp] theorem qr_call {n : Nat} {es : List E} {own : List Nat} {ds : List D} {C : Cf} {r : En} : retV C (.call n es own ds) r = ev C (.call n es own ds) r := rfl
@[simp] theorem qr_callO {n : Nat} {es : List E} {C : Cf} {r : En} : retV C (.callO n es) r = ev C (.callO n es) r := rfl
@[simp] theorem qr_callN {n : Nat} {e : E} {es : List E} {C : Cf} {r : En} : retV C (.callN n e es) r = ev C (.callN n e es) r := rfl
@[simp] theorem qr_chn {o o' : CmpOp} {a b c : E} {C : Cf} {r : En} : retV C (.chn o o' a b c) r = ev C (.chn o o' a b c) r := rfl
@[simp] theorem qr_bi {bb : BI} {es : List E} {C : Cf} {r : En} : retV C (.bi bb es) r = ev C (.bi bb es) r := rfl
@[simp] theorem qr_mth {m : MT} {a : E} {es : List E} {C : Cf} {r : En} : retV C (.mth m a es) r = ev C (.mth m a es) r := rfl
@[simp] theorem qr_bits {a : E} {C : Cf} {r : En} : retV C (.bits a) r = ev C (.bits a) r := rfl
@[simp] theorem qr_mut {mm : MU} {n : Nat} {es : List E} {C : Cf} {r : En} : retV C (.mut mm n es) r = ev C (.mut mm n es) r := rfl
@[simp] theorem qr_isi {a : E} {ty : Ty} {C : Cf} {r : En} : retV C (.isi a ty) r = ev C (.isi a ty) r := rfl
@[simp] theorem qr_var {i : Nat} {C : Cf} {r : En} : retV C (.var i) r = (match r[i]? with | some (.sh d) => .ok (.sh d) r | some (.ow d) => .ok (.ow d) r | _ => .bad) := rfl
section
variable {C : Cf} {r r' : En} {a b c : E} {es : List E} {s : S} {ss tt : List S} {i j : Nat} {d d' : D} {x y : Int}
abbrev Cz (Pg : Nat → Option Df) (fuel k : Nat) : Cf := { call := callD Pg fuel k, modes := fun g => (Pg g).map (·.modes), fuel := fuel }
theorem callD_eq {Pg : Nat → Option Df} {fuel k f : Nat} {df : Df} {ds : List D} (hp : Pg f = some df) (h : ds.length = df.modes.length ∧ ds.length ≤ df.names) :
    callD Pg fuel (k + 1) f ds = (xs (Cz Pg fuel k) df.body (En.start df.modes df.names ds)).cr df.modes := by
  simp only [callD, hp, if_pos h]
@[simp] theorem q_xs0 : xs C [] r = .nx r := by simp only [xs]
@[simp] theorem q_xs : xs C (s :: ss) r = (x1 C s r).then fun r1 => xs C ss r1 := by simp only [xs]
@[simp] theorem q_asgv : x1 C (.asg (.v i) a) r = (ev C a r).run fun v r1 => O.of (r1.put i v) := by simp only [x1]
@[simp] theorem q_asgt {ts : List Tg} : x1 C (.asg (.t ts) a) r = (ev C a r).run fun v r1 => O.of (bindT (.t ts) v.d r1) := by simp only [x1]
@[simp] theorem q_par {is : List Nat} : x1 C (.par is es) r = (evV C es r).run fun vs r1 => if is.Nodup then O.of (puts r1 is vs) else .bad := by simp only [x1]
@[simp] theorem q_aug {op : Operator} : x1 C (.aug i op a) r = match r.rd i with | some (.int x) => (ev C a r).run fun v r1 => (match v.d with | .int y => (match binI op x y with | some z => O.of (r1.put i (.sh (.int z))) | none => .bad) | _ => .bad) | _ => .bad := by simp only [x1] <;> rfl
@[simp] theorem q_seti : x1 C (.seti i a b) r = (ev C b r).run fun v r1 => if (r1.own? i).isSome = true then (ev C a r1).run fun k r2 => O.of ((r2.own? i).bind fun o => (setD o k.d v.d).bind fun d => r2.chg i d) else .bad := by simp only [x1]
@[simp] theorem q_ex : x1 C (.ex a) r = (ev C a r).run fun _ r1 => .nx r1 := by simp only [x1]
@[simp] theorem q_ret : x1 C (.ret a) r = (retV C a r).run fun v r1 => .ret v r1 := by simp only [x1]
@[simp] theorem q_retN : x1 C .retN r = .ret (.sh .non) r := by simp only [x1]
@[simp] theorem q_ite {t : Z.T} : x1 C (.ite t ss tt) r = (evT C t r).run fun k r1 => if k = true then xs C ss r1 else xs C tt r1 := by simp only [x1]
@[simp] theorem q_for {t : Tg} {it : I} : x1 C (.for_ t it ss) r = (evI C it r).run fun l r1 => forL (fun x r2 => (O.of (bindT t x r2)).then fun r3 => xs C ss r3) l r1 := by simp only [x1]
@[simp] theorem iv_dvi {n : Bool} {i : Nat} : isVar (.dvi n a i) = none := rfl
@[simp] theorem qb_dvi {n : Bool} {i : Nat} {f : En → R Val} : bor (.dvi n a i) f r = (f r).bind fun v r1 => .ok (.inr v.d) r1 := rfl
@[simp] theorem q_dvi {n : Bool} {i : Nat} : ev C (.dvi n a i) r = (ev C a r).bind fun v r1 => match r1.own? i, v.d with
    | some (.dtv ks _), .tup l => (match keysD l with
      | some kk => .ok (.sh (.bl (xor n (ks.any fun x => decide (x = kk))))) r1
      | none => .bad)
    | _, _ => .bad := by simp only [ev] <;> rfl
@[simp] theorem iv_dvg {i : Nat} : isVar (.dvg i a) = none := rfl
@[simp] theorem qb_dvg {i : Nat} {f : En → R Val} : bor (.dvg i a) f r = (f r).bind fun v r1 => .ok (.inr v.d) r1 := rfl
@[simp] theorem qr_dvg {i : Nat} : retV C (.dvg i a) r = ev C (.dvg i a) r := rfl
@[simp] theorem q_dvg {i : Nat} : ev C (.dvg i a) r = if (r.own? i).isSome = true then (ev C a r).bind fun v r1 => match r1.own? i, v.d with
    | some (.dtv ks vs), .tup l => (match keysD l with
      | some kk => R.of ((dtvGet ks vs kk).map .sh) r1
      | none => .bad)
    | _, _ => .bad else .bad := by simp only [ev] <;> rfl
@[simp] theorem iv_callE {f : Nat} {es : List E} : isVar (.callE f es a) = none := rfl
@[simp] theorem qb_callE {n : Nat} {es : List E} {f : En → R Val} : bor (.callE n es a) f r = (f r).bind fun v r1 => .ok (.inr v.d) r1 := rfl
@[simp] theorem qr_callE {n : Nat} {es : List E} : retV C (.callE n es a) r = ev C (.callE n es a) r := rfl
@[simp] theorem q_callE {f : Nat} {es : List E} : ev C (.callE f es a) r = (evA C es r).bind fun ys r1 => (ev C a r1).bind fun v r2 => match v, C.modes f with
    | .ow d, some ms => callER ms (C.call f) ys d r2
    | _, _ => .bad := by simp only [ev] <;> rfl
@[simp] theorem q_keep : ev C (.keep a) r = (ev C a r).bind fun v r1 => keepR r v r1 := by simp only [ev]
@[simp] theorem q_srs : ev C (.srs a) r = (ev C a r).bind fun v r1 => R.of (srsD v.d) r1 := by simp only [ev]
@[simp] theorem q_whl {t : Z.T} : x1 C (.whl t ss) r = whlL (evT C t) (xs C ss) C.fuel r := by simp only [x1]
@[simp] theorem q_brk : x1 C .brk r = .brk r := by simp only [x1]
@[simp] theorem q_cnt : x1 C .cnt r = .cnt r := by simp only [x1]
@[simp] theorem q_pass : x1 C .pass r = .nx r := by simp only [x1]
/-! expressions -/
@[simp] theorem q_var : ev C (.var i) r = (match r[i]? with | some (.sh d) => .ok (.sh d) r | some (.ow d) => .ok (.sh d) (r.set i (.sh d)) | _ => .bad) := by simp only [ev] <;> rfl
@[simp] theorem q_con : ev C (.con d) r = .ok (.sh d) r := by simp only [ev]
@[simp] theorem q_not : ev C (.not a) r = (bor a (fun r => ev C a r) r).bind fun x r1 => op1 (fun u => boolV ((tru u).map (!·))) x r1 := by simp only [ev]
@[simp] theorem q_bin {op : Operator} : ev C (.bin op a b) r = (bor a (fun r => ev C a r) r).bind fun x r1 => (bor b (fun r => ev C b r) r1).bind fun y r2 => op2 (binD op) x y r2 := by simp only [ev]
@[simp] theorem q_cmp {op : CmpOp} : ev C (.cmp op a b) r = (bor a (fun r => ev C a r) r).bind fun x r1 => (bor b (fun r => ev C b r) r1).bind fun y r2 => op2 (fun u v => boolV (cmpD op u v)) x y r2 := by simp only [ev]
@[simp] theorem q_and : ev C (.and a b) r = (ev C a r).bind fun x r1 => match tru x.d with
    | some true => (ev C b r1).bind fun y r2 => .ok (.sh y.d) r2
    | some false => .ok (.sh x.d) r1
    | none => .bad := by simp only [ev] <;> rfl
@[simp] theorem q_or : ev C (.or a b) r = (ev C a r).bind fun x r1 => match tru x.d with
    | some false => (ev C b r1).bind fun y r2 => .ok (.sh y.d) r2
    | some true => .ok (.sh x.d) r1
    | none => .bad := by simp only [ev] <;> rfl
@[simp] theorem q_eite {t : Z.T} : ev C (.ite t a b) r = (evT C t r).bind fun k r1 => if k = true then ev C a r1 else ev C b r1 := by simp only [ev]
@[simp] theorem q_lst : ev C (.lst es) r = (evs C es r).bind fun ds r1 => if ds.length ≤ LINE then .ok (.ow (.lst ds)) r1 else .bad := by simp only [ev]
@[simp] theorem q_tup : ev C (.tup es) r = (evs C es r).bind fun ds r1 => if ds.length ≤ LINE then .ok (.sh (.tup ds)) r1 else .bad := by simp only [ev]
@[simp] theorem q_idx : ev C (.idx a b) r = (bor a (fun r => ev C a r) r).bind fun x r1 => (bor b (fun r => ev C b r) r1).bind fun y r2 => op2 (fun u v => (idxD u v).map .sh) x y r2 := by simp only [ev]
@[simp] theorem q_slc : ev C (.slc a b c) r = (bor a (fun r => ev C a r) r).bind fun x r1 => (por b (fun r => ev C b r) r1).bind fun y r2 => (por c (fun r => ev C c r) r2).bind fun z r3 => op3 slcD x y z r3 := by simp only [ev]
theorem q_lc {t : Tg} {it : I} {ts : List Z.T} {own : List Nat} : ev C (.lc a t it ts own) r = (evI C it r).bind fun l r1 => if ownFree r1 own && (tgS t).all own.contains then
      (lcL (fun x r2 => (R.of (bindT t x (wip r2 own)) r2).bind fun r3 _ => (evC C ts r3).bind fun k r4 => if k = true then (ev C a r4).bind fun v r5 => .ok (some v.d) r5 else .ok none r4) l [] (wip r1 own)).bind fun ds r6 =>
        thawL r ds (back r1 r6 own) else .bad := by simp only [ev]
@[simp] theorem q_call {f : Nat} : ev C (.call f es [] []) r = (evA C es r).bind fun ys r1 => match C.modes f with | some ms => callR ms (C.call f) ys r1 | none => .bad := by
  simp only [ev]
  congr 1
  funext ys r1
  simp only [List.map_nil, List.append_nil, permO, List.isEmpty_nil, if_true]
  cases C.modes f <;> rfl
@[simp] theorem q_callO {f : Nat} : ev C (.callO f es) r = (evA C es r).bind fun ys r1 => match C.modes f with | some ms => callRO ms (C.call f) ys r1 | none => .bad := by simp only [ev] <;> rfl
@[simp] theorem q_callN {f : Nat} {e : E} : ev C (.callN f e es) r = (ev C e r).bind fun v r1 => (evA C es r1).bind fun ys r2 => match v, C.modes f with
    | .ow d, some ms => callNR ms (C.call f) d ys r2
    | _, _ => .bad := by simp only [ev] <;> rfl
@[simp] theorem q_chn {op op' : CmpOp} : ev C (.chn op op' a b c) r = (bor a (fun r => ev C a r) r).bind fun x r1 => (bor b (fun r => ev C b r) r1).bind fun y r2 => (op2 (fun u v => boolV (cmpD op u v)) x y r2).bind fun q r3 => match q.d with
    | .bl true => (bor c (fun r => ev C c r) r3).bind fun z r4 => op2 (fun u v => boolV (cmpD op' u v)) y z r4
    | .bl false => .ok (.sh (.bl false)) r3
    | _ => .bad := by simp only [ev] <;> rfl
@[simp] theorem q_bi {b : BI} : ev C (.bi b es) r = (evA C es r).bind fun xs r1 => opn (biD b) xs r1 := by simp only [ev]
@[simp] theorem q_bits : ev C (.bits a) r = (bor a (fun r => ev C a r) r).bind fun x r1 => op1 (fun d => (mtD .bitlen d []).map Val.sh) x r1 := by simp only [ev]
@[simp] theorem q_mth {m : MT} : ev C (.mth m a es) r = (bor a (fun r => ev C a r) r).bind fun x r1 => if lstB r1 x = true then (evA C es r1).bind fun xs r2 => opn (fun l => match l with | d :: ds => (mtD m d ds).map Val.sh | [] => none) (x :: xs) r2 else .bad := by simp only [ev] <;> rfl
@[simp] theorem q_mut {m : MU} : ev C (.mut m i es) r = if lstAt r i then (evs C es r).bind fun ds r1 => (R.of ((r1.own? i).bind fun o => (muD m o ds).bind fun p => (r1.chg i p.1).map fun r2 => (Val.sh p.2, r2)) r1).bind (fun q _ => .ok q.1 q.2) else .bad := by simp only [ev]
@[simp] theorem q_isi {t : Ty} : ev C (.isi a t) r = (bor a (fun r => ev C a r) r).bind fun x r1 => op1 (fun u => boolV (isiD u t)) x r1 := by simp only [ev]
@[simp] theorem q_evs0 : evs C [] r = .ok [] r := by simp only [evs]
@[simp] theorem q_evs : evs C (a :: es) r = (ev C a r).bind fun v r1 => (evs C es r1).bind fun vs r2 => .ok (v.d :: vs) r2 := by simp only [evs]
@[simp] theorem q_evA0 : evA C [] r = .ok [] r := by simp only [evA]
@[simp] theorem q_evA : evA C (a :: es) r = (bor a (fun r => ev C a r) r).bind fun x r1 => (evA C es r1).bind fun xs r2 => .ok (x :: xs) r2 := by simp only [evA]
@[simp] theorem q_evV0 : evV C [] r = .ok [] r := by simp only [evV]
@[simp] theorem q_evV : evV C (a :: es) r = (ev C a r).bind fun v r1 => (evV C es r1).bind fun vs r2 => .ok (v :: vs) r2 := by simp only [evV]
@[simp] theorem q_tval : evT C (.val a) r = (bor a (fun r => ev C a r) r).bind fun x r1 => R.of (match res r1 [x] with | some [a] => tru a | _ => none) r1 := by simp only [evT] <;> rfl
@[simp] theorem q_tnot {t : Z.T} : evT C (.not t) r = (evT C t r).bind fun b r1 => .ok (!b) r1 := by simp only [evT]
@[simp] theorem q_tand {t u : Z.T} : evT C (.and t u) r = (evT C t r).bind fun k r1 => if k = true then evT C u r1 else .ok false r1 := by simp only [evT]
@[simp] theorem q_tor {t u : Z.T} : evT C (.or t u) r = (evT C t r).bind fun k r1 => if k = true then .ok true r1 else evT C u r1 := by simp only [evT]
@[simp] theorem q_evC0 : evC C [] r = .ok true r := by simp only [evC]
@[simp] theorem q_evC {t : Z.T} {ts : List Z.T} : evC C (t :: ts) r = (evT C t r).bind fun k r1 => if k = true then evC C ts r1 else .ok false r1 := by simp only [evC]
@[simp] theorem q_ie : evI C (.e a) r = (ev C a r).bind fun v r1 => R.of (itemsD v.d) r1 := by simp only [evI]
theorem q_rng1 : evI C (.rng1 a) r = (bor a (fun r => ev C a r) r).bind fun x r1 => R.of ((res r1 [x]).bind rngD) r1 := by
  simp only [evI]
  congr 1
  funext x r1
  rcases res_one r1 x with h | ⟨u, h⟩
  · rw [h]; rfl
  · rw [h]; rfl
theorem q_rng2 : evI C (.rng2 a b) r = (bor a (fun r => ev C a r) r).bind fun x r1 => (bor b (fun r => ev C b r) r1).bind fun y r2 => R.of ((res r2 [x, y]).bind rngD) r2 := by
  simp only [evI]
  congr 1
  funext x r1
  congr 1
  funext y r2
  rcases res_two r2 x y with h | ⟨u, v, h⟩
  · rw [h]; rfl
  · rw [h]; rfl
@[simp] theorem q_enm : evI C (.enm a) r = (ev C a r).bind fun v r1 => R.of ((lstD v.d).map enumD) r1 := by simp only [evI]
@[simp] theorem q_zv {i : Nat} {es : List E} {r : En} : evI C (.zv i es) r = match r[i]? with | some .no => (evs C es r).bind fun ds r1 => R.of (zipD true ds) r1 | _ => .bad := by simp only [evI] <;> rfl
@[simp] theorem q_zip {k : Bool} : evI C (.zip k es) r = (evs C es r).bind fun ds r1 => R.of (zipD k ds) r1 := by simp only [evI]
@[simp] theorem q_rvd : evI C (.rvd a) r = (ev C a r).bind fun v r1 => R.of ((lstD v.d).map List.reverse) r1 := by simp only [evI]
@[simp] theorem q_borv {f : En → R Val} : bor (.var i) f r = if (r.rd i).isSome = true then .ok (.inl i) r else .bad := rfl
@[simp] theorem q_rd : En.rd r i = (r[i]?).bind Sl.d? := rfl
@[simp] theorem q_res0 : res r [] = some [] := rfl
@[simp] theorem q_resl {l : List (Nat ⊕ D)} : res r (.inl i :: l) = (r.rd i).bind fun d => (res r l).map (d :: ·) := rfl
@[simp] theorem q_resr {l : List (Nat ⊕ D)} : res r (.inr d :: l) = (res r l).map (d :: ·) := rfl
@[simp] theorem q_op1 {f : D → Option Val} {u : Nat ⊕ D} : op1 f u r = R.of (match res r [u] with | some [a] => f a | _ => none) r := rfl
@[simp] theorem q_op2 {f : D → D → Option Val} {u v : Nat ⊕ D} : op2 f u v r = R.of (match res r [u, v] with | some [a, b] => f a b | _ => none) r := rfl
@[simp] theorem q_op3 {f : D → D → D → Option Val} {u v w : Nat ⊕ D} : op3 f u v w r = R.of (match res r [u, v, w] with | some [a, b, c] => f a b c | _ => none) r := rfl
@[simp] theorem q_opn {f : List D → Option Val} {l : List (Nat ⊕ D)} : opn f l r = R.of ((res r l).bind f) r := rfl
end
/-! ### comprehensions, loops -/
theorem wip_wip (r : En) (own : List Nat) : wip (wip r own) own = wip r own := by
  apply List.ext_getElem?
  intro j
  by_cases h : j ∈ own
  · have e : ∀ r : En, (wip r own)[j]? = (if j < r.length then some .no else none) := fun r => by
      cases c : (wip r own)[j]? with
      | none =>
        rw [List.getElem?_eq_none_iff, wip_len] at c
        rw [if_neg (by omega)]
      | some x =>
        have := wip_in r h c
        subst this
        have := (List.getElem?_eq_some_iff.mp c).1
        rw [wip_len] at this
        rw [if_pos this]
    rw [e, e, wip_len]
  · rw [wip_out _ h]
theorem back_wip {r0 r : En} {own : List Nat} (h : wip r own = wip r0 own) : back r0 r own = r0 := by
  have hl : r.length = r0.length := by rw [← wip_len r own, h, wip_len]
  apply List.ext_getElem?
  intro j
  by_cases m : j ∈ own
  · cases c : (back r0 r own)[j]? with
    | none =>
      rw [List.getElem?_eq_none_iff, back_len, hl] at c
      rw [List.getElem?_eq_none_iff.mpr c]
    | some x =>
      have e := back_in r0 r m c
      have hj := (List.getElem?_eq_some_iff.mp c).1
      rw [back_len, hl] at hj
      rw [e, List.getD_eq_getElem?_getD, List.getElem?_eq_getElem hj]
      rfl
  · rw [back_out _ _ m, ← wip_out r m, h, wip_out r0 m]
theorem lcF_wip {t : Tg} {fc : En → R Bool} {fe : En → R Val} {own : List Nat} {x : D} {r2 b : En} (h : wip r2 own = b) : lcF t fc fe own x r2 = lcF t fc fe own x b := by
  unfold lcF
  rw [← h, wip_wip]
  cases bindT t x (wip r2 own) <;> rfl
theorem lcL_run {f : D → En → R (Option D)} {own : List Nat} {b : En} (g : D → Option D) : ∀ (l acc : List D) (r : En), (∀ x ∈ l, ∀ r, wip r own = b → ∃ r', f x r = .ok (g x) r' ∧ wip r' own = b) → wip r own = b → acc.length + l.length ≤ LINE →
    ∃ r', lcL f l acc r = .ok (acc ++ l.filterMap g) r' ∧ wip r' own = b
  | [], acc, r, _, hr, _ => ⟨r, by simp [lcL], hr⟩
  | x :: l, acc, r, h, hr, hl => by
    obtain ⟨r1, e1, h1⟩ := h x List.mem_cons_self r hr
    simp only [List.length_cons] at hl
    unfold lcL
    rw [e1]
    cases c : g x with
    | none =>
      obtain ⟨r2, e2, h2⟩ := lcL_run g l acc r1 (fun y m => h y (List.mem_cons_of_mem _ m)) h1 (by omega)
      exact ⟨r2, by simpa [c] using e2, h2⟩
    | some y =>
      obtain ⟨r2, e2, h2⟩ := lcL_run g l (acc ++ [y]) r1 (fun y m => h y (List.mem_cons_of_mem _ m)) h1 (by simp; omega)
      refine ⟨r2, ?_, h2⟩
      simp only [R.nox_ok, R.bind_ok]
      rw [if_pos (by omega), e2]
      simp [c]
/-- a comprehension item by item -/
theorem lc_run {C : Cf} {e : E} {t : Tg} {it : I} {ts : List Z.T} {own : List Nat} {r r1 : En} {l : List D} (g : D → Option D) (hi : evI C it r = .ok l r1) (ho : ownFree r1 own = true) (ht : (tgS t).all own.contains = true) (hl : l.length ≤ LINE)
    (h : ∀ x ∈ l, ∃ r5, lcF t (evC C ts) (ev C e) own x (wip r1 own) = .ok (g x) r5 ∧ wip r5 own = wip r1 own) : ev C (.lc e t it ts own) r = thawL r (l.filterMap g) r1 := by
  rw [q_lc, hi]
  simp only [R.bind_ok]
  rw [if_pos (by rw [ho, ht]; rfl)]
  obtain ⟨r6, e6, h6⟩ := lcL_run (f := lcF t (evC C ts) (ev C e) own) (own := own) (b := wip r1 own) g l [] (wip r1 own) (fun x m r hr => by
    obtain ⟨r5, e5, h5⟩ := h x m
    exact ⟨r5, by rw [lcF_wip hr]; exact e5, h5⟩) (wip_wip _ _) (by simpa using hl)
  show (lcL (lcF t (evC C ts) (ev C e) own) l [] (wip r1 own)).bind _ = _
  rw [e6]
  simp only [R.bind_ok, List.nil_append]
  rw [back_wip h6]
theorem forL_run {f : D → En → O} (Iv : Nat → En → Prop) : ∀ (l : List D) (i : Nat) (r : En), (∀ (j : Nat) (x : D) (r : En), l[j]? = some x → Iv (i + j) r → ∃ r', f x r = .nx r' ∧ Iv (i + j + 1) r') → Iv i r → ∃ r', forL f l r = .nx r' ∧ Iv (i + l.length) r'
  | [], i, r, _, h => ⟨r, rfl, h⟩
  | x :: l, i, r, h, h0 => by
    obtain ⟨r1, e1, h1⟩ := h 0 x r rfl h0
    obtain ⟨r2, e2, h2⟩ := forL_run Iv l (i + 1) r1 (fun j y r q w => by
      have := h (j + 1) y r (by simpa using q) (by rw [show i + (j + 1) = i + 1 + j by omega]; exact w)
      rw [show i + (j + 1) + 1 = i + 1 + j + 1 by omega] at this
      exact this) h1
    refine ⟨r2, ?_, ?_⟩
    · unfold forL
      rw [e1]
      exact e2
    · rw [show i + (x :: l).length = i + 1 + l.length by simp; omega]
      exact h2
theorem sm62_of {i : Int} (h : 0 ≤ i) (h2 : i ≤ 1000000000) : sm62 i = true := by
  rw [sm62_iff]
  omega
theorem rngD_two {a b : Int} (h : sm62 a = true) (h2 : sm62 b = true) : rngD [.int a, .int b] = some ((rangeI a b 1).map .int) := by
  show (if (sm62 a && sm62 b) = true then _ else none) = _
  rw [h, h2]
  rfl
theorem rngD_one {b : Int} (h2 : sm62 b = true) : rngD [.int b] = some ((rangeI 0 b 1).map .int) := by
  show (if sm62 b = true then _ else none) = _
  rw [h2]
  rfl
theorem rng2_eq {C : Cf} {a b : E} {r r1 r2 : En} {x y : Nat ⊕ D} {i j : Int} (ha : bor a (fun r => ev C a r) r = .ok x r1) (hb : bor b (fun r => ev C b r) r1 = .ok y r2) (hr : res r2 [x, y] = some [.int i, .int j]) (h : 0 ≤ i ∧ i ≤ 1000000000) (h2 : 0 ≤ j ∧ j ≤ 1000000000) :
    evI C (.rng2 a b) r = .ok ((rangeI i j 1).map .int) r2 := by
  rw [q_rng2, ha, R.bind_ok, hb, R.bind_ok, hr, Option.bind_some, rngD_two (sm62_of h.1 h.2) (sm62_of h2.1 h2.2), R.of_some]
theorem rng1_eq {C : Cf} {b : E} {r r2 : En} {y : Nat ⊕ D} {j : Int} (hb : bor b (fun r => ev C b r) r = .ok y r2) (hr : res r2 [y] = some [.int j]) (h2 : 0 ≤ j ∧ j ≤ 1000000000) :
    evI C (.rng1 b) r = .ok ((rangeI 0 j 1).map .int) r2 := by
  rw [q_rng1, hb, R.bind_ok, hr, Option.bind_some, rngD_one (sm62_of h2.1 h2.2), R.of_some]
theorem thw_self : ∀ r : En, thw r r = none ∨ thw r r = some r
  | [] => .inr rfl
  | y :: r => by
    have h1 : thw1 y y = none ∨ thw1 y y = some y := by
      cases y with
      | no => exact .inr rfl
      | sh d => exact .inr rfl
      | ow d =>
        by_cases c : shal d = true
        · exact .inr (show (if shal d then some (Sl.ow d) else none) = _ by rw [if_pos c])
        · exact .inl (show (if shal d then some (Sl.ow d) else none) = _ by rw [if_neg c])
      | io d =>
        by_cases c : shal d = true
        · exact .inr (show (if shal d then some (Sl.io d) else none) = _ by rw [if_pos c])
        · exact .inl (show (if shal d then some (Sl.io d) else none) = _ by rw [if_neg c])
    simp only [thw]
    rcases h1 with e | e <;> rcases thw_self r with q | q <;> simp [e, q]
theorem thawL_self (r : En) (ds : List D) : thawL r ds r = .ok (.ow (.lst ds)) r := by
  unfold thawL
  split
  · rcases thw_self r with e | e <;> rw [e]
  · rfl
section
variable {C : Cf} {r : En} {i : Nat} {a b : E}
@[simp] theorem iv_din {n : Bool} : isVar (.din n a i) = none := rfl
@[simp] theorem iv_dk0 : isVar .dk0 = none := rfl
@[simp] theorem qb_din {n : Bool} {f : En → R Val} : bor (.din n a i) f r = (f r).bind fun v r1 => .ok (.inr v.d) r1 := rfl
@[simp] theorem iv_dls : isVar (.dls i) = none := rfl
@[simp] theorem iv_dget : isVar (.dget i a) = none := rfl
@[simp] theorem iv_dcz {j : Nat} {it : I} : isVar (.dcz i j it) = none := rfl
@[simp] theorem qb_dls {f : En → R Val} : bor (.dls i) f r = (f r).bind fun v r1 => .ok (.inr v.d) r1 := rfl
@[simp] theorem qb_dget {f : En → R Val} : bor (.dget i a) f r = (f r).bind fun v r1 => .ok (.inr v.d) r1 := rfl
@[simp] theorem qb_dcz {j : Nat} {it : I} {f : En → R Val} : bor (.dcz i j it) f r = (f r).bind fun v r1 => .ok (.inr v.d) r1 := rfl
@[simp] theorem q_dls : ev C (.dls i) r = match r[i]? with | some (.ow (.dts ks)) => .ok (.ow (.lst (ks.map tupK))) r | _ => .bad := by simp only [ev] <;> rfl
@[simp] theorem q_dget : ev C (.dget i a) r = if (r.rd i).isSome = true then (ev C a r).bind fun v r1 => (match r1.rd i, v.d with | some (.dct ks vs), .int n => R.of ((dgetL ks vs n).map .sh) r1 | _, _ => .bad) else .bad := by simp only [ev] <;> rfl
@[simp] theorem q_dcz {j : Nat} {it : I} : ev C (.dcz i j it) r = (evI C it r).bind fun l r1 => if noAt r1 [i, j] && decide (i ≠ j) && decide (l.length ≤ 100000) then R.of (dictF [.lst l]) r1 else .bad := by simp only [ev]
@[simp] theorem qb_dk0 {f : En → R Val} : bor .dk0 f r = (f r).bind fun v r1 => .ok (.inr v.d) r1 := rfl
@[simp] theorem q_dk0 : ev C .dk0 r = .ok (.ow (.dct [] [])) r := by simp only [ev]
@[simp] theorem q_din {n : Bool} : ev C (.din n a i) r = (ev C a r).bind fun v r1 => match r1[i]?, v.d with
    | some (.ow (.dts ks)), .tup l => (match keysD l with
      | some kk => .ok (.sh (.bl (xor n (ks.any fun x => decide (x = kk))))) r1
      | none => .bad)
    | _, _ => .bad := by simp only [ev] <;> rfl
@[simp] theorem iv_rev : isVar (.rev a) = none := rfl
@[simp] theorem q_dk : evI C (.dk i) r = match r[i]? with | some (.ow (.dts ks)) => .ok (ks.map tupK) (r.set i .no) | _ => .bad := by simp only [evI] <;> rfl
@[simp] theorem iv_dzp {es : List E} : isVar (.dzp es) = none := rfl
@[simp] theorem qb_dzp {es : List E} {f : En → R Val} : bor (.dzp es) f r = (f r).bind fun v r1 => .ok (.inr v.d) r1 := rfl
@[simp] theorem q_dzp {es : List E} : ev C (.dzp es) r = (evs C es r).bind fun ds r1 => R.of ((zipD true ds).bind fun l => dictF [.lst l]) r1 := by simp only [ev]
@[simp] theorem qr_dzp {es : List E} : retV C (.dzp es) r = ev C (.dzp es) r := rfl
@[simp] theorem qb_rev {f : En → R Val} : bor (.rev a) f r = (f r).bind fun v r1 => .ok (.inr v.d) r1 := rfl
@[simp] theorem qr_dls : retV C (.dls i) r = ev C (.dls i) r := rfl
@[simp] theorem qr_dget : retV C (.dget i a) r = ev C (.dget i a) r := rfl
@[simp] theorem qr_dcz {j : Nat} {it : I} : retV C (.dcz i j it) r = ev C (.dcz i j it) r := rfl
@[simp] theorem qr_rev : retV C (.rev a) r = ev C (.rev a) r := rfl
@[simp] theorem q_rev : ev C (.rev a) r = (bor a (fun r => ev C a r) r).bind fun x r1 => op1 revD x r1 := by simp only [ev]
end
end Z
/-! YB: defs that many laws use (rows printed by zprint.py), and what they yield. -/
namespace Z
open PySem (Str Operator CmpOp)
/-- is_whole -/
def s_is_whole : List S :=
  [.ret (.and (.isi (.var 0) .int) (.not (.isi (.var 0) .bool)))]
def d_is_whole : Df := { modes := [false], names := 1, body := s_is_whole }
/-- is_between -/
def s_is_between : List S :=
  [.ite (.not (.val (.call 0 [.var 0] [] []))) [.ret (.con (.bl false))] [],
    .ret (.and (.or (.cmp .Is (.var 1) (.con .non)) (.cmp .GtE (.var 0) (.var 1))) (.or (.cmp .Is (.var 2) (.con .non)) (.cmp .LtE (.var 0) (.var 2))))]
def d_is_between : Df := { modes := [false, false, false], names := 3, body := s_is_between }
/-- power_of_two -/
def s_power_of_two : List S :=
  [.ret (.bin .LShift (.con (.int 1)) (.var 0))]
def d_power_of_two : Df := { modes := [false], names := 1, body := s_power_of_two }
/-- twos -/
def s_twos : List S :=
  [.asg (.v 1) (.con (.int 0)),
    .whl (.val (.cmp .Eq (.bin .Mod (.var 0) (.con (.int 2))) (.con (.int 0)))) [.par [0, 1] [.bin .FloorDiv (.var 0) (.con (.int 2)), .bin .Add (.var 1) (.con (.int 1))]],
    .ret (.var 1)]
def d_twos : Df := { modes := [false], names := 2, body := s_twos }
/-- good_row -/
def s_good_row : List S :=
  [.par [1, 2, 3, 4] [.lst [], .lst [], .bi .list [.var 0], .bin .Mult (.lst [.con (.int 0)]) (.bi .len [.var 0])],
    .whl (.val (.cmp .NotEq (.var 3) (.lst []))) [.asg (.v 5) (.mth .index (.var 4) [.bi .min [.var 4]]),
    .asg (.v 6) (.mut .popAt 3 [.var 5]),
    .ex (.mut .append 1 [.var 6]),
    .ex (.mut .append 2 [.mut .popAt 4 [.var 5]]),
    .asg (.v 4) (.lc (.bin .Add (.var 7) (.call 4 [.bin .Sub (.var 8) (.var 6)] [] [])) (.t [.v 7, .v 8]) (.zip true [.var 4, .var 3]) [] [7, 8])],
    .ret (.tup [.var 1, .var 2])]
def d_good_row : Df := { modes := [false], names := 9, body := s_good_row }
/-- is_width -/
def s_is_width : List S :=
  [.ret (.call 1 [.var 0, .con (.int 1), .con (.int 64)] [] [])]
def d_is_width : Df := { modes := [false], names := 1, body := s_is_width }
/-- check_width -/
def s_check_width : List S :=
  [.ite (.not (.val (.call 8 [.var 0] [] []))) [.nev] []]
def d_check_width : Df := { modes := [false], names := 1, body := s_check_width }
/-- is_of_width -/
def s_is_of_width : List S :=
  [.ret (.call 1 [.var 1, .con (.int 0), .bin .Sub (.call 3 [.var 0] [] []) (.con (.int 1))] [] [])]
def d_is_of_width : Df := { modes := [false, false], names := 2, body := s_is_of_width }
/-- rises -/
def s_rises : List S :=
  [.ret (.cmp .Eq (.lc (.var 1) (.v 1) (.rng2 (.con (.int 1)) (.bi .len [.var 0])) [.val (.cmp .GtE (.idx (.var 0) (.bin .Sub (.var 1) (.con (.int 1)))) (.idx (.var 0) (.var 1)))] [1]) (.lst []))]
def d_rises : Df := { modes := [false], names := 2, body := s_rises }
/-- are_places -/
def s_are_places : List S :=
  [.ite (.or (.not (.val (.isi (.var 1) .list))) (.val (.cmp .Eq (.var 1) (.lst [])))) [.ret (.con (.bl false))] [],
    .ret (.and (.cmp .Eq (.lc (.var 2) (.v 2) (.e (.var 1)) [.not (.val (.call 10 [.var 0, .var 2] [] []))] [2]) (.lst [])) (.call 11 [.var 1] [] []))]
def d_are_places : Df := { modes := [false, false], names := 3, body := s_are_places }
/-- check_places -/
def s_check_places : List S :=
  [.ex (.call 9 [.var 0] [] []),
    .ite (.not (.val (.call 12 [.var 0, .var 1] [] []))) [.nev] []]
def d_check_places : Df := { modes := [false, false], names := 2, body := s_check_places }
section
variable {Pg : Nat → Option Df} {fuel k : Nat}
theorem m_is_whole (h0 : Pg 0 = some d_is_whole) (fuel k : Nat) (i : Int) : callD Pg fuel (k + 1) 0 [.int i] = .ok (.sh (.bl true)) [] := by
  rw [callD_eq h0 ⟨rfl, Nat.le_refl _⟩]
  simp [d_is_whole, s_is_whole, En.start, Sl.d?, isiD, boolV, tru, O.cr, outsOf]
theorem m_is_between (h0 : Pg 0 = some d_is_whole) (h1 : Pg 1 = some d_is_between) (fuel k : Nat) (i a b : Int) : callD Pg fuel (k + 2) 1 [.int i, .int a, .int b] = .ok (.sh (.bl (decide (a ≤ i ∧ i ≤ b)))) [] := by
  rw [callD_eq h1 ⟨rfl, Nat.le_refl _⟩]
  have e := m_is_whole h0 fuel k i
  simp [d_is_between, s_is_between, En.start, Sl.d?, isiD, boolV, tru, O.cr, outsOf, h0, d_is_whole, callR, argsOk, inouts, plains, apart, after, frzs, frz1, e, cmpD, isD, ordI, scal, flat, chgs]
  by_cases c : a ≤ i <;> simp [c]
theorem m_power_of_two (h3 : Pg 3 = some d_power_of_two) (fuel k : Nat) (n : Nat) (hn : n ≤ 100) : callD Pg fuel (k + 1) 3 [.int n] = .ok (.sh (.int (2 ^ n))) [] := by
  rw [callD_eq h3 ⟨rfl, Nat.le_refl _⟩]
  have b1 : bits 1 = 1 := by decide
  have c : (0 : Int) ≤ (n : Int) ∧ bits 1 + (n : Int).toNat ≤ 1000000 := by rw [b1]; omega
  simp [d_power_of_two, s_power_of_two, En.start, Sl.d?, O.cr, outsOf, binD, binI, c]
  rw [if_pos (by rw [b1]; omega)]
  rfl
theorem m_is_width (h0 : Pg 0 = some d_is_whole) (h1 : Pg 1 = some d_is_between) (h8 : Pg 8 = some d_is_width) (fuel k : Nat) (w : Int) : callD Pg fuel (k + 3) 8 [.int w] = .ok (.sh (.bl (decide (1 ≤ w ∧ w ≤ 64)))) [] := by
  rw [callD_eq h8 ⟨rfl, Nat.le_refl _⟩]
  have e := m_is_between h0 h1 fuel k w 1 64
  simp [d_is_width, s_is_width, En.start, Sl.d?, O.cr, outsOf, h1, d_is_between, callR, argsOk, inouts, plains, apart, after, frzs, frz1, e, scal, flat, chgs]
theorem m_check_width (h0 : Pg 0 = some d_is_whole) (h1 : Pg 1 = some d_is_between) (h8 : Pg 8 = some d_is_width) (h9 : Pg 9 = some d_check_width) (fuel k : Nat) (w : Int) (hw : 1 ≤ w ∧ w ≤ 64) : callD Pg fuel (k + 4) 9 [.int w] = .ok (.sh .non) [] := by
  rw [callD_eq h9 ⟨rfl, Nat.le_refl _⟩]
  have e := m_is_width h0 h1 h8 fuel k w
  rw [decide_eq_true hw] at e
  simp [d_check_width, s_check_width, En.start, Sl.d?, O.cr, outsOf, h8, d_is_width, callR, argsOk, inouts, plains, apart, after, frzs, frz1, e, scal, flat, chgs, tru]
theorem m_is_of_width (h0 : Pg 0 = some d_is_whole) (h1 : Pg 1 = some d_is_between) (h3 : Pg 3 = some d_power_of_two) (h10 : Pg 10 = some d_is_of_width) (fuel k : Nat) (w : Nat) (hw : w ≤ 64) (i : Int) : callD Pg fuel (k + 3) 10 [.int w, .int i] = .ok (.sh (.bl (decide (0 ≤ i ∧ i ≤ 2 ^ w - 1)))) [] := by
  rw [callD_eq h10 ⟨rfl, Nat.le_refl _⟩]
  have e := m_is_between h0 h1 fuel k i 0 (2 ^ w - 1)
  have e2 := m_power_of_two h3 fuel (k + 1) w (by omega)
  simp [d_is_of_width, s_is_of_width, En.start, Sl.d?, O.cr, outsOf, h1, h3, d_is_between, d_power_of_two, callR, argsOk, inouts, plains, apart, after, frzs, frz1, e, e2, scal, flat, chgs, binD, binI]
/-- how often two goes into it -/
def v2 (n : Int) : Nat := if h : n ≠ 0 ∧ n % 2 = 0 then v2 (n / 2) + 1 else 0
termination_by n.natAbs
decreasing_by omega
theorem v2_even {n : Int} (h : n ≠ 0) (e : n % 2 = 0) : v2 n = v2 (n / 2) + 1 := by
  rw [v2]
  rw [dif_pos ⟨h, e⟩]
theorem v2_odd {n : Int} (e : n % 2 ≠ 0) : v2 n = 0 := by
  rw [v2]
  rw [dif_neg fun z => e z.2]
theorem twos_loop {C : Cf} : ∀ (m : Nat) (n : Int) (f : Int), n ≠ 0 → n.natAbs < 2 ^ m →
    ∃ n' : Int, whlL (evT C (.val (.cmp .Eq (.bin .Mod (.var 0) (.con (.int 2))) (.con (.int 0))))) (xs C [.par [0, 1] [.bin .FloorDiv (.var 0) (.con (.int 2)), .bin .Add (.var 1) (.con (.int 1))]]) (m + 1) [.sh (.int n), .sh (.int f)] = .nx [.sh (.int n'), .sh (.int (f + v2 n))]
  | 0, n, f, h, b => by
    exfalso
    have : n.natAbs < 1 := b
    omega
  | m + 1, n, f, h, b => by
    have b2 : (0 : Int) < 2 ∧ bits 2 ≤ 9000 := by decide
    rw [whlL]
    by_cases e : n % 2 = 0
    · have hn : n / 2 ≠ 0 := by omega
      have hb : (n / 2).natAbs < 2 ^ m := by
        have : 2 ^ (m + 1) = 2 * 2 ^ m := by rw [Nat.pow_succ, Nat.mul_comm]
        omega
      obtain ⟨n', q⟩ := twos_loop (C := C) m (n / 2) (f + 1) hn hb
      refine ⟨n', ?_⟩
      have hv : f + (v2 n : Int) = f + 1 + (v2 (n / 2) : Int) := by rw [v2_even h e]; omega
      rw [hv, ← q]
      simp [Sl.d?, cmpD, okq, lay, dep, eqv, boolV, binD, binI, e, b2, tru, puts, En.put]
    · refine ⟨n, ?_⟩
      rw [v2_odd e]
      simp [Sl.d?, cmpD, okq, lay, dep, eqv, boolV, binD, binI, e, tru]
theorem m_twos (h4 : Pg 4 = some d_twos) (k m : Nat) (n : Int) (hn : n ≠ 0) (hb : n.natAbs < 2 ^ m) (hf : m + 1 ≤ fuel) : callD Pg fuel (k + 1) 4 [.int n] = .ok (.sh (.int (v2 n))) [] := by
  rw [callD_eq h4 ⟨rfl, Nat.le_of_ble_eq_true rfl⟩]
  obtain ⟨f, rfl⟩ : ∃ f, fuel = f + 1 := ⟨fuel - 1, by omega⟩
  have hb2 : n.natAbs < 2 ^ f := Nat.lt_of_lt_of_le hb (Nat.pow_le_pow_right (by decide) (by omega))
  obtain ⟨n', q⟩ := twos_loop (C := Cz Pg (f + 1) k) f n 0 hn hb2
  simp only [Int.zero_add] at q
  simp [d_twos, s_twos, En.start, En.put, O.cr, outsOf]
  rw [q]
  simp [O.cr, outsOf]
end
end Z
/-! YC: rows of places: rises, are_places, check_places. -/
namespace Z
open PySem (Str Operator CmpOp)
/-- a list of whole numbers as data -/
abbrev il (l : List Int) : D := .lst (l.map .int)
theorem at_il (l : List Int) (i : Nat) (h : i < l.length) : atL (l.map .int) (i : Int) = some (.int l[i]) := by
  unfold atL ixN
  rw [if_pos (by omega), if_pos (by simp; omega)]
  simp [h]
theorem rng_mem {n : Nat} {d : D} (h : d ∈ (rangeI 1 n 1).map D.int) : ∃ i : Nat, d = .int (i + 1 : Nat) ∧ i + 1 < n := by
  obtain ⟨z, hz, rfl⟩ := List.mem_map.mp h
  unfold rangeI rangeN at hz
  rw [if_pos rfl] at hz
  obtain ⟨i, hi, rfl⟩ := List.mem_map.mp hz
  have := List.mem_range.mp hi
  refine ⟨i, ?_, by omega⟩
  congr 1
  omega
theorem rng_len (a b : Int) : ((rangeI a b 1).map D.int).length = (b - a).toNat := by
  unfold rangeI rangeN
  rw [if_pos rfl]
  simp
section
variable {Pg : Nat → Option Df} {fuel k : Nat}
theorem m_rises (h11 : Pg 11 = some d_rises) (ps : List Int) (hl : ps.length ≤ 100000) (hs : ps.Pairwise (· < ·)) : callD Pg fuel (k + 1) 11 [il ps] = .ok (.sh (.bl true)) [] := by
  rw [callD_eq h11 ⟨rfl, Nat.le_of_ble_eq_true rfl⟩]
  have e := lc_run (C := Cz Pg fuel k) (e := .var 1) (t := .v 1) (it := .rng2 (.con (.int 1)) (.bi .len [.var 0])) (ts := [.val (.cmp .GtE (.idx (.var 0) (.bin .Sub (.var 1) (.con (.int 1)))) (.idx (.var 0) (.var 1)))]) (own := [1]) (r := [.sh (il ps), .no]) (r1 := [.sh (il ps), .no])
    (l := (rangeI 1 ps.length 1).map .int) (fun _ => none) ?a rfl rfl ?b ?c
  case a =>
    exact rng2_eq (r1 := [.sh (il ps), .no]) (x := .inr (.int 1)) (y := .inr (.int ps.length)) (by simp) (by simp [Sl.d?, biD, lenF, lenD]) rfl (by omega) (by omega)
  case b =>
    rw [rng_len]
    have : (LINE : Nat) = 16777216 := rfl
    omega
  case c =>
    intro x hx
    obtain ⟨i, rfl, hi⟩ := rng_mem hx
    refine ⟨[.sh (il ps), .sh (.int (i + 1 : Nat))], ?_, rfl⟩
    have e1 : atL (ps.map .int) (i : Int) = some (.int ps[i]) := at_il ps i (by omega)
    have e2 : atL (ps.map .int) ((i : Int) + 1) = some (.int ps[i + 1]) := at_il ps (i + 1) hi
    have lt : ps[i] < ps[i + 1] := List.pairwise_iff_getElem.mp hs i (i + 1) (by omega) hi (by omega)
    have e3 : decide (ps[i + 1] ≤ ps[i]) = false := decide_eq_false (by omega)
    simp only [lcF, wip, bindT, En.put]
    simp [Sl.d?, binD, binI, idxD, e1, e2, cmpD, ordI, boolV, tru, e3]
  rw [show List.filterMap (fun _ => (none : Option D)) ((rangeI 1 ps.length 1).map D.int) = [] from by simp] at e
  simp [d_rises, s_rises, En.start, e, thawL, thw, thw1]
  simp [Sl.d?, cmpD, okq, lay, lays, dep, deps, eqv, eqvs, boolV, O.cr, outsOf]
theorem lays_il : ∀ l : List Int, lays (l.map .int) = true
  | [] => rfl
  | x :: l => by simp [lays, lay, lays_il l]
theorem deps_il : ∀ l : List Int, deps (l.map .int) = 0
  | [] => rfl
  | x :: l => by simp [deps, dep, deps_il l]
theorem okq_il (l : List Int) : okq (il l) = true := by simp [okq, lay, dep, lays_il, deps_il]
theorem eqvs_il : ∀ l m : List Int, eqvs (l.map .int) (m.map .int) = decide (l = m)
  | [], [] => by simp [eqvs]
  | [], _ :: _ => by simp [eqvs]
  | _ :: _, [] => by simp [eqvs]
  | x :: l, y :: m => by
    simp only [List.map_cons, eqvs, eqv, eqvs_il l m]
    by_cases h : x = y <;> simp [h]
theorem cmp_il_eq (l m : List Int) : cmpD .Eq (il l) (il m) = some (decide (l = m)) := by
  unfold cmpD
  rw [okq_il, okq_il]
  simp [eqv, eqvs_il]
theorem cmp_il_ne (l m : List Int) : cmpD .NotEq (il l) (il m) = some (!decide (l = m)) := by
  unfold cmpD
  rw [okq_il, okq_il]
  simp [eqv, eqvs_il]
theorem cmp_il_nil (l : List Int) : cmpD .Eq (.lst (l.map .int)) (.lst []) = some (decide (l = [])) := cmp_il_eq l []
theorem cmp_il_nnil (l : List Int) : cmpD .NotEq (.lst (l.map .int)) (.lst []) = some (!decide (l = [])) := cmp_il_ne l []
theorem m_are_places (h0 : Pg 0 = some d_is_whole) (h1 : Pg 1 = some d_is_between) (h3 : Pg 3 = some d_power_of_two) (h10 : Pg 10 = some d_is_of_width) (h11 : Pg 11 = some d_rises) (h12 : Pg 12 = some d_are_places) (w : Nat) (hw : w ≤ 64) (ps : List Int) (hl : ps.length ≤ 100000) (hn : ps ≠ [])
    (hs : ps.Pairwise (· < ·)) (hr : ∀ x ∈ ps, 0 ≤ x ∧ x ≤ 2 ^ w - 1) : callD Pg fuel (k + 4) 12 [.int w, il ps] = .ok (.sh (.bl true)) [] := by
  rw [callD_eq h12 ⟨rfl, Nat.le_of_ble_eq_true rfl⟩]
  have e := lc_run (C := Cz Pg fuel (k + 3)) (e := .var 2) (t := .v 2) (it := .e (.var 1)) (ts := [.not (.val (.call 10 [.var 0, .var 2] [] []))]) (own := [2]) (r := [.sh (.int w), .sh (il ps), .no]) (r1 := [.sh (.int w), .sh (il ps), .no])
    (l := ps.map .int) (fun _ => none) ?a rfl rfl ?b ?c
  case a => simp [itemsD]
  case b =>
    have : (LINE : Nat) = 16777216 := rfl
    rw [List.length_map]
    omega
  case c =>
    intro x hx
    obtain ⟨p, hp, rfl⟩ := List.mem_map.mp hx
    refine ⟨[.sh (.int w), .sh (il ps), .sh (.int p)], ?_, rfl⟩
    have e1 := m_is_of_width h0 h1 h3 h10 fuel k w hw p
    rw [decide_eq_true (hr p hp)] at e1
    simp only [lcF, wip, bindT, En.put]
    simp [Sl.d?, callR, h10, d_is_of_width, argsOk, inouts, plains, apart, after, frzs, frz1, e1, scal, flat, chgs, tru]
  rw [show List.filterMap (fun _ => (none : Option D)) (ps.map D.int) = [] from by simp] at e
  have e2 := m_rises (fuel := fuel) (k := k + 2) h11 ps hl hs
  have e3 : cmpD .Eq (D.lst []) (D.lst []) = some true := cmp_il_eq [] []
  simp [d_are_places, s_are_places, En.start, Sl.d?, isiD, boolV, tru, cmp_il_nil, hn, e, thawL, thw, thw1, e2, e3, callR, h11, d_rises, argsOk, inouts, plains, apart, after, frzs, frz1, scal, flat, chgs, O.cr, outsOf]
theorem m_check_places (h0 : Pg 0 = some d_is_whole) (h1 : Pg 1 = some d_is_between) (h3 : Pg 3 = some d_power_of_two) (h8 : Pg 8 = some d_is_width) (h9 : Pg 9 = some d_check_width) (h10 : Pg 10 = some d_is_of_width) (h11 : Pg 11 = some d_rises) (h12 : Pg 12 = some d_are_places) (h13 : Pg 13 = some d_check_places)
    (w : Nat) (hw1 : 1 ≤ w) (hw : w ≤ 64) (ps : List Int) (hl : ps.length ≤ 100000) (hn : ps ≠ []) (hs : ps.Pairwise (· < ·)) (hr : ∀ x ∈ ps, 0 ≤ x ∧ x ≤ 2 ^ w - 1) : callD Pg fuel (k + 5) 13 [.int w, il ps] = .ok (.sh .non) [] := by
  rw [callD_eq h13 ⟨rfl, Nat.le_refl _⟩]
  have e1 := m_check_width h0 h1 h8 h9 fuel k (w : Int) (by omega)
  have e2 := m_are_places (fuel := fuel) (k := k) h0 h1 h3 h10 h11 h12 w hw ps hl hn hs hr
  simp [d_check_places, s_check_places, En.start, Sl.d?, callR, h9, h12, d_check_width, d_are_places, argsOk, inouts, plains, apart, after, frzs, frz1, e1, e2, scal, flat, chgs, tru, O.cr, outsOf]
end
end Z
/-! YD: the greedy order of places, as the def makes it. -/
namespace Z
open PySem (Str Operator CmpOp)
/-- the place of the first of the least -/
def mi : List Int → Nat
  | [] => 0
  | x :: l => if l.all (fun y => decide (x ≤ y)) then 0 else mi l + 1
/-- the sums behind a step -/
def gsum (t : Int) (sums left : List Int) : List Int := sums.zipWith (fun h p => h + (v2 (p - t) : Int)) left
/-- order and numbers from a state on -/
def gr : Nat → List Int → List Int → List Int × List Int
  | 0, _, _ => ([], [])
  | n + 1, left, sums =>
    let i := mi sums
    let t := left.getD i 0
    let q := gr n (left.eraseIdx i) (gsum t (sums.eraseIdx i) (left.eraseIdx i))
    (t :: q.1, sums.getD i 0 :: q.2)
theorem mi_t {x : Int} {l : List Int} (c : l.all (fun y => decide (x ≤ y)) = true) : mi (x :: l) = 0 := if_pos c
theorem mi_f {x : Int} {l : List Int} (c : ¬ l.all (fun y => decide (x ≤ y)) = true) : mi (x :: l) = mi l + 1 := if_neg c
theorem mi_lt : ∀ {l : List Int}, l ≠ [] → mi l < l.length
  | [], h => absurd rfl h
  | x :: l, _ => by
    unfold mi
    split
    · simp
    · rename_i h
      have : l ≠ [] := fun e => by subst e; simp at h
      have := mi_lt this
      simp
      omega
theorem mi_at : ∀ {l : List Int} (h : l ≠ []), (∀ y ∈ l, l[mi l]'(mi_lt h) ≤ y) ∧ ∀ (j : Nat) (hj : j < mi l), l[j]'(Nat.lt_trans hj (mi_lt h)) ≠ l[mi l]'(mi_lt h)
  | [], h => absurd rfl h
  | x :: l, h => by
    by_cases c : l.all (fun y => decide (x ≤ y)) = true
    · have e : mi (x :: l) = 0 := mi_t c
      have c' : ∀ y ∈ l, x ≤ y := fun y m => of_decide_eq_true (List.all_eq_true.mp c y m)
      refine ⟨fun y m => ?_, fun j hj => by omega⟩
      simp only [e, List.getElem_cons_zero]
      rcases List.mem_cons.mp m with rfl | m
      · exact Int.le_refl _
      · exact c' y m
    · have e : mi (x :: l) = mi l + 1 := mi_f c
      have hl : l ≠ [] := fun z => by subst z; simp at c
      obtain ⟨h1, h2⟩ := mi_at hl
      have hx : ∃ y ∈ l, y < x := by
        refine Classical.byContradiction fun z => c (List.all_eq_true.mpr fun y m => decide_eq_true ?_)
        exact Classical.byContradiction fun w => z ⟨y, m, by omega⟩
      obtain ⟨y, my, ly⟩ := hx
      have lt : l[mi l]'(mi_lt hl) < x := Int.lt_of_le_of_lt (h1 y my) ly
      simp only [e, List.getElem_cons_succ]
      refine ⟨fun y m => ?_, fun j hj => ?_⟩
      · rcases List.mem_cons.mp m with rfl | m
        · omega
        · exact h1 y m
      · cases j with
        | zero => simp only [List.getElem_cons_zero]; omega
        | succ j => simp only [List.getElem_cons_succ]; exact h2 j (by omega)
theorem minI_mi {l : List Int} (h : l ≠ []) : minI l = some (l[mi l]'(mi_lt h)) := by
  obtain ⟨h1, _⟩ := mi_at h
  have hm := List.getElem_mem (mi_lt h)
  cases l with
  | nil => exact absurd rfl h
  | cons x r =>
    have q : minI (x :: r) = some (r.foldl min x) := rfl
    obtain ⟨b1, b2⟩ := minI_spec q
    rw [q]
    have := h1 _ b1
    have := b2 _ hm
    congr 1
    omega
theorem indexD_mi {l : List Int} (h : l ≠ []) : indexD (.int (l[mi l]'(mi_lt h))) (l.map .int) = some (mi l) := by
  obtain ⟨_, h2⟩ := mi_at h
  have hm := mi_lt h
  unfold indexD
  rw [List.find?_range_eq_some]
  refine ⟨?_, by simpa using hm, fun j hj => ?_⟩
  · simp [hm, eqv]
  · have hj2 : j < l.length := Nat.lt_trans hj hm
    have := h2 j hj
    simp [hj2, eqv, this]
theorem flat_il (l : List Int) : (l.map D.int).all flat = true := by simp [flat]
theorem mt_mi {l : List Int} (h : l ≠ []) : mtD .index (il l) [.int (l[mi l]'(mi_lt h))] = some (.int (mi l : Nat)) := by
  simp only [mtD, flat_il, flat, Bool.and_true, if_true, indexD_mi h, Option.map_some]
  rfl
theorem ixN_nat {n i : Nat} (h : i < n) : ixN n (i : Int) = some i := by
  unfold ixN
  rw [if_pos (by omega), if_pos (by omega)]
  simp
theorem erase_map : ∀ (l : List Int) (i : Nat), (l.map D.int).eraseIdx i = (l.eraseIdx i).map D.int
  | [], _ => rfl
  | _ :: _, 0 => rfl
  | x :: l, i + 1 => by simp [erase_map l i]
theorem mu_popAt_il {l : List Int} {i : Nat} (h : i < l.length) (hl : l.length ≤ LINE) : muD .popAt (il l) [.int (i : Int)] = some (il (l.eraseIdx i), .int l[i]) := by
  simp only [muD, List.length_map]
  rw [if_pos hl, ixN_nat h]
  simp [h, erase_map]
theorem shal_il (l : List Int) : shal (il l) = true := flat_il l
/-- the comprehension of good_row -/
theorem m_gsum {Pg : Nat → Option Df} {fuel k : Nat} (h4 : Pg 4 = some d_twos) (m : Nat) (hf : m + 1 ≤ fuel) (pl : D) (od nb left sums : List Int) (at_ : D) (t : Int) (hl : sums.length = left.length) (hs : sums.length ≤ 100000) (hd : ∀ p ∈ left, p ≠ t ∧ (p - t).natAbs < 2 ^ m) :
    ev (Cz Pg fuel (k + 1)) (.lc (.bin .Add (.var 7) (.call 4 [.bin .Sub (.var 8) (.var 6)] [] [])) (.t [.v 7, .v 8]) (.zip true [.var 4, .var 3]) [] [7, 8]) [.sh pl, .ow (il od), .ow (il nb), .ow (il left), .ow (il sums), .sh at_, .sh (.int t), .no, .no] =
      .ok (.ow (il (gsum t sums left))) [.sh pl, .ow (il od), .ow (il nb), .ow (il left), .ow (il sums), .sh at_, .sh (.int t), .no, .no] := by
  have e := lc_run (C := Cz Pg fuel (k + 1)) (e := .bin .Add (.var 7) (.call 4 [.bin .Sub (.var 8) (.var 6)] [] [])) (t := .t [.v 7, .v 8]) (it := .zip true [.var 4, .var 3]) (ts := []) (own := [7, 8])
    (r := [.sh pl, .ow (il od), .ow (il nb), .ow (il left), .ow (il sums), .sh at_, .sh (.int t), .no, .no]) (r1 := [.sh pl, .ow (il od), .ow (il nb), .sh (il left), .sh (il sums), .sh at_, .sh (.int t), .no, .no])
    (l := zip2D (sums.map .int) (left.map .int)) (fun d => match d with | .tup [.int h, .int p] => some (.int (h + (v2 (p - t) : Int))) | _ => none) ?a rfl rfl ?b ?c
  case a => simp [zipD, lstD, hl]
  case b =>
    have : (LINE : Nat) = 16777216 := rfl
    simp [zip2D]
    omega
  case c =>
    intro x hx
    obtain ⟨h, p, rfl, hp⟩ : ∃ h p, x = .tup [.int h, .int p] ∧ p ∈ left := by
      obtain ⟨i, hi, q⟩ := List.getElem_of_mem hx
      simp only [zip2D, List.getElem_zipWith, List.getElem_map] at q
      exact ⟨_, _, q.symm, List.getElem_mem _⟩
    obtain ⟨n1, n2⟩ := hd p hp
    have e1 := m_twos (fuel := fuel) h4 k m (p - t) (by omega) n2 hf
    refine ⟨[.sh pl, .ow (il od), .ow (il nb), .sh (il left), .sh (il sums), .sh at_, .sh (.int t), .sh (.int h), .sh (.int p)], ?_, rfl⟩
    simp only [lcF, wip, bindT, bindTs, En.put]
    simp [Sl.d?, callR, h4, d_twos, argsOk, inouts, plains, apart, after, frzs, frz1, e1, scal, flat, chgs, tru, binD, binI, En.put]
  rw [e]
  have q : List.filterMap (fun d => match d with | .tup [.int h, .int p] => some (D.int (h + (v2 (p - t) : Int))) | _ => none) (zip2D (sums.map .int) (left.map .int)) = (gsum t sums left).map .int := by
    clear e hd hl hs
    unfold zip2D gsum
    induction sums generalizing left with
    | nil => rfl
    | cons x l ih =>
      cases left with
      | nil => rfl
      | cons y m' =>
        simp only [List.map_cons, List.zipWith_cons_cons, List.filterMap_cons]
        rw [ih]
  rw [q]
  simp [thawL, thw, thw1, flat_il, shal_il]
  exact fun _ _ => rfl
end Z
/-! YE: good_row's loop. -/
namespace Z
open PySem (Str Operator CmpOp)
abbrev grC : Z.T := .val (.cmp .NotEq (.var 3) (.lst []))
abbrev grB : List S := [.asg (.v 5) (.mth .index (.var 4) [.bi .min [.var 4]]),
    .asg (.v 6) (.mut .popAt 3 [.var 5]),
    .ex (.mut .append 1 [.var 6]),
    .ex (.mut .append 2 [.mut .popAt 4 [.var 5]]),
    .asg (.v 4) (.lc (.bin .Add (.var 7) (.call 4 [.bin .Sub (.var 8) (.var 6)] [] [])) (.t [.v 7, .v 8]) (.zip true [.var 4, .var 3]) [] [7, 8])]
theorem bi_min_il {l : List Int} (h : l ≠ []) : biD .min [il l] = some (.sh (.int (l[mi l]'(mi_lt h)))) := by
  show (Z.intsD (l.map .int)).bind _ = _
  rw [ints_map]
  simp [minI_mi h]
theorem gr_step {Pg : Nat → Option Df} {fuel k : Nat} (h4 : Pg 4 = some d_twos) (m : Nat) (hf : m + 1 ≤ fuel) (pl : D) (od nb left sums : List Int) (y5 y6 : Sl) (hy : (y5 = .no ∧ y6 = .no) ∨ ∃ a b, y5 = .sh a ∧ y6 = .sh b) (hn : left ≠ []) (hl : sums.length = left.length) (hs : sums.length ≤ 100000) (ho : od.length ≤ 100000) (hb : nb.length ≤ 100000)
    (hd : ∀ p ∈ left.eraseIdx (mi sums), p ≠ left.getD (mi sums) 0 ∧ (p - left.getD (mi sums) 0).natAbs < 2 ^ m) :
    xs (Cz Pg fuel (k + 1)) grB [.sh pl, .ow (il od), .ow (il nb), .ow (il left), .ow (il sums), y5, y6, .no, .no] =
      .nx [.sh pl, .ow (il (od ++ [left.getD (mi sums) 0])), .ow (il (nb ++ [sums.getD (mi sums) 0])), .ow (il (left.eraseIdx (mi sums))), .ow (il (gsum (left.getD (mi sums) 0) (sums.eraseIdx (mi sums)) (left.eraseIdx (mi sums)))), .sh (.int (mi sums : Nat)), .sh (.int (left.getD (mi sums) 0)), .no, .no] := by
  have hns : sums ≠ [] := fun e => by subst e; simp at hl; exact hn (List.eq_nil_of_length_eq_zero hl.symm)
  have L : (LINE : Nat) = 16777216 := rfl
  have i1 := mi_lt hns
  have i2 : mi sums < left.length := by omega
  have g1 : left.getD (mi sums) 0 = left[mi sums] := by simp [i2]
  have g2 : sums.getD (mi sums) 0 = sums[mi sums] := by simp [i1]
  rw [g1] at hd
  rw [g1, g2]
  have e1 := mt_mi hns
  have e2 := mu_popAt_il (l := left) i2 (by omega)
  have e3 := mu_popAt_il (l := sums) i1 (by omega)
  have e4 := bi_min_il hns
  have e5 := m_gsum (fuel := fuel) (k := k) h4 m hf pl (od ++ [left[mi sums]]) (nb ++ [sums[mi sums]]) (left.eraseIdx (mi sums)) (sums.eraseIdx (mi sums)) (.int (mi sums : Nat)) left[mi sums] (by rw [List.length_eraseIdx_of_lt i1, List.length_eraseIdx_of_lt i2, hl]) (by rw [List.length_eraseIdx_of_lt i1]; omega) hd
  have a1 : od.length < LINE := by omega
  have a2 : nb.length < LINE := by omega
  have m1 : muD .append (il od) [.int left[mi sums]] = some (il (od ++ [left[mi sums]]), .non) := by simp [muD, a1]
  have m2 : muD .append (il nb) [.int sums[mi sums]] = some (il (nb ++ [sums[mi sums]]), .non) := by simp [muD, a2]
  rcases hy with ⟨rfl, rfl⟩ | ⟨a, b, rfl, rfl⟩ <;> simp [Sl.d?, lstB, lstAt, En.own?, En.chg, En.put, e1, e2, e3, e4, m1, m2, e5]
theorem gr_loop {Pg : Nat → Option Df} {fuel k : Nat} (h4 : Pg 4 = some d_twos) (m : Nat) (hf : m + 1 ≤ fuel) (pl : D) : ∀ (n q : Nat) (od nb left sums : List Int) (y5 y6 : Sl), ((y5 = .no ∧ y6 = .no) ∨ ∃ a b, y5 = .sh a ∧ y6 = .sh b) → left.length = n → sums.length = n → od.length + n ≤ 100000 → nb.length + n ≤ 100000 → n + 1 ≤ q →
    left.Nodup → (∀ p ∈ left, ∀ p' ∈ left, (p - p').natAbs < 2 ^ m) →
    ∃ z3 z4 z5 z6, whlL (evT (Cz Pg fuel (k + 1)) grC) (xs (Cz Pg fuel (k + 1)) grB) q [.sh pl, .ow (il od), .ow (il nb), .ow (il left), .ow (il sums), y5, y6, .no, .no] =
      .nx [.sh pl, .ow (il (od ++ (gr n left sums).1)), .ow (il (nb ++ (gr n left sums).2)), z3, z4, z5, z6, .no, .no]
  | 0, q, od, nb, left, sums, y5, y6, hy, hl, hs, _, _, hq, _, _ => by
    obtain ⟨q, rfl⟩ : ∃ p, q = p + 1 := ⟨q - 1, by omega⟩
    have e : left = [] := List.eq_nil_of_length_eq_zero hl
    subst e
    have e3 : cmpD .NotEq (il []) (D.lst []) = some false := cmp_il_ne [] []
    refine ⟨.ow (il []), .ow (il sums), y5, y6, ?_⟩
    rw [whlL]
    simp [Sl.d?, e3, boolV, tru, gr]
  | n + 1, q, od, nb, left, sums, y5, y6, hy, hl, hs, ho, hb, hq, nd, bd => by
    obtain ⟨q, rfl⟩ : ∃ p, q = p + 1 := ⟨q - 1, by omega⟩
    have hn : left ≠ [] := fun e => by subst e; simp at hl
    have hns : sums ≠ [] := fun e => by subst e; simp at hs
    have i1 := mi_lt hns
    have i2 : mi sums < left.length := by omega
    have g1 : left.getD (mi sums) 0 = left[mi sums] := by simp [i2]
    have sub : ∀ p ∈ left.eraseIdx (mi sums), p ∈ left := fun p hp => List.mem_of_mem_eraseIdx hp
    have st := gr_step (fuel := fuel) (k := k) h4 m hf pl od nb left sums y5 y6 hy hn (by omega) (by omega) (by omega) (by omega) fun p hp => by
      rw [g1]
      refine ⟨fun e => ?_, bd p (sub p hp) _ (List.getElem_mem _)⟩
      obtain ⟨j, hj, n1, e2⟩ := List.mem_eraseIdx_iff_getElem.mp hp
      rcases Nat.lt_or_gt_of_ne n1 with w | w
      · exact List.pairwise_iff_getElem.mp nd j (mi sums) hj i2 w (e2.trans e)
      · exact List.pairwise_iff_getElem.mp nd (mi sums) j i2 hj w (e2.trans e).symm
    obtain ⟨z3, z4, z5, z6, ih⟩ := gr_loop h4 m hf pl n q (od ++ [left.getD (mi sums) 0]) (nb ++ [sums.getD (mi sums) 0]) (left.eraseIdx (mi sums)) (gsum (left.getD (mi sums) 0) (sums.eraseIdx (mi sums)) (left.eraseIdx (mi sums))) (.sh (.int (mi sums : Nat))) (.sh (.int (left.getD (mi sums) 0))) (.inr ⟨_, _, rfl, rfl⟩)
      (by rw [List.length_eraseIdx_of_lt i2]; omega) (by simp only [gsum, List.length_zipWith]; rw [List.length_eraseIdx_of_lt i1, List.length_eraseIdx_of_lt i2]; omega) (by simp; omega) (by simp; omega) (by omega) (nd.eraseIdx _) (fun p hp p' hp' => bd p (sub p hp) p' (sub p' hp'))
    refine ⟨z3, z4, z5, z6, ?_⟩
    have e3 : cmpD .NotEq (il left) (D.lst []) = some true := by
      have := cmp_il_nnil left
      rw [decide_eq_false hn] at this
      exact this
    rw [whlL]
    have cnd : evT (Cz Pg fuel (k + 1)) grC [.sh pl, .ow (il od), .ow (il nb), .ow (il left), .ow (il sums), y5, y6, .no, .no] = .ok true [.sh pl, .ow (il od), .ow (il nb), .ow (il left), .ow (il sums), y5, y6, .no, .no] := by
      simp [Sl.d?, e3, boolV, tru]
    rw [cnd, R.run_ok, if_pos rfl, st, O.turn_nx, ih]
    simp [gr]
end Z
/-! YF: good_row, good_order. -/
namespace Z
open PySem (Str Operator CmpOp)
theorem line_le {n : Nat} (h : n ≤ 1000) : n ≤ LINE := Nat.le_trans h (Nat.le_of_ble_eq_true rfl)
theorem q_lstS {C : Cf} {es : List E} {r : En} (h : es.length ≤ 1000) : ev C (.lst es) r = (evs C es r).bind fun ds r1 => .ok (.ow (.lst ds)) r1 := by
  rw [q_lst]
  cases c : evs C es r with
  | ok v r1 =>
    rw [R.bind_ok, R.bind_ok, if_pos (line_le (by rw [evs_len c]; exact h))]
  | exc c v r1 => rfl
  | bad => rfl
theorem q_tupS {C : Cf} {es : List E} {r : En} (h : es.length ≤ 1000) : ev C (.tup es) r = (evs C es r).bind fun ds r1 => .ok (.sh (.tup ds)) r1 := by
  rw [q_tup]
  cases c : evs C es r with
  | ok v r1 =>
    rw [R.bind_ok, R.bind_ok, if_pos (line_le (by rw [evs_len c]; exact h))]
  | exc c v r1 => rfl
  | bad => rfl
@[simp high] theorem q_lst0 {C : Cf} {r : En} : ev C (.lst []) r = .ok (.ow (.lst [])) r := by rw [q_lstS (by simp), q_evs0, R.bind_ok]
@[simp high] theorem q_lst1 {C : Cf} {r : En} {a : E} : ev C (.lst [a]) r = (evs C [a] r).bind fun ds r1 => .ok (.ow (.lst ds)) r1 := q_lstS (by simp)
@[simp high] theorem q_lst2 {C : Cf} {r : En} {a b : E} : ev C (.lst [a, b]) r = (evs C [a, b] r).bind fun ds r1 => .ok (.ow (.lst ds)) r1 := q_lstS (by simp)
@[simp high] theorem q_lst3 {C : Cf} {r : En} {a b c : E} : ev C (.lst [a, b, c]) r = (evs C [a, b, c] r).bind fun ds r1 => .ok (.ow (.lst ds)) r1 := q_lstS (by simp)
@[simp high] theorem q_lst4 {C : Cf} {r : En} {a b c d : E} : ev C (.lst [a, b, c, d]) r = (evs C [a, b, c, d] r).bind fun ds r1 => .ok (.ow (.lst ds)) r1 := q_lstS (by simp)
@[simp high] theorem q_tup2 {C : Cf} {r : En} {a b : E} : ev C (.tup [a, b]) r = (evs C [a, b] r).bind fun ds r1 => .ok (.sh (.tup ds)) r1 := q_tupS (by simp)
@[simp high] theorem q_tup3 {C : Cf} {r : En} {a b c : E} : ev C (.tup [a, b, c]) r = (evs C [a, b, c] r).bind fun ds r1 => .ok (.sh (.tup ds)) r1 := q_tupS (by simp)
/-- an operator by its two sides; for list * int simp runs away -/
theorem bin_of {C : Cf} {op : Operator} {r r1 r2 : En} {a b : E} (x y : Nat ⊕ D) {u v : D} {w : Val} (ha : bor a (fun r => ev C a r) r = .ok x r1) (hb : bor b (fun r => ev C b r) r1 = .ok y r2) (hr : res r2 [x, y] = some [u, v]) (bm : binD op u v = some w) : ev C (.bin op a b) r = .ok w r2 := by
  rw [q_bin, ha, R.bind_ok, hb, R.bind_ok]
  unfold op2
  rw [hr]
  show R.of (binD op u v) r2 = _
  rw [bm]
  rfl
theorem flat_zeros : ∀ n : Nat, (List.replicate n [D.int 0]).flatten = (List.replicate n (0 : Int)).map .int
  | 0 => rfl
  | n + 1 => by rw [List.replicate_succ, List.replicate_succ, List.flatten_cons, flat_zeros n]; rfl
theorem bin_zeros (n : Nat) (h : n ≤ 100000) : binD .Mult (.lst [.int 0]) (.int (n : Int)) = some (.ow (il (List.replicate n 0))) := by
  have L : (LINE : Nat) = 16777216 := rfl
  have c : (n : Int).natAbs ≤ LINE ∧ [D.int 0].length * (n : Int).toNat ≤ LINE := by
    rw [Int.toNat_natCast, List.length_singleton]
    omega
  simp only [binD]
  rw [if_pos c, Int.toNat_natCast, flat_zeros]
theorem bin_zeros_ev {C : Cf} {r : En} {b : E} {n : Nat} (hb : bor b (fun r => ev C b r) r = .ok (.inr (.int n)) r) (h : n ≤ 100000) : ev C (.bin .Mult (.lst [.con (.int 0)]) b) r = .ok (.ow (il (List.replicate n 0))) r :=
  bin_of (.inr (.lst [.int 0])) (.inr (.int n)) (by simp) hb rfl (bin_zeros n h)
theorem evV_cons {C : Cf} {e : E} {es : List E} {r r1 r2 : En} {v : Val} {vs : List Val} (h : ev C e r = .ok v r1) (h2 : evV C es r1 = .ok vs r2) : evV C (e :: es) r = .ok (v :: vs) r2 := by
  rw [q_evV, h, R.bind_ok, h2, R.bind_ok]
theorem gr_puts (ps qs : List Int) : (if [1, 2, 3, 4].Nodup then O.of (puts [.sh (il ps), .no, .no, .no, .no, .no, .no, .no, .no] [1, 2, 3, 4] [.ow (.lst []), .ow (.lst []), .ow (il ps), .ow (il qs)]) else .bad) =
      .nx [.sh (il ps), .ow (il []), .ow (il []), .ow (il ps), .ow (il qs), .no, .no, .no, .no] := by
  rw [if_pos (by decide)]
  rfl
theorem gr_par {C : Cf} (ps : List Int) (hl : ps.length ≤ 50000) : x1 C (.par [1, 2, 3, 4] [.lst [], .lst [], .bi .list [.var 0], .bin .Mult (.lst [.con (.int 0)]) (.bi .len [.var 0])]) [.sh (il ps), .no, .no, .no, .no, .no, .no, .no, .no] =
      .nx [.sh (il ps), .ow (il []), .ow (il []), .ow (il ps), .ow (il (List.replicate ps.length 0)), .no, .no, .no, .no] := by
  have e4 := bin_zeros_ev (C := C) (r := [.sh (il ps), .no, .no, .no, .no, .no, .no, .no, .no]) (b := .bi .len [.var 0]) (n := ps.length) (by simp [Sl.d?, biD, lenF, lenD]) (by omega)
  have e3 : ev C (.bi .list [.var 0]) [.sh (il ps), .no, .no, .no, .no, .no, .no, .no, .no] = .ok (.ow (il ps)) [.sh (il ps), .no, .no, .no, .no, .no, .no, .no, .no] := by simp [Sl.d?, biD, listF, seqD]
  rw [q_par, evV_cons q_lst0 (evV_cons q_lst0 (evV_cons e3 (evV_cons e4 q_evV0))), R.run_ok, gr_puts]
theorem m_good_row {Pg : Nat → Option Df} {fuel k : Nat} (h4 : Pg 4 = some d_twos) (h5 : Pg 5 = some d_good_row) (m : Nat) (hf : m + 1 ≤ fuel) (ps : List Int) (hl : ps.length ≤ 50000) (hq : ps.length + 1 ≤ fuel) (nd : ps.Nodup) (bd : ∀ p ∈ ps, ∀ p' ∈ ps, (p - p').natAbs < 2 ^ m) :
    callD Pg fuel (k + 2) 5 [il ps] = .ok (.sh (.tup [il (gr ps.length ps (List.replicate ps.length 0)).1, il (gr ps.length ps (List.replicate ps.length 0)).2])) [] := by
  rw [callD_eq h5 ⟨rfl, Nat.le_of_ble_eq_true rfl⟩]
  have L : (LINE : Nat) = 16777216 := rfl
  obtain ⟨z3, z4, z5, z6, e⟩ := gr_loop (fuel := fuel) (k := k) h4 m hf (il ps) ps.length fuel [] [] ps (List.replicate ps.length 0) .no .no (.inl ⟨rfl, rfl⟩) rfl (by simp) (by simp; omega) (by simp; omega) hq nd bd
  simp only [List.nil_append] at e
  have l2 : (2 : Nat) ≤ LINE := by omega
  show (xs (Cz Pg fuel (k + 1)) (.par [1, 2, 3, 4] [.lst [], .lst [], .bi .list [.var 0], .bin .Mult (.lst [.con (.int 0)]) (.bi .len [.var 0])] :: .whl grC grB :: [.ret (.tup [.var 1, .var 2])]) [.sh (il ps), .no, .no, .no, .no, .no, .no, .no, .no]).cr [false] = _
  rw [q_xs, gr_par ps hl, O.then_nx, q_xs, q_whl]
  show (O.then (whlL (evT (Cz Pg fuel (k + 1)) grC) (xs (Cz Pg fuel (k + 1)) grB) fuel [.sh (il ps), .ow (il []), .ow (il []), .ow (il ps), .ow (il (List.replicate ps.length 0)), .no, .no, .no, .no]) _).cr [false] = _
  rw [e, O.then_nx]
  simp [O.cr, outsOf, l2]
end Z
/-! YG: the numbers of a row of places: halves, one place less, even steps. -/
namespace Z
/-! ### runs -/
def bump (c t : Int) (L : List (Int × Int)) : List (Int × Int) := L.map fun q => (q.1, q.2 + c + v2 (q.1 - t))
inductive Run (c : Int) : List (Int × Int) → List Int → Prop
  | nil : Run c [] []
  | cons (L A : List (Int × Int)) (t s : Int) (B : List (Int × Int)) (out : List Int) (e : L = A ++ (t, s) :: B) (h : ∀ q ∈ A ++ B, s ≤ q.2) (r : Run c (bump c t (A ++ B)) out) : Run c L (s :: out)
theorem run_low {c : Int} (hc : 0 ≤ c) {L : List (Int × Int)} {out : List Int} (r : Run c L out) : ∀ b : Int, (∀ q ∈ L, b ≤ q.2) → ∀ x ∈ out, b ≤ x := by
  induction r with
  | nil => intro b _ x hx; cases hx
  | cons L A t s B out e h r ih =>
    subst e
    intro b hb x hx
    rcases List.mem_cons.mp hx with rfl | hx
    · exact hb (t, x) (by simp)
    · refine ih b (fun q hq => ?_) x hx
      obtain ⟨q0, m, rfl⟩ := List.mem_map.mp hq
      have : b ≤ q0.2 := hb q0 (by
        rcases List.mem_append.mp m with m | m
        · exact List.mem_append_left _ m
        · exact List.mem_append_right _ (List.mem_cons_of_mem _ m))
      show b ≤ q0.2 + c + _
      omega
theorem run_sorted {c : Int} (hc : 0 ≤ c) {L : List (Int × Int)} {out : List Int} (r : Run c L out) : out.Pairwise (· ≤ ·) := by
  induction r with
  | nil => exact List.Pairwise.nil
  | cons L A t s B out e h r ih =>
    refine List.pairwise_cons.mpr ⟨fun x hx => run_low hc r s (fun q hq => ?_) x hx, ih⟩
    obtain ⟨q0, m, rfl⟩ := List.mem_map.mp hq
    have := h q0 m
    show s ≤ q0.2 + c + _
    omega
/-- a list raised by its places -/
def ea : Int → Int → List Int → List Int
  | _, _, [] => []
  | a, c, x :: l => (a + x) :: ea (a + c) c l
theorem run_shift {c : Int} {L : List (Int × Int)} {out : List Int} (r : Run c L out) : ∀ (a : Int) (L0 : List (Int × Int)), L = L0.map (fun q => (q.1, a + q.2)) → ∃ o, Run 0 L0 o ∧ out = ea a c o := by
  induction r with
  | nil =>
    intro a L0 e
    have : L0 = [] := by simpa using e.symm
    subst this
    exact ⟨[], .nil, rfl⟩
  | cons L A t s B out e h r ih =>
    intro a L0 e0
    rw [e] at e0
    obtain ⟨A0, R0, rfl, rfl, e1⟩ := List.map_eq_append_iff.mp e0.symm
    obtain ⟨q0, B0, rfl, e2, rfl⟩ := List.map_eq_cons_iff.mp e1
    obtain ⟨t0, s0⟩ := q0
    obtain ⟨rfl, rfl⟩ := Prod.mk.inj e2
    obtain ⟨o, r0, rfl⟩ := ih (a + c) (bump 0 t0 (A0 ++ B0)) (by
      unfold bump
      rw [← List.map_append, List.map_map, List.map_map]
      apply List.map_congr_left
      intro q _
      show (q.1, a + q.2 + c + (v2 (q.1 - t0) : Int)) = (q.1, a + c + (q.2 + 0 + (v2 (q.1 - t0) : Int)))
      congr 1
      omega)
    refine ⟨s0 :: o, .cons _ A0 t0 s0 B0 o rfl (fun q hq => ?_) r0, rfl⟩
    have := h (q.1, a + q.2) (by rw [← List.map_append]; exact List.mem_map.mpr ⟨q, hq, rfl⟩)
    have : a + s0 ≤ a + q.2 := this
    omega
/-! ### halves -/
def pick (b : Int) (L : List (Int × Int)) : List (Int × Int) := (L.filter fun q => decide (q.1 % 2 = b)).map fun q => (q.1 / 2, q.2)
theorem pick_app (b : Int) (A B : List (Int × Int)) : pick b (A ++ B) = pick b A ++ pick b B := by simp [pick]
theorem pick_yes {b t s : Int} (h : t % 2 = b) (B : List (Int × Int)) : pick b ((t, s) :: B) = (t / 2, s) :: pick b B := by simp [pick, h]
theorem pick_no {b t s : Int} (h : t % 2 ≠ b) (B : List (Int × Int)) : pick b ((t, s) :: B) = pick b B := by simp [pick, h]
theorem pick_same {b t : Int} (ht : t % 2 = b) : ∀ X : List (Int × Int), (∀ q ∈ X, q.1 ≠ t) → pick b (bump 0 t X) = bump 1 (t / 2) (pick b X)
  | [], _ => rfl
  | (p, h) :: X, hx => by
    have ih := pick_same ht X fun q m => hx q (List.mem_cons_of_mem _ m)
    have np : p ≠ t := hx (p, h) List.mem_cons_self
    show pick b ((p, _) :: bump 0 t X) = _
    by_cases c : p % 2 = b
    · rw [pick_yes c, pick_yes c, ih]
      show _ = (p / 2, h + 1 + (v2 (p / 2 - t / 2) : Int)) :: bump 1 (t / 2) (pick b X)
      have e : (v2 (p - t) : Int) = v2 (p / 2 - t / 2) + 1 := by
        rw [v2_even (by omega) (by omega), show (p - t) / 2 = p / 2 - t / 2 by omega]
        rfl
      show (p / 2, h + 0 + (v2 (p - t) : Int)) :: _ = _
      rw [e]
      congr 2
      omega
    · rw [pick_no c, pick_no c, ih]
theorem pick_other {b t : Int} (hb : b = 0 ∨ b = 1) (ht : t % 2 ≠ b) : ∀ X : List (Int × Int), pick b (bump 0 t X) = pick b X
  | [] => rfl
  | (p, h) :: X => by
    have ih := pick_other hb ht X
    show pick b ((p, _) :: bump 0 t X) = _
    by_cases c : p % 2 = b
    · rw [pick_yes c, pick_yes c, ih]
      congr 2
      rw [v2_odd (by omega)]
      simp
    · rw [pick_no c, pick_no c, ih]
theorem bump_fst (c t : Int) (X : List (Int × Int)) : (bump c t X).map (·.1) = X.map (·.1) := by simp [bump]
theorem pick_mem {b : Int} {X : List (Int × Int)} {q : Int × Int} (h : q ∈ pick b X) : ∃ q0 ∈ X, q0.2 = q.2 := by
  obtain ⟨q0, m, rfl⟩ := List.mem_map.mp h
  exact ⟨q0, (List.mem_filter.mp m).1, rfl⟩
theorem run_split {L : List (Int × Int)} {out : List Int} {c : Int} (r : Run c L out) : c = 0 → (L.map (·.1)).Nodup → ∃ oe oo, Run 1 (pick 0 L) oe ∧ Run 1 (pick 1 L) oo ∧ out.Perm (oe ++ oo) := by
  induction r with
  | nil => exact fun _ _ => ⟨[], [], .nil, .nil, .refl _⟩
  | cons L A t s B out e h r ih =>
    intro hc nd
    subst hc e
    have nd2 : ((A ++ B).map (·.1)).Nodup := by
      simp only [List.map_append, List.map_cons] at nd ⊢
      exact (List.perm_middle.nodup_iff.mp nd).of_cons
    have ne : ∀ q ∈ A ++ B, q.1 ≠ t := by
      simp only [List.map_append, List.map_cons] at nd
      have := (List.nodup_cons.mp (List.perm_middle.nodup_iff.mp nd)).1
      intro q hq e
      apply this
      rw [← List.map_append]
      exact List.mem_map.mpr ⟨q, hq, e⟩
    obtain ⟨oe, oo, r0, r1, p⟩ := ih rfl (by rw [bump_fst]; exact nd2)
    by_cases c : t % 2 = 0
    · rw [pick_same c _ ne] at r0
      rw [pick_other (.inr rfl) (by omega)] at r1
      refine ⟨s :: oe, oo, .cons _ (pick 0 A) (t / 2) s (pick 0 B) oe (by rw [pick_app, pick_yes c]) (fun q hq => ?_) (by rw [← pick_app]; exact r0), ?_, p.cons s⟩
      · rw [← pick_app] at hq
        obtain ⟨q0, m, e⟩ := pick_mem hq
        rw [← e]
        exact h q0 m
      · rw [pick_app, pick_no (by omega), ← pick_app]
        exact r1
    · have c1 : t % 2 = 1 := by omega
      rw [pick_same c1 _ ne] at r1
      rw [pick_other (.inl rfl) (by omega)] at r0
      refine ⟨oe, s :: oo, ?_, .cons _ (pick 1 A) (t / 2) s (pick 1 B) oo (by rw [pick_app, pick_yes c1]) (fun q hq => ?_) (by rw [← pick_app]; exact r1), (p.cons s).trans List.perm_middle.symm⟩
      · rw [pick_app, pick_no (by omega), ← pick_app]
        exact r0
      · rw [← pick_app] at hq
        obtain ⟨q0, m, e⟩ := pick_mem hq
        rw [← e]
        exact h q0 m
/-! ### by rests -/
def half (b : Int) (l : List Int) : List Int := (l.filter fun p => decide (p % 2 = b)).map (· / 2)
def br : Nat → List Int → List Int
  | 0, l => List.replicate l.length 0
  | d + 1, l => if l.length < 2 then List.replicate l.length 0 else sortI (ea 0 1 (br d (half 0 l)) ++ ea 0 1 (br d (half 1 l)))
theorem pick_fst (b : Int) (L : List (Int × Int)) : (pick b L).map (·.1) = half b (L.map (·.1)) := by
  simp only [pick, half, List.map_map, List.filter_map]
  rfl
theorem half_yes {b t : Int} (h : t % 2 = b) (B : List Int) : half b (t :: B) = t / 2 :: half b B := by simp [half, h]
theorem half_no {b t : Int} (h : t % 2 ≠ b) (B : List Int) : half b (t :: B) = half b B := by simp [half, h]
theorem half_mem {b p : Int} {l : List Int} (h : p ∈ half b l) : 2 * p + b ∈ l := by
  obtain ⟨q, m, rfl⟩ := List.mem_map.mp h
  obtain ⟨m, e⟩ := List.mem_filter.mp m
  have := of_decide_eq_true e
  rw [show 2 * (q / 2) + b = q by omega]
  exact m
theorem half_nodup {b : Int} {l : List Int} (h : l.Nodup) : (half b l).Nodup := by
  induction l with
  | nil => exact List.nodup_nil
  | cons x l ih =>
    obtain ⟨h1, h2⟩ := List.nodup_cons.mp h
    by_cases c : x % 2 = b
    · rw [half_yes c]
      refine List.nodup_cons.mpr ⟨fun m => h1 ?_, ih h2⟩
      have := half_mem m
      rw [show 2 * (x / 2) + b = x by omega] at this
      exact this
    · rw [half_no c]
      exact ih h2
theorem half_len (l : List Int) : (half 0 l).length + (half 1 l).length = l.length := by
  induction l with
  | nil => rfl
  | cons x l ih =>
    by_cases c : x % 2 = 0
    · rw [half_yes c, half_no (by omega)]
      simp only [List.length_cons]
      omega
    · rw [half_no c, half_yes (by omega)]
      simp only [List.length_cons]
      omega
/-- places within a width -/
def Wi (d : Nat) (l : List Int) : Prop := l.Nodup ∧ ∀ p ∈ l, 0 ≤ p ∧ p < 2 ^ d
theorem half_wi {d : Nat} {b : Int} (hb : b = 0 ∨ b = 1) {l : List Int} (h : Wi (d + 1) l) : Wi d (half b l) := by
  refine ⟨half_nodup h.1, fun p m => ?_⟩
  have := h.2 _ (half_mem m)
  have e : (2 : Int) ^ (d + 1) = 2 * 2 ^ d := by rw [Int.pow_succ]; omega
  rw [e] at this
  generalize (2 : Int) ^ d = z at *
  omega
theorem wi_zero {l : List Int} (h : Wi 0 l) : l.length < 2 := by
  match l, h with
  | [], _ => simp
  | [_], _ => simp
  | x :: y :: l, h =>
    have h1 := h.2 x (by simp)
    have h2 := h.2 y (by simp)
    have : x ≠ y := by
      have := (List.nodup_cons.mp h.1).1
      intro e
      apply this
      rw [e]
      simp
    simp at h1 h2
    omega
theorem run_short {c : Int} {L : List (Int × Int)} {out : List Int} (r : Run c L out) (hL : L.length < 2) (hz : ∀ q ∈ L, q.2 = 0) : out = List.replicate L.length 0 := by
  cases r with
  | nil => rfl
  | cons _ A t s B out e h r =>
    subst e
    have hA : A = [] := List.eq_nil_of_length_eq_zero (by simp at hL; omega)
    have hB : B = [] := List.eq_nil_of_length_eq_zero (by simp at hL; omega)
    subst hA hB
    have : s = 0 := hz (t, s) (by simp)
    subst this
    cases r with
    | nil => rfl
    | cons _ A' t' s' B' out' e' _ _ => simp [bump] at e'
theorem run_br : ∀ (d : Nat) (L : List (Int × Int)) (out : List Int), Run 0 L out → (∀ q ∈ L, q.2 = 0) → Wi d (L.map (·.1)) → out = br d (L.map (·.1))
  | 0, L, out, r, hz, hw => by
    have := wi_zero hw
    simp at this
    rw [run_short r this hz]
    simp [br]
  | d + 1, L, out, r, hz, hw => by
    by_cases c : L.length < 2
    · rw [run_short r c hz]
      simp [br, c]
    · have c' : ¬ (L.map (·.1)).length < 2 := by simpa using c
      rw [br, if_neg c']
      obtain ⟨oe, oo, r0, r1, p⟩ := run_split r rfl hw.1
      have z0 : ∀ b, ∀ q ∈ pick b L, q.2 = 0 := fun b q m => by
        obtain ⟨q0, m0, e⟩ := pick_mem m
        rw [← e]
        exact hz q0 m0
      have id0 : ∀ M : List (Int × Int), M = M.map (fun q => (q.1, 0 + q.2)) := fun M => by simp
      obtain ⟨e0, s0, rfl⟩ := run_shift r0 0 (pick 0 L) (id0 _)
      obtain ⟨e1, s1, rfl⟩ := run_shift r1 0 (pick 1 L) (id0 _)
      have q0 := run_br d _ _ s0 (z0 0) (by rw [pick_fst]; exact half_wi (.inl rfl) hw)
      have q1 := run_br d _ _ s1 (z0 1) (by rw [pick_fst]; exact half_wi (.inr rfl) hw)
      rw [pick_fst] at q0 q1
      rw [← q0, ← q1]
      exact sortI_uniq p (run_sorted (Int.le_refl 0) r)
theorem gr_run : ∀ (n : Nat) (left sums : List Int), left.length = n → sums.length = n → Run 0 (left.zip sums) (gr n left sums).2
  | 0, left, sums, hl, _ => by
    have : left = [] := List.eq_nil_of_length_eq_zero hl
    subst this
    exact .nil
  | n + 1, left, sums, hl, hs => by
    have hns : sums ≠ [] := fun e => by subst e; simp at hs
    have i1 := mi_lt hns
    have i2 : mi sums < left.length := by omega
    obtain ⟨m1, _⟩ := mi_at hns
    have hz : mi sums < (left.zip sums).length := by simp; omega
    have ih := gr_run n (left.eraseIdx (mi sums)) (gsum (left.getD (mi sums) 0) (sums.eraseIdx (mi sums)) (left.eraseIdx (mi sums))) (by rw [List.length_eraseIdx_of_lt i2]; omega)
      (by simp only [gsum, List.length_zipWith]; rw [List.length_eraseIdx_of_lt i1, List.length_eraseIdx_of_lt i2]; omega)
    have g1 : left.getD (mi sums) 0 = left[mi sums] := by simp [i2]
    have g2 : sums.getD (mi sums) 0 = sums[mi sums] := by simp [i1]
    have er : ∀ (i : Nat) (l m : List Int), l.length = m.length → (l.zip m).take i ++ (l.zip m).drop (i + 1) = (l.eraseIdx i).zip (m.eraseIdx i) := by
      intro i l
      induction l generalizing i with
      | nil => intro m e; have : m = [] := List.eq_nil_of_length_eq_zero e.symm; subst this; simp
      | cons x l ih =>
        intro m e
        cases m with
        | nil => simp at e
        | cons y m =>
          cases i with
          | zero => simp
          | succ i => simpa using ih i m (by simpa using e)
    have bz : ∀ (t : Int) (l m : List Int), l.zip (gsum t m l) = bump 0 t (l.zip m) := by
      intro t l
      induction l with
      | nil => intro m; simp [bump]
      | cons x l ih =>
        intro m
        cases m with
        | nil => simp [gsum, bump]
        | cons y m =>
          have := ih m
          simp only [gsum, bump, List.zipWith_cons_cons, List.zip_cons_cons, List.map_cons] at this ⊢
          rw [this]
          simp
    rw [bz] at ih
    show Run 0 (left.zip sums) (sums.getD (mi sums) 0 :: _)
    refine .cons _ ((left.zip sums).take (mi sums)) (left.getD (mi sums) 0) (sums.getD (mi sums) 0) ((left.zip sums).drop (mi sums + 1)) _ ?_ ?_ ?_
    · rw [g1, g2]
      have := List.take_append_drop (mi sums) (left.zip sums)
      rw [List.drop_eq_getElem_cons hz, List.getElem_zip] at this
      exact this.symm
    · intro q hq
      rw [g2]
      refine m1 _ ?_
      have : q ∈ left.zip sums := by
        rcases List.mem_append.mp hq with h | h
        · exact List.mem_of_mem_take h
        · exact List.mem_of_mem_drop h
      exact (List.of_mem_zip this).2
    · rw [er _ _ _ (by omega)]
      exact ih
/-- the numbers of a row of places -/
def nums (ps : List Int) : List Int := (gr ps.length ps (List.replicate ps.length 0)).2
theorem zip_fst : ∀ (l m : List Int), l.length = m.length → (l.zip m).map (·.1) = l
  | [], _, _ => rfl
  | x :: l, [], h => by simp at h
  | x :: l, y :: m, h => by simp [zip_fst l m (by simpa using h)]
theorem nums_br {d : Nat} {ps : List Int} (h : Wi d ps) : nums ps = br d ps := by
  have r := gr_run ps.length ps (List.replicate ps.length 0) rfl (by simp)
  have f := zip_fst ps (List.replicate ps.length 0) (by simp)
  have := run_br d _ _ r (fun q m => by
    have := (List.of_mem_zip m).2
    exact List.eq_of_mem_replicate this) (by rw [f]; exact h)
  rw [f] at this
  exact this
end Z
namespace Z
/-! ### interlacing -/
def cnt (l : List Int) (c : Int) : Nat := l.countP fun x => decide (x ≤ c)
theorem ea_len : ∀ (a c : Int) (l : List Int), (ea a c l).length = l.length
  | _, _, [] => rfl
  | a, c, x :: l => by simp [ea, ea_len]
theorem ea_get : ∀ (a c : Int) (l : List Int) (i : Nat) (h : i < (ea a c l).length), (ea a c l)[i] = a + c * i + l[i]'(by rw [ea_len] at h; exact h)
  | a, c, x :: l, 0, h => by simp [ea]
  | a, c, x :: l, i + 1, h => by
    have := ea_get (a + c) c l i (by simpa [ea] using h)
    simp only [ea, List.getElem_cons_succ, this]
    rw [show ((i + 1 : Nat) : Int) = (i : Int) + 1 from rfl, Int.mul_add]
    omega
theorem sortI_len (l : List Int) : (sortI l).length = l.length := (List.mergeSort_perm l _).length_eq
theorem sortI_sorted (l : List Int) : (sortI l).Pairwise (· ≤ ·) := by
  have h2 : (sortI l).Pairwise (fun a b => decide (a ≤ b) = true) := List.pairwise_mergeSort (fun a b c h h' => by simp only [decide_eq_true_eq] at *; omega) (fun a b => by simp only [Bool.or_eq_true, decide_eq_true_eq]; omega) l
  exact h2.imp fun h => of_decide_eq_true h
theorem zeros_sorted (n : Nat) : (List.replicate n (0 : Int)).Pairwise (· ≤ ·) := List.pairwise_replicate.mpr (.inr (Int.le_refl _))
theorem br_sorted : ∀ (d : Nat) (l : List Int), (br d l).Pairwise (· ≤ ·)
  | 0, l => zeros_sorted _
  | d + 1, l => by
    rw [br]
    split
    · exact zeros_sorted _
    · exact sortI_sorted _
theorem br_len : ∀ (d : Nat) (l : List Int), (br d l).length = l.length
  | 0, l => by simp [br]
  | d + 1, l => by
    rw [br]
    split
    · simp
    · rw [sortI_len, List.length_append, ea_len, ea_len, br_len, br_len, half_len]
/-! ### even steps -/
def fa : Nat → Nat
  | 0 => 0
  | n + 1 => fa n + v2 ((n + 1 : Nat) : Int)
/-- the numbers of neighbours at a step -/
def fl (t n : Nat) : List Int := (List.range n).map fun i => ((fa i + t * i : Nat) : Int)
def ap (a s : Int) (n : Nat) : List Int := (List.range n).map fun i => a + s * (i : Nat)
end Z
/-! UA: best ones of so many places, by halves (plain). -/
namespace Z
/-- two sorted lists, one -/
def mrg : List Int → List Int → List Int
  | [], o => o
  | x :: e, [] => x :: e
  | x :: e, y :: o => if x ≤ y then x :: mrg e (y :: o) else y :: mrg (x :: e) o
termination_by e o => e.length + o.length
theorem mrg_perm : ∀ e o : List Int, (mrg e o).Perm (e ++ o)
  | [], o => by simp [mrg]
  | x :: e, [] => by simp [mrg]
  | x :: e, y :: o => by
    rw [mrg]
    split
    · exact (mrg_perm e (y :: o)).cons x
    · exact ((mrg_perm (x :: e) o).cons y).trans List.perm_middle.symm
termination_by e o => e.length + o.length
theorem mrg_sorted : ∀ e o : List Int, e.Pairwise (· ≤ ·) → o.Pairwise (· ≤ ·) → (mrg e o).Pairwise (· ≤ ·)
  | [], o, _, h => by simpa [mrg] using h
  | x :: e, [], h, _ => by simpa [mrg] using h
  | x :: e, y :: o, he, ho => by
    obtain ⟨e1, e2⟩ := List.pairwise_cons.mp he
    obtain ⟨o1, o2⟩ := List.pairwise_cons.mp ho
    rw [mrg]
    split
    · rename_i c
      refine List.pairwise_cons.mpr ⟨fun z hz => ?_, mrg_sorted e (y :: o) e2 ho⟩
      rcases List.mem_append.mp ((mrg_perm e (y :: o)).mem_iff.mp hz) with h | h
      · exact e1 z h
      · rcases List.mem_cons.mp h with rfl | h
        · exact c
        · exact Int.le_trans c (o1 z h)
    · rename_i c
      refine List.pairwise_cons.mpr ⟨fun z hz => ?_, mrg_sorted (x :: e) o he o2⟩
      rcases List.mem_append.mp ((mrg_perm (x :: e) o).mem_iff.mp hz) with h | h
      · rcases List.mem_cons.mp h with rfl | h
        · omega
        · have := e1 z h
          omega
      · exact o1 z h
termination_by e o => e.length + o.length
/-- the sum of the first so many -/
def preS (l : List Int) (m : Nat) : Int := (l.take m).sum
theorem pre_zero (l : List Int) : preS l 0 = 0 := by simp [preS]
theorem pre_cons (x : Int) (l : List Int) (m : Nat) : preS (x :: l) (m + 1) = x + preS l m := by simp [preS]
theorem pre_succ (l : List Int) (m : Nat) (h : m < l.length) : preS l (m + 1) = preS l m + l[m] := by
  unfold preS
  rw [List.take_succ_eq_append_getElem h, List.sum_append]
  simp
theorem pre_head {y : Int} {o : List Int} (ho : (y :: o).Pairwise (· ≤ ·)) {x : Int} (h : x ≤ y) (j : Nat) (hj : j < (y :: o).length) : x + preS (y :: o) j ≤ preS (y :: o) (j + 1) := by
  rw [pre_succ _ _ hj]
  have : y ≤ (y :: o)[j] := by
    cases j with
    | zero => simp
    | succ j => exact (List.pairwise_cons.mp ho).1 _ (by simpa using List.getElem_mem _)
  omega
/-- no choice of firsts is less -/
theorem pre_le : ∀ (e o : List Int), e.Pairwise (· ≤ ·) → o.Pairwise (· ≤ ·) → ∀ i j, i ≤ e.length → j ≤ o.length → preS (mrg e o) (i + j) ≤ preS e i + preS o j
  | [], o, _, _, i, j, hi, _ => by
    have : i = 0 := by simpa using hi
    subst this
    simp [mrg, pre_zero]
  | x :: e, [], _, _, i, j, _, hj => by
    have : j = 0 := by simpa using hj
    subst this
    simp [mrg, pre_zero]
  | x :: e, y :: o, he, ho, i, j, hi, hj => by
    obtain ⟨e1, e2⟩ := List.pairwise_cons.mp he
    obtain ⟨o1, o2⟩ := List.pairwise_cons.mp ho
    rw [mrg]
    split
    · rename_i c
      cases i with
      | succ i =>
        have ih := pre_le e (y :: o) e2 ho i j (by simpa using hi) hj
        rw [show i + 1 + j = i + j + 1 by omega, pre_cons, pre_cons]
        omega
      | zero =>
        cases j with
        | zero => simp [pre_zero]
        | succ j =>
          have ih := pre_le e (y :: o) e2 ho 0 j (Nat.zero_le _) (by omega)
          rw [show 0 + (j + 1) = 0 + j + 1 by omega, pre_cons]
          rw [pre_zero] at ih ⊢
          have := pre_head ho c j (by omega)
          omega
    · rename_i c
      cases j with
      | succ j =>
        have ih := pre_le (x :: e) o he o2 i j hi (by simpa using hj)
        rw [show i + (j + 1) = i + j + 1 by omega, pre_cons, pre_cons]
        omega
      | zero =>
        cases i with
        | zero => simp [pre_zero]
        | succ i =>
          have ih := pre_le (x :: e) o he o2 i 0 (by omega) (Nat.zero_le _)
          rw [Nat.add_zero] at ih ⊢
          rw [pre_cons]
          rw [pre_zero] at ih ⊢
          have := pre_head he (show y ≤ x by omega) i (by omega)
          omega
termination_by e o => e.length + o.length
/-- .. and one is just that -/
theorem pre_eq : ∀ (e o : List Int) (m : Nat), m ≤ e.length + o.length → ∃ i j, i + j = m ∧ i ≤ e.length ∧ j ≤ o.length ∧ preS (mrg e o) m = preS e i + preS o j
  | [], o, m, h => ⟨0, m, by omega, by simp, by simpa using h, by simp [mrg, pre_zero]⟩
  | x :: e, [], m, h => ⟨m, 0, by omega, by simpa using h, by simp, by simp [mrg, pre_zero]⟩
  | x :: e, y :: o, 0, _ => ⟨0, 0, rfl, by simp, by simp, by simp [pre_zero]⟩
  | x :: e, y :: o, m + 1, h => by
    rw [mrg]
    split
    · obtain ⟨i, j, h1, h2, h3, h4⟩ := pre_eq e (y :: o) m (by simp at h ⊢; omega)
      exact ⟨i + 1, j, by omega, by simpa using h2, h3, by rw [pre_cons, pre_cons, h4]; omega⟩
    · obtain ⟨i, j, h1, h2, h3, h4⟩ := pre_eq (x :: e) o m (by simp at h ⊢; omega)
      exact ⟨i, j + 1, by omega, h2, by simpa using h3, by rw [pre_cons, pre_cons, h4]; omega⟩
termination_by e o => e.length + o.length
/-- place by place no less -/
def PwB (l' l : List Int) : Prop := l'.length ≤ l.length ∧ ∀ k (h : k < l'.length) (h2 : k < l.length), l[k] ≤ l'[k]
theorem cnt_of_pw (t : Int) : ∀ {l' l : List Int}, PwB l' l → l'.countP (fun x => decide (x ≤ t)) ≤ l.countP (fun x => decide (x ≤ t))
  | [], _, _ => by simp
  | _ :: _, [], h => by have := h.1; simp at this
  | x' :: r', x :: r, h => by
    have ih := cnt_of_pw t (l' := r') (l := r) ⟨by simpa using h.1, fun k a b => h.2 (k + 1) (Nat.succ_lt_succ a) (Nat.succ_lt_succ b)⟩
    have h0 := h.2 0 (by simp) (by simp)
    simp only [List.getElem_cons_zero] at h0
    rw [List.countP_cons, List.countP_cons]
    split <;> split
    · omega
    · rename_i a b
      simp at a b
      omega
    · omega
    · omega
theorem cnt_pre {l : List Int} (s : l.Pairwise (· ≤ ·)) (t : Int) (k : Nat) (h : k + 1 ≤ l.countP (fun x => decide (x ≤ t))) : ∃ hk : k < l.length, l[k] ≤ t := by
  have hk : k < l.length := by have := List.countP_le_length (p := fun x => decide (x ≤ t)) (l := l); omega
  refine ⟨hk, ?_⟩
  refine Classical.byContradiction fun n => ?_
  have e : l = l.take k ++ l.drop k := (List.take_append_drop k l).symm
  have z : (l.drop k).countP (fun x => decide (x ≤ t)) = 0 := by
    rw [List.countP_eq_zero]
    intro x hx
    obtain ⟨j, hj, rfl⟩ := List.getElem_of_mem hx
    rw [List.getElem_drop]
    have : l[k] ≤ l[k + j]'(by simp at hj; omega) := by
      rcases Nat.eq_zero_or_pos j with rfl | p
      · simp
      · exact List.pairwise_iff_getElem.mp s k (k + j) hk (by simp at hj; omega) (by omega)
    simp
    omega
  rw [e, List.countP_append, z] at h
  have := List.countP_le_length (p := fun x => decide (x ≤ t)) (l := l.take k)
  simp at this
  omega
theorem cnt_up {l : List Int} (s : l.Pairwise (· ≤ ·)) (k : Nat) (hk : k < l.length) : k + 1 ≤ l.countP (fun x => decide (x ≤ l[k])) := by
  have e : l = l.take (k + 1) ++ l.drop (k + 1) := (List.take_append_drop (k + 1) l).symm
  have a : (l.take (k + 1)).countP (fun x => decide (x ≤ l[k])) = (l.take (k + 1)).length := by
    rw [List.countP_eq_length]
    intro x hx
    obtain ⟨j, hj, rfl⟩ := List.getElem_of_mem hx
    simp at hj
    rw [List.getElem_take]
    rcases Nat.lt_or_ge j k with c | c
    · simpa using List.pairwise_iff_getElem.mp s j k (by omega) hk c
    · have : j = k := by omega
      subst this
      simp
  have b : l.countP (fun x => decide (x ≤ l[k])) = (l.take (k + 1)).countP (fun x => decide (x ≤ l[k])) + (l.drop (k + 1)).countP (fun x => decide (x ≤ l[k])) := by
    rw [← List.countP_append, ← e]
  rw [b, a, List.length_take]
  omega
theorem pw_of_cnt {l' l : List Int} (s' : l'.Pairwise (· ≤ ·)) (s : l.Pairwise (· ≤ ·)) (h : ∀ t, l'.countP (fun x => decide (x ≤ t)) ≤ l.countP (fun x => decide (x ≤ t))) : PwB l' l := by
  have key : ∀ k (hk : k < l'.length), ∃ h2 : k < l.length, l[k] ≤ l'[k] := fun k hk => cnt_pre s _ k (Nat.le_trans (cnt_up s' k hk) (h _))
  refine ⟨?_, fun k a b => (key k a).2⟩
  refine Classical.byContradiction fun n => ?_
  obtain ⟨h2, _⟩ := key l.length (by omega)
  omega
theorem pw_mrg {e' e o' o : List Int} (se' : e'.Pairwise (· ≤ ·)) (se : e.Pairwise (· ≤ ·)) (so' : o'.Pairwise (· ≤ ·)) (so : o.Pairwise (· ≤ ·)) (he : PwB e' e) (ho : PwB o' o) : PwB (mrg e' o') (mrg e o) := by
  refine pw_of_cnt (mrg_sorted _ _ se' so') (mrg_sorted _ _ se so) fun t => ?_
  rw [(mrg_perm e' o').countP_eq, (mrg_perm e o).countP_eq, List.countP_append, List.countP_append]
  have := cnt_of_pw t he
  have := cnt_of_pw t ho
  omega
theorem pwB_ea {l' l : List Int} (h : PwB l' l) : PwB (ea 0 1 l') (ea 0 1 l) := by
  refine ⟨by rw [ea_len, ea_len]; exact h.1, fun k a b => ?_⟩
  rw [ea_get, ea_get]
  have := h.2 k (by rwa [ea_len] at a) (by rwa [ea_len] at b)
  omega
theorem pw_pre : ∀ {l' l : List Int}, PwB l' l → ∀ m, m ≤ l'.length → preS l m ≤ preS l' m
  | l', l, h, 0, _ => by simp [pre_zero]
  | l', l, h, m + 1, hm => by
    have ih := pw_pre h m (by omega)
    rw [pre_succ _ _ (by have := h.1; omega), pre_succ _ _ (by omega)]
    have := h.2 m (by omega) (by have := h.1; omega)
    omega
theorem pw_same : ∀ {l' l : List Int}, PwB l' l → ∀ m, m ≤ l'.length → preS l m = preS l' m → l'.take m = l.take m
  | l', l, h, 0, _, _ => by simp
  | l', l, h, m + 1, hm, e => by
    have a := pw_pre h m (by omega)
    rw [pre_succ _ _ (by have := h.1; omega), pre_succ _ _ (by omega)] at e
    have b := h.2 m (by omega) (by have := h.1; omega)
    have ih := pw_same h m (by omega) (by omega)
    rw [List.take_succ_eq_append_getElem (by omega), List.take_succ_eq_append_getElem (l := l) (by have := h.1; omega), ih]
    congr 2
    omega
theorem ea_sorted {l : List Int} (h : l.Pairwise (· ≤ ·)) : (ea 0 1 l).Pairwise (· ≤ ·) := by
  rw [List.pairwise_iff_getElem] at h ⊢
  intro i j hi hj hij
  rw [ea_get, ea_get]
  have := h i j (by rwa [ea_len] at hi) (by rwa [ea_len] at hj) hij
  omega
/-- the pairs of so many -/
def triN : Nat → Int
  | 0 => 0
  | n + 1 => triN n + n
theorem pre_ea (l : List Int) : ∀ m, m ≤ l.length → preS (ea 0 1 l) m = preS l m + triN m
  | 0, _ => by simp [pre_zero, triN]
  | m + 1, h => by
    rw [pre_succ _ _ (by rw [ea_len]; omega), pre_succ _ _ (by omega), pre_ea l m (by omega), ea_get, triN]
    omega
theorem br_short : ∀ (d : Nat) (l : List Int), l.length < 2 → br d l = List.replicate l.length 0
  | 0, l, _ => rfl
  | d + 1, l, h => by rw [br, if_pos h]
/-- the numbers by halves, at any size -/
theorem br_mrg (d : Nat) (l : List Int) : br (d + 1) l = mrg (ea 0 1 (br d (half 0 l))) (ea 0 1 (br d (half 1 l))) := by
  have hl := half_len l
  by_cases h : l.length < 2
  · rw [br_short _ _ h, br_short d _ (show (half 0 l).length < 2 by omega), br_short d _ (show (half 1 l).length < 2 by omega)]
    rcases (by omega : (half 0 l).length = 0 ∧ (half 1 l).length = 0 ∨ (half 0 l).length = 1 ∧ (half 1 l).length = 0 ∨ (half 0 l).length = 0 ∧ (half 1 l).length = 1) with ⟨a, b⟩ | ⟨a, b⟩ | ⟨a, b⟩ <;> rw [← hl, a, b] <;> simp [ea, mrg]
  · rw [br, if_neg h]
    exact (sortI_uniq (mrg_perm _ _) (mrg_sorted _ _ (ea_sorted (br_sorted d _)) (ea_sorted (br_sorted d _)))).symm
theorem half_sub {A S : List Int} (h : A.Sublist S) (b : Int) : (half b A).Sublist (half b S) := (h.filter _).map _
theorem br_pw : ∀ (d : Nat) {A S : List Int}, A.Sublist S → PwB (br d A) (br d S)
  | 0, A, S, h => ⟨by rw [br_len, br_len]; exact h.length_le, fun k a b => by simp [br]⟩
  | d + 1, A, S, h => by
    rw [br_mrg, br_mrg]
    exact pw_mrg (ea_sorted (br_sorted d _)) (ea_sorted (br_sorted d _)) (ea_sorted (br_sorted d _)) (ea_sorted (br_sorted d _)) (pwB_ea (br_pw d (half_sub h 0))) (pwB_ea (br_pw d (half_sub h 1)))
/-- the twos of so many best ones -/
def cst (d : Nat) (S : List Int) (m : Nat) : Int := preS (br d S) m
theorem cst_le (d : Nat) (S : List Int) (i j : Nat) (hi : i ≤ (half 0 S).length) (hj : j ≤ (half 1 S).length) : cst (d + 1) S (i + j) ≤ cst d (half 0 S) i + triN i + (cst d (half 1 S) j + triN j) := by
  unfold cst
  rw [br_mrg]
  have := pre_le _ _ (ea_sorted (br_sorted d (half 0 S))) (ea_sorted (br_sorted d (half 1 S))) i j (by rw [ea_len, br_len]; exact hi) (by rw [ea_len, br_len]; exact hj)
  rwa [pre_ea _ _ (by rw [br_len]; exact hi), pre_ea _ _ (by rw [br_len]; exact hj)] at this
theorem cst_eq (d : Nat) (S : List Int) (m : Nat) (hm : m ≤ S.length) : ∃ i j, i + j = m ∧ i ≤ (half 0 S).length ∧ j ≤ (half 1 S).length ∧ cst (d + 1) S m = cst d (half 0 S) i + triN i + (cst d (half 1 S) j + triN j) := by
  have hl := half_len S
  obtain ⟨i, j, h1, h2, h3, h4⟩ := pre_eq (ea 0 1 (br d (half 0 S))) (ea 0 1 (br d (half 1 S))) m (by rw [ea_len, ea_len, br_len, br_len]; omega)
  rw [ea_len, br_len] at h2 h3
  refine ⟨i, j, h1, h2, h3, ?_⟩
  unfold cst
  rw [br_mrg, h4, pre_ea _ _ (by rw [br_len]; exact h2), pre_ea _ _ (by rw [br_len]; exact h3)]
/-- a part has best ones of so many -/
def tells (d : Nat) (A S : List Int) (m : Nat) : Prop := m ≤ A.length ∧ (br d A).take m = (br d S).take m
theorem tells_cst {d : Nat} {A S : List Int} (h : A.Sublist S) {m : Nat} : tells d A S m ↔ m ≤ A.length ∧ cst d A m = cst d S m := by
  constructor
  · rintro ⟨a, b⟩
    exact ⟨a, by unfold cst preS; rw [b]⟩
  · rintro ⟨a, b⟩
    exact ⟨a, pw_same (br_pw d h) m (by rw [br_len]; exact a) b.symm⟩
theorem tells_down {d : Nat} {A S : List Int} {m n : Nat} (h : tells d A S m) (hn : n ≤ m) : tells d A S n := by
  refine ⟨Nat.le_trans hn h.1, ?_⟩
  have := congrArg (List.take n) h.2
  rwa [List.take_take, List.take_take, Nat.min_eq_left hn] at this
theorem tells_zero (d : Nat) (A S : List Int) : tells d A S 0 := ⟨Nat.zero_le _, by simp⟩
theorem tells_self (d : Nat) (S : List Int) {m : Nat} (h : m ≤ S.length) : tells d S S m := ⟨h, rfl⟩
/-- numbers of even and odd ones that are best -/
def optE (d : Nat) (S : List Int) (m i : Nat) : Prop := i ≤ m ∧ i ≤ (half 0 S).length ∧ m - i ≤ (half 1 S).length ∧ cst d (half 0 S) i + triN i + (cst d (half 1 S) (m - i) + triN (m - i)) = cst (d + 1) S m
theorem opt_some (d : Nat) (S : List Int) (m : Nat) (hm : m ≤ S.length) : ∃ i, optE d S m i := by
  obtain ⟨i, j, h1, h2, h3, h4⟩ := cst_eq d S m hm
  obtain rfl : j = m - i := by omega
  exact ⟨i, by omega, h2, h3, h4.symm⟩
theorem tells_rec {d : Nat} {A S : List Int} (h : A.Sublist S) {m : Nat} : tells (d + 1) A S m ↔ ∃ i, optE d S m i ∧ tells d (half 0 A) (half 0 S) i ∧ tells d (half 1 A) (half 1 S) (m - i) := by
  have hl := half_len A
  have s0 := half_sub h 0
  have s1 := half_sub h 1
  have l0 := s0.length_le
  have l1 := s1.length_le
  constructor
  · intro t
    obtain ⟨a, b⟩ := (tells_cst h).mp t
    obtain ⟨i, j, h1, h2, h3, h4⟩ := cst_eq d A m a
    obtain rfl : j = m - i := by omega
    have c0 : cst d (half 0 S) i ≤ cst d (half 0 A) i := pw_pre (br_pw d s0) i (by rw [br_len]; exact h2)
    have c1 : cst d (half 1 S) (m - i) ≤ cst d (half 1 A) (m - i) := pw_pre (br_pw d s1) _ (by rw [br_len]; exact h3)
    have c2 := cst_le d S i (m - i) (by omega) (by omega)
    rw [show i + (m - i) = m by omega] at c2
    exact ⟨i, ⟨by omega, by omega, by omega, by omega⟩, (tells_cst s0).mpr ⟨h2, by omega⟩, (tells_cst s1).mpr ⟨h3, by omega⟩⟩
  · rintro ⟨i, ⟨o1, o2, o3, o4⟩, t0, t1⟩
    obtain ⟨a0, b0⟩ := (tells_cst s0).mp t0
    obtain ⟨a1, b1⟩ := (tells_cst s1).mp t1
    have c2 := cst_le d A i (m - i) a0 a1
    rw [show i + (m - i) = m by omega] at c2
    have c3 : cst (d + 1) S m ≤ cst (d + 1) A m := pw_pre (br_pw (d + 1) h) m (by rw [br_len]; omega)
    exact (tells_cst h).mpr ⟨by omega, by omega⟩
end Z
/-! UB: what can be lost at least (plain). -/
namespace Z
/-- the best numbers of even ones lie side by side -/
theorem opt_between {d : Nat} {S : List Int} {m lo hi i : Nat} (hl : optE d S m lo) (hh : optE d S m hi) (h1 : lo ≤ i) (h2 : i ≤ hi) : optE d S m i := by
  obtain ⟨l1, l2, l3, l4⟩ := hl
  obtain ⟨g1, g2, g3, g4⟩ := hh
  have fz : ∀ k, lo ≤ k → k ≤ hi → cst (d + 1) S m ≤ cst d (half 0 S) k + triN k + (cst d (half 1 S) (m - k) + triN (m - k)) := fun k a b => by
    have := cst_le d S k (m - k) (by omega) (by omega)
    rwa [show k + (m - k) = m by omega] at this
  have ei : ∀ k, k < (half 0 S).length → cst d (half 0 S) (k + 1) = cst d (half 0 S) k + (br d (half 0 S))[k]?.getD 0 := fun k hk => by
    have hk2 : k < (br d (half 0 S)).length := by rw [br_len]; exact hk
    unfold cst
    rw [pre_succ _ _ hk2, List.getElem?_eq_getElem hk2]
    rfl
  have oi : ∀ k, k < (half 1 S).length → cst d (half 1 S) (k + 1) = cst d (half 1 S) k + (br d (half 1 S))[k]?.getD 0 := fun k hk => by
    have hk2 : k < (br d (half 1 S)).length := by rw [br_len]; exact hk
    unfold cst
    rw [pre_succ _ _ hk2, List.getElem?_eq_getElem hk2]
    rfl
  have mo : ∀ (l : List Int), l.Pairwise (· ≤ ·) → ∀ a b, a ≤ b → b < l.length → l[a]?.getD 0 ≤ l[b]?.getD 0 := fun l hl a b hab hb => by
    rw [List.getElem?_eq_getElem hb, List.getElem?_eq_getElem (show a < l.length by omega)]
    rcases Nat.eq_or_lt_of_le hab with rfl | c
    · exact Int.le_refl _
    · exact List.pairwise_iff_getElem.mp hl a b (by omega) hb c
  have step : ∀ k, lo ≤ k → k < hi → cst d (half 0 S) k + triN k + (cst d (half 1 S) (m - k) + triN (m - k)) ≤ cst d (half 0 S) (k + 1) + triN (k + 1) + (cst d (half 1 S) (m - (k + 1)) + triN (m - (k + 1))) := fun k a b => by
    have f1 := fz (lo + 1) (by omega) (by omega)
    have x1 := ei lo (by omega)
    have x2 := ei k (by omega)
    have y1 := oi (m - (lo + 1)) (by omega)
    have y2 := oi (m - (k + 1)) (by omega)
    rw [show m - (lo + 1) + 1 = m - lo by omega] at y1
    rw [show m - (k + 1) + 1 = m - k by omega] at y2
    have z1 := mo _ (br_sorted d (half 0 S)) lo k a (by rw [br_len]; omega)
    have z2 := mo _ (br_sorted d (half 1 S)) (m - (k + 1)) (m - (lo + 1)) (by omega) (by rw [br_len]; omega)
    have t1 : triN (lo + 1) = triN lo + lo := rfl
    have t2 : triN (k + 1) = triN k + k := rfl
    have t3 : triN (m - lo) = triN (m - (lo + 1)) + (m - (lo + 1) : Nat) := by rw [show m - lo = m - (lo + 1) + 1 by omega]; rfl
    have t4 : triN (m - k) = triN (m - (k + 1)) + (m - (k + 1) : Nat) := by rw [show m - k = m - (k + 1) + 1 by omega]; rfl
    omega
  have up : ∀ n k, lo ≤ k → k + n = hi → cst d (half 0 S) k + triN k + (cst d (half 1 S) (m - k) + triN (m - k)) ≤ cst (d + 1) S m := fun n => by
    induction n with
    | zero =>
      intro k a b
      obtain rfl : k = hi := by omega
      omega
    | succ n ih =>
      intro k a b
      have := ih (k + 1) (by omega) (by omega)
      have := step k a (by omega)
      omega
  have := up (hi - i) i h1 (by omega)
  have := fz i h1 h2
  exact ⟨by omega, by omega, by omega, by omega⟩
/-! ### branches: the places at a level -/
def shL (L : Nat) (X : List Int) : List Int := X.map fun x => x / 2 ^ L
def evn (L : Nat) (X : List Int) : List Int := X.filter fun x => decide (x / 2 ^ L % 2 = 0)
def odn (L : Nat) (X : List Int) : List Int := X.filter fun x => decide (x / 2 ^ L % 2 = 1)
theorem sh_len (L : Nat) (X : List Int) : (shL L X).length = X.length := by simp [shL]
theorem half_sh (b : Int) (L : Nat) (X : List Int) : half b (shL L X) = shL (L + 1) (X.filter fun x => decide (x / 2 ^ L % 2 = b)) := by
  unfold half shL
  rw [List.filter_map, List.map_map]
  have e : ((fun x : Int => x / 2) ∘ fun x => x / 2 ^ L) = fun x : Int => x / 2 ^ (L + 1) := by
    funext x
    show x / 2 ^ L / 2 = _
    rw [Int.ediv_ediv_of_nonneg (Int.le_of_lt (Int.pow_pos (by decide))), Int.pow_succ]
  rw [e]
  rfl
theorem half_ev (L : Nat) (X : List Int) : half 0 (shL L X) = shL (L + 1) (evn L X) := half_sh 0 L X
theorem half_od (L : Nat) (X : List Int) : half 1 (shL L X) = shL (L + 1) (odn L X) := half_sh 1 L X
theorem eo_len (L : Nat) (X : List Int) : (evn L X).length + (odn L X).length = X.length := by
  have := half_len (shL L X)
  rwa [half_ev, half_od, sh_len, sh_len, sh_len] at this
theorem sh_sub {A X : List Int} (h : A.Sublist X) (L : Nat) : (shL L A).Sublist (shL L X) := h.map _
theorem evn_sub {A X : List Int} (h : A.Sublist X) (L : Nat) : (evn L A).Sublist (evn L X) := h.filter _
theorem odn_sub {A X : List Int} (h : A.Sublist X) (L : Nat) : (odn L A).Sublist (odn L X) := h.filter _
/-- what is left of a list -/
def wo (X K : List Int) : List Int := X.filter fun x => decide (x ∉ K)
theorem wo_sub (X K : List Int) : (wo X K).Sublist X := List.filter_sublist
theorem evn_wo (L : Nat) (X K : List Int) : evn L (wo X K) = wo (evn L X) K := by
  unfold evn wo
  rw [List.filter_filter, List.filter_filter]
  exact List.filter_congr fun _ _ => Bool.and_comm _ _
theorem odn_wo (L : Nat) (X K : List Int) : odn L (wo X K) = wo (odn L X) K := by
  unfold odn wo
  rw [List.filter_filter, List.filter_filter]
  exact List.filter_congr fun _ _ => Bool.and_comm _ _
theorem wo_app {X K M : List Int} (h : ∀ x ∈ X, x ∉ M) : wo X (K ++ M) = wo X K := by
  unfold wo
  apply List.filter_congr
  intro x hx
  apply decide_eq_decide.mpr
  rw [List.mem_append]
  exact ⟨fun n c => n (.inl c), fun n c => c.elim n (h x hx)⟩
theorem wo_app2 {X K M : List Int} (h : ∀ x ∈ X, x ∉ K) : wo X (K ++ M) = wo X M := by
  unfold wo
  apply List.filter_congr
  intro x hx
  apply decide_eq_decide.mpr
  rw [List.mem_append]
  exact ⟨fun n c => n (.inr c), fun n c => c.elim (h x hx) n⟩
/-- the best numbers of even ones, as the program tries them -/
def optL (d : Nat) (S : List Int) (m : Nat) : List Nat :=
  ((List.range (min m (half 0 S).length + 1 - (m - (half 1 S).length))).map fun a => m - (half 1 S).length + a).filter fun i => decide (cst d (half 0 S) i + triN i + (cst d (half 1 S) (m - i) + triN (m - i)) = cst (d + 1) S m)
theorem optL_mem {d : Nat} {S : List Int} {m i : Nat} : i ∈ optL d S m ↔ optE d S m i := by
  unfold optL optE
  rw [List.mem_filter, List.mem_map, decide_eq_true_eq]
  constructor
  · rintro ⟨⟨a, ha, rfl⟩, h⟩
    have := List.mem_range.mp ha
    exact ⟨by omega, by omega, by omega, h⟩
  · rintro ⟨h1, h2, h3, h4⟩
    exact ⟨⟨i - (m - (half 1 S).length), List.mem_range.mpr (by omega), by omega⟩, h4⟩
theorem optL_rise (d : Nat) (S : List Int) (m : Nat) : (optL d S m).Pairwise (· < ·) := by
  unfold optL
  refine List.Pairwise.sublist List.filter_sublist ?_
  rw [List.pairwise_map]
  exact List.pairwise_lt_range.imp fun h => by omega
def loO (d : Nat) (S : List Int) (m : Nat) : Nat := (optL d S m).headD 0
def hiO (d : Nat) (S : List Int) (m : Nat) : Nat := (optL d S m).getLastD 0
theorem lo_hi {d : Nat} {S : List Int} {m : Nat} (hm : m ≤ S.length) : optE d S m (loO d S m) ∧ optE d S m (hiO d S m) ∧ ∀ i, optE d S m i → loO d S m ≤ i ∧ i ≤ hiO d S m := by
  have r := optL_rise d S m
  obtain ⟨i0, h0⟩ := opt_some d S m hm
  have mem := @optL_mem d S m
  unfold loO hiO
  generalize optL d S m = l at *
  have i0 := mem.mpr h0
  cases l with
  | nil => cases i0
  | cons x l =>
    have e : (x :: l).getLastD 0 = (x :: l).getLast (by simp) := rfl
    rw [e]
    refine ⟨mem.mp List.mem_cons_self, mem.mp (List.getLast_mem _), fun i hi => ?_⟩
    have hi := mem.mpr hi
    constructor
    · show x ≤ i
      rcases List.mem_cons.mp hi with rfl | h
      · exact Nat.le_refl _
      · exact Nat.le_of_lt ((List.pairwise_cons.mp r).1 i h)
    · obtain ⟨j, hj, rfl⟩ := List.getElem_of_mem hi
      rw [List.getLast_eq_getElem]
      rcases Nat.lt_or_ge j ((x :: l).length - 1) with c | c
      · exact Nat.le_of_lt (List.pairwise_iff_getElem.mp r j _ hj (by simp) c)
      · have : j = (x :: l).length - 1 := by omega
        subst this
        exact Nat.le_refl _
/-- the first of the shortest lists -/
def minK : List (List Int) → List Int
  | [] => []
  | [K] => K
  | K :: M :: l => if M.length < K.length then minK (M :: l) else minK (K :: l)
theorem minK_ok : ∀ (n : Nat) (l : List (List Int)), l.length = n → l ≠ [] → minK l ∈ l ∧ ∀ K ∈ l, (minK l).length ≤ K.length
  | _, [], _, h => absurd rfl h
  | _, [K], _, _ => ⟨by simp [minK], fun M hM => by simp at hM; rw [hM]; simp [minK]⟩
  | 0, _ :: _ :: _, h, _ => by simp at h
  | n + 1, K :: M :: l, hl, _ => by
    rw [minK]
    split
    · rename_i c
      obtain ⟨a, b⟩ := minK_ok n (M :: l) (by simpa using hl) (by simp)
      refine ⟨List.mem_cons_of_mem _ a, fun N hN => ?_⟩
      rcases List.mem_cons.mp hN with rfl | h
      · have := b M List.mem_cons_self
        omega
      · exact b N h
    · rename_i c
      obtain ⟨a, b⟩ := minK_ok n (K :: l) (by simpa using hl) (by simp)
      refine ⟨?_, fun N hN => ?_⟩
      · rcases List.mem_cons.mp a with h | h
        · rw [h]; exact List.mem_cons_self
        · exact List.mem_cons_of_mem _ (List.mem_cons_of_mem _ h)
      · rcases List.mem_cons.mp hN with rfl | h
        · exact b _ List.mem_cons_self
        · rcases List.mem_cons.mp h with rfl | h
          · have := b K List.mem_cons_self
            omega
          · exact b N (List.mem_cons_of_mem _ h)
/-- two lists together, if there are both -/
def app2 (a b : Option (List Int)) : Option (List Int) := match a, b with
  | some x, some y => some (x ++ y)
  | _, _ => none
/-- what can be lost at least, as the program tells it -/
def lostP : Nat → Nat → List Int → Nat → Option (List Int)
  | 0, _, X, m => if X.length < m then some [] else if m = 0 then none else some X
  | d + 1, L, X, m => if X.length < m then some [] else if m = 0 then none else if X.length < 2 then some X else
    some (minK (([lostP d (L + 1) (evn L X) (loO d (shL L X) m), lostP d (L + 1) (odn L X) (m - hiO d (shL L X) m)] ++ (List.range (hiO d (shL L X) m - loO d (shL L X) m)).map fun a => app2 (lostP d (L + 1) (evn L X) (loO d (shL L X) m + 1 + a)) (lostP d (L + 1) (odn L X) (m + 1 - (loO d (shL L X) m + 1 + a)))).filterMap id))
/-- what it keeps -/
def LostOk (d L : Nat) (X : List Int) (m : Nat) (K : List Int) : Prop :=
  K.Nodup ∧ (∀ x ∈ K, x ∈ X) ∧ ¬ tells d (shL L (wo X K)) (shL L X) m ∧ ∀ A : List Int, A.Sublist X → ¬ tells d (shL L A) (shL L X) m → K.length + A.length ≤ X.length
theorem lost_none : ∀ (d L : Nat) (X : List Int) (m : Nat), lostP d L X m = none ↔ m = 0
  | 0, L, X, m => by
    unfold lostP
    split
    · simp; omega
    · split <;> simp_all
  | d + 1, L, X, m => by
    unfold lostP
    split
    · simp; omega
    · split
      · simp_all
      · split <;> simp_all
theorem ok_gt {d L : Nat} {X : List Int} {m : Nat} (h : X.length < m) : LostOk d L X m [] :=
  ⟨List.nodup_nil, fun x hx => (by cases hx), fun t => (by have := t.1; rw [sh_len] at this; have := (wo_sub X []).length_le; omega), fun A hA _ => (by simpa using hA.length_le)⟩
theorem ok_one {d L : Nat} {X : List Int} {m : Nat} (nX : X.Nodup) (h : ¬ X.length < m) (hm : m ≠ 0) (hx : X.length < 2) : LostOk d L X m X := by
  refine ⟨nX, fun x hx => hx, fun t => ?_, fun A hA n => ?_⟩
  · have a := t.1
    rw [sh_len] at a
    have : wo X X = [] := by
      unfold wo
      rw [List.filter_eq_nil_iff]
      intro x hx
      simpa using hx
    rw [this] at a
    simp at a
    omega
  · rcases Nat.eq_zero_or_pos A.length with z | z
    · omega
    · exfalso
      apply n
      have l := hA.length_le
      have : A = X := hA.eq_of_length (by omega)
      rw [this]
      exact tells_self d _ (by rw [sh_len]; omega)
theorem lost_ok : ∀ (d L : Nat) (X : List Int) (m : Nat) (K : List Int), X.Nodup → Wi d (shL L X) → lostP d L X m = some K → LostOk d L X m K
  | 0, L, X, m, K, nX, hW, e => by
    have w0 := wi_zero hW
    rw [sh_len] at w0
    unfold lostP at e
    split at e
    · rename_i c
      cases e
      exact ok_gt c
    · split at e
      · cases e
      · rename_i c1 c2
        cases e
        exact ok_one nX c1 c2 w0
  | d + 1, L, X, m, K, nX, hW, e => by
    unfold lostP at e
    split at e
    · rename_i c
      cases e
      exact ok_gt c
    split at e
    · cases e
    split at e
    · rename_i c1 c2 c3
      cases e
      exact ok_one nX c1 c2 c3
    rename_i c1 c2 c3
    have hm : m ≤ (shL L X).length := by rw [sh_len]; omega
    obtain ⟨ol, oh, ob⟩ := lo_hi (d := d) hm
    generalize loO d (shL L X) m = lo at *
    generalize hiO d (shL L X) m = hi at *
    have lh := (ob lo ol).2
    have nE : (evn L X).Nodup := nX.sublist List.filter_sublist
    have nO : (odn L X).Nodup := nX.sublist List.filter_sublist
    have wE : Wi d (shL (L + 1) (evn L X)) := by rw [← half_ev]; exact half_wi (.inl rfl) hW
    have wO : Wi d (shL (L + 1) (odn L X)) := by rw [← half_od]; exact half_wi (.inr rfl) hW
    have eE : ∀ x ∈ evn L X, x ∈ X ∧ x / 2 ^ L % 2 = 0 := fun x hx => by simpa [evn] using hx
    have eO : ∀ x ∈ odn L X, x ∈ X ∧ x / 2 ^ L % 2 = 1 := fun x hx => by simpa [odn] using hx
    have ihE := fun n K => lost_ok d (L + 1) (evn L X) n K nE wE
    have ihO := fun n K => lost_ok d (L + 1) (odn L X) n K nO wO
    have rcA := fun (A : List Int) (hA : A.Sublist X) => tells_rec (d := d) (sh_sub hA L) (m := m)
    simp only [half_ev, half_od] at rcA
    have leO := eo_len L X
    -- a candidate is one
    have cand : ∀ M, M ∈ (([lostP d (L + 1) (evn L X) lo, lostP d (L + 1) (odn L X) (m - hi)] ++ (List.range (hi - lo)).map fun a => app2 (lostP d (L + 1) (evn L X) (lo + 1 + a)) (lostP d (L + 1) (odn L X) (m + 1 - (lo + 1 + a)))).filterMap id) →
        M.Nodup ∧ (∀ x ∈ M, x ∈ X) ∧ ¬ tells (d + 1) (shL L (wo X M)) (shL L X) m := by
      intro M hM
      rw [List.mem_filterMap] at hM
      obtain ⟨o, ho, e2⟩ := hM
      have e2 : o = some M := e2
      subst e2
      rw [List.mem_append, List.mem_cons, List.mem_singleton, List.mem_map] at ho
      rcases ho with (h | h) | ⟨a, ha, h⟩
      · obtain ⟨k1, k2, k3, _⟩ := ihE lo M h.symm
        refine ⟨k1, fun x hx => (eE x (k2 x hx)).1, fun t => ?_⟩
        obtain ⟨i, oi, t0, t1⟩ := (rcA _ (wo_sub X M)).mp t
        rw [evn_wo] at t0
        exact k3 (tells_down t0 (ob i oi).1)
      · obtain ⟨k1, k2, k3, _⟩ := ihO (m - hi) M h.symm
        refine ⟨k1, fun x hx => (eO x (k2 x hx)).1, fun t => ?_⟩
        obtain ⟨i, oi, t0, t1⟩ := (rcA _ (wo_sub X M)).mp t
        rw [odn_wo] at t1
        have := (ob i oi).2
        exact k3 (tells_down t1 (by omega))
      · have ha := List.mem_range.mp ha
        unfold app2 at h
        cases q1 : lostP d (L + 1) (evn L X) (lo + 1 + a) with
        | none => rw [q1] at h; cases h
        | some A1 =>
          cases q2 : lostP d (L + 1) (odn L X) (m + 1 - (lo + 1 + a)) with
          | none => rw [q1, q2] at h; cases h
          | some B1 =>
            rw [q1, q2] at h
            cases h
            obtain ⟨k1, k2, k3, _⟩ := ihE _ _ q1
            obtain ⟨j1, j2, j3, _⟩ := ihO _ _ q2
            refine ⟨List.nodup_append.mpr ⟨k1, j1, fun x hx y hy e => ?_⟩, fun x hx => ?_, fun t => ?_⟩
            · have a1 := (eE x (k2 x hx)).2
              have a2 := (eO y (j2 y hy)).2
              rw [e] at a1
              omega
            · rcases List.mem_append.mp hx with h | h
              · exact (eE x (k2 x h)).1
              · exact (eO x (j2 x h)).1
            · obtain ⟨i, oi, t0, t1⟩ := (rcA _ (wo_sub X (A1 ++ B1))).mp t
              rw [evn_wo, wo_app fun x hx c => by have a1 := (eE x hx).2; have a2 := (eO x (j2 x c)).2; omega] at t0
              rw [odn_wo, wo_app2 fun x hx c => by have a1 := (eO x hx).2; have a2 := (eE x (k2 x c)).2; omega] at t1
              by_cases c : lo + 1 + a ≤ i
              · exact k3 (tells_down t0 c)
              · exact j3 (tells_down t1 (by omega))
    -- some candidate is no longer
    have low : ∀ A : List Int, A.Sublist X → ¬ tells (d + 1) (shL L A) (shL L X) m → ∃ M, M ∈ (([lostP d (L + 1) (evn L X) lo, lostP d (L + 1) (odn L X) (m - hi)] ++ (List.range (hi - lo)).map fun a => app2 (lostP d (L + 1) (evn L X) (lo + 1 + a)) (lostP d (L + 1) (odn L X) (m + 1 - (lo + 1 + a)))).filterMap id) ∧ M.length + A.length ≤ X.length := by
      intro A hA nt
      have no : ∀ i, optE d (shL L X) m i → ¬ tells d (shL (L + 1) (evn L A)) (shL (L + 1) (evn L X)) i ∨ ¬ tells d (shL (L + 1) (odn L A)) (shL (L + 1) (odn L X)) (m - i) := fun i oi => by
        refine Classical.byContradiction fun z => nt ((rcA A hA).mpr ⟨i, oi, ?_, ?_⟩)
        · exact Classical.byContradiction fun y => z (.inl y)
        · exact Classical.byContradiction fun y => z (.inr y)
      have lA := eo_len L A
      have sE := evn_sub hA L
      have sO := odn_sub hA L
      have lE := sE.length_le
      have lO := sO.length_le
      by_cases c1 : tells d (shL (L + 1) (evn L A)) (shL (L + 1) (evn L X)) lo
      · by_cases c2 : tells d (shL (L + 1) (odn L A)) (shL (L + 1) (odn L X)) (m - hi)
        · -- the last even number that is told
          have ex : ∃ p, lo < p ∧ p ≤ hi ∧ ¬ tells d (shL (L + 1) (evn L A)) (shL (L + 1) (evn L X)) p ∧ tells d (shL (L + 1) (evn L A)) (shL (L + 1) (evn L X)) (p - 1) := by
            have nh : ¬ tells d (shL (L + 1) (evn L A)) (shL (L + 1) (evn L X)) hi := by
              rcases no hi oh with h | h
              · exact h
              · exact absurd c2 h
            have go : ∀ n k, k + n = hi → lo ≤ k → tells d (shL (L + 1) (evn L A)) (shL (L + 1) (evn L X)) k → ∃ p, lo < p ∧ p ≤ hi ∧ ¬ tells d (shL (L + 1) (evn L A)) (shL (L + 1) (evn L X)) p ∧ tells d (shL (L + 1) (evn L A)) (shL (L + 1) (evn L X)) (p - 1) := fun n => by
              induction n with
              | zero =>
                intro k a _ t
                obtain rfl : k = hi := by omega
                exact absurd t nh
              | succ n ih =>
                intro k a b t
                by_cases c : tells d (shL (L + 1) (evn L A)) (shL (L + 1) (evn L X)) (k + 1)
                · exact ih (k + 1) (by omega) (by omega) c
                · exact ⟨k + 1, by omega, by omega, c, t⟩
            exact go (hi - lo) lo (by omega) (Nat.le_refl _) c1
          obtain ⟨p, p1, p2, p3, p4⟩ := ex
          have op := opt_between ol oh (show lo ≤ p - 1 by omega) (show p - 1 ≤ hi by omega)
          have q3 : ¬ tells d (shL (L + 1) (odn L A)) (shL (L + 1) (odn L X)) (m + 1 - p) := by
            rcases no (p - 1) op with h | h
            · exact absurd p4 h
            · have := oh.1
              rwa [show m - (p - 1) = m + 1 - p by omega] at h
          have hm2 := oh.1
          cases e1 : lostP d (L + 1) (evn L X) p with
          | none => have := (lost_none _ _ _ _).mp e1; omega
          | some A1 =>
            cases e2 : lostP d (L + 1) (odn L X) (m + 1 - p) with
            | none => have := (lost_none _ _ _ _).mp e2; omega
            | some B1 =>
              have k4 := (ihE _ _ e1).2.2.2 (evn L A) sE p3
              have j4 := (ihO _ _ e2).2.2.2 (odn L A) sO q3
              refine ⟨A1 ++ B1, List.mem_filterMap.mpr ⟨some (A1 ++ B1), List.mem_append_right _ (List.mem_map.mpr ⟨p - lo - 1, List.mem_range.mpr (by omega), ?_⟩), rfl⟩, by rw [List.length_append]; omega⟩
              rw [show lo + 1 + (p - lo - 1) = p by omega, e1, e2]
              rfl
        · cases e2 : lostP d (L + 1) (odn L X) (m - hi) with
          | none =>
            have := (lost_none _ _ _ _).mp e2
            rw [this] at c2
            exact absurd (tells_zero _ _ _) c2
          | some B1 =>
            have j4 := (ihO _ _ e2).2.2.2 (odn L A) sO c2
            exact ⟨B1, List.mem_filterMap.mpr ⟨some B1, by simp, rfl⟩, by omega⟩
      · cases e1 : lostP d (L + 1) (evn L X) lo with
        | none =>
          have := (lost_none _ _ _ _).mp e1
          rw [this] at c1
          exact absurd (tells_zero _ _ _) c1
        | some A1 =>
          have k4 := (ihE _ _ e1).2.2.2 (evn L A) sE c1
          exact ⟨A1, List.mem_filterMap.mpr ⟨some A1, by simp, rfl⟩, by omega⟩
    cases e
    generalize (([lostP d (L + 1) (evn L X) lo, lostP d (L + 1) (odn L X) (m - hi)] ++ (List.range (hi - lo)).map fun a => app2 (lostP d (L + 1) (evn L X) (lo + 1 + a)) (lostP d (L + 1) (odn L X) (m + 1 - (lo + 1 + a)))).filterMap id) = F at *
    have neF : F ≠ [] := fun z => by
      obtain ⟨M, hM, _⟩ := low [] (List.nil_sublist X) (fun t => by have := t.1; simp [shL] at this; omega)
      rw [z] at hM
      cases hM
    obtain ⟨f1, f2⟩ := minK_ok F.length F rfl neF
    obtain ⟨k1, k2, k3⟩ := cand _ f1
    exact ⟨k1, k2, k3, fun A hA nt => by
      obtain ⟨M, hM, le⟩ := low A hA nt
      have := f2 M hM
      omega⟩
end Z
/-! YH: more simp rules; what a law draws: cell, hash, generator, random. -/
namespace Z
open PySem (Str Operator CmpOp)
section
variable {r : En} {ms : List Bool} {l l2 : List (Nat ⊕ D)} {x : Nat ⊕ D} {i j : Nat} {is js : List Nat} {d d2 : D} {ds ds2 : List D} {a b : Int} {v : Val}
@[simp] theorem qa_nil : argsOk r [] [] = true := rfl
@[simp] theorem qa_io : argsOk r (true :: ms) (.inl i :: l) = ((r.own? i).isSome && argsOk r ms l) := rfl
@[simp] theorem qa_pl : argsOk r (false :: ms) (x :: l) = argsOk r ms l := by cases x <;> rfl
@[simp] theorem qn_nil : inouts [] l = [] := rfl
@[simp] theorem qn_io : inouts (true :: ms) (.inl i :: l) = i :: inouts ms l := rfl
@[simp] theorem qn_pl : inouts (false :: ms) (x :: l) = inouts ms l := by cases x <;> rfl
@[simp] theorem qp_nil : plains [] l = [] := by cases l <;> rfl
@[simp] theorem qp_io : plains (true :: ms) (x :: l) = plains ms l := by cases x <;> rfl
@[simp] theorem qp_pl : plains (false :: ms) (.inl i :: l) = i :: plains ms l := rfl
@[simp] theorem qp_pr : plains (false :: ms) (.inr d :: l) = plains ms l := rfl
@[simp] theorem q_apart : apart is js = (decide is.Nodup && is.all fun i => !js.contains i) := rfl
@[simp] theorem q_frzs0 : frzs r [] = some r := rfl
@[simp] theorem q_frzs : frzs r (i :: is) = (frz1 r i).bind fun r1 => frzs r1 is := rfl
@[simp] theorem q_frz1 : frz1 r i = match r[i]? with | some (.ow d) => some (r.set i (.sh d)) | some (.io _) => none | _ => some r := by unfold frz1; rfl
@[simp] theorem q_chgs0 : chgs r [] [] = some r := rfl
@[simp] theorem q_chgs : chgs r (i :: is) (d :: ds) = (r.chg i d).bind fun r1 => chgs r1 is ds := rfl
@[simp] theorem q_put : r.put i v = match r[i]? with | some (.io _) => none | some _ => some (r.set i v.sl) | none => none := by unfold En.put; rfl
@[simp] theorem q_chg : r.chg i d = match r[i]? with | some (.ow _) => some (r.set i (.ow d)) | some (.io _) => some (r.set i (.io d)) | _ => none := by unfold En.chg; rfl
@[simp] theorem q_own : r.own? i = match r[i]? with | some (.ow d) => some d | some (.io d) => some d | _ => none := by unfold En.own?; rfl
@[simp] theorem q_sl0 : Sl.d? .no = none := rfl
@[simp] theorem q_sl1 : Sl.d? (.sh d) = some d := rfl
@[simp] theorem q_sl2 : Sl.d? (.ow d) = some d := rfl
@[simp] theorem q_sl3 : Sl.d? (.io d) = some d := rfl
@[simp] theorem q_after_ok : after r ms l (.ok v ds) = match frzs r (plains ms l) with
    | none => .bad
    | some rf => if scal v.d && ds.all shal then
        (match chgs r (inouts ms l) ds with | some r1 => .ok v r1 | none => .bad)
      else (match chgs rf (inouts ms l) ds with | some r1 => .ok v r1 | none => .bad) := by
  unfold after
  cases frzs r (plains ms l) <;> rfl
@[simp] theorem q_callR {c : List D → CR} : callR ms c l r = if argsOk r ms l && apart (inouts ms l) (plains ms l) && decide (ms.length = l.length) then
    (match res r l with
      | some ds => after r ms l (c ds)
      | none => .bad) else .bad := by
  unfold callR
  split <;> rfl
@[simp] theorem q_callRO {c : List D → CR} : callRO ms c l r = if argsOk r ms l && apart (inouts ms l) (plains ms l) && decide (ms.length = l.length) then
    (match res r l with
      | some ds => match frzs r (plains ms l) with
        | none => .bad
        | some _ => match c ds with
          | .ok v outs => if keepV v && outs.all shal then
              (match chgs r (inouts ms l) outs with | some r2 => .ok v r2 | none => .bad) else .bad
          | _ => .bad
      | none => .bad) else .bad := rfl
@[simp] theorem q_keepV0 : keepV (.sh d) = flat d := rfl
@[simp] theorem q_keepV1 : keepV (.ow d) = shal d := rfl
@[simp] theorem q_scal : scal d = flat d := rfl
@[simp] theorem flat_non : flat .non = true := rfl
@[simp] theorem flat_bl {k : Bool} : flat (.bl k) = true := rfl
@[simp] theorem flat_int : flat (.int a) = true := rfl
@[simp] theorem flat_str {s : Str} : flat (.str s) = true := rfl
@[simp] theorem flat_lst : flat (.lst ds) = false := rfl
@[simp] theorem flat_tup : flat (.tup ds) = false := rfl
@[simp] theorem shal_lst : shal (.lst ds) = ds.all flat := rfl
@[simp] theorem outs0 {n : Nat} : outsOf r n [] = some [] := rfl
@[simp] theorem outsT {n : Nat} : outsOf r n (true :: ms) = match r[n]? with | some (.io d) => (outsOf r (n + 1) ms).map (d :: ·) | _ => none := by
  first
  | (rw [outsOf]; done)
  | (rw [outsOf]; cases r[n]? with
     | none => rfl
     | some s => cases s <;> rfl)
@[simp] theorem outsF {n : Nat} : outsOf r n (false :: ms) = outsOf r (n + 1) ms := rfl
@[simp] theorem cr_ret : (O.ret v r).cr ms = match outsOf r 0 ms with | some l => .ok v l | none => .bad := by
  show (match outsOf r 0 ms with | some l => _ | none => _) = _
  cases outsOf r 0 ms <;> rfl
@[simp] theorem cr_nx : (O.nx r).cr ms = match outsOf r 0 ms with | some l => .ok (.sh .non) l | none => .bad := by
  show (match outsOf r 0 ms with | some l => _ | none => _) = _
  cases outsOf r 0 ms <;> rfl
@[simp] theorem boolV_some {k : Bool} : boolV (some k) = some (.sh (.bl k)) := rfl
@[simp] theorem tru_bl {k : Bool} : tru (.bl k) = some k := rfl
@[simp] theorem tru_int : tru (.int a) = some (a != 0) := rfl
@[simp] theorem tru_lst : tru (.lst ds) = some (!ds.isEmpty) := rfl
@[simp] theorem bin_ii {op : Operator} : binD op (.int a) (.int b) = (binI op a b).map fun k => .sh (.int k) := rfl
@[simp] theorem bin_ll : binD .Add (.lst ds) (.lst ds2) = if ds.length + ds2.length ≤ LINE then some (.ow (.lst (ds ++ ds2))) else none := rfl
@[simp] theorem bI_add : binI .Add a b = some (a + b) := rfl
@[simp] theorem bI_sub : binI .Sub a b = some (a - b) := rfl
theorem bI_mod (h : 0 < b) : binI .Mod a b = some (a % b) := by simp [binI, h]
theorem bits_lt {n : Nat} (h : a.natAbs < 2 ^ n) : bits a ≤ n + 1 := by
  unfold bits
  rcases Nat.eq_zero_or_pos a.natAbs with e | e
  · rw [e]; simp
  · have := (Nat.log2_lt (Nat.pos_iff_ne_zero.mp e)).mpr h
    omega
theorem bI_fdiv (h : 0 < b) (h2 : b < 2 ^ 1000) : binI .FloorDiv a b = some (a / b) := by
  have := bits_lt (a := b) (n := 1000) (by omega)
  simp only [binI]
  rw [if_pos ⟨h, by omega⟩]
theorem bI_mul (n m : Nat) (h : a.natAbs < 2 ^ n) (h2 : b.natAbs < 2 ^ m) (h3 : n + m ≤ 900000) : binI .Mult a b = some (a * b) := by
  have := bits_lt h
  have := bits_lt h2
  simp only [binI]
  rw [if_pos (by omega)]
@[simp] theorem cmp_eq_ii : cmpD .Eq (.int a) (.int b) = some (decide (a = b)) := by
  simp [cmpD, okq, lay, dep, eqv]
  rfl
@[simp] theorem cmp_ne_ii : cmpD .NotEq (.int a) (.int b) = some (!decide (a = b)) := by
  simp [cmpD, okq, lay, dep, eqv]
  rfl
@[simp] theorem cmp_lt_ii : cmpD .Lt (.int a) (.int b) = some (decide (a < b)) := rfl
@[simp] theorem cmp_le_ii : cmpD .LtE (.int a) (.int b) = some (decide (a ≤ b)) := rfl
@[simp] theorem cmp_gt_ii : cmpD .Gt (.int a) (.int b) = some (decide (b < a)) := rfl
@[simp] theorem cmp_ge_ii : cmpD .GtE (.int a) (.int b) = some (decide (b ≤ a)) := rfl
@[simp] theorem bi_len_l : biD .len [.lst ds] = some (.sh (.int ds.length)) := rfl
@[simp] theorem bi_len_s {ns : List Int} : biD .len [.scr ns] = some (.sh (.int ns.length)) := rfl
@[simp] theorem bi_int_i : biD .int [.int a] = some (.sh (.int a)) := rfl
@[simp] theorem bi_list_l : biD .list [.lst ds] = some (.ow (.lst ds)) := rfl
@[simp] theorem bi_max_ii : biD .max [.int a, .int b] = some (.sh (.int (if b > a then b else a))) := rfl
@[simp] theorem bi_min_ii : biD .min [.int a, .int b] = some (.sh (.int (if b < a then b else a))) := rfl
@[simp] theorem bi_sum_il {ns : List Int} : biD .sum [.lst (ns.map .int)] = some (.sh (.int ns.sum)) := by
  show (Z.intsD (ns.map .int)).map _ = _
  rw [ints_map]
  rfl
end
/-- bodies by rows -/
theorem start_eq {ms : List Bool} {n : Nat} {ds : List D} : En.start ms n ds = (ms.zipWith (fun m d => if m then Sl.io d else Sl.sh d) ds) ++ List.replicate (n - ds.length) .no := rfl
/-- _law_cell -/
def s__law_cell : List S :=
  [.ite (.val (.cmp .Lt (.var 1) (.bi .len [.var 0]))) [.ret (.idx (.var 0) (.var 1))] [],
    .ret (.bin .Mod (.bi .sum [.slc (.var 0) (.con .non) (.con (.int 1))]) (.con (.int 1000003)))]
def d__law_cell : Df := { modes := [false, false], names := 2, body := s__law_cell }
/-- _law_hash -/
def s__law_hash : List S :=
  [.asg (.v 2) (.bin .Mod (.bi .int [.bin .Add (.bin .Add (.bin .Add (.bin .Mult (.var 0) (.con (.int 1140671))) (.bin .Mult (.bin .Mult (.con (.int 27644437)) (.var 1)) (.var 1))) (.bin .Mult (.con (.int 131)) (.var 1))) (.con (.int 19))]) (.con (.int 2147483629))),
    .asg (.v 2) (.bin .Mod (.bi .int [.bin .Add (.bin .Add (.bin .Mult (.var 2) (.var 2)) (.bin .Mult (.con (.int 62089)) (.var 1))) (.con (.int 32416187))]) (.con (.int 2147483587))),
    .ret (.bin .Mod (.bi .int [.bin .Mult (.var 2) (.con (.int 48271))]) (.con (.int 2147483647)))]
def d__law_hash : Df := { modes := [false, false], names := 3, body := s__law_hash }
/-- _law_generator -/
def s__law_generator : List S :=
  [.asg (.v 2) (.call 34 [.var 0, .var 1] [] []),
    .ret (.lst [.bin .Mod (.bi .int [.bi .max [.bin .Sub (.var 2) (.bin .Pow (.con (.int 10)) (.con (.int 18))), .con (.int 0)]]) (.bin .Pow (.bin .Pow (.con (.int 10)) (.con (.int 60))) (.con (.int 10))), .bin .Mod (.bi .int [.var 2]) (.con (.int 2147483647)), .bin .Mult (.con (.int 1000)) (.var 1)])]
def d__law_generator : Df := { modes := [false, false], names := 3, body := s__law_generator }
/-- _law_random -/
def s__law_random_v1 : List S :=
  [.ite (.val (.cmp .Gt (.idx (.var 0) (.con (.int 0))) (.con (.int 0)))) [.asg (.v 2) (.bin .Mod (.bi .int [.idx (.var 0) (.con (.int 0))]) (.var 1)),
    .seti 0 (.con (.int 0)) (.bin .FloorDiv (.idx (.var 0) (.con (.int 0))) (.var 1)),
    .ret (.var 2)] [],
    .asg (.v 2) (.con (.int 0)),
    .for_ (.v 3) (.rng1 (.bin .Add (.con (.int 1)) (.bin .FloorDiv (.bits (.var 1)) (.con (.int 30))))) [.seti 0 (.con (.int 2)) (.bin .Add (.idx (.var 0) (.con (.int 2))) (.con (.int 1))),
    .asg (.v 2) (.bin .Add (.bin .Mult (.var 2) (.con (.int 2147483587))) (.call 32 [.idx (.var 0) (.con (.int 1)), .idx (.var 0) (.con (.int 2))] [] []))],
    .ret (.bin .Mod (.bi .int [.var 2]) (.var 1))]
def d__law_random_v1 : Df := { modes := [true, false], names := 4, body := s__law_random_v1 }
section
variable {Pg : Nat → Option Df} {fuel k f : Nat}
theorem m_cell (h : Pg f = some d__law_cell) (ns : List Int) (i : Nat) : ∃ v, callD Pg fuel (k + 1) f [.scr ns, .int i] = .ok (.sh (.int v)) [] := by
  rw [callD_eq h ⟨rfl, Nat.le_refl _⟩]
  by_cases c : i < ns.length
  · refine ⟨ns[i], ?_⟩
    have : (i : Int) < ns.length := by omega
    simp [d__law_cell, s__law_cell, start_eq, c, idxD, ixN]
  · refine ⟨(cut ns none (some 1)).sum % 1000003, ?_⟩
    have : ¬ (i : Int) < ns.length := by omega
    simp [d__law_cell, s__law_cell, start_eq, c, por, isNon, slcD, part?, bI_mod]
theorem m_hash (h : Pg f = some d__law_hash) (s i : Int) (hs : 0 ≤ s ∧ s < 2147483648) (hi : 0 ≤ i ∧ i < 2147483648) : ∃ v, (0 ≤ v ∧ v < 2147483647) ∧ callD Pg fuel (k + 1) f [.int s, .int i] = .ok (.sh (.int v)) [] := by
  rw [callD_eq h ⟨rfl, Nat.le_of_ble_eq_true rfl⟩]
  have md : ∀ x m : Int, 0 < m → 0 ≤ x % m ∧ x % m < m := fun x m p => ⟨Int.emod_nonneg _ (by omega), Int.emod_lt_of_pos _ p⟩
  have p1 : (2 : Nat) ^ 40 = 1099511627776 := by decide
  have p2 : (2 : Nat) ^ 80 = 1208925819614629174706176 := by decide
  have e1 : binI .Mult s 1140671 = some (s * 1140671) := bI_mul 40 40 (by omega) (by omega) (by omega)
  have e2 : binI .Mult 27644437 i = some (27644437 * i) := bI_mul 40 40 (by omega) (by omega) (by omega)
  have e3 : binI .Mult (27644437 * i) i = some (27644437 * i * i) := bI_mul 80 40 (by omega) (by omega) (by omega)
  have e4 : binI .Mult 131 i = some (131 * i) := bI_mul 40 40 (by omega) (by omega) (by omega)
  generalize g1 : (s * 1140671 + 27644437 * i * i + 131 * i + 19) % 2147483629 = x1
  have b1 := md (s * 1140671 + 27644437 * i * i + 131 * i + 19) 2147483629 (by decide)
  rw [g1] at b1
  have e5 : binI .Mult x1 x1 = some (x1 * x1) := bI_mul 40 40 (by omega) (by omega) (by omega)
  have e6 : binI .Mult 62089 i = some (62089 * i) := bI_mul 40 40 (by omega) (by omega) (by omega)
  generalize g2 : (x1 * x1 + 62089 * i + 32416187) % 2147483587 = x2
  have b2 := md (x1 * x1 + 62089 * i + 32416187) 2147483587 (by decide)
  rw [g2] at b2
  have e7 : binI .Mult x2 48271 = some (x2 * 48271) := bI_mul 40 40 (by omega) (by omega) (by omega)
  refine ⟨_, md (x2 * 48271) 2147483647 (by decide), ?_⟩
  simp [d__law_hash, s__law_hash, start_eq, e1, e2, e3, e4, g1, bI_mod, e5, e6, g2, e7]
/-- a generator, with at most so many turns behind it -/
def Gd (m : Nat) (g : D) : Prop := ∃ a b c : Int, g = .lst [.int a, .int b, .int c] ∧ (0 ≤ b ∧ b < 2147483647) ∧ (0 ≤ c ∧ c ≤ m)
theorem Gd.mono {m n : Nat} {g : D} (h : Gd m g) (l : m ≤ n) : Gd n g := by
  obtain ⟨a, b, c, e, hb, hc⟩ := h
  exact ⟨a, b, c, e, hb, by omega⟩
theorem m_generator (h34 : Pg 34 = some d__law_cell) (h : Pg f = some d__law_generator) (ns : List Int) (i : Nat) (hi : i ≤ 1000) : ∃ g, Gd (1000 * i) g ∧ callD Pg fuel (k + 2) f [.scr ns, .int i] = .ok (.ow g) [] := by
  rw [callD_eq h ⟨rfl, Nat.le_of_ble_eq_true rfl⟩]
  obtain ⟨v, e⟩ := m_cell (fuel := fuel) (k := k) h34 ns i
  have b10 : bits 10 = 4 := by decide
  have e1 : binI .Pow 10 18 = some (10 ^ 18) := by simp [binI, b10]
  have e2 : binI .Pow 10 60 = some (10 ^ 60) := by simp [binI, b10]
  have b60 := bits_lt (a := 10 ^ 60) (n := 300) (by decide)
  have e3 : binI .Pow (10 ^ 60) 10 = some ((10 ^ 60) ^ 10) := by
    simp only [binI]
    rw [if_pos ⟨by decide, by show bits (10 ^ 60) * 10 ≤ 1000000; omega⟩]
    rfl
  have e4 : binI .Mult 1000 (i : Int) = some (1000 * (i : Int)) := bI_mul 40 40 (by decide) (by omega) (by omega)
  have p0 : (0 : Int) < (10 ^ 60) ^ 10 := Int.pow_pos (Int.pow_pos (by decide))
  generalize gp : (10 : Int) ^ 60 = p60 at e2 e3 p0
  generalize gq : p60 ^ 10 = q at e3 p0
  generalize gr : (10 : Int) ^ 18 = q18 at e1
  have e5 : ∀ x, binI .Mod x q = some (x % q) := fun x => bI_mod p0
  have l3 : (3 : Nat) ≤ LINE := by decide
  refine ⟨.lst [.int ((if 0 > v - q18 then 0 else v - q18) % q), .int (v % 2147483647), .int (1000 * i)], ⟨_, _, _, rfl, ⟨Int.emod_nonneg _ (by decide), Int.emod_lt_of_pos _ (by decide)⟩, by omega⟩, ?_⟩
  simp [d__law_generator, s__law_generator, start_eq, e, h34, d__law_cell, e1, e2, e3, e4, e5, bI_mod, l3]
theorem forL_run0 {g : D → En → O} (Iv : Nat → En → Prop) (l : List D) (r : En) (h : ∀ (j : Nat) (hj : j < l.length) (r : En), Iv j r → ∃ r', g l[j] r = .nx r' ∧ Iv (j + 1) r') (h0 : Iv 0 r) : ∃ r', forL g l r = .nx r' ∧ Iv l.length r' := by
  obtain ⟨r', e, q⟩ := forL_run (f := g) Iv l 0 r (fun j x r q w => by
    rw [Nat.zero_add] at w ⊢
    obtain ⟨hj, rfl⟩ := List.getElem?_eq_some_iff.mp q
    exact h j hj r w) h0
  rw [Nat.zero_add] at q
  exact ⟨r', e, q⟩
/-- a loop by what holds ahead of each turn -/
theorem for_run {C : Cf} {t : Tg} {it : I} {body : List S} {r r1 : En} {l : List D} (Iv : Nat → En → Prop) (he : evI C it r = .ok l r1) (h : ∀ (j : Nat) (hj : j < l.length) (r : En), Iv j r → ∃ r', ((O.of (bindT t l[j] r)).then fun r3 => xs C body r3) = .nx r' ∧ Iv (j + 1) r') (h0 : Iv 0 r1) : ∃ r', x1 C (.for_ t it body) r = .nx r' ∧ Iv l.length r' := by
  obtain ⟨r', e, q⟩ := forL_run0 (g := fun x r2 => (O.of (bindT t x r2)).then fun r3 => xs C body r3) Iv l r1 h h0
  exact ⟨r', by rw [q_for, he, R.run_ok]; exact e, q⟩
theorem rng0_get (n : Int) (j : Nat) (h : j < ((rangeI 0 n 1).map D.int).length) : ((rangeI 0 n 1).map D.int)[j] = .int j := by
  simp [rangeI]
theorem rng0_len (n : Nat) : ((rangeI 0 n 1).map D.int).length = n := by
  rw [rng_len]
  omega
theorem ib_le {x : Int} {n : Nat} (h : x.natAbs < 2 ^ n) : PySem.Builtin.Int.intBits x ≤ n := by
  unfold PySem.Builtin.Int.intBits
  split
  · exact Nat.zero_le _
  · rename_i c
    have hx : x ≠ 0 := by simpa using c
    have := (Nat.log2_lt (n := x.natAbs) (k := n) (by omega)).mpr h
    omega
theorem m_random (h32 : Pg 32 = some d__law_hash) (h : Pg f = some d__law_random_v1) (m : Nat) (hm : m ≤ 1000000) (g : D) (hg : Gd m g) (L : Int) (hL : 1 ≤ L ∧ L ≤ 18446744073709551616) : ∃ v g', (0 ≤ v ∧ v < L) ∧ Gd (m + 3) g' ∧ callD Pg fuel (k + 2) f [g, .int L] = .ok (.sh (.int v)) [g'] := by
  obtain ⟨a, b, c, rfl, hb, hc⟩ := hg
  rw [callD_eq h ⟨rfl, Nat.le_of_ble_eq_true rfl⟩]
  have md : ∀ x : Int, 0 ≤ x % L ∧ x % L < L := fun x => ⟨Int.emod_nonneg _ (by omega), Int.emod_lt_of_pos _ (by omega)⟩
  have eM : ∀ x, binI .Mod x L = some (x % L) := fun x => bI_mod (by omega)
  have big : (2 : Int) ^ 1000 > 18446744073709551616 := by decide
  have eF : ∀ x, binI .FloorDiv x L = some (x / L) := fun x => bI_fdiv (by omega) (by omega)
  by_cases ha : 0 < a
  · refine ⟨a % L, .lst [.int (a / L), .int b, .int c], md a, ⟨_, b, c, rfl, hb, by omega⟩, ?_⟩
    simp [d__law_random_v1, s__law_random_v1, start_eq, idxD, atL, ixN, ha, eM, eF, setD]
  · have ib := ib_le (x := L) (n := 65) (by omega)
    have e30 : binI .FloorDiv (PySem.Builtin.Int.intBits L : Int) 30 = some ((PySem.Builtin.Int.intBits L : Int) / 30) := bI_fdiv (by decide) (by omega)
    obtain ⟨t, ht, ht3⟩ : ∃ t : Nat, 1 + (PySem.Builtin.Int.intBits L : Int) / 30 = t ∧ t ≤ 3 := ⟨1 + PySem.Builtin.Int.intBits L / 30, by omega, by omega⟩
    have er := rng1_eq (C := Cz Pg fuel (k + 1)) (b := .bin .Add (.con (.int 1)) (.bin .FloorDiv (.bits (.var 1)) (.con (.int 30)))) (r := [.io (.lst [.int a, .int b, .int c]), .sh (.int L), .sh (.int 0), .no]) (r2 := [.io (.lst [.int a, .int b, .int c]), .sh (.int L), .sh (.int 0), .no]) (y := .inr (.int t)) (j := t) (by
      simp [mtD, e30, ht]) rfl (by omega)
    have lp := for_run (t := .v 3) (body := [.seti 0 (.con (.int 2)) (.bin .Add (.idx (.var 0) (.con (.int 2))) (.con (.int 1))),
    .asg (.v 2) (.bin .Add (.bin .Mult (.var 2) (.con (.int 2147483587))) (.call 32 [.idx (.var 0) (.con (.int 1)), .idx (.var 0) (.con (.int 2))] [] []))])
      (fun i r => ∃ (c x : Int) (y : Sl), r = [.io (.lst [.int a, .int b, .int c]), .sh (.int L), .sh (.int x), y] ∧ (y = .no ∨ ∃ d, y = .sh d) ∧ (0 ≤ c ∧ c ≤ m + i) ∧ x.natAbs < 2 ^ (32 * i)) er (by
        intro j hj r hr
        rw [rng0_len] at hj
        obtain ⟨c, x, y, rfl, hy, hc, hx⟩ := hr
        rw [rng0_get]
        obtain ⟨v, hv, e⟩ := m_hash (fuel := fuel) (k := k) h32 b (c + 1) (by omega) (by omega)
        have pw : 2 ^ (32 * (j + 1)) = 2 ^ (32 * j) * 4294967296 := by rw [Nat.mul_add, Nat.pow_add]
        have le : 2 ^ (32 * j) ≤ 2 ^ 96 := Nat.pow_le_pow_right (by decide) (by omega)
        have pos : 0 < 2 ^ (32 * j) := Nat.pow_pos (by decide)
        have eX : binI .Mult x 2147483587 = some (x * 2147483587) := bI_mul 96 40 (by omega) (by decide) (by omega)
        refine ⟨_, ?_, c + 1, x * 2147483587 + v, .sh (.int j), rfl, .inr ⟨_, rfl⟩, by omega, ?_⟩
        · rcases hy with rfl | ⟨d, rfl⟩ <;> simp [bindT, idxD, atL, ixN, setD, eX, e, h32, d__law_hash]
        · rw [pw]
          generalize 2 ^ (32 * j) = P at *
          omega) ⟨c, 0, .no, rfl, .inl rfl, by omega, by decide⟩
    obtain ⟨r', e', c', x', y', rfl, hy, hc', hx'⟩ := lp
    rw [rng0_len] at hc'
    refine ⟨x' % L, .lst [.int a, .int b, .int c'], md x', ⟨a, b, c', rfl, hb, by omega⟩, ?_⟩
    simp [-q_for, d__law_random_v1, s__law_random_v1, start_eq, idxD, atL, ixN, ha, e', eM]
end
end Z
/-! YI: places drawn by a law. -/
namespace Z
open PySem (Str Operator CmpOp)
section
variable {Pg : Nat → Option Df} {fuel k f : Nat}
/-- a slot of a plain name -/
def Pn (y : Sl) : Prop := y = .no ∨ ∃ d, y = .sh d
theorem Gd.shal {m : Nat} {g : D} (h : Gd m g) : shal g = true := by
  obtain ⟨a, b, c, rfl, _, _⟩ := h
  rfl
/-- places of a width, in order -/
def Places (n w : Nat) (ps : List Int) : Prop := ps ≠ [] ∧ ps.length ≤ n ∧ ps.Pairwise (· < ·) ∧ ∀ x ∈ ps, 0 ≤ x ∧ x ≤ 2 ^ w - 1
theorem Places.mono {n n' w : Nat} {ps : List Int} (h : Places n w ps) (l : n ≤ n') : Places n' w ps := ⟨h.1, Nat.le_trans h.2.1 l, h.2.2⟩
theorem pow_le64 {w : Nat} (h : w ≤ 64) : (1 : Int) ≤ 2 ^ w ∧ (2 : Int) ^ w ≤ 18446744073709551616 := by
  have h1 := Nat.pow_le_pow_right (n := 2) (by omega) h
  have h2 : 0 < 2 ^ w := Nat.pow_pos (by decide)
  have : ((2 ^ w : Nat) : Int) = 2 ^ w := by simp
  omega
end
end Z
/-! YJ: near places, drawn places. -/
namespace Z
open PySem (Str Operator CmpOp)
/-- each item that is new -/
def dd : List Int → List Int → List Int
  | _, [] => []
  | s, x :: l => if x ∈ s then dd (s ++ [x]) l else x :: dd (s ++ [x]) l
theorem cut_take (l : List Int) (i : Nat) : cut (l.map D.int) none (some (i : Int)) = (l.take i).map D.int := by
  show ((l.map D.int).drop 0).take ((if (i : Int) < 0 then ((i : Int) + ((l.map D.int).length : Nat)).toNat else min (i : Int).toNat (l.map D.int).length) - 0) = _
  rw [if_neg (by omega), Int.toNat_natCast, List.drop_zero, Nat.sub_zero, List.length_map, List.map_take, List.take_eq_take_iff]
  simp
end Z
/-! YK: by rests, falling. -/
namespace Z
open PySem (Str Operator CmpOp)
end Z
/-! YL: the law of numbers by rests. -/
namespace Z
open PySem (Str Operator CmpOp)
/-- the defs that a good row and its checks reach -/
structure GB0 (Pg : Nat → Option Df) : Prop where
  h0 : Pg 0 = some d_is_whole
  h1 : Pg 1 = some d_is_between
  h3 : Pg 3 = some d_power_of_two
  h4 : Pg 4 = some d_twos
  h8 : Pg 8 = some d_is_width
  h9 : Pg 9 = some d_check_width
  h10 : Pg 10 = some d_is_of_width
  h11 : Pg 11 = some d_rises
  h12 : Pg 12 = some d_are_places
  h13 : Pg 13 = some d_check_places
/-- .. and good_row -/
structure GB (Pg : Nat → Option Df) : Prop extends GB0 Pg where
  h5 : Pg 5 = some d_good_row
section
variable {Pg : Nat → Option Df} {fuel k f : Nat}
/-- places of any number of a width -/
def PlW (w : Nat) (ps : List Int) : Prop := ps ≠ [] ∧ ps.Pairwise (· < ·) ∧ ∀ x ∈ ps, 0 ≤ x ∧ x ≤ 2 ^ w - 1
theorem PlW.wi {w : Nat} {ps : List Int} (h : PlW w ps) : Wi w ps := ⟨h.2.1.imp fun h => Int.ne_of_lt h, fun x hx => by have := h.2.2 x hx; omega⟩
end
end Z
/-! YM: even steps; the law of numbers by rests. -/
namespace Z
open PySem (Str Operator CmpOp)
end Z
/-! YN: repr of plain data. -/
namespace Z
open PySem (Str Operator CmpOp PyData)
def CpsOk (s : Str) : Prop := ∀ c ∈ s.cps.toList, c < 0x110000
theorem cps_app {a b : Str} (ha : CpsOk a) (hb : CpsOk b) : CpsOk (a ++ b) := by
  intro c hc
  have hc : c ∈ (a.cps ++ b.cps).toList := hc
  rw [Array.toList_append, List.mem_append] at hc
  exact hc.elim (ha c) (hb c)
theorem cps_of (s : String) : CpsOk (Str.ofString s) := by
  intro c hc
  rw [PySem.Str.ofString_eq_toList] at hc
  obtain ⟨ch, _, rfl⟩ := List.mem_map.mp hc
  have := ch.valid
  show ch.val.toNat < 0x110000
  rcases this with h | ⟨_, h⟩
  · have : ch.val.toNat < 0xd800 := h
    omega
  · exact h
theorem cps_from : ∀ (ts : List Str) (k : Nat) (acc : Str), CpsOk acc → (∀ t ∈ ts, CpsOk t) → CpsOk (PySem.textFrom k acc ts)
  | [], _, _, h, _ => h
  | t :: ts, k, acc, h, ht => by
    unfold PySem.textFrom
    exact cps_from ts _ _ (cps_app (cps_app h (cps_of _)) (ht t List.mem_cons_self)) fun u m => ht u (List.mem_cons_of_mem _ m)
theorem cps_join {s : Str} (hs : CpsOk s) : ∀ ts : List Str, (∀ t ∈ ts, CpsOk t) → CpsOk (PySem.Str.join s ts)
  | [], _ => by intro c hc; cases hc
  | [x], h => h x List.mem_cons_self
  | x :: y :: r, h => by
    show CpsOk (x ++ s ++ PySem.Str.join s (y :: r))
    exact cps_app (cps_app (h x List.mem_cons_self) hs) (cps_join hs (y :: r) fun t m => h t (List.mem_cons_of_mem _ m))
theorem cps_list (ts : List Str) (h : ∀ t ∈ ts, CpsOk t) : CpsOk (PySem.listText ts) := cps_app (cps_from ts 0 _ (cps_of _) h) (cps_of _)
theorem cps_tuple (ts : List Str) (h : ∀ t ∈ ts, CpsOk t) : CpsOk (PySem.tupleText ts) := cps_app (cps_app (cps_of _) (cps_join (cps_of _) ts h)) (cps_of _)
/-! data of whole numbers, truth values, None, lists and tuples of them -/
mutual
def pln (B : Nat) : D → Bool
  | .non => true
  | .bl _ => true
  | .int i => decide (i.natAbs < 10 ^ B)
  | .lst l => plns B l
  | .tup l => plns B l
  | _ => false
def plns (B : Nat) : List D → Bool
  | [] => true
  | x :: xs => pln B x && plns B xs
end
mutual
theorem cps_shown (B : Nat) : ∀ d : D, pln B d = true → CpsOk (pyT d).shown
  | .non, _ => cps_of _
  | .bl b, _ => by cases b <;> exact cps_of _
  | .int i, _ => cps_of _
  | .lst l, h => by
    simp only [pyT, PyData.shown]
    exact cps_list _ (cps_showns B l (by simpa only [pln] using h))
  | .tup l, h => by
    simp only [pyT, PyData.shown]
    exact cps_tuple _ (cps_showns B l (by simpa only [pln] using h))
  | .str _, h => by simp [pln] at h
  | .dct _ _, h => by simp [pln] at h
  | .dts _, h => by simp [pln] at h
  | .fn _, h => by simp [pln] at h
  | .exn _ _, h => by simp [pln] at h
  | .scr _, h => by simp [pln] at h
theorem cps_showns (B : Nat) : ∀ l : List D, plns B l = true → ∀ t ∈ PyData.shownAll (pyTs l), CpsOk t
  | [], _, t, m => by cases m
  | x :: l, h, t, m => by
    simp only [plns, Bool.and_eq_true] at h
    simp only [pyTs, PyData.shownAll] at m
    rcases List.mem_cons.mp m with rfl | m
    · exact cps_shown B x h.1
    · exact cps_showns B l h.2 t m
end
mutual
theorem shb_of (B : Nat) (hB : 0 < B) (h2 : B ≤ 500) : ∀ d : D, pln B d = true → (pyT d).showable = true ∧ (pyT d).leavesShort (B + 8) = true ∧ lay d = true
  | .non, _ => ⟨rfl, rfl, rfl⟩
  | .bl b, _ => ⟨rfl, rfl, rfl⟩
  | .int i, h => by
    have h' : i.natAbs < 10 ^ B := by simpa [pln] using h
    refine ⟨?_, ?_, rfl⟩
    · simp only [pyT, PyData.showable, decide_eq_true_eq]
      rcases Nat.eq_zero_or_pos i.natAbs with e | e
      · rw [e]; decide
      · refine (Nat.log2_lt (by omega)).mpr ?_
        have a : (10 : Nat) ^ B ≤ 10 ^ 500 := Nat.pow_le_pow_right (by decide) h2
        have b : (10 : Nat) ^ 500 ≤ 2 ^ 1920 := by decide +kernel
        omega
    · simp only [pyT, PyData.leavesShort, decide_eq_true_eq]
      have := PySem.int_text_length_le10 hB h'
      show (Str.ofString (toString i)).length ≤ B + 8
      rw [PySem.ofString_length]
      omega
  | .lst l, h => by
    obtain ⟨a, b, c⟩ := shbs_of B hB h2 l (by simpa only [pln] using h)
    exact ⟨by simpa only [pyT, PyData.showable] using a, by simpa only [pyT, PyData.leavesShort] using b, by simpa only [lay] using c⟩
  | .tup l, h => by
    obtain ⟨a, b, c⟩ := shbs_of B hB h2 l (by simpa only [pln] using h)
    exact ⟨by simpa only [pyT, PyData.showable] using a, by simpa only [pyT, PyData.leavesShort] using b, by simpa only [lay] using c⟩
  | .str _, h => by simp [pln] at h
  | .dct _ _, h => by simp [pln] at h
  | .dts _, h => by simp [pln] at h
  | .fn _, h => by simp [pln] at h
  | .exn _ _, h => by simp [pln] at h
  | .scr _, h => by simp [pln] at h
theorem shbs_of (B : Nat) (hB : 0 < B) (h2 : B ≤ 500) : ∀ l : List D, plns B l = true → PyData.showableAll (pyTs l) = true ∧ PyData.leavesShortAll (B + 8) (pyTs l) = true ∧ lays l = true
  | [], _ => ⟨rfl, rfl, rfl⟩
  | x :: l, h => by
    simp only [plns, Bool.and_eq_true] at h
    obtain ⟨a, b, c⟩ := shb_of B hB h2 x h.1
    obtain ⟨a', b', c'⟩ := shbs_of B hB h2 l h.2
    refine ⟨?_, ?_, ?_⟩
    · simp only [pyTs, PyData.showableAll, a, a', Bool.and_self]
    · simp only [pyTs, PyData.leavesShortAll, b, b', Bool.and_self]
    · simp only [lays, c, c', Bool.and_self]
end
/-- repr of plain data that is small -/
theorem bi_repr_of {d : D} (B : Nat) (hB : 0 < B) (h2 : B ≤ 500) (h : pln B d = true) (hd : dep d ≤ 64) (hw : (B + 10) * (pyT d).weight + (B + 8) ≤ 16777216) : biD .repr [d] = some (.sh (.str (pyT d).shown)) := by
  obtain ⟨a, b, c⟩ := shb_of B hB h2 d h
  have e := PyData.shown_le (B + 8) (by omega) (pyT d) b
  rw [show B + 8 + 2 = B + 10 from rfl] at e
  have L : (LINE : Nat) = 16777216 := rfl
  show (reprD d).map _ = _
  unfold reprD okq
  rw [a, c, decide_eq_true hd, decide_eq_true (by omega)]
  rfl
theorem str_same {s : Str} (h : CpsOk s) : cmpD .NotEq (.str s) (.str s) = some false ∧ cmpD .Eq (.str s) (.str s) = some true := by
  have e : okq (.str s) = true := by
    unfold okq
    simp only [lay, dep]
    rw [Bool.and_eq_true]
    refine ⟨?_, rfl⟩
    unfold PyData.strOk
    rw [Array.all_eq_true_iff_forall_mem]
    intro c hc
    simpa using h c (Array.mem_toList_iff.mpr hc)
  simp [cmpD, e, eqv]
theorem bi_repr_int {i : Int} (h : i.natAbs < 10 ^ 100) : biD .repr [.int i] = some (.sh (.str (pyT (.int i)).shown)) := by
  refine bi_repr_of 100 (by decide) (by decide) (by simpa [pln] using h) (by simp [dep]) ?_
  simp only [pyT, PyData.weight]
  have : (if (i == 0) = true then 0 else i.natAbs.log2 + 1) ≤ 400 := by
    split
    · omega
    · rename_i c
      have hx : i ≠ 0 := by simpa using c
      have a : (10 : Nat) ^ 100 ≤ 2 ^ 350 := by decide +kernel
      have := (Nat.log2_lt (n := i.natAbs) (k := 350) (by omega)).mpr (by omega)
      omega
  generalize (if (i == 0) = true then 0 else i.natAbs.log2 + 1) = z at this
  omega
end Z
/-! YO: the least twos of so many places. -/
namespace Z
/-! ### twos of all differences -/
/-- the numbers of an order -/
def no (s : Int → Int) : List Int → List Int
  | [] => []
  | t :: l => s t :: no (fun p => s p + v2 (p - t)) l
/-- the order of a row of places -/
def ord (ps : List Int) : List Int := (gr ps.length ps (List.replicate ps.length 0)).1
/-- with fewer places no number is less -/
def Dm (a b : List Int) : Prop := b.length ≤ a.length ∧ ∀ (i : Nat) (h : i < b.length) (h2 : i < a.length), a[i] ≤ b[i]
theorem Dm.trans {a b c : List Int} (h : Dm a b) (h2 : Dm b c) : Dm a c := ⟨Nat.le_trans h2.1 h.1, fun i q q2 => Int.le_trans (h.2 i (by have := h2.1; omega) q2) (h2.2 i q (by have := h2.1; omega))⟩
end Z
namespace Z
open PySem (Str Operator CmpOp)
/-- check_number -/
def s_check_number : List S :=
  [.ite (.not (.val (.call 1 [.var 0, .var 1, .var 2] [] []))) [.nev] []]
def d_check_number : Df := { modes := [false, false, false], names := 3, body := s_check_number }
section
variable {Pg : Nat → Option Df} {fuel k f : Nat} {C : Cf}
@[simp] theorem q_callK {es : List E} {r : En} {i : Nat} {is : List Nat} : ev C (.call f es (i :: is) []) r = (evA C es r).bind fun ys r1 => match permL ys (i :: is), C.modes f with
    | some xs, some ms => callR ms (C.call f) xs r1
    | _, _ => .bad := by
  simp only [ev]
  congr 1
  funext ys r1
  first
  | (simp only [List.map_nil, List.append_nil, permO, List.isEmpty_cons, Bool.false_eq_true, if_false]; done)
  | (simp only [List.map_nil, List.append_nil, permO, List.isEmpty_cons, Bool.false_eq_true, if_false]
     cases permL ys (i :: is) with
     | none => rfl
     | some xs => cases C.modes f <;> rfl)
@[simp] theorem q_perm0 {A : Type} {l : List A} : permL l [] = some [] := rfl
@[simp] theorem q_perm {A : Type} {l : List A} {i : Nat} {is : List Nat} : permL l (i :: is) = (l[i]?).bind fun a => (permL l is).map (a :: ·) := rfl
/-- the least twos of c places -/
def lt (w : Nat) (ps : List Int) (c : Nat) : Int := ((br w ps).take c).sum
end
end Z
/-! YP: the law of the least twos. -/
namespace Z
open PySem (Str Operator CmpOp)
end Z
/-! YQ: the law of the least twos. -/
namespace Z
open PySem (Str Operator CmpOp)
section
variable {Pg : Nat → Option Df} {fuel k f : Nat}
theorem PlW.near {w : Nat} {ps : List Int} (h : PlW w ps) (hw : w ≤ 64) : ∀ q ∈ ps, ∀ p ∈ ps, (p - q).natAbs < 2 ^ 64 := fun q hq p hp => by
  have a1 := h.2.2 q hq
  have a2 := h.2.2 p hp
  have := (pow_le64 hw).2
  omega
end
end Z
/-! YR: the law of the least twos, great places; the law. -/
namespace Z
open PySem (Str Operator CmpOp)
end Z
/-! YS: the law of the least twos, joined. -/
namespace Z
open PySem (Str Operator CmpOp)
def fb : Nat → Nat → Nat
  | 0, _ => 0
  | d + 1, n => n / 2 + fb d (n / 2)
@[simp high] theorem q_lst5 {C : Cf} {r : En} {a b c d e : E} : ev C (.lst [a, b, c, d, e]) r = (evs C [a, b, c, d, e] r).bind fun ds r1 => .ok (.ow (.lst ds)) r1 := q_lstS (by simp)
end Z
/-! YU: codes: counts of items, sizes; what laws of codes draw. -/
namespace Z
open PySem (Str Operator CmpOp)
/-- items_counted -/
def s_items_counted : List S :=
  [.ret (.bi .len [.lc (.var 3) (.v 3) (.e (.slc (.var 1) (.con .non) (.var 2))) [.val (.cmp .Lt (.var 3) (.var 0))] [3]])]
def d_items_counted : Df := { modes := [false, false, false], names := 4, body := s_items_counted }
/-- check_code -/
def s_check_code : List S :=
  [.ex (.call 13 [.var 0, .var 1] [] []),
    .ex (.call 2 [.var 2, .con (.int 0), .con .non] [] [])]
def d_check_code : Df := { modes := [false, false, false], names := 3, body := s_check_code }
section
variable {Pg : Nat → Option Df} {fuel k f : Nat} {C : Cf}
theorem m_between_none (G : GB Pg) (n a : Int) (h : a ≤ n) : callD Pg fuel (k + 2) 1 [.int n, .int a, .non] = .ok (.sh (.bl true)) [] := by
  rw [callD_eq G.h1 ⟨rfl, Nat.le_refl _⟩]
  have e := m_is_whole G.h0 fuel k n
  simp [d_is_between, s_is_between, start_eq, G.h0, d_is_whole, e, cmpD, isD, ordI, h]
theorem m_check_from (G : GB Pg) (h : Pg f = some d_check_number) (n a : Int) (hn : a ≤ n) : callD Pg fuel (k + 3) f [.int n, .int a, .non] = .ok (.sh .non) [] := by
  rw [callD_eq h ⟨rfl, Nat.le_refl _⟩]
  have e := m_between_none (fuel := fuel) (k := k) G n a hn
  simp [d_check_number, s_check_number, start_eq, G.h1, d_is_between, e]
theorem m_check_code (G : GB Pg) (h2 : Pg 2 = some d_check_number) (h : Pg f = some d_check_code) (w : Nat) (hw : 1 ≤ w ∧ w ≤ 64) (ps : List Int) (hl : ps.length ≤ 900) (hp : PlW w ps) (c : Int) (hc : 0 ≤ c) : callD Pg fuel (k + 6) f [.int w, il ps, .int c] = .ok (.sh .non) [] := by
  rw [callD_eq h ⟨rfl, Nat.le_refl _⟩]
  have e2 := m_check_places (fuel := fuel) (k := k) G.h0 G.h1 G.h3 G.h8 G.h9 G.h10 G.h11 G.h12 G.h13 w hw.1 hw.2 ps (by omega) hp.1 hp.2.1 hp.2.2
  have e3 := m_check_from (fuel := fuel) (k := k + 2) G h2 c 0 hc
  simp [d_check_code, s_check_code, start_eq, G.h13, d_check_places, e2, h2, d_check_number, e3]
/-- the numbers below a width among the first so many -/
def cnt_w (w : Int) (ns : List Int) (c : Nat) : List Int := (ns.take c).filter fun n => decide (n < w)
theorem cut_some (l : List Int) (c : Int) (hc : 0 ≤ c) : cut (l.map D.int) none (some c) = (l.take c.toNat).map D.int := by
  have := cut_take l c.toNat
  rw [show ((c.toNat : Nat) : Int) = c by omega] at this
  exact this
theorem filt_run (p : Int → Bool) : ∀ l : List Int, List.filterMap (fun d => match d with | D.int n => if p n = true then some (D.int n) else none | _ => none) (l.map D.int) = (l.filter p).map .int
  | [] => rfl
  | x :: l => by
    simp only [List.map_cons, List.filterMap_cons, List.filter_cons]
    cases h : p x
    · simp only [Bool.false_eq_true, if_false]
      exact filt_run p l
    · simp only [if_true]
      exact congrArg _ (filt_run p l)
theorem m_counted (h : Pg f = some d_items_counted) (w : Int) (ns : List Int) (hl : ns.length ≤ 900) (c : Int) (hc : 0 ≤ c) : callD Pg fuel (k + 1) f [.int w, il ns, .int c] = .ok (.sh (.int (cnt_w w ns c.toNat).length)) [] := by
  rw [callD_eq h ⟨rfl, Nat.le_of_ble_eq_true rfl⟩]
  have ec := cut_some ns c hc
  have lc1 : ev (Cz Pg fuel k) (.lc (.var 3) (.v 3) (.e (.slc (.var 1) (.con .non) (.var 2))) [.val (.cmp .Lt (.var 3) (.var 0))] [3]) [.sh (.int w), .sh (il ns), .sh (.int c), .no] = .ok (.ow (il (cnt_w w ns c.toNat))) [.sh (.int w), .sh (il ns), .sh (.int c), .no] := by
    rw [lc_run (r1 := [.sh (.int w), .sh (il ns), .sh (.int c), .no]) (l := (ns.take c.toNat).map .int) (fun d => match d with | D.int n => if decide (n < w) = true then some (D.int n) else none | _ => none)]
    · rw [filt_run]
      simp [thawL, thw, thw1, flat_il, cnt_w]
    · generalize ns.take c.toNat = X at *
      simp [por, isNon, slcD, part?, ec, itemsD]
    · rfl
    · rfl
    · exact line_le (by simp; omega)
    · intro x hx
      obtain ⟨n, hn, rfl⟩ := List.mem_map.mp hx
      refine ⟨[.sh (.int w), .sh (il ns), .sh (.int c), .sh (.int n)], ?_, rfl⟩
      by_cases q : n < w
      · simp [lcF, wip, bindT, q]
      · simp [lcF, wip, bindT, q]
  generalize cnt_w w ns c.toNat = X at *
  simp [d_items_counted, s_items_counted, start_eq, lc1]
end
end Z
/-! YV: the least width for a size; places, orders and widths by a law of codes. -/
namespace Z
open PySem (Str Operator CmpOp)
section
variable {Pg : Nat → Option Df} {fuel k f : Nat} {C : Cf}
@[simp] theorem q_negc {a : Int} {r : En} : ev C (.neg (.con (.int a))) r = .ok (.sh (.int (-a))) r := by simp only [ev, R.bind_ok, Val.d_sh]
end
end Z
/-! YW: the good order of a law of codes; the bits of the last place. -/
namespace Z
open PySem (Str Operator CmpOp)
end Z
/-! YX: the law of every width. -/
namespace Z
open PySem (Str Operator CmpOp)
section
variable {Pg : Nat → Option Df} {fuel k f : Nat} {C : Cf}
theorem PlW.mono {w w' : Nat} {ps : List Int} (h : PlW w ps) (l : w ≤ w') : PlW w' ps := ⟨h.1, h.2.1, fun x hx => by
  have a := h.2.2 x hx
  have b := Nat.pow_le_pow_right (n := 2) (by omega) l
  have e1 : ((2 ^ w : Nat) : Int) = 2 ^ w := by simp
  have e2 : ((2 ^ w' : Nat) : Int) = 2 ^ w' := by simp
  omega⟩
theorem wt_il (l : List Int) (h : ∀ x ∈ l, x.natAbs < 10 ^ 100) : PySem.PyData.weight (pyT (il l)) ≤ 401 * l.length := by
  simp only [pyT, PySem.PyData.weight]
  induction l with
  | nil => simp [pyTs, PySem.PyData.weightAll]
  | cons x l ih =>
    have := ih fun y hy => h y (List.mem_cons_of_mem _ hy)
    have hx := h x List.mem_cons_self
    simp only [List.map_cons, pyTs, PySem.PyData.weightAll, pyT, PySem.PyData.weight, List.length_cons]
    have : (if (x == 0) = true then 0 else x.natAbs.log2 + 1) ≤ 400 := by
      split
      · omega
      · rename_i c
        have hx0 : x ≠ 0 := by simpa using c
        have a : (10 : Nat) ^ 100 ≤ 2 ^ 350 := by decide +kernel
        have := (Nat.log2_lt (n := x.natAbs) (k := 350) (by omega)).mpr (by omega)
        omega
    omega
theorem plns_il (l : List Int) (h : ∀ x ∈ l, x.natAbs < 10 ^ 100) : plns 100 (l.map D.int) = true := by
  induction l with
  | nil => rfl
  | cons x l ih =>
    simp only [List.map_cons, plns, pln, Bool.and_eq_true, decide_eq_true_eq]
    exact ⟨h x List.mem_cons_self, ih fun y hy => h y (List.mem_cons_of_mem _ hy)⟩
theorem repr_il {l : List Int} (hl : l.length ≤ 100) (h : ∀ x ∈ l, x.natAbs < 10 ^ 100) : ∃ z, biD .repr [il l] = some (.sh (.str z)) ∧ cmpD .NotEq (.str z) (.str z) = some false ∧ cmpD .Eq (.str z) (.str z) = some true := by
  have p : pln 100 (il l) = true := by simp only [pln]; exact plns_il l h
  refine ⟨_, bi_repr_of 100 (by decide) (by decide) p (by simp [dep, deps_il]) ?_, str_same (cps_shown 100 _ p)⟩
  have := wt_il l h
  omega
@[simp high] theorem q_lst6 {C : Cf} {r : En} {a b c d e f : E} : ev C (.lst [a, b, c, d, e, f]) r = (evs C [a, b, c, d, e, f] r).bind fun ds r1 => .ok (.ow (.lst ds)) r1 := q_lstS (by simp)
end
end Z
/-! YY: the law of every width: its walk. -/
namespace Z
open PySem (Str Operator CmpOp)
end Z
/-! YZ: the law of every width, joined. -/
namespace Z
open PySem (Str Operator CmpOp)
end Z
/-! VA: steps on one side: the law in plain numbers. -/
namespace Z
/-- how much so many steps tell -/
def hs (low n : Nat) : Nat := low * n + fa n
end Z
/-! VB: what follows from words at other places. -/
namespace Z
open PySem (Str Operator CmpOp)
/-- _law_random -/
def s__law_random : List S :=
  [.ite (.val (.cmp .Gt (.idx (.var 0) (.con (.int 0))) (.con (.int 0)))) [.asg (.v 2) (.bin .Mod (.bi .int [.idx (.var 0) (.con (.int 0))]) (.var 1)),
    .seti 0 (.con (.int 0)) (.bin .FloorDiv (.idx (.var 0) (.con (.int 0))) (.var 1)),
    .ret (.var 2)] [],
    .asg (.v 2) (.con (.int 0)),
    .for_ (.v 3) (.rng1 (.bin .Add (.con (.int 1)) (.bin .FloorDiv (.bits (.var 1)) (.con (.int 30))))) [.seti 0 (.con (.int 2)) (.bin .Add (.idx (.var 0) (.con (.int 2))) (.con (.int 1))),
    .asg (.v 2) (.bin .Add (.bin .Mult (.var 2) (.con (.int 2147483587))) (.call 32 [.idx (.var 0) (.con (.int 1)), .idx (.var 0) (.con (.int 2))] [] []))],
    .ret (.bin .Mod (.bi .int [.var 2]) (.var 1))]
def d__law_random : Df := { modes := [true, false], names := 4, body := s__law_random }
end Z
/-! VC: how many steps are needed. -/
namespace Z
open PySem (Str Operator CmpOp)
section
variable {Pg : Nat → Option Df} {fuel k f : Nat} {C : Cf}
@[simp] theorem cmp_ne_bb {a b : Bool} : cmpD .NotEq (.bl a) (.bl b) = some (!(a == b)) := by
  simp [cmpD, okq, lay, dep, eqv]
end
end Z
/-! VD: the law of steps on one side. -/
namespace Z
open PySem (Str Operator CmpOp)
end Z
/-! VE: the law of steps on one side, joined. -/
namespace Z
open PySem (Str Operator CmpOp)
end Z
/-! VF: the law of steps on one side. -/
namespace Z
open PySem (Str Operator CmpOp)
end Z
/-! WA: words of polynomials: plain numbers; a comprehension that changes the state. -/
namespace Z
/-- what a polynomial is at a number -/
def pv : List Int → Int → Int
  | [], _ => 0
  | c :: cs, x => c + x * pv cs x
end Z
/-! WB: words of polynomials: the defs. -/
namespace Z
open PySem (Str Operator CmpOp)
section
variable {Pg : Nat → Option Df} {fuel k f : Nat} {C : Cf}
theorem m_randomL (h32 : Pg 32 = some d__law_hash) (h : Pg f = some d__law_random_v1) (m : Nat) (hm : m ≤ 1000000) (g : D) (hg : Gd m g) (L : Int) (hL : 1 ≤ L ∧ L ≤ 1298074214633706907132624082305024) : ∃ v g', (0 ≤ v ∧ v < L) ∧ Gd (m + 4) g' ∧ callD Pg fuel (k + 2) f [g, .int L] = .ok (.sh (.int v)) [g'] := by
  obtain ⟨a, b, c, rfl, hb, hc⟩ := hg
  rw [callD_eq h ⟨rfl, Nat.le_of_ble_eq_true rfl⟩]
  have md : ∀ x : Int, 0 ≤ x % L ∧ x % L < L := fun x => ⟨Int.emod_nonneg _ (by omega), Int.emod_lt_of_pos _ (by omega)⟩
  have eM : ∀ x, binI .Mod x L = some (x % L) := fun x => bI_mod (by omega)
  have big : (2 : Int) ^ 1000 > 1298074214633706907132624082305024 := by decide
  have eF : ∀ x, binI .FloorDiv x L = some (x / L) := fun x => bI_fdiv (by omega) (by omega)
  by_cases ha : 0 < a
  · refine ⟨a % L, .lst [.int (a / L), .int b, .int c], md a, ⟨_, b, c, rfl, hb, by omega⟩, ?_⟩
    simp [d__law_random_v1, s__law_random_v1, start_eq, idxD, atL, ixN, ha, eM, eF, setD]
  · have ib := ib_le (x := L) (n := 111) (by omega)
    have e30 : binI .FloorDiv (PySem.Builtin.Int.intBits L : Int) 30 = some ((PySem.Builtin.Int.intBits L : Int) / 30) := bI_fdiv (by decide) (by omega)
    obtain ⟨t, ht, ht3⟩ : ∃ t : Nat, 1 + (PySem.Builtin.Int.intBits L : Int) / 30 = t ∧ t ≤ 4 := ⟨1 + PySem.Builtin.Int.intBits L / 30, by omega, by omega⟩
    have er := rng1_eq (C := Cz Pg fuel (k + 1)) (b := .bin .Add (.con (.int 1)) (.bin .FloorDiv (.bits (.var 1)) (.con (.int 30)))) (r := [.io (.lst [.int a, .int b, .int c]), .sh (.int L), .sh (.int 0), .no]) (r2 := [.io (.lst [.int a, .int b, .int c]), .sh (.int L), .sh (.int 0), .no]) (y := .inr (.int t)) (j := t) (by
      simp [mtD, e30, ht]) rfl (by omega)
    have lp := for_run (t := .v 3) (body := [.seti 0 (.con (.int 2)) (.bin .Add (.idx (.var 0) (.con (.int 2))) (.con (.int 1))),
    .asg (.v 2) (.bin .Add (.bin .Mult (.var 2) (.con (.int 2147483587))) (.call 32 [.idx (.var 0) (.con (.int 1)), .idx (.var 0) (.con (.int 2))] [] []))])
      (fun i r => ∃ (c x : Int) (y : Sl), r = [.io (.lst [.int a, .int b, .int c]), .sh (.int L), .sh (.int x), y] ∧ (y = .no ∨ ∃ d, y = .sh d) ∧ (0 ≤ c ∧ c ≤ m + i) ∧ x.natAbs < 2 ^ (32 * i)) er (by
        intro j hj r hr
        rw [rng0_len] at hj
        obtain ⟨c, x, y, rfl, hy, hc, hx⟩ := hr
        rw [rng0_get]
        obtain ⟨v, hv, e⟩ := m_hash (fuel := fuel) (k := k) h32 b (c + 1) (by omega) (by omega)
        have pw : 2 ^ (32 * (j + 1)) = 2 ^ (32 * j) * 4294967296 := by rw [Nat.mul_add, Nat.pow_add]
        have le : 2 ^ (32 * j) ≤ 2 ^ 128 := Nat.pow_le_pow_right (by decide) (by omega)
        have pos : 0 < 2 ^ (32 * j) := Nat.pow_pos (by decide)
        have eX : binI .Mult x 2147483587 = some (x * 2147483587) := bI_mul 128 40 (by omega) (by decide) (by omega)
        refine ⟨_, ?_, c + 1, x * 2147483587 + v, .sh (.int j), rfl, .inr ⟨_, rfl⟩, by omega, ?_⟩
        · rcases hy with rfl | ⟨d, rfl⟩ <;> simp [bindT, idxD, atL, ixN, setD, eX, e, h32, d__law_hash]
        · rw [pw]
          generalize 2 ^ (32 * j) = P at *
          omega) ⟨c, 0, .no, rfl, .inl rfl, by omega, by decide⟩
    obtain ⟨r', e', c', x', y', rfl, hy, hc', hx'⟩ := lp
    rw [rng0_len] at hc'
    refine ⟨x' % L, .lst [.int a, .int b, .int c'], md x', ⟨a, b, c', rfl, hb, by omega⟩, ?_⟩
    simp [-q_for, d__law_random_v1, s__law_random_v1, start_eq, idxD, atL, ixN, ha, e', eM]
end
end Z
/-! WC: words of polynomials: what the law draws. -/
namespace Z
open PySem (Str Operator CmpOp)
end Z
/-! WI: a polynomial along an order (plain numbers). -/
namespace Z
/-- the product of the differences of a number to places -/
def pd : List Int → Int → Int
  | [], _ => 1
  | o :: O, x => (x - o) * pd O x
/-- a sum of items, each times the product ahead of it -/
def nw : List Int → List Int → Int → Int
  | i :: it, o :: O, x => i + (x - o) * nw it O x
  | _, _, _ => 0
end Z
/-! WJ: items of a polynomial's words; reading an item; the lists of coefficients (plain numbers). -/
namespace Z
/-- items within their bounds -/
def Its (w : Nat) (N it : List Int) : Prop := ∀ (i : Nat) (a : Int), it[i]? = some a → ∃ n : Nat, N[i]? = some (n : Int) ∧ n < w ∧ 0 ≤ a ∧ a < 2 ^ (w - n)
theorem Its.take {w : Nat} {N it : List Int} (h : Its w N it) (j : Nat) : Its w N (it.take j) := fun i a e => by
  rw [List.getElem?_take] at e
  split at e
  · exact h i a e
  · simp at e
/-- what is added to the first of a list -/
def hd (i : Int) : List Int → List Int
  | [] => []
  | c :: f => (c + i) :: f
end Z
/-! WK: codes: items read off words: the defs. -/
namespace Z
open PySem (Str Operator CmpOp)
end Z
/-! WL: items read off words, codewords, misfits. -/
namespace Z
open PySem (Str Operator CmpOp)
section
variable {Pg : Nat → Option Df} {fuel k f : Nat} {C : Cf}
theorem Its.small {w : Nat} (hw : w ≤ 64) {N it : List Int} (h : Its w N it) : ∀ a ∈ it, a.natAbs < 2 ^ 64 := fun a m => by
  obtain ⟨i, hi, e⟩ := List.getElem_of_mem m
  obtain ⟨n, _, ln, a0, a1⟩ := h i a (by rw [← e]; exact List.getElem?_eq_getElem hi)
  have := (pow_le64 (w := w - n) (by omega)).2
  omega
end
end Z
/-! WM: codes: codewords, items, misfits, coefficients. -/
namespace Z
open PySem (Str Operator CmpOp)
end Z
/-! WN: codes: the lists of coefficients. -/
namespace Z
open PySem (Str Operator CmpOp)
section
variable {Pg : Nat → Option Df} {fuel k f : Nat} {C : Cf}
theorem idx_il {l : List Int} {i : Nat} (h : i < l.length) : idxD (il l) (.int (i : Nat)) = some (.int l[i]) := by
  simp only [idxD, atL, List.length_map]
  rw [ixN_nat h]
  simp [h]
end
end Z
/-! WO: polynomials and codewords: the law's own defs. -/
namespace Z
open PySem (Str Operator CmpOp)
end Z
/-! WP: polynomials and codewords: the law's turns. -/
namespace Z
open PySem (Str Operator CmpOp)
/-! ### plain facts -/
end Z
/-! WR: how many codewords there are (plain numbers). -/
namespace Z
end Z
/-! WS: how many codewords there are: the defs. -/
namespace Z
open PySem (Str Operator CmpOp)
section
variable {Pg : Nat → Option Df} {fuel k f : Nat} {C : Cf} {r : En} {i : Nat} {a b : E}
@[simp] theorem iv_dnt : isVar .dnt = none := rfl
@[simp] theorem iv_dlen : isVar (.dlen i) = none := rfl
@[simp] theorem qb_dlen {f : En → R Val} : bor (.dlen i) f r = (f r).bind fun v r1 => .ok (.inr v.d) r1 := rfl
@[simp] theorem q_dnt : ev C .dnt r = .ok (.ow (.dts [])) r := by simp only [ev]
@[simp] theorem q_dlen : ev C (.dlen i) r = (match r[i]? with | some (.ow (.dts ks)) => .ok (.sh (.int ks.length)) r | _ => .bad) := by simp only [ev] <;> rfl
@[simp] theorem q_dput : x1 C (.dput i a b) r = (ev C b r).run fun v r1 => if (r1.own? i).isSome = true then (ev C a r1).run fun k r2 => O.of ((r2.own? i).bind fun o => (dputD o k.d v.d).bind fun d => r2.chg i d) else .bad := by simp only [x1]
end
end Z
/-! WT: how many codewords there are: the law's turns. -/
namespace Z
open PySem (Str Operator CmpOp)
/-! ### plain facts -/
end Z
/-! WV: reading any words along the order (plain numbers). -/
namespace Z
theorem Its.one {w : Nat} {N t : List Int} {a : Int} {n : Nat} (h : Its w N t) (hn : N[t.length]? = some (n : Int)) (lw : n < w) (a0 : 0 ≤ a) (a1 : a < 2 ^ (w - n)) : Its w N (t ++ [a]) := fun i b e => by
  rw [List.getElem?_append] at e
  split at e
  · exact h i b e
  · rename_i c
    have : i = t.length := by
      have l := (List.getElem?_eq_some_iff.mp e).1
      simp at l
      omega
    subst this
    simp at e
    subst e
    exact ⟨n, hn, lw, a0, a1⟩
end Z
/-! WW: reading any words: the program. -/
namespace Z
open PySem (Str Operator CmpOp)
end Z
/-! WX: codewords and the first misfit: the law's defs. -/
namespace Z
open PySem (Str Operator CmpOp)
section
variable {Pg : Nat → Option Df} {fuel k f : Nat} {C : Cf}
/-- a list as a tuple -/
abbrev tl (T : List Int) : D := .tup (T.map .int)
end
end Z
/-! WY: codewords and the first misfit: all codewords, all words. -/
namespace Z
open PySem (Str Operator CmpOp)
end Z
/-! WZ: codewords and the first misfit: the law's own reading. -/
namespace Z
open PySem (Str Operator CmpOp)
/-- an item found bit by bit -/
def bt (o z : Int) : Nat → Int
  | 0 => 0
  | b + 1 => if (z - bt o z b * o) % 2 ^ (b + 1) = 0 then bt o z b else bt o z b + 2 ^ b
section
variable {Pg : Nat → Option Df} {fuel k f : Nat} {C : Cf}
abbrev lE : List S := [.ite (.val (.cmp .NotEq (.var 10) (.con (.int 0)))) [.ret (.var 9)] []]
end
end Z
/-! XA: codewords and the first misfit: the law's own reading, whole. -/
namespace Z
open PySem (Str Operator CmpOp)
end Z
/-! XB: codewords and the first misfit: small codes (plain facts, and the loops). -/
namespace Z
open PySem (Str Operator CmpOp)
end Z
/-! NA: k19: twos by 200 turns, the greedy order by append, powers. -/
namespace Z
open PySem (Str Operator CmpOp)
/-- _law_power -/
def s__law_power : List S :=
  [.asg (.v 1) (.con (.int 1)),
    .for_ (.v 2) (.rng1 (.var 0)) [.asg (.v 1) (.bin .Mult (.var 1) (.con (.int 2)))],
    .ret (.var 1)]
def d__law_power : Df := { modes := [false], names := 3, body := s__law_power }
end Z
/-! NB: parts of places: costs beside a part's order. -/
namespace Z
end Z
/-! NC: which parts of places tell codewords. -/
namespace Z
/-- a part's first numbers are those of all places -/
def Pre (d : Nat) (S Q : List Int) (i : Nat) : Prop := i ≤ Q.length ∧ ∀ j, j < i → (br d Q)[j]? = (br d S)[j]?
section
variable {d w : Nat} {S Q : List Int}
theorem Pre.mono {i j : Nat} (h : Pre d S Q i) (l : j ≤ i) : Pre d S Q j := ⟨Nat.le_trans l h.1, fun a b => h.2 a (by omega)⟩
/-- the step of a hidden word -/
def hst (w : Nat) (Q : List Int) (i : Nat) : Nat := if i < Q.length then w - min w ((br w Q)[i]?.getD 0).toNat else 0
end
end Z
/-! NCW: codewords of a count, plainly. -/
namespace Z
end Z
/-! ND: the lacking item; words of polynomials by falling products; the words that are 0 at a part. -/
namespace Z
end Z
/-! UL: the least weight of a codeword is the least number of lost places (plain). -/
namespace Z
end Z
/-! TLA: comprehensions over any things. -/
namespace Z
open PySem (Str Operator CmpOp PyData)
theorem thw1_self (x : Sl) : thw1 x x = some x ∨ thw1 x x = none := by
  cases x with
  | no => exact .inl rfl
  | sh d => exact .inl rfl
  | ow d => simp only [thw1]; split <;> simp
  | io d => simp only [thw1]; split <;> simp
theorem thw_frz : ∀ (r : En) (i : Nat) (d : D), r[i]? = some (.ow d) → thw r (r.set i (.sh d)) = some r ∨ thw r (r.set i (.sh d)) = none
  | [], i, d, h => by cases h
  | x :: r, 0, d, h => by
    cases h
    rw [List.set_cons_zero]
    simp only [thw, thw1]
    rcases thw_self r with e | e <;> rw [e] <;> split <;> simp
  | x :: r, i + 1, d, h => by
    rw [List.set_cons_succ]
    simp only [thw]
    rcases thw1_self x with e | e <;> rw [e]
    · rcases thw_frz r i d h with e2 | e2 <;> rw [e2] <;> simp
    · simp
/-- a list that was only walked is one's own still, or is not -/
theorem thawL_frz {r : En} {i : Nat} {d : D} (h : r[i]? = some (.ow d)) (ds : List D) : thawL r ds (r.set i (.sh d)) = .ok (.ow (.lst ds)) r ∨ thawL r ds (r.set i (.sh d)) = .ok (.ow (.lst ds)) (r.set i (.sh d)) := by
  unfold thawL
  split
  · rcases thw_frz r i d h with e | e <;> rw [e]
    · exact .inl rfl
    · exact .inr rfl
  · exact .inr rfl
theorem lcL_runA {A : Type} {f : D → En → R (Option D)} (Iv : En → Prop) (mk : A → D) (g : A → Option D) : ∀ (l : List A) (acc : List D) (r : En), (∀ x ∈ l, ∀ r, Iv r → ∃ r', f (mk x) r = .ok (g x) r' ∧ Iv r') → Iv r → acc.length + l.length ≤ LINE →
    ∃ r', lcL f (l.map mk) acc r = .ok (acc ++ l.filterMap g) r' ∧ Iv r'
  | [], acc, r, _, hr, _ => ⟨r, by simp [lcL], hr⟩
  | x :: l, acc, r, h, hr, hl => by
    obtain ⟨r1, e1, h1⟩ := h x List.mem_cons_self r hr
    simp only [List.length_cons] at hl
    rw [List.map_cons]
    unfold lcL
    rw [e1]
    cases c : g x with
    | none =>
      obtain ⟨r2, e2, h2⟩ := lcL_runA Iv mk g l acc r1 (fun y m => h y (List.mem_cons_of_mem _ m)) h1 (by omega)
      exact ⟨r2, by simpa [c] using e2, h2⟩
    | some y =>
      obtain ⟨r2, e2, h2⟩ := lcL_runA Iv mk g l (acc ++ [y]) r1 (fun y m => h y (List.mem_cons_of_mem _ m)) h1 (by simp; omega)
      refine ⟨r2, ?_, h2⟩
      simp only [R.nox_ok, R.bind_ok]
      rw [if_pos (by omega), e2]
      simp [c]
/-- a comprehension, item by item, over any things; the state may change -/
theorem lc_I {A : Type} {C : Cf} {e : E} {t : Tg} {it : I} {ts : List Z.T} {own : List Nat} {r r1 : En} (Iv : En → Prop) (l : List A) (mk : A → D) (g : A → Option D) (hi : evI C it r = .ok (l.map mk) r1) (ho : ownFree r1 own = true) (ht : (tgS t).all own.contains = true) (hl : l.length ≤ LINE)
    (h : ∀ x ∈ l, ∀ r, Iv r → ∃ r5, lcF t (evC C ts) (ev C e) own (mk x) r = .ok (g x) r5 ∧ Iv r5) (h0 : Iv (wip r1 own)) : ∃ r6, Iv r6 ∧ ev C (.lc e t it ts own) r = thawL r (l.filterMap g) (back r1 r6 own) := by
  obtain ⟨r6, e6, h6⟩ := lcL_runA (f := lcF t (evC C ts) (ev C e) own) Iv mk g l [] (wip r1 own) h h0 (by simpa using hl)
  refine ⟨r6, h6, ?_⟩
  rw [q_lc, hi]
  simp only [R.bind_ok]
  rw [if_pos (by rw [ho, ht]; rfl)]
  show (lcL (lcF t (evC C ts) (ev C e) own) (l.map mk) [] (wip r1 own)).bind _ = _
  rw [e6]
  simp only [R.bind_ok, List.nil_append]
/-- a comprehension, item by item, over any things; the state stays -/
theorem lc_A {A : Type} {C : Cf} {e : E} {t : Tg} {it : I} {ts : List Z.T} {own : List Nat} {r r1 : En} (l : List A) (mk : A → D) (g : A → Option D) (hi : evI C it r = .ok (l.map mk) r1) (ho : ownFree r1 own = true) (ht : (tgS t).all own.contains = true) (hl : l.length ≤ LINE)
    (h : ∀ x ∈ l, ∃ r5, lcF t (evC C ts) (ev C e) own (mk x) (wip r1 own) = .ok (g x) r5 ∧ wip r5 own = wip r1 own) : ev C (.lc e t it ts own) r = thawL r (l.filterMap g) r1 := by
  obtain ⟨r6, h6, e6⟩ := lc_I (fun r => wip r own = wip r1 own) l mk g hi ho ht hl (fun x m r hr => by
    obtain ⟨r5, e5, h5⟩ := h x m
    exact ⟨r5, by rw [lcF_wip hr]; exact e5, h5⟩) (wip_wip _ _)
  rw [e6, back_wip h6]
theorem fm_if {A B : Type} (p : A → Bool) (f : A → B) (l : List A) : (l.filterMap fun x => if p x = true then some (f x) else none) = (l.filter p).map f := by
  induction l with
  | nil => rfl
  | cons x l ih =>
    rw [List.filterMap_cons, List.filter_cons]
    by_cases c : p x = true
    · rw [if_pos c, if_pos c, List.map_cons, ← ih]
    · rw [if_neg c, if_neg c, ← ih]
theorem fm_some {A B : Type} (f : A → B) (l : List A) : (l.filterMap fun x => some (f x)) = l.map f := by
  induction l with
  | nil => rfl
  | cons x l ih => rw [List.filterMap_cons, List.map_cons, ← ih]
/-- a thing that is one's own, or was -/
def SlX (d : D) (y : Sl) : Prop := y = .ow d ∨ y = .sh d
theorem evI_slot {C : Cf} {r : En} {i : Nat} {l : List D} {y : Sl} (h : r[i]? = some y) (hy : SlX (.lst l) y) : evI C (.e (.var i)) r = .ok l (r.set i (.sh (.lst l))) := by
  rcases hy with rfl | rfl
  · simp [h, itemsD]
  · have e : r.set i (.sh (.lst l)) = r := by
      obtain ⟨hi, e⟩ := List.getElem?_eq_some_iff.mp h
      rw [← e, List.set_getElem_self]
    rw [e]
    simp [h, itemsD]
/-- a comprehension over a name -/
theorem lc_slot {A : Type} {C : Cf} {e : E} {t : Tg} {i : Nat} {ts : List Z.T} {own : List Nat} {r : En} {y : Sl} (l : List A) (mk : A → D) (g : A → Option D) (h : r[i]? = some y) (hy : SlX (.lst (l.map mk)) y) (ho : ownFree (r.set i (.sh (.lst (l.map mk)))) own = true) (ht : (tgS t).all own.contains = true) (hl : l.length ≤ LINE)
    (hx : ∀ x ∈ l, ∃ r5, lcF t (evC C ts) (ev C e) own (mk x) (wip (r.set i (.sh (.lst (l.map mk)))) own) = .ok (g x) r5 ∧ wip r5 own = wip (r.set i (.sh (.lst (l.map mk)))) own) :
    ∃ z, SlX (.lst (l.map mk)) z ∧ ev C (.lc e t (.e (.var i)) ts own) r = .ok (.ow (.lst (l.filterMap g))) (r.set i z) := by
  have e := lc_A (C := C) (e := e) (t := t) (ts := ts) l mk g (evI_slot (C := C) h hy) ho ht hl hx
  rcases hy with rfl | rfl
  · rcases thawL_frz h (l.filterMap g) with q | q
    · refine ⟨.ow (.lst (l.map mk)), .inl rfl, e.trans (q.trans ?_)⟩
      obtain ⟨hi, e⟩ := List.getElem?_eq_some_iff.mp h
      rw [← e, List.set_getElem_self]
    · exact ⟨_, .inr rfl, e.trans q⟩
  · have es : r.set i (.sh (.lst (l.map mk))) = r := by
      obtain ⟨hi, e⟩ := List.getElem?_eq_some_iff.mp h
      rw [← e, List.set_getElem_self]
    rw [es] at e
    refine ⟨_, .inr rfl, ?_⟩
    rw [es, e]
    exact thawL_self _ _
/-- a comprehension over a name that is shared: the state stays -/
theorem lc_sh {A : Type} {C : Cf} {e : E} {t : Tg} {i : Nat} {ts : List Z.T} {own : List Nat} {r : En} (l : List A) (mk : A → D) (g : A → Option D) (h : r[i]? = some (.sh (.lst (l.map mk)))) (ho : ownFree r own = true) (ht : (tgS t).all own.contains = true) (hl : l.length ≤ LINE)
    (hx : ∀ x ∈ l, ∃ r5, lcF t (evC C ts) (ev C e) own (mk x) (wip r own) = .ok (g x) r5 ∧ wip r5 own = wip r own) : ev C (.lc e t (.e (.var i)) ts own) r = .ok (.ow (.lst (l.filterMap g))) r := by
  have es : r.set i (.sh (.lst (l.map mk))) = r := by
    obtain ⟨hi, e⟩ := List.getElem?_eq_some_iff.mp h
    rw [← e, List.set_getElem_self]
  have ei := evI_slot (C := C) h (.inr rfl)
  rw [es] at ei
  rw [lc_A (C := C) (e := e) (t := t) (ts := ts) l mk g ei ho ht hl hx]
  exact thawL_self _ _
end Z
/-! UC: the defs of trees and distances (rows printed by zprint.py). -/
namespace Z
open PySem (Str Operator CmpOp)
/-- halves -/
def s_halves : List S :=
  [.asg (.v 2) (.lc (.var 3) (.v 3) (.e (.var 0)) [.val (.cmp .Eq (.bin .Mod (.bin .RShift (.var 3) (.var 1)) (.con (.int 2))) (.con (.int 0)))] [3]),
    .ret (.tup [.var 2, .lc (.var 3) (.v 3) (.e (.var 0)) [.val (.cmp .Eq (.bin .Mod (.bin .RShift (.var 3) (.var 1)) (.con (.int 2))) (.con (.int 1)))] [3]])]
def d_halves : Df := { modes := [false, false], names := 4, body := s_halves }
/-- pairs -/
def s_pairs : List S :=
  [.ret (.bin .FloorDiv (.bin .Mult (.var 0) (.bin .Sub (.var 0) (.con (.int 1)))) (.con (.int 2)))]
def d_pairs : Df := { modes := [false], names := 1, body := s_pairs }
/-- best_splits -/
def s_best_splits : List S :=
  [.par [2, 3] [.lst [], .lst []],
    .for_ (.v 4) (.rng1 (.bin .Sub (.bin .Add (.bi .len [.var 0]) (.bi .len [.var 1])) (.con (.int 1)))) [.par [5, 6] [.bi .max [.con (.int 0), .bin .Add (.bin .Sub (.var 4) (.bi .len [.var 1])) (.con (.int 1))], .bi .min [.var 4, .bin .Sub (.bi .len [.var 0]) (.con (.int 1))]],
    .asg (.v 7) (.lc (.bin .Add (.bin .Add (.bin .Add (.idx (.var 0) (.var 10)) (.call 15 [.var 10] [] [])) (.idx (.var 1) (.bin .Sub (.var 4) (.var 10)))) (.call 15 [.bin .Sub (.var 4) (.var 10)] [] [])) (.v 10) (.rng2 (.var 5) (.bin .Add (.var 6) (.con (.int 1)))) [] [10]),
    .asg (.v 8) (.bi .min [.var 7]),
    .asg (.v 9) (.lc (.bin .Add (.var 5) (.var 10)) (.t [.v 10, .v 11]) (.enm (.var 7)) [.val (.cmp .Eq (.var 11) (.var 8))] [10, 11]),
    .ex (.mut .append 2 [.var 8]),
    .ex (.mut .append 3 [.tup [.idx (.var 9) (.con (.int 0)), .idx (.var 9) (.neg (.con (.int 1)))]])],
    .ret (.tup [.var 2, .var 3])]
def d_best_splits : Df := { modes := [false, false], names := 12, body := s_best_splits }
/-- tree_of -/
def s_tree_of : List S :=
  [.ite (.val (.cmp .Lt (.bi .len [.var 0]) (.con (.int 2)))) [.ret (.tup [.var 0, .bin .Mult (.lst [.con (.int 0)]) (.bin .Add (.bi .len [.var 0]) (.con (.int 1))), .con .non, .con .non, .con .non])] [],
    .asg (.t [.v 2, .v 3]) (.call 14 [.var 0, .var 1] [] []),
    .par [4, 5] [.call 17 [.var 2, .bin .Add (.var 1) (.con (.int 1))] [] [], .call 17 [.var 3, .bin .Add (.var 1) (.con (.int 1))] [] []],
    .asg (.t [.v 6, .v 7]) (.call 16 [.idx (.var 4) (.con (.int 1)), .idx (.var 5) (.con (.int 1))] [] []),
    .ret (.tup [.var 0, .var 6, .var 7, .var 4, .var 5])]
def d_tree_of : Df := { modes := [false, false], names := 8, body := s_tree_of }
/-- lost_places -/
def s_lost_places : List S :=
  [.asg (.t [.v 2, .v 3, .v 4, .v 5, .v 6]) (.var 0),
    .ite (.val (.cmp .Gt (.var 1) (.bi .len [.var 2]))) [.ret (.lst [])] [],
    .ite (.val (.cmp .Eq (.var 1) (.con (.int 0)))) [.ret (.con .non)] [],
    .ite (.val (.cmp .Is (.var 4) (.con .non))) [.ret (.bi .list [.var 2])] [],
    .asg (.t [.v 7, .v 8]) (.idx (.var 4) (.var 1)),
    .asg (.v 9) (.lst [.call 18 [.var 5, .var 7] [] [], .call 18 [.var 6, .bin .Sub (.var 1) (.var 8)] [] []]),
    .for_ (.v 10) (.rng2 (.bin .Add (.var 7) (.con (.int 1))) (.bin .Add (.var 8) (.con (.int 1)))) [.ex (.mut .append 9 [.bin .Add (.call 18 [.var 5, .var 10] [] []) (.call 18 [.var 6, .bin .Sub (.bin .Add (.var 1) (.con (.int 1))) (.var 10)] [] [])])],
    .ret (.bi .minl [.lc (.var 11) (.v 11) (.e (.var 9)) [.val (.cmp .IsNot (.var 11) (.con .non))] [11]])]
def d_lost_places : Df := { modes := [false, false], names := 12, body := s_lost_places }
/-- distance_of -/
def s_distance_of : List S :=
  [.ret (.ite (.val (.cmp .Eq (.var 1) (.con (.int 0)))) (.con .non) (.bi .len [.call 18 [.call 17 [.var 0] [] [.int 0], .var 1] [] []]))]
def d_distance_of : Df := { modes := [false, false], names := 2, body := s_distance_of }
/-- distance -/
def s_distance : List S :=
  [.ex (.call 19 [.var 0, .var 1, .var 2] [] []),
    .ret (.call 30 [.var 1, .call 23 [.var 0, .var 1, .var 2] [] []] [] [])]
def d_distance : Df := { modes := [false, false, false], names := 3, body := s_distance }
end Z
/-! UD: halves, pairs, best splits. -/
namespace Z
open PySem (Str Operator CmpOp)
theorem tri_eq : ∀ n : Nat, triN n = (n : Int) * ((n : Int) - 1) / 2
  | 0 => by simp [triN]
  | n + 1 => by
    rw [triN, tri_eq n]
    have e : ((n + 1 : Nat) : Int) * (((n + 1 : Nat) : Int) - 1) = (n : Int) * ((n : Int) - 1) + 2 * n := by
      have : ((n + 1 : Nat) : Int) = (n : Int) + 1 := by omega
      rw [this, Int.add_sub_cancel, Int.mul_sub, Int.add_mul]
      omega
    rw [e, Int.add_mul_ediv_left _ _ (by decide)]
section
variable {Pg : Nat → Option Df} {fuel k f : Nat} {C : Cf}
theorem m_pairsF (s : List S) (hs : s = s_pairs) (h : Pg f = some { modes := [false], names := 1, body := s }) (n : Nat) (hn : n ≤ 1000) : callD Pg fuel (k + 1) f [.int n] = .ok (.sh (.int (triN n))) [] := by
  subst hs
  rw [callD_eq h ⟨rfl, Nat.le_of_ble_eq_true rfl⟩]
  have b1 := bits_lt (a := (n : Int)) (n := 10) (by omega)
  have b2 := bits_lt (a := (n : Int) - 1) (n := 10) (by omega)
  have e := tri_eq n
  have bb : bits (n : Int) + bits ((n : Int) - 1) ≤ 1000000 := by omega
  have b3 : bits 2 ≤ 9000 := by decide
  simp [s_pairs, start_eq, binD, binI, bb, b3, O.cr, outsOf, e]
theorem m_pairs (h : Pg 15 = some d_pairs) (n : Nat) (hn : n ≤ 1000) : callD Pg fuel (k + 1) 15 [.int n] = .ok (.sh (.int (triN n))) [] := m_pairsF s_pairs rfl h n hn
theorem m_halves (h : Pg 14 = some d_halves) (X : List Int) (lX : X.length ≤ 900) (L : Nat) : callD Pg fuel (k + 1) 14 [il X, .int L] = .ok (.sh (.tup [il (evn L X), il (odn L X)])) [] := by
  rw [callD_eq h ⟨rfl, Nat.le_of_ble_eq_true rfl⟩]
  have comp : ∀ (y2 : Sl) (b : Int), ev (Cz Pg fuel k) (.lc (.var 3) (.v 3) (.e (.var 0)) [.val (.cmp .Eq (.bin .Mod (.bin .RShift (.var 3) (.var 1)) (.con (.int 2))) (.con (.int b)))] [3]) [.sh (il X), .sh (.int L), y2, .no] =
      .ok (.ow (il (X.filter fun x => decide (x / 2 ^ L % 2 = b)))) [.sh (il X), .sh (.int L), y2, .no] := by
    intro y2 b
    have e := lc_sh (C := Cz Pg fuel k) (e := .var 3) (t := .v 3) (i := 0) (ts := [.val (.cmp .Eq (.bin .Mod (.bin .RShift (.var 3) (.var 1)) (.con (.int 2))) (.con (.int b)))]) (own := [3]) (r := [.sh (il X), .sh (.int L), y2, .no]) X D.int (fun x => if decide (x / 2 ^ L % 2 = b) = true then some (.int x) else none) rfl rfl rfl (line_le (by omega)) (fun x hx => by
      refine ⟨[.sh (il X), .sh (.int L), y2, .sh (.int x)], ?_, rfl⟩
      generalize il X = XX at *
      by_cases c : x / 2 ^ L % 2 = b <;> simp [lcF, wip, bindT, binD, binI, c])
    rw [e, fm_if]
  have c0 := comp .no 0
  have c1 := comp (.ow (il (evn L X))) 1
  have l2 : 2 ≤ LINE := line_le (by omega)
  have s1 : x1 (Cz Pg fuel k) (.asg (.v 2) (.lc (.var 3) (.v 3) (.e (.var 0)) [.val (.cmp .Eq (.bin .Mod (.bin .RShift (.var 3) (.var 1)) (.con (.int 2))) (.con (.int 0)))] [3])) [.sh (il X), .sh (.int L), .no, .no] = .nx [.sh (il X), .sh (.int L), .ow (il (evn L X)), .no] := by
    rw [q_asgv, c0, Z.R.run_ok]
    rfl
  have s2 : x1 (Cz Pg fuel k) (.ret (.tup [.var 2, .lc (.var 3) (.v 3) (.e (.var 0)) [.val (.cmp .Eq (.bin .Mod (.bin .RShift (.var 3) (.var 1)) (.con (.int 2))) (.con (.int 1)))] [3]])) [.sh (il X), .sh (.int L), .ow (il (evn L X)), .no] = .ret (.sh (.tup [il (evn L X), il (odn L X)])) [.sh (il X), .sh (.int L), .sh (il (evn L X)), .no] := by
    have c1' := comp (.sh (il (evn L X))) 1
    have e1 : il (X.filter fun x => decide (x / 2 ^ L % 2 = 1)) = il (odn L X) := rfl
    simp [c1', l2, e1]
  show Z.O.cr d_halves.modes (xs _ s_halves [.sh (il X), .sh (.int L), .no, .no]) = _
  unfold s_halves
  rw [q_xs, s1, Z.O.then_nx, q_xs, s2]
  rfl
/-- the twos of the best ones, by their numbers -/
def cstL (d : Nat) (S : List Int) : List Int := (List.range (S.length + 1)).map (cst d S)
theorem cstL_len (d : Nat) (S : List Int) : (cstL d S).length = S.length + 1 := by simp [cstL]
theorem cstL_at (d : Nat) (S : List Int) (i : Nat) (h : i ≤ S.length) : idxD (il (cstL d S)) (.int i) = some (.int (cst d S i)) := by
  have e := at_il (cstL d S) i (by rw [cstL_len]; omega)
  have g : (cstL d S)[i]'(by rw [cstL_len]; omega) = cst d S i := by simp [cstL]
  rw [g] at e
  exact e
def splD (d : Nat) (S : List Int) (m : Nat) : D := .tup [.int (loO d S m), .int (hiO d S m)]
def PaU (y : Sl) : Prop := y = .no ∨ (∃ d, y = .sh d) ∨ ∃ d, y = .ow d
theorem minI_isU : ∀ {l : List Int} {m : Int}, m ∈ l → (∀ y ∈ l, m ≤ y) → biD .min [il l] = some (.sh (.int m)) := by
  intro l m h a
  have ne : l ≠ [] := fun z => by rw [z] at h; cases h
  rw [bi_min_il ne]
  have h1 := a _ (List.getElem_mem (mi_lt ne))
  have h2 : l[mi l]'(mi_lt ne) ≤ m := (mi_at ne).1 m h
  have : l[mi l]'(mi_lt ne) = m := by omega
  rw [this]
theorem last_natU {l : List Nat} (h : l ≠ []) : idxD (il (l.map fun (i : Nat) => (i : Int))) (.int (-1)) = some (.int (l.getLastD 0 : Nat)) := by
  have p : 0 < l.length := List.length_pos_iff.mpr h
  have e : l.getLastD 0 = l[l.length - 1]'(by omega) := by
    cases l with
    | nil => exact absurd rfl h
    | cons x r => exact List.getLast_eq_getElem _
  rw [e]
  simp only [idxD, atL, ixN, List.length_map]
  rw [if_neg (by omega), if_pos (by omega), show (-1 + (l.length : Int)).toNat = l.length - 1 by omega, Option.bind_some, List.getElem?_map, List.getElem?_map, List.getElem?_eq_getElem (show l.length - 1 < l.length by omega)]
  rfl
@[simp] theorem q_negcU {C : Cf} {a : Int} {r : En} : ev C (.neg (.con (.int a))) r = .ok (.sh (.int (-a))) r := by simp only [ev, R.bind_ok, Val.d_sh]
theorem rng_natU (a n : Nat) : rangeI (a : Int) ((a + n : Nat) : Int) 1 = (List.range n).map fun (t : Nat) => ((a + t : Nat) : Int) := by
  unfold rangeI rangeN
  rw [if_pos rfl, show (((a + n : Nat) : Int) - (a : Int)).toNat = n by omega]
  refine List.map_congr_left fun t _ => ?_
  omega
theorem enum_mapU (g : Nat → Int) (n : Nat) : enumD ((List.range n).map fun t => D.int (g t)) = (List.range n).map fun (t : Nat) => D.tup [.int t, .int (g t)] := by
  unfold enumD
  rw [List.length_map, List.length_range]
  apply List.ext_getElem
  · simp
  · intro i h1 h2
    simp
/-- the twos of so many even ones and the rest -/
def tvS (d : Nat) (S : List Int) (m i : Nat) : Int := cst d (half 0 S) i + triN i + (cst d (half 1 S) (m - i) + triN (m - i))
abbrev BS (X0 X1 X2 X3 : D) (y4 y5 y6 y7 y8 y9 : Sl) : En := [.sh X0, .sh X1, .ow X2, .ow X3, y4, y5, y6, y7, y8, y9, .no, .no]
abbrev BS' (X0 X1 X2 X3 : D) (y4 y5 y6 y7 y8 y9 y10 y11 : Sl) : En := [.sh X0, .sh X1, .ow X2, .ow X3, y4, y5, y6, y7, y8, y9, y10, y11]
abbrev BSj (d : Nat) (S : List Int) (j : Nat) (y4 y5 y6 y7 y8 y9 : Sl) : En := BS (il (cstL d (half 0 S))) (il (cstL d (half 1 S))) (il ((List.range j).map (cst (d + 1) S))) (.lst ((List.range j).map (splD d S))) y4 y5 y6 y7 y8 y9
abbrev bsB : List S := [.par [5, 6] [.bi .max [.con (.int 0), .bin .Add (.bin .Sub (.var 4) (.bi .len [.var 1])) (.con (.int 1))], .bi .min [.var 4, .bin .Sub (.bi .len [.var 0]) (.con (.int 1))]], .asg (.v 7) (.lc (.bin .Add (.bin .Add (.bin .Add (.idx (.var 0) (.var 10)) (.call 15 [.var 10] [] [])) (.idx (.var 1) (.bin .Sub (.var 4) (.var 10)))) (.call 15 [.bin .Sub (.var 4) (.var 10)] [] [])) (.v 10) (.rng2 (.var 5) (.bin .Add (.var 6) (.con (.int 1)))) [] [10]), .asg (.v 8) (.bi .min [.var 7]), .asg (.v 9) (.lc (.bin .Add (.var 5) (.var 10)) (.t [.v 10, .v 11]) (.enm (.var 7)) [.val (.cmp .Eq (.var 11) (.var 8))] [10, 11]), .ex (.mut .append 2 [.var 8]), .ex (.mut .append 3 [.tup [.idx (.var 9) (.con (.int 0)), .idx (.var 9) (.neg (.con (.int 1)))]])]
theorem bs_turn (h15 : Pg 15 = some d_pairs) (d : Nat) (S : List Int) (lS : S.length ≤ 900) (j : Nat) (hj : j ≤ S.length) (y4 y5 y6 y7 y8 y9 : Sl) (h4 : Pn y4) (h5 : Pn y5) (h6 : Pn y6) (h7 : PaU y7) (h8 : Pn y8) (h9 : PaU y9) :
    ∃ z4 z5 z6 z7 z8 z9, Pn z4 ∧ Pn z5 ∧ Pn z6 ∧ PaU z7 ∧ Pn z8 ∧ PaU z9 ∧ ((Z.O.of (bindT (.v 4) (.int (j : Nat)) (BSj d S j y4 y5 y6 y7 y8 y9))).then fun r3 => xs (Cz Pg fuel (k + 1)) bsB r3) = (.nx (BSj d S (j + 1) z4 z5 z6 z7 z8 z9)) := by
  have hl := half_len S
  have lE := cstL_len d (half 0 S)
  have lO := cstL_len d (half 1 S)
  have atE := fun i h => cstL_at d (half 0 S) i h
  have atO := fun i h => cstL_at d (half 1 S) i h
  have mem := @optL_mem d S j
  have opt : optL d S j = ((List.range (min j (half 0 S).length + 1 - (j - (half 1 S).length))).map fun a => j - (half 1 S).length + a).filter fun i => decide (tvS d S j i = cst (d + 1) S j) := rfl
  have lohi := lo_hi (d := d) (S := S) hj
  have sp : splD d S j = .tup [.int (loO d S j), .int (hiO d S j)] := rfl
  have lo1 : loO d S j = (optL d S j).headD 0 := rfl
  have hi1 : hiO d S j = (optL d S j).getLastD 0 := rfl
  obtain ⟨i0, o0⟩ := opt_some d S j hj
  have ge : ∀ i, j - (half 1 S).length ≤ i → i ≤ min j (half 0 S).length → cst (d + 1) S j ≤ tvS d S j i := fun i a b => by
    have := cst_le d S i (j - i) (by omega) (by omega)
    rwa [show i + (j - i) = j by omega] at this
  have rj : (List.range (j + 1)).map (cst (d + 1) S) = (List.range j).map (cst (d + 1) S) ++ [cst (d + 1) S j] := by rw [List.range_succ, List.map_append]; rfl
  have rs : (List.range (j + 1)).map (splD d S) = (List.range j).map (splD d S) ++ [splD d S j] := by rw [List.range_succ, List.map_append]; rfl
  have lj : ((List.range j).map (cst (d + 1) S)).length = j := by simp
  have ls : ((List.range j).map (splD d S)).length = j := by simp
  generalize gA : (half 0 S).length = a at *
  generalize gB : (half 1 S).length = b at *
  have nn : min j a + 1 = (j - b) + (min j a + 1 - (j - b)) := by omega
  generalize gn : min j a + 1 - (j - b) = n at *
  generalize glo : j - b = lo at *
  have n0 : 0 < n := by
    obtain ⟨x1, x2, x3, _⟩ := o0
    omega
  have p0 : ∀ t, t < n → lo + t ≤ j ∧ lo + t ≤ a ∧ j - (lo + t) ≤ b := fun t ht => by omega
  -- the twos by the numbers of even ones
  have told : ∀ (y5 y6 y7 y8 y9 : Sl), y5 = .sh (.int lo) → y6 = .sh (.int (min j a : Nat)) → ev (Cz Pg fuel (k + 1)) (.lc (.bin .Add (.bin .Add (.bin .Add (.idx (.var 0) (.var 10)) (.call 15 [.var 10] [] [])) (.idx (.var 1) (.bin .Sub (.var 4) (.var 10)))) (.call 15 [.bin .Sub (.var 4) (.var 10)] [] [])) (.v 10) (.rng2 (.var 5) (.bin .Add (.var 6) (.con (.int 1)))) [] [10]) (BS (il (cstL d (half 0 S))) (il (cstL d (half 1 S))) (il ((List.range j).map (cst (d + 1) S))) (.lst ((List.range j).map (splD d S))) (.sh (.int j)) y5 y6 y7 y8 y9) =
      .ok (.ow (il ((List.range n).map fun t => tvS d S j (lo + t)))) (BS (il (cstL d (half 0 S))) (il (cstL d (half 1 S))) (il ((List.range j).map (cst (d + 1) S))) (.lst ((List.range j).map (splD d S))) (.sh (.int j)) y5 y6 y7 y8 y9) := by
    intro y5 y6 y7 y8 y9 e5 e6
    subst e5; subst e6
    have er : evI (Cz Pg fuel (k + 1)) (.rng2 (.var 5) (.bin .Add (.var 6) (.con (.int 1)))) (BS (il (cstL d (half 0 S))) (il (cstL d (half 1 S))) (il ((List.range j).map (cst (d + 1) S))) (.lst ((List.range j).map (splD d S))) (.sh (.int j)) (.sh (.int lo)) (.sh (.int (min j a : Nat))) y7 y8 y9) = .ok ((List.range n).map fun (t : Nat) => D.int ((lo + t : Nat) : Int)) (BS (il (cstL d (half 0 S))) (il (cstL d (half 1 S))) (il ((List.range j).map (cst (d + 1) S))) (.lst ((List.range j).map (splD d S))) (.sh (.int j)) (.sh (.int lo)) (.sh (.int (min j a : Nat))) y7 y8 y9) := by
      rw [rng2_eq (C := Cz Pg fuel (k + 1)) (a := .var 5) (b := .bin .Add (.var 6) (.con (.int 1))) (r := BS (il (cstL d (half 0 S))) (il (cstL d (half 1 S))) (il ((List.range j).map (cst (d + 1) S))) (.lst ((List.range j).map (splD d S))) (.sh (.int j)) (.sh (.int lo)) (.sh (.int (min j a : Nat))) y7 y8 y9) (r1 := BS (il (cstL d (half 0 S))) (il (cstL d (half 1 S))) (il ((List.range j).map (cst (d + 1) S))) (.lst ((List.range j).map (splD d S))) (.sh (.int j)) (.sh (.int lo)) (.sh (.int (min j a : Nat))) y7 y8 y9) (r2 := BS (il (cstL d (half 0 S))) (il (cstL d (half 1 S))) (il ((List.range j).map (cst (d + 1) S))) (.lst ((List.range j).map (splD d S))) (.sh (.int j)) (.sh (.int lo)) (.sh (.int (min j a : Nat))) y7 y8 y9) (x := .inl 5) (y := .inr (.int ((lo + n : Nat) : Int))) (i := lo) (j := ((lo + n : Nat) : Int)) (by simp [bor, isVar]) (by
        have : ((min j a : Nat) : Int) + 1 = ((lo + n : Nat) : Int) := by omega
        generalize il (cstL d (half 0 S)) = X0 at *
        generalize il (cstL d (half 1 S)) = X1 at *
        simp [bor, isVar, this]) (by rfl) (by omega) (by omega), rng_natU, List.map_map]
      rfl
    rw [lc_A (List.range n) (fun (t : Nat) => D.int ((lo + t : Nat) : Int)) (fun t => some (.int (tvS d S j (lo + t)))) er rfl rfl (line_le (by simp; omega)) (fun t ht => by
      have ht := List.mem_range.mp ht
      obtain ⟨q1, q2, q3⟩ := p0 t ht
      have ix0 := atE (lo + t) q2
      have ix1 := atO (j - (lo + t)) q3
      have c1 := m_pairs (fuel := fuel) (k := k) h15 (lo + t) (by omega)
      have c2 := m_pairs (fuel := fuel) (k := k) h15 (j - (lo + t)) (by omega)
      have es : (j : Int) - ((lo + t : Nat) : Int) = ((j - (lo + t) : Nat) : Int) := by omega
      have et : cst d (half 0 S) (lo + t) + triN (lo + t) + cst d (half 1 S) (j - (lo + t)) + triN (j - (lo + t)) = tvS d S j (lo + t) := by unfold tvS; omega
      refine ⟨[.sh (il (cstL d (half 0 S))), .sh (il (cstL d (half 1 S))), .ow (il ((List.range j).map (cst (d + 1) S))), .ow (.lst ((List.range j).map (splD d S))), .sh (.int j), .sh (.int lo), .sh (.int (min j a : Nat)), y7, y8, y9, .sh (.int (lo + t : Nat)), .no], ?_, rfl⟩
      generalize ((lo + t : Nat) : Int) = u at *
      generalize tvS d S j (lo + t) = v at *
      generalize cst d (half 0 S) (lo + t) = v1 at *
      generalize cst d (half 1 S) (j - (lo + t)) = v2 at *
      generalize triN (lo + t) = v3 at *
      generalize triN (j - (lo + t)) = v4 at *
      generalize ((j - (lo + t) : Nat) : Int) = u2 at *
      generalize il (cstL d (half 0 S)) = X0 at *
      generalize il (cstL d (half 1 S)) = X1 at *
      generalize il ((List.range j).map (cst (d + 1) S)) = X2 at *
      generalize D.lst ((List.range j).map (splD d S)) = X3 at *
      simp [lcF, wip, bindT, bor, isVar, ix0, ix1, es, h15, d_pairs, c1, c2, et]), thawL_self, fm_some]
    show _ = R.ok (Val.ow (D.lst (List.map D.int (List.map (fun t => tvS d S j (lo + t)) (List.range n))))) _
    rw [List.map_map]
    rfl
  -- those that are best
  have best : ∀ (y9 : Sl), ∃ z7, PaU z7 ∧ ev (Cz Pg fuel (k + 1)) (.lc (.bin .Add (.var 5) (.var 10)) (.t [.v 10, .v 11]) (.enm (.var 7)) [.val (.cmp .Eq (.var 11) (.var 8))] [10, 11]) (BS (il (cstL d (half 0 S))) (il (cstL d (half 1 S))) (il ((List.range j).map (cst (d + 1) S))) (.lst ((List.range j).map (splD d S))) (.sh (.int j)) (.sh (.int lo)) (.sh (.int (min j a : Nat))) (.ow (il ((List.range n).map fun t => tvS d S j (lo + t)))) (.sh (.int (cst (d + 1) S j))) y9) =
      .ok (.ow (il ((optL d S j).map fun (i : Nat) => (i : Int)))) (BS (il (cstL d (half 0 S))) (il (cstL d (half 1 S))) (il ((List.range j).map (cst (d + 1) S))) (.lst ((List.range j).map (splD d S))) (.sh (.int j)) (.sh (.int lo)) (.sh (.int (min j a : Nat))) z7 (.sh (.int (cst (d + 1) S j))) y9) := by
    intro y9
    have e7 : il ((List.range n).map fun t => tvS d S j (lo + t)) = .lst ((List.range n).map fun (t : Nat) => D.int (tvS d S j (lo + t))) := by
      show D.lst (List.map D.int _) = _
      rw [List.map_map]
      rfl
    have ei : evI (Cz Pg fuel (k + 1)) (.enm (.var 7)) (BS (il (cstL d (half 0 S))) (il (cstL d (half 1 S))) (il ((List.range j).map (cst (d + 1) S))) (.lst ((List.range j).map (splD d S))) (.sh (.int j)) (.sh (.int lo)) (.sh (.int (min j a : Nat))) (.ow (il ((List.range n).map fun t => tvS d S j (lo + t)))) (.sh (.int (cst (d + 1) S j))) y9) =
        .ok ((List.range n).map fun (t : Nat) => D.tup [.int t, .int (tvS d S j (lo + t))]) (BS (il (cstL d (half 0 S))) (il (cstL d (half 1 S))) (il ((List.range j).map (cst (d + 1) S))) (.lst ((List.range j).map (splD d S))) (.sh (.int j)) (.sh (.int lo)) (.sh (.int (min j a : Nat))) (.sh (il ((List.range n).map fun t => tvS d S j (lo + t)))) (.sh (.int (cst (d + 1) S j))) y9) := by
      have em := enum_mapU (fun t => tvS d S j (lo + t)) n
      rw [e7]
      generalize (List.range n).map (fun (t : Nat) => D.int (tvS d S j (lo + t))) = T7 at *
      simp [lstD, em]
    have e := lc_A (C := Cz Pg fuel (k + 1)) (e := .bin .Add (.var 5) (.var 10)) (t := .t [.v 10, .v 11]) (ts := [.val (.cmp .Eq (.var 11) (.var 8))]) (own := [10, 11]) (List.range n) (fun (t : Nat) => D.tup [.int t, .int (tvS d S j (lo + t))]) (fun t => if (fun t => decide (tvS d S j (lo + t) = cst (d + 1) S j)) t = true then some (.int ((lo + t : Nat) : Int)) else none) ei rfl rfl (line_le (by simp; omega)) (fun t ht => by
      have es : (lo : Int) + (t : Int) = ((lo + t : Nat) : Int) := by omega
      refine ⟨BS' (il (cstL d (half 0 S))) (il (cstL d (half 1 S))) (il ((List.range j).map (cst (d + 1) S))) (.lst ((List.range j).map (splD d S))) (.sh (.int j)) (.sh (.int lo)) (.sh (.int (min j a : Nat))) (.sh (il ((List.range n).map fun t => tvS d S j (lo + t)))) (.sh (.int (cst (d + 1) S j))) y9 (.sh (.int t)) (.sh (.int (tvS d S j (lo + t)))), ?_, rfl⟩
      generalize il ((List.range n).map fun t => tvS d S j (lo + t)) = X7 at *
      generalize il (cstL d (half 0 S)) = X0 at *
      generalize il (cstL d (half 1 S)) = X1 at *
      generalize il ((List.range j).map (cst (d + 1) S)) = X2 at *
      generalize D.lst ((List.range j).map (splD d S)) = X3 at *
      generalize ((lo + t : Nat) : Int) = u at *
      generalize hv : tvS d S j (lo + t) = v at *
      generalize cst (d + 1) S j = v8 at *
      by_cases c : v = v8 <;> simp [lcF, wip, bindT, bindTs, es, hv, c])
    rw [fm_if] at e
    have eo : ((List.range n).filter fun t => decide (tvS d S j (lo + t) = cst (d + 1) S j)).map (fun (t : Nat) => D.int ((lo + t : Nat) : Int)) = ((optL d S j).map fun (i : Nat) => (i : Int)).map D.int := by
      rw [opt, List.filter_map, List.map_map, List.map_map]
      rfl
    rw [eo] at e
    rcases thawL_frz (r := BS (il (cstL d (half 0 S))) (il (cstL d (half 1 S))) (il ((List.range j).map (cst (d + 1) S))) (.lst ((List.range j).map (splD d S))) (.sh (.int j)) (.sh (.int lo)) (.sh (.int (min j a : Nat))) (.ow (il ((List.range n).map fun t => tvS d S j (lo + t)))) (.sh (.int (cst (d + 1) S j))) y9) (i := 7) (d := il ((List.range n).map fun t => tvS d S j (lo + t))) rfl (((optL d S j).map fun (i : Nat) => (i : Int)).map D.int) with q | q
    · exact ⟨_, .inr (.inr ⟨_, rfl⟩), e.trans q⟩
    · exact ⟨_, .inr (.inl ⟨_, rfl⟩), e.trans q⟩
  have st0 : Z.O.of (bindT (.v 4) (.int (j : Nat)) (BSj d S j y4 y5 y6 y7 y8 y9)) = .nx (BSj d S j (.sh (.int j)) y5 y6 y7 y8 y9) := by
    rcases h4 with rfl | ⟨_, rfl⟩ <;> simp [bindT]
  have tl := told (.sh (.int lo)) (.sh (.int (min j a : Nat))) y7 y8 y9 rfl rfl
  obtain ⟨z7, k7, bs⟩ := best y9
  have tin : ∀ y, y ∈ (List.range n).map (fun t => tvS d S j (lo + t)) ↔ ∃ t, t < n ∧ y = tvS d S j (lo + t) := fun y => by
    rw [List.mem_map]
    exact ⟨fun ⟨t, ht, e⟩ => ⟨t, List.mem_range.mp ht, e.symm⟩, fun ⟨t, ht, e⟩ => ⟨t, List.mem_range.mpr ht, e.symm⟩⟩
  have mn : biD .min [il ((List.range n).map fun t => tvS d S j (lo + t))] = some (.sh (.int (cst (d + 1) S j))) := by
    obtain ⟨x1, x2, x3, x4⟩ := o0
    refine minI_isU ((tin _).mpr ⟨i0 - lo, by omega, ?_⟩) fun y hy => ?_
    · rw [show lo + (i0 - lo) = i0 by omega]
      exact x4.symm
    · obtain ⟨t, ht, rfl⟩ := (tin y).mp hy
      exact ge (lo + t) (by omega) (by omega)
  have on : optL d S j ≠ [] := fun z => by
    have := mem.mpr o0
    rw [z] at this
    cases this
  have ix0 : idxD (il ((optL d S j).map fun (i : Nat) => (i : Int))) (.int 0) = some (.int (loO d S j)) := by
    rw [lo1]
    cases q : optL d S j with
    | nil => exact absurd q on
    | cons x l => exact at_il ((x :: l).map fun (i : Nat) => (i : Int)) 0 (by simp)
  have ix1 : idxD (il ((optL d S j).map fun (i : Nat) => (i : Int))) (.int (-1)) = some (.int (hiO d S j)) := by
    rw [hi1]
    exact last_natU on
  have l5 : ((List.range j).map (cst (d + 1) S)).length < LINE := Nat.lt_of_lt_of_le (show _ < 1000 by omega) (line_le (Nat.le_refl _))
  have l6 : ((List.range j).map (splD d S)).length < LINE := Nat.lt_of_lt_of_le (show _ < 1000 by omega) (line_le (Nat.le_refl _))
  have mu1 : muD .append (il ((List.range j).map (cst (d + 1) S))) [.int (cst (d + 1) S j)] = some (il ((List.range (j + 1)).map (cst (d + 1) S)), .non) := by
    rw [rj]
    simp only [muD, il]
    rw [if_pos (by rw [List.length_map]; exact l5)]
    simp
  have mu2 : muD .append (.lst ((List.range j).map (splD d S))) [splD d S j] = some (.lst ((List.range (j + 1)).map (splD d S)), .non) := by
    rw [rs]
    simp only [muD]
    rw [if_pos l6]
  have m5 : (if ((j : Int) - ((b : Int) + 1) + 1) > 0 then ((j : Int) - ((b : Int) + 1) + 1) else 0) = (lo : Int) := by split <;> omega
  have m6 : (if a < j then (a : Int) else (j : Int)) = ((min j a : Nat) : Int) := by split <;> omega
  have n5 : lenD (il (cstL d (half 1 S))) = some (b + 1) := by simp [lenD, lO, gB]
  have n6 : lenD (il (cstL d (half 0 S))) = some (a + 1) := by simp [lenD, lE, gA]
  have s1 : x1 (Cz Pg fuel (k + 1)) (.par [5, 6] [.bi .max [.con (.int 0), .bin .Add (.bin .Sub (.var 4) (.bi .len [.var 1])) (.con (.int 1))], .bi .min [.var 4, .bin .Sub (.bi .len [.var 0]) (.con (.int 1))]]) [.sh (il (cstL d (half 0 S))), .sh (il (cstL d (half 1 S))), .ow (il ((List.range j).map (cst (d + 1) S))), .ow (.lst ((List.range j).map (splD d S))), .sh (.int j), y5, y6, y7, y8, y9, .no, .no] = .nx [.sh (il (cstL d (half 0 S))), .sh (il (cstL d (half 1 S))), .ow (il ((List.range j).map (cst (d + 1) S))), .ow (.lst ((List.range j).map (splD d S))), .sh (.int j), .sh (.int lo), .sh (.int (min j a : Nat)), y7, y8, y9, .no, .no] := by
    generalize il (cstL d (half 0 S)) = X0 at *
    generalize il (cstL d (half 1 S)) = X1 at *
    generalize il ((List.range j).map (cst (d + 1) S)) = X2 at *
    generalize D.lst ((List.range j).map (splD d S)) = X3 at *
    rcases h5 with rfl | ⟨_, rfl⟩ <;> rcases h6 with rfl | ⟨_, rfl⟩ <;> simp [-bi_max_ii, -bi_min_ii, biD, lenF, n5, n6, maxF, minF, m5, m6, puts, En.put]
  have s2 : x1 (Cz Pg fuel (k + 1)) (.asg (.v 7) (.lc (.bin .Add (.bin .Add (.bin .Add (.idx (.var 0) (.var 10)) (.call 15 [.var 10] [] [])) (.idx (.var 1) (.bin .Sub (.var 4) (.var 10)))) (.call 15 [.bin .Sub (.var 4) (.var 10)] [] [])) (.v 10) (.rng2 (.var 5) (.bin .Add (.var 6) (.con (.int 1)))) [] [10])) [.sh (il (cstL d (half 0 S))), .sh (il (cstL d (half 1 S))), .ow (il ((List.range j).map (cst (d + 1) S))), .ow (.lst ((List.range j).map (splD d S))), .sh (.int j), .sh (.int lo), .sh (.int (min j a : Nat)), y7, y8, y9, .no, .no] = .nx [.sh (il (cstL d (half 0 S))), .sh (il (cstL d (half 1 S))), .ow (il ((List.range j).map (cst (d + 1) S))), .ow (.lst ((List.range j).map (splD d S))), .sh (.int j), .sh (.int lo), .sh (.int (min j a : Nat)), .ow (il ((List.range n).map fun t => tvS d S j (lo + t))), y8, y9, .no, .no] := by
    rw [q_asgv, tl, R.run_ok]
    rcases h7 with rfl | ⟨_, rfl⟩ | ⟨_, rfl⟩ <;> simp
  have s3 : x1 (Cz Pg fuel (k + 1)) (.asg (.v 8) (.bi .min [.var 7])) [.sh (il (cstL d (half 0 S))), .sh (il (cstL d (half 1 S))), .ow (il ((List.range j).map (cst (d + 1) S))), .ow (.lst ((List.range j).map (splD d S))), .sh (.int j), .sh (.int lo), .sh (.int (min j a : Nat)), .ow (il ((List.range n).map fun t => tvS d S j (lo + t))), y8, y9, .no, .no] = .nx [.sh (il (cstL d (half 0 S))), .sh (il (cstL d (half 1 S))), .ow (il ((List.range j).map (cst (d + 1) S))), .ow (.lst ((List.range j).map (splD d S))), .sh (.int j), .sh (.int lo), .sh (.int (min j a : Nat)), .ow (il ((List.range n).map fun t => tvS d S j (lo + t))), .sh (.int (cst (d + 1) S j)), y9, .no, .no] := by
    generalize il ((List.range n).map fun t => tvS d S j (lo + t)) = X7 at *
    generalize il (cstL d (half 0 S)) = X0 at *
    generalize il (cstL d (half 1 S)) = X1 at *
    rcases h8 with rfl | ⟨_, rfl⟩ <;> simp [-bi_min_ii, mn]
  have s4 : x1 (Cz Pg fuel (k + 1)) (.asg (.v 9) (.lc (.bin .Add (.var 5) (.var 10)) (.t [.v 10, .v 11]) (.enm (.var 7)) [.val (.cmp .Eq (.var 11) (.var 8))] [10, 11])) [.sh (il (cstL d (half 0 S))), .sh (il (cstL d (half 1 S))), .ow (il ((List.range j).map (cst (d + 1) S))), .ow (.lst ((List.range j).map (splD d S))), .sh (.int j), .sh (.int lo), .sh (.int (min j a : Nat)), .ow (il ((List.range n).map fun t => tvS d S j (lo + t))), .sh (.int (cst (d + 1) S j)), y9, .no, .no] = .nx [.sh (il (cstL d (half 0 S))), .sh (il (cstL d (half 1 S))), .ow (il ((List.range j).map (cst (d + 1) S))), .ow (.lst ((List.range j).map (splD d S))), .sh (.int j), .sh (.int lo), .sh (.int (min j a : Nat)), z7, .sh (.int (cst (d + 1) S j)), .ow (il ((optL d S j).map fun (i : Nat) => (i : Int))), .no, .no] := by
    rw [q_asgv, bs, R.run_ok]
    rcases h9 with rfl | ⟨_, rfl⟩ | ⟨_, rfl⟩ <;> simp
  have s5 : x1 (Cz Pg fuel (k + 1)) (.ex (.mut .append 2 [.var 8])) [.sh (il (cstL d (half 0 S))), .sh (il (cstL d (half 1 S))), .ow (il ((List.range j).map (cst (d + 1) S))), .ow (.lst ((List.range j).map (splD d S))), .sh (.int j), .sh (.int lo), .sh (.int (min j a : Nat)), z7, .sh (.int (cst (d + 1) S j)), .ow (il ((optL d S j).map fun (i : Nat) => (i : Int))), .no, .no] = .nx [.sh (il (cstL d (half 0 S))), .sh (il (cstL d (half 1 S))), .ow (il ((List.range (j + 1)).map (cst (d + 1) S))), .ow (.lst ((List.range j).map (splD d S))), .sh (.int j), .sh (.int lo), .sh (.int (min j a : Nat)), z7, .sh (.int (cst (d + 1) S j)), .ow (il ((optL d S j).map fun (i : Nat) => (i : Int))), .no, .no] := by
    generalize (List.range j).map (cst (d + 1) S) = X2 at *
    generalize (List.range (j + 1)).map (cst (d + 1) S) = X2' at *
    generalize cst (d + 1) S j = v8 at *
    generalize il ((optL d S j).map fun (i : Nat) => (i : Int)) = X9 at *
    generalize il (cstL d (half 0 S)) = X0 at *
    generalize il (cstL d (half 1 S)) = X1 at *
    generalize D.lst ((List.range j).map (splD d S)) = X3 at *
    simp [lstAt, mu1]
  have s6 : ∃ z9, PaU z9 ∧ x1 (Cz Pg fuel (k + 1)) (.ex (.mut .append 3 [.tup [.idx (.var 9) (.con (.int 0)), .idx (.var 9) (.neg (.con (.int 1)))]])) [.sh (il (cstL d (half 0 S))), .sh (il (cstL d (half 1 S))), .ow (il ((List.range (j + 1)).map (cst (d + 1) S))), .ow (.lst ((List.range j).map (splD d S))), .sh (.int j), .sh (.int lo), .sh (.int (min j a : Nat)), z7, .sh (.int (cst (d + 1) S j)), .ow (il ((optL d S j).map fun (i : Nat) => (i : Int))), .no, .no] = .nx [.sh (il (cstL d (half 0 S))), .sh (il (cstL d (half 1 S))), .ow (il ((List.range (j + 1)).map (cst (d + 1) S))), .ow (.lst ((List.range (j + 1)).map (splD d S))), .sh (.int j), .sh (.int lo), .sh (.int (min j a : Nat)), z7, .sh (.int (cst (d + 1) S j)), z9, .no, .no] := by
    refine ⟨_, .inr (.inr ⟨il ((optL d S j).map fun (i : Nat) => (i : Int)), rfl⟩), ?_⟩
    rw [sp] at mu2
    generalize il ((List.range (j + 1)).map (cst (d + 1) S)) = X2 at *
    generalize (List.range j).map (splD d S) = X3 at *
    generalize (List.range (j + 1)).map (splD d S) = X3' at *
    generalize cst (d + 1) S j = v8 at *
    generalize il ((optL d S j).map fun (i : Nat) => (i : Int)) = X9 at *
    generalize il (cstL d (half 0 S)) = X0 at *
    generalize il (cstL d (half 1 S)) = X1 at *
    generalize loO d S j = v1 at *
    generalize hiO d S j = v2 at *
    simp [lstAt, ix0, ix1, mu2, bor, isVar]
  obtain ⟨z9, k9, s6⟩ := s6
  refine ⟨.sh (.int j), .sh (.int lo), .sh (.int (min j a : Nat)), z7, .sh (.int (cst (d + 1) S j)), z9, .inr ⟨_, rfl⟩, .inr ⟨_, rfl⟩, .inr ⟨_, rfl⟩, k7, .inr ⟨_, rfl⟩, k9, ?_⟩
  rw [st0, Z.O.then_nx]
  rw [q_xs, s1, Z.O.then_nx, q_xs, s2, Z.O.then_nx, q_xs, s3, Z.O.then_nx, q_xs, s4, Z.O.then_nx, q_xs, s5, Z.O.then_nx, q_xs, s6, Z.O.then_nx]
  rw [q_xs0]
end
end Z
/-! UE: best splits, trees, what can be lost. -/
namespace Z
open PySem (Str Operator CmpOp)
theorem rng0_natU (n : Nat) : rangeI 0 (n : Int) 1 = (List.range n).map fun (t : Nat) => (t : Int) := by
  have := rng_natU 0 n
  simpa using this
theorem for_nat {C : Cf} {i : Nat} {it : I} {body : List S} {r r1 : En} (n : Nat) (Iv : Nat → En → Prop) (he : evI C it r = .ok ((List.range n).map fun (t : Nat) => D.int t) r1)
    (h : ∀ j, j < n → ∀ r, Iv j r → ∃ r', ((O.of (bindT (.v i) (.int (j : Nat)) r)).then fun r3 => xs C body r3) = .nx r' ∧ Iv (j + 1) r') (h0 : Iv 0 r1) : ∃ r', x1 C (.for_ (.v i) it body) r = .nx r' ∧ Iv n r' := by
  obtain ⟨r', e, q⟩ := for_run (C := C) (t := .v i) (it := it) (body := body) (r := r) (r1 := r1) Iv he (fun j hj r hr => by
    have hn : j < n := by simpa using hj
    have e : ((List.range n).map fun (t : Nat) => D.int t)[j] = .int (j : Nat) := by simp
    rw [e]
    exact h j hn r hr) h0
  rw [List.length_map, List.length_range] at q
  exact ⟨r', e, q⟩
theorem for_natA {C : Cf} {i : Nat} {it : I} {body : List S} {r r1 : En} (a n : Nat) (Iv : Nat → En → Prop) (he : evI C it r = .ok ((List.range n).map fun (t : Nat) => D.int ((a + t : Nat) : Int)) r1)
    (h : ∀ j, j < n → ∀ r, Iv j r → ∃ r', ((O.of (bindT (.v i) (.int ((a + j : Nat) : Int)) r)).then fun r3 => xs C body r3) = .nx r' ∧ Iv (j + 1) r') (h0 : Iv 0 r1) : ∃ r', x1 C (.for_ (.v i) it body) r = .nx r' ∧ Iv n r' := by
  obtain ⟨r', e, q⟩ := for_run (C := C) (t := .v i) (it := it) (body := body) (r := r) (r1 := r1) Iv he (fun j hj r hr => by
    have hn : j < n := by simpa using hj
    have e : ((List.range n).map fun (t : Nat) => D.int ((a + t : Nat) : Int))[j] = .int ((a + j : Nat) : Int) := by simp
    rw [e]
    exact h j hn r hr) h0
  rw [List.length_map, List.length_range] at q
  exact ⟨r', e, q⟩
def splL (d : Nat) (S : List Int) : List D := (List.range (S.length + 1)).map (splD d S)
section
variable {Pg : Nat → Option Df} {fuel k f : Nat} {C : Cf}
theorem m_best_splits (h15 : Pg 15 = some d_pairs) (h : Pg 16 = some d_best_splits) (d : Nat) (S : List Int) (lS : S.length ≤ 900) :
    callD Pg fuel (k + 2) 16 [il (cstL d (half 0 S)), il (cstL d (half 1 S))] = .ok (.sh (.tup [il (cstL (d + 1) S), .lst (splL d S)])) [] := by
  rw [callD_eq h ⟨rfl, Nat.le_of_ble_eq_true rfl⟩]
  have hl := half_len S
  have n5 : lenD (il (cstL d (half 0 S))) = some ((half 0 S).length + 1) := by simp [lenD, cstL_len]
  have n6 : lenD (il (cstL d (half 1 S))) = some ((half 1 S).length + 1) := by simp [lenD, cstL_len]
  have s1 : x1 (Cz Pg fuel (k + 1)) (.par [2, 3] [.lst [], .lst []]) [.sh (il (cstL d (half 0 S))), .sh (il (cstL d (half 1 S))), .no, .no, .no, .no, .no, .no, .no, .no, .no, .no] = .nx [.sh (il (cstL d (half 0 S))), .sh (il (cstL d (half 1 S))), .ow (il []), .ow (.lst []), .no, .no, .no, .no, .no, .no, .no, .no] := by
    generalize il (cstL d (half 0 S)) = X0 at *
    generalize il (cstL d (half 1 S)) = X1 at *
    simp [puts, En.put]
  have er : evI (Cz Pg fuel (k + 1)) (.rng1 (.bin .Sub (.bin .Add (.bi .len [.var 0]) (.bi .len [.var 1])) (.con (.int 1)))) [.sh (il (cstL d (half 0 S))), .sh (il (cstL d (half 1 S))), .ow (il []), .ow (.lst []), .no, .no, .no, .no, .no, .no, .no, .no] = .ok ((List.range (S.length + 1)).map fun (t : Nat) => D.int t) [.sh (il (cstL d (half 0 S))), .sh (il (cstL d (half 1 S))), .ow (il []), .ow (.lst []), .no, .no, .no, .no, .no, .no, .no, .no] := by
    rw [rng1_eq (C := Cz Pg fuel (k + 1)) (b := .bin .Sub (.bin .Add (.bi .len [.var 0]) (.bi .len [.var 1])) (.con (.int 1))) (r := [.sh (il (cstL d (half 0 S))), .sh (il (cstL d (half 1 S))), .ow (il []), .ow (.lst []), .no, .no, .no, .no, .no, .no, .no, .no]) (r2 := [.sh (il (cstL d (half 0 S))), .sh (il (cstL d (half 1 S))), .ow (il []), .ow (.lst []), .no, .no, .no, .no, .no, .no, .no, .no]) (y := .inr (.int ((S.length + 1 : Nat) : Int))) (j := ((S.length + 1 : Nat) : Int)) (by
      have ee : ((half 0 S).length : Int) + 1 + (((half 1 S).length : Int) + 1) - 1 = (S.length : Int) + 1 := by omega
      generalize il (cstL d (half 0 S)) = X0 at *
      generalize il (cstL d (half 1 S)) = X1 at *
      simp [bor, isVar, biD, lenF, n5, n6, ee]) rfl (by omega), rng0_natU, List.map_map]
    rfl
  obtain ⟨r', s2, z4, z5, z6, z7, z8, z9, k4, k5, k6, k7, k8, k9, rfl⟩ := for_nat (C := Cz Pg fuel (k + 1)) (i := 4) (body := bsB) (S.length + 1) (fun j r => ∃ z4 z5 z6 z7 z8 z9, Pn z4 ∧ Pn z5 ∧ Pn z6 ∧ PaU z7 ∧ Pn z8 ∧ PaU z9 ∧ r = BSj d S j z4 z5 z6 z7 z8 z9) er (fun j hj r ⟨z4, z5, z6, z7, z8, z9, k4, k5, k6, k7, k8, k9, e⟩ => by
    subst e
    obtain ⟨y4, y5, y6, y7, y8, y9, j4, j5, j6, j7, j8, j9, e⟩ := bs_turn (fuel := fuel) (k := k) h15 d S lS j (by omega) z4 z5 z6 z7 z8 z9 k4 k5 k6 k7 k8 k9
    exact ⟨_, e, y4, y5, y6, y7, y8, y9, j4, j5, j6, j7, j8, j9, rfl⟩) ⟨.no, .no, .no, .no, .no, .no, .inl rfl, .inl rfl, .inl rfl, .inl rfl, .inl rfl, .inl rfl, rfl⟩
  have s3 : xs (Cz Pg fuel (k + 1)) [.ret (.tup [.var 2, .var 3])] (BS (il (cstL d (half 0 S))) (il (cstL d (half 1 S))) (il (cstL (d + 1) S)) (.lst (splL d S)) z4 z5 z6 z7 z8 z9) = .ret (.sh (.tup [il (cstL (d + 1) S), .lst (splL d S)])) [.sh (il (cstL d (half 0 S))), .sh (il (cstL d (half 1 S))), .sh (il (cstL (d + 1) S)), .sh (.lst (splL d S)), z4, z5, z6, z7, z8, z9, .no, .no] := by
    have l2 : 2 ≤ LINE := line_le (by omega)
    generalize il (cstL (d + 1) S) = X2 at *
    generalize D.lst (splL d S) = X3 at *
    generalize il (cstL d (half 0 S)) = X0 at *
    generalize il (cstL d (half 1 S)) = X1 at *
    simp [l2]
  show Z.O.cr d_best_splits.modes (xs _ s_best_splits [.sh (il (cstL d (half 0 S))), .sh (il (cstL d (half 1 S))), .no, .no, .no, .no, .no, .no, .no, .no, .no, .no]) = _
  unfold s_best_splits
  rw [q_xs, s1, Z.O.then_nx, q_xs, s2, Z.O.then_nx]
  exact congrArg (Z.O.cr d_best_splits.modes) s3
/-! ### trees -/
def leafD (X : List Int) : D := .tup [il X, il (List.replicate (X.length + 1) 0), .non, .non, .non]
def trD : Nat → Nat → List Int → D
  | 0, _, X => leafD X
  | d + 1, L, X => if X.length < 2 then leafD X else .tup [il X, il (cstL (d + 1) (shL L X)), .lst (splL d (shL L X)), trD d (L + 1) (evn L X), trD d (L + 1) (odn L X)]
theorem sum_rep0 : ∀ n : Nat, (List.replicate n (0 : Int)).sum = 0
  | 0 => rfl
  | n + 1 => by rw [List.replicate_succ, List.sum_cons, sum_rep0 n]; rfl
theorem cstL_leaf (d : Nat) (S : List Int) (h : S.length < 2) : cstL d S = List.replicate (S.length + 1) 0 := by
  unfold cstL
  apply List.ext_getElem
  · simp
  · intro i h1 h2
    simp only [List.getElem_map, List.getElem_range, List.getElem_replicate]
    unfold cst preS
    rw [br_short d S h]
    rw [List.take_replicate, sum_rep0]
theorem tr_costs (d L : Nat) (X : List Int) (hW : Wi d (shL L X)) : idxD (trD d L X) (.int 1) = some (il (cstL d (shL L X))) := by
  cases d with
  | zero =>
    have w := wi_zero hW
    rw [sh_len] at w
    rw [cstL_leaf _ _ (by rw [sh_len]; exact w), sh_len]
    rfl
  | succ d =>
    unfold trD
    by_cases c : X.length < 2
    · rw [if_pos c, cstL_leaf _ _ (by rw [sh_len]; exact c), sh_len]
      rfl
    · rw [if_neg c]
      rfl
/-- what trees need -/
structure GTr (Pg : Nat → Option Df) : Prop where
  h14 : Pg 14 = some d_halves
  h15 : Pg 15 = some d_pairs
  h16 : Pg 16 = some d_best_splits
  h17 : Pg 17 = some d_tree_of
theorem m_tree_leaf (G : GTr Pg) (L : Nat) (X : List Int) (hX : X.length < 2) : callD Pg fuel (k + 1) 17 [il X, .int L] = .ok (.sh (leafD X)) [] := by
  rw [callD_eq G.h17 ⟨rfl, Nat.le_of_ble_eq_true rfl⟩]
  have lt : cmpD .Lt (.int X.length) (.int 2) = some true := by simp; omega
  have ln : lenD (il X) = some X.length := by simp [lenD]
  have bz := bin_zeros_ev (C := Cz Pg fuel k) (r := [.sh (il X), .sh (.int L), .no, .no, .no, .no, .no, .no]) (b := .bin .Add (.bi .len [.var 0]) (.con (.int 1))) (n := X.length + 1) (by simp [biD, lenF, lenD, bor, isVar]) (by omega)
  have l5 : 5 ≤ LINE := line_le (by omega)
  have s1 : x1 (Cz Pg fuel k) (.ite (.val (.cmp .Lt (.bi .len [.var 0]) (.con (.int 2)))) [.ret (.tup [.var 0, .bin .Mult (.lst [.con (.int 0)]) (.bin .Add (.bi .len [.var 0]) (.con (.int 1))), .con .non, .con .non, .con .non])] []) [.sh (il X), .sh (.int L), .no, .no, .no, .no, .no, .no] =
      .ret (.sh (leafD X)) [.sh (il X), .sh (.int L), .no, .no, .no, .no, .no, .no] := by
    unfold leafD
    generalize il (List.replicate (X.length + 1) 0) = Z0 at *
    generalize il X = X0 at *
    simp [-q_bin, biD, lenF, ln, lt, bz, bor, isVar, l5]
  show Z.O.cr d_tree_of.modes (xs _ s_tree_of [.sh (il X), .sh (.int L), .no, .no, .no, .no, .no, .no]) = _
  unfold s_tree_of
  rw [q_xs, s1]
  rfl
theorem m_tree (G : GTr Pg) : ∀ (d L : Nat) (X : List Int) (k : Nat), X.length ≤ 900 → Wi d (shL L X) → callD Pg fuel (k + d + 3) 17 [il X, .int L] = .ok (.sh (trD d L X)) []
  | 0, L, X, k, lX, hW => by
    have w := wi_zero hW
    rw [sh_len] at w
    exact m_tree_leaf G L X w
  | d + 1, L, X, k, lX, hW => by
    by_cases c : X.length < 2
    · unfold trD
      rw [if_pos c]
      exact m_tree_leaf (k := k + d + 3) G L X c
    · have wE : Wi d (shL (L + 1) (evn L X)) := by rw [← half_ev]; exact half_wi (.inl rfl) hW
      have wO : Wi d (shL (L + 1) (odn L X)) := by rw [← half_od]; exact half_wi (.inr rfl) hW
      have leO := eo_len L X
      have t1 : callD Pg fuel (k + d + 3) 17 [il (evn L X), .int ((L : Int) + 1)] = .ok (.sh (trD d (L + 1) (evn L X))) [] := m_tree G d (L + 1) (evn L X) k (by omega) wE
      have t2 : callD Pg fuel (k + d + 3) 17 [il (odn L X), .int ((L : Int) + 1)] = .ok (.sh (trD d (L + 1) (odn L X))) [] := m_tree G d (L + 1) (odn L X) k (by omega) wO
      have e1 := m_halves (fuel := fuel) (k := k + d + 2) G.h14 X lX L
      have e2 := m_best_splits (fuel := fuel) (k := k + d + 1) G.h15 G.h16 d (shL L X) (by rw [sh_len]; exact lX)
      rw [half_ev, half_od] at e2
      have c1 := tr_costs d (L + 1) (evn L X) wE
      have c2 := tr_costs d (L + 1) (odn L X) wO
      have l5 : 5 ≤ LINE := line_le (by omega)
      have ln : lenD (il X) = some X.length := by simp [lenD]
      have lt : cmpD .Lt (.int X.length) (.int 2) = some false := by simp; omega
      show callD Pg fuel (k + d + 3 + 1) 17 [il X, .int L] = _
      rw [callD_eq G.h17 ⟨rfl, Nat.le_of_ble_eq_true rfl⟩]
      unfold trD
      rw [if_neg c]
      have s1 : x1 (Cz Pg fuel (k + d + 3)) (.ite (.val (.cmp .Lt (.bi .len [.var 0]) (.con (.int 2)))) [.ret (.tup [.var 0, .bin .Mult (.lst [.con (.int 0)]) (.bin .Add (.bi .len [.var 0]) (.con (.int 1))), .con .non, .con .non, .con .non])] []) [.sh (il X), .sh (.int L), .no, .no, .no, .no, .no, .no] = .nx [.sh (il X), .sh (.int L), .no, .no, .no, .no, .no, .no] := by
        generalize il X = X0 at *
        simp [biD, lenF, ln, lt, bor, isVar]
      have s2 : x1 (Cz Pg fuel (k + d + 3)) (.asg (.t [.v 2, .v 3]) (.call 14 [.var 0, .var 1] [] [])) [.sh (il X), .sh (.int L), .no, .no, .no, .no, .no, .no] = .nx [.sh (il X), .sh (.int L), .sh (il (evn L X)), .sh (il (odn L X)), .no, .no, .no, .no] := by
        generalize il X = X0 at *
        generalize il (evn L X) = X1 at *
        generalize il (odn L X) = X2 at *
        simp [G.h14, d_halves, e1, bindT, bindTs]
      have s3 : x1 (Cz Pg fuel (k + d + 3)) (.par [4, 5] [.call 17 [.var 2, .bin .Add (.var 1) (.con (.int 1))] [] [], .call 17 [.var 3, .bin .Add (.var 1) (.con (.int 1))] [] []]) [.sh (il X), .sh (.int L), .sh (il (evn L X)), .sh (il (odn L X)), .no, .no, .no, .no] = .nx [.sh (il X), .sh (.int L), .sh (il (evn L X)), .sh (il (odn L X)), .sh (trD d (L + 1) (evn L X)), .sh (trD d (L + 1) (odn L X)), .no, .no] := by
        generalize trD d (L + 1) (evn L X) = Y1 at *
        generalize trD d (L + 1) (odn L X) = Y2 at *
        generalize il (evn L X) = X1 at *
        generalize il (odn L X) = X2 at *
        generalize il X = X0 at *
        simp [G.h17, d_tree_of, t1, t2, puts, En.put]
      have s4 : x1 (Cz Pg fuel (k + d + 3)) (.asg (.t [.v 6, .v 7]) (.call 16 [.idx (.var 4) (.con (.int 1)), .idx (.var 5) (.con (.int 1))] [] [])) [.sh (il X), .sh (.int L), .sh (il (evn L X)), .sh (il (odn L X)), .sh (trD d (L + 1) (evn L X)), .sh (trD d (L + 1) (odn L X)), .no, .no] = .nx [.sh (il X), .sh (.int L), .sh (il (evn L X)), .sh (il (odn L X)), .sh (trD d (L + 1) (evn L X)), .sh (trD d (L + 1) (odn L X)), .sh (il (cstL (d + 1) (shL L X))), .sh (.lst (splL d (shL L X)))] := by
        generalize il (cstL (d + 1) (shL L X)) = Z1 at *
        generalize D.lst (splL d (shL L X)) = Z2 at *
        generalize il (cstL d (shL (L + 1) (evn L X))) = Z3 at *
        generalize il (cstL d (shL (L + 1) (odn L X))) = Z4 at *
        generalize trD d (L + 1) (evn L X) = Y1 at *
        generalize trD d (L + 1) (odn L X) = Y2 at *
        generalize il (evn L X) = X1 at *
        generalize il (odn L X) = X2 at *
        generalize il X = X0 at *
        simp [G.h16, d_best_splits, c1, c2, e2, bindT, bindTs, bor, isVar]
      have s5 : x1 (Cz Pg fuel (k + d + 3)) (.ret (.tup [.var 0, .var 6, .var 7, .var 4, .var 5])) [.sh (il X), .sh (.int L), .sh (il (evn L X)), .sh (il (odn L X)), .sh (trD d (L + 1) (evn L X)), .sh (trD d (L + 1) (odn L X)), .sh (il (cstL (d + 1) (shL L X))), .sh (.lst (splL d (shL L X)))] = .ret (.sh (.tup [il X, il (cstL (d + 1) (shL L X)), .lst (splL d (shL L X)), trD d (L + 1) (evn L X), trD d (L + 1) (odn L X)])) [.sh (il X), .sh (.int L), .sh (il (evn L X)), .sh (il (odn L X)), .sh (trD d (L + 1) (evn L X)), .sh (trD d (L + 1) (odn L X)), .sh (il (cstL (d + 1) (shL L X))), .sh (.lst (splL d (shL L X)))] := by
        generalize il (cstL (d + 1) (shL L X)) = Z1 at *
        generalize D.lst (splL d (shL L X)) = Z2 at *
        generalize trD d (L + 1) (evn L X) = Y1 at *
        generalize trD d (L + 1) (odn L X) = Y2 at *
        generalize il (evn L X) = X1 at *
        generalize il (odn L X) = X2 at *
        generalize il X = X0 at *
        simp [l5]
      show Z.O.cr d_tree_of.modes (xs _ s_tree_of [.sh (il X), .sh (.int L), .no, .no, .no, .no, .no, .no]) = _
      unfold s_tree_of
      rw [q_xs, s1, Z.O.then_nx, q_xs, s2, Z.O.then_nx, q_xs, s3, Z.O.then_nx, q_xs, s4, Z.O.then_nx, q_xs, s5]
      rfl
end
end Z
/-! UF: what can be lost. -/
namespace Z
open PySem (Str Operator CmpOp)
/-- a list or None -/
def opL : Option (List Int) → D
  | none => .non
  | some K => il K
theorem isn_opL (o : Option (List Int)) : cmpD .IsNot (opL o) .non = some o.isSome := by cases o <;> rfl
theorem llD_il : ∀ F : List (List Int), llD (F.map fun K => il K) = some (F.map fun K => K.map D.int)
  | [] => rfl
  | K :: F => by
    simp only [List.map_cons, llD, llD_il F, Option.map_some]
theorem minLL_K : ∀ (r : List (List Int)) (b : List Int), minLL (r.map fun K => K.map D.int) (b.map D.int) = (minK (b :: r)).map D.int
  | [], b => by simp [minLL, minK]
  | K :: r, b => by
    rw [List.map_cons, minLL, minK]
    by_cases c : K.length < b.length
    · rw [if_pos (by simpa using c), if_pos c, minLL_K r K]
    · rw [if_neg (by simpa using c), if_neg c, minLL_K r b]
theorem minl_il {F : List (List Int)} (h : F ≠ []) : biD .minl [.lst (F.map fun K => il K)] = some (.sh (il (minK F))) := by
  cases F with
  | nil => exact absurd rfl h
  | cons b r =>
    show minlF [D.lst (List.map (fun K => il K) (b :: r))] = _
    unfold minlF
    simp only [llD_il (b :: r)]
    simp only [List.map_cons, minLL_K]
theorem add_ilU {a b : List Int} (h : a.length + b.length ≤ 100000) : binD .Add (il a) (il b) = some (.ow (il (a ++ b))) := by
  have L : (LINE : Nat) = 16777216 := rfl
  simp [binD, L]
  omega
theorem lost_len {d L : Nat} {X : List Int} {m : Nat} {K : List Int} (nX : X.Nodup) (hW : Wi d (shL L X)) (e : lostP d L X m = some K) : K.length ≤ X.length := by
  obtain ⟨_, _, h3, h4⟩ := lost_ok d L X m K nX hW e
  have := h4 [] (List.nil_sublist X) (fun t => by
    have t1 := t.1
    have : m ≠ 0 := fun z => by rw [(lost_none d L X m).mpr z] at e; cases e
    simp [shL] at t1
    omega)
  simpa using this
/-- one's own, or shared -/
def VX (x : D) (v : Val) : Prop := v = .ow x ∨ v = .sh x
theorem spl_at (d : Nat) (S : List Int) (m : Nat) (h : m ≤ S.length) : idxD (.lst (splL d S)) (.int m) = some (splD d S m) := by
  have hl : (splL d S).length = S.length + 1 := by simp [splL]
  have g : (splL d S)[m]? = some (splD d S m) := by
    unfold splL
    rw [List.getElem?_map, List.getElem?_range (by omega)]
    rfl
  simp only [idxD, atL, ixN]
  rw [if_pos (by omega), if_pos (by omega), Option.bind_some, Int.toNat_natCast]
  exact g
section
variable {Pg : Nat → Option Df} {fuel k f : Nat} {C : Cf}
theorem m_lost_leaf (h : Pg 18 = some d_lost_places) (d L : Nat) (X : List Int) (lX : X.length ≤ 900) (hX : X.length < 2) (m : Nat) : ∃ v, VX (opL (lostP d L X m)) v ∧ callD Pg fuel (k + 1) 18 [leafD X, .int m] = .ok v [] := by
  rw [callD_eq h ⟨rfl, Nat.le_of_ble_eq_true rfl⟩]
  have ln : lenD (il X) = some X.length := by simp [lenD]
  have s1 : x1 (Cz Pg fuel k) (.asg (.t [.v 2, .v 3, .v 4, .v 5, .v 6]) (.var 0)) [.sh (leafD X), .sh (.int m), .no, .no, .no, .no, .no, .no, .no, .no, .no, .no] = .nx [.sh (leafD X), .sh (.int m), .sh (il X), .sh (il (List.replicate (X.length + 1) 0)), .sh (.non), .sh (.non), .sh (.non), .no, .no, .no, .no, .no] := by
    unfold leafD
    generalize il (List.replicate (X.length + 1) 0) = Z0 at *
    generalize il X = X0 at *
    simp [bindT, bindTs]
  have pe : ∀ (c : Nat) (L : Nat) , lostP d L X m = if X.length < m then some [] else if m = 0 then none else some X := fun _ L => by
    cases d with
    | zero => rfl
    | succ d =>
      unfold lostP
      rw [if_pos hX]
  rw [pe 0 L]
  show ∃ v, VX _ v ∧ Z.O.cr d_lost_places.modes (xs _ s_lost_places [.sh (leafD X), .sh (.int m), .no, .no, .no, .no, .no, .no, .no, .no, .no, .no]) = _
  unfold s_lost_places
  rw [q_xs, s1, Z.O.then_nx, q_xs]
  have gt : cmpD .Gt (.int m) (.int X.length) = some (decide (X.length < m)) := by simp
  have eq : cmpD .Eq (.int m) (.int 0) = some (decide (m = 0)) := by simp
  by_cases c1 : X.length < m
  · rw [if_pos c1]
    have s2 : x1 (Cz Pg fuel k) (.ite (.val (.cmp .Gt (.var 1) (.bi .len [.var 2]))) [.ret (.lst [])] []) [.sh (leafD X), .sh (.int m), .sh (il X), .sh (il (List.replicate (X.length + 1) 0)), .sh (.non), .sh (.non), .sh (.non), .no, .no, .no, .no, .no] = .ret (.ow (.lst [])) [.sh (leafD X), .sh (.int m), .sh (il X), .sh (il (List.replicate (X.length + 1) 0)), .sh (.non), .sh (.non), .sh (.non), .no, .no, .no, .no, .no] := by
      rw [decide_eq_true c1] at gt
      generalize il X = X0 at *
      simp [biD, lenF, ln, gt, bor, isVar]
    rw [s2]
    exact ⟨_, .inl rfl, rfl⟩
  · rw [if_neg c1]
    have s2 : x1 (Cz Pg fuel k) (.ite (.val (.cmp .Gt (.var 1) (.bi .len [.var 2]))) [.ret (.lst [])] []) [.sh (leafD X), .sh (.int m), .sh (il X), .sh (il (List.replicate (X.length + 1) 0)), .sh (.non), .sh (.non), .sh (.non), .no, .no, .no, .no, .no] = .nx [.sh (leafD X), .sh (.int m), .sh (il X), .sh (il (List.replicate (X.length + 1) 0)), .sh (.non), .sh (.non), .sh (.non), .no, .no, .no, .no, .no] := by
      rw [decide_eq_false c1] at gt
      generalize il X = X0 at *
      simp [biD, lenF, ln, gt, bor, isVar]
    rw [s2, Z.O.then_nx, q_xs]
    by_cases c2 : m = 0
    · rw [if_pos c2]
      have s3 : x1 (Cz Pg fuel k) (.ite (.val (.cmp .Eq (.var 1) (.con (.int 0)))) [.ret (.con .non)] []) [.sh (leafD X), .sh (.int m), .sh (il X), .sh (il (List.replicate (X.length + 1) 0)), .sh (.non), .sh (.non), .sh (.non), .no, .no, .no, .no, .no] = .ret (.sh .non) [.sh (leafD X), .sh (.int m), .sh (il X), .sh (il (List.replicate (X.length + 1) 0)), .sh (.non), .sh (.non), .sh (.non), .no, .no, .no, .no, .no] := by
        rw [decide_eq_true c2] at eq
        generalize (m : Int) = m' at *
        simp [-cmp_eq_ii, eq]
      rw [s3]
      exact ⟨_, .inr rfl, rfl⟩
    · rw [if_neg c2]
      have s3 : x1 (Cz Pg fuel k) (.ite (.val (.cmp .Eq (.var 1) (.con (.int 0)))) [.ret (.con .non)] []) [.sh (leafD X), .sh (.int m), .sh (il X), .sh (il (List.replicate (X.length + 1) 0)), .sh (.non), .sh (.non), .sh (.non), .no, .no, .no, .no, .no] = .nx [.sh (leafD X), .sh (.int m), .sh (il X), .sh (il (List.replicate (X.length + 1) 0)), .sh (.non), .sh (.non), .sh (.non), .no, .no, .no, .no, .no] := by
        rw [decide_eq_false c2] at eq
        generalize (m : Int) = m' at *
        simp [-cmp_eq_ii, eq]
      have s4 : x1 (Cz Pg fuel k) (.ite (.val (.cmp .Is (.var 4) (.con .non))) [.ret (.bi .list [.var 2])] []) [.sh (leafD X), .sh (.int m), .sh (il X), .sh (il (List.replicate (X.length + 1) 0)), .sh (.non), .sh (.non), .sh (.non), .no, .no, .no, .no, .no] = .ret (.ow (il X)) [.sh (leafD X), .sh (.int m), .sh (il X), .sh (il (List.replicate (X.length + 1) 0)), .sh (.non), .sh (.non), .sh (.non), .no, .no, .no, .no, .no] := by
        have : biD .list [il X] = some (.ow (il X)) := rfl
        generalize il X = X0 at *
        simp [this, cmpD, isD]
      rw [s3, Z.O.then_nx, q_xs, s4]
      exact ⟨_, .inl rfl, rfl⟩
/-- the lists found so far -/
def fdL (d L : Nat) (X : List Int) (m j : Nat) : List (Option (List Int)) :=
  [lostP d (L + 1) (evn L X) (loO d (shL L X) m), lostP d (L + 1) (odn L X) (m - hiO d (shL L X) m)] ++ (List.range j).map fun a => app2 (lostP d (L + 1) (evn L X) (loO d (shL L X) m + 1 + a)) (lostP d (L + 1) (odn L X) (m + 1 - (loO d (shL L X) m + 1 + a)))
theorem fd_step (d L : Nat) (X : List Int) (m j : Nat) : fdL d L X m (j + 1) = fdL d L X m j ++ [app2 (lostP d (L + 1) (evn L X) (loO d (shL L X) m + 1 + j)) (lostP d (L + 1) (odn L X) (m + 1 - (loO d (shL L X) m + 1 + j)))] := by
  unfold fdL
  rw [List.range_succ, List.map_append, ← List.append_assoc]
  rfl
theorem fd_len (d L : Nat) (X : List Int) (m j : Nat) : (fdL d L X m j).length = 2 + j := by simp [fdL]; omega
abbrev lpB : List S := [.ex (.mut .append 9 [.bin .Add (.call 18 [.var 5, .var 10] [] []) (.call 18 [.var 6, .bin .Sub (.bin .Add (.var 1) (.con (.int 1))) (.var 10)] [] [])])]
abbrev LP (X0 X1 X2 X3 X4 X5 : D) (m lo hi : Int) (F : List D) (y10 y11 : Sl) : En := [.sh X0, .sh (.int m), .sh X1, .sh X2, .sh X3, .sh X4, .sh X5, .sh (.int lo), .sh (.int hi), .ow (.lst F), y10, y11]
theorem lp_turn (h : Pg 18 = some d_lost_places) (X0 X1 X2 X3 X4 X5 : D) (m lo hi j : Nat) (F : List D) (lF : F.length ≤ 950) (y10 : Sl) (h10 : Pn y10) (K1 K2 : List Int) (l12 : K1.length + K2.length ≤ 10000) (hm : lo + 1 + j ≤ m) (v1 v2 : Val) (k1 : VX (il K1) v1) (k2 : VX (il K2) v2)
    (e1 : callD Pg fuel k 18 [X4, .int ((lo + 1 + j : Nat) : Int)] = .ok v1 []) (e2 : callD Pg fuel k 18 [X5, .int ((m + 1 - (lo + 1 + j) : Nat) : Int)] = .ok v2 []) :
    ((Z.O.of (bindT (.v 10) (.int ((lo + 1 + j : Nat) : Int)) (LP X0 X1 X2 X3 X4 X5 m lo hi F y10 .no))).then fun r3 => xs (Cz Pg fuel k) lpB r3) = .nx (LP X0 X1 X2 X3 X4 X5 m lo hi (F ++ [il (K1 ++ K2)]) (.sh (.int ((lo + 1 + j : Nat) : Int))) .no) := by
  have st0 : Z.O.of (bindT (.v 10) (.int ((lo + 1 + j : Nat) : Int)) (LP X0 X1 X2 X3 X4 X5 m lo hi F y10 .no)) = .nx (LP X0 X1 X2 X3 X4 X5 m lo hi F (.sh (.int ((lo + 1 + j : Nat) : Int))) .no) := by
    rcases h10 with rfl | ⟨_, rfl⟩ <;> simp [bindT]
  rw [st0, Z.O.then_nx]
  have es : (m : Int) + 1 - ((lo + 1 + j : Nat) : Int) = ((m + 1 - (lo + 1 + j) : Nat) : Int) := by omega
  have ad := add_ilU (a := K1) (b := K2) (by omega)
  have lF2 : F.length < LINE := Nat.lt_of_lt_of_le (show _ < 1000 by omega) (line_le (Nat.le_refl _))
  have mu : muD .append (.lst F) [il (K1 ++ K2)] = some (.lst (F ++ [il (K1 ++ K2)]), .non) := by
    simp only [muD]
    rw [if_pos lF2]
  generalize ((m + 1 - (lo + 1 + j) : Nat) : Int) = u2 at *
  generalize ((lo + 1 + j : Nat) : Int) = u1 at *
  generalize il (K1 ++ K2) = Z3 at *
  generalize il K1 = Z1 at *
  generalize il K2 = Z2 at *
  generalize (m : Int) = m' at *
  rcases k1 with rfl | rfl <;> rcases k2 with rfl | rfl <;> simp [h, d_lost_places, es, e1, e2, ad, mu, lstAt, bor, isVar]
theorem fd_some (l : List (Option (List Int))) : (l.filterMap fun o => if o.isSome = true then some (opL o) else none) = (l.filterMap id).map fun K => il K := by
  induction l with
  | nil => rfl
  | cons o l ih =>
    cases o with
    | none => simpa using ih
    | some K =>
      rw [List.filterMap_cons, List.filterMap_cons]
      simp only [Option.isSome_some, if_true, id, List.map_cons, ih]
      rfl
theorem fd_ne {d L m : Nat} {X : List Int} (hm : m ≠ 0) (lh : loO d (shL L X) m ≤ hiO d (shL L X) m) (hi : hiO d (shL L X) m ≤ m) : (fdL d L X m (hiO d (shL L X) m - loO d (shL L X) m)).filterMap id ≠ [] := fun z => by
  have no : ∀ K, some K ∉ fdL d L X m (hiO d (shL L X) m - loO d (shL L X) m) := fun K hK => by
    have : K ∈ (fdL d L X m (hiO d (shL L X) m - loO d (shL L X) m)).filterMap id := List.mem_filterMap.mpr ⟨some K, hK, rfl⟩
    rw [z] at this
    cases this
  have ev : ∀ n, n ≠ 0 → ∃ K, lostP d (L + 1) (evn L X) n = some K := fun n hn => by
    cases e : lostP d (L + 1) (evn L X) n with
    | none => exact absurd ((lost_none _ _ _ _).mp e) hn
    | some K => exact ⟨K, rfl⟩
  have od : ∀ n, n ≠ 0 → ∃ K, lostP d (L + 1) (odn L X) n = some K := fun n hn => by
    cases e : lostP d (L + 1) (odn L X) n with
    | none => exact absurd ((lost_none _ _ _ _).mp e) hn
    | some K => exact ⟨K, rfl⟩
  by_cases c1 : loO d (shL L X) m = 0
  · by_cases c2 : m - hiO d (shL L X) m = 0
    · obtain ⟨K1, e1⟩ := ev (loO d (shL L X) m + 1 + 0) (by omega)
      obtain ⟨K2, e2⟩ := od (m + 1 - (loO d (shL L X) m + 1 + 0)) (by omega)
      refine no (K1 ++ K2) (List.mem_append_right _ (List.mem_map.mpr ⟨0, List.mem_range.mpr (by omega), ?_⟩))
      rw [e1, e2]
      rfl
    · obtain ⟨K, e⟩ := od _ c2
      exact no K (List.mem_append_left _ (by rw [e]; simp))
  · obtain ⟨K, e⟩ := ev _ c1
    exact no K (List.mem_append_left _ (by rw [e]; simp))
theorem m_lost (h : Pg 18 = some d_lost_places) : ∀ (d L : Nat) (X : List Int) (k m : Nat), X.length ≤ 900 → m ≤ 5000 → X.Nodup → Wi d (shL L X) → ∃ v, VX (opL (lostP d L X m)) v ∧ callD Pg fuel (k + d + 1) 18 [trD d L X, .int m] = .ok v []
  | 0, L, X, k, m, lX, lm, nX, hW => by
    have w := wi_zero hW
    rw [sh_len] at w
    exact m_lost_leaf h 0 L X lX w m
  | d + 1, L, X, k, m, lX, lm, nX, hW => by
    by_cases c : X.length < 2
    · obtain ⟨v, k1, e⟩ := m_lost_leaf (fuel := fuel) (k := k + d + 1) h (d + 1) L X lX c m
      have : trD (d + 1) L X = leafD X := by unfold trD; rw [if_pos c]
      exact ⟨v, k1, by rw [this]; exact e⟩
    · have wE : Wi d (shL (L + 1) (evn L X)) := by rw [← half_ev]; exact half_wi (.inl rfl) hW
      have wO : Wi d (shL (L + 1) (odn L X)) := by rw [← half_od]; exact half_wi (.inr rfl) hW
      have nE : (evn L X).Nodup := nX.sublist List.filter_sublist
      have nO : (odn L X).Nodup := nX.sublist List.filter_sublist
      have leO := eo_len L X
      have ihE := fun (m : Nat) (hm : m ≤ 5000) => m_lost h d (L + 1) (evn L X) k m (by omega) hm nE wE
      have ihO := fun (m : Nat) (hm : m ≤ 5000) => m_lost h d (L + 1) (odn L X) k m (by omega) hm nO wO
      have ln : lenD (il X) = some X.length := by simp [lenD]
      have tr : trD (d + 1) L X = .tup [il X, il (cstL (d + 1) (shL L X)), .lst (splL d (shL L X)), trD d (L + 1) (evn L X), trD d (L + 1) (odn L X)] := by
        conv => lhs; unfold trD
        rw [if_neg c]
      have gt : cmpD .Gt (.int m) (.int X.length) = some (decide (X.length < m)) := by simp
      have eq : cmpD .Eq (.int m) (.int 0) = some (decide (m = 0)) := by simp
      show ∃ v, VX _ v ∧ callD Pg fuel (k + d + 1 + 1) 18 [trD (d + 1) L X, .int m] = _
      rw [callD_eq h ⟨rfl, Nat.le_of_ble_eq_true rfl⟩]
      have s1 : x1 (Cz Pg fuel (k + d + 1)) (.asg (.t [.v 2, .v 3, .v 4, .v 5, .v 6]) (.var 0)) [.sh (trD (d + 1) L X), .sh (.int m), .no, .no, .no, .no, .no, .no, .no, .no, .no, .no] = .nx [.sh (trD (d + 1) L X), .sh (.int m), .sh (il X), .sh (il (cstL (d + 1) (shL L X))), .sh (.lst (splL d (shL L X))), .sh (trD d (L + 1) (evn L X)), .sh (trD d (L + 1) (odn L X)), .no, .no, .no, .no, .no] := by
        rw [tr]
        generalize il (cstL (d + 1) (shL L X)) = Z1 at *
        generalize D.lst (splL d (shL L X)) = Z2 at *
        generalize trD d (L + 1) (evn L X) = Y1 at *
        generalize trD d (L + 1) (odn L X) = Y2 at *
        generalize il X = X0 at *
        simp [bindT, bindTs]
      show ∃ v, VX _ v ∧ Z.O.cr d_lost_places.modes (xs _ s_lost_places [.sh (trD (d + 1) L X), .sh (.int m), .no, .no, .no, .no, .no, .no, .no, .no, .no, .no]) = _
      unfold s_lost_places
      rw [q_xs, s1, Z.O.then_nx, q_xs]
      unfold lostP
      by_cases c1 : X.length < m
      · rw [if_pos c1]
        have s2 : x1 (Cz Pg fuel (k + d + 1)) (.ite (.val (.cmp .Gt (.var 1) (.bi .len [.var 2]))) [.ret (.lst [])] []) [.sh (trD (d + 1) L X), .sh (.int m), .sh (il X), .sh (il (cstL (d + 1) (shL L X))), .sh (.lst (splL d (shL L X))), .sh (trD d (L + 1) (evn L X)), .sh (trD d (L + 1) (odn L X)), .no, .no, .no, .no, .no] = .ret (.ow (.lst [])) [.sh (trD (d + 1) L X), .sh (.int m), .sh (il X), .sh (il (cstL (d + 1) (shL L X))), .sh (.lst (splL d (shL L X))), .sh (trD d (L + 1) (evn L X)), .sh (trD d (L + 1) (odn L X)), .no, .no, .no, .no, .no] := by
          rw [decide_eq_true c1] at gt
          generalize il X = X0 at *
          simp [biD, lenF, ln, gt, bor, isVar]
        rw [s2]
        exact ⟨_, .inl rfl, rfl⟩
      rw [if_neg c1]
      have s2 : x1 (Cz Pg fuel (k + d + 1)) (.ite (.val (.cmp .Gt (.var 1) (.bi .len [.var 2]))) [.ret (.lst [])] []) [.sh (trD (d + 1) L X), .sh (.int m), .sh (il X), .sh (il (cstL (d + 1) (shL L X))), .sh (.lst (splL d (shL L X))), .sh (trD d (L + 1) (evn L X)), .sh (trD d (L + 1) (odn L X)), .no, .no, .no, .no, .no] = .nx [.sh (trD (d + 1) L X), .sh (.int m), .sh (il X), .sh (il (cstL (d + 1) (shL L X))), .sh (.lst (splL d (shL L X))), .sh (trD d (L + 1) (evn L X)), .sh (trD d (L + 1) (odn L X)), .no, .no, .no, .no, .no] := by
        rw [decide_eq_false c1] at gt
        generalize il X = X0 at *
        simp [biD, lenF, ln, gt, bor, isVar]
      rw [s2, Z.O.then_nx, q_xs]
      by_cases c2 : m = 0
      · rw [if_pos c2]
        have s3 : x1 (Cz Pg fuel (k + d + 1)) (.ite (.val (.cmp .Eq (.var 1) (.con (.int 0)))) [.ret (.con .non)] []) [.sh (trD (d + 1) L X), .sh (.int m), .sh (il X), .sh (il (cstL (d + 1) (shL L X))), .sh (.lst (splL d (shL L X))), .sh (trD d (L + 1) (evn L X)), .sh (trD d (L + 1) (odn L X)), .no, .no, .no, .no, .no] = .ret (.sh .non) [.sh (trD (d + 1) L X), .sh (.int m), .sh (il X), .sh (il (cstL (d + 1) (shL L X))), .sh (.lst (splL d (shL L X))), .sh (trD d (L + 1) (evn L X)), .sh (trD d (L + 1) (odn L X)), .no, .no, .no, .no, .no] := by
          rw [decide_eq_true c2] at eq
          generalize (m : Int) = m' at *
          simp [-cmp_eq_ii, eq]
        rw [s3]
        exact ⟨_, .inr rfl, rfl⟩
      rw [if_neg c2, if_neg c]
      have s3 : x1 (Cz Pg fuel (k + d + 1)) (.ite (.val (.cmp .Eq (.var 1) (.con (.int 0)))) [.ret (.con .non)] []) [.sh (trD (d + 1) L X), .sh (.int m), .sh (il X), .sh (il (cstL (d + 1) (shL L X))), .sh (.lst (splL d (shL L X))), .sh (trD d (L + 1) (evn L X)), .sh (trD d (L + 1) (odn L X)), .no, .no, .no, .no, .no] = .nx [.sh (trD (d + 1) L X), .sh (.int m), .sh (il X), .sh (il (cstL (d + 1) (shL L X))), .sh (.lst (splL d (shL L X))), .sh (trD d (L + 1) (evn L X)), .sh (trD d (L + 1) (odn L X)), .no, .no, .no, .no, .no] := by
        rw [decide_eq_false c2] at eq
        generalize (m : Int) = m' at *
        simp [-cmp_eq_ii, eq]
      have s4 : x1 (Cz Pg fuel (k + d + 1)) (.ite (.val (.cmp .Is (.var 4) (.con .non))) [.ret (.bi .list [.var 2])] []) [.sh (trD (d + 1) L X), .sh (.int m), .sh (il X), .sh (il (cstL (d + 1) (shL L X))), .sh (.lst (splL d (shL L X))), .sh (trD d (L + 1) (evn L X)), .sh (trD d (L + 1) (odn L X)), .no, .no, .no, .no, .no] = .nx [.sh (trD (d + 1) L X), .sh (.int m), .sh (il X), .sh (il (cstL (d + 1) (shL L X))), .sh (.lst (splL d (shL L X))), .sh (trD d (L + 1) (evn L X)), .sh (trD d (L + 1) (odn L X)), .no, .no, .no, .no, .no] := by
        have : cmpD .Is (.lst (splL d (shL L X))) .non = some false := rfl
        simp [this]
      have hm : m ≤ (shL L X).length := by rw [sh_len]; omega
      obtain ⟨ol, oh, ob⟩ := lo_hi (d := d) hm
      have lh := (ob _ ol).2
      have hi_m := oh.1
      have sp := spl_at d (shL L X) m hm
      have sp2 : splD d (shL L X) m = .tup [.int (loO d (shL L X) m), .int (hiO d (shL L X) m)] := rfl
      rw [sp2] at sp
      rw [s3, Z.O.then_nx, q_xs, s4, Z.O.then_nx, q_xs]
      have s5 : x1 (Cz Pg fuel (k + d + 1)) (.asg (.t [.v 7, .v 8]) (.idx (.var 4) (.var 1))) [.sh (trD (d + 1) L X), .sh (.int m), .sh (il X), .sh (il (cstL (d + 1) (shL L X))), .sh (.lst (splL d (shL L X))), .sh (trD d (L + 1) (evn L X)), .sh (trD d (L + 1) (odn L X)), .no, .no, .no, .no, .no] = .nx [.sh (trD (d + 1) L X), .sh (.int m), .sh (il X), .sh (il (cstL (d + 1) (shL L X))), .sh (.lst (splL d (shL L X))), .sh (trD d (L + 1) (evn L X)), .sh (trD d (L + 1) (odn L X)), .sh (.int (loO d (shL L X) m : Nat)), .sh (.int (hiO d (shL L X) m : Nat)), .no, .no, .no] := by
        generalize D.lst (splL d (shL L X)) = Z2 at *
        generalize loO d (shL L X) m = lo at *
        generalize hiO d (shL L X) m = hi at *
        simp [sp, bindT, bindTs, bor, isVar]
      rw [s5, Z.O.then_nx, q_xs]
      obtain ⟨v1, k1, e1⟩ := ihE (loO d (shL L X) m) (by omega)
      obtain ⟨v2, k2, e2⟩ := ihO (m - hiO d (shL L X) m) (by omega)
      have es : (m : Int) - (hiO d (shL L X) m : Nat) = ((m - hiO d (shL L X) m : Nat) : Int) := by omega
      have fd0 : (fdL d L X m 0).map opL = [opL (lostP d (L + 1) (evn L X) (loO d (shL L X) m)), opL (lostP d (L + 1) (odn L X) (m - hiO d (shL L X) m))] := rfl
      have s6 : x1 (Cz Pg fuel (k + d + 1)) (.asg (.v 9) (.lst [.call 18 [.var 5, .var 7] [] [], .call 18 [.var 6, .bin .Sub (.var 1) (.var 8)] [] []])) [.sh (trD (d + 1) L X), .sh (.int m), .sh (il X), .sh (il (cstL (d + 1) (shL L X))), .sh (.lst (splL d (shL L X))), .sh (trD d (L + 1) (evn L X)), .sh (trD d (L + 1) (odn L X)), .sh (.int (loO d (shL L X) m : Nat)), .sh (.int (hiO d (shL L X) m : Nat)), .no, .no, .no] = .nx [.sh (trD (d + 1) L X), .sh (.int m), .sh (il X), .sh (il (cstL (d + 1) (shL L X))), .sh (.lst (splL d (shL L X))), .sh (trD d (L + 1) (evn L X)), .sh (trD d (L + 1) (odn L X)), .sh (.int (loO d (shL L X) m : Nat)), .sh (.int (hiO d (shL L X) m : Nat)), .ow (.lst ((fdL d L X m 0).map opL)), .no, .no] := by
        have l2 : 2 ≤ LINE := line_le (by omega)
        rw [fd0]
        generalize opL (lostP d (L + 1) (evn L X) (loO d (shL L X) m)) = W1 at *
        generalize opL (lostP d (L + 1) (odn L X) (m - hiO d (shL L X) m)) = W2 at *
        generalize ((m - hiO d (shL L X) m : Nat) : Int) = u2 at *
        generalize ((loO d (shL L X) m : Nat) : Int) = lo at *
        generalize ((hiO d (shL L X) m : Nat) : Int) = hi at *
        generalize trD d (L + 1) (evn L X) = Y1 at *
        generalize trD d (L + 1) (odn L X) = Y2 at *
        generalize (m : Int) = m' at *
        rcases k1 with rfl | rfl <;> rcases k2 with rfl | rfl <;> simp [h, d_lost_places, es, e1, e2, l2]
      rw [s6, Z.O.then_nx, q_xs]
      have hb1 : loO d (shL L X) m + 1 + (hiO d (shL L X) m - loO d (shL L X) m) = hiO d (shL L X) m + 1 := by omega
      have er : evI (Cz Pg fuel (k + d + 1)) (.rng2 (.bin .Add (.var 7) (.con (.int 1))) (.bin .Add (.var 8) (.con (.int 1)))) [.sh (trD (d + 1) L X), .sh (.int m), .sh (il X), .sh (il (cstL (d + 1) (shL L X))), .sh (.lst (splL d (shL L X))), .sh (trD d (L + 1) (evn L X)), .sh (trD d (L + 1) (odn L X)), .sh (.int (loO d (shL L X) m : Nat)), .sh (.int (hiO d (shL L X) m : Nat)), .ow (.lst ((fdL d L X m 0).map opL)), .no, .no] = .ok ((List.range (hiO d (shL L X) m - loO d (shL L X) m)).map fun (t : Nat) => D.int ((loO d (shL L X) m + 1 + t : Nat) : Int)) [.sh (trD (d + 1) L X), .sh (.int m), .sh (il X), .sh (il (cstL (d + 1) (shL L X))), .sh (.lst (splL d (shL L X))), .sh (trD d (L + 1) (evn L X)), .sh (trD d (L + 1) (odn L X)), .sh (.int (loO d (shL L X) m : Nat)), .sh (.int (hiO d (shL L X) m : Nat)), .ow (.lst ((fdL d L X m 0).map opL)), .no, .no] := by
        rw [rng2_eq (C := Cz Pg fuel (k + d + 1)) (a := .bin .Add (.var 7) (.con (.int 1))) (b := .bin .Add (.var 8) (.con (.int 1))) (r := [.sh (trD (d + 1) L X), .sh (.int m), .sh (il X), .sh (il (cstL (d + 1) (shL L X))), .sh (.lst (splL d (shL L X))), .sh (trD d (L + 1) (evn L X)), .sh (trD d (L + 1) (odn L X)), .sh (.int (loO d (shL L X) m : Nat)), .sh (.int (hiO d (shL L X) m : Nat)), .ow (.lst ((fdL d L X m 0).map opL)), .no, .no]) (r1 := [.sh (trD (d + 1) L X), .sh (.int m), .sh (il X), .sh (il (cstL (d + 1) (shL L X))), .sh (.lst (splL d (shL L X))), .sh (trD d (L + 1) (evn L X)), .sh (trD d (L + 1) (odn L X)), .sh (.int (loO d (shL L X) m : Nat)), .sh (.int (hiO d (shL L X) m : Nat)), .ow (.lst ((fdL d L X m 0).map opL)), .no, .no]) (r2 := [.sh (trD (d + 1) L X), .sh (.int m), .sh (il X), .sh (il (cstL (d + 1) (shL L X))), .sh (.lst (splL d (shL L X))), .sh (trD d (L + 1) (evn L X)), .sh (trD d (L + 1) (odn L X)), .sh (.int (loO d (shL L X) m : Nat)), .sh (.int (hiO d (shL L X) m : Nat)), .ow (.lst ((fdL d L X m 0).map opL)), .no, .no]) (x := .inr (.int ((loO d (shL L X) m + 1 : Nat) : Int))) (y := .inr (.int ((loO d (shL L X) m + 1 + (hiO d (shL L X) m - loO d (shL L X) m) : Nat) : Int))) (i := ((loO d (shL L X) m + 1 : Nat) : Int)) (j := ((loO d (shL L X) m + 1 + (hiO d (shL L X) m - loO d (shL L X) m) : Nat) : Int)) (by simp [bor, isVar]) (by rw [hb1]; simp [bor, isVar]) rfl (by omega) (by omega), rng_natU, List.map_map]
        rfl
      obtain ⟨r', s7, y10, k10, rfl⟩ := for_natA (C := Cz Pg fuel (k + d + 1)) (i := 10) (body := lpB) (loO d (shL L X) m + 1) (hiO d (shL L X) m - loO d (shL L X) m) (fun j r => ∃ y10, Pn y10 ∧ r = LP (trD (d + 1) L X) (il X) (il (cstL (d + 1) (shL L X))) (.lst (splL d (shL L X))) (trD d (L + 1) (evn L X)) (trD d (L + 1) (odn L X)) m (loO d (shL L X) m : Nat) (hiO d (shL L X) m : Nat) ((fdL d L X m j).map opL) y10 .no) er (fun j hj r ⟨y10, k10, e⟩ => by
        subst e
        obtain ⟨w1, q1, g1⟩ := ihE (loO d (shL L X) m + 1 + j) (by omega)
        obtain ⟨w2, q2, g2⟩ := ihO (m + 1 - (loO d (shL L X) m + 1 + j)) (by omega)
        cases p1 : lostP d (L + 1) (evn L X) (loO d (shL L X) m + 1 + j) with
        | none => have := (lost_none _ _ _ _).mp p1; omega
        | some K1 =>
          cases p2 : lostP d (L + 1) (odn L X) (m + 1 - (loO d (shL L X) m + 1 + j)) with
          | none => have := (lost_none _ _ _ _).mp p2; omega
          | some K2 =>
            rw [p1] at q1
            rw [p2] at q2
            have a1 := lost_len nE wE p1
            have a2 := lost_len nO wO p2
            refine ⟨_, lp_turn (fuel := fuel) (k := k + d + 1) h _ _ _ _ _ _ m (loO d (shL L X) m) (hiO d (shL L X) m) j _ (by rw [List.length_map, fd_len]; omega) y10 k10 K1 K2 (by omega) (by omega) w1 w2 q1 q2 g1 g2, .sh (.int ((loO d (shL L X) m + 1 + j : Nat) : Int)), .inr ⟨_, rfl⟩, ?_⟩
            rw [fd_step, p1, p2, List.map_append]
            rfl) ⟨.no, .inl rfl, rfl⟩
      rw [s7, Z.O.then_nx, q_xs]
      obtain ⟨z9, k9, el⟩ := lc_slot (C := Cz Pg fuel (k + d + 1)) (e := .var 11) (t := .v 11) (i := 9) (ts := [.val (.cmp .IsNot (.var 11) (.con .non))]) (own := [11]) (r := LP (trD (d + 1) L X) (il X) (il (cstL (d + 1) (shL L X))) (.lst (splL d (shL L X))) (trD d (L + 1) (evn L X)) (trD d (L + 1) (odn L X)) m (loO d (shL L X) m : Nat) (hiO d (shL L X) m : Nat) ((fdL d L X m (hiO d (shL L X) m - loO d (shL L X) m)).map opL) y10 .no) (fdL d L X m (hiO d (shL L X) m - loO d (shL L X) m)) opL (fun o => if o.isSome = true then some (opL o) else none) rfl (.inl rfl) rfl rfl (line_le (by rw [fd_len]; omega)) (fun o ho => by
        have io := isn_opL o
        refine ⟨[.sh (trD (d + 1) L X), .sh (.int m), .sh (il X), .sh (il (cstL (d + 1) (shL L X))), .sh (.lst (splL d (shL L X))), .sh (trD d (L + 1) (evn L X)), .sh (trD d (L + 1) (odn L X)), .sh (.int (loO d (shL L X) m : Nat)), .sh (.int (hiO d (shL L X) m : Nat)), .sh (.lst ((fdL d L X m (hiO d (shL L X) m - loO d (shL L X) m)).map opL)), y10, .sh (opL o)], ?_, rfl⟩
        simp only [List.set_cons_succ, List.set_cons_zero]
        generalize D.lst ((fdL d L X m (hiO d (shL L X) m - loO d (shL L X) m)).map opL) = X9 at *
        generalize opL o = oo at *
        generalize o.isSome = b at *
        generalize D.lst (splL d (shL L X)) = Z2 at *
        generalize il (cstL (d + 1) (shL L X)) = Z1 at *
        generalize trD d (L + 1) (evn L X) = Y1 at *
        generalize trD d (L + 1) (odn L X) = Y2 at *
        generalize trD (d + 1) L X = Y0 at *
        generalize il X = X0 at *
        cases b <;> simp [lcF, wip, bindT, io])
      rw [fd_some] at el
      have mk := minl_il (fd_ne (d := d) (L := L) (X := X) c2 lh hi_m)
      refine ⟨.sh (il (minK ((fdL d L X m (hiO d (shL L X) m - loO d (shL L X) m)).filterMap id))), .inr rfl, ?_⟩
      generalize (fdL d L X m (hiO d (shL L X) m - loO d (shL L X) m)).filterMap id = F at *
      have s8 : ∀ r, ev (Cz Pg fuel (k + d + 1)) (.lc (.var 11) (.v 11) (.e (.var 9)) [.val (.cmp .IsNot (.var 11) (.con .non))] [11]) (LP (trD (d + 1) L X) (il X) (il (cstL (d + 1) (shL L X))) (.lst (splL d (shL L X))) (trD d (L + 1) (evn L X)) (trD d (L + 1) (odn L X)) m (loO d (shL L X) m : Nat) (hiO d (shL L X) m : Nat) ((fdL d L X m (hiO d (shL L X) m - loO d (shL L X) m)).map opL) y10 .no) = .ok (.ow (.lst (F.map fun K => il K))) r →
          x1 (Cz Pg fuel (k + d + 1)) (.ret (.bi .minl [.lc (.var 11) (.v 11) (.e (.var 9)) [.val (.cmp .IsNot (.var 11) (.con .non))] [11]])) (LP (trD (d + 1) L X) (il X) (il (cstL (d + 1) (shL L X))) (.lst (splL d (shL L X))) (trD d (L + 1) (evn L X)) (trD d (L + 1) (odn L X)) m (loO d (shL L X) m : Nat) (hiO d (shL L X) m : Nat) ((fdL d L X m (hiO d (shL L X) m - loO d (shL L X) m)).map opL) y10 .no) = .ret (.sh (il (minK F))) r := by
        intro r e
        generalize LP (trD (d + 1) L X) (il X) (il (cstL (d + 1) (shL L X))) (.lst (splL d (shL L X))) (trD d (L + 1) (evn L X)) (trD d (L + 1) (odn L X)) m (loO d (shL L X) m : Nat) (hiO d (shL L X) m : Nat) ((fdL d L X m (hiO d (shL L X) m - loO d (shL L X) m)).map opL) y10 .no = r0 at *
        generalize D.lst (F.map fun K => il K) = XF at *
        generalize il (minK F) = XK at *
        simp [e, mk, bor, isVar]
      rw [s8 _ el]
      rfl
end
end Z
/-! NE: telling parts: the functions of the program. -/
namespace Z
open PySem (Str Operator CmpOp)
/-- items_of_code -/
def s_items_of_code : List S :=
  [.ret (.call 7 [.var 0, .idx (.call 5 [.var 1] [] []) (.con (.int 1)), .var 2] [] [])]
def d_items_of_code : Df := { modes := [false, false, false], names := 3, body := s_items_of_code }
section
variable {Pg : Nat → Option Df} {fuel k f : Nat} {C : Cf}
theorem m_rowQ (G : GB Pg) (w : Nat) (hw : w ≤ 64) (hf : 1000 ≤ fuel) (ps : List Int) (hl : ps.length ≤ 900) (h : Wi w ps) : callD Pg fuel (k + 2) 5 [il ps] = .ok (.sh (.tup [il (ord ps), il (br w ps)])) [] := by
  have e := m_good_row (fuel := fuel) (k := k) G.h4 G.h5 64 (by omega) ps (by omega) (by omega) h.1 fun p hp q hq => by
    have a1 := h.2 p hp
    have a2 := h.2 q hq
    have := (pow_le64 hw).2
    omega
  rw [← nums_br h]
  exact e
end
end Z
/-! UH: the distance of a code. -/
namespace Z
open PySem (Str Operator CmpOp)
@[simp] theorem q_callD1 {C : Cf} {r : En} {f : Nat} {es : List E} {i : Int} : ev C (.call f es [] [.int i]) r = (evA C es r).bind fun ys r1 => match C.modes f with | some ms => callR ms (C.call f) (ys ++ [.inr (.int i)]) r1 | none => .bad := by
  simp only [ev]
  congr 1
  funext ys r1
  simp only [List.map_cons, List.map_nil, permO, List.isEmpty_nil, if_true]
  cases C.modes f <;> rfl
theorem sh_zero (X : List Int) : shL 0 X = X := by
  unfold shL
  simp
/-- what distances need -/
structure GDi (Pg : Nat → Option Df) : Prop extends GB Pg, GTr Pg where
  h2 : Pg 2 = some d_check_number
  h7 : Pg 7 = some d_items_counted
  h18 : Pg 18 = some d_lost_places
  h19 : Pg 19 = some d_check_code
  h23 : Pg 23 = some d_items_of_code
  h30 : Pg 30 = some d_distance_of
  h31 : Pg 31 = some d_distance
/-- a number or None -/
def disD : Option (List Int) → D
  | none => .non
  | some K => .int K.length
section
variable {Pg : Nat → Option Df} {fuel k f : Nat} {C : Cf}
theorem m_distance_of (G : GTr Pg) (h18 : Pg 18 = some d_lost_places) (h30 : Pg 30 = some d_distance_of) (w : Nat) (hw : w ≤ 64) (X : List Int) (lX : X.length ≤ 900) (hW : Wi w X) (m : Nat) (lm : m ≤ 5000) : callD Pg fuel (k + 70) 30 [il X, .int m] = .ok (.sh (disD (lostP w 0 X m))) [] := by
  have hW0 : Wi w (shL 0 X) := by rw [sh_zero]; exact hW
  have e1 := m_tree (fuel := fuel) G w 0 X (k + 66 - w) lX hW0
  obtain ⟨v, k1, e2⟩ := m_lost (fuel := fuel) h18 w 0 X (k + 68 - w) m lX lm hW.1 hW0
  rw [show k + 66 - w + w + 3 = k + 69 by omega] at e1
  rw [show k + 68 - w + w + 1 = k + 69 by omega] at e2
  have hn := lost_none w 0 X m
  rw [callD_eq h30 ⟨rfl, Nat.le_of_ble_eq_true rfl⟩]
  have eq : cmpD .Eq (.int m) (.int 0) = some (decide (m = 0)) := by simp
  have s1 : ∃ r, x1 (Cz Pg fuel (k + 69)) (.ret (.ite (.val (.cmp .Eq (.var 1) (.con (.int 0)))) (.con .non) (.bi .len [.call 18 [.call 17 [.var 0] [] [.int 0], .var 1] [] []]))) [.sh (il X), .sh (.int m)] = .ret (.sh (disD (lostP w 0 X m))) r := by
    refine ⟨[.sh (il X), .sh (.int m)], ?_⟩
    by_cases c : m = 0
    · rw [hn.mpr c]
      rw [decide_eq_true c] at eq
      generalize (m : Int) = m' at *
      generalize il X = X0 at *
      simp [-cmp_eq_ii, eq, disD]
    · rw [decide_eq_false c] at eq
      cases p : lostP w 0 X m with
      | none => exact absurd (hn.mp p) c
      | some K =>
        rw [p] at k1
        have ln : lenD (il K) = some K.length := by simp [lenD]
        have e1' : callD Pg fuel (k + 69) 17 [il X, .int 0] = .ok (.sh (trD w 0 X)) [] := e1
        have oK : opL (some K) = il K := rfl
        rw [oK] at k1
        generalize trD w 0 X = Y0 at *
        generalize (m : Int) = m' at *
        generalize il X = X0 at *
        generalize il K = K0 at *
        rcases k1 with rfl | rfl <;> simp [-cmp_eq_ii, eq, disD, G.h17, h18, d_tree_of, d_lost_places, e1', e2, biD, lenF, ln, bor, isVar]
  obtain ⟨r, s1⟩ := s1
  show Z.O.cr d_distance_of.modes (xs _ s_distance_of [.sh (il X), .sh (.int m)]) = _
  unfold s_distance_of
  rw [q_xs, s1]
  rfl
theorem m_items23 (G : GDi Pg) (w : Nat) (hw : w ≤ 64) (hf : 1000 ≤ fuel) (ps : List Int) (hl : ps.length ≤ 900) (h : PlW w ps) (c : Int) (hc : 0 ≤ c) : callD Pg fuel (k + 3) 23 [.int w, il ps, .int c] = .ok (.sh (.int (cnt_w w (br w ps) c.toNat).length)) [] := by
  have e1 := m_rowQ (fuel := fuel) (k := k) G.toGB w hw hf ps hl h.wi
  have e2 := m_counted (fuel := fuel) (k := k + 1) G.h7 (w : Int) (br w ps) (by rw [br_len]; exact hl) c hc
  rw [callD_eq G.h23 ⟨rfl, Nat.le_of_ble_eq_true rfl⟩]
  have q : ∀ a b : D, idxD (.tup [a, b]) (.int 1) = some b := fun _ _ => rfl
  generalize il (ord ps) = Z1 at *
  generalize il (br w ps) = Z2 at *
  generalize il ps = Z0 at *
  simp [d_items_of_code, s_items_of_code, start_eq, d_good_row, d_items_counted, G.h5, G.h7, e1, e2, q]
/-- how many items a code has -/
def itN (w : Nat) (ps : List Int) (c : Int) : Nat := (cnt_w w (br w ps) c.toNat).length
theorem itN_le (w : Nat) (ps : List Int) (c : Int) : itN w ps c ≤ ps.length := by
  unfold itN cnt_w
  refine Nat.le_trans (List.length_filter_le _ _) ?_
  rw [List.length_take, br_len]
  exact Nat.min_le_right _ _
theorem m_distance (G : GDi Pg) (w : Nat) (hw : 1 ≤ w ∧ w ≤ 64) (hf : 1000 ≤ fuel) (ps : List Int) (hl : ps.length ≤ 900) (hp : PlW w ps) (c : Int) (hc : 0 ≤ c) : callD Pg fuel (k + 71) 31 [.int w, il ps, .int c] = .ok (.sh (disD (lostP w 0 ps (itN w ps c)))) [] := by
  have e1 := m_check_code (fuel := fuel) (k := k + 64) G.toGB G.h2 G.h19 w hw ps hl hp c hc
  have e2 := m_items23 (fuel := fuel) (k := k + 67) G w hw.2 hf ps hl hp c hc
  have le := itN_le w ps c
  have e3 := m_distance_of (fuel := fuel) (k := k) G.toGTr G.h18 G.h30 w hw.2 ps hl hp.wi (itN w ps c) (by omega)
  have ei : (cnt_w w (br w ps) c.toNat).length = itN w ps c := rfl
  rw [ei] at e2
  rw [callD_eq G.h31 ⟨rfl, Nat.le_of_ble_eq_true rfl⟩]
  generalize disD (lostP w 0 ps (itN w ps c)) = DD at *
  generalize ((itN w ps c : Nat) : Int) = m at *
  generalize il ps = Z0 at *
  simp [d_distance, s_distance, start_eq, G.h19, d_check_code, e1, G.h23, d_items_of_code, e2, G.h30, d_distance_of, e3]
end
end Z
/-! UO: how distances compare (plain). -/
namespace Z
end Z
/-! UQ: distances computed (plain). -/
namespace Z
def mrgF : Nat → List Int → List Int → List Int
  | 0, _, _ => []
  | _ + 1, [], o => o
  | _ + 1, x :: e, [] => x :: e
  | n + 1, x :: e, y :: o => if x ≤ y then x :: mrgF n e (y :: o) else y :: mrgF n (x :: e) o
theorem mrgF_eq : ∀ (n : Nat) (e o : List Int), e.length + o.length < n → mrgF n e o = mrg e o
  | 0, _, _, h => absurd h (Nat.not_lt_zero _)
  | n + 1, [], o, _ => by simp [mrgF, mrg]
  | n + 1, x :: e, [], _ => by simp [mrgF, mrg]
  | n + 1, x :: e, y :: o, h => by
    simp only [List.length_cons] at h
    rw [mrgF, mrg, mrgF_eq n e (y :: o) (by simp; omega), mrgF_eq n (x :: e) o (by simp; omega)]
def brC : Nat → List Int → List Int
  | 0, l => List.replicate l.length 0
  | d + 1, l => if l.length < 2 then List.replicate l.length 0 else mrgF (l.length + 1) (ea 0 1 (brC d (half 0 l))) (ea 0 1 (brC d (half 1 l)))
theorem brC_eq : ∀ (d : Nat) (l : List Int), brC d l = br d l
  | 0, l => rfl
  | d + 1, l => by
    rw [brC]
    have hl := half_len l
    by_cases c : l.length < 2
    · rw [if_pos c, br_short _ _ c]
    · rw [if_neg c, brC_eq d, brC_eq d, mrgF_eq _ _ _ (by rw [ea_len, ea_len, br_len, br_len]; omega), br_mrg]
def optC (d : Nat) (S : List Int) (m : Nat) : List Nat :=
  let E := brC d (half 0 S)
  let O := brC d (half 1 S)
  let c := preS (brC (d + 1) S) m
  ((List.range (min m (half 0 S).length + 1 - (m - (half 1 S).length))).map fun a => m - (half 1 S).length + a).filter fun i => decide (preS E i + triN i + (preS O (m - i) + triN (m - i)) = c)
theorem optC_eq (d : Nat) (S : List Int) (m : Nat) : optC d S m = optL d S m := by
  unfold optC optL cst
  simp only [brC_eq]
def addO : Option Nat → Option Nat → Option Nat
  | some x, some y => some (x + y)
  | _, _ => none
def minO (l : List (Option Nat)) : Nat := match l.filterMap id with
  | [] => 0
  | x :: r => r.foldl min x
def lenC : Nat → List Int → Nat → Option Nat
  | 0, S, m => if S.length < m then some 0 else if m = 0 then none else some S.length
  | d + 1, S, m => if S.length < m then some 0 else if m = 0 then none else if S.length < 2 then some S.length else
    let lo := (optC d S m).headD 0
    let hi := (optC d S m).getLastD 0
    some (minO ([lenC d (half 0 S) lo, lenC d (half 1 S) (m - hi)] ++ (List.range (hi - lo)).map fun a => addO (lenC d (half 0 S) (lo + 1 + a)) (lenC d (half 1 S) (m + 1 - (lo + 1 + a)))))
theorem minK_fold : ∀ (F : List (List Int)) (b : List Int), (minK (b :: F)).length = (F.map List.length).foldl min b.length
  | [], b => by simp [minK]
  | K :: F, b => by
    rw [minK, List.map_cons, List.foldl_cons]
    by_cases c : K.length < b.length
    · rw [if_pos c, minK_fold F K, Nat.min_eq_right (by omega)]
    · rw [if_neg c, minK_fold F b, Nat.min_eq_left (by omega)]
theorem minO_K (l : List (Option (List Int))) : minO (l.map fun o => o.map List.length) = (minK (l.filterMap id)).length := by
  unfold minO
  have e : (l.map fun o => o.map List.length).filterMap id = (l.filterMap id).map List.length := by
    induction l with
    | nil => rfl
    | cons o l ih => cases o <;> simp [ih]
  rw [e]
  cases l.filterMap id with
  | nil => simp [minK]
  | cons b F => exact (minK_fold F b).symm
theorem addO_app (a b : Option (List Int)) : addO (a.map List.length) (b.map List.length) = (app2 a b).map List.length := by
  cases a <;> cases b <;> simp [addO, app2]
theorem lenC_eq : ∀ (d L : Nat) (X : List Int) (m : Nat), (lostP d L X m).map List.length = lenC d (shL L X) m
  | 0, L, X, m => by
    unfold lostP lenC
    rw [sh_len]
    split
    · rfl
    · split <;> rfl
  | d + 1, L, X, m => by
    unfold lostP lenC
    rw [sh_len]
    by_cases c1 : X.length < m
    · rw [if_pos c1, if_pos c1]; rfl
    rw [if_neg c1, if_neg c1]
    by_cases c2 : m = 0
    · rw [if_pos c2, if_pos c2]; rfl
    rw [if_neg c2, if_neg c2]
    by_cases c3 : X.length < 2
    · rw [if_pos c3, if_pos c3]; rfl
    rw [if_neg c3, if_neg c3]
    simp only [optC_eq, half_ev, half_od, ← lenC_eq d]
    show some _ = some _
    congr 1
    rw [← minO_K]
    congr 1
    rw [List.map_append, List.map_map]
    congr 1
    refine List.map_congr_left fun a _ => ?_
    exact (addO_app _ _).symm
def itC (w : Nat) (ps : List Int) (c : Nat) : Nat := ((List.take c (brC w ps)).filter fun n => decide (n < (w : Int))).length
/-- a distance, computed -/
theorem dis_is {w : Nat} {ps : List Int} {m n : Nat} (e : lenC w ps m = some n) : disD (lostP w 0 ps m) = .int n := by
  have h := lenC_eq w 0 ps m
  rw [sh_zero, e] at h
  cases q : lostP w 0 ps m with
  | none => rw [q] at h; cases h
  | some K =>
    rw [q] at h
    have : K.length = n := by simpa using h
    rw [← this]
    rfl
theorem ex6 : lenC 3 [0, 2, 4, 6] (itC 3 [0, 2, 4, 6] 3) = some 2 := by decide +kernel
end Z
/-! U42A: k42: the distance of neighbours, plainly. -/
namespace Z
/-- the distance of so many neighbours and items, so many steps down -/
def apF : Nat → Nat → Nat → Nat
  | 0, n, _ => n
  | f + 1, n, m => if m = 1 then n else
      if m % 2 = 1 ∧ m / 2 + 1 ≤ n / 2 then min (apF f (n / 2) (m / 2)) (apF f (n - n / 2) (m / 2 + 1) + apF f (n / 2) (m / 2 + 1))
      else apF f (n / 2) (m / 2)
def apN (n m : Nat) : Nat := apF 100 n m
theorem apF_one (f n : Nat) : apF f n 1 = n := by cases f <;> simp [apF]
theorem apF_fuel : ∀ (f g n m : Nat), 1 ≤ m → m ≤ 2 ^ f → m ≤ 2 ^ g → apF f n m = apF g n m
  | 0, g, n, m, h1, h2, _ => by
    have : m = 1 := by simp at h2; omega
    subst this
    rw [apF_one, apF_one]
  | f + 1, 0, n, m, h1, _, h3 => by
    have : m = 1 := by simp at h3; omega
    subst this
    rw [apF_one, apF_one]
  | f + 1, g + 1, n, m, h1, h2, h3 => by
    by_cases c : m = 1
    · subst c; rw [apF_one, apF_one]
    have e1 : 2 ^ (f + 1) = 2 ^ f * 2 := Nat.pow_succ ..
    have e2 : 2 ^ (g + 1) = 2 ^ g * 2 := Nat.pow_succ ..
    unfold apF
    rw [if_neg c, if_neg c]
    by_cases q : m % 2 = 1 ∧ m / 2 + 1 ≤ n / 2
    · rw [if_pos q, if_pos q, apF_fuel f g (n / 2) (m / 2) (by omega) (by omega) (by omega), apF_fuel f g (n - n / 2) (m / 2 + 1) (by omega) (by omega) (by omega), apF_fuel f g (n / 2) (m / 2 + 1) (by omega) (by omega) (by omega)]
    · rw [if_neg q, if_neg q, apF_fuel f g (n / 2) (m / 2) (by omega) (by omega) (by omega)]
theorem apN_one (n : Nat) : apN n 1 = n := apF_one 100 n
theorem apN_step {n m : Nat} (h : 2 ≤ m) (h2 : m ≤ 2 ^ 100) : apN n m = if m % 2 = 1 ∧ m / 2 + 1 ≤ n / 2 then min (apN (n / 2) (m / 2)) (apN (n - n / 2) (m / 2 + 1) + apN (n / 2) (m / 2 + 1)) else apN (n / 2) (m / 2) := by
  have e1 : 2 ^ 101 = 2 ^ 100 * 2 := Nat.pow_succ ..
  unfold apN
  rw [apF_fuel 100 101 n m (by omega) h2 (by omega)]
  show apF (100 + 1) n m = _
  rw [apF, if_neg (by omega)]
theorem apN_pow : ∀ (w j m : Nat), 2 ^ j ≤ m → m < 2 ^ (j + 1) → m ≤ 2 ^ w → w ≤ 100 → apN (2 ^ w) m = 2 ^ (w - j)
  | 0, j, m, h1, h2, h3, _ => by
    have p := Nat.one_le_two_pow (n := j)
    have : m = 1 := by simp at h3; omega
    subst this
    rw [apN_one]
    simp
  | w + 1, j, m, h1, h2, h3, h4 => by
    have p := Nat.one_le_two_pow (n := j)
    by_cases c : m = 1
    · subst c
      have : j = 0 := by
        rcases j with _ | j
        · rfl
        · have := Nat.one_le_two_pow (n := j)
          rw [Nat.pow_succ] at h1
          omega
      subst this
      rw [apN_one]
      rfl
    have ew : 2 ^ (w + 1) = 2 ^ w * 2 := Nat.pow_succ ..
    have e100 : 2 ^ (w + 1) ≤ 2 ^ 100 := Nat.pow_le_pow_right (by omega) h4
    obtain ⟨j, rfl⟩ : ∃ i, j = i + 1 := ⟨j - 1, by
      rcases j with _ | j
      · simp at h2; omega
      · rfl⟩
    have ej : 2 ^ (j + 1) = 2 ^ j * 2 := Nat.pow_succ ..
    have ej2 : 2 ^ (j + 1 + 1) = 2 ^ (j + 1) * 2 := Nat.pow_succ ..
    have hw : 2 ^ (w + 1) / 2 = 2 ^ w := by omega
    have hd : 2 ^ (w + 1) - 2 ^ w = 2 ^ w := by omega
    have a := apN_pow w j (m / 2) (by omega) (by omega) (by omega) (by omega)
    rw [apN_step (by omega) (by omega), hw, hd, show w + 1 - (j + 1) = w - j by omega]
    split
    · rename_i q
      rw [a]
      apply Nat.min_eq_left
      rcases Nat.lt_or_ge (m / 2 + 1) (2 ^ (j + 1)) with r | r
      · rw [apN_pow w j (m / 2 + 1) (by omega) (by omega) (by omega) (by omega)]
        omega
      · have ge : 2 ^ (j + 1) ≤ 2 ^ w := by omega
        have jw : j + 1 ≤ w := (Nat.pow_le_pow_iff_right (by omega)).mp ge
        rw [apN_pow w (j + 1) (m / 2 + 1) (by omega) (by omega) (by omega) (by omega)]
        have : 2 ^ (w - j) = 2 ^ (w - (j + 1)) * 2 := by rw [← Nat.pow_succ]; congr 1; omega
        omega
    · exact a
/-! ### what is kept -/
/-- so far down -/
def Lvl (N M t a b : Nat) : Prop := (a = N / 2 ^ t ∨ a = N / 2 ^ t + 1) ∧ (b = M / 2 ^ t ∨ b = M / 2 ^ t + 1)
def lvls (N M : Nat) : List (Nat × Nat) := (List.range 101).flatMap fun t => [(N / 2 ^ t, M / 2 ^ t), (N / 2 ^ t, M / 2 ^ t + 1), (N / 2 ^ t + 1, M / 2 ^ t), (N / 2 ^ t + 1, M / 2 ^ t + 1)]
theorem lvls_len (N M : Nat) : (lvls N M).length = 404 := by
  unfold lvls
  rw [List.length_flatMap]
  show ((List.range 101).map fun _ => 4).sum = 404
  decide +kernel
theorem lvl_mem {N M t a b : Nat} (h : Lvl N M t a b) (ht : t ≤ 100) : (a, b) ∈ lvls N M := by
  unfold lvls
  rw [List.mem_flatMap]
  refine ⟨t, List.mem_range.mpr (by omega), ?_⟩
  obtain ⟨h1, h2⟩ := h
  rcases h1 with rfl | rfl <;> rcases h2 with rfl | rfl <;> simp
theorem lvl_half (N t : Nat) : N / 2 ^ (t + 1) = N / 2 ^ t / 2 := by rw [Nat.pow_succ, Nat.div_div_eq_div_mul]
theorem lvl_next {N M t a b a' b' : Nat} (h : Lvl N M t a b) (ha : a' = a / 2 ∨ a' = a - a / 2) (hb : b' = b / 2 ∨ b % 2 = 1 ∧ b' = b / 2 + 1) : Lvl N M (t + 1) a' b' := by
  unfold Lvl at *
  rw [lvl_half, lvl_half]
  generalize N / 2 ^ t = q at *
  generalize M / 2 ^ t = p at *
  omega
theorem nd_leP : ∀ {l m : List (Nat × Nat)}, l.Nodup → (∀ x ∈ l, x ∈ m) → l.length ≤ m.length
  | [], m, _, _ => Nat.zero_le _
  | x :: l, m, h, hs => by
    obtain ⟨h1, h2⟩ := List.nodup_cons.mp h
    have hx := hs x List.mem_cons_self
    have a := nd_leP (m := m.erase x) h2 fun y hy => (List.mem_erase_of_ne (fun e : y = x => h1 (by rw [← e]; exact hy))).mpr (hs y (List.mem_cons_of_mem _ hy))
    rw [List.length_erase_of_mem hx] at a
    have := List.length_pos_of_mem hx
    rw [List.length_cons]
    omega
def kyP (p : Nat × Nat) : List Ky := [.inl p.1, .inl p.2]
def valP (p : Nat × Nat) : D := .int (apN p.1 p.2)
def dD (L : List (Nat × Nat)) : D := .dtv (L.map kyP) (L.map valP)
theorem kyP_inj {p q : Nat × Nat} (h : kyP p = kyP q) : p = q := by
  obtain ⟨a, b⟩ := p
  obtain ⟨c, d⟩ := q
  simp only [kyP, List.cons.injEq, Sum.inl.injEq, and_true] at h
  have h1 : a = c := by omega
  have h2 : b = d := by omega
  rw [h1, h2]
theorem dD_any (L : List (Nat × Nat)) (p : Nat × Nat) : ((L.map kyP).any fun x => decide (x = kyP p)) = decide (p ∈ L) := by
  rw [Bool.eq_iff_iff, List.any_eq_true, decide_eq_true_eq]
  constructor
  · rintro ⟨x, hx, e⟩
    obtain ⟨q, hq, rfl⟩ := List.mem_map.mp hx
    have e' := kyP_inj (decide_eq_true_eq.mp e)
    rw [← e']
    exact hq
  · intro h
    exact ⟨kyP p, List.mem_map_of_mem h, by simp⟩
theorem dD_get (L : List (Nat × Nat)) (p : Nat × Nat) (h : p ∈ L) : dtvGet (L.map kyP) (L.map valP) (kyP p) = some (valP p) := by
  induction L with
  | nil => cases h
  | cons q L ih =>
    simp only [List.map_cons, dtvGet]
    by_cases c : kyP q = kyP p
    · rw [if_pos c, kyP_inj c]
    · rw [if_neg c]
      refine ih ?_
      rcases List.mem_cons.mp h with rfl | h
      · exact absurd rfl c
      · exact h
theorem dD_set (L : List (Nat × Nat)) (p : Nat × Nat) : dtvSet (L.map kyP) (L.map valP) (kyP p) (valP p) = L.map valP := by
  induction L with
  | nil => rfl
  | cons q L ih =>
    simp only [List.map_cons, dtvSet, ih]
    by_cases c : kyP q = kyP p
    · rw [if_pos c, kyP_inj c]
    · rw [if_neg c]
/-- one more is kept -/
def kpL (L : List (Nat × Nat)) (p : Nat × Nat) : List (Nat × Nat) := if p ∈ L then L else L ++ [p]
theorem kp_mem (L : List (Nat × Nat)) (p : Nat × Nat) : p ∈ kpL L p := by
  unfold kpL
  split
  · assumption
  · simp
theorem dD_put (L : List (Nat × Nat)) (p : Nat × Nat) (h : L.length < 100000) : dputD (dD L) (.tup [.int p.1, .int p.2]) (valP p) = some (dD (kpL L p)) := by
  have k : keysD [.int p.1, .int p.2] = some (kyP p) := rfl
  unfold dD
  simp only [dputD, List.length_map, if_pos h, k, Option.map_some, dD_any, dD_set]
  unfold kpL
  by_cases c : p ∈ L
  · rw [if_pos (by simpa using c), if_pos c]
  · rw [if_neg (by simpa using c), if_neg c, List.map_append, List.map_append]
    rfl
/-- what is kept is right -/
def OkL (N M : Nat) (L : List (Nat × Nat)) : Prop := L.Nodup ∧ ∀ p ∈ L, p ∈ lvls N M
theorem ok_len {N M : Nat} {L : List (Nat × Nat)} (h : OkL N M L) : L.length < 100000 := by
  have := nd_leP h.1 h.2
  rw [lvls_len] at this
  omega
theorem ok_put {N M : Nat} {L : List (Nat × Nat)} {p : Nat × Nat} (h : OkL N M L) (hp : p ∈ lvls N M) : OkL N M (kpL L p) := by
  unfold kpL
  split
  · exact h
  · rename_i c
    refine ⟨List.nodup_append.mpr ⟨h.1, by simp, fun x hx y hy e => ?_⟩, fun q hq => ?_⟩
    · simp at hy
      subst hy
      subst e
      exact c hx
    · rcases List.mem_append.mp hq with q | q
      · exact h.2 _ q
      · simp at q
        subst q
        exact hp
end Z
/-! U42D: the law's own defs of k42, apart_of, neighbour_distance (rows printed by zprint.py). -/
namespace Z
open PySem (Str Operator CmpOp)
/-- apart_of -/
def s_apart_of : List S :=
  [.ite (.val (.cmp .Eq (.var 1) (.con (.int 1)))) [.ret (.var 0)] [],
    .ite (.val (.dvi true (.tup [.var 0, .var 1]) 2)) [.par [3, 4] [.bin .FloorDiv (.var 0) (.con (.int 2)), .bin .FloorDiv (.var 1) (.con (.int 2))],
    .asg (.v 5) (.call 328 [.var 3, .var 4, .var 2] [] []),
    .ite (.and (.val (.cmp .Eq (.bin .Mod (.var 1) (.con (.int 2))) (.con (.int 1)))) (.val (.cmp .LtE (.bin .Add (.var 4) (.con (.int 1))) (.var 3)))) [.asg (.v 5) (.bi .min [.var 5, .bin .Add (.call 328 [.bin .Sub (.var 0) (.var 3), .bin .Add (.var 4) (.con (.int 1)), .var 2] [] []) (.call 328 [.var 3, .bin .Add (.var 4) (.con (.int 1)), .var 2] [] [])])] [],
    .dput 2 (.tup [.var 0, .var 1]) (.var 5)] [],
    .ret (.dvg 2 (.tup [.var 0, .var 1]))]
def d_apart_of : Df := { modes := [false, false, true], names := 6, body := s_apart_of }
/-- neighbour_distance -/
def s_neighbour_distance : List S :=
  [.ex (.call 2 [.var 0, .con (.int 1), .con .non] [] []),
    .ex (.call 2 [.var 1, .con (.int 0), .var 0] [] []),
    .ret (.ite (.val (.cmp .Eq (.var 1) (.con (.int 0)))) (.con .non) (.callE 328 [.var 0, .var 1] .dtn))]
def d_neighbour_distance : Df := { modes := [false, false], names := 2, body := s_neighbour_distance }
/-- _law_ones -/
def s__law_ones : List S :=
  [.asg (.v 1) (.lst []),
    .for_ (.v 2) (.rng1 (.con (.int 8))) [.ite (.val (.cmp .Eq (.bin .Mod (.bi .int [.bin .FloorDiv (.var 0) (.call 39 [.var 2] [] [])]) (.con (.int 2))) (.con (.int 1)))) [.ex (.mut .append 1 [.var 2])] []],
    .ret (.var 1)]
def d__law_ones : Df := { modes := [false], names := 3, body := s__law_ones }
/-- _law_due -/
def s__law_due_v4 : List S :=
  [.asg (.v 2) (.var 0),
    .for_ (.v 3) (.rng1 (.var 1)) [.asg (.v 4) (.call 468 [.var 3] [] []),
    .asg (.v 5) (.lc (.bi .int [.cmp .Eq (.lc (.var 9) (.v 9) (.e (.var 4)) [.val (.cmp .Eq (.bin .Mod (.bi .int [.bin .FloorDiv (.var 8) (.call 39 [.var 9] [] [])]) (.con (.int 2))) (.con (.int 0)))] [9]) (.lst [])]) (.v 8) (.rng1 (.bin .Add (.con (.int 64)) (.var 0))) [] [8]),
    .asg (.v 6) (.bi .sum [.slc (.var 5) (.con .non) (.var 0)]),
    .for_ (.v 7) (.rng1 (.con (.int 32))) [.ite (.val (.chn .Lt .Lt (.con (.int 0)) (.var 6) (.var 2))) [.asg (.v 2) (.var 6)] [],
    .asg (.v 6) (.bin .Add (.bin .Sub (.var 6) (.idx (.var 5) (.var 7))) (.idx (.var 5) (.bin .Add (.var 7) (.var 0))))]],
    .ret (.var 2)]
def d__law_due_v4 : Df := { modes := [false, false], names := 10, body := s__law_due_v4 }
/-- _law_right -/
def s__law_right_v23 : List S :=
  [.asg (.v 1) (.bin .Add (.con (.int 1)) (.call 33 [.var 0, .con (.int 14)] [] [])),
    .par [2, 3] [.call 33 [.var 0, .con (.int 30)] [] [], .var 1],
    .asg (.v 4) (.bi .lrange [.var 2, .bin .Add (.var 2) (.var 1)]),
    .for_ (.v 5) (.e (.lst [.con (.int 1), .var 1, .bin .Add (.con (.int 1)) (.call 33 [.var 0, .var 1] [] []), .bin .Add (.con (.int 1)) (.call 33 [.var 0, .var 1] [] [])])) [.asg (.v 6) (.call 329 [.var 1, .var 5] [] []),
    .ite (.not (.val (.call 265 [.lst [.var 6, .call 323 [.var 4, .var 5] [] []], .lst [.call 469 [.var 1, .var 5] [] [], .var 6]] [] []))) [.ret (.con (.bl false))] []],
    .for_ (.v 5) (.rng2 (.con (.int 1)) (.bin .Add (.var 1) (.con (.int 1)))) [.asg (.v 6) (.call 329 [.var 5, .var 1] [1, 0] []),
    .ite (.or (.val (.cmp .Gt (.var 6) (.var 3))) (.val (.cmp .Lt (.call 329 [.bin .Add (.var 1) (.con (.int 1)), .var 5] [] []) (.var 6)))) [.ret (.con (.bl false))] [],
    .asg (.v 3) (.var 6)],
    .asg (.v 7) (.call 33 [.var 0, .bin .Add (.var 1) (.con (.int 4))] [] []),
    .ret (.call 265 [.call 31 [.con (.int 64), .var 4, .var 7] [] [], .call 329 [.var 1, .bi .min [.var 7, .var 1]] [] []] [] [])]
def d__law_right_v23 : Df := { modes := [true], names := 8, body := s__law_right_v23 }
/-- _law_halves_right -/
def s__law_halves_right : List S :=
  [.par [2, 3] [.bin .FloorDiv (.var 0) (.con (.int 2)), .bin .FloorDiv (.var 1) (.con (.int 2))],
    .asg (.v 4) (.call 329 [.var 2, .var 3] [] []),
    .ite (.and (.val (.cmp .Eq (.bin .Mod (.bi .int [.var 1]) (.con (.int 2))) (.con (.int 1)))) (.val (.cmp .LtE (.bin .Add (.var 3) (.con (.int 1))) (.var 2)))) [.asg (.v 4) (.bi .min [.var 4, .bin .Add (.call 329 [.bin .Sub (.var 0) (.var 2), .bin .Add (.var 3) (.con (.int 1))] [] []) (.call 329 [.var 2, .bin .Add (.var 3) (.con (.int 1))] [] [])])] [],
    .ret (.call 265 [.call 329 [.var 0, .var 1] [] [], .var 4] [] [])]
def d__law_halves_right : Df := { modes := [false, false], names := 5, body := s__law_halves_right }
/-- _law_great_right -/
def s__law_great_right_v25 : List S :=
  [.for_ (.v 1) (.rng1 (.con (.int 3))) [.asg (.v 2) (.bin .Add (.con (.int 2)) (.call 33 [.var 0, .bin .Pow (.con (.int 10)) (.con (.int 29))] [] [])),
    .asg (.v 3) (.bin .Add (.con (.int 2)) (.call 33 [.var 0, .idx (.lst [.bin .Sub (.var 2) (.con (.int 1)), .con (.int 70), .bin .Pow (.con (.int 10)) (.con (.int 9))]) (.var 1)] [] [])),
    .ite (.and (.val (.cmp .LtE (.var 3) (.var 2))) (.not (.val (.call 471 [.var 2, .var 3] [] [])))) [.ret (.con (.bl false))] []],
    .par [4, 3] [.bin .Add (.con (.int 7)) (.call 33 [.var 0, .con (.int 58)] [] []), .bin .Add (.con (.int 1)) (.call 33 [.var 0, .con (.int 127)] [] [])],
    .asg (.v 5) (.bi .max [.lc (.var 6) (.v 6) (.rng1 (.con (.int 8))) [.val (.cmp .LtE (.call 39 [.var 6] [] []) (.var 3))] [6]]),
    .ret (.call 265 [.call 329 [.call 39 [.var 4] [] [], .var 3] [] [], .call 39 [.bin .Sub (.var 4) (.var 5)] [] []] [] [])]
def d__law_great_right_v25 : Df := { modes := [true], names := 7, body := s__law_great_right_v25 }
/-- law -/
def s_law_v42 : List S :=
  [.for_ (.v 1) (.rng1 (.con (.int 3))) [.ite (.not (.val (.callN 470 (.call 35 [.var 0, .var 1] [] []) []))) [.ret (.con (.bl false))] []],
    .ite (.not (.val (.callN 472 (.call 35 [.var 0, .con (.int 3)] [] []) []))) [.ret (.con (.bl false))] [],
    .asg (.v 2) (.lst [.call 329 [.con (.int 8), .con (.int 4)] [] [], .call 329 [.con (.int 12), .con (.int 6)] [] [], .call 329 [.con (.int 7), .con (.int 3)] [] [], .call 329 [.con (.int 5), .con (.int 5)] [] []]),
    .asg (.v 2) (.bin .Add (.var 2) (.lst [.call 329 [.con (.int 5), .con (.int 0)] [] [], .call 329 [.bin .Pow (.con (.int 10)) (.con (.int 29)), .con (.int 1)] [] [], .call 329 [.bin .Pow (.con (.int 10)) (.con (.int 29)), .con (.int 2)] [] []])),
    .ret (.call 265 [.var 2, .lst [.con (.int 2), .con (.int 2), .con (.int 3), .con (.int 1), .con .non, .bin .Pow (.con (.int 10)) (.con (.int 29)), .bin .Mult (.con (.int 5)) (.bin .Pow (.con (.int 10)) (.con (.int 28)))]] [] [])]
def d_law_v42 : Df := { modes := [false], names := 3, body := s_law_v42 }
end Z
/-! KDL: comprehensions that change the state, beside their items. -/
namespace Z
open PySem (Str Operator CmpOp)
end Z
/-! NF: k19: drawn places, drawn parts, equal texts. -/
namespace Z
open PySem (Str Operator CmpOp)
/-- _law_same -/
def s__law_same : List S :=
  [.ret (.cmp .Eq (.bi .repr [.var 0]) (.bi .repr [.var 1]))]
def d__law_same : Df := { modes := [false, false], names := 2, body := s__law_same }
section
variable {Pg : Nat → Option Df} {fuel k f : Nat} {C : Cf}
theorem m_same (h : Pg f = some d__law_same) (a : D) (z : Str) (e : biD .repr [a] = some (.sh (.str z))) (e2 : cmpD .Eq (.str z) (.str z) = some true) : callD Pg fuel (k + 1) f [a, a] = .ok (.sh (.bl true)) [] := by
  rw [callD_eq h ⟨rfl, Nat.le_of_ble_eq_true rfl⟩]
  simp [d__law_same, s__law_same, start_eq, e, e2]
end
end Z
/-! NG: k19: small codes, all lots of places, the least of their twos. -/
namespace Z
open PySem (Str Operator CmpOp)
end Z
/-! TJA: loops that may return. -/
namespace Z
open PySem (Str Operator CmpOp)
end Z
/-! USA: splits, least_lost (rows printed by zprint.py). -/
namespace Z
open PySem (Str Operator CmpOp)
/-- least_lost -/
def s_least_lost : List S :=
  [.ex (.call 13 [.con (.int 64), .var 0] [] []),
    .ex (.call 2 [.var 1, .con (.int 0), .bi .len [.var 0]] [] []),
    .ret (.call 30 [.var 0, .var 1] [] [])]
def d_least_lost : Df := { modes := [false, false], names := 2, body := s_least_lost }
end Z
/-! US: the law's own defs of k39 and least_lost, splits (rows printed by zprint.py). -/
namespace Z
open PySem (Str Operator CmpOp)
/-- _law_same -/
def s__law_same_v1 : List S :=
  [.ret (.cmp .Eq (.bi .repr [.var 0]) (.bi .repr [.var 1]))]
def d__law_same_v1 : Df := { modes := [false, false], names := 2, body := s__law_same_v1 }
end Z
/-! UT: k39: the best parts, and what hits all of them. -/
namespace Z
open PySem (Str Operator CmpOp)
/-- all best parts are hit -/
def Hits (B : List (List Int)) (G : List Int) : Prop := (B.filter fun T => decide ((T.filter fun x => decide (x ∈ G)) = [])) = []
instance (B : List (List Int)) (G : List Int) : Decidable (Hits B G) := inferInstanceAs (Decidable (_ = _))
end Z
/-! UU: k39: the due number. -/
namespace Z
open PySem (Str Operator CmpOp)
end Z
/-! USP: splits. -/
namespace Z
open PySem (Str Operator CmpOp)
/-- what least_lost and splits need -/
structure GLs (Pg : Nat → Option Df) : Prop extends GTr Pg where
  h0 : Pg 0 = some d_is_whole
  h1 : Pg 1 = some d_is_between
  h2 : Pg 2 = some d_check_number
  h3 : Pg 3 = some d_power_of_two
  h8 : Pg 8 = some d_is_width
  h9 : Pg 9 = some d_check_width
  h10 : Pg 10 = some d_is_of_width
  h11 : Pg 11 = some d_rises
  h12 : Pg 12 = some d_are_places
  h13 : Pg 13 = some d_check_places
theorem plw_up {b w : Nat} {ps : List Int} (h : PlW b ps) (l : b ≤ w) : PlW w ps := ⟨h.1, h.2.1, fun x hx => by
  have := h.2.2 x hx
  have p : (2 : Int) ^ b ≤ 2 ^ w := by
    have := Nat.pow_le_pow_right (n := 2) (by omega) l
    exact_mod_cast this
  omega⟩
section
variable {Pg : Nat → Option Df} {fuel k f : Nat} {C : Cf}
theorem m_check_numL (G : GLs Pg) (n a b : Int) (hn : a ≤ n ∧ n ≤ b) : callD Pg fuel (k + 3) 2 [.int n, .int a, .int b] = .ok (.sh .non) [] := by
  rw [callD_eq G.h2 ⟨rfl, Nat.le_refl _⟩]
  have e := m_is_between G.h0 G.h1 fuel k n a b
  rw [decide_eq_true hn] at e
  simp [d_check_number, s_check_number, start_eq, G.h1, d_is_between, e]
theorem m_check_plL (G : GLs Pg) (ps : List Int) (hl : ps.length ≤ 900) (h : PlW 64 ps) : callD Pg fuel (k + 5) 13 [.int 64, il ps] = .ok (.sh .non) [] :=
  m_check_places (fuel := fuel) (k := k) G.h0 G.h1 G.h3 G.h8 G.h9 G.h10 G.h11 G.h12 G.h13 64 (by decide) (by decide) ps (by omega) h.1 h.2.1 h.2.2
end
end Z
/-! UV: k39: least_lost, splits, small places. -/
namespace Z
open PySem (Str Operator CmpOp)
structure GLo (Pg : Nat → Option Df) : Prop extends GLs Pg where
  h18 : Pg 18 = some d_lost_places
  h30 : Pg 30 = some d_distance_of
  h323 : Pg 323 = some d_least_lost
section
variable {Pg : Nat → Option Df} {fuel k f : Nat} {C : Cf}
theorem m_least_lost (G : GLo Pg) (w : Nat) (hw : w ≤ 64) (ps : List Int) (hl : ps.length ≤ 900) (hp : PlW w ps) (j : Nat) (hj : j ≤ ps.length) : callD Pg fuel (k + 71) 323 [il ps, .int j] = .ok (.sh (disD (lostP w 0 ps j))) [] := by
  have e1 := m_check_plL (fuel := fuel) (k := k + 65) G.toGLs ps hl (plw_up hp hw)
  have e2 := m_check_numL (fuel := fuel) (k := k + 67) G.toGLs j 0 ps.length (by omega)
  have e3 := m_distance_of (fuel := fuel) (k := k) G.toGTr G.h18 G.h30 w hw ps hl hp.wi j (by omega)
  rw [callD_eq G.h323 ⟨rfl, Nat.le_of_ble_eq_true rfl⟩]
  have ln : lenD (il ps) = some ps.length := by simp [lenD]
  generalize disD (lostP w 0 ps j) = DD at *
  generalize (j : Int) = m at *
  generalize il ps = Z0 at *
  simp [d_least_lost, s_least_lost, start_eq, G.h13, d_check_places, e1, G.h2, d_check_number, e2, G.h30, d_distance_of, e3, biD, lenF, ln, bor, isVar]
end
end Z
/-! U42B: k42: apart_of, neighbour_distance. -/
namespace Z
open PySem (Str Operator CmpOp)
theorem half_bin (n : Nat) : binI .FloorDiv (n : Int) 2 = some ((n / 2 : Nat) : Int) := by
  show (if (0 : Int) < 2 ∧ bits 2 ≤ 9000 then some ((n : Int) / 2) else none) = _
  rw [if_pos ⟨by decide, by decide⟩]
  congr 1
theorem mod_bin (n : Nat) : binI .Mod (n : Int) 2 = some ((n % 2 : Nat) : Int) := by
  show (if (0 : Int) < 2 then some ((n : Int) % 2) else none) = _
  rw [if_pos (by decide)]
  congr 1
theorem min_nat (a b : Nat) : (if (b : Int) < (a : Int) then (b : Int) else (a : Int)) = ((min a b : Nat) : Int) := by
  split <;> omega
section
variable {Pg : Nat → Option Df} {fuel k f : Nat} {C : Cf}
abbrev apP1 : S := .par [3, 4] [.bin .FloorDiv (.var 0) (.con (.int 2)), .bin .FloorDiv (.var 1) (.con (.int 2))]
abbrev apP2 : S := .asg (.v 5) (.call 328 [.var 3, .var 4, .var 2] [] [])
abbrev apP3 : S := .ite (.and (.val (.cmp .Eq (.bin .Mod (.var 1) (.con (.int 2))) (.con (.int 1)))) (.val (.cmp .LtE (.bin .Add (.var 4) (.con (.int 1))) (.var 3)))) [.asg (.v 5) (.bi .min [.var 5, .bin .Add (.call 328 [.bin .Sub (.var 0) (.var 3), .bin .Add (.var 4) (.con (.int 1)), .var 2] [] []) (.call 328 [.var 3, .bin .Add (.var 4) (.con (.int 1)), .var 2] [] [])])] []
abbrev apP4 : S := .dput 2 (.tup [.var 0, .var 1]) (.var 5)
abbrev AP (a b : Nat) (L : List (Nat × Nat)) (y3 y4 y5 : Sl) : En := [.sh (.int a), .sh (.int b), .io (dD L), y3, y4, y5]
theorem ap_end (C : Cf) (a b : Nat) (L : List (Nat × Nat)) (h : (a, b) ∈ L) (y3 y4 y5 : Sl) : x1 C (.ret (.dvg 2 (.tup [.var 0, .var 1]))) (AP a b L y3 y4 y5) = .ret (.sh (.int (apN a b))) (AP a b L y3 y4 y5) := by
  have k : keysD [.int a, .int b] = some (kyP (a, b)) := rfl
  have g := dD_get L (a, b) h
  have l2 : 2 ≤ LINE := line_le (by omega)
  have v : valP (a, b) = .int (apN a b) := rfl
  rw [v] at g
  have o : dD L = .dtv (L.map kyP) (L.map valP) := rfl
  simp [AP, o, En.own?, k, g, l2, bor, isVar]
theorem m_apart (h328 : Pg 328 = some d_apart_of) (N M : Nat) : ∀ (f t a b : Nat) (L : List (Nat × Nat)), b ≤ 2 ^ f → 1 ≤ b → t + f ≤ 100 → Lvl N M t a b → OkL N M L →
    ∃ L', OkL N M L' ∧ callD Pg fuel (k + f + 1) 328 [.int a, .int b, dD L] = .ok (.sh (.int (apN a b))) [dD L']
  | f, t, a, b, L, hb, h1, ht, hl, ok => by
    rw [callD_eq h328 ⟨rfl, Nat.le_of_ble_eq_true rfl⟩]
    by_cases c1 : b = 1
    · subst c1
      refine ⟨L, ok, ?_⟩
      rw [apN_one]
      show Z.O.cr d_apart_of.modes (xs (Cz Pg fuel (k + f)) s_apart_of (AP a 1 L .no .no .no)) = _
      have s1 : x1 (Cz Pg fuel (k + f)) (.ite (.val (.cmp .Eq (.var 1) (.con (.int 1)))) [.ret (.var 0)] []) (AP a 1 L .no .no .no) = .ret (.sh (.int a)) (AP a 1 L .no .no .no) := by
        generalize dD L = D at *
        simp [AP, bor, isVar]
      unfold s_apart_of
      rw [q_xs, s1]
      rfl
    have f1 : 1 ≤ f := by
      rcases f with _ | f
      · simp at hb; omega
      · omega
    obtain ⟨f, rfl⟩ : ∃ g, f = g + 1 := ⟨f - 1, by omega⟩
    have e2 : 2 ^ (f + 1) = 2 ^ f * 2 := Nat.pow_succ ..
    have b100 : b ≤ 2 ^ 100 := Nat.le_trans hb (Nat.pow_le_pow_right (by omega) (by omega))
    have nb : ¬ (b : Int) = 1 := by omega
    have kk : keysD [.int a, .int b] = some (kyP (a, b)) := rfl
    have l2 : 2 ≤ LINE := line_le (by omega)
    have s1 : x1 (Cz Pg fuel (k + (f + 1))) (.ite (.val (.cmp .Eq (.var 1) (.con (.int 1)))) [.ret (.var 0)] []) (AP a b L .no .no .no) = .nx (AP a b L .no .no .no) := by
      generalize dD L = D at *
      simp [AP, nb, bor, isVar]
    show ∃ L', OkL N M L' ∧ Z.O.cr d_apart_of.modes (xs (Cz Pg fuel (k + (f + 1))) s_apart_of (AP a b L .no .no .no)) = _
    unfold s_apart_of
    rw [q_xs, s1, Z.O.then_nx]
    by_cases c2 : (a, b) ∈ L
    · refine ⟨L, ok, ?_⟩
      have s2 : x1 (Cz Pg fuel (k + (f + 1))) (.ite (.val (.dvi true (.tup [.var 0, .var 1]) 2)) [.par [3, 4] [.bin .FloorDiv (.var 0) (.con (.int 2)), .bin .FloorDiv (.var 1) (.con (.int 2))], .asg (.v 5) (.call 328 [.var 3, .var 4, .var 2] [] []), .ite (.and (.val (.cmp .Eq (.bin .Mod (.var 1) (.con (.int 2))) (.con (.int 1)))) (.val (.cmp .LtE (.bin .Add (.var 4) (.con (.int 1))) (.var 3)))) [.asg (.v 5) (.bi .min [.var 5, .bin .Add (.call 328 [.bin .Sub (.var 0) (.var 3), .bin .Add (.var 4) (.con (.int 1)), .var 2] [] []) (.call 328 [.var 3, .bin .Add (.var 4) (.con (.int 1)), .var 2] [] [])])] [], .dput 2 (.tup [.var 0, .var 1]) (.var 5)] []) (AP a b L .no .no .no) = .nx (AP a b L .no .no .no) := by
        have an := dD_any L (a, b)
        rw [decide_eq_true c2] at an
        have o : dD L = .dtv (L.map kyP) (L.map valP) := rfl
        simp only [q_ite]
        simp [-List.any_map, -List.any_eq_true, AP, o, En.own?, kk, an, l2, bor, isVar]
      rw [q_xs, s2, Z.O.then_nx, q_xs, ap_end _ a b L c2]
      rfl
    · obtain ⟨L1, ok1, r1⟩ := m_apart h328 N M f (t + 1) (a / 2) (b / 2) L (by omega) (by omega) (by omega) (lvl_next hl (.inl rfl) (.inl rfl)) ok
      have an := dD_any L (a, b)
      rw [decide_eq_false c2] at an
      have hm := lvl_mem hl (by omega)
      have hb2 := half_bin b
      have ha2 := half_bin a
      have hmo := mod_bin b
      have shn : ∀ L : List (Nat × Nat), shal (dD L) = false := fun _ => rfl
      have r1 : callD Pg fuel (k + (f + 1)) 328 [.int ((a / 2 : Nat) : Int), .int ((b / 2 : Nat) : Int), dD L] = .ok (.sh (.int (apN (a / 2) (b / 2)))) [dD L1] := r1
      have t1 : evT (Cz Pg fuel (k + (f + 1))) (.val (.dvi true (.tup [.var 0, .var 1]) 2)) (AP a b L .no .no .no) = .ok true (AP a b L .no .no .no) := by
        have o : dD L = .dtv (L.map kyP) (L.map valP) := rfl
        unfold AP
        rw [o]
        generalize L.map kyP = ks at *
        generalize L.map valP = vs at *
        simp [-List.any_eq_true, AP, En.own?, kk, an, l2, bor, isVar]
      have p1 : x1 (Cz Pg fuel (k + (f + 1))) apP1 (AP a b L .no .no .no) = .nx (AP a b L (.sh (.int (a / 2 : Nat))) (.sh (.int (b / 2 : Nat))) .no) := by
        unfold AP
        generalize ((a / 2 : Nat) : Int) = a2 at *
        generalize ((b / 2 : Nat) : Int) = b2 at *
        generalize dD L = D at *
        generalize (a : Int) = aa at *
        generalize (b : Int) = bb at *
        simp [AP, ha2, hb2, puts, En.put, bor, isVar]
      have p2 : x1 (Cz Pg fuel (k + (f + 1))) apP2 (AP a b L (.sh (.int (a / 2 : Nat))) (.sh (.int (b / 2 : Nat))) .no) = .nx (AP a b L1 (.sh (.int (a / 2 : Nat))) (.sh (.int (b / 2 : Nat))) (.sh (.int (apN (a / 2) (b / 2))))) := by
        have h1 := shn L1
        unfold AP
        generalize dD L1 = D1 at *
        generalize dD L = D at *
        generalize ((a / 2 : Nat) : Int) = a2 at *
        generalize ((b / 2 : Nat) : Int) = b2 at *
        simp [AP, h328, d_apart_of, r1, h1, bor, isVar]
      have p4 : ∀ (L' : List (Nat × Nat)) (y3 y4 : Sl), OkL N M L' → x1 (Cz Pg fuel (k + (f + 1))) apP4 (AP a b L' y3 y4 (.sh (.int (apN a b)))) = .nx (AP a b (kpL L' (a, b)) y3 y4 (.sh (.int (apN a b)))) := by
        intro L' y3 y4 ok'
        have pt := dD_put L' (a, b) (ok_len ok')
        have v : valP (a, b) = .int (apN a b) := rfl
        rw [v] at pt
        have pt : dputD (dD L') (.tup [.int a, .int b]) (.int (apN a b)) = some (dD (kpL L' (a, b))) := pt
        unfold AP
        generalize dD (kpL L' (a, b)) = D2 at *
        generalize dD L' = D1 at *
        simp [AP, En.own?, En.chg, pt, l2, bor, isVar]
      have st := apN_step (n := a) (m := b) (by omega) b100
      by_cases q : b % 2 = 1 ∧ b / 2 + 1 ≤ a / 2
      · obtain ⟨L2, ok2, r2⟩ := m_apart h328 N M f (t + 1) (a - a / 2) (b / 2 + 1) L1 (by omega) (by omega) (by omega) (lvl_next hl (.inr rfl) (.inr ⟨q.1, rfl⟩)) ok1
        obtain ⟨L3, ok3, r3⟩ := m_apart h328 N M f (t + 1) (a / 2) (b / 2 + 1) L2 (by omega) (by omega) (by omega) (lvl_next hl (.inl rfl) (.inr ⟨q.1, rfl⟩)) ok2
        rw [if_pos q] at st
        refine ⟨kpL L3 (a, b), ok_put ok3 hm, ?_⟩
        have s2 : x1 (Cz Pg fuel (k + (f + 1))) (.ite (.val (.dvi true (.tup [.var 0, .var 1]) 2)) [.par [3, 4] [.bin .FloorDiv (.var 0) (.con (.int 2)), .bin .FloorDiv (.var 1) (.con (.int 2))], .asg (.v 5) (.call 328 [.var 3, .var 4, .var 2] [] []), .ite (.and (.val (.cmp .Eq (.bin .Mod (.var 1) (.con (.int 2))) (.con (.int 1)))) (.val (.cmp .LtE (.bin .Add (.var 4) (.con (.int 1))) (.var 3)))) [.asg (.v 5) (.bi .min [.var 5, .bin .Add (.call 328 [.bin .Sub (.var 0) (.var 3), .bin .Add (.var 4) (.con (.int 1)), .var 2] [] []) (.call 328 [.var 3, .bin .Add (.var 4) (.con (.int 1)), .var 2] [] [])])] [], .dput 2 (.tup [.var 0, .var 1]) (.var 5)] []) (AP a b L .no .no .no) = .nx (AP a b (kpL L3 (a, b)) (.sh (.int (a / 2 : Nat))) (.sh (.int (b / 2 : Nat))) (.sh (.int (apN a b)))) := by
          have mn := min_nat (apN (a / 2) (b / 2)) (apN (a - a / 2) (b / 2 + 1) + apN (a / 2) (b / 2 + 1))
          rw [← st] at mn
          have q1 : ((b % 2 : Nat) : Int) = 1 := by omega
          have q2 : ((b / 2 + 1 : Nat) : Int) ≤ ((a / 2 : Nat) : Int) := by omega
          have d1 : ((b / 2 : Nat) : Int) + 1 = ((b / 2 + 1 : Nat) : Int) := by omega
          have d2 : (a : Int) - ((a / 2 : Nat) : Int) = ((a - a / 2 : Nat) : Int) := by omega
          have d3 : ((apN (a - a / 2) (b / 2 + 1) : Nat) : Int) + ((apN (a / 2) (b / 2 + 1) : Nat) : Int) = ((apN (a - a / 2) (b / 2 + 1) + apN (a / 2) (b / 2 + 1) : Nat) : Int) := by omega
          have r2 : callD Pg fuel (k + (f + 1)) 328 [.int ((a - a / 2 : Nat) : Int), .int ((b / 2 + 1 : Nat) : Int), dD L1] = .ok (.sh (.int (apN (a - a / 2) (b / 2 + 1) : Nat))) [dD L2] := r2
          have r3 : callD Pg fuel (k + (f + 1)) 328 [.int ((a / 2 : Nat) : Int), .int ((b / 2 + 1 : Nat) : Int), dD L2] = .ok (.sh (.int (apN (a / 2) (b / 2 + 1) : Nat))) [dD L3] := r3
          have p3 : x1 (Cz Pg fuel (k + (f + 1))) apP3 (AP a b L1 (.sh (.int (a / 2 : Nat))) (.sh (.int (b / 2 : Nat))) (.sh (.int (apN (a / 2) (b / 2))))) = .nx (AP a b L3 (.sh (.int (a / 2 : Nat))) (.sh (.int (b / 2 : Nat))) (.sh (.int (apN a b)))) := by
            have h2 := shn L2
            have h3 := shn L3
            clear p1 p2 p4 t1 s1 r1 an
            unfold AP
            generalize dD L1 = D1 at *
            generalize dD L2 = D2 at *
            generalize dD L3 = D3 at *
            generalize ((b % 2 : Nat) : Int) = bm at *
            generalize ((a - a / 2 : Nat) : Int) = ac at *
            generalize ((a / 2 : Nat) : Int) = a2 at *
            generalize ((b / 2 + 1 : Nat) : Int) = bc at *
            generalize ((b / 2 : Nat) : Int) = b2 at *
            generalize ((apN (a - a / 2) (b / 2 + 1) + apN (a / 2) (b / 2 + 1) : Nat) : Int) = s3 at *
            generalize ((apN (a - a / 2) (b / 2 + 1) : Nat) : Int) = v2 at *
            generalize ((apN (a / 2) (b / 2 + 1) : Nat) : Int) = v3 at *
            generalize ((apN (a / 2) (b / 2) : Nat) : Int) = v1 at *
            generalize ((apN a b : Nat) : Int) = v at *
            simp [AP, h328, d_apart_of, hmo, q1, d1, q2, d2, r2, r3, d3, h2, h3, mn, bor, isVar]
          show x1 _ (.ite (.val (.dvi true (.tup [.var 0, .var 1]) 2)) [apP1, apP2, apP3, apP4] []) _ = _
          rw [q_ite, t1, R.run_ok, if_pos rfl, q_xs, p1, Z.O.then_nx, q_xs, p2, Z.O.then_nx, q_xs, p3, Z.O.then_nx, q_xs, p4 _ _ _ ok3, Z.O.then_nx, q_xs0]
        rw [q_xs, s2, Z.O.then_nx, q_xs, ap_end _ a b _ (kp_mem L3 (a, b))]
        rfl
      · rw [if_neg q] at st
        refine ⟨kpL L1 (a, b), ok_put ok1 hm, ?_⟩
        have s2 : x1 (Cz Pg fuel (k + (f + 1))) (.ite (.val (.dvi true (.tup [.var 0, .var 1]) 2)) [.par [3, 4] [.bin .FloorDiv (.var 0) (.con (.int 2)), .bin .FloorDiv (.var 1) (.con (.int 2))], .asg (.v 5) (.call 328 [.var 3, .var 4, .var 2] [] []), .ite (.and (.val (.cmp .Eq (.bin .Mod (.var 1) (.con (.int 2))) (.con (.int 1)))) (.val (.cmp .LtE (.bin .Add (.var 4) (.con (.int 1))) (.var 3)))) [.asg (.v 5) (.bi .min [.var 5, .bin .Add (.call 328 [.bin .Sub (.var 0) (.var 3), .bin .Add (.var 4) (.con (.int 1)), .var 2] [] []) (.call 328 [.var 3, .bin .Add (.var 4) (.con (.int 1)), .var 2] [] [])])] [], .dput 2 (.tup [.var 0, .var 1]) (.var 5)] []) (AP a b L .no .no .no) = .nx (AP a b (kpL L1 (a, b)) (.sh (.int (a / 2 : Nat))) (.sh (.int (b / 2 : Nat))) (.sh (.int (apN a b)))) := by
          have d1 : ((b / 2 : Nat) : Int) + 1 = ((b / 2 + 1 : Nat) : Int) := by omega
          have p3 : x1 (Cz Pg fuel (k + (f + 1))) apP3 (AP a b L1 (.sh (.int (a / 2 : Nat))) (.sh (.int (b / 2 : Nat))) (.sh (.int (apN (a / 2) (b / 2))))) = .nx (AP a b L1 (.sh (.int (a / 2 : Nat))) (.sh (.int (b / 2 : Nat))) (.sh (.int (apN (a / 2) (b / 2))))) := by
            by_cases q1 : b % 2 = 1
            · have q1' : ((b % 2 : Nat) : Int) = 1 := by omega
              have q2 : ¬ ((b / 2 + 1 : Nat) : Int) ≤ ((a / 2 : Nat) : Int) := by omega
              clear p1 p2 p4 t1 s1 r1 an
              unfold AP
              generalize dD L1 = D1 at *
              generalize ((b % 2 : Nat) : Int) = bm at *
              generalize ((a / 2 : Nat) : Int) = a2 at *
              generalize ((b / 2 + 1 : Nat) : Int) = bc at *
              generalize ((b / 2 : Nat) : Int) = b2 at *
              generalize ((apN (a / 2) (b / 2) : Nat) : Int) = v1 at *
              simp [AP, hmo, q1', d1, q2, bor, isVar]
            · have q1' : ¬ ((b % 2 : Nat) : Int) = 1 := by omega
              clear p1 p2 p4 t1 s1 r1 an
              unfold AP
              generalize dD L1 = D1 at *
              generalize ((b % 2 : Nat) : Int) = bm at *
              generalize ((a / 2 : Nat) : Int) = a2 at *
              generalize ((b / 2 : Nat) : Int) = b2 at *
              generalize ((apN (a / 2) (b / 2) : Nat) : Int) = v1 at *
              simp [AP, hmo, q1', bor, isVar]
          rw [← st] at p3 p2
          show x1 _ (.ite (.val (.dvi true (.tup [.var 0, .var 1]) 2)) [apP1, apP2, apP3, apP4] []) _ = _
          rw [q_ite, t1, R.run_ok, if_pos rfl, q_xs, p1, Z.O.then_nx, q_xs, p2, Z.O.then_nx, q_xs, p3, Z.O.then_nx, q_xs, p4 _ _ _ ok1, Z.O.then_nx, q_xs0]
        rw [q_xs, s2, Z.O.then_nx, q_xs, ap_end _ a b _ (kp_mem L1 (a, b))]
        rfl
structure G42 (Pg : Nat → Option Df) : Prop extends GDi Pg where
  h323 : Pg 323 = some d_least_lost
  h328 : Pg 328 = some d_apart_of
  h329 : Pg 329 = some d_neighbour_distance
  h32 : Pg 32 = some d__law_hash
  h33 : Pg 33 = some d__law_random_v1
  h34 : Pg 34 = some d__law_cell
  h35 : Pg 35 = some d__law_generator
  h39 : Pg 39 = some d__law_power
  h265 : Pg 265 = some d__law_same
  h468 : Pg 468 = some d__law_ones
  h469 : Pg 469 = some d__law_due_v4
  h470 : Pg 470 = some d__law_right_v23
  h471 : Pg 471 = some d__law_halves_right
  h472 : Pg 472 = some d__law_great_right_v25
theorem G42.ls (G : G42 Pg) : GLs Pg := ⟨G.toGTr, G.h0, G.h1, G.h2, G.h3, G.h8, G.h9, G.h10, G.h11, G.h12, G.h13⟩
theorem G42.lo (G : G42 Pg) : GLo Pg := ⟨G.ls, G.h18, G.h30, G.h323⟩
/-- the answer -/
def ndD (n m : Nat) : D := if m = 0 then .non else .int (apN n m)
theorem m_nd (G : G42 Pg) (n m : Nat) (h1 : 1 ≤ n) (h2 : m ≤ n) (h3 : m ≤ 2 ^ 100) : callD Pg fuel (k + 102) 329 [.int n, .int m] = .ok (.sh (ndD n m)) [] := by
  rw [callD_eq G.h329 ⟨rfl, Nat.le_of_ble_eq_true rfl⟩]
  have e1 := m_check_from (fuel := fuel) (k := k + 98) G.toGB G.h2 n 1 (by omega)
  have e2 := m_check_numL (fuel := fuel) (k := k + 98) G.ls m 0 n (by omega)
  have s1 : x1 (Cz Pg fuel (k + 101)) (.ex (.call 2 [.var 0, .con (.int 1), .con .non] [] [])) [.sh (.int n), .sh (.int m)] = .nx [.sh (.int n), .sh (.int m)] := by
    simp [G.h2, d_check_number, e1, bor, isVar]
  have s2 : x1 (Cz Pg fuel (k + 101)) (.ex (.call 2 [.var 1, .con (.int 0), .var 0] [] [])) [.sh (.int n), .sh (.int m)] = .nx [.sh (.int n), .sh (.int m)] := by
    simp [G.h2, d_check_number, e2, bor, isVar]
  have s3 : x1 (Cz Pg fuel (k + 101)) (.ret (.ite (.val (.cmp .Eq (.var 1) (.con (.int 0)))) (.con .non) (.callE 328 [.var 0, .var 1] .dtn))) [.sh (.int n), .sh (.int m)] = .ret (.sh (ndD n m)) [.sh (.int n), .sh (.int m)] := by
    unfold ndD
    by_cases c : m = 0
    · subst c
      rw [if_pos rfl]
      simp [bor, isVar]
    · rw [if_neg c]
      have c' : ¬ (m : Int) = 0 := by omega
      obtain ⟨L', _, r⟩ := m_apart (Pg := Pg) (fuel := fuel) (k := k) G.h328 n m 100 0 n m [] h3 (by omega) (by omega) ⟨.inl (by simp), .inl (by simp)⟩ ⟨List.nodup_nil, fun p hp => by cases hp⟩
      have r : callD Pg fuel (k + 101) 328 [.int n, .int m, .dtv [] []] = .ok (.sh (.int (apN n m))) [dD L'] := r
      have qd : ∀ r, ev (Cz Pg fuel (k + 101)) .dtn r = .ok (.ow (.dtv [] [])) r := fun r => by simp only [ev]
      simp [c, c', G.h328, d_apart_of, callER, qd, r, bor, isVar]
  show Z.O.cr d_neighbour_distance.modes (xs _ s_neighbour_distance [.sh (.int n), .sh (.int m)]) = _
  unfold s_neighbour_distance
  rw [q_xs, s1, Z.O.then_nx, q_xs, s2, Z.O.then_nx, q_xs, s3]
  rfl
end
end Z
/-! NH: k19: all codewords, listed by falling products. -/
namespace Z
open PySem (Str Operator CmpOp)
section
variable {Pg : Nat → Option Df} {fuel k f : Nat} {C : Cf}
theorem m_power39 (h : Pg f = some d__law_power) (n : Nat) (hn : n ≤ 200) : callD Pg fuel (k + 1) f [.int n] = .ok (.sh (.int (2 ^ n))) [] := by
  rw [callD_eq h ⟨rfl, Nat.le_of_ble_eq_true rfl⟩]
  have er := rng1_eq (C := Cz Pg fuel k) (b := .var 0) (r := [.sh (.int n), .sh (.int 1), .no]) (r2 := [.sh (.int n), .sh (.int 1), .no]) (y := .inl 0) (j := n) (by simp) (by simp) (by omega)
  obtain ⟨r3, e3, y2, rfl, h2⟩ := for_run (t := .v 2) (body := [.asg (.v 1) (.bin .Mult (.var 1) (.con (.int 2)))]) (fun j r => ∃ y2, r = [.sh (.int n), .sh (.int (2 ^ j)), y2] ∧ Pn y2) er (by
    intro j hj r hr
    rw [rng0_len] at hj
    rw [rng0_get]
    obtain ⟨y2, rfl, h2⟩ := hr
    have lt : ((2 : Int) ^ j).natAbs < 2 ^ 300 := by rw [Int.natAbs_pow]; exact Nat.pow_lt_pow_right (by decide) (by omega)
    have em : binI .Mult (2 ^ j) 2 = some (2 ^ j * 2) := bI_mul 300 2 lt (by decide) (by decide)
    refine ⟨_, ?_, .sh (.int j), by rw [Int.pow_succ], .inr ⟨_, rfl⟩⟩
    generalize (2 : Int) ^ j * 2 = Z2 at *
    generalize (2 : Int) ^ j = Z1 at *
    rcases h2 with rfl | ⟨_, rfl⟩ <;> simp [bindT, em]) ⟨.no, rfl, .inl rfl⟩
  rw [rng0_len] at e3
  generalize (2 : Int) ^ n = P at *
  simp [-q_for, d__law_power, s__law_power, start_eq, e3]
end
end Z
/-! U42C: k42: the law's own distance of neighbours. -/
namespace Z
open PySem (Str Operator CmpOp)
theorem app_one (F : List D) (d : D) (l : F.length ≤ 1000) : muD .append (.lst F) [d] = some (.lst (F ++ [d]), .non) := by
  have l1 : LINE = 16777216 := rfl
  show (if _ then some _ else none) = _
  rw [if_pos (by omega)]
/-- the bits of a number -/
def onesN (x j : Nat) : List Nat := (List.range j).filter fun b => decide (x / 2 ^ b % 2 = 1)
def onesI (x j : Nat) : List Int := (onesN x j).map fun (b : Nat) => (b : Int)
theorem ones_succ (x j : Nat) : onesI x (j + 1) = onesI x j ++ (if x / 2 ^ j % 2 = 1 then [(j : Int)] else []) := by
  unfold onesI onesN
  rw [List.range_succ, List.filter_append, List.map_append]
  congr 1
  by_cases c : x / 2 ^ j % 2 = 1
  · rw [if_pos c, List.filter_cons, if_pos (by simpa using c)]; rfl
  · rw [if_neg c, List.filter_cons, if_neg (by simpa using c)]; rfl
/-- whether a place has all the bits -/
def hasB (x s : Nat) : Nat := if ((onesN x 8).filter fun b => decide (s / 2 ^ b % 2 = 0)) = [] then 1 else 0
def cntW (x n b : Nat) : Nat := ((List.range n).map fun i => hasB x (b + i)).sum
def stepD (n x f : Nat) : Nat := (List.range 32).foldl (fun g b => if 0 < cntW x n b ∧ cntW x n b < g then cntW x n b else g) f
def duN (n m : Nat) : Nat := (List.range m).foldl (fun f x => stepD n x f) n
theorem cntW_next (x n b : Nat) : cntW x n (b + 1) + hasB x b = cntW x n b + hasB x (b + n) := by
  have e1 : hasB x b + cntW x n (b + 1) = ((List.range (n + 1)).map fun i => hasB x (b + i)).sum := by
    rw [List.range_succ_eq_map, List.map_cons, List.sum_cons, List.map_map]
    unfold cntW
    congr 2
    apply List.map_congr_left
    intro i _
    show hasB x (b + 1 + i) = hasB x (b + (i + 1))
    congr 1
    omega
  have e2 : cntW x n b + hasB x (b + n) = ((List.range (n + 1)).map fun i => hasB x (b + i)).sum := by
    rw [List.range_succ, List.map_append, List.sum_append]
    simp [cntW]
  omega
section
variable {Pg : Nat → Option Df} {fuel k f : Nat} {C : Cf}
abbrev onB : List S := [.ite (.val (.cmp .Eq (.bin .Mod (.bi .int [.bin .FloorDiv (.var 0) (.call 39 [.var 2] [] [])]) (.con (.int 2))) (.con (.int 1)))) [.ex (.mut .append 1 [.var 2])] []]
theorem pw_div (x j : Nat) (hj : j ≤ 60) : binI .FloorDiv (x : Int) (2 ^ j) = some ((x / 2 ^ j : Nat) : Int) := by
  have p := Nat.one_le_two_pow (n := j)
  have e : ((2 ^ j : Nat) : Int) = 2 ^ j := by simp
  have l : 2 ^ j ≤ 2 ^ 60 := Nat.pow_le_pow_right (by omega) hj
  rw [← e]
  show (if (0 : Int) < ((2 ^ j : Nat) : Int) ∧ bits ((2 ^ j : Nat) : Int) ≤ 9000 then some ((x : Int) / ((2 ^ j : Nat) : Int)) else none) = _
  rw [if_pos ⟨by omega, by
    unfold bits
    rw [Int.natAbs_natCast, Nat.log2_two_pow]
    omega⟩]
  congr 1
theorem ones_turn (G : G42 Pg) (x j : Nat) (hj : j < 8) (y2 : Sl) (h2 : Pn y2) :
    ((Z.O.of (bindT (.v 2) (.int j) [.sh (.int x), .ow (il (onesI x j)), y2])).then fun r3 => xs (Cz Pg fuel (k + 1)) onB r3) = .nx [.sh (.int x), .ow (il (onesI x (j + 1))), .sh (.int j)] := by
  have e1 := m_power39 (fuel := fuel) (k := k) G.h39 j (by omega)
  have e2 := pw_div x j (by omega)
  have e3 := mod_bin (x / 2 ^ j)
  have st0 : Z.O.of (bindT (.v 2) (.int j) [.sh (.int x), .ow (il (onesI x j)), y2]) = .nx [.sh (.int x), .ow (il (onesI x j)), .sh (.int j)] := by
    generalize il (onesI x j) = F at *
    rcases h2 with rfl | ⟨_, rfl⟩ <;> simp [bindT]
  rw [st0, Z.O.then_nx, ones_succ]
  have ll : (onesI x j).length ≤ 1000 := by
    unfold onesI onesN
    rw [List.length_map]
    have := List.length_filter_le (fun b => decide (x / 2 ^ b % 2 = 1)) (List.range j)
    simp at this ⊢
    omega
  have ap := app_one ((onesI x j).map D.int) (.int j) (by rw [List.length_map]; exact ll)
  have ap : muD .append (il (onesI x j)) [.int j] = some (il (onesI x j ++ [(j : Int)]), .non) := by
    rw [show il (onesI x j ++ [(j : Int)]) = .lst ((onesI x j).map D.int ++ [.int j]) from by simp]
    exact ap
  have la : ∀ a c : Sl, ∀ L : List D, lstAt [a, .ow (.lst L), c] 1 = true := fun _ _ _ => rfl
  have la : ∀ a c : Sl, lstAt [a, .ow (il (onesI x j)), c] 1 = true := fun a c => la a c _
  by_cases c : x / 2 ^ j % 2 = 1
  · rw [if_pos c]
    have c' : ((x / 2 ^ j % 2 : Nat) : Int) = 1 := by omega
    generalize ((x / 2 ^ j % 2 : Nat) : Int) = q at *
    generalize ((x / 2 ^ j : Nat) : Int) = p at *
    generalize (2 : Int) ^ j = pw at *
    generalize il (onesI x j ++ [(j : Int)]) = F2 at *
    generalize il (onesI x j) = F at *
    simp [G.h39, d__law_power, e1, e2, e3, c', la, ap, bor, isVar]
  · rw [if_neg c, List.append_nil]
    have c' : ¬ ((x / 2 ^ j % 2 : Nat) : Int) = 1 := by omega
    generalize ((x / 2 ^ j % 2 : Nat) : Int) = q at *
    generalize ((x / 2 ^ j : Nat) : Int) = p at *
    generalize (2 : Int) ^ j = pw at *
    generalize il (onesI x j) = F at *
    simp [G.h39, d__law_power, e1, e2, e3, c', bor, isVar]
theorem m_ones468 (G : G42 Pg) (x : Nat) : callD Pg fuel (k + 2) 468 [.int x] = .ok (.ow (il (onesI x 8))) [] := by
  rw [callD_eq G.h468 ⟨rfl, Nat.le_of_ble_eq_true rfl⟩]
  have s1 : x1 (Cz Pg fuel (k + 1)) (.asg (.v 1) (.lst [])) [.sh (.int x), .no, .no] = .nx [.sh (.int x), .ow (il (onesI x 0)), .no] := by
    rw [show il (onesI x 0) = .lst [] from rfl]
    simp
  have er := rng1_eq (C := Cz Pg fuel (k + 1)) (b := .con (.int 8)) (r := [.sh (.int x), .ow (il (onesI x 0)), .no]) (r2 := [.sh (.int x), .ow (il (onesI x 0)), .no]) (y := .inr (.int 8)) (j := ((8 : Nat) : Int)) (by simp) (by simp) (by omega)
  obtain ⟨r', s2, y2, h2, rfl⟩ := for_run (t := .v 2) (body := onB) (fun j r => ∃ y2, Pn y2 ∧ r = [.sh (.int x), .ow (il (onesI x j)), y2]) er (by
    intro j hj r hr
    rw [rng0_len] at hj
    rw [rng0_get]
    obtain ⟨y2, h2, rfl⟩ := hr
    exact ⟨_, ones_turn G x j hj y2 h2, _, .inr ⟨_, rfl⟩, rfl⟩) ⟨.no, .inl rfl, rfl⟩
  rw [rng0_len] at s2
  show Z.O.cr d__law_ones.modes (xs _ s__law_ones [.sh (.int x), .no, .no]) = _
  unfold s__law_ones
  rw [q_xs, s1, Z.O.then_nx, q_xs, s2, Z.O.then_nx, q_xs]
  have s3 : x1 (Cz Pg fuel (k + 1)) (.ret (.var 1)) [.sh (.int x), .ow (il (onesI x 8)), y2] = .ret (.ow (il (onesI x 8))) [.sh (.int x), .ow (il (onesI x 8)), y2] := by
    generalize il (onesI x 8) = F at *
    simp
  rw [s3]
  rfl
end
end Z
/-! U42E: k42: the law's own distance, the loops. -/
namespace Z
open PySem (Str Operator CmpOp)
theorem slc_to42 (l : List Int) (i : Nat) : slcD (il l) .non (.int i) = some (.ow (il (l.take i))) := by
  have := cut_take l i
  show some (Val.ow (.lst (cut (l.map D.int) none (some (i : Int))))) = _
  rw [this]
def hasI (x len : Nat) : List Int := (List.range len).map fun s => (hasB x s : Int)
def zerI (x s : Nat) : List Int := (onesI x 8).filter fun b => decide (s / 2 ^ b.toNat % 2 = 0)
theorem zer_nil (x s : Nat) : zerI x s = [] ↔ hasB x s = 1 := by
  unfold zerI onesI hasB
  rw [List.filter_map, List.map_eq_nil_iff]
  have : ((fun b : Int => decide (s / 2 ^ b.toNat % 2 = 0)) ∘ fun (b : Nat) => (b : Int)) = fun (b : Nat) => decide (s / 2 ^ b % 2 = 0) := by
    funext b
    simp
  rw [this]
  split
  · simp_all
  · simp_all
theorem has_01 (x s : Nat) : hasB x s = 0 ∨ hasB x s = 1 := by unfold hasB; split <;> omega
theorem has_sum (x n len : Nat) (h : n ≤ len) : ((hasI x len).take n).sum = (cntW x n 0 : Int) := by
  unfold hasI cntW
  rw [← List.map_take, List.take_range, Nat.min_eq_left h]
  have : ∀ l : List Nat, (l.map fun s => (hasB x s : Int)).sum = (((l.map fun i => hasB x (0 + i)).sum : Nat) : Int) := by
    intro l
    induction l with
    | nil => rfl
    | cons a l ih =>
      rw [List.map_cons, List.sum_cons, List.map_cons, List.sum_cons, ih]
      simp
  exact this _
section
variable {Pg : Nat → Option Df} {fuel k f : Nat} {C : Cf}
abbrev DU42 (n m : Nat) (fnd : Int) (y3 y4 y5 y6 y7 : Sl) : En := [.sh (.int n), .sh (.int m), .sh (.int fnd), y3, y4, y5, y6, y7, .no, .no]
abbrev dwB42 : List S := [.ite (.val (.chn .Lt .Lt (.con (.int 0)) (.var 6) (.var 2))) [.asg (.v 2) (.var 6)] [], .asg (.v 6) (.bin .Add (.bin .Sub (.var 6) (.idx (.var 5) (.var 7))) (.idx (.var 5) (.bin .Add (.var 7) (.var 0))))]
/-- a window -/
theorem win_turn (n m x : Nat) (hn : n ≤ 900) (fnd j : Nat) (hj : j < 32) (y3 y4 y7 : Sl) (h7 : Pn y7) :
    ((Z.O.of (bindT (.v 7) (.int j) (DU42 n m fnd y3 y4 (.ow (il (hasI x (64 + n)))) (.sh (.int (cntW x n j))) y7))).then fun r3 => xs C dwB42 r3) = .nx (DU42 n m ((if 0 < cntW x n j ∧ cntW x n j < fnd then cntW x n j else fnd : Nat)) y3 y4 (.ow (il (hasI x (64 + n)))) (.sh (.int (cntW x n (j + 1)))) (.sh (.int j))) := by
  have ln : (hasI x (64 + n)).length = 64 + n := by simp [hasI]
  have i1 : idxD (il (hasI x (64 + n))) (.int (j : Nat)) = some (.int (hasB x j)) := by
    rw [idx_il (l := hasI x (64 + n)) (i := j) (by omega)]
    simp [hasI]
  have i2 : idxD (il (hasI x (64 + n))) (.int ((j + n : Nat) : Int)) = some (.int (hasB x (j + n))) := by
    rw [idx_il (l := hasI x (64 + n)) (i := j + n) (by omega)]
    simp [hasI]
  have ad : (j : Int) + (n : Int) = ((j + n : Nat) : Int) := by omega
  have nx := cntW_next x n j
  have ev1 : (cntW x n j : Int) - (hasB x j : Int) + (hasB x (j + n) : Int) = (cntW x n (j + 1) : Int) := by omega
  have c1 : (0 : Int) < (cntW x n j : Int) ↔ 0 < cntW x n j := by omega
  have c2 : (cntW x n j : Int) < (fnd : Int) ↔ cntW x n j < fnd := by omega
  generalize il (hasI x (64 + n)) = HL at *
  generalize hasB x (j + n) = b2 at *
  generalize hasB x j = b1 at *
  generalize cntW x n (j + 1) = c' at *
  generalize cntW x n j = cc at *
  generalize ((j + n : Nat) : Int) = jn at *
  by_cases p : 0 < cc
  · by_cases q : cc < fnd
    · rw [if_pos ⟨p, q⟩]
      have p' := c1.mpr p
      have q' := c2.mpr q
      rcases h7 with rfl | ⟨_, rfl⟩ <;> simp [bindT, p, q, p', q', i1, ad, i2, ev1, bor, isVar]
    · rw [if_neg (fun h => q h.2)]
      have p' := c1.mpr p
      have q' := fun h => q (c2.mp h)
      rcases h7 with rfl | ⟨_, rfl⟩ <;> simp [bindT, p, q, p', q', i1, ad, i2, ev1, bor, isVar]
  · rw [if_neg (fun h => p h.1)]
    have p' := fun h => p (c1.mp h)
    rcases h7 with rfl | ⟨_, rfl⟩ <;> simp [bindT, p, p', i1, ad, i2, ev1, bor, isVar]
abbrev duB42 : List S := [.asg (.v 4) (.call 468 [.var 3] [] []), .asg (.v 5) (.lc (.bi .int [.cmp .Eq (.lc (.var 9) (.v 9) (.e (.var 4)) [.val (.cmp .Eq (.bin .Mod (.bi .int [.bin .FloorDiv (.var 8) (.call 39 [.var 9] [] [])]) (.con (.int 2))) (.con (.int 0)))] [9]) (.lst [])]) (.v 8) (.rng1 (.bin .Add (.con (.int 64)) (.var 0))) [] [8]), .asg (.v 6) (.bi .sum [.slc (.var 5) (.con .non) (.var 0)]), .for_ (.v 7) (.rng1 (.con (.int 32))) [.ite (.val (.chn .Lt .Lt (.con (.int 0)) (.var 6) (.var 2))) [.asg (.v 2) (.var 6)] [], .asg (.v 6) (.bin .Add (.bin .Sub (.var 6) (.idx (.var 5) (.var 7))) (.idx (.var 5) (.bin .Add (.var 7) (.var 0))))]]
abbrev cmB42 : E := .lc (.var 9) (.v 9) (.e (.var 4)) [.val (.cmp .Eq (.bin .Mod (.bi .int [.bin .FloorDiv (.var 8) (.call 39 [.var 9] [] [])]) (.con (.int 2))) (.con (.int 0)))] [9]
abbrev cmO42 : E := .bi .int [.cmp .Eq cmB42 (.lst [])]
abbrev DC42 (n m : Nat) (fnd : Nat) (x : Nat) (z y5 y6 y7 y8 : Sl) : En := [.sh (.int n), .sh (.int m), .sh (.int fnd), .sh (.int x), z, y5, y6, y7, y8, .no]
theorem cm_in (G : G42 Pg) (n m fnd x s : Nat) (hs : s ≤ 2000) (z y5 y6 y7 : Sl) (hz : SlX (il (onesI x 8)) z) :
    ∃ z2, SlX (il (onesI x 8)) z2 ∧ ev (Cz Pg fuel (k + 3)) cmB42 (DC42 n m fnd x z y5 y6 y7 (.sh (.int s))) = .ok (.ow (il (zerI x s))) (DC42 n m fnd x z2 y5 y6 y7 (.sh (.int s))) := by
  obtain ⟨z2, hz2, e⟩ := lc_slot (C := Cz Pg fuel (k + 3)) (e := .var 9) (t := .v 9) (i := 4) (ts := [.val (.cmp .Eq (.bin .Mod (.bi .int [.bin .FloorDiv (.var 8) (.call 39 [.var 9] [] [])]) (.con (.int 2))) (.con (.int 0)))]) (own := [9]) (r := DC42 n m fnd x z y5 y6 y7 (.sh (.int s))) (y := z) (onesI x 8) D.int (fun b => if decide (s / 2 ^ b.toNat % 2 = 0) = true then some (.int b) else none) rfl hz rfl rfl (line_le (by
      unfold onesI onesN
      rw [List.length_map]
      have := List.length_filter_le (fun b => decide (x / 2 ^ b % 2 = 1)) (List.range 8)
      simp at this ⊢
      omega)) (fun b hb => by
    obtain ⟨t, ht, rfl⟩ := List.mem_map.mp hb
    have ht := List.mem_range.mp (List.mem_filter.mp ht).1
    refine ⟨DC42 n m fnd x (.sh (il (onesI x 8))) y5 y6 y7 (.sh (.int s)) |>.set 9 (.sh (.int t)), ?_, rfl⟩
    have e1 := m_power39 (fuel := fuel) (k := k + 2) G.h39 t (by omega)
    have e2 := pw_div s t (by omega)
    have e3 := mod_bin (s / 2 ^ t)
    rw [Int.toNat_natCast]
    show lcF _ _ _ _ _ (wip (DC42 n m fnd x (.sh (il (onesI x 8))) y5 y6 y7 (.sh (.int s))) [9]) = _
    by_cases c : s / 2 ^ t % 2 = 0
    · have c' : ((s / 2 ^ t % 2 : Nat) : Int) = 0 := by omega
      rw [decide_eq_true c, if_pos rfl]
      generalize ((s / 2 ^ t % 2 : Nat) : Int) = q at *
      generalize ((s / 2 ^ t : Nat) : Int) = p at *
      generalize (2 : Int) ^ t = pw at *
      generalize il (onesI x 8) = F at *
      simp [lcF, wip, bindT, G.h39, d__law_power, e1, e2, e3, c', bor, isVar]
    · have c' : ¬ ((s / 2 ^ t % 2 : Nat) : Int) = 0 := by omega
      rw [decide_eq_false c, if_neg Bool.false_ne_true]
      generalize ((s / 2 ^ t % 2 : Nat) : Int) = q at *
      generalize ((s / 2 ^ t : Nat) : Int) = p at *
      generalize (2 : Int) ^ t = pw at *
      generalize il (onesI x 8) = F at *
      simp [lcF, wip, bindT, G.h39, d__law_power, e1, e2, e3, c', bor, isVar])
  rw [fm_if] at e
  exact ⟨z2, hz2, e⟩
theorem cm_out (G : G42 Pg) (n m fnd x s : Nat) (hs : s ≤ 2000) (z y5 y6 y7 y8 : Sl) (hz : SlX (il (onesI x 8)) z) (h8 : Pn y8) :
    ∃ z2, SlX (il (onesI x 8)) z2 ∧ lcF (.v 8) (evC (Cz Pg fuel (k + 3)) []) (ev (Cz Pg fuel (k + 3)) cmO42) [8] (.int s) (DC42 n m fnd x z y5 y6 y7 y8) = .ok (some (.int (hasB x s))) (DC42 n m fnd x z2 y5 y6 y7 (.sh (.int s))) := by
  obtain ⟨z2, hz2, e⟩ := cm_in (fuel := fuel) (k := k) G n m fnd x s hs z y5 y6 y7 hz
  refine ⟨z2, hz2, ?_⟩
  have ce := cmp_il_eq (zerI x s) []
  have nl := zer_nil x s
  have h01 := has_01 x s
  have b0 : Z.bindT (.v 8) (.int s) (wip (DC42 n m fnd x z y5 y6 y7 y8) [8]) = some (DC42 n m fnd x z y5 y6 y7 (.sh (.int s))) := rfl
  have l0 : 0 ≤ LINE := Nat.zero_le _
  have ev1 : ev (Cz Pg fuel (k + 3)) cmO42 (DC42 n m fnd x z y5 y6 y7 (.sh (.int s))) = .ok (.sh (.int (hasB x s))) (DC42 n m fnd x z2 y5 y6 y7 (.sh (.int s))) := by
    have ce : cmpD .Eq (il (zerI x s)) (.lst []) = some (decide (zerI x s = [])) := ce
    have bt : biD .int [.bl true] = some (.sh (.int 1)) := rfl
    have bf : biD .int [.bl false] = some (.sh (.int 0)) := rfl
    by_cases c : hasB x s = 1
    · rw [decide_eq_true (nl.mpr c)] at ce
      rw [c]
      generalize il (zerI x s) = F at *
      simp [e, ce, l0, bt, bf, bor, isVar]
    · have c0 : hasB x s = 0 := by omega
      rw [decide_eq_false (fun h => c (nl.mp h))] at ce
      rw [c0]
      generalize il (zerI x s) = F at *
      simp [e, ce, l0, bt, bf, bor, isVar]
  unfold lcF
  rw [b0]
  show ((evC (Cz Pg fuel (k + 3)) [] (DC42 n m fnd x z y5 y6 y7 (.sh (.int s)))).bind fun k_1 r4 => if k_1 = true then (ev (Cz Pg fuel (k + 3)) cmO42 r4).bind fun v r5 => Z.R.ok (some v.d) r5 else Z.R.ok none r4) = _
  rw [show evC (Cz Pg fuel (k + 3)) [] (DC42 n m fnd x z y5 y6 y7 (.sh (.int s))) = .ok true (DC42 n m fnd x z y5 y6 y7 (.sh (.int s))) from by simp only [evC], R.bind_ok, if_pos rfl, ev1, R.bind_ok]
  rfl
/-- one's own or not -/
def PnO (y : Sl) : Prop := y = .no ∨ (∃ d, y = .sh d) ∨ ∃ d, y = .ow d
theorem SlX.pno {d : D} {y : Sl} (h : SlX d y) : PnO y := by
  rcases h with rfl | rfl
  · exact .inr (.inr ⟨_, rfl⟩)
  · exact .inr (.inl ⟨_, rfl⟩)
theorem has_lc (G : G42 Pg) (n m fnd x : Nat) (hn : n ≤ 900) (y5 y6 y7 : Sl) (h5 : PnO y5) :
    ∃ z, SlX (il (onesI x 8)) z ∧ x1 (Cz Pg fuel (k + 3)) (.asg (.v 5) (.lc (.bi .int [.cmp .Eq (.lc (.var 9) (.v 9) (.e (.var 4)) [.val (.cmp .Eq (.bin .Mod (.bi .int [.bin .FloorDiv (.var 8) (.call 39 [.var 9] [] [])]) (.con (.int 2))) (.con (.int 0)))] [9]) (.lst [])]) (.v 8) (.rng1 (.bin .Add (.con (.int 64)) (.var 0))) [] [8])) (DC42 n m fnd x (.ow (il (onesI x 8))) y5 y6 y7 .no) = .nx (DC42 n m fnd x z (.ow (il (hasI x (64 + n)))) y6 y7 .no) := by
  have er := rng1_eq (C := Cz Pg fuel (k + 3)) (b := .bin .Add (.con (.int 64)) (.var 0)) (r := DC42 n m fnd x (.ow (il (onesI x 8))) y5 y6 y7 .no) (r2 := DC42 n m fnd x (.ow (il (onesI x 8))) y5 y6 y7 .no) (y := .inr (.int ((64 + n : Nat) : Int))) (j := ((64 + n : Nat) : Int)) (by
      have ad : (64 : Int) + (n : Int) = ((64 + n : Nat) : Int) := by omega
      generalize il (onesI x 8) = F at *
      generalize ((64 + n : Nat) : Int) = u at *
      simp [ad, bor, isVar]) (by rfl) (by omega)
  rw [rng0_natU, List.map_map] at er
  obtain ⟨r6, ⟨z, y8, hz, h8, rfl⟩, e⟩ := lc_I (C := Cz Pg fuel (k + 3)) (e := cmO42) (t := .v 8) (ts := []) (own := [8]) (fun r => ∃ z y8, SlX (il (onesI x 8)) z ∧ Pn y8 ∧ r = DC42 n m fnd x z y5 y6 y7 y8) (List.range (64 + n)) (D.int ∘ fun (t : Nat) => (t : Int)) (fun s => some (.int (hasB x s))) er rfl rfl (line_le (by rw [List.length_range]; omega)) (fun s hs r hr => by
    obtain ⟨z, y8, hz, h8, rfl⟩ := hr
    have hs := List.mem_range.mp hs
    obtain ⟨z2, hz2, e⟩ := cm_out (fuel := fuel) (k := k) G n m fnd x s (by omega) z y5 y6 y7 y8 hz h8
    exact ⟨_, e, z2, _, hz2, .inr ⟨_, rfl⟩, rfl⟩) ⟨_, .no, .inl rfl, .inl rfl, rfl⟩
  have fm : ((List.range (64 + n)).filterMap fun s => some (D.int (hasB x s : Nat))) = (hasI x (64 + n)).map D.int := by
    unfold hasI
    rw [List.map_map]
    simp
  rw [fm] at e
  have fin : ∃ z2, SlX (il (onesI x 8)) z2 ∧ ev (Cz Pg fuel (k + 3)) (.lc cmO42 (.v 8) (.rng1 (.bin .Add (.con (.int 64)) (.var 0))) [] [8]) (DC42 n m fnd x (.ow (il (onesI x 8))) y5 y6 y7 .no) = .ok (.ow (il (hasI x (64 + n)))) (DC42 n m fnd x z2 y5 y6 y7 .no) := by
    rcases hz with rfl | rfl
    · refine ⟨_, .inl rfl, e.trans ?_⟩
      show thawL (DC42 n m fnd x (.ow (il (onesI x 8))) y5 y6 y7 .no) _ (DC42 n m fnd x (.ow (il (onesI x 8))) y5 y6 y7 .no) = _
      rw [thawL_self]
    · rcases thawL_frz (r := DC42 n m fnd x (.ow (il (onesI x 8))) y5 y6 y7 .no) (i := 4) (d := il (onesI x 8)) rfl ((hasI x (64 + n)).map D.int) with q | q
      · exact ⟨_, .inl rfl, e.trans q⟩
      · exact ⟨_, .inr rfl, e.trans q⟩
  obtain ⟨z2, hz2, e2⟩ := fin
  refine ⟨z2, hz2, ?_⟩
  show x1 _ (.asg (.v 5) (.lc cmO42 (.v 8) (.rng1 (.bin .Add (.con (.int 64)) (.var 0))) [] [8])) _ = _
  rw [q_asgv, e2, R.run_ok]
  generalize il (hasI x (64 + n)) = F at *
  rcases h5 with rfl | ⟨_, rfl⟩ | ⟨_, rfl⟩ <;> rfl
/-- a number -/
theorem num_turn (G : G42 Pg) (n m x : Nat) (hn : n ≤ 900) (fnd : Nat) (y3 y4 y5 y6 y7 : Sl) (h3 : Pn y3) (h4 : PnO y4) (h5 : PnO y5) (h6 : Pn y6) (h7 : Pn y7) :
    ∃ z4 z5 z6 z7, PnO z4 ∧ PnO z5 ∧ Pn z6 ∧ Pn z7 ∧ ((Z.O.of (bindT (.v 3) (.int x) (DU42 n m fnd y3 y4 y5 y6 y7))).then fun r3 => xs (Cz Pg fuel (k + 3)) duB42 r3) = .nx (DU42 n m (stepD n x fnd : Nat) (.sh (.int x)) z4 z5 z6 z7) := by
  have e1 := m_ones468 (fuel := fuel) (k := k + 1) G x
  have st0 : Z.O.of (bindT (.v 3) (.int x) (DU42 n m fnd y3 y4 y5 y6 y7)) = .nx (DU42 n m fnd (.sh (.int x)) y4 y5 y6 y7) := by
    rcases h3 with rfl | ⟨_, rfl⟩ <;> simp [bindT]
  have s1 : x1 (Cz Pg fuel (k + 3)) (.asg (.v 4) (.call 468 [.var 3] [] [])) (DU42 n m fnd (.sh (.int x)) y4 y5 y6 y7) = .nx (DU42 n m fnd (.sh (.int x)) (.ow (il (onesI x 8))) y5 y6 y7) := by
    generalize il (onesI x 8) = F at *
    rcases h4 with rfl | ⟨_, rfl⟩ | ⟨_, rfl⟩ <;> simp [G.h468, d__law_ones, e1, bor, isVar]
  obtain ⟨z4, hz4, s2⟩ := has_lc (fuel := fuel) (k := k) G n m fnd x hn y5 y6 y7 h5
  have s3 : x1 (Cz Pg fuel (k + 3)) (.asg (.v 6) (.bi .sum [.slc (.var 5) (.con .non) (.var 0)])) (DU42 n m fnd (.sh (.int x)) z4 (.ow (il (hasI x (64 + n)))) y6 y7) = .nx (DU42 n m fnd (.sh (.int x)) z4 (.ow (il (hasI x (64 + n)))) (.sh (.int (cntW x n 0))) y7) := by
    have sl := slc_to42 (hasI x (64 + n)) n
    have su : biD .sum [il ((hasI x (64 + n)).take n)] = some (.sh (.int (cntW x n 0))) := by
      rw [← has_sum x n (64 + n) (by omega)]
      exact bi_sum_il
    have hs := hz4.pno
    clear hz4 s1 s2
    generalize il ((hasI x (64 + n)).take n) = F2 at *
    generalize il (hasI x (64 + n)) = F at *
    rcases hs with rfl | ⟨_, rfl⟩ | ⟨_, rfl⟩ <;> rcases h6 with rfl | ⟨_, rfl⟩ <;> simp [por, isNon, sl, su, bor, isVar]
  have er := rng1_eq (C := Cz Pg fuel (k + 3)) (b := .con (.int 32)) (r := DU42 n m fnd (.sh (.int x)) z4 (.ow (il (hasI x (64 + n)))) (.sh (.int (cntW x n 0))) y7) (r2 := DU42 n m fnd (.sh (.int x)) z4 (.ow (il (hasI x (64 + n)))) (.sh (.int (cntW x n 0))) y7) (y := .inr (.int 32)) (j := ((32 : Nat) : Int)) (by simp) (by simp) (by omega)
  obtain ⟨r', s4, y7', h7', rfl⟩ := for_run (t := .v 7) (body := dwB42) (fun j r => ∃ y7', Pn y7' ∧ r = DU42 n m (((List.range j).foldl (fun g b => if 0 < cntW x n b ∧ cntW x n b < g then cntW x n b else g) fnd : Nat)) (.sh (.int x)) z4 (.ow (il (hasI x (64 + n)))) (.sh (.int (cntW x n j))) y7') er (by
    intro j hj r hr
    rw [rng0_len] at hj
    rw [rng0_get]
    obtain ⟨y7', h7', rfl⟩ := hr
    have w := win_turn (C := Cz Pg fuel (k + 3)) n m x hn ((List.range j).foldl (fun g b => if 0 < cntW x n b ∧ cntW x n b < g then cntW x n b else g) fnd) j hj (.sh (.int x)) z4 y7' h7'
    refine ⟨_, w, .sh (.int j), .inr ⟨_, rfl⟩, ?_⟩
    rw [List.range_succ, List.foldl_append]
    rfl) ⟨y7, h7, rfl⟩
  rw [rng0_len] at s4
  refine ⟨z4, .ow (il (hasI x (64 + n))), .sh (.int (cntW x n 32)), y7', hz4.pno, .inr (.inr ⟨_, rfl⟩), .inr ⟨_, rfl⟩, h7', ?_⟩
  have s2 : x1 (Cz Pg fuel (k + 3)) (.asg (.v 5) (.lc (.bi .int [.cmp .Eq (.lc (.var 9) (.v 9) (.e (.var 4)) [.val (.cmp .Eq (.bin .Mod (.bi .int [.bin .FloorDiv (.var 8) (.call 39 [.var 9] [] [])]) (.con (.int 2))) (.con (.int 0)))] [9]) (.lst [])]) (.v 8) (.rng1 (.bin .Add (.con (.int 64)) (.var 0))) [] [8])) (DU42 n m fnd (.sh (.int x)) (.ow (il (onesI x 8))) y5 y6 y7) = .nx (DU42 n m fnd (.sh (.int x)) z4 (.ow (il (hasI x (64 + n)))) y6 y7) := s2
  rw [st0, Z.O.then_nx, q_xs, s1, Z.O.then_nx, q_xs, s2, Z.O.then_nx, q_xs, s3, Z.O.then_nx, q_xs, s4, Z.O.then_nx, q_xs0]
  rfl
theorem m_due469 (G : G42 Pg) (n m : Nat) (hn : n ≤ 900) (hm : m ≤ 900) : callD Pg fuel (k + 4) 469 [.int n, .int m] = .ok (.sh (.int (duN n m))) [] := by
  rw [callD_eq G.h469 ⟨rfl, Nat.le_of_ble_eq_true rfl⟩]
  have s1 : x1 (Cz Pg fuel (k + 3)) (.asg (.v 2) (.var 0)) [.sh (.int n), .sh (.int m), .no, .no, .no, .no, .no, .no, .no, .no] = .nx (DU42 n m (n : Nat) .no .no .no .no .no) := by
    simp
  have er := rng1_eq (C := Cz Pg fuel (k + 3)) (b := .var 1) (r := DU42 n m (n : Nat) .no .no .no .no .no) (r2 := DU42 n m (n : Nat) .no .no .no .no .no) (y := .inl 1) (j := ((m : Nat) : Int)) (by simp [bor, isVar]) (by rfl) (by omega)
  obtain ⟨r', s2, y3, y4, y5, y6, y7, h3, h4, h5, h6, h7, rfl⟩ := for_run (t := .v 3) (body := duB42) (fun j r => ∃ y3 y4 y5 y6 y7, Pn y3 ∧ PnO y4 ∧ PnO y5 ∧ Pn y6 ∧ Pn y7 ∧ r = DU42 n m (duN n j : Nat) y3 y4 y5 y6 y7) er (by
    intro j hj r hr
    rw [rng0_len] at hj
    rw [rng0_get]
    obtain ⟨y3, y4, y5, y6, y7, h3, h4, h5, h6, h7, rfl⟩ := hr
    obtain ⟨z4, z5, z6, z7, k4, k5, k6, k7, e⟩ := num_turn (fuel := fuel) (k := k) G n m j hn (duN n j) y3 y4 y5 y6 y7 h3 h4 h5 h6 h7
    refine ⟨_, e, .sh (.int j), z4, z5, z6, z7, .inr ⟨_, rfl⟩, k4, k5, k6, k7, ?_⟩
    unfold duN
    rw [List.range_succ, List.foldl_append]
    rfl) ⟨.no, .no, .no, .no, .no, .inl rfl, .inl rfl, .inl rfl, .inl rfl, .inl rfl, rfl⟩
  rw [rng0_len] at s2
  have s3 : x1 (Cz Pg fuel (k + 3)) (.ret (.var 2)) (DU42 n m (duN n m : Nat) y3 y4 y5 y6 y7) = .ret (.sh (.int (duN n m))) (DU42 n m (duN n m : Nat) y3 y4 y5 y6 y7) := by
    rcases h3 with rfl | ⟨_, rfl⟩ <;> simp
  show Z.O.cr d__law_due_v4.modes (xs _ s__law_due_v4 [.sh (.int n), .sh (.int m), .no, .no, .no, .no, .no, .no, .no, .no]) = _
  unfold s__law_due_v4
  rw [q_xs, s1, Z.O.then_nx, q_xs, s2, Z.O.then_nx, q_xs, s3]
  rfl
end
end Z
/-! U42K: k42: distances of neighbours, computed (slow: 3 min). -/
namespace Z
def psR (b n : Nat) : List Int := (List.range n).map fun i => ((b + i : Nat) : Int)
def okB (b : Nat) : Bool := (List.range 15).all fun n => (List.range (n + 1)).all fun m => m == 0 || decide (lenC 64 (psR b n) m = some (apN n m))
def okC (b : Nat) : Bool := (List.range 15).all fun n => (brC 64 (psR b n)).all fun x => decide (x < 64)
def chkD (n : Nat) : Nat → Nat → Nat → Bool
  | 0, _, _ => true
  | c + 1, x, f => if stepD n x f = apN n (x + 1) then chkD n c (x + 1) (apN n (x + 1)) else false
theorem okB1 : ((List.range 10).all okB) = true := by decide +kernel
theorem okB2 : ((List.range 10).all fun b => okB (10 + b)) = true := by decide +kernel
theorem okB3 : ((List.range 10).all fun b => okB (20 + b)) = true := by decide +kernel
theorem okCA : ((List.range 30).all okC) = true := by decide +kernel
theorem chkA : ((List.range 15).all fun n => n == 0 || chkD n n 0 n) = true := by decide +kernel
theorem mono15 : ∀ n < 16, ∀ m < 15, 1 ≤ m → m < n → apN n (m + 1) ≤ apN n m := by decide +kernel
theorem grow15 : ∀ n < 15, ∀ m < 15, 1 ≤ m → m ≤ n → apN n m ≤ apN (n + 1) m := by decide +kernel
end Z
/-! U42L: k42: distances of neighbours, from what is computed. -/
namespace Z
theorem okB_all {b : Nat} (h : b < 30) : okB b = true := by
  have a1 := List.all_eq_true.mp okB1
  have a2 := List.all_eq_true.mp okB2
  have a3 := List.all_eq_true.mp okB3
  rcases Nat.lt_or_ge b 10 with q | q
  · exact a1 b (List.mem_range.mpr q)
  rcases Nat.lt_or_ge b 20 with q2 | q2
  · have := a2 (b - 10) (List.mem_range.mpr (by omega))
    rwa [show 10 + (b - 10) = b by omega] at this
  · have := a3 (b - 20) (List.mem_range.mpr (by omega))
    rwa [show 20 + (b - 20) = b by omega] at this
theorem len_ok {b n m : Nat} (hb : b < 30) (hn : n < 15) (h1 : 1 ≤ m) (h2 : m ≤ n) : disD (lostP 64 0 (psR b n) m) = .int (apN n m) := by
  have a := List.all_eq_true.mp (okB_all hb) n (List.mem_range.mpr hn)
  have c := List.all_eq_true.mp a m (List.mem_range.mpr (by omega))
  rw [Bool.or_eq_true] at c
  rcases c with c | c
  · have : m = 0 := by simpa using c
    omega
  · exact dis_is (of_decide_eq_true c)
theorem it_ok {b n c : Nat} (hb : b < 30) (hn : n < 15) : itN 64 (psR b n) c = min c n := by
  have a := List.all_eq_true.mp okCA b (List.mem_range.mpr hb)
  have a := List.all_eq_true.mp a n (List.mem_range.mpr hn)
  have a := List.all_eq_true.mp a
  unfold itN cnt_w
  rw [Int.toNat_natCast, ← brC_eq, List.filter_eq_self.mpr, List.length_take, brC_eq, br_len]
  · simp [psR]
  · intro x hx
    exact a x (List.mem_of_mem_take hx)
theorem chk_du (n : Nat) : ∀ (c x f : Nat), chkD n c x f = true → f = duN n x → ∀ m, x < m → m ≤ x + c → duN n m = apN n m
  | 0, x, f, _, _, m, h1, h2 => by omega
  | c + 1, x, f, h, hf, m, h1, h2 => by
    unfold chkD at h
    by_cases q : stepD n x f = apN n (x + 1)
    · rw [if_pos q] at h
      have e : apN n (x + 1) = duN n (x + 1) := by
        rw [← q, hf]
        unfold duN
        rw [List.range_succ, List.foldl_append]
        rfl
      rcases Nat.lt_or_ge (x + 1) m with g | g
      · exact chk_du n c (x + 1) _ h e m g (by omega)
      · have : m = x + 1 := by omega
        subst this
        exact e.symm
    · rw [if_neg q] at h
      cases h
theorem du_ok {n m : Nat} (hn : n < 15) (h1 : 1 ≤ m) (h2 : m ≤ n) : duN n m = apN n m := by
  have a := List.all_eq_true.mp chkA n (List.mem_range.mpr hn)
  rw [Bool.or_eq_true] at a
  rcases a with a | a
  · have : n = 0 := by simpa using a
    omega
  · exact chk_du n n 0 n a rfl m (by omega) (by omega)
theorem ps_plw {b n : Nat} (hb : b < 30) (h1 : 1 ≤ n) (hn : n < 15) : PlW 64 (psR b n) := by
  refine ⟨fun h => ?_, ?_, fun x hx => ?_⟩
  · have : (psR b n).length = n := by simp [psR]
    rw [h] at this
    simp at this
    omega
  · unfold psR
    rw [List.pairwise_map]
    exact List.pairwise_lt_range.imp fun h => by omega
  · unfold psR at hx
    obtain ⟨i, hi, rfl⟩ := List.mem_map.mp hx
    have := List.mem_range.mp hi
    have : (64 : Int) ≤ 2 ^ 64 := by decide
    omega
end Z
/-! U42F: k42: small codes. -/
namespace Z
open PySem (Str Operator CmpOp)
theorem apF_le : ∀ (f n m : Nat), apF f n m ≤ n
  | 0, n, m => Nat.le_refl _
  | f + 1, n, m => by
    have a := apF_le f (n / 2) (m / 2)
    unfold apF
    split
    · omega
    · split
      · have := Nat.min_le_left (apF f (n / 2) (m / 2)) (apF f (n - n / 2) (m / 2 + 1) + apF f (n / 2) (m / 2 + 1))
        omega
      · omega
theorem apN_le (n m : Nat) : apN n m ≤ n := apF_le 100 n m
theorem rep_nat (n : Nat) (h : n < 10 ^ 100) : ∃ z, biD .repr [.int n] = some (.sh (.str z)) ∧ cmpD .Eq (.str z) (.str z) = some true := by
  have b : ((n : Nat) : Int).natAbs < 10 ^ 100 := by rw [Int.natAbs_natCast]; exact h
  exact ⟨_, bi_repr_int b, (str_same (cps_shown 100 (.int (n : Nat)) (by simp only [pln]; simpa using b))).2⟩
theorem rep_nd (n m : Nat) (h : n < 10 ^ 100) : ∃ z, biD .repr [ndD n m] = some (.sh (.str z)) ∧ cmpD .Eq (.str z) (.str z) = some true := by
  unfold ndD
  split
  · exact ⟨_, rfl, (str_same (cps_shown 100 .non rfl)).2⟩
  · exact rep_nat _ (Nat.lt_of_le_of_lt (apN_le n m) h)
section
variable {Pg : Nat → Option Df} {fuel k f : Nat} {C : Cf}
abbrev RT42 (g : D) (b n : Nat) (last : Int) (y5 y6 y7 : Sl) : En := [.io g, .sh (.int n), .sh (.int b), .sh (.int last), .ow (il (psR b n)), y5, y6, y7]
abbrev rtA : List S := [.asg (.v 6) (.call 329 [.var 1, .var 5] [] []), .ite (.not (.val (.call 265 [.lst [.var 6, .call 323 [.var 4, .var 5] [] []], .lst [.call 469 [.var 1, .var 5] [] [], .var 6]] [] []))) [.ret (.con (.bl false))] []]
abbrev rtB : List S := [.asg (.v 6) (.call 329 [.var 5, .var 1] [1, 0] []), .ite (.or (.val (.cmp .Gt (.var 6) (.var 3))) (.val (.cmp .Lt (.call 329 [.bin .Add (.var 1) (.con (.int 1)), .var 5] [] []) (.var 6)))) [.ret (.con (.bl false))] [], .asg (.v 3) (.var 6)]
theorem rt_turn (G : G42 Pg) (g : D) (b n v : Nat) (hb : b < 30) (hn : 1 ≤ n ∧ n < 15) (hv : 1 ≤ v ∧ v ≤ n) (last : Int) (y5 y6 y7 : Sl) (h5 : Pn y5) (h6 : Pn y6) :
    ((Z.O.of (bindT (.v 5) (.int v) (RT42 g b n last y5 y6 y7))).then fun r3 => xs (Cz Pg fuel (k + 103)) rtA r3) = .nx (RT42 g b n last (.sh (.int v)) (.sh (.int (apN n v))) y7) := by
  have e1 := m_nd (fuel := fuel) (k := k + 1) G n v hn.1 hv.2 (Nat.le_trans (show v ≤ 2 ^ 4 by omega) (Nat.pow_le_pow_right (by omega) (by omega)))
  rw [show ndD n v = .int (apN n v) from if_neg (by omega)] at e1
  have lp : (psR b n).length = n := by simp [psR]
  have pw := ps_plw hb hn.1 hn.2
  have e2 := m_least_lost (fuel := fuel) (k := k + 32) G.lo 64 (Nat.le_refl _) (psR b n) (by omega) pw v (by omega)
  rw [len_ok hb hn.2 hv.1 hv.2] at e2
  have e3 := m_due469 (fuel := fuel) (k := k + 99) G n v (by omega) (by omega)
  rw [du_ok hn.2 hv.1 hv.2] at e3
  have al := apN_le n v
  obtain ⟨z, r1, _, r2⟩ := repr_il (l := [(apN n v : Int), (apN n v : Int)]) (by simp) (fun x hx => by
    have : x = (apN n v : Int) := by simpa using hx
    rw [this, Int.natAbs_natCast]
    exact Nat.lt_of_le_of_lt (show apN n v ≤ 15 by omega) (Nat.lt_of_lt_of_le (show 15 < 10 ^ 2 by decide) (Nat.pow_le_pow_right (by decide) (by decide))))
  have e4 := m_same (fuel := fuel) (k := k + 102) G.h265 _ z r1 r2
  have e4 : callD Pg fuel (k + 103) 265 [.lst [.int (apN n v : Nat), .int (apN n v : Nat)], .lst [.int (apN n v : Nat), .int (apN n v : Nat)]] = .ok (.sh (.bl true)) [] := e4
  have l2 : 2 ≤ LINE := line_le (by omega)
  unfold RT42
  generalize il (psR b n) = Z0 at *
  generalize ((apN n v : Nat) : Int) = a at *
  generalize (v : Int) = vv at *
  generalize (n : Int) = nn at *
  rcases h5 with rfl | ⟨_, rfl⟩ <;> rcases h6 with rfl | ⟨_, rfl⟩ <;> simp [bindT, G.h329, d_neighbour_distance, e1, G.h323, d_least_lost, e2, G.h469, d__law_due_v4, e3, G.h265, d__law_same, e4, l2, bor, isVar]
theorem rt2_turn (G : G42 Pg) (g : D) (b n v : Nat) (hb : b < 30) (hn : 1 ≤ n ∧ n < 15) (hv : 1 ≤ v ∧ v ≤ n) (last : Nat) (hl : apN n v ≤ last) (y5 y6 y7 : Sl) (h5 : Pn y5) (h6 : Pn y6) :
    ((Z.O.of (bindT (.v 5) (.int v) (RT42 g b n last y5 y6 y7))).then fun r3 => xs (Cz Pg fuel (k + 103)) rtB r3) = .nx (RT42 g b n (apN n v : Nat) (.sh (.int v)) (.sh (.int (apN n v))) y7) := by
  have v100 : v ≤ 2 ^ 100 := Nat.le_trans (show v ≤ 2 ^ 4 by omega) (Nat.pow_le_pow_right (by omega) (by omega))
  have e1 := m_nd (fuel := fuel) (k := k + 1) G n v hn.1 hv.2 v100
  have e2 := m_nd (fuel := fuel) (k := k + 1) G (n + 1) v (by omega) (by omega) v100
  rw [show ndD n v = .int (apN n v) from if_neg (by omega)] at e1
  rw [show ndD (n + 1) v = .int (apN (n + 1) v) from if_neg (by omega)] at e2
  have gr := grow15 n hn.2 v (by omega) hv.1 hv.2
  have c1 : ¬ (last : Int) < (apN n v : Int) := by omega
  have c2 : ¬ (apN (n + 1) v : Int) < (apN n v : Int) := by omega
  have ad : (n : Int) + 1 = ((n + 1 : Nat) : Int) := by omega
  unfold RT42
  generalize il (psR b n) = Z0 at *
  generalize ((apN n v : Nat) : Int) = a at *
  generalize ((apN (n + 1) v : Nat) : Int) = a' at *
  generalize ((n + 1 : Nat) : Int) = n1 at *
  generalize (last : Int) = ll at *
  generalize (v : Int) = vv at *
  generalize (n : Int) = nn at *
  rcases h5 with rfl | ⟨_, rfl⟩ <;> rcases h6 with rfl | ⟨_, rfl⟩ <;> simp [bindT, G.h329, d_neighbour_distance, e1, ad, e2, c1, c2, bor, isVar]
theorem m_right23 (G : G42 Pg) (hf : 1000 ≤ fuel) (m : Nat) (hm : m ≤ 600000) (g : D) (hg : Gd m g) : ∃ g', shal g' = true ∧ callD Pg fuel (k + 104) 470 [g] = .ok (.sh (.bl true)) [g'] := by
  rw [callD_eq G.h470 ⟨rfl, Nat.le_of_ble_eq_true rfl⟩]
  obtain ⟨v1, g1, hv1, hg1, e1⟩ := m_random (fuel := fuel) (k := k + 101) G.h32 G.h33 m (by omega) g hg 14 (by decide)
  obtain ⟨n, en⟩ : ∃ n : Nat, 1 + v1 = (n : Int) := ⟨(1 + v1).toNat, by omega⟩
  obtain ⟨v2, g2, hv2, hg2, e2⟩ := m_random (fuel := fuel) (k := k + 101) G.h32 G.h33 (m + 3) (by omega) g1 hg1 30 (by decide)
  obtain ⟨b, rfl⟩ : ∃ n : Nat, v2 = (n : Int) := ⟨v2.toNat, by omega⟩
  have hb : b < 30 := by omega
  have hn : 1 ≤ n ∧ n < 15 := by omega
  obtain ⟨v3, g3, hv3, hg3, e3⟩ := m_random (fuel := fuel) (k := k + 101) G.h32 G.h33 (m + 6) (by omega) g2 hg2 n (by omega)
  obtain ⟨v4, g4, hv4, hg4, e4⟩ := m_random (fuel := fuel) (k := k + 101) G.h32 G.h33 (m + 9) (by omega) g3 hg3 n (by omega)
  obtain ⟨a3, ea3⟩ : ∃ n : Nat, 1 + v3 = (n : Int) := ⟨(1 + v3).toNat, by omega⟩
  obtain ⟨a4, ea4⟩ : ∃ n : Nat, 1 + v4 = (n : Int) := ⟨(1 + v4).toNat, by omega⟩
  obtain ⟨v5, g5, hv5, hg5, e5⟩ := m_random (fuel := fuel) (k := k + 101) G.h32 G.h33 (m + 12) (by omega) g4 hg4 ((n : Int) + 4) (by omega)
  obtain ⟨c, rfl⟩ : ∃ n : Nat, v5 = (n : Int) := ⟨v5.toNat, by omega⟩
  have lp : (psR b n).length = n := by simp [psR]
  have pw := ps_plw hb hn.1 hn.2
  have lr : biD .lrange [.int b, .int ((b + n : Nat) : Int)] = some (.ow (il (psR b n))) := by
    have e := rng_natU b n
    show (if rgOk (b : Int) ((b + n : Nat) : Int) = true then some (Val.ow (.lst ((rangeI (b : Int) ((b + n : Nat) : Int) 1).map D.int))) else none) = _
    rw [if_pos (by unfold rgOk; rw [decide_eq_true_eq]; omega), e]
    rfl
  have l4 : 4 ≤ LINE := line_le (by omega)
  have s1 : x1 (Cz Pg fuel (k + 103)) (.asg (.v 1) (.bin .Add (.con (.int 1)) (.call 33 [.var 0, .con (.int 14)] [] []))) [.io g, .no, .no, .no, .no, .no, .no, .no] = .nx [.io g1, .sh (.int n), .no, .no, .no, .no, .no, .no] := by
    simp [G.h33, d__law_random_v1, e1, hg1.shal, en, bor, isVar]
  have s2 : x1 (Cz Pg fuel (k + 103)) (.par [2, 3] [.call 33 [.var 0, .con (.int 30)] [] [], .var 1]) [.io g1, .sh (.int n), .no, .no, .no, .no, .no, .no] = .nx [.io g2, .sh (.int n), .sh (.int b), .sh (.int n), .no, .no, .no, .no] := by
    simp [G.h33, d__law_random_v1, e2, hg2.shal, puts, En.put, bor, isVar]
  have s3 : x1 (Cz Pg fuel (k + 103)) (.asg (.v 4) (.bi .lrange [.var 2, .bin .Add (.var 2) (.var 1)])) [.io g2, .sh (.int n), .sh (.int b), .sh (.int n), .no, .no, .no, .no] = .nx (RT42 g2 b n n .no .no .no) := by
    have ad : (b : Int) + (n : Int) = ((b + n : Nat) : Int) := by omega
    unfold RT42
    generalize il (psR b n) = Z0 at *
    generalize ((b + n : Nat) : Int) = bn at *
    simp [ad, lr, bor, isVar]
  have ei : evI (Cz Pg fuel (k + 103)) (.e (.lst [.con (.int 1), .var 1, .bin .Add (.con (.int 1)) (.call 33 [.var 0, .var 1] [] []), .bin .Add (.con (.int 1)) (.call 33 [.var 0, .var 1] [] [])])) (RT42 g2 b n n .no .no .no) = .ok [.int ((1 : Nat) : Int), .int n, .int a3, .int a4] (RT42 g4 b n n .no .no .no) := by
    unfold RT42
    generalize il (psR b n) = Z0 at *
    simp [G.h33, d__law_random_v1, e3, hg3.shal, ea3, e4, hg4.shal, ea4, l4, itemsD, bor, isVar]
  have u1 := rt_turn (fuel := fuel) (k := k) G g4 b n 1 hb hn (by omega) n .no .no .no (.inl rfl) (.inl rfl)
  have u2 := rt_turn (fuel := fuel) (k := k) G g4 b n n hb hn (by omega) n (.sh (.int (1 : Nat))) (.sh (.int (apN n 1))) .no (.inr ⟨_, rfl⟩) (.inr ⟨_, rfl⟩)
  have u3 := rt_turn (fuel := fuel) (k := k) G g4 b n a3 hb hn (by omega) n (.sh (.int n)) (.sh (.int (apN n n))) .no (.inr ⟨_, rfl⟩) (.inr ⟨_, rfl⟩)
  have u4 := rt_turn (fuel := fuel) (k := k) G g4 b n a4 hb hn (by omega) n (.sh (.int a3)) (.sh (.int (apN n a3))) .no (.inr ⟨_, rfl⟩) (.inr ⟨_, rfl⟩)
  have s4 : x1 (Cz Pg fuel (k + 103)) (.for_ (.v 5) (.e (.lst [.con (.int 1), .var 1, .bin .Add (.con (.int 1)) (.call 33 [.var 0, .var 1] [] []), .bin .Add (.con (.int 1)) (.call 33 [.var 0, .var 1] [] [])])) [.asg (.v 6) (.call 329 [.var 1, .var 5] [] []), .ite (.not (.val (.call 265 [.lst [.var 6, .call 323 [.var 4, .var 5] [] []], .lst [.call 469 [.var 1, .var 5] [] [], .var 6]] [] []))) [.ret (.con (.bl false))] []]) (RT42 g2 b n n .no .no .no) = .nx (RT42 g4 b n n (.sh (.int a4)) (.sh (.int (apN n a4))) .no) := by
    rw [q_for, ei, R.run_ok]
    simp only [forL]
    rw [u1]
    simp only [O.turn]
    rw [u2]
    simp only [O.turn]
    rw [u3]
    simp only [O.turn]
    rw [u4]
  have er : evI (Cz Pg fuel (k + 103)) (.rng2 (.con (.int 1)) (.bin .Add (.var 1) (.con (.int 1)))) (RT42 g4 b n n (.sh (.int a4)) (.sh (.int (apN n a4))) .no) = .ok ((List.range n).map fun (t : Nat) => D.int ((1 + t : Nat) : Int)) (RT42 g4 b n n (.sh (.int a4)) (.sh (.int (apN n a4))) .no) := by
    rw [rng2_eq (C := Cz Pg fuel (k + 103)) (a := .con (.int 1)) (b := .bin .Add (.var 1) (.con (.int 1))) (r := RT42 g4 b n n (.sh (.int a4)) (.sh (.int (apN n a4))) .no) (r1 := RT42 g4 b n n (.sh (.int a4)) (.sh (.int (apN n a4))) .no) (r2 := RT42 g4 b n n (.sh (.int a4)) (.sh (.int (apN n a4))) .no) (x := .inr (.int ((1 : Nat) : Int))) (y := .inr (.int ((1 + n : Nat) : Int))) (i := ((1 : Nat) : Int)) (j := ((1 + n : Nat) : Int)) (by simp [bor, isVar]) (by
      have ad : (n : Int) + 1 = ((1 + n : Nat) : Int) := by omega
      unfold RT42
      generalize il (psR b n) = Z0 at *
      generalize ((1 + n : Nat) : Int) = n1 at *
      simp [ad, bor, isVar]) (by rfl) (by omega) (by omega), rng_natU, List.map_map]
    rfl
  have mo : ∀ j, j < n → apN n (1 + j) ≤ apN n (max 1 j) := by
    intro j hj
    rcases Nat.eq_zero_or_pos j with rfl | p
    · exact Nat.le_refl _
    · rw [show max 1 j = j by omega, Nat.add_comm]
      exact mono15 n (by omega) j (by omega) p hj
  have tn : ∀ j, j < n → ∀ r, (∃ y5 y6, Pn y5 ∧ Pn y6 ∧ r = RT42 g4 b n (apN n (max 1 j) : Nat) y5 y6 .no) → ∃ r', ((Z.O.of (bindT (.v 5) (.int ((1 + j : Nat) : Int)) r)).then fun r3 => xs (Cz Pg fuel (k + 103)) rtB r3) = .nx r' ∧ ∃ y5 y6, Pn y5 ∧ Pn y6 ∧ r' = RT42 g4 b n (apN n (max 1 (j + 1)) : Nat) y5 y6 .no := by
    intro j hj r hr
    obtain ⟨y5, y6, h5, h6, rfl⟩ := hr
    have e := rt2_turn (fuel := fuel) (k := k) G g4 b n (1 + j) hb hn (by omega) (apN n (max 1 j)) (mo j hj) y5 y6 .no h5 h6
    refine ⟨_, e, .sh (.int ((1 + j : Nat) : Int)), .sh (.int (apN n (1 + j))), .inr ⟨_, rfl⟩, .inr ⟨_, rfl⟩, ?_⟩
    rw [show max 1 (j + 1) = 1 + j by omega]
  obtain ⟨r', s5, y5, y6, h5, h6, rfl⟩ := for_natA (C := Cz Pg fuel (k + 103)) (i := 5) (body := rtB) 1 n (fun j r => ∃ y5 y6, Pn y5 ∧ Pn y6 ∧ r = RT42 g4 b n (apN n (max 1 j) : Nat) y5 y6 .no) er tn ⟨.sh (.int a4), .sh (.int (apN n a4)), .inr ⟨_, rfl⟩, .inr ⟨_, rfl⟩, by rw [show max 1 0 = 1 from rfl, apN_one]⟩
  have s6 : x1 (Cz Pg fuel (k + 103)) (.asg (.v 7) (.call 33 [.var 0, .bin .Add (.var 1) (.con (.int 4))] [] [])) (RT42 g4 b n (apN n (max 1 n) : Nat) y5 y6 .no) = .nx (RT42 g5 b n (apN n (max 1 n) : Nat) y5 y6 (.sh (.int c))) := by
    unfold RT42
    generalize il (psR b n) = Z0 at *
    generalize ((apN n (max 1 n) : Nat) : Int) = ll at *
    simp [G.h33, d__law_random_v1, e5, hg5.shal, bor, isVar]
  have d1 := m_distance (fuel := fuel) (k := k + 32) G.toGDi 64 (by decide) hf (psR b n) (by omega) pw (c : Int) (by omega)
  rw [it_ok hb hn.2] at d1
  have dd : disD (lostP 64 0 (psR b n) (min c n)) = ndD n (min c n) := by
    unfold ndD
    by_cases q : min c n = 0
    · rw [if_pos q, q, (lost_none 64 0 _ 0).mpr rfl]
      rfl
    · rw [if_neg q]
      exact len_ok hb hn.2 (by omega) (by omega)
  rw [dd] at d1
  have d2 := m_nd (fuel := fuel) (k := k + 1) G n (min c n) hn.1 (by omega) (Nat.le_trans (show min c n ≤ 2 ^ 4 by omega) (Nat.pow_le_pow_right (by omega) (by omega)))
  obtain ⟨z, r1, r2⟩ := rep_nd n (min c n) (Nat.lt_of_le_of_lt (show n ≤ 15 by omega) (Nat.lt_of_lt_of_le (show 15 < 10 ^ 2 by decide) (Nat.pow_le_pow_right (by decide) (by decide))))
  have e9 := m_same (fuel := fuel) (k := k + 102) G.h265 _ z r1 r2
  have mn : (if (n : Int) < (c : Int) then (n : Int) else (c : Int)) = ((min c n : Nat) : Int) := by split <;> omega
  have fn : flat (ndD n (min c n)) = true := by unfold ndD; split <;> rfl
  refine ⟨g5, hg5.shal, ?_⟩
  have s7 : x1 (Cz Pg fuel (k + 103)) (.ret (.call 265 [.call 31 [.con (.int 64), .var 4, .var 7] [] [], .call 329 [.var 1, .bi .min [.var 7, .var 1]] [] []] [] [])) (RT42 g5 b n (apN n (max 1 n) : Nat) y5 y6 (.sh (.int c))) = .ret (.sh (.bl true)) (RT42 g5 b n (apN n (max 1 n) : Nat) y5 y6 (.sh (.int c))) := by
    have mn2 : biD .min [.int c, .int n] = some (.sh (.int ((min c n : Nat) : Int))) := by rw [bi_min_ii, mn]
    have d1 : callD Pg fuel (k + 103) 31 [.int 64, il (psR b n), .int c] = .ok (.sh (ndD n (min c n))) [] := d1
    unfold RT42
    generalize il (psR b n) = Z0 at *
    generalize ndD n (min c n) = ND at *
    generalize ((min c n : Nat) : Int) = mc at *
    generalize ((apN n (max 1 n) : Nat) : Int) = ll at *
    simp [-bi_min_ii, G.h31, d_distance, d1, G.h329, d_neighbour_distance, mn2, d2, G.h265, d__law_same, e9, fn, bor, isVar]
  show Z.O.cr d__law_right_v23.modes (xs _ s__law_right_v23 [.io g, .no, .no, .no, .no, .no, .no, .no]) = _
  unfold s__law_right_v23
  rw [q_xs, s1, Z.O.then_nx, q_xs, s2, Z.O.then_nx, q_xs, s3, Z.O.then_nx, q_xs, s4, Z.O.then_nx, q_xs, s5, Z.O.then_nx, q_xs, s6, Z.O.then_nx, q_xs, s7]
  rfl
end
end Z
/-! U42G: k42: great codes, the law. -/
namespace Z
open PySem (Str Operator CmpOp)
theorem p10_100 : 2 * 10 ^ 29 + 10 ≤ 2 ^ 100 := by decide +kernel
theorem p10_rep : 2 ^ 100 < 10 ^ 100 := by decide +kernel
def pwL (x : Nat) : List Int := ((List.range 8).filter fun b => decide (2 ^ b ≤ x)).map fun (b : Nat) => (b : Int)
/-- the greatest bit -/
def topB (x : Nat) : Nat := Nat.log2 x
theorem top_all : ∀ x < 128, 1 ≤ x → maxI (pwL x) = some (topB x : Nat) ∧ 2 ^ topB x ≤ x ∧ x < 2 ^ (topB x + 1) ∧ topB x ≤ 6 := by decide +kernel
theorem bi_maxI {l : List Int} {m : Int} (h : maxI l = some m) : biD .max [il l] = some (.sh (.int m)) := by
  show maxF [.lst _] = _
  simp only [maxF, ints_map, Option.bind_some, h, Option.map_some]
def ndx : List D := [.int 2, .int 2, .int 3, .int 1, .non, .int (10 ^ 29), .int (5 * 10 ^ 28)]
theorem rp_ndx : ∃ z, biD .repr [.lst ndx] = some (.sh (.str z)) ∧ cmpD .Eq (.str z) (.str z) = some true := by
  have p : pln 100 (.lst ndx) = true := by decide +kernel
  exact ⟨_, bi_repr_of 100 (by decide) (by decide) p (by decide) (by decide +kernel), (str_same (cps_shown 100 _ p)).2⟩
theorem ndx1 : ndD 8 4 = .int 2 ∧ ndD 12 6 = .int 2 ∧ ndD 7 3 = .int 3 ∧ ndD 5 5 = .int 1 ∧ ndD 5 0 = .non ∧ ndD (10 ^ 29) 1 = .int (10 ^ 29) ∧ ndD (10 ^ 29) 2 = .int (5 * 10 ^ 28) := by
  refine ⟨?_, ?_, ?_, ?_, ?_, ?_, ?_⟩ <;> unfold ndD
  · rw [if_neg (by decide), show apN 8 4 = 2 by decide +kernel]; rfl
  · rw [if_neg (by decide), show apN 12 6 = 2 by decide +kernel]; rfl
  · rw [if_neg (by decide), show apN 7 3 = 3 by decide +kernel]; rfl
  · rw [if_neg (by decide), show apN 5 5 = 1 by decide +kernel]; rfl
  · rfl
  · rw [if_neg (by decide), show apN (10 ^ 29) 1 = 10 ^ 29 by decide +kernel, show (((10 ^ 29 : Nat) : Nat) : Int) = 10 ^ 29 by decide +kernel]
  · rw [if_neg (by decide), show apN (10 ^ 29) 2 = 5 * 10 ^ 28 by decide +kernel, show (((5 * 10 ^ 28 : Nat) : Nat) : Int) = 5 * 10 ^ 28 by decide +kernel]
section
variable {Pg : Nat → Option Df} {fuel k f : Nat} {C : Cf}
theorem m_halves471 (G : G42 Pg) (n m : Nat) (h2 : 2 ≤ m) (h3 : m ≤ n) (hn : n ≤ 2 ^ 100) : callD Pg fuel (k + 103) 471 [.int n, .int m] = .ok (.sh (.bl true)) [] := by
  rw [callD_eq G.h471 ⟨rfl, Nat.le_of_ble_eq_true rfl⟩]
  have m100 : m ≤ 2 ^ 100 := Nat.le_trans h3 hn
  have nr : n < 10 ^ 100 := Nat.lt_of_le_of_lt hn p10_rep
  have st := apN_step (n := n) (m := m) h2 m100
  have e1 := m_nd (fuel := fuel) (k := k) G (n / 2) (m / 2) (by omega) (by omega) (by omega)
  rw [show ndD (n / 2) (m / 2) = .int (apN (n / 2) (m / 2)) from if_neg (by omega)] at e1
  have e0 := m_nd (fuel := fuel) (k := k) G n m (by omega) h3 m100
  rw [show ndD n m = .int (apN n m) from if_neg (by omega)] at e0
  have hn2 := half_bin n
  have hm2 := half_bin m
  have hmo := mod_bin m
  obtain ⟨z, r1, r2⟩ := rep_nat (apN n m) (Nat.lt_of_le_of_lt (apN_le n m) nr)
  have e4 := m_same (fuel := fuel) (k := k + 101) G.h265 _ z r1 r2
  have s1 : x1 (Cz Pg fuel (k + 102)) (.par [2, 3] [.bin .FloorDiv (.var 0) (.con (.int 2)), .bin .FloorDiv (.var 1) (.con (.int 2))]) [.sh (.int n), .sh (.int m), .no, .no, .no] = .nx [.sh (.int n), .sh (.int m), .sh (.int (n / 2 : Nat)), .sh (.int (m / 2 : Nat)), .no] := by
    generalize ((n / 2 : Nat) : Int) = a2 at *
    generalize ((m / 2 : Nat) : Int) = b2 at *
    generalize (n : Int) = nn at *
    generalize (m : Int) = mm at *
    simp [hn2, hm2, puts, En.put, bor, isVar]
  have s2 : x1 (Cz Pg fuel (k + 102)) (.asg (.v 4) (.call 329 [.var 2, .var 3] [] [])) [.sh (.int n), .sh (.int m), .sh (.int (n / 2 : Nat)), .sh (.int (m / 2 : Nat)), .no] = .nx [.sh (.int n), .sh (.int m), .sh (.int (n / 2 : Nat)), .sh (.int (m / 2 : Nat)), .sh (.int (apN (n / 2) (m / 2) : Nat))] := by
    generalize ((apN (n / 2) (m / 2) : Nat) : Int) = v1 at *
    generalize ((n / 2 : Nat) : Int) = a2 at *
    generalize ((m / 2 : Nat) : Int) = b2 at *
    simp [G.h329, d_neighbour_distance, e1, bor, isVar]
  have s3 : x1 (Cz Pg fuel (k + 102)) (.ite (.and (.val (.cmp .Eq (.bin .Mod (.bi .int [.var 1]) (.con (.int 2))) (.con (.int 1)))) (.val (.cmp .LtE (.bin .Add (.var 3) (.con (.int 1))) (.var 2)))) [.asg (.v 4) (.bi .min [.var 4, .bin .Add (.call 329 [.bin .Sub (.var 0) (.var 2), .bin .Add (.var 3) (.con (.int 1))] [] []) (.call 329 [.var 2, .bin .Add (.var 3) (.con (.int 1))] [] [])])] []) [.sh (.int n), .sh (.int m), .sh (.int (n / 2 : Nat)), .sh (.int (m / 2 : Nat)), .sh (.int (apN (n / 2) (m / 2) : Nat))] = .nx [.sh (.int n), .sh (.int m), .sh (.int (n / 2 : Nat)), .sh (.int (m / 2 : Nat)), .sh (.int (apN n m : Nat))] := by
    by_cases q : m % 2 = 1 ∧ m / 2 + 1 ≤ n / 2
    · rw [if_pos q] at st
      have e2 := m_nd (fuel := fuel) (k := k) G (n - n / 2) (m / 2 + 1) (by omega) (by omega) (by omega)
      rw [show ndD (n - n / 2) (m / 2 + 1) = .int (apN (n - n / 2) (m / 2 + 1)) from if_neg (by omega)] at e2
      have e3 := m_nd (fuel := fuel) (k := k) G (n / 2) (m / 2 + 1) (by omega) (by omega) (by omega)
      rw [show ndD (n / 2) (m / 2 + 1) = .int (apN (n / 2) (m / 2 + 1)) from if_neg (by omega)] at e3
      have mn := min_nat (apN (n / 2) (m / 2)) (apN (n - n / 2) (m / 2 + 1) + apN (n / 2) (m / 2 + 1))
      rw [← st] at mn
      have q1 : ((m % 2 : Nat) : Int) = 1 := by omega
      have q2 : ((m / 2 + 1 : Nat) : Int) ≤ ((n / 2 : Nat) : Int) := by omega
      have d1 : ((m / 2 : Nat) : Int) + 1 = ((m / 2 + 1 : Nat) : Int) := by omega
      have d2 : (n : Int) - ((n / 2 : Nat) : Int) = ((n - n / 2 : Nat) : Int) := by omega
      have d3 : ((apN (n - n / 2) (m / 2 + 1) : Nat) : Int) + ((apN (n / 2) (m / 2 + 1) : Nat) : Int) = ((apN (n - n / 2) (m / 2 + 1) + apN (n / 2) (m / 2 + 1) : Nat) : Int) := by omega
      clear e0 e1 e4 r1 st
      generalize ((m % 2 : Nat) : Int) = bm at *
      generalize ((n - n / 2 : Nat) : Int) = ac at *
      generalize ((n / 2 : Nat) : Int) = a2 at *
      generalize ((m / 2 + 1 : Nat) : Int) = bc at *
      generalize ((m / 2 : Nat) : Int) = b2 at *
      generalize ((apN (n - n / 2) (m / 2 + 1) + apN (n / 2) (m / 2 + 1) : Nat) : Int) = s3 at *
      generalize ((apN (n - n / 2) (m / 2 + 1) : Nat) : Int) = v2 at *
      generalize ((apN (n / 2) (m / 2 + 1) : Nat) : Int) = v3 at *
      generalize ((apN (n / 2) (m / 2) : Nat) : Int) = v1 at *
      generalize ((apN n m : Nat) : Int) = v at *
      generalize (n : Int) = nn at *
      generalize (m : Int) = mm at *
      simp [G.h329, d_neighbour_distance, hmo, q1, d1, q2, d2, e2, e3, d3, mn, bor, isVar]
    · rw [if_neg q] at st
      rw [st]
      have d1 : ((m / 2 : Nat) : Int) + 1 = ((m / 2 + 1 : Nat) : Int) := by omega
      by_cases q1 : m % 2 = 1
      · have q1' : ((m % 2 : Nat) : Int) = 1 := by omega
        have q2 : ¬ ((m / 2 + 1 : Nat) : Int) ≤ ((n / 2 : Nat) : Int) := by omega
        clear e0 e1 e4 r1 st
        generalize ((m % 2 : Nat) : Int) = bm at *
        generalize ((n / 2 : Nat) : Int) = a2 at *
        generalize ((m / 2 + 1 : Nat) : Int) = bc at *
        generalize ((m / 2 : Nat) : Int) = b2 at *
        generalize ((apN (n / 2) (m / 2) : Nat) : Int) = v1 at *
        generalize (n : Int) = nn at *
        generalize (m : Int) = mm at *
        simp [hmo, q1', d1, q2, bor, isVar]
      · have q1' : ¬ ((m % 2 : Nat) : Int) = 1 := by omega
        clear e0 e1 e4 r1 st
        generalize ((m % 2 : Nat) : Int) = bm at *
        generalize ((n / 2 : Nat) : Int) = a2 at *
        generalize ((m / 2 : Nat) : Int) = b2 at *
        generalize ((apN (n / 2) (m / 2) : Nat) : Int) = v1 at *
        generalize (n : Int) = nn at *
        generalize (m : Int) = mm at *
        simp [hmo, q1', bor, isVar]
  have s4 : x1 (Cz Pg fuel (k + 102)) (.ret (.call 265 [.call 329 [.var 0, .var 1] [] [], .var 4] [] [])) [.sh (.int n), .sh (.int m), .sh (.int (n / 2 : Nat)), .sh (.int (m / 2 : Nat)), .sh (.int (apN n m : Nat))] = .ret (.sh (.bl true)) [.sh (.int n), .sh (.int m), .sh (.int (n / 2 : Nat)), .sh (.int (m / 2 : Nat)), .sh (.int (apN n m : Nat))] := by
    generalize ((apN n m : Nat) : Int) = v at *
    generalize ((n / 2 : Nat) : Int) = a2 at *
    generalize ((m / 2 : Nat) : Int) = b2 at *
    simp [G.h329, d_neighbour_distance, e0, G.h265, d__law_same, e4, bor, isVar]
  show Z.O.cr d__law_halves_right.modes (xs _ s__law_halves_right [.sh (.int n), .sh (.int m), .no, .no, .no]) = _
  unfold s__law_halves_right
  rw [q_xs, s1, Z.O.then_nx, q_xs, s2, Z.O.then_nx, q_xs, s3, Z.O.then_nx, q_xs, s4]
  rfl
abbrev grB42 : List S := [.asg (.v 2) (.bin .Add (.con (.int 2)) (.call 33 [.var 0, .bin .Pow (.con (.int 10)) (.con (.int 29))] [] [])), .asg (.v 3) (.bin .Add (.con (.int 2)) (.call 33 [.var 0, .idx (.lst [.bin .Sub (.var 2) (.con (.int 1)), .con (.int 70), .bin .Pow (.con (.int 10)) (.con (.int 9))]) (.var 1)] [] [])), .ite (.and (.val (.cmp .LtE (.var 3) (.var 2))) (.not (.val (.call 471 [.var 2, .var 3] [] [])))) [.ret (.con (.bl false))] []]
abbrev GT42 (g : D) (y1 y2 y3 : Sl) : En := [.io g, y1, y2, y3, .no, .no, .no]
theorem gr_turn42 (G : G42 Pg) (m : Nat) (hm : m ≤ 800000) (g : D) (hg : Gd m g) (j : Nat) (hj : j < 3) (y1 y2 y3 : Sl) (h1 : Pn y1) (h2 : Pn y2) (h3 : Pn y3) :
    ∃ (g' : D) (z1 z2 z3 : Sl), Gd (m + 8) g' ∧ Pn z1 ∧ Pn z2 ∧ Pn z3 ∧ ((Z.O.of (bindT (.v 1) (.int j) (GT42 g y1 y2 y3))).then fun r3 => xs (Cz Pg fuel (k + 103)) grB42 r3) = .nx (GT42 g' z1 z2 z3) := by
  have B0 : ((10 ^ 29 : Nat) : Int) = 10 ^ 29 := by decide +kernel
  have bp : binI .Pow 10 29 = some ((10 ^ 29 : Nat) : Int) := by rw [B0]; decide +kernel
  have bp9 : binI .Pow 10 9 = some 1000000000 := by decide +kernel
  have p100 := p10_100
  have n29 : (10 ^ 29 : Nat) = 100000000000000000000000000000 := by decide +kernel
  obtain ⟨v, g1, hv, hg1, e1⟩ := m_randomL (fuel := fuel) (k := k + 101) G.h32 G.h33 m (by omega) g hg ((10 ^ 29 : Nat) : Int) (by rw [n29]; omega)
  obtain ⟨N, eN⟩ : ∃ n : Nat, 2 + v = (n : Int) := ⟨(2 + v).toNat, by omega⟩
  obtain ⟨L, hL, iL⟩ : ∃ L : Int, (1 ≤ L ∧ L ≤ 1298074214633706907132624082305024) ∧ idxD (.lst [.int ((N : Int) - 1), .int 70, .int 1000000000]) (.int j) = some (.int L) := by
    rcases j with _ | _ | _ | j
    · exact ⟨(N : Int) - 1, by rw [n29] at hv; omega, rfl⟩
    · exact ⟨70, by omega, rfl⟩
    · exact ⟨1000000000, by omega, rfl⟩
    · omega
  obtain ⟨v2, g2, hv2, hg2, e2⟩ := m_randomL (fuel := fuel) (k := k + 101) G.h32 G.h33 (m + 4) (by omega) g1 hg1 L hL
  obtain ⟨M, eM⟩ : ∃ n : Nat, 2 + v2 = (n : Int) := ⟨(2 + v2).toNat, by omega⟩
  have l3 : 3 ≤ LINE := line_le (by omega)
  have st0 : Z.O.of (bindT (.v 1) (.int j) (GT42 g y1 y2 y3)) = .nx (GT42 g (.sh (.int j)) y2 y3) := by
    rcases h1 with rfl | ⟨_, rfl⟩ <;> simp [bindT]
  refine ⟨g2, .sh (.int j), .sh (.int N), .sh (.int M), hg2, .inr ⟨_, rfl⟩, .inr ⟨_, rfl⟩, .inr ⟨_, rfl⟩, ?_⟩
  have s1 : x1 (Cz Pg fuel (k + 103)) (.asg (.v 2) (.bin .Add (.con (.int 2)) (.call 33 [.var 0, .bin .Pow (.con (.int 10)) (.con (.int 29))] [] []))) (GT42 g (.sh (.int j)) y2 y3) = .nx (GT42 g1 (.sh (.int j)) (.sh (.int N)) y3) := by
    generalize ((10 ^ 29 : Nat) : Int) = B at *
    rcases h2 with rfl | ⟨_, rfl⟩ <;> simp [bp, G.h33, d__law_random_v1, e1, hg1.shal, eN, bor, isVar]
  have s2 : x1 (Cz Pg fuel (k + 103)) (.asg (.v 3) (.bin .Add (.con (.int 2)) (.call 33 [.var 0, .idx (.lst [.bin .Sub (.var 2) (.con (.int 1)), .con (.int 70), .bin .Pow (.con (.int 10)) (.con (.int 9))]) (.var 1)] [] []))) (GT42 g1 (.sh (.int j)) (.sh (.int N)) y3) = .nx (GT42 g2 (.sh (.int j)) (.sh (.int N)) (.sh (.int M))) := by
    clear bp e1
    generalize (j : Int) = jj at *
    rcases h3 with rfl | ⟨_, rfl⟩ <;> simp [l3, bp9, iL, G.h33, d__law_random_v1, e2, hg2.shal, eM, bor, isVar]
  have s3 : x1 (Cz Pg fuel (k + 103)) (.ite (.and (.val (.cmp .LtE (.var 3) (.var 2))) (.not (.val (.call 471 [.var 2, .var 3] [] [])))) [.ret (.con (.bl false))] []) (GT42 g2 (.sh (.int j)) (.sh (.int N)) (.sh (.int M))) = .nx (GT42 g2 (.sh (.int j)) (.sh (.int N)) (.sh (.int M))) := by
    by_cases q : M ≤ N
    · have e3 := m_halves471 (fuel := fuel) (k := k) G N M (by omega) q (by omega)
      have q' : (M : Int) ≤ (N : Int) := by omega
      generalize (M : Int) = mm at *
      generalize (N : Int) = nn at *
      simp [q', G.h471, d__law_halves_right, e3, bor, isVar]
    · have q' : ¬ (M : Int) ≤ (N : Int) := by omega
      generalize (M : Int) = mm at *
      generalize (N : Int) = nn at *
      simp [q', bor, isVar]
  rw [st0, Z.O.then_nx, q_xs, s1, Z.O.then_nx, q_xs, s2, Z.O.then_nx, q_xs, s3, Z.O.then_nx, q_xs0]
theorem m_great42 (G : G42 Pg) (m : Nat) (hm : m ≤ 600000) (g : D) (hg : Gd m g) : ∃ g', shal g' = true ∧ callD Pg fuel (k + 104) 472 [g] = .ok (.sh (.bl true)) [g'] := by
  rw [callD_eq G.h472 ⟨rfl, Nat.le_of_ble_eq_true rfl⟩]
  have er := rng1_eq (C := Cz Pg fuel (k + 103)) (b := .con (.int 3)) (r := GT42 g .no .no .no) (r2 := GT42 g .no .no .no) (y := .inr (.int 3)) (j := ((3 : Nat) : Int)) (by simp) (by simp) (by omega)
  obtain ⟨r', s1, g1, y1, y2, y3, hg1, h1, h2, h3, rfl⟩ := for_run (t := .v 1) (body := grB42) (fun j r => ∃ (g1 : D) (y1 y2 y3 : Sl), Gd (m + 8 * j) g1 ∧ Pn y1 ∧ Pn y2 ∧ Pn y3 ∧ r = GT42 g1 y1 y2 y3) er (by
    intro j hj r hr
    rw [rng0_len] at hj
    rw [rng0_get]
    obtain ⟨g1, y1, y2, y3, hg1, h1, h2, h3, rfl⟩ := hr
    obtain ⟨g2, z1, z2, z3, hg2, k1, k2, k3, e⟩ := gr_turn42 (fuel := fuel) (k := k) G (m + 8 * j) (by omega) g1 hg1 j hj y1 y2 y3 h1 h2 h3
    exact ⟨_, e, g2, z1, z2, z3, hg2.mono (by omega), k1, k2, k3, rfl⟩) ⟨g, .no, .no, .no, hg.mono (by omega), .inl rfl, .inl rfl, .inl rfl, rfl⟩
  rw [rng0_len] at hg1
  obtain ⟨v, g2, hv, hg2, e1⟩ := m_random (fuel := fuel) (k := k + 101) G.h32 G.h33 (m + 8 * 3) (by omega) g1 hg1 58 (by decide)
  obtain ⟨w, ew⟩ : ∃ n : Nat, 7 + v = (n : Int) := ⟨(7 + v).toNat, by omega⟩
  obtain ⟨v2, g3, hv2, hg3, e2⟩ := m_random (fuel := fuel) (k := k + 101) G.h32 G.h33 (m + 8 * 3 + 3) (by omega) g2 hg2 127 (by decide)
  obtain ⟨x, ex⟩ : ∃ n : Nat, 1 + v2 = (n : Int) := ⟨(1 + v2).toNat, by omega⟩
  obtain ⟨t1, t2, t3, t4⟩ := top_all x (by omega) (by omega)
  have p7 : (2 : Nat) ^ 7 ≤ 2 ^ w := Nat.pow_le_pow_right (by omega) (by omega)
  have ap := apN_pow w (topB x) x t2 t3 (by omega) (by omega)
  have e3 := m_power39 (fuel := fuel) (k := k + 102) G.h39 w (by omega)
  have e4 := m_power39 (fuel := fuel) (k := k + 102) G.h39 (w - topB x) (by omega)
  have pc : ∀ n : Nat, ((2 ^ n : Nat) : Int) = 2 ^ n := fun n => by simp
  rw [← pc] at e3 e4
  have p100 : (2 : Nat) ^ w ≤ 2 ^ 100 := Nat.pow_le_pow_right (by omega) (by omega)
  have e5 := m_nd (fuel := fuel) (k := k + 1) G (2 ^ w) x (Nat.one_le_two_pow) (by omega) (by omega)
  rw [show ndD (2 ^ w) x = .int (apN (2 ^ w) x) from if_neg (by omega), ap] at e5
  obtain ⟨z, r1, r2⟩ := rep_nat (2 ^ (w - topB x)) (Nat.lt_of_le_of_lt (Nat.pow_le_pow_right (by omega) (show w - topB x ≤ 100 by omega)) p10_rep)
  have e6 := m_same (fuel := fuel) (k := k + 102) G.h265 _ z r1 r2
  have s2 : x1 (Cz Pg fuel (k + 103)) (.par [4, 3] [.bin .Add (.con (.int 7)) (.call 33 [.var 0, .con (.int 58)] [] []), .bin .Add (.con (.int 1)) (.call 33 [.var 0, .con (.int 127)] [] [])]) (GT42 g1 y1 y2 y3) = .nx [.io g3, y1, y2, .sh (.int x), .sh (.int w), .no, .no] := by
    rcases h3 with rfl | ⟨_, rfl⟩ <;> simp [G.h33, d__law_random_v1, e1, hg2.shal, ew, e2, hg3.shal, ex, puts, En.put, bor, isVar]
  have lcw : ev (Cz Pg fuel (k + 103)) (.lc (.var 6) (.v 6) (.rng1 (.con (.int 8))) [.val (.cmp .LtE (.call 39 [.var 6] [] []) (.var 3))] [6]) [.io g3, y1, y2, .sh (.int x), .sh (.int w), .no, .no] = .ok (.ow (il (pwL x))) [.io g3, y1, y2, .sh (.int x), .sh (.int w), .no, .no] := by
    have er := rng1_eq (C := Cz Pg fuel (k + 103)) (b := .con (.int 8)) (r := [.io g3, y1, y2, .sh (.int x), .sh (.int w), .no, .no]) (r2 := [.io g3, y1, y2, .sh (.int x), .sh (.int w), .no, .no]) (y := .inr (.int 8)) (j := ((8 : Nat) : Int)) (by simp) (by simp) (by omega)
    rw [rng0_natU, List.map_map] at er
    have e := lc_A (C := Cz Pg fuel (k + 103)) (e := .var 6) (t := .v 6) (ts := [.val (.cmp .LtE (.call 39 [.var 6] [] []) (.var 3))]) (own := [6]) (List.range 8) (D.int ∘ fun (t : Nat) => (t : Int)) (fun b => if decide (2 ^ b ≤ x) = true then some (.int (b : Nat)) else none) er rfl rfl (line_le (by simp)) (fun b hb => by
      have hb := List.mem_range.mp hb
      refine ⟨[.io g3, y1, y2, .sh (.int x), .sh (.int w), .no, .sh (.int b)], ?_, rfl⟩
      have e3 := m_power39 (fuel := fuel) (k := k + 102) G.h39 b (by omega)
      rw [← pc] at e3
      show lcF _ _ _ _ (.int b) _ = _
      have cc : (((2 ^ b : Nat) : Int) ≤ (x : Int)) ↔ 2 ^ b ≤ x := by omega
      by_cases c : 2 ^ b ≤ x
      · have c' := cc.mpr c
        rw [decide_eq_true c, if_pos rfl]
        generalize ((2 ^ b : Nat) : Int) = pb at *
        simp [lcF, wip, bindT, G.h39, d__law_power, e3, c', bor, isVar]
      · have c' : ¬ ((2 ^ b : Nat) : Int) ≤ (x : Int) := fun h => c (cc.mp h)
        rw [decide_eq_false c, if_neg Bool.false_ne_true]
        generalize ((2 ^ b : Nat) : Int) = pb at *
        simp [lcF, wip, bindT, G.h39, d__law_power, e3, c', bor, isVar])
    rw [fm_if] at e
    rw [show (((List.range 8).filter fun b => decide (2 ^ b ≤ x)).map fun (b : Nat) => D.int (b : Nat)) = (pwL x).map D.int from by unfold pwL; rw [List.map_map]; rfl, thawL_self] at e
    exact e
  have mx := bi_maxI t1
  have s3 : x1 (Cz Pg fuel (k + 103)) (.asg (.v 5) (.bi .max [.lc (.var 6) (.v 6) (.rng1 (.con (.int 8))) [.val (.cmp .LtE (.call 39 [.var 6] [] []) (.var 3))] [6]])) [.io g3, y1, y2, .sh (.int x), .sh (.int w), .no, .no] = .nx [.io g3, y1, y2, .sh (.int x), .sh (.int w), .sh (.int (topB x : Nat)), .no] := by
    generalize il (pwL x) = F at *
    simp [-q_lc, lcw, mx, bor, isVar]
  refine ⟨g3, hg3.shal, ?_⟩
  have s4 : x1 (Cz Pg fuel (k + 103)) (.ret (.call 265 [.call 329 [.call 39 [.var 4] [] [], .var 3] [] [], .call 39 [.bin .Sub (.var 4) (.var 5)] [] []] [] [])) [.io g3, y1, y2, .sh (.int x), .sh (.int w), .sh (.int (topB x : Nat)), .no] = .ret (.sh (.bl true)) [.io g3, y1, y2, .sh (.int x), .sh (.int w), .sh (.int (topB x : Nat)), .no] := by
    have d1 : (w : Int) - (topB x : Int) = ((w - topB x : Nat) : Int) := by omega
    generalize ((2 ^ (w - topB x) : Nat) : Int) = a2 at *
    generalize ((2 ^ w : Nat) : Int) = a1 at *
    generalize ((w - topB x : Nat) : Int) = wt at *
    generalize ((topB x : Nat) : Int) = tb at *
    generalize (w : Int) = ww at *
    simp [G.h39, d__law_power, e3, G.h329, d_neighbour_distance, e5, d1, e4, G.h265, d__law_same, e6, bor, isVar]
  show Z.O.cr d__law_great_right_v25.modes (xs _ s__law_great_right_v25 [.io g, .no, .no, .no, .no, .no, .no]) = _
  have s1 : x1 (Cz Pg fuel (k + 103)) (.for_ (.v 1) (.rng1 (.con (.int 3))) [.asg (.v 2) (.bin .Add (.con (.int 2)) (.call 33 [.var 0, .bin .Pow (.con (.int 10)) (.con (.int 29))] [] [])), .asg (.v 3) (.bin .Add (.con (.int 2)) (.call 33 [.var 0, .idx (.lst [.bin .Sub (.var 2) (.con (.int 1)), .con (.int 70), .bin .Pow (.con (.int 10)) (.con (.int 9))]) (.var 1)] [] [])), .ite (.and (.val (.cmp .LtE (.var 3) (.var 2))) (.not (.val (.call 471 [.var 2, .var 3] [] [])))) [.ret (.con (.bl false))] []]) [.io g, .no, .no, .no, .no, .no, .no] = .nx (GT42 g1 y1 y2 y3) := s1
  unfold s__law_great_right_v25
  rw [q_xs, s1, Z.O.then_nx, q_xs, s2, Z.O.then_nx, q_xs, s3, Z.O.then_nx, q_xs, s4]
  rfl
theorem m_law42 (G : G42 Pg) (h : Pg f = some d_law_v42) (hf : 1000 ≤ fuel) (ns : List Int) : callD Pg fuel (k + 105) f [.scr ns] = .ok (.sh (.bl true)) [] := by
  rw [callD_eq h ⟨rfl, Nat.le_of_ble_eq_true rfl⟩]
  have er := rng1_eq (C := Cz Pg fuel (k + 104)) (b := .con (.int 3)) (r := [.sh (.scr ns), .no, .no]) (r2 := [.sh (.scr ns), .no, .no]) (y := .inr (.int 3)) (j := ((3 : Nat) : Int)) (by simp) (by simp) (by omega)
  obtain ⟨r', s1, y1, rfl, hy1⟩ := for_run (t := .v 1) (body := [.ite (.not (.val (.callN 470 (.call 35 [.var 0, .var 1] [] []) []))) [.ret (.con (.bl false))] []]) (fun _ r => ∃ (y1 : Sl), r = [.sh (.scr ns), y1, .no] ∧ Pn y1) er (by
    intro j hj r hr
    rw [rng0_len] at hj
    rw [rng0_get]
    obtain ⟨y1, rfl, hy1⟩ := hr
    obtain ⟨g, hg, e0⟩ := m_generator (fuel := fuel) (k := k + 102) G.h34 G.h35 ns j (by omega)
    obtain ⟨g', _, e1⟩ := m_right23 (fuel := fuel) (k := k) G hf (1000 * j) (by omega) g hg
    refine ⟨[.sh (.scr ns), .sh (.int j), .no], ?_, _, rfl, .inr ⟨_, rfl⟩⟩
    rcases hy1 with rfl | ⟨d, rfl⟩ <;> simp [bindT, G.h35, d__law_generator, e0, G.h470, d__law_right_v23, callNR, e1]) ⟨.no, rfl, .inl rfl⟩
  obtain ⟨g, hg, e0⟩ := m_generator (fuel := fuel) (k := k + 102) G.h34 G.h35 ns 3 (by omega)
  obtain ⟨g', _, e1⟩ := m_great42 (fuel := fuel) (k := k) G (1000 * 3) (by omega) g hg
  rw [show ((3 : Nat) : Int) = 3 from rfl] at e0
  have s2 : x1 (Cz Pg fuel (k + 104)) (.ite (.not (.val (.callN 472 (.call 35 [.var 0, .con (.int 3)] [] []) []))) [.ret (.con (.bl false))] []) [.sh (.scr ns), y1, .no] = .nx [.sh (.scr ns), y1, .no] := by
    simp [G.h35, d__law_generator, e0, G.h472, d__law_great_right_v25, callNR, e1]
  obtain ⟨x1', x2', x3', x4', x5', x6', x7'⟩ := ndx1
  have p100 := p10_100
  have a1 := m_nd (fuel := fuel) (k := k + 2) G 8 4 (by omega) (by omega) (by omega)
  have a2 := m_nd (fuel := fuel) (k := k + 2) G 12 6 (by omega) (by omega) (by omega)
  have a3 := m_nd (fuel := fuel) (k := k + 2) G 7 3 (by omega) (by omega) (by omega)
  have a4 := m_nd (fuel := fuel) (k := k + 2) G 5 5 (by omega) (by omega) (by omega)
  have a5 := m_nd (fuel := fuel) (k := k + 2) G 5 0 (by omega) (by omega) (by omega)
  have a6 := m_nd (fuel := fuel) (k := k + 2) G (10 ^ 29) 1 (by omega) (by omega) (by omega)
  have a7 := m_nd (fuel := fuel) (k := k + 2) G (10 ^ 29) 2 (by omega) (by omega) (by omega)
  rw [x1'] at a1
  rw [x2'] at a2
  rw [x3'] at a3
  rw [x4'] at a4
  rw [x5'] at a5
  rw [x6'] at a6
  rw [x7'] at a7
  have cb : ((10 ^ 29 : Nat) : Int) = 10 ^ 29 := by decide +kernel
  rw [cb] at a6 a7
  have a1 : callD Pg fuel (k + 104) 329 [.int 8, .int 4] = .ok (.sh (.int 2)) [] := a1
  have a2 : callD Pg fuel (k + 104) 329 [.int 12, .int 6] = .ok (.sh (.int 2)) [] := a2
  have a3 : callD Pg fuel (k + 104) 329 [.int 7, .int 3] = .ok (.sh (.int 3)) [] := a3
  have a4 : callD Pg fuel (k + 104) 329 [.int 5, .int 5] = .ok (.sh (.int 1)) [] := a4
  have a5 : callD Pg fuel (k + 104) 329 [.int 5, .int 0] = .ok (.sh .non) [] := a5
  have a6 : callD Pg fuel (k + 104) 329 [.int (10 ^ 29), .int 1] = .ok (.sh (.int (10 ^ 29))) [] := a6
  have a7 : callD Pg fuel (k + 104) 329 [.int (10 ^ 29), .int 2] = .ok (.sh (.int (5 * 10 ^ 28))) [] := a7
  have bp : binI .Pow 10 29 = some (10 ^ 29) := by decide +kernel
  have bp8 : binI .Pow 10 28 = some (10 ^ 28) := by decide +kernel
  have bm : binI .Mult 5 (10 ^ 28) = some (5 * 10 ^ 28) := by decide +kernel
  obtain ⟨z, r1, r2⟩ := rp_ndx
  have e9 := m_same (fuel := fuel) (k := k + 103) G.h265 _ z r1 r2
  have en : ndx = [.int 2, .int 2, .int 3, .int 1, .non, .int (10 ^ 29), .int (5 * 10 ^ 28)] := rfl
  rw [en] at e9
  generalize (5 : Int) * 10 ^ 28 = B5 at *
  generalize (10 : Int) ^ 29 = B at *
  generalize (10 : Int) ^ 28 = B8 at *
  have l3 : 3 ≤ LINE := line_le (by omega)
  have l4 : 4 ≤ LINE := line_le (by omega)
  have l7 : 7 ≤ LINE := line_le (by omega)
  have s3 : x1 (Cz Pg fuel (k + 104)) (.asg (.v 2) (.lst [.call 329 [.con (.int 8), .con (.int 4)] [] [], .call 329 [.con (.int 12), .con (.int 6)] [] [], .call 329 [.con (.int 7), .con (.int 3)] [] [], .call 329 [.con (.int 5), .con (.int 5)] [] []])) [.sh (.scr ns), y1, .no] = .nx [.sh (.scr ns), y1, .ow (.lst [.int 2, .int 2, .int 3, .int 1])] := by
    simp [l4, G.h329, d_neighbour_distance, a1, a2, a3, a4, bor, isVar]
  have s4 : x1 (Cz Pg fuel (k + 104)) (.asg (.v 2) (.bin .Add (.var 2) (.lst [.call 329 [.con (.int 5), .con (.int 0)] [] [], .call 329 [.bin .Pow (.con (.int 10)) (.con (.int 29)), .con (.int 1)] [] [], .call 329 [.bin .Pow (.con (.int 10)) (.con (.int 29)), .con (.int 2)] [] []]))) [.sh (.scr ns), y1, .ow (.lst [.int 2, .int 2, .int 3, .int 1])] = .nx [.sh (.scr ns), y1, .ow (.lst [.int 2, .int 2, .int 3, .int 1, .non, .int B, .int B5])] := by
    simp [l3, l4, l7, G.h329, d_neighbour_distance, bp, a5, a6, a7, bor, isVar]
  have s5 : x1 (Cz Pg fuel (k + 104)) (.ret (.call 265 [.var 2, .lst [.con (.int 2), .con (.int 2), .con (.int 3), .con (.int 1), .con .non, .bin .Pow (.con (.int 10)) (.con (.int 29)), .bin .Mult (.con (.int 5)) (.bin .Pow (.con (.int 10)) (.con (.int 28)))]] [] [])) [.sh (.scr ns), y1, .ow (.lst [.int 2, .int 2, .int 3, .int 1, .non, .int B, .int B5])] = .ret (.sh (.bl true)) [.sh (.scr ns), y1, .ow (.lst [.int 2, .int 2, .int 3, .int 1, .non, .int B, .int B5])] := by
    simp [l7, bp, bp8, bm, G.h265, d__law_same, e9, bor, isVar]
  show Z.O.cr d_law_v42.modes (xs _ s_law_v42 [.sh (.scr ns), .no, .no]) = _
  unfold s_law_v42
  rw [q_xs, s1, Z.O.then_nx, q_xs, s2, Z.O.then_nx, q_xs, s3, Z.O.then_nx, q_xs, s4, Z.O.then_nx, q_xs, s5]
  rfl
end
end Z
/-! ### the text: printed by zprint.py -/
namespace Z
open PySem PySem.Spec L2
open PyProof.Rows hiding St
def topS (i : Nat) : Stmt := PySem.Challenge.pw_anyplaces_k42_whole_distance_of_neighbou.main.body.getD i (.Pass ⟨0, 0, 0, 0⟩)
def FU : Nat := 100000
def Pl : List (Nat × Df) := [(0, d_is_whole), (1, d_is_between), (2, d_check_number), (3, d_power_of_two), (4, d_twos), (5, d_good_row), (7, d_items_counted), (8, d_is_width), (9, d_check_width), (10, d_is_of_width), (11, d_rises), (12, d_are_places), (13, d_check_places), (14, d_halves), (15, d_pairs), (16, d_best_splits), (17, d_tree_of), (18, d_lost_places), (19, d_check_code), (23, d_items_of_code), (30, d_distance_of), (31, d_distance), (323, d_least_lost), (328, d_apart_of), (329, d_neighbour_distance), (32, d__law_hash), (33, d__law_random), (34, d__law_cell), (35, d__law_generator), (39, d__law_power), (265, d__law_same_v1), (468, d__law_ones), (469, d__law_due_v4), (470, d__law_right_v23), (471, d__law_halves_right), (472, d__law_great_right_v25), (473, d_law_v42)]
def Pg (n : Nat) : Option Df := Pl.lookup n
/-- the names of the module -/
structure Mz (T : Tb) : Prop where
  m_bool : T.mg "bool" = none
  m_enumerate : T.mg "enumerate" = none
  m_int : T.mg "int" = none
  m_isinstance : T.mg "isinstance" = none
  m_len : T.mg "len" = none
  m_list : T.mg "list" = none
  m_max : T.mg "max" = none
  m_min : T.mg "min" = none
  m_range : T.mg "range" = none
  m_repr : T.mg "repr" = none
  m_sum : T.mg "sum" = none
  m_zip : T.mg "zip" = none
  g_MOST_WIDTH : ∃ t, T.mg "MOST_WIDTH" = some (.int 64 t)
/-- every def at a depth -/
structure Fm (T : Tb) (k : Nat) : Prop where
  c_is_whole : Cal T k "is_whole" [false] (callD Pg FU k 0)
  c_is_between : Cal T k "is_between" [false, false, false] (callD Pg FU k 1)
  c_check_number : Cal T k "check_number" [false, false, false] (callD Pg FU k 2)
  c_power_of_two : Cal T k "power_of_two" [false] (callD Pg FU k 3)
  c_twos : Cal T k "twos" [false] (callD Pg FU k 4)
  c_good_row : Cal T k "good_row" [false] (callD Pg FU k 5)
  c_items_counted : Cal T k "items_counted" [false, false, false] (callD Pg FU k 7)
  c_is_width : Cal T k "is_width" [false] (callD Pg FU k 8)
  c_check_width : Cal T k "check_width" [false] (callD Pg FU k 9)
  c_is_of_width : Cal T k "is_of_width" [false, false] (callD Pg FU k 10)
  c_rises : Cal T k "rises" [false] (callD Pg FU k 11)
  c_are_places : Cal T k "are_places" [false, false] (callD Pg FU k 12)
  c_check_places : Cal T k "check_places" [false, false] (callD Pg FU k 13)
  c_halves : Cal T k "halves" [false, false] (callD Pg FU k 14)
  c_pairs : Cal T k "pairs" [false] (callD Pg FU k 15)
  c_best_splits : Cal T k "best_splits" [false, false] (callD Pg FU k 16)
  c_tree_of : Cal T k "tree_of" [false, false] (callD Pg FU k 17)
  c_lost_places : Cal T k "lost_places" [false, false] (callD Pg FU k 18)
  c_check_code : Cal T k "check_code" [false, false, false] (callD Pg FU k 19)
  c_items_of_code : Cal T k "items_of_code" [false, false, false] (callD Pg FU k 23)
  c_distance_of : Cal T k "distance_of" [false, false] (callD Pg FU k 30)
  c_distance : Cal T k "distance" [false, false, false] (callD Pg FU k 31)
  c_least_lost : Cal T k "least_lost" [false, false] (callD Pg FU k 323)
  c_apart_of : Cal T k "apart_of" [false, false, true] (callD Pg FU k 328)
  c_neighbour_distance : Cal T k "neighbour_distance" [false, false] (callD Pg FU k 329)
  c__law_hash : Cal T k "_law_hash" [false, false] (callD Pg FU k 32)
  c__law_random : Cal T k "_law_random" [true, false] (callD Pg FU k 33)
  c__law_cell : Cal T k "_law_cell" [false, false] (callD Pg FU k 34)
  c__law_generator : Cal T k "_law_generator" [false, false] (callD Pg FU k 35)
  c__law_power : Cal T k "_law_power" [false] (callD Pg FU k 39)
  c__law_same : Cal T k "_law_same" [false, false] (callD Pg FU k 265)
  c__law_ones : Cal T k "_law_ones" [false] (callD Pg FU k 468)
  c__law_due : Cal T k "_law_due" [false, false] (callD Pg FU k 469)
  c__law_right : Cal T k "_law_right" [true] (callD Pg FU k 470)
  c__law_halves_right : Cal T k "_law_halves_right" [false, false] (callD Pg FU k 471)
  c__law_great_right : Cal T k "_law_great_right" [true] (callD Pg FU k 472)
  c_law : Cal T k "law" [false] (callD Pg FU k 473)
  cd_tree_of : CalD T k "tree_of" [false, false] [.int 0] (callD Pg FU k 17)
  k_neighbour_distance_0 : CalK T k "neighbour_distance" [false, false] ["items", "many"] [1, 0] (callD Pg FU k 329)
theorem bk_neighbour_distance_0 : BK "neighbour_distance" (topS 35) ["many", "items"] ["items", "many"] [1, 0] := fun _ _ _ _ _ _ ws hl => match ws, hl with | [_, _], _ => rfl
theorem sc_is_whole : FnScope ["value"] ["value"] (defScope (topS 7)) := ⟨rfl, rfl, rfl, by decide +kernel, rfl, by decide +kernel, by decide +kernel⟩
set_option maxHeartbeats 4000000 in
theorem b_is_whole {T : Tb} {k : Nat} (z : Mz T) (h : Fm T k) : ∀ (f : Addr) (cdv : Value) (A : Around) (outer : List PySem.Env) (s : Shared) (H : Hp) (E : L2.XK), CB T k (asDef T ["value"] "is_whole" (defScope (topS 7)) f cdv A outer s H E) → DSs T WF (Cq Pg FU k) (asDef T ["value"] "is_whole" (defScope (topS 7)) f cdv A outer s H E) (defBody (topS 7)) s_is_whole :=
  fun f cdv A outer s H E w =>
    ss_cons (s_ret (e_and w (e_isi w .int (b_var 0 rfl (.inl rfl)) (pe_bltn rfl z.m_int (by first | exact PyProof.Rows.boot_int | exact PySem.boot_int) rfl) z.m_isinstance) (e_one (e_not w (b_of (e_isi w .bool (b_var 0 rfl (.inl rfl)) (pe_bltn rfl z.m_bool (by first | exact PyProof.Rows.boot_bool | exact PySem.boot_bool) rfl) z.m_isinstance))))))
    (ss_nil)
theorem sc_is_between : FnScope ["value", "low", "high"] ["value", "low", "high"] (defScope (topS 8)) := ⟨rfl, rfl, rfl, by decide +kernel, rfl, by decide +kernel, by decide +kernel⟩
set_option maxHeartbeats 4000000 in
theorem b_is_between {T : Tb} {k : Nat} (z : Mz T) (h : Fm T k) : ∀ (f : Addr) (cdv : Value) (A : Around) (outer : List PySem.Env) (s : Shared) (H : Hp) (E : L2.XK), CB T k (asDef T ["value", "low", "high"] "is_between" (defScope (topS 8)) f cdv A outer s H E) → DSs T WF (Cq Pg FU k) (asDef T ["value", "low", "high"] "is_between" (defScope (topS 8)) f cdv A outer s H E) (defBody (topS 8)) s_is_between :=
  fun f cdv A outer s H E w =>
    ss_cons (s_if (t_not (t_val w (b_of (e_fn w h.c_is_whole rfl (a_cons (b_var 0 rfl (.inl rfl)) (a_nil)))))) (ss_cons (s_ret (e_bool))
    (ss_nil)) (ss_nil))
    (ss_cons (s_ret (e_and w (e_or w (e_cmp w (b_var 1 rfl (.inl rfl)) (b_of (e_none))) (e_one (e_cmp w (b_var 0 rfl (.inl rfl)) (b_var 1 rfl (.inl rfl))))) (e_one (e_or w (e_cmp w (b_var 2 rfl (.inl rfl)) (b_of (e_none))) (e_one (e_cmp w (b_var 0 rfl (.inl rfl)) (b_var 2 rfl (.inl rfl))))))))
    (ss_nil))
theorem sc_check_number : FnScope ["number", "low", "high"] ["number", "low", "high"] (defScope (topS 9)) := ⟨rfl, rfl, rfl, by decide +kernel, rfl, by decide +kernel, by decide +kernel⟩
set_option maxHeartbeats 4000000 in
theorem b_check_number {T : Tb} {k : Nat} (z : Mz T) (h : Fm T k) : ∀ (f : Addr) (cdv : Value) (A : Around) (outer : List PySem.Env) (s : Shared) (H : Hp) (E : L2.XK), CB T k (asDef T ["number", "low", "high"] "check_number" (defScope (topS 9)) f cdv A outer s H E) → DSs T WF (Cq Pg FU k) (asDef T ["number", "low", "high"] "check_number" (defScope (topS 9)) f cdv A outer s H E) (defBody (topS 9)) s_check_number :=
  fun f cdv A outer s H E w =>
    ss_cons (s_if (t_not (t_val w (b_of (e_fn w h.c_is_between rfl (a_cons (b_var 0 rfl (.inl rfl)) (a_cons (b_var 1 rfl (.inl rfl)) (a_cons (b_var 2 rfl (.inl rfl)) (a_nil)))))))) (ss_cons (s_nev)
    (ss_nil)) (ss_nil))
    (ss_nil)
theorem sc_power_of_two : FnScope ["many"] ["many"] (defScope (topS 10)) := ⟨rfl, rfl, rfl, by decide +kernel, rfl, by decide +kernel, by decide +kernel⟩
set_option maxHeartbeats 4000000 in
theorem b_power_of_two {T : Tb} {k : Nat} (z : Mz T) (h : Fm T k) : ∀ (f : Addr) (cdv : Value) (A : Around) (outer : List PySem.Env) (s : Shared) (H : Hp) (E : L2.XK), CB T k (asDef T ["many"] "power_of_two" (defScope (topS 10)) f cdv A outer s H E) → DSs T WF (Cq Pg FU k) (asDef T ["many"] "power_of_two" (defScope (topS 10)) f cdv A outer s H E) (defBody (topS 10)) s_power_of_two :=
  fun f cdv A outer s H E w =>
    ss_cons (s_ret (e_bin w (b_of (e_int)) (b_var 0 rfl (.inl rfl))))
    (ss_nil)
theorem sc_twos : FnScope ["number", "found"] ["number"] (defScope (topS 11)) := ⟨rfl, rfl, rfl, by decide +kernel, rfl, by decide +kernel, by decide +kernel⟩
set_option maxHeartbeats 4000000 in
theorem b_twos {T : Tb} {k : Nat} (z : Mz T) (h : Fm T k) : ∀ (f : Addr) (cdv : Value) (A : Around) (outer : List PySem.Env) (s : Shared) (H : Hp) (E : L2.XK), CB T k (asDef T ["number", "found"] "twos" (defScope (topS 11)) f cdv A outer s H E) → DSs T WF (Cq Pg FU k) (asDef T ["number", "found"] "twos" (defScope (topS 11)) f cdv A outer s H E) (defBody (topS 11)) s_twos :=
  fun f cdv A outer s H E w =>
    ss_cons (s_set w 1 (e_int) rfl (.inl rfl) (.inr rfl))
    (ss_cons (s_whl (t_cmp w (b_of (e_bin w (b_var 0 rfl (.inl rfl)) (b_of (e_int)))) (b_of (e_int))) (ss_cons (s_par2 w 0 1 (v_cons (e_bin w (b_var 0 rfl (.inl rfl)) (b_of (e_int))) (v_cons (e_bin w (b_var 1 rfl (.inl rfl)) (b_of (e_int))) (v_nil))) rfl rfl rfl rfl)
    (ss_nil)))
    (ss_cons (s_retv 1 (L2.pe_var rfl (.inl rfl)))
    (ss_nil)))
theorem sc_good_row : FnScope ["places", "order", "numbers", "left", "sums", "at", "taken", "have", "place"] ["places"] (defScope (topS 12)) := ⟨rfl, rfl, rfl, by decide +kernel, rfl, by decide +kernel, by decide +kernel⟩
set_option maxHeartbeats 4000000 in
theorem b_good_row {T : Tb} {k : Nat} (z : Mz T) (h : Fm T k) : ∀ (f : Addr) (cdv : Value) (A : Around) (outer : List PySem.Env) (s : Shared) (H : Hp) (E : L2.XK), CB T k (asDef T ["places", "order", "numbers", "left", "sums", "at", "taken", "have", "place"] "good_row" (defScope (topS 12)) f cdv A outer s H E) → DSs T WF (Cq Pg FU k) (asDef T ["places", "order", "numbers", "left", "sums", "at", "taken", "have", "place"] "good_row" (defScope (topS 12)) f cdv A outer s H E) (defBody (topS 12)) s_good_row :=
  fun f cdv A outer s H E w =>
    ss_cons (s_parT w (n_cons w 1 (n_cons w 2 (n_cons w 3 (n_cons w 4 (n_nil) rfl (.inl rfl) (.inr rfl)) rfl (.inl rfl) (.inr rfl)) rfl (.inl rfl) (.inr rfl)) rfl (.inl rfl) (.inr rfl)) (v_cons (e_lst (l_nil)) (v_cons (e_lst (l_nil)) (v_cons (e_biT (bi := .list) (bi_list w.eK) z.m_list (by first | exact PyProof.Rows.boot_list | exact PySem.boot_list) (a_cons (b_var 0 rfl (.inl rfl)) (a_nil))) (v_cons (e_bin w (b_of (e_lst (l_cons (e_int) (l_nil)))) (b_of (e_biB (bi := .len) (bi_len w.eK) z.m_len (by first | exact PyProof.Rows.boot_len | exact PySem.boot_len) (a_cons (b_var 0 rfl (.inl rfl)) (a_nil))))) (v_nil))))))
    (ss_cons (s_whl (t_cmp w (b_var 3 rfl (.inl rfl)) (b_of (e_lst (l_nil)))) (ss_cons (s_set w 5 (e_index w (b_var 4 rfl (.inl rfl)) (b_of (e_biB (bi := .min) (bi_min w.eK w.calm) z.m_min (by first | exact PyProof.Rows.boot_min | exact PySem.boot_min) (a_cons (b_var 4 rfl (.inl rfl)) (a_nil))))) rfl (.inl rfl) (.inr rfl))
    (ss_cons (s_set w 6 (e_popAt w 3 (L2.pe_var rfl (.inl rfl)) (e_var 5 rfl (.inl rfl))) rfl (.inr rfl) (.inl rfl))
    (ss_cons (s_ex (e_append w 1 (L2.pe_var rfl (.inl rfl)) (e_var 6 rfl (.inr (.inl rfl)))))
    (ss_cons (s_ex (e_append w 2 (L2.pe_var rfl (.inl rfl)) (e_popAt w 4 (L2.pe_var rfl (.inl rfl)) (e_var 5 rfl (.inl rfl)))))
    (ss_cons (s_setc w 4 [("have", 7), ("place", 8)] rfl rfl rfl (i_zs w (l_cons (e_var 4 rfl (.inl rfl)) (l_cons (e_var 3 rfl (.inl rfl)) (l_nil))) z.m_zip) (fun _ _ _ _ _ => g_t (w.blk _ _ _ _ _) (gs_cons (g_v (w.blk _ _ _ _ _) 7 rfl (.inl rfl) (.inr rfl)) (gs_cons (g_v (w.blk _ _ _ _ _) 8 rfl (.inl rfl) (.inr rfl)) (gs_nil)))) (fun _ _ _ _ _ => c_nil) (fun _ _ _ _ _ => e_bin (w.blk _ _ _ _ _) (b_var 7 rfl (.inl rfl)) (b_of (e_fn (w.blk _ _ _ _ _) h.c_twos rfl (a_cons (b_of (e_bin (w.blk _ _ _ _ _) (b_var 8 rfl (.inl rfl)) (b_var 6 rfl (.inr (.inl rfl))))) (a_nil))))) (blkOk_by (by kernel_rfl)))
    (ss_nil)))))))
    (ss_cons (s_ret (e_tup (l_cons (e_var 1 rfl (.inl rfl)) (l_cons (e_var 2 rfl (.inl rfl)) (l_nil)))))
    (ss_nil)))
theorem sc_items_counted : FnScope ["width", "numbers", "count", "number"] ["width", "numbers", "count"] (defScope (topS 13)) := ⟨rfl, rfl, rfl, by decide +kernel, rfl, by decide +kernel, by decide +kernel⟩
set_option maxHeartbeats 4000000 in
theorem b_items_counted {T : Tb} {k : Nat} (z : Mz T) (h : Fm T k) : ∀ (f : Addr) (cdv : Value) (A : Around) (outer : List PySem.Env) (s : Shared) (H : Hp) (E : L2.XK), CB T k (asDef T ["width", "numbers", "count", "number"] "items_counted" (defScope (topS 13)) f cdv A outer s H E) → DSs T WF (Cq Pg FU k) (asDef T ["width", "numbers", "count", "number"] "items_counted" (defScope (topS 13)) f cdv A outer s H E) (defBody (topS 13)) s_items_counted :=
  fun f cdv A outer s H E w =>
    ss_cons (s_ret (e_biB (bi := .len) (bi_len w.eK) z.m_len (by first | exact PyProof.Rows.boot_len | exact PySem.boot_len) (a_cons (b_of (e_lc w [("number", 3)] (i_seq w (e_slc w (b_var 1 rfl (.inl rfl)) (p_none) (p_some (b_var 2 rfl (.inl rfl))))) (fun _ _ _ _ _ => g_v (w.blk _ _ _ _ _) 3 rfl (.inl rfl) (.inr rfl)) (fun _ _ _ _ _ => c_one (t_cmp (w.blk _ _ _ _ _) (b_var 3 rfl (.inl rfl)) (b_var 0 rfl (.inr (.inl rfl))))) (fun _ _ _ _ _ => e_var 3 rfl (.inl rfl)) (blkOk_by (by kernel_rfl)))) (a_nil))))
    (ss_nil)
theorem sc_is_width : FnScope ["value"] ["value"] (defScope (topS 15)) := ⟨rfl, rfl, rfl, by decide +kernel, rfl, by decide +kernel, by decide +kernel⟩
set_option maxHeartbeats 4000000 in
theorem b_is_width {T : Tb} {k : Nat} (z : Mz T) (h : Fm T k) : ∀ (f : Addr) (cdv : Value) (A : Around) (outer : List PySem.Env) (s : Shared) (H : Hp) (E : L2.XK), CB T k (asDef T ["value"] "is_width" (defScope (topS 15)) f cdv A outer s H E) → DSs T WF (Cq Pg FU k) (asDef T ["value"] "is_width" (defScope (topS 15)) f cdv A outer s H E) (defBody (topS 15)) s_is_width :=
  fun f cdv A outer s H E w =>
    ss_cons (s_ret (e_fn w h.c_is_between rfl (a_cons (b_var 0 rfl (.inl rfl)) (a_cons (b_of (e_int)) (a_cons (b_of (e_gint z.g_MOST_WIDTH)) (a_nil))))))
    (ss_nil)
theorem sc_check_width : FnScope ["width"] ["width"] (defScope (topS 16)) := ⟨rfl, rfl, rfl, by decide +kernel, rfl, by decide +kernel, by decide +kernel⟩
set_option maxHeartbeats 4000000 in
theorem b_check_width {T : Tb} {k : Nat} (z : Mz T) (h : Fm T k) : ∀ (f : Addr) (cdv : Value) (A : Around) (outer : List PySem.Env) (s : Shared) (H : Hp) (E : L2.XK), CB T k (asDef T ["width"] "check_width" (defScope (topS 16)) f cdv A outer s H E) → DSs T WF (Cq Pg FU k) (asDef T ["width"] "check_width" (defScope (topS 16)) f cdv A outer s H E) (defBody (topS 16)) s_check_width :=
  fun f cdv A outer s H E w =>
    ss_cons (s_if (t_not (t_val w (b_of (e_fn w h.c_is_width rfl (a_cons (b_var 0 rfl (.inl rfl)) (a_nil)))))) (ss_cons (s_nev)
    (ss_nil)) (ss_nil))
    (ss_nil)
theorem sc_is_of_width : FnScope ["width", "value"] ["width", "value"] (defScope (topS 17)) := ⟨rfl, rfl, rfl, by decide +kernel, rfl, by decide +kernel, by decide +kernel⟩
set_option maxHeartbeats 4000000 in
theorem b_is_of_width {T : Tb} {k : Nat} (z : Mz T) (h : Fm T k) : ∀ (f : Addr) (cdv : Value) (A : Around) (outer : List PySem.Env) (s : Shared) (H : Hp) (E : L2.XK), CB T k (asDef T ["width", "value"] "is_of_width" (defScope (topS 17)) f cdv A outer s H E) → DSs T WF (Cq Pg FU k) (asDef T ["width", "value"] "is_of_width" (defScope (topS 17)) f cdv A outer s H E) (defBody (topS 17)) s_is_of_width :=
  fun f cdv A outer s H E w =>
    ss_cons (s_ret (e_fn w h.c_is_between rfl (a_cons (b_var 1 rfl (.inl rfl)) (a_cons (b_of (e_int)) (a_cons (b_of (e_bin w (b_of (e_fn w h.c_power_of_two rfl (a_cons (b_var 0 rfl (.inl rfl)) (a_nil)))) (b_of (e_int)))) (a_nil))))))
    (ss_nil)
theorem sc_rises : FnScope ["numbers", "at"] ["numbers"] (defScope (topS 18)) := ⟨rfl, rfl, rfl, by decide +kernel, rfl, by decide +kernel, by decide +kernel⟩
set_option maxHeartbeats 4000000 in
theorem b_rises {T : Tb} {k : Nat} (z : Mz T) (h : Fm T k) : ∀ (f : Addr) (cdv : Value) (A : Around) (outer : List PySem.Env) (s : Shared) (H : Hp) (E : L2.XK), CB T k (asDef T ["numbers", "at"] "rises" (defScope (topS 18)) f cdv A outer s H E) → DSs T WF (Cq Pg FU k) (asDef T ["numbers", "at"] "rises" (defScope (topS 18)) f cdv A outer s H E) (defBody (topS 18)) s_rises :=
  fun f cdv A outer s H E w =>
    ss_cons (s_ret (e_cmp w (b_of (e_lc w [("at", 1)] (i_rng2 (b_of (e_int)) (b_of (e_biB (bi := .len) (bi_len w.eK) z.m_len (by first | exact PyProof.Rows.boot_len | exact PySem.boot_len) (a_cons (b_var 0 rfl (.inr (.inl rfl))) (a_nil)))) z.m_range) (fun _ _ _ _ _ => g_v (w.blk _ _ _ _ _) 1 rfl (.inl rfl) (.inr rfl)) (fun _ _ _ _ _ => c_one (t_cmp (w.blk _ _ _ _ _) (b_of (e_idx (w.blk _ _ _ _ _) (b_var 0 rfl (.inr (.inl rfl))) (b_of (e_bin (w.blk _ _ _ _ _) (b_var 1 rfl (.inl rfl)) (b_of (e_int)))))) (b_of (e_idx (w.blk _ _ _ _ _) (b_var 0 rfl (.inr (.inl rfl))) (b_var 1 rfl (.inl rfl)))))) (fun _ _ _ _ _ => e_var 1 rfl (.inl rfl)) (blkOk_by (by kernel_rfl)))) (b_of (e_lst (l_nil)))))
    (ss_nil)
theorem sc_are_places : FnScope ["width", "value", "item"] ["width", "value"] (defScope (topS 19)) := ⟨rfl, rfl, rfl, by decide +kernel, rfl, by decide +kernel, by decide +kernel⟩
set_option maxHeartbeats 4000000 in
theorem b_are_places {T : Tb} {k : Nat} (z : Mz T) (h : Fm T k) : ∀ (f : Addr) (cdv : Value) (A : Around) (outer : List PySem.Env) (s : Shared) (H : Hp) (E : L2.XK), CB T k (asDef T ["width", "value", "item"] "are_places" (defScope (topS 19)) f cdv A outer s H E) → DSs T WF (Cq Pg FU k) (asDef T ["width", "value", "item"] "are_places" (defScope (topS 19)) f cdv A outer s H E) (defBody (topS 19)) s_are_places :=
  fun f cdv A outer s H E w =>
    ss_cons (s_if (t_w (w_or (t_not (t_val w (b_of (e_isi w .list (b_var 1 rfl (.inl rfl)) (pe_bltn rfl z.m_list (by first | exact PyProof.Rows.boot_list | exact PySem.boot_list) rfl) z.m_isinstance)))) (w_or1 (t_cmp w (b_var 1 rfl (.inl rfl)) (b_of (e_lst (l_nil))))))) (ss_cons (s_ret (e_bool))
    (ss_nil)) (ss_nil))
    (ss_cons (s_ret (e_and w (e_cmp w (b_of (e_lc w [("item", 2)] (i_seq w (e_var 1 rfl (.inl rfl))) (fun _ _ _ _ _ => g_v (w.blk _ _ _ _ _) 2 rfl (.inl rfl) (.inr rfl)) (fun _ _ _ _ _ => c_one (t_not (t_val (w.blk _ _ _ _ _) (b_of (e_fn (w.blk _ _ _ _ _) h.c_is_of_width rfl (a_cons (b_var 0 rfl (.inr (.inl rfl))) (a_cons (b_var 2 rfl (.inl rfl)) (a_nil)))))))) (fun _ _ _ _ _ => e_var 2 rfl (.inl rfl)) (blkOk_by (by kernel_rfl)))) (b_of (e_lst (l_nil)))) (e_one (e_fn w h.c_rises rfl (a_cons (b_var 1 rfl (.inl rfl)) (a_nil))))))
    (ss_nil))
theorem sc_check_places : FnScope ["width", "places"] ["width", "places"] (defScope (topS 20)) := ⟨rfl, rfl, rfl, by decide +kernel, rfl, by decide +kernel, by decide +kernel⟩
set_option maxHeartbeats 4000000 in
theorem b_check_places {T : Tb} {k : Nat} (z : Mz T) (h : Fm T k) : ∀ (f : Addr) (cdv : Value) (A : Around) (outer : List PySem.Env) (s : Shared) (H : Hp) (E : L2.XK), CB T k (asDef T ["width", "places"] "check_places" (defScope (topS 20)) f cdv A outer s H E) → DSs T WF (Cq Pg FU k) (asDef T ["width", "places"] "check_places" (defScope (topS 20)) f cdv A outer s H E) (defBody (topS 20)) s_check_places :=
  fun f cdv A outer s H E w =>
    ss_cons (s_ex (e_fn w h.c_check_width rfl (a_cons (b_var 0 rfl (.inl rfl)) (a_nil))))
    (ss_cons (s_if (t_not (t_val w (b_of (e_fn w h.c_are_places rfl (a_cons (b_var 0 rfl (.inl rfl)) (a_cons (b_var 1 rfl (.inl rfl)) (a_nil))))))) (ss_cons (s_nev)
    (ss_nil)) (ss_nil))
    (ss_nil))
theorem sc_halves : FnScope ["places", "level", "even", "place"] ["places", "level"] (defScope (topS 22)) := ⟨rfl, rfl, rfl, by decide +kernel, rfl, by decide +kernel, by decide +kernel⟩
set_option maxHeartbeats 4000000 in
theorem b_halves {T : Tb} {k : Nat} (z : Mz T) (h : Fm T k) : ∀ (f : Addr) (cdv : Value) (A : Around) (outer : List PySem.Env) (s : Shared) (H : Hp) (E : L2.XK), CB T k (asDef T ["places", "level", "even", "place"] "halves" (defScope (topS 22)) f cdv A outer s H E) → DSs T WF (Cq Pg FU k) (asDef T ["places", "level", "even", "place"] "halves" (defScope (topS 22)) f cdv A outer s H E) (defBody (topS 22)) s_halves :=
  fun f cdv A outer s H E w =>
    ss_cons (s_setc w 2 [("place", 3)] rfl rfl rfl (i_seq w (e_var 0 rfl (.inl rfl))) (fun _ _ _ _ _ => g_v (w.blk _ _ _ _ _) 3 rfl (.inl rfl) (.inr rfl)) (fun _ _ _ _ _ => c_one (t_cmp (w.blk _ _ _ _ _) (b_of (e_bin (w.blk _ _ _ _ _) (b_of (e_bin (w.blk _ _ _ _ _) (b_var 3 rfl (.inl rfl)) (b_var 1 rfl (.inr (.inl rfl))))) (b_of (e_int)))) (b_of (e_int)))) (fun _ _ _ _ _ => e_var 3 rfl (.inl rfl)) (blkOk_by (by kernel_rfl)))
    (ss_cons (s_ret (e_tup (l_cons (e_var 2 rfl (.inl rfl)) (l_cons (e_lc w [("place", 3)] (i_seq w (e_var 0 rfl (.inl rfl))) (fun _ _ _ _ _ => g_v (w.blk _ _ _ _ _) 3 rfl (.inl rfl) (.inr rfl)) (fun _ _ _ _ _ => c_one (t_cmp (w.blk _ _ _ _ _) (b_of (e_bin (w.blk _ _ _ _ _) (b_of (e_bin (w.blk _ _ _ _ _) (b_var 3 rfl (.inl rfl)) (b_var 1 rfl (.inr (.inl rfl))))) (b_of (e_int)))) (b_of (e_int)))) (fun _ _ _ _ _ => e_var 3 rfl (.inl rfl)) (blkOk_by (by kernel_rfl))) (l_nil)))))
    (ss_nil))
theorem sc_pairs : FnScope ["many"] ["many"] (defScope (topS 23)) := ⟨rfl, rfl, rfl, by decide +kernel, rfl, by decide +kernel, by decide +kernel⟩
set_option maxHeartbeats 4000000 in
theorem b_pairs {T : Tb} {k : Nat} (z : Mz T) (h : Fm T k) : ∀ (f : Addr) (cdv : Value) (A : Around) (outer : List PySem.Env) (s : Shared) (H : Hp) (E : L2.XK), CB T k (asDef T ["many"] "pairs" (defScope (topS 23)) f cdv A outer s H E) → DSs T WF (Cq Pg FU k) (asDef T ["many"] "pairs" (defScope (topS 23)) f cdv A outer s H E) (defBody (topS 23)) s_pairs :=
  fun f cdv A outer s H E w =>
    ss_cons (s_ret (e_bin w (b_of (e_bin w (b_var 0 rfl (.inl rfl)) (b_of (e_bin w (b_var 0 rfl (.inl rfl)) (b_of (e_int)))))) (b_of (e_int))))
    (ss_nil)
theorem sc_best_splits : FnScope ["even", "odd", "costs", "splits", "many", "low", "high", "told", "least", "found", "at", "cost"] ["even", "odd"] (defScope (topS 24)) := ⟨rfl, rfl, rfl, by decide +kernel, rfl, by decide +kernel, by decide +kernel⟩
set_option maxHeartbeats 4000000 in
theorem b_best_splits {T : Tb} {k : Nat} (z : Mz T) (h : Fm T k) : ∀ (f : Addr) (cdv : Value) (A : Around) (outer : List PySem.Env) (s : Shared) (H : Hp) (E : L2.XK), CB T k (asDef T ["even", "odd", "costs", "splits", "many", "low", "high", "told", "least", "found", "at", "cost"] "best_splits" (defScope (topS 24)) f cdv A outer s H E) → DSs T WF (Cq Pg FU k) (asDef T ["even", "odd", "costs", "splits", "many", "low", "high", "told", "least", "found", "at", "cost"] "best_splits" (defScope (topS 24)) f cdv A outer s H E) (defBody (topS 24)) s_best_splits :=
  fun f cdv A outer s H E w =>
    ss_cons (s_par2 w 2 3 (v_cons (e_lst (l_nil)) (v_cons (e_lst (l_nil)) (v_nil))) rfl rfl rfl rfl)
    (ss_cons (s_for w (i_rng1 (b_of (e_bin w (b_of (e_bin w (b_of (e_biB (bi := .len) (bi_len w.eK) z.m_len (by first | exact PyProof.Rows.boot_len | exact PySem.boot_len) (a_cons (b_var 0 rfl (.inr (.inl rfl))) (a_nil)))) (b_of (e_biB (bi := .len) (bi_len w.eK) z.m_len (by first | exact PyProof.Rows.boot_len | exact PySem.boot_len) (a_cons (b_var 1 rfl (.inr (.inl rfl))) (a_nil)))))) (b_of (e_int)))) z.m_range) (g_v w 4 rfl (.inr rfl) (.inl rfl)) (ss_cons (s_parT w (n_cons w 5 (n_cons w 6 (n_nil) rfl (.inl rfl) (.inr rfl)) rfl (.inr rfl) (.inl rfl)) (v_cons (e_biB (bi := .max) (bi_max w.eK w.calm) z.m_max (by first | exact PyProof.Rows.boot_max | exact PySem.boot_max) (a_cons (b_of (e_int)) (a_cons (b_of (e_bin w (b_of (e_bin w (b_var 4 rfl (.inr (.inl rfl))) (b_of (e_biB (bi := .len) (bi_len w.eK) z.m_len (by first | exact PyProof.Rows.boot_len | exact PySem.boot_len) (a_cons (b_var 1 rfl (.inr (.inl rfl))) (a_nil)))))) (b_of (e_int)))) (a_nil)))) (v_cons (e_biB (bi := .min) (bi_min w.eK w.calm) z.m_min (by first | exact PyProof.Rows.boot_min | exact PySem.boot_min) (a_cons (b_var 4 rfl (.inr (.inl rfl))) (a_cons (b_of (e_bin w (b_of (e_biB (bi := .len) (bi_len w.eK) z.m_len (by first | exact PyProof.Rows.boot_len | exact PySem.boot_len) (a_cons (b_var 0 rfl (.inr (.inl rfl))) (a_nil)))) (b_of (e_int)))) (a_nil)))) (v_nil))))
    (ss_cons (s_setc w 7 [("at", 10)] rfl rfl rfl (i_rng2 (b_var 5 rfl (.inr (.inl rfl))) (b_of (e_bin w (b_var 6 rfl (.inl rfl)) (b_of (e_int)))) z.m_range) (fun _ _ _ _ _ => g_v (w.blk _ _ _ _ _) 10 rfl (.inl rfl) (.inr rfl)) (fun _ _ _ _ _ => c_nil) (fun _ _ _ _ _ => e_bin (w.blk _ _ _ _ _) (b_of (e_bin (w.blk _ _ _ _ _) (b_of (e_bin (w.blk _ _ _ _ _) (b_of (e_idx (w.blk _ _ _ _ _) (b_var 0 rfl (.inr (.inl rfl))) (b_var 10 rfl (.inl rfl)))) (b_of (e_fn (w.blk _ _ _ _ _) h.c_pairs rfl (a_cons (b_var 10 rfl (.inl rfl)) (a_nil)))))) (b_of (e_idx (w.blk _ _ _ _ _) (b_var 1 rfl (.inr (.inl rfl))) (b_of (e_bin (w.blk _ _ _ _ _) (b_var 4 rfl (.inr (.inl rfl))) (b_var 10 rfl (.inl rfl)))))))) (b_of (e_fn (w.blk _ _ _ _ _) h.c_pairs rfl (a_cons (b_of (e_bin (w.blk _ _ _ _ _) (b_var 4 rfl (.inr (.inl rfl))) (b_var 10 rfl (.inl rfl)))) (a_nil))))) (blkOk_by (by kernel_rfl)))
    (ss_cons (s_set w 8 (e_biB (bi := .min) (bi_min w.eK w.calm) z.m_min (by first | exact PyProof.Rows.boot_min | exact PySem.boot_min) (a_cons (b_var 7 rfl (.inl rfl)) (a_nil))) rfl (.inr rfl) (.inl rfl))
    (ss_cons (s_setc w 9 [("at", 10), ("cost", 11)] rfl rfl rfl (i_enum w (e_var 7 rfl (.inl rfl)) z.m_enumerate) (fun _ _ _ _ _ => g_t (w.blk _ _ _ _ _) (gs_cons (g_v (w.blk _ _ _ _ _) 10 rfl (.inl rfl) (.inr rfl)) (gs_cons (g_v (w.blk _ _ _ _ _) 11 rfl (.inl rfl) (.inr rfl)) (gs_nil)))) (fun _ _ _ _ _ => c_one (t_cmp (w.blk _ _ _ _ _) (b_var 11 rfl (.inl rfl)) (b_var 8 rfl (.inr (.inl rfl))))) (fun _ _ _ _ _ => e_bin (w.blk _ _ _ _ _) (b_var 5 rfl (.inr (.inl rfl))) (b_var 10 rfl (.inl rfl))) (blkOk_by (by kernel_rfl)))
    (ss_cons (s_ex (e_append w 2 (L2.pe_var rfl (.inl rfl)) (e_var 8 rfl (.inr (.inl rfl)))))
    (ss_cons (s_ex (e_append w 3 (L2.pe_var rfl (.inl rfl)) (e_tup (l_cons (e_idx w (b_var 9 rfl (.inl rfl)) (b_of (e_int))) (l_cons (e_idx w (b_var 9 rfl (.inl rfl)) (b_of (e_neg (e_int)))) (l_nil))))))
    (ss_nil))))))))
    (ss_cons (s_ret (e_tup (l_cons (e_var 2 rfl (.inl rfl)) (l_cons (e_var 3 rfl (.inl rfl)) (l_nil)))))
    (ss_nil)))
theorem sc_tree_of : FnScope ["places", "level", "even", "odd", "first", "second", "costs", "splits"] ["places", "level"] (defScope (topS 25)) := ⟨rfl, rfl, rfl, by decide +kernel, rfl, by decide +kernel, by decide +kernel⟩
set_option maxHeartbeats 4000000 in
theorem b_tree_of {T : Tb} {k : Nat} (z : Mz T) (h : Fm T k) : ∀ (f : Addr) (cdv : Value) (A : Around) (outer : List PySem.Env) (s : Shared) (H : Hp) (E : L2.XK), CB T k (asDef T ["places", "level", "even", "odd", "first", "second", "costs", "splits"] "tree_of" (defScope (topS 25)) f cdv A outer s H E) → DSs T WF (Cq Pg FU k) (asDef T ["places", "level", "even", "odd", "first", "second", "costs", "splits"] "tree_of" (defScope (topS 25)) f cdv A outer s H E) (defBody (topS 25)) s_tree_of :=
  fun f cdv A outer s H E w =>
    ss_cons (s_if (t_cmp w (b_of (e_biB (bi := .len) (bi_len w.eK) z.m_len (by first | exact PyProof.Rows.boot_len | exact PySem.boot_len) (a_cons (b_var 0 rfl (.inl rfl)) (a_nil)))) (b_of (e_int))) (ss_cons (s_ret (e_tup (l_cons (e_var 0 rfl (.inl rfl)) (l_cons (e_bin w (b_of (e_lst (l_cons (e_int) (l_nil)))) (b_of (e_bin w (b_of (e_biB (bi := .len) (bi_len w.eK) z.m_len (by first | exact PyProof.Rows.boot_len | exact PySem.boot_len) (a_cons (b_var 0 rfl (.inl rfl)) (a_nil)))) (b_of (e_int))))) (l_cons (e_none) (l_cons (e_none) (l_cons (e_none) (l_nil))))))))
    (ss_nil)) (ss_nil))
    (ss_cons (s_asgT w (e_fn w h.c_halves rfl (a_cons (b_var 0 rfl (.inl rfl)) (a_cons (b_var 1 rfl (.inl rfl)) (a_nil)))) (g_t w (gs_cons (g_v w 2 rfl (.inl rfl) (.inr rfl)) (gs_cons (g_v w 3 rfl (.inl rfl) (.inr rfl)) (gs_nil)))))
    (ss_cons (s_par2 w 4 5 (v_cons (e_fn w h.c_tree_of rfl (a_cons (b_var 2 rfl (.inl rfl)) (a_cons (b_of (e_bin w (b_var 1 rfl (.inl rfl)) (b_of (e_int)))) (a_nil)))) (v_cons (e_fn w h.c_tree_of rfl (a_cons (b_var 3 rfl (.inl rfl)) (a_cons (b_of (e_bin w (b_var 1 rfl (.inl rfl)) (b_of (e_int)))) (a_nil)))) (v_nil))) rfl rfl rfl rfl)
    (ss_cons (s_asgT w (e_fn w h.c_best_splits rfl (a_cons (b_of (e_idx w (b_var 4 rfl (.inl rfl)) (b_of (e_int)))) (a_cons (b_of (e_idx w (b_var 5 rfl (.inl rfl)) (b_of (e_int)))) (a_nil)))) (g_t w (gs_cons (g_v w 6 rfl (.inl rfl) (.inr rfl)) (gs_cons (g_v w 7 rfl (.inl rfl) (.inr rfl)) (gs_nil)))))
    (ss_cons (s_ret (e_tup (l_cons (e_var 0 rfl (.inl rfl)) (l_cons (e_var 6 rfl (.inl rfl)) (l_cons (e_var 7 rfl (.inl rfl)) (l_cons (e_var 4 rfl (.inl rfl)) (l_cons (e_var 5 rfl (.inl rfl)) (l_nil))))))))
    (ss_nil)))))
theorem sc_lost_places : FnScope ["branch", "many", "places", "_", "splits", "even", "odd", "low", "high", "found", "part", "lost"] ["branch", "many"] (defScope (topS 26)) := ⟨rfl, rfl, rfl, by decide +kernel, rfl, by decide +kernel, by decide +kernel⟩
set_option maxHeartbeats 4000000 in
theorem b_lost_places {T : Tb} {k : Nat} (z : Mz T) (h : Fm T k) : ∀ (f : Addr) (cdv : Value) (A : Around) (outer : List PySem.Env) (s : Shared) (H : Hp) (E : L2.XK), CB T k (asDef T ["branch", "many", "places", "_", "splits", "even", "odd", "low", "high", "found", "part", "lost"] "lost_places" (defScope (topS 26)) f cdv A outer s H E) → DSs T WF (Cq Pg FU k) (asDef T ["branch", "many", "places", "_", "splits", "even", "odd", "low", "high", "found", "part", "lost"] "lost_places" (defScope (topS 26)) f cdv A outer s H E) (defBody (topS 26)) s_lost_places :=
  fun f cdv A outer s H E w =>
    ss_cons (s_asgT w (e_var 0 rfl (.inl rfl)) (g_t w (gs_cons (g_v w 2 rfl (.inl rfl) (.inr rfl)) (gs_cons (g_v w 3 rfl (.inl rfl) (.inr rfl)) (gs_cons (g_v w 4 rfl (.inl rfl) (.inr rfl)) (gs_cons (g_v w 5 rfl (.inl rfl) (.inr rfl)) (gs_cons (g_v w 6 rfl (.inl rfl) (.inr rfl)) (gs_nil))))))))
    (ss_cons (s_if (t_cmp w (b_var 1 rfl (.inl rfl)) (b_of (e_biB (bi := .len) (bi_len w.eK) z.m_len (by first | exact PyProof.Rows.boot_len | exact PySem.boot_len) (a_cons (b_var 2 rfl (.inl rfl)) (a_nil))))) (ss_cons (s_ret (e_lst (l_nil)))
    (ss_nil)) (ss_nil))
    (ss_cons (s_if (t_cmp w (b_var 1 rfl (.inl rfl)) (b_of (e_int))) (ss_cons (s_ret (e_none))
    (ss_nil)) (ss_nil))
    (ss_cons (s_if (t_cmp w (b_var 4 rfl (.inl rfl)) (b_of (e_none))) (ss_cons (s_ret (e_biT (bi := .list) (bi_list w.eK) z.m_list (by first | exact PyProof.Rows.boot_list | exact PySem.boot_list) (a_cons (b_var 2 rfl (.inl rfl)) (a_nil))))
    (ss_nil)) (ss_nil))
    (ss_cons (s_asgT w (e_idx w (b_var 4 rfl (.inl rfl)) (b_var 1 rfl (.inl rfl))) (g_t w (gs_cons (g_v w 7 rfl (.inl rfl) (.inr rfl)) (gs_cons (g_v w 8 rfl (.inl rfl) (.inr rfl)) (gs_nil)))))
    (ss_cons (s_set w 9 (e_lst (l_cons (e_fn w h.c_lost_places rfl (a_cons (b_var 5 rfl (.inl rfl)) (a_cons (b_var 7 rfl (.inl rfl)) (a_nil)))) (l_cons (e_fn w h.c_lost_places rfl (a_cons (b_var 6 rfl (.inl rfl)) (a_cons (b_of (e_bin w (b_var 1 rfl (.inl rfl)) (b_var 8 rfl (.inl rfl)))) (a_nil)))) (l_nil)))) rfl (.inl rfl) (.inr rfl))
    (ss_cons (s_for w (i_rng2 (b_of (e_bin w (b_var 7 rfl (.inl rfl)) (b_of (e_int)))) (b_of (e_bin w (b_var 8 rfl (.inl rfl)) (b_of (e_int)))) z.m_range) (g_v w 10 rfl (.inl rfl) (.inr rfl)) (ss_cons (s_ex (e_append w 9 (L2.pe_var rfl (.inl rfl)) (e_bin w (b_of (e_fn w h.c_lost_places rfl (a_cons (b_var 5 rfl (.inl rfl)) (a_cons (b_var 10 rfl (.inl rfl)) (a_nil))))) (b_of (e_fn w h.c_lost_places rfl (a_cons (b_var 6 rfl (.inl rfl)) (a_cons (b_of (e_bin w (b_of (e_bin w (b_var 1 rfl (.inl rfl)) (b_of (e_int)))) (b_var 10 rfl (.inl rfl)))) (a_nil))))))))
    (ss_nil)))
    (ss_cons (s_ret (e_minl w z.m_min z.m_len (by first | exact PyProof.Rows.boot_min | exact PySem.boot_min) (by first | exact PyProof.Rows.boot_len | exact PySem.boot_len) (a_cons (b_of (e_lc w [("lost", 11)] (i_seq w (e_var 9 rfl (.inl rfl))) (fun _ _ _ _ _ => g_v (w.blk _ _ _ _ _) 11 rfl (.inl rfl) (.inr rfl)) (fun _ _ _ _ _ => c_one (t_cmp (w.blk _ _ _ _ _) (b_var 11 rfl (.inl rfl)) (b_of (e_none)))) (fun _ _ _ _ _ => e_var 11 rfl (.inl rfl)) (blkOk_by (by kernel_rfl)))) (a_nil))))
    (ss_nil))))))))
theorem sc_check_code : FnScope ["width", "places", "count"] ["width", "places", "count"] (defScope (topS 28)) := ⟨rfl, rfl, rfl, by decide +kernel, rfl, by decide +kernel, by decide +kernel⟩
set_option maxHeartbeats 4000000 in
theorem b_check_code {T : Tb} {k : Nat} (z : Mz T) (h : Fm T k) : ∀ (f : Addr) (cdv : Value) (A : Around) (outer : List PySem.Env) (s : Shared) (H : Hp) (E : L2.XK), CB T k (asDef T ["width", "places", "count"] "check_code" (defScope (topS 28)) f cdv A outer s H E) → DSs T WF (Cq Pg FU k) (asDef T ["width", "places", "count"] "check_code" (defScope (topS 28)) f cdv A outer s H E) (defBody (topS 28)) s_check_code :=
  fun f cdv A outer s H E w =>
    ss_cons (s_ex (e_fn w h.c_check_places rfl (a_cons (b_var 0 rfl (.inl rfl)) (a_cons (b_var 1 rfl (.inl rfl)) (a_nil)))))
    (ss_cons (s_ex (e_fn w h.c_check_number rfl (a_cons (b_var 2 rfl (.inl rfl)) (a_cons (b_of (e_int)) (a_cons (b_of (e_none)) (a_nil))))))
    (ss_nil))
theorem sc_items_of_code : FnScope ["width", "places", "count"] ["width", "places", "count"] (defScope (topS 29)) := ⟨rfl, rfl, rfl, by decide +kernel, rfl, by decide +kernel, by decide +kernel⟩
set_option maxHeartbeats 4000000 in
theorem b_items_of_code {T : Tb} {k : Nat} (z : Mz T) (h : Fm T k) : ∀ (f : Addr) (cdv : Value) (A : Around) (outer : List PySem.Env) (s : Shared) (H : Hp) (E : L2.XK), CB T k (asDef T ["width", "places", "count"] "items_of_code" (defScope (topS 29)) f cdv A outer s H E) → DSs T WF (Cq Pg FU k) (asDef T ["width", "places", "count"] "items_of_code" (defScope (topS 29)) f cdv A outer s H E) (defBody (topS 29)) s_items_of_code :=
  fun f cdv A outer s H E w =>
    ss_cons (s_ret (e_fn w h.c_items_counted rfl (a_cons (b_var 0 rfl (.inl rfl)) (a_cons (b_of (e_idx w (b_of (e_fn w h.c_good_row rfl (a_cons (b_var 1 rfl (.inl rfl)) (a_nil)))) (b_of (e_int)))) (a_cons (b_var 2 rfl (.inl rfl)) (a_nil))))))
    (ss_nil)
theorem sc_distance_of : FnScope ["places", "many"] ["places", "many"] (defScope (topS 31)) := ⟨rfl, rfl, rfl, by decide +kernel, rfl, by decide +kernel, by decide +kernel⟩
set_option maxHeartbeats 4000000 in
theorem b_distance_of {T : Tb} {k : Nat} (z : Mz T) (h : Fm T k) : ∀ (f : Addr) (cdv : Value) (A : Around) (outer : List PySem.Env) (s : Shared) (H : Hp) (E : L2.XK), CB T k (asDef T ["places", "many"] "distance_of" (defScope (topS 31)) f cdv A outer s H E) → DSs T WF (Cq Pg FU k) (asDef T ["places", "many"] "distance_of" (defScope (topS 31)) f cdv A outer s H E) (defBody (topS 31)) s_distance_of :=
  fun f cdv A outer s H E w =>
    ss_cons (s_ret (e_ite (t_cmp w (b_var 1 rfl (.inl rfl)) (b_of (e_int))) (e_none) (e_biB (bi := .len) (bi_len w.eK) z.m_len (by first | exact PyProof.Rows.boot_len | exact PySem.boot_len) (a_cons (b_of (e_fn w h.c_lost_places rfl (a_cons (b_of (e_fnD w h.cd_tree_of rfl (fun P => reps_int _ P 0) (a_cons (b_var 0 rfl (.inl rfl)) (a_nil)))) (a_cons (b_var 1 rfl (.inl rfl)) (a_nil))))) (a_nil)))))
    (ss_nil)
theorem sc_distance : FnScope ["width", "places", "count"] ["width", "places", "count"] (defScope (topS 32)) := ⟨rfl, rfl, rfl, by decide +kernel, rfl, by decide +kernel, by decide +kernel⟩
set_option maxHeartbeats 4000000 in
theorem b_distance {T : Tb} {k : Nat} (z : Mz T) (h : Fm T k) : ∀ (f : Addr) (cdv : Value) (A : Around) (outer : List PySem.Env) (s : Shared) (H : Hp) (E : L2.XK), CB T k (asDef T ["width", "places", "count"] "distance" (defScope (topS 32)) f cdv A outer s H E) → DSs T WF (Cq Pg FU k) (asDef T ["width", "places", "count"] "distance" (defScope (topS 32)) f cdv A outer s H E) (defBody (topS 32)) s_distance :=
  fun f cdv A outer s H E w =>
    ss_cons (s_ex (e_fn w h.c_check_code rfl (a_cons (b_var 0 rfl (.inl rfl)) (a_cons (b_var 1 rfl (.inl rfl)) (a_cons (b_var 2 rfl (.inl rfl)) (a_nil))))))
    (ss_cons (s_ret (e_fn w h.c_distance_of rfl (a_cons (b_var 1 rfl (.inl rfl)) (a_cons (b_of (e_fn w h.c_items_of_code rfl (a_cons (b_var 0 rfl (.inl rfl)) (a_cons (b_var 1 rfl (.inl rfl)) (a_cons (b_var 2 rfl (.inl rfl)) (a_nil)))))) (a_nil)))))
    (ss_nil))
theorem sc_least_lost : FnScope ["places", "j"] ["places", "j"] (defScope (topS 33)) := ⟨rfl, rfl, rfl, by decide +kernel, rfl, by decide +kernel, by decide +kernel⟩
set_option maxHeartbeats 4000000 in
theorem b_least_lost {T : Tb} {k : Nat} (z : Mz T) (h : Fm T k) : ∀ (f : Addr) (cdv : Value) (A : Around) (outer : List PySem.Env) (s : Shared) (H : Hp) (E : L2.XK), CB T k (asDef T ["places", "j"] "least_lost" (defScope (topS 33)) f cdv A outer s H E) → DSs T WF (Cq Pg FU k) (asDef T ["places", "j"] "least_lost" (defScope (topS 33)) f cdv A outer s H E) (defBody (topS 33)) s_least_lost :=
  fun f cdv A outer s H E w =>
    ss_cons (s_ex (e_fn w h.c_check_places rfl (a_cons (b_of (e_gint z.g_MOST_WIDTH)) (a_cons (b_var 0 rfl (.inl rfl)) (a_nil)))))
    (ss_cons (s_ex (e_fn w h.c_check_number rfl (a_cons (b_var 1 rfl (.inl rfl)) (a_cons (b_of (e_int)) (a_cons (b_of (e_biB (bi := .len) (bi_len w.eK) z.m_len (by first | exact PyProof.Rows.boot_len | exact PySem.boot_len) (a_cons (b_var 0 rfl (.inl rfl)) (a_nil)))) (a_nil))))))
    (ss_cons (s_ret (e_fn w h.c_distance_of rfl (a_cons (b_var 0 rfl (.inl rfl)) (a_cons (b_var 1 rfl (.inl rfl)) (a_nil)))))
    (ss_nil)))
theorem sc_apart_of : FnScope ["many", "items", "known", "half", "part", "found"] ["many", "items", "known"] (defScope (topS 34)) := ⟨rfl, rfl, rfl, by decide +kernel, rfl, by decide +kernel, by decide +kernel⟩
set_option maxHeartbeats 4000000 in
theorem b_apart_of {T : Tb} {k : Nat} (z : Mz T) (h : Fm T k) : ∀ (f : Addr) (cdv : Value) (A : Around) (outer : List PySem.Env) (s : Shared) (H : Hp) (E : L2.XK), CB T k (asDef T ["many", "items", "known", "half", "part", "found"] "apart_of" (defScope (topS 34)) f cdv A outer s H E) → DSs T WF (Cq Pg FU k) (asDef T ["many", "items", "known", "half", "part", "found"] "apart_of" (defScope (topS 34)) f cdv A outer s H E) (defBody (topS 34)) s_apart_of :=
  fun f cdv A outer s H E w =>
    ss_cons (s_if (t_cmp w (b_var 1 rfl (.inl rfl)) (b_of (e_int))) (ss_cons (s_retv 0 (L2.pe_var rfl (.inl rfl)))
    (ss_nil)) (ss_nil))
    (ss_cons (s_if (t_dvni w 2 (L2.pe_var rfl (.inl rfl)) (e_tup (l_cons (e_var 0 rfl (.inl rfl)) (l_cons (e_var 1 rfl (.inl rfl)) (l_nil))))) (ss_cons (s_par2 w 3 4 (v_cons (e_bin w (b_var 0 rfl (.inl rfl)) (b_of (e_int))) (v_cons (e_bin w (b_var 1 rfl (.inl rfl)) (b_of (e_int))) (v_nil))) rfl rfl rfl rfl)
    (ss_cons (s_set w 5 (e_fn w h.c_apart_of rfl (a_cons (b_var 3 rfl (.inl rfl)) (a_cons (b_var 4 rfl (.inl rfl)) (a_cons (b_var 2 rfl (.inl rfl)) (a_nil))))) rfl (.inl rfl) (.inr rfl))
    (ss_cons (s_if (t_w (w_and (t_cmp w (b_of (e_bin w (b_var 1 rfl (.inl rfl)) (b_of (e_int)))) (b_of (e_int))) (w_and1 (t_cmp w (b_of (e_bin w (b_var 4 rfl (.inl rfl)) (b_of (e_int)))) (b_var 3 rfl (.inl rfl)))))) (ss_cons (s_set w 5 (e_biB (bi := .min) (bi_min w.eK w.calm) z.m_min (by first | exact PyProof.Rows.boot_min | exact PySem.boot_min) (a_cons (b_var 5 rfl (.inl rfl)) (a_cons (b_of (e_bin w (b_of (e_fn w h.c_apart_of rfl (a_cons (b_of (e_bin w (b_var 0 rfl (.inl rfl)) (b_var 3 rfl (.inl rfl)))) (a_cons (b_of (e_bin w (b_var 4 rfl (.inl rfl)) (b_of (e_int)))) (a_cons (b_var 2 rfl (.inl rfl)) (a_nil)))))) (b_of (e_fn w h.c_apart_of rfl (a_cons (b_var 3 rfl (.inl rfl)) (a_cons (b_of (e_bin w (b_var 4 rfl (.inl rfl)) (b_of (e_int)))) (a_cons (b_var 2 rfl (.inl rfl)) (a_nil)))))))) (a_nil)))) rfl (.inl rfl) (.inr rfl))
    (ss_nil)) (ss_nil))
    (ss_cons (s_dput w 2 (e_var 5 rfl (.inl rfl)) (L2.pe_var rfl (.inl rfl)) (e_tup (l_cons (e_var 0 rfl (.inl rfl)) (l_cons (e_var 1 rfl (.inl rfl)) (l_nil)))))
    (ss_nil))))) (ss_nil))
    (ss_cons (s_ret (e_dvg w 2 (L2.pe_var rfl (.inl rfl)) (e_tup (l_cons (e_var 0 rfl (.inl rfl)) (l_cons (e_var 1 rfl (.inl rfl)) (l_nil))))))
    (ss_nil)))
theorem sc_neighbour_distance : FnScope ["many", "items"] ["many", "items"] (defScope (topS 35)) := ⟨rfl, rfl, rfl, by decide +kernel, rfl, by decide +kernel, by decide +kernel⟩
set_option maxHeartbeats 4000000 in
theorem b_neighbour_distance {T : Tb} {k : Nat} (z : Mz T) (h : Fm T k) : ∀ (f : Addr) (cdv : Value) (A : Around) (outer : List PySem.Env) (s : Shared) (H : Hp) (E : L2.XK), CB T k (asDef T ["many", "items"] "neighbour_distance" (defScope (topS 35)) f cdv A outer s H E) → DSs T WF (Cq Pg FU k) (asDef T ["many", "items"] "neighbour_distance" (defScope (topS 35)) f cdv A outer s H E) (defBody (topS 35)) s_neighbour_distance :=
  fun f cdv A outer s H E w =>
    ss_cons (s_ex (e_fn w h.c_check_number rfl (a_cons (b_var 0 rfl (.inl rfl)) (a_cons (b_of (e_int)) (a_cons (b_of (e_none)) (a_nil))))))
    (ss_cons (s_ex (e_fn w h.c_check_number rfl (a_cons (b_var 1 rfl (.inl rfl)) (a_cons (b_of (e_int)) (a_cons (b_var 0 rfl (.inl rfl)) (a_nil))))))
    (ss_cons (s_ret (e_ite (t_cmp w (b_var 1 rfl (.inl rfl)) (b_of (e_int))) (e_none) (e_fnE2 w h.c_apart_of rfl (b_var 0 rfl (.inl rfl)) (b_var 1 rfl (.inl rfl)) e_dtn)))
    (ss_nil)))
theorem sc__law_hash : FnScope ["_law_seed", "_law_index", "_law_mixed"] ["_law_seed", "_law_index"] (defScope (topS 37)) := ⟨rfl, rfl, rfl, by decide +kernel, rfl, by decide +kernel, by decide +kernel⟩
set_option maxHeartbeats 4000000 in
theorem b__law_hash {T : Tb} {k : Nat} (z : Mz T) (h : Fm T k) : ∀ (f : Addr) (cdv : Value) (A : Around) (outer : List PySem.Env) (s : Shared) (H : Hp) (E : L2.XK), CB T k (asDef T ["_law_seed", "_law_index", "_law_mixed"] "_law_hash" (defScope (topS 37)) f cdv A outer s H E) → DSs T WF (Cq Pg FU k) (asDef T ["_law_seed", "_law_index", "_law_mixed"] "_law_hash" (defScope (topS 37)) f cdv A outer s H E) (defBody (topS 37)) s__law_hash :=
  fun f cdv A outer s H E w =>
    ss_cons (s_set w 2 (e_bin w (b_of (e_biT (bi := .int) (bi_int) z.m_int (by first | exact PyProof.Rows.boot_int | exact PySem.boot_int) (a_cons (b_of (e_bin w (b_of (e_bin w (b_of (e_bin w (b_of (e_bin w (b_var 0 rfl (.inl rfl)) (b_of (e_int)))) (b_of (e_bin w (b_of (e_bin w (b_of (e_int)) (b_var 1 rfl (.inl rfl)))) (b_var 1 rfl (.inl rfl)))))) (b_of (e_bin w (b_of (e_int)) (b_var 1 rfl (.inl rfl)))))) (b_of (e_int)))) (a_nil)))) (b_of (e_int))) rfl (.inl rfl) (.inr rfl))
    (ss_cons (s_set w 2 (e_bin w (b_of (e_biT (bi := .int) (bi_int) z.m_int (by first | exact PyProof.Rows.boot_int | exact PySem.boot_int) (a_cons (b_of (e_bin w (b_of (e_bin w (b_of (e_bin w (b_var 2 rfl (.inl rfl)) (b_var 2 rfl (.inl rfl)))) (b_of (e_bin w (b_of (e_int)) (b_var 1 rfl (.inl rfl)))))) (b_of (e_int)))) (a_nil)))) (b_of (e_int))) rfl (.inl rfl) (.inr rfl))
    (ss_cons (s_ret (e_bin w (b_of (e_biT (bi := .int) (bi_int) z.m_int (by first | exact PyProof.Rows.boot_int | exact PySem.boot_int) (a_cons (b_of (e_bin w (b_var 2 rfl (.inl rfl)) (b_of (e_int)))) (a_nil)))) (b_of (e_int))))
    (ss_nil)))
theorem sc__law_random : FnScope ["_law_generator_here", "_law_bound", "_law_drawn", "_law_turn"] ["_law_generator_here", "_law_bound"] (defScope (topS 38)) := ⟨rfl, rfl, rfl, by decide +kernel, rfl, by decide +kernel, by decide +kernel⟩
set_option maxHeartbeats 4000000 in
theorem b__law_random {T : Tb} {k : Nat} (z : Mz T) (h : Fm T k) : ∀ (f : Addr) (cdv : Value) (A : Around) (outer : List PySem.Env) (s : Shared) (H : Hp) (E : L2.XK), CB T k (asDef T ["_law_generator_here", "_law_bound", "_law_drawn", "_law_turn"] "_law_random" (defScope (topS 38)) f cdv A outer s H E) → DSs T WF (Cq Pg FU k) (asDef T ["_law_generator_here", "_law_bound", "_law_drawn", "_law_turn"] "_law_random" (defScope (topS 38)) f cdv A outer s H E) (defBody (topS 38)) s__law_random :=
  fun f cdv A outer s H E w =>
    ss_cons (s_if (t_cmp w (b_of (e_idx w (b_var 0 rfl (.inl rfl)) (b_of (e_int)))) (b_of (e_int))) (ss_cons (s_set w 2 (e_bin w (b_of (e_biT (bi := .int) (bi_int) z.m_int (by first | exact PyProof.Rows.boot_int | exact PySem.boot_int) (a_cons (b_of (e_idx w (b_var 0 rfl (.inl rfl)) (b_of (e_int)))) (a_nil)))) (b_var 1 rfl (.inl rfl))) rfl (.inl rfl) (.inr rfl))
    (ss_cons (s_seti 0 (e_bin w (b_of (e_idx w (b_var 0 rfl (.inl rfl)) (b_of (e_int)))) (b_var 1 rfl (.inl rfl))) (L2.pe_var rfl (.inl rfl)) (e_int))
    (ss_cons (s_retv 2 (L2.pe_var rfl (.inl rfl)))
    (ss_nil)))) (ss_nil))
    (ss_cons (s_set w 2 (e_int) rfl (.inl rfl) (.inr rfl))
    (ss_cons (s_for w (i_rng1 (b_of (e_bin w (b_of (e_int)) (b_of (e_bin w (b_of (e_bits (b_var 1 rfl (.inl rfl)))) (b_of (e_int)))))) z.m_range) (g_v w 3 rfl (.inl rfl) (.inr rfl)) (ss_cons (s_seti 0 (e_bin w (b_of (e_idx w (b_var 0 rfl (.inl rfl)) (b_of (e_int)))) (b_of (e_int))) (L2.pe_var rfl (.inl rfl)) (e_int))
    (ss_cons (s_set w 2 (e_bin w (b_of (e_bin w (b_var 2 rfl (.inl rfl)) (b_of (e_int)))) (b_of (e_fn w h.c__law_hash rfl (a_cons (b_of (e_idx w (b_var 0 rfl (.inl rfl)) (b_of (e_int)))) (a_cons (b_of (e_idx w (b_var 0 rfl (.inl rfl)) (b_of (e_int)))) (a_nil)))))) rfl (.inl rfl) (.inr rfl))
    (ss_nil))))
    (ss_cons (s_ret (e_bin w (b_of (e_biT (bi := .int) (bi_int) z.m_int (by first | exact PyProof.Rows.boot_int | exact PySem.boot_int) (a_cons (b_var 2 rfl (.inl rfl)) (a_nil)))) (b_var 1 rfl (.inl rfl))))
    (ss_nil))))
theorem sc__law_cell : FnScope ["_law_script", "_law_index"] ["_law_script", "_law_index"] (defScope (topS 39)) := ⟨rfl, rfl, rfl, by decide +kernel, rfl, by decide +kernel, by decide +kernel⟩
set_option maxHeartbeats 4000000 in
theorem b__law_cell {T : Tb} {k : Nat} (z : Mz T) (h : Fm T k) : ∀ (f : Addr) (cdv : Value) (A : Around) (outer : List PySem.Env) (s : Shared) (H : Hp) (E : L2.XK), CB T k (asDef T ["_law_script", "_law_index"] "_law_cell" (defScope (topS 39)) f cdv A outer s H E) → DSs T WF (Cq Pg FU k) (asDef T ["_law_script", "_law_index"] "_law_cell" (defScope (topS 39)) f cdv A outer s H E) (defBody (topS 39)) s__law_cell :=
  fun f cdv A outer s H E w =>
    ss_cons (s_if (t_cmp w (b_var 1 rfl (.inl rfl)) (b_of (e_biB (bi := .len) (bi_len w.eK) z.m_len (by first | exact PyProof.Rows.boot_len | exact PySem.boot_len) (a_cons (b_var 0 rfl (.inl rfl)) (a_nil))))) (ss_cons (s_ret (e_idx w (b_var 0 rfl (.inl rfl)) (b_var 1 rfl (.inl rfl))))
    (ss_nil)) (ss_nil))
    (ss_cons (s_ret (e_bin w (b_of (e_biB (bi := .sum) (bi_sum w.eK w.calm) z.m_sum (by first | exact PyProof.Rows.boot_sum | exact PySem.boot_sum) (a_cons (b_of (e_slc w (b_var 0 rfl (.inl rfl)) (p_none) (p_some (b_of (e_int))))) (a_nil)))) (b_of (e_int))))
    (ss_nil))
theorem sc__law_generator : FnScope ["_law_script", "_law_index", "_law_seed"] ["_law_script", "_law_index"] (defScope (topS 40)) := ⟨rfl, rfl, rfl, by decide +kernel, rfl, by decide +kernel, by decide +kernel⟩
set_option maxHeartbeats 4000000 in
theorem b__law_generator {T : Tb} {k : Nat} (z : Mz T) (h : Fm T k) : ∀ (f : Addr) (cdv : Value) (A : Around) (outer : List PySem.Env) (s : Shared) (H : Hp) (E : L2.XK), CB T k (asDef T ["_law_script", "_law_index", "_law_seed"] "_law_generator" (defScope (topS 40)) f cdv A outer s H E) → DSs T WF (Cq Pg FU k) (asDef T ["_law_script", "_law_index", "_law_seed"] "_law_generator" (defScope (topS 40)) f cdv A outer s H E) (defBody (topS 40)) s__law_generator :=
  fun f cdv A outer s H E w =>
    ss_cons (s_set w 2 (e_fn w h.c__law_cell rfl (a_cons (b_var 0 rfl (.inl rfl)) (a_cons (b_var 1 rfl (.inl rfl)) (a_nil)))) rfl (.inl rfl) (.inr rfl))
    (ss_cons (s_ret (e_lst (l_cons (e_bin w (b_of (e_biT (bi := .int) (bi_int) z.m_int (by first | exact PyProof.Rows.boot_int | exact PySem.boot_int) (a_cons (b_of (e_biB (bi := .max) (bi_max w.eK w.calm) z.m_max (by first | exact PyProof.Rows.boot_max | exact PySem.boot_max) (a_cons (b_of (e_bin w (b_var 2 rfl (.inl rfl)) (b_of (e_bin w (b_of (e_int)) (b_of (e_int)))))) (a_cons (b_of (e_int)) (a_nil))))) (a_nil)))) (b_of (e_bin w (b_of (e_bin w (b_of (e_int)) (b_of (e_int)))) (b_of (e_int))))) (l_cons (e_bin w (b_of (e_biT (bi := .int) (bi_int) z.m_int (by first | exact PyProof.Rows.boot_int | exact PySem.boot_int) (a_cons (b_var 2 rfl (.inl rfl)) (a_nil)))) (b_of (e_int))) (l_cons (e_bin w (b_of (e_int)) (b_var 1 rfl (.inl rfl))) (l_nil))))))
    (ss_nil))
theorem sc__law_power : FnScope ["_law_many", "_law_found", "_law_turn"] ["_law_many"] (defScope (topS 41)) := ⟨rfl, rfl, rfl, by decide +kernel, rfl, by decide +kernel, by decide +kernel⟩
set_option maxHeartbeats 4000000 in
theorem b__law_power {T : Tb} {k : Nat} (z : Mz T) (h : Fm T k) : ∀ (f : Addr) (cdv : Value) (A : Around) (outer : List PySem.Env) (s : Shared) (H : Hp) (E : L2.XK), CB T k (asDef T ["_law_many", "_law_found", "_law_turn"] "_law_power" (defScope (topS 41)) f cdv A outer s H E) → DSs T WF (Cq Pg FU k) (asDef T ["_law_many", "_law_found", "_law_turn"] "_law_power" (defScope (topS 41)) f cdv A outer s H E) (defBody (topS 41)) s__law_power :=
  fun f cdv A outer s H E w =>
    ss_cons (s_set w 1 (e_int) rfl (.inl rfl) (.inr rfl))
    (ss_cons (s_for w (i_rng1 (b_var 0 rfl (.inl rfl)) z.m_range) (g_v w 2 rfl (.inl rfl) (.inr rfl)) (ss_cons (s_set w 1 (e_bin w (b_var 1 rfl (.inl rfl)) (b_of (e_int))) rfl (.inl rfl) (.inr rfl))
    (ss_nil)))
    (ss_cons (s_retv 1 (L2.pe_var rfl (.inl rfl)))
    (ss_nil)))
theorem sc__law_same : FnScope ["_law_told", "_law_due_here"] ["_law_told", "_law_due_here"] (defScope (topS 42)) := ⟨rfl, rfl, rfl, by decide +kernel, rfl, by decide +kernel, by decide +kernel⟩
set_option maxHeartbeats 4000000 in
theorem b__law_same {T : Tb} {k : Nat} (z : Mz T) (h : Fm T k) : ∀ (f : Addr) (cdv : Value) (A : Around) (outer : List PySem.Env) (s : Shared) (H : Hp) (E : L2.XK), CB T k (asDef T ["_law_told", "_law_due_here"] "_law_same" (defScope (topS 42)) f cdv A outer s H E) → DSs T WF (Cq Pg FU k) (asDef T ["_law_told", "_law_due_here"] "_law_same" (defScope (topS 42)) f cdv A outer s H E) (defBody (topS 42)) s__law_same_v1 :=
  fun f cdv A outer s H E w =>
    ss_cons (s_ret (e_cmp w (b_of (e_biB (bi := .repr) (bi_repr w.eK w.grd (by have := w.room.un; omega)) z.m_repr (by first | exact PyProof.Rows.boot_repr | exact PySem.boot_repr) (a_cons (b_var 0 rfl (.inl rfl)) (a_nil)))) (b_of (e_biB (bi := .repr) (bi_repr w.eK w.grd (by have := w.room.un; omega)) z.m_repr (by first | exact PyProof.Rows.boot_repr | exact PySem.boot_repr) (a_cons (b_var 1 rfl (.inl rfl)) (a_nil))))))
    (ss_nil)
theorem sc__law_ones : FnScope ["_law_number", "_law_found", "_law_bit"] ["_law_number"] (defScope (topS 43)) := ⟨rfl, rfl, rfl, by decide +kernel, rfl, by decide +kernel, by decide +kernel⟩
set_option maxHeartbeats 4000000 in
theorem b__law_ones {T : Tb} {k : Nat} (z : Mz T) (h : Fm T k) : ∀ (f : Addr) (cdv : Value) (A : Around) (outer : List PySem.Env) (s : Shared) (H : Hp) (E : L2.XK), CB T k (asDef T ["_law_number", "_law_found", "_law_bit"] "_law_ones" (defScope (topS 43)) f cdv A outer s H E) → DSs T WF (Cq Pg FU k) (asDef T ["_law_number", "_law_found", "_law_bit"] "_law_ones" (defScope (topS 43)) f cdv A outer s H E) (defBody (topS 43)) s__law_ones :=
  fun f cdv A outer s H E w =>
    ss_cons (s_set w 1 (e_lst (l_nil)) rfl (.inl rfl) (.inr rfl))
    (ss_cons (s_for w (i_rng1 (b_of (e_int)) z.m_range) (g_v w 2 rfl (.inl rfl) (.inr rfl)) (ss_cons (s_if (t_cmp w (b_of (e_bin w (b_of (e_biT (bi := .int) (bi_int) z.m_int (by first | exact PyProof.Rows.boot_int | exact PySem.boot_int) (a_cons (b_of (e_bin w (b_var 0 rfl (.inl rfl)) (b_of (e_fn w h.c__law_power rfl (a_cons (b_var 2 rfl (.inl rfl)) (a_nil)))))) (a_nil)))) (b_of (e_int)))) (b_of (e_int))) (ss_cons (s_ex (e_append w 1 (L2.pe_var rfl (.inl rfl)) (e_var 2 rfl (.inl rfl))))
    (ss_nil)) (ss_nil))
    (ss_nil)))
    (ss_cons (s_retv 1 (L2.pe_var rfl (.inl rfl)))
    (ss_nil)))
theorem sc__law_due : FnScope ["_law_many", "_law_items", "_law_found", "_law_number", "_law_ones_here", "_law_has", "_law_count", "_law_begin", "_law_spot", "_law_bit"] ["_law_many", "_law_items"] (defScope (topS 44)) := ⟨rfl, rfl, rfl, by decide +kernel, rfl, by decide +kernel, by decide +kernel⟩
set_option maxHeartbeats 4000000 in
theorem b__law_due {T : Tb} {k : Nat} (z : Mz T) (h : Fm T k) : ∀ (f : Addr) (cdv : Value) (A : Around) (outer : List PySem.Env) (s : Shared) (H : Hp) (E : L2.XK), CB T k (asDef T ["_law_many", "_law_items", "_law_found", "_law_number", "_law_ones_here", "_law_has", "_law_count", "_law_begin", "_law_spot", "_law_bit"] "_law_due" (defScope (topS 44)) f cdv A outer s H E) → DSs T WF (Cq Pg FU k) (asDef T ["_law_many", "_law_items", "_law_found", "_law_number", "_law_ones_here", "_law_has", "_law_count", "_law_begin", "_law_spot", "_law_bit"] "_law_due" (defScope (topS 44)) f cdv A outer s H E) (defBody (topS 44)) s__law_due_v4 :=
  fun f cdv A outer s H E w =>
    ss_cons (s_set w 2 (e_var 0 rfl (.inl rfl)) rfl (.inl rfl) (.inr rfl))
    (ss_cons (s_for w (i_rng1 (b_var 1 rfl (.inl rfl)) z.m_range) (g_v w 3 rfl (.inl rfl) (.inr rfl)) (ss_cons (s_set w 4 (e_fn w h.c__law_ones rfl (a_cons (b_var 3 rfl (.inl rfl)) (a_nil))) rfl (.inr rfl) (.inl rfl))
    (ss_cons (s_setc w 5 [("_law_spot", 8)] rfl rfl rfl (i_rng1 (b_of (e_bin w (b_of (e_int)) (b_var 0 rfl (.inl rfl)))) z.m_range) (fun _ _ _ _ _ => g_v (w.blk _ _ _ _ _) 8 rfl (by first | exact .inl rfl | exact .inr rfl) (by first | exact .inr rfl | exact .inl rfl)) (fun _ _ _ _ _ => c_nil) (fun _ _ _ _ _ => e_biT (bi := .int) (bi_int) z.m_int (by first | exact PyProof.Rows.boot_int | exact PySem.boot_int) (a_cons (b_of (e_cmp (w.blk _ _ _ _ _) (b_of (e_lc (w.blk _ _ _ _ _) [("_law_bit", 9)] (i_seq (w.blk _ _ _ _ _) (e_var 4 rfl (by first | exact .inl rfl | exact .inr (.inl rfl) | exact .inr (.inr rfl)))) (fun _ _ _ _ _ => g_v ((w.blk _ _ _ _ _).blk _ _ _ _ _) 9 rfl (by first | exact .inl rfl | exact .inr rfl) (by first | exact .inr rfl | exact .inl rfl)) (fun _ _ _ _ _ => c_one (t_cmp ((w.blk _ _ _ _ _).blk _ _ _ _ _) (b_of (e_bin ((w.blk _ _ _ _ _).blk _ _ _ _ _) (b_of (e_biT (bi := .int) (bi_int) z.m_int (by first | exact PyProof.Rows.boot_int | exact PySem.boot_int) (a_cons (b_of (e_bin ((w.blk _ _ _ _ _).blk _ _ _ _ _) (b_var 8 rfl (by first | exact .inl rfl | exact .inr (.inl rfl) | exact .inr (.inr rfl))) (b_of (e_fn ((w.blk _ _ _ _ _).blk _ _ _ _ _) h.c__law_power rfl (a_cons (b_var 9 rfl (by first | exact .inl rfl | exact .inr (.inl rfl) | exact .inr (.inr rfl))) (a_nil)))))) (a_nil)))) (b_of (e_int)))) (b_of (e_int)))) (fun _ _ _ _ _ => e_var 9 rfl (by first | exact .inl rfl | exact .inr (.inl rfl) | exact .inr (.inr rfl))) (blkOk_by (by kernel_rfl)))) (b_of (e_lst (l_nil))))) (a_nil))) (blkOk_by (by kernel_rfl)))
    (ss_cons (s_set w 6 (e_biB (bi := .sum) (bi_sum w.eK w.calm) z.m_sum (by first | exact PyProof.Rows.boot_sum | exact PySem.boot_sum) (a_cons (b_of (e_slc w (b_var 5 rfl (.inl rfl)) (p_none) (p_some (b_var 0 rfl (.inl rfl))))) (a_nil))) rfl (.inl rfl) (.inr rfl))
    (ss_cons (s_for w (i_rng1 (b_of (e_int)) z.m_range) (g_v w 7 rfl (.inl rfl) (.inr rfl)) (ss_cons (s_if (t_chn w (b_of (e_int)) (b_var 6 rfl (.inl rfl)) (b_var 2 rfl (.inl rfl))) (ss_cons (s_set w 2 (e_var 6 rfl (.inl rfl)) rfl (.inl rfl) (.inr rfl))
    (ss_nil)) (ss_nil))
    (ss_cons (s_set w 6 (e_bin w (b_of (e_bin w (b_var 6 rfl (.inl rfl)) (b_of (e_idx w (b_var 5 rfl (.inl rfl)) (b_var 7 rfl (.inl rfl)))))) (b_of (e_idx w (b_var 5 rfl (.inl rfl)) (b_of (e_bin w (b_var 7 rfl (.inl rfl)) (b_var 0 rfl (.inl rfl))))))) rfl (.inl rfl) (.inr rfl))
    (ss_nil))))
    (ss_nil))))))
    (ss_cons (s_retv 2 (L2.pe_var rfl (.inl rfl)))
    (ss_nil)))
theorem sc__law_right : FnScope ["_law_generator_here", "_law_many", "_law_begin", "_law_last", "_law_places", "_law_items", "_law_told", "_law_count"] ["_law_generator_here"] (defScope (topS 45)) := ⟨rfl, rfl, rfl, by decide +kernel, rfl, by decide +kernel, by decide +kernel⟩
set_option maxHeartbeats 4000000 in
theorem b__law_right {T : Tb} {k : Nat} (z : Mz T) (h : Fm T k) : ∀ (f : Addr) (cdv : Value) (A : Around) (outer : List PySem.Env) (s : Shared) (H : Hp) (E : L2.XK), CB T k (asDef T ["_law_generator_here", "_law_many", "_law_begin", "_law_last", "_law_places", "_law_items", "_law_told", "_law_count"] "_law_right" (defScope (topS 45)) f cdv A outer s H E) → DSs T WF (Cq Pg FU k) (asDef T ["_law_generator_here", "_law_many", "_law_begin", "_law_last", "_law_places", "_law_items", "_law_told", "_law_count"] "_law_right" (defScope (topS 45)) f cdv A outer s H E) (defBody (topS 45)) s__law_right_v23 :=
  fun f cdv A outer s H E w =>
    ss_cons (s_set w 1 (e_bin w (b_of (e_int)) (b_of (e_fn w h.c__law_random rfl (a_cons (b_var 0 rfl (.inl rfl)) (a_cons (b_of (e_int)) (a_nil)))))) rfl (.inl rfl) (.inr rfl))
    (ss_cons (s_par2 w 2 3 (v_cons (e_fn w h.c__law_random rfl (a_cons (b_var 0 rfl (.inl rfl)) (a_cons (b_of (e_int)) (a_nil)))) (v_cons (e_var 1 rfl (.inl rfl)) (v_nil))) rfl rfl rfl rfl)
    (ss_cons (s_set w 4 (e_lrg2 w (b_var 2 rfl (.inl rfl)) (b_of (e_bin w (b_var 2 rfl (.inl rfl)) (b_var 1 rfl (.inl rfl)))) z.m_list z.m_range) rfl (.inl rfl) (.inr rfl))
    (ss_cons (s_for w (i_seq w (e_lst (l_cons (e_int) (l_cons (e_var 1 rfl (.inl rfl)) (l_cons (e_bin w (b_of (e_int)) (b_of (e_fn w h.c__law_random rfl (a_cons (b_var 0 rfl (.inl rfl)) (a_cons (b_var 1 rfl (.inl rfl)) (a_nil)))))) (l_cons (e_bin w (b_of (e_int)) (b_of (e_fn w h.c__law_random rfl (a_cons (b_var 0 rfl (.inl rfl)) (a_cons (b_var 1 rfl (.inl rfl)) (a_nil)))))) (l_nil))))))) (g_v w 5 rfl (.inl rfl) (.inr rfl)) (ss_cons (s_set w 6 (e_fn w h.c_neighbour_distance rfl (a_cons (b_var 1 rfl (.inl rfl)) (a_cons (b_var 5 rfl (.inl rfl)) (a_nil)))) rfl (.inl rfl) (.inr rfl))
    (ss_cons (s_if (t_not (t_val w (b_of (e_fn w h.c__law_same rfl (a_cons (b_of (e_lst (l_cons (e_var 6 rfl (.inl rfl)) (l_cons (e_fn w h.c_least_lost rfl (a_cons (b_var 4 rfl (.inl rfl)) (a_cons (b_var 5 rfl (.inl rfl)) (a_nil)))) (l_nil))))) (a_cons (b_of (e_lst (l_cons (e_fn w h.c__law_due rfl (a_cons (b_var 1 rfl (.inl rfl)) (a_cons (b_var 5 rfl (.inl rfl)) (a_nil)))) (l_cons (e_var 6 rfl (.inl rfl)) (l_nil))))) (a_nil))))))) (ss_cons (s_ret (e_bool))
    (ss_nil)) (ss_nil))
    (ss_nil))))
    (ss_cons (s_for w (i_rng2 (b_of (e_int)) (b_of (e_bin w (b_var 1 rfl (.inl rfl)) (b_of (e_int)))) z.m_range) (g_v w 5 rfl (.inl rfl) (.inr rfl)) (ss_cons (s_set w 6 (e_fnK w h.k_neighbour_distance_0 rfl (k_cons (b_var 5 rfl (.inl rfl)) (k_cons (b_var 1 rfl (.inl rfl)) (k_nil)))) rfl (.inl rfl) (.inr rfl))
    (ss_cons (s_if (t_w (w_or (t_cmp w (b_var 6 rfl (.inl rfl)) (b_var 3 rfl (.inl rfl))) (w_or1 (t_cmp w (b_of (e_fn w h.c_neighbour_distance rfl (a_cons (b_of (e_bin w (b_var 1 rfl (.inl rfl)) (b_of (e_int)))) (a_cons (b_var 5 rfl (.inl rfl)) (a_nil))))) (b_var 6 rfl (.inl rfl)))))) (ss_cons (s_ret (e_bool))
    (ss_nil)) (ss_nil))
    (ss_cons (s_set w 3 (e_var 6 rfl (.inl rfl)) rfl (.inl rfl) (.inr rfl))
    (ss_nil)))))
    (ss_cons (s_set w 7 (e_fn w h.c__law_random rfl (a_cons (b_var 0 rfl (.inl rfl)) (a_cons (b_of (e_bin w (b_var 1 rfl (.inl rfl)) (b_of (e_int)))) (a_nil)))) rfl (.inl rfl) (.inr rfl))
    (ss_cons (s_ret (e_fn w h.c__law_same rfl (a_cons (b_of (e_fn w h.c_distance rfl (a_cons (b_of (e_int)) (a_cons (b_var 4 rfl (.inl rfl)) (a_cons (b_var 7 rfl (.inl rfl)) (a_nil)))))) (a_cons (b_of (e_fn w h.c_neighbour_distance rfl (a_cons (b_var 1 rfl (.inl rfl)) (a_cons (b_of (e_biB (bi := .min) (bi_min w.eK w.calm) z.m_min (by first | exact PyProof.Rows.boot_min | exact PySem.boot_min) (a_cons (b_var 7 rfl (.inl rfl)) (a_cons (b_var 1 rfl (.inl rfl)) (a_nil))))) (a_nil))))) (a_nil)))))
    (ss_nil)))))))
theorem sc__law_halves_right : FnScope ["_law_many", "_law_items", "_law_half", "_law_part", "_law_due_here"] ["_law_many", "_law_items"] (defScope (topS 46)) := ⟨rfl, rfl, rfl, by decide +kernel, rfl, by decide +kernel, by decide +kernel⟩
set_option maxHeartbeats 4000000 in
theorem b__law_halves_right {T : Tb} {k : Nat} (z : Mz T) (h : Fm T k) : ∀ (f : Addr) (cdv : Value) (A : Around) (outer : List PySem.Env) (s : Shared) (H : Hp) (E : L2.XK), CB T k (asDef T ["_law_many", "_law_items", "_law_half", "_law_part", "_law_due_here"] "_law_halves_right" (defScope (topS 46)) f cdv A outer s H E) → DSs T WF (Cq Pg FU k) (asDef T ["_law_many", "_law_items", "_law_half", "_law_part", "_law_due_here"] "_law_halves_right" (defScope (topS 46)) f cdv A outer s H E) (defBody (topS 46)) s__law_halves_right :=
  fun f cdv A outer s H E w =>
    ss_cons (s_par2 w 2 3 (v_cons (e_bin w (b_var 0 rfl (.inl rfl)) (b_of (e_int))) (v_cons (e_bin w (b_var 1 rfl (.inl rfl)) (b_of (e_int))) (v_nil))) rfl rfl rfl rfl)
    (ss_cons (s_set w 4 (e_fn w h.c_neighbour_distance rfl (a_cons (b_var 2 rfl (.inl rfl)) (a_cons (b_var 3 rfl (.inl rfl)) (a_nil)))) rfl (.inl rfl) (.inr rfl))
    (ss_cons (s_if (t_w (w_and (t_cmp w (b_of (e_bin w (b_of (e_biT (bi := .int) (bi_int) z.m_int (by first | exact PyProof.Rows.boot_int | exact PySem.boot_int) (a_cons (b_var 1 rfl (.inl rfl)) (a_nil)))) (b_of (e_int)))) (b_of (e_int))) (w_and1 (t_cmp w (b_of (e_bin w (b_var 3 rfl (.inl rfl)) (b_of (e_int)))) (b_var 2 rfl (.inl rfl)))))) (ss_cons (s_set w 4 (e_biB (bi := .min) (bi_min w.eK w.calm) z.m_min (by first | exact PyProof.Rows.boot_min | exact PySem.boot_min) (a_cons (b_var 4 rfl (.inl rfl)) (a_cons (b_of (e_bin w (b_of (e_fn w h.c_neighbour_distance rfl (a_cons (b_of (e_bin w (b_var 0 rfl (.inl rfl)) (b_var 2 rfl (.inl rfl)))) (a_cons (b_of (e_bin w (b_var 3 rfl (.inl rfl)) (b_of (e_int)))) (a_nil))))) (b_of (e_fn w h.c_neighbour_distance rfl (a_cons (b_var 2 rfl (.inl rfl)) (a_cons (b_of (e_bin w (b_var 3 rfl (.inl rfl)) (b_of (e_int)))) (a_nil))))))) (a_nil)))) rfl (.inl rfl) (.inr rfl))
    (ss_nil)) (ss_nil))
    (ss_cons (s_ret (e_fn w h.c__law_same rfl (a_cons (b_of (e_fn w h.c_neighbour_distance rfl (a_cons (b_var 0 rfl (.inl rfl)) (a_cons (b_var 1 rfl (.inl rfl)) (a_nil))))) (a_cons (b_var 4 rfl (.inl rfl)) (a_nil)))))
    (ss_nil))))
theorem sc__law_great_right : FnScope ["_law_generator_here", "_law_turn", "_law_many", "_law_items", "_law_width", "_law_ones_here", "_law_bit"] ["_law_generator_here"] (defScope (topS 47)) := ⟨rfl, rfl, rfl, by decide +kernel, rfl, by decide +kernel, by decide +kernel⟩
set_option maxHeartbeats 4000000 in
theorem b__law_great_right {T : Tb} {k : Nat} (z : Mz T) (h : Fm T k) : ∀ (f : Addr) (cdv : Value) (A : Around) (outer : List PySem.Env) (s : Shared) (H : Hp) (E : L2.XK), CB T k (asDef T ["_law_generator_here", "_law_turn", "_law_many", "_law_items", "_law_width", "_law_ones_here", "_law_bit"] "_law_great_right" (defScope (topS 47)) f cdv A outer s H E) → DSs T WF (Cq Pg FU k) (asDef T ["_law_generator_here", "_law_turn", "_law_many", "_law_items", "_law_width", "_law_ones_here", "_law_bit"] "_law_great_right" (defScope (topS 47)) f cdv A outer s H E) (defBody (topS 47)) s__law_great_right_v25 :=
  fun f cdv A outer s H E w =>
    ss_cons (s_for w (i_rng1 (b_of (e_int)) z.m_range) (g_v w 1 rfl (.inl rfl) (.inr rfl)) (ss_cons (s_set w 2 (e_bin w (b_of (e_int)) (b_of (e_fn w h.c__law_random rfl (a_cons (b_var 0 rfl (.inl rfl)) (a_cons (b_of (e_bin w (b_of (e_int)) (b_of (e_int)))) (a_nil)))))) rfl (.inl rfl) (.inr rfl))
    (ss_cons (s_set w 3 (e_bin w (b_of (e_int)) (b_of (e_fn w h.c__law_random rfl (a_cons (b_var 0 rfl (.inl rfl)) (a_cons (b_of (e_idx w (b_of (e_lst (l_cons (e_bin w (b_var 2 rfl (.inl rfl)) (b_of (e_int))) (l_cons (e_int) (l_cons (e_bin w (b_of (e_int)) (b_of (e_int))) (l_nil)))))) (b_var 1 rfl (.inl rfl)))) (a_nil)))))) rfl (.inr rfl) (.inl rfl))
    (ss_cons (s_if (t_w (w_and (t_cmp w (b_var 3 rfl (.inr (.inl rfl))) (b_var 2 rfl (.inl rfl))) (w_and1 (t_not (t_val w (b_of (e_fn w h.c__law_halves_right rfl (a_cons (b_var 2 rfl (.inl rfl)) (a_cons (b_var 3 rfl (.inr (.inl rfl))) (a_nil)))))))))) (ss_cons (s_ret (e_bool))
    (ss_nil)) (ss_nil))
    (ss_nil)))))
    (ss_cons (s_parT w (n_cons w 4 (n_cons w 3 (n_nil) rfl (.inr rfl) (.inl rfl)) rfl (.inl rfl) (.inr rfl)) (v_cons (e_bin w (b_of (e_int)) (b_of (e_fn w h.c__law_random rfl (a_cons (b_var 0 rfl (.inl rfl)) (a_cons (b_of (e_int)) (a_nil)))))) (v_cons (e_bin w (b_of (e_int)) (b_of (e_fn w h.c__law_random rfl (a_cons (b_var 0 rfl (.inl rfl)) (a_cons (b_of (e_int)) (a_nil)))))) (v_nil))))
    (ss_cons (s_set w 5 (e_biB (bi := .max) (bi_max w.eK w.calm) z.m_max (by first | exact PyProof.Rows.boot_max | exact PySem.boot_max) (a_cons (b_of (e_lc w [("_law_bit", 6)] (i_rng1 (b_of (e_int)) z.m_range) (fun _ _ _ _ _ => g_v (w.blk _ _ _ _ _) 6 rfl (.inl rfl) (.inr rfl)) (fun _ _ _ _ _ => c_one (t_cmp (w.blk _ _ _ _ _) (b_of (e_fn (w.blk _ _ _ _ _) h.c__law_power rfl (a_cons (b_var 6 rfl (.inl rfl)) (a_nil)))) (b_var 3 rfl (.inr (.inl rfl))))) (fun _ _ _ _ _ => e_var 6 rfl (.inl rfl)) (blkOk_by (by kernel_rfl)))) (a_nil))) rfl (.inl rfl) (.inr rfl))
    (ss_cons (s_ret (e_fn w h.c__law_same rfl (a_cons (b_of (e_fn w h.c_neighbour_distance rfl (a_cons (b_of (e_fn w h.c__law_power rfl (a_cons (b_var 4 rfl (.inl rfl)) (a_nil)))) (a_cons (b_var 3 rfl (.inr (.inl rfl))) (a_nil))))) (a_cons (b_of (e_fn w h.c__law_power rfl (a_cons (b_of (e_bin w (b_var 4 rfl (.inl rfl)) (b_var 5 rfl (.inl rfl)))) (a_nil)))) (a_nil)))))
    (ss_nil))))
theorem sc_law : FnScope ["_law_script", "_law_index", "_law_told"] ["_law_script"] (defScope (topS 48)) := ⟨rfl, rfl, rfl, by decide +kernel, rfl, by decide +kernel, by decide +kernel⟩
set_option maxHeartbeats 4000000 in
theorem b_law {T : Tb} {k : Nat} (z : Mz T) (h : Fm T k) : ∀ (f : Addr) (cdv : Value) (A : Around) (outer : List PySem.Env) (s : Shared) (H : Hp) (E : L2.XK), CB T k (asDef T ["_law_script", "_law_index", "_law_told"] "law" (defScope (topS 48)) f cdv A outer s H E) → DSs T WF (Cq Pg FU k) (asDef T ["_law_script", "_law_index", "_law_told"] "law" (defScope (topS 48)) f cdv A outer s H E) (defBody (topS 48)) s_law_v42 :=
  fun f cdv A outer s H E w =>
    ss_cons (s_for w (i_rng1 (b_of (e_int)) z.m_range) (g_v w 1 rfl (.inl rfl) (.inr rfl)) (ss_cons (s_if (t_not (t_val w (b_of (e_fnN w h.c__law_right rfl (e_fn w h.c__law_generator rfl (a_cons (b_var 0 rfl (.inl rfl)) (a_cons (b_var 1 rfl (.inl rfl)) (a_nil)))) (a_nil))))) (ss_cons (s_ret (e_bool))
    (ss_nil)) (ss_nil))
    (ss_nil)))
    (ss_cons (s_if (t_not (t_val w (b_of (e_fnN w h.c__law_great_right rfl (e_fn w h.c__law_generator rfl (a_cons (b_var 0 rfl (.inl rfl)) (a_cons (b_of (e_int)) (a_nil)))) (a_nil))))) (ss_cons (s_ret (e_bool))
    (ss_nil)) (ss_nil))
    (ss_cons (s_set w 2 (e_lst (l_cons (e_fn w h.c_neighbour_distance rfl (a_cons (b_of (e_int)) (a_cons (b_of (e_int)) (a_nil)))) (l_cons (e_fn w h.c_neighbour_distance rfl (a_cons (b_of (e_int)) (a_cons (b_of (e_int)) (a_nil)))) (l_cons (e_fn w h.c_neighbour_distance rfl (a_cons (b_of (e_int)) (a_cons (b_of (e_int)) (a_nil)))) (l_cons (e_fn w h.c_neighbour_distance rfl (a_cons (b_of (e_int)) (a_cons (b_of (e_int)) (a_nil)))) (l_nil)))))) rfl (.inl rfl) (.inr rfl))
    (ss_cons (s_set w 2 (e_bin w (b_var 2 rfl (.inl rfl)) (b_of (e_lst (l_cons (e_fn w h.c_neighbour_distance rfl (a_cons (b_of (e_int)) (a_cons (b_of (e_int)) (a_nil)))) (l_cons (e_fn w h.c_neighbour_distance rfl (a_cons (b_of (e_bin w (b_of (e_int)) (b_of (e_int)))) (a_cons (b_of (e_int)) (a_nil)))) (l_cons (e_fn w h.c_neighbour_distance rfl (a_cons (b_of (e_bin w (b_of (e_int)) (b_of (e_int)))) (a_cons (b_of (e_int)) (a_nil)))) (l_nil))))))) rfl (.inl rfl) (.inr rfl))
    (ss_cons (s_ret (e_fn w h.c__law_same rfl (a_cons (b_var 2 rfl (.inl rfl)) (a_cons (b_of (e_lst (l_cons (e_int) (l_cons (e_int) (l_cons (e_int) (l_cons (e_int) (l_cons (e_none) (l_cons (e_bin w (b_of (e_int)) (b_of (e_int))) (l_cons (e_bin w (b_of (e_int)) (b_of (e_bin w (b_of (e_int)) (b_of (e_int))))) (l_nil)))))))))) (a_nil)))))
    (ss_nil)))))
/-- the defs as they stand -/
structure Lz (T : Tb) : Prop where
  z : Mz T
  d_is_whole : ∃ f fd, DfAt T "is_whole" (topS 7) ["value"] ["value"] f fd
  d_is_between : ∃ f fd, DfAt T "is_between" (topS 8) ["value", "low", "high"] ["value", "low", "high"] f fd
  d_check_number : ∃ f fd, DfAt T "check_number" (topS 9) ["number", "low", "high"] ["number", "low", "high"] f fd
  d_power_of_two : ∃ f fd, DfAt T "power_of_two" (topS 10) ["many"] ["many"] f fd
  d_twos : ∃ f fd, DfAt T "twos" (topS 11) ["number", "found"] ["number"] f fd
  d_good_row : ∃ f fd, DfAt T "good_row" (topS 12) ["places", "order", "numbers", "left", "sums", "at", "taken", "have", "place"] ["places"] f fd
  d_items_counted : ∃ f fd, DfAt T "items_counted" (topS 13) ["width", "numbers", "count", "number"] ["width", "numbers", "count"] f fd
  d_is_width : ∃ f fd, DfAt T "is_width" (topS 15) ["value"] ["value"] f fd
  d_check_width : ∃ f fd, DfAt T "check_width" (topS 16) ["width"] ["width"] f fd
  d_is_of_width : ∃ f fd, DfAt T "is_of_width" (topS 17) ["width", "value"] ["width", "value"] f fd
  d_rises : ∃ f fd, DfAt T "rises" (topS 18) ["numbers", "at"] ["numbers"] f fd
  d_are_places : ∃ f fd, DfAt T "are_places" (topS 19) ["width", "value", "item"] ["width", "value"] f fd
  d_check_places : ∃ f fd, DfAt T "check_places" (topS 20) ["width", "places"] ["width", "places"] f fd
  d_halves : ∃ f fd, DfAt T "halves" (topS 22) ["places", "level", "even", "place"] ["places", "level"] f fd
  d_pairs : ∃ f fd, DfAt T "pairs" (topS 23) ["many"] ["many"] f fd
  d_best_splits : ∃ f fd, DfAt T "best_splits" (topS 24) ["even", "odd", "costs", "splits", "many", "low", "high", "told", "least", "found", "at", "cost"] ["even", "odd"] f fd
  d_tree_of : ∃ f fd, DfAtD T "tree_of" (topS 25) ["places", "level", "even", "odd", "first", "second", "costs", "splits"] ["places", "level"] [.int 0] f fd
  d_lost_places : ∃ f fd, DfAt T "lost_places" (topS 26) ["branch", "many", "places", "_", "splits", "even", "odd", "low", "high", "found", "part", "lost"] ["branch", "many"] f fd
  d_check_code : ∃ f fd, DfAt T "check_code" (topS 28) ["width", "places", "count"] ["width", "places", "count"] f fd
  d_items_of_code : ∃ f fd, DfAt T "items_of_code" (topS 29) ["width", "places", "count"] ["width", "places", "count"] f fd
  d_distance_of : ∃ f fd, DfAt T "distance_of" (topS 31) ["places", "many"] ["places", "many"] f fd
  d_distance : ∃ f fd, DfAt T "distance" (topS 32) ["width", "places", "count"] ["width", "places", "count"] f fd
  d_least_lost : ∃ f fd, DfAt T "least_lost" (topS 33) ["places", "j"] ["places", "j"] f fd
  d_apart_of : ∃ f fd, DfAt T "apart_of" (topS 34) ["many", "items", "known", "half", "part", "found"] ["many", "items", "known"] f fd
  d_neighbour_distance : ∃ f fd, DfAt T "neighbour_distance" (topS 35) ["many", "items"] ["many", "items"] f fd
  d__law_hash : ∃ f fd, DfAt T "_law_hash" (topS 37) ["_law_seed", "_law_index", "_law_mixed"] ["_law_seed", "_law_index"] f fd
  d__law_random : ∃ f fd, DfAt T "_law_random" (topS 38) ["_law_generator_here", "_law_bound", "_law_drawn", "_law_turn"] ["_law_generator_here", "_law_bound"] f fd
  d__law_cell : ∃ f fd, DfAt T "_law_cell" (topS 39) ["_law_script", "_law_index"] ["_law_script", "_law_index"] f fd
  d__law_generator : ∃ f fd, DfAt T "_law_generator" (topS 40) ["_law_script", "_law_index", "_law_seed"] ["_law_script", "_law_index"] f fd
  d__law_power : ∃ f fd, DfAt T "_law_power" (topS 41) ["_law_many", "_law_found", "_law_turn"] ["_law_many"] f fd
  d__law_same : ∃ f fd, DfAt T "_law_same" (topS 42) ["_law_told", "_law_due_here"] ["_law_told", "_law_due_here"] f fd
  d__law_ones : ∃ f fd, DfAt T "_law_ones" (topS 43) ["_law_number", "_law_found", "_law_bit"] ["_law_number"] f fd
  d__law_due : ∃ f fd, DfAt T "_law_due" (topS 44) ["_law_many", "_law_items", "_law_found", "_law_number", "_law_ones_here", "_law_has", "_law_count", "_law_begin", "_law_spot", "_law_bit"] ["_law_many", "_law_items"] f fd
  d__law_right : ∃ f fd, DfAt T "_law_right" (topS 45) ["_law_generator_here", "_law_many", "_law_begin", "_law_last", "_law_places", "_law_items", "_law_told", "_law_count"] ["_law_generator_here"] f fd
  d__law_halves_right : ∃ f fd, DfAt T "_law_halves_right" (topS 46) ["_law_many", "_law_items", "_law_half", "_law_part", "_law_due_here"] ["_law_many", "_law_items"] f fd
  d__law_great_right : ∃ f fd, DfAt T "_law_great_right" (topS 47) ["_law_generator_here", "_law_turn", "_law_many", "_law_items", "_law_width", "_law_ones_here", "_law_bit"] ["_law_generator_here"] f fd
  d_law : ∃ f fd, DfAt T "law" (topS 48) ["_law_script", "_law_index", "_law_told"] ["_law_script"] f fd
theorem fam {T : Tb} (l : Lz T) : ∀ k : Nat, Fm T k
  | 0 => ⟨let ⟨_, _, q⟩ := l.d_is_whole; cal_zero q, let ⟨_, _, q⟩ := l.d_is_between; cal_zero q, let ⟨_, _, q⟩ := l.d_check_number; cal_zero q, let ⟨_, _, q⟩ := l.d_power_of_two; cal_zero q, let ⟨_, _, q⟩ := l.d_twos; cal_zero q, let ⟨_, _, q⟩ := l.d_good_row; cal_zero q, let ⟨_, _, q⟩ := l.d_items_counted; cal_zero q, let ⟨_, _, q⟩ := l.d_is_width; cal_zero q, let ⟨_, _, q⟩ := l.d_check_width; cal_zero q, let ⟨_, _, q⟩ := l.d_is_of_width; cal_zero q, let ⟨_, _, q⟩ := l.d_rises; cal_zero q, let ⟨_, _, q⟩ := l.d_are_places; cal_zero q, let ⟨_, _, q⟩ := l.d_check_places; cal_zero q, let ⟨_, _, q⟩ := l.d_halves; cal_zero q, let ⟨_, _, q⟩ := l.d_pairs; cal_zero q, let ⟨_, _, q⟩ := l.d_best_splits; cal_zero q, let ⟨_, _, q⟩ := l.d_tree_of; calT_zero q, let ⟨_, _, q⟩ := l.d_lost_places; cal_zero q, let ⟨_, _, q⟩ := l.d_check_code; cal_zero q, let ⟨_, _, q⟩ := l.d_items_of_code; cal_zero q, let ⟨_, _, q⟩ := l.d_distance_of; cal_zero q, let ⟨_, _, q⟩ := l.d_distance; cal_zero q, let ⟨_, _, q⟩ := l.d_least_lost; cal_zero q, let ⟨_, _, q⟩ := l.d_apart_of; cal_zero q, let ⟨_, _, q⟩ := l.d_neighbour_distance; cal_zero q, let ⟨_, _, q⟩ := l.d__law_hash; cal_zero q, let ⟨_, _, q⟩ := l.d__law_random; cal_zero q, let ⟨_, _, q⟩ := l.d__law_cell; cal_zero q, let ⟨_, _, q⟩ := l.d__law_generator; cal_zero q, let ⟨_, _, q⟩ := l.d__law_power; cal_zero q, let ⟨_, _, q⟩ := l.d__law_same; cal_zero q, let ⟨_, _, q⟩ := l.d__law_ones; cal_zero q, let ⟨_, _, q⟩ := l.d__law_due; cal_zero q, let ⟨_, _, q⟩ := l.d__law_right; cal_zero q, let ⟨_, _, q⟩ := l.d__law_halves_right; cal_zero q, let ⟨_, _, q⟩ := l.d__law_great_right; cal_zero q, let ⟨_, _, q⟩ := l.d_law; cal_zero q, let ⟨_, _, q⟩ := l.d_tree_of; calD_zero q, let ⟨_, _, q⟩ := l.d_neighbour_distance; calK_zero q bk_neighbour_distance_0⟩
  | k + 1 => ⟨let ⟨_, _, q⟩ := l.d_is_whole; cal_step (df := d_is_whole) (i := 0) q rfl rfl rfl (b_is_whole l.z (fam l k)), let ⟨_, _, q⟩ := l.d_is_between; cal_step (df := d_is_between) (i := 1) q rfl rfl rfl (b_is_between l.z (fam l k)), let ⟨_, _, q⟩ := l.d_check_number; cal_step (df := d_check_number) (i := 2) q rfl rfl rfl (b_check_number l.z (fam l k)), let ⟨_, _, q⟩ := l.d_power_of_two; cal_step (df := d_power_of_two) (i := 3) q rfl rfl rfl (b_power_of_two l.z (fam l k)), let ⟨_, _, q⟩ := l.d_twos; cal_step (df := d_twos) (i := 4) q rfl rfl rfl (b_twos l.z (fam l k)), let ⟨_, _, q⟩ := l.d_good_row; cal_step (df := d_good_row) (i := 5) q rfl rfl rfl (b_good_row l.z (fam l k)), let ⟨_, _, q⟩ := l.d_items_counted; cal_step (df := d_items_counted) (i := 7) q rfl rfl rfl (b_items_counted l.z (fam l k)), let ⟨_, _, q⟩ := l.d_is_width; cal_step (df := d_is_width) (i := 8) q rfl rfl rfl (b_is_width l.z (fam l k)), let ⟨_, _, q⟩ := l.d_check_width; cal_step (df := d_check_width) (i := 9) q rfl rfl rfl (b_check_width l.z (fam l k)), let ⟨_, _, q⟩ := l.d_is_of_width; cal_step (df := d_is_of_width) (i := 10) q rfl rfl rfl (b_is_of_width l.z (fam l k)), let ⟨_, _, q⟩ := l.d_rises; cal_step (df := d_rises) (i := 11) q rfl rfl rfl (b_rises l.z (fam l k)), let ⟨_, _, q⟩ := l.d_are_places; cal_step (df := d_are_places) (i := 12) q rfl rfl rfl (b_are_places l.z (fam l k)), let ⟨_, _, q⟩ := l.d_check_places; cal_step (df := d_check_places) (i := 13) q rfl rfl rfl (b_check_places l.z (fam l k)), let ⟨_, _, q⟩ := l.d_halves; cal_step (df := d_halves) (i := 14) q rfl rfl rfl (b_halves l.z (fam l k)), let ⟨_, _, q⟩ := l.d_pairs; cal_step (df := d_pairs) (i := 15) q rfl rfl rfl (b_pairs l.z (fam l k)), let ⟨_, _, q⟩ := l.d_best_splits; cal_step (df := d_best_splits) (i := 16) q rfl rfl rfl (b_best_splits l.z (fam l k)), let ⟨_, _, q⟩ := l.d_tree_of; calT_step (df := d_tree_of) (i := 17) q rfl rfl rfl (b_tree_of l.z (fam l k)), let ⟨_, _, q⟩ := l.d_lost_places; cal_step (df := d_lost_places) (i := 18) q rfl rfl rfl (b_lost_places l.z (fam l k)), let ⟨_, _, q⟩ := l.d_check_code; cal_step (df := d_check_code) (i := 19) q rfl rfl rfl (b_check_code l.z (fam l k)), let ⟨_, _, q⟩ := l.d_items_of_code; cal_step (df := d_items_of_code) (i := 23) q rfl rfl rfl (b_items_of_code l.z (fam l k)), let ⟨_, _, q⟩ := l.d_distance_of; cal_step (df := d_distance_of) (i := 30) q rfl rfl rfl (b_distance_of l.z (fam l k)), let ⟨_, _, q⟩ := l.d_distance; cal_step (df := d_distance) (i := 31) q rfl rfl rfl (b_distance l.z (fam l k)), let ⟨_, _, q⟩ := l.d_least_lost; cal_step (df := d_least_lost) (i := 323) q rfl rfl rfl (b_least_lost l.z (fam l k)), let ⟨_, _, q⟩ := l.d_apart_of; cal_step (df := d_apart_of) (i := 328) q rfl rfl rfl (b_apart_of l.z (fam l k)), let ⟨_, _, q⟩ := l.d_neighbour_distance; cal_step (df := d_neighbour_distance) (i := 329) q rfl rfl rfl (b_neighbour_distance l.z (fam l k)), let ⟨_, _, q⟩ := l.d__law_hash; cal_step (df := d__law_hash) (i := 32) q rfl rfl rfl (b__law_hash l.z (fam l k)), let ⟨_, _, q⟩ := l.d__law_random; cal_step (df := d__law_random) (i := 33) q rfl rfl rfl (b__law_random l.z (fam l k)), let ⟨_, _, q⟩ := l.d__law_cell; cal_step (df := d__law_cell) (i := 34) q rfl rfl rfl (b__law_cell l.z (fam l k)), let ⟨_, _, q⟩ := l.d__law_generator; cal_step (df := d__law_generator) (i := 35) q rfl rfl rfl (b__law_generator l.z (fam l k)), let ⟨_, _, q⟩ := l.d__law_power; cal_step (df := d__law_power) (i := 39) q rfl rfl rfl (b__law_power l.z (fam l k)), let ⟨_, _, q⟩ := l.d__law_same; cal_step (df := d__law_same_v1) (i := 265) q rfl rfl rfl (b__law_same l.z (fam l k)), let ⟨_, _, q⟩ := l.d__law_ones; cal_step (df := d__law_ones) (i := 468) q rfl rfl rfl (b__law_ones l.z (fam l k)), let ⟨_, _, q⟩ := l.d__law_due; cal_step (df := d__law_due_v4) (i := 469) q rfl rfl rfl (b__law_due l.z (fam l k)), let ⟨_, _, q⟩ := l.d__law_right; cal_step (df := d__law_right_v23) (i := 470) q rfl rfl rfl (b__law_right l.z (fam l k)), let ⟨_, _, q⟩ := l.d__law_halves_right; cal_step (df := d__law_halves_right) (i := 471) q rfl rfl rfl (b__law_halves_right l.z (fam l k)), let ⟨_, _, q⟩ := l.d__law_great_right; cal_step (df := d__law_great_right_v25) (i := 472) q rfl rfl rfl (b__law_great_right l.z (fam l k)), let ⟨_, _, q⟩ := l.d_law; cal_step (df := d_law_v42) (i := 473) q rfl rfl rfl (b_law l.z (fam l k)), let ⟨_, _, q⟩ := l.d_tree_of; calD_step (df := d_tree_of) (i := 17) q rfl rfl rfl (b_tree_of l.z (fam l k)), let ⟨_, _, q⟩ := l.d_neighbour_distance; calK_step (df := d_neighbour_distance) (i := 329) q bk_neighbour_distance_0 rfl rfl rfl (b_neighbour_distance l.z (fam l k))⟩
theorem bn_is_whole : ∀ (kV doc pm : Value) (an : Option Addr) (cdv ct : Value) (us : List Value), us.length = [("value" : Str)].length → bindArgs (PySem.W.fnOf "is_whole" "is_whole" (defArgs (topS 7)) (defBody (topS 7)) (defScope (topS 7)) .none kV doc pm an cdv ct) ⟨us, []⟩ = pure ((["value"] : List Str).zip us) :=
  fun _ _ _ _ _ _ us hl => match us, hl with | [_], _ => rfl
theorem bn_is_between : ∀ (kV doc pm : Value) (an : Option Addr) (cdv ct : Value) (us : List Value), us.length = [("value" : Str), ("low" : Str), ("high" : Str)].length → bindArgs (PySem.W.fnOf "is_between" "is_between" (defArgs (topS 8)) (defBody (topS 8)) (defScope (topS 8)) .none kV doc pm an cdv ct) ⟨us, []⟩ = pure ((["value", "low", "high"] : List Str).zip us) :=
  fun _ _ _ _ _ _ us hl => match us, hl with | [_, _, _], _ => rfl
theorem bn_check_number : ∀ (kV doc pm : Value) (an : Option Addr) (cdv ct : Value) (us : List Value), us.length = [("number" : Str), ("low" : Str), ("high" : Str)].length → bindArgs (PySem.W.fnOf "check_number" "check_number" (defArgs (topS 9)) (defBody (topS 9)) (defScope (topS 9)) .none kV doc pm an cdv ct) ⟨us, []⟩ = pure ((["number", "low", "high"] : List Str).zip us) :=
  fun _ _ _ _ _ _ us hl => match us, hl with | [_, _, _], _ => rfl
theorem bn_power_of_two : ∀ (kV doc pm : Value) (an : Option Addr) (cdv ct : Value) (us : List Value), us.length = [("many" : Str)].length → bindArgs (PySem.W.fnOf "power_of_two" "power_of_two" (defArgs (topS 10)) (defBody (topS 10)) (defScope (topS 10)) .none kV doc pm an cdv ct) ⟨us, []⟩ = pure ((["many"] : List Str).zip us) :=
  fun _ _ _ _ _ _ us hl => match us, hl with | [_], _ => rfl
theorem bn_twos : ∀ (kV doc pm : Value) (an : Option Addr) (cdv ct : Value) (us : List Value), us.length = [("number" : Str)].length → bindArgs (PySem.W.fnOf "twos" "twos" (defArgs (topS 11)) (defBody (topS 11)) (defScope (topS 11)) .none kV doc pm an cdv ct) ⟨us, []⟩ = pure ((["number"] : List Str).zip us) :=
  fun _ _ _ _ _ _ us hl => match us, hl with | [_], _ => rfl
theorem bn_good_row : ∀ (kV doc pm : Value) (an : Option Addr) (cdv ct : Value) (us : List Value), us.length = [("places" : Str)].length → bindArgs (PySem.W.fnOf "good_row" "good_row" (defArgs (topS 12)) (defBody (topS 12)) (defScope (topS 12)) .none kV doc pm an cdv ct) ⟨us, []⟩ = pure ((["places"] : List Str).zip us) :=
  fun _ _ _ _ _ _ us hl => match us, hl with | [_], _ => rfl
theorem bn_items_counted : ∀ (kV doc pm : Value) (an : Option Addr) (cdv ct : Value) (us : List Value), us.length = [("width" : Str), ("numbers" : Str), ("count" : Str)].length → bindArgs (PySem.W.fnOf "items_counted" "items_counted" (defArgs (topS 13)) (defBody (topS 13)) (defScope (topS 13)) .none kV doc pm an cdv ct) ⟨us, []⟩ = pure ((["width", "numbers", "count"] : List Str).zip us) :=
  fun _ _ _ _ _ _ us hl => match us, hl with | [_, _, _], _ => rfl
theorem bn_is_width : ∀ (kV doc pm : Value) (an : Option Addr) (cdv ct : Value) (us : List Value), us.length = [("value" : Str)].length → bindArgs (PySem.W.fnOf "is_width" "is_width" (defArgs (topS 15)) (defBody (topS 15)) (defScope (topS 15)) .none kV doc pm an cdv ct) ⟨us, []⟩ = pure ((["value"] : List Str).zip us) :=
  fun _ _ _ _ _ _ us hl => match us, hl with | [_], _ => rfl
theorem bn_check_width : ∀ (kV doc pm : Value) (an : Option Addr) (cdv ct : Value) (us : List Value), us.length = [("width" : Str)].length → bindArgs (PySem.W.fnOf "check_width" "check_width" (defArgs (topS 16)) (defBody (topS 16)) (defScope (topS 16)) .none kV doc pm an cdv ct) ⟨us, []⟩ = pure ((["width"] : List Str).zip us) :=
  fun _ _ _ _ _ _ us hl => match us, hl with | [_], _ => rfl
theorem bn_is_of_width : ∀ (kV doc pm : Value) (an : Option Addr) (cdv ct : Value) (us : List Value), us.length = [("width" : Str), ("value" : Str)].length → bindArgs (PySem.W.fnOf "is_of_width" "is_of_width" (defArgs (topS 17)) (defBody (topS 17)) (defScope (topS 17)) .none kV doc pm an cdv ct) ⟨us, []⟩ = pure ((["width", "value"] : List Str).zip us) :=
  fun _ _ _ _ _ _ us hl => match us, hl with | [_, _], _ => rfl
theorem bn_rises : ∀ (kV doc pm : Value) (an : Option Addr) (cdv ct : Value) (us : List Value), us.length = [("numbers" : Str)].length → bindArgs (PySem.W.fnOf "rises" "rises" (defArgs (topS 18)) (defBody (topS 18)) (defScope (topS 18)) .none kV doc pm an cdv ct) ⟨us, []⟩ = pure ((["numbers"] : List Str).zip us) :=
  fun _ _ _ _ _ _ us hl => match us, hl with | [_], _ => rfl
theorem bn_are_places : ∀ (kV doc pm : Value) (an : Option Addr) (cdv ct : Value) (us : List Value), us.length = [("width" : Str), ("value" : Str)].length → bindArgs (PySem.W.fnOf "are_places" "are_places" (defArgs (topS 19)) (defBody (topS 19)) (defScope (topS 19)) .none kV doc pm an cdv ct) ⟨us, []⟩ = pure ((["width", "value"] : List Str).zip us) :=
  fun _ _ _ _ _ _ us hl => match us, hl with | [_, _], _ => rfl
theorem bn_check_places : ∀ (kV doc pm : Value) (an : Option Addr) (cdv ct : Value) (us : List Value), us.length = [("width" : Str), ("places" : Str)].length → bindArgs (PySem.W.fnOf "check_places" "check_places" (defArgs (topS 20)) (defBody (topS 20)) (defScope (topS 20)) .none kV doc pm an cdv ct) ⟨us, []⟩ = pure ((["width", "places"] : List Str).zip us) :=
  fun _ _ _ _ _ _ us hl => match us, hl with | [_, _], _ => rfl
theorem bn_halves : ∀ (kV doc pm : Value) (an : Option Addr) (cdv ct : Value) (us : List Value), us.length = [("places" : Str), ("level" : Str)].length → bindArgs (PySem.W.fnOf "halves" "halves" (defArgs (topS 22)) (defBody (topS 22)) (defScope (topS 22)) .none kV doc pm an cdv ct) ⟨us, []⟩ = pure ((["places", "level"] : List Str).zip us) :=
  fun _ _ _ _ _ _ us hl => match us, hl with | [_, _], _ => rfl
theorem bn_pairs : ∀ (kV doc pm : Value) (an : Option Addr) (cdv ct : Value) (us : List Value), us.length = [("many" : Str)].length → bindArgs (PySem.W.fnOf "pairs" "pairs" (defArgs (topS 23)) (defBody (topS 23)) (defScope (topS 23)) .none kV doc pm an cdv ct) ⟨us, []⟩ = pure ((["many"] : List Str).zip us) :=
  fun _ _ _ _ _ _ us hl => match us, hl with | [_], _ => rfl
theorem bn_best_splits : ∀ (kV doc pm : Value) (an : Option Addr) (cdv ct : Value) (us : List Value), us.length = [("even" : Str), ("odd" : Str)].length → bindArgs (PySem.W.fnOf "best_splits" "best_splits" (defArgs (topS 24)) (defBody (topS 24)) (defScope (topS 24)) .none kV doc pm an cdv ct) ⟨us, []⟩ = pure ((["even", "odd"] : List Str).zip us) :=
  fun _ _ _ _ _ _ us hl => match us, hl with | [_, _], _ => rfl
theorem bd_tree_of : BD "tree_of" (topS 25) ["places", "level"] 1 0 := fun _ _ _ _ _ _ _ us its hl hi => match us, its, hl, hi with | [_], [_], _, _ => ⟨_, rfl, rfl⟩
theorem be_tree_of : BD "tree_of" (topS 25) ["places", "level"] 2 1 := fun _ _ _ _ _ _ _ us its hl hi => match us, its, hl, hi with | [_, _], [_], _, _ => ⟨_, rfl, rfl⟩
theorem bn_lost_places : ∀ (kV doc pm : Value) (an : Option Addr) (cdv ct : Value) (us : List Value), us.length = [("branch" : Str), ("many" : Str)].length → bindArgs (PySem.W.fnOf "lost_places" "lost_places" (defArgs (topS 26)) (defBody (topS 26)) (defScope (topS 26)) .none kV doc pm an cdv ct) ⟨us, []⟩ = pure ((["branch", "many"] : List Str).zip us) :=
  fun _ _ _ _ _ _ us hl => match us, hl with | [_, _], _ => rfl
theorem bn_check_code : ∀ (kV doc pm : Value) (an : Option Addr) (cdv ct : Value) (us : List Value), us.length = [("width" : Str), ("places" : Str), ("count" : Str)].length → bindArgs (PySem.W.fnOf "check_code" "check_code" (defArgs (topS 28)) (defBody (topS 28)) (defScope (topS 28)) .none kV doc pm an cdv ct) ⟨us, []⟩ = pure ((["width", "places", "count"] : List Str).zip us) :=
  fun _ _ _ _ _ _ us hl => match us, hl with | [_, _, _], _ => rfl
theorem bn_items_of_code : ∀ (kV doc pm : Value) (an : Option Addr) (cdv ct : Value) (us : List Value), us.length = [("width" : Str), ("places" : Str), ("count" : Str)].length → bindArgs (PySem.W.fnOf "items_of_code" "items_of_code" (defArgs (topS 29)) (defBody (topS 29)) (defScope (topS 29)) .none kV doc pm an cdv ct) ⟨us, []⟩ = pure ((["width", "places", "count"] : List Str).zip us) :=
  fun _ _ _ _ _ _ us hl => match us, hl with | [_, _, _], _ => rfl
theorem bn_distance_of : ∀ (kV doc pm : Value) (an : Option Addr) (cdv ct : Value) (us : List Value), us.length = [("places" : Str), ("many" : Str)].length → bindArgs (PySem.W.fnOf "distance_of" "distance_of" (defArgs (topS 31)) (defBody (topS 31)) (defScope (topS 31)) .none kV doc pm an cdv ct) ⟨us, []⟩ = pure ((["places", "many"] : List Str).zip us) :=
  fun _ _ _ _ _ _ us hl => match us, hl with | [_, _], _ => rfl
theorem bn_distance : ∀ (kV doc pm : Value) (an : Option Addr) (cdv ct : Value) (us : List Value), us.length = [("width" : Str), ("places" : Str), ("count" : Str)].length → bindArgs (PySem.W.fnOf "distance" "distance" (defArgs (topS 32)) (defBody (topS 32)) (defScope (topS 32)) .none kV doc pm an cdv ct) ⟨us, []⟩ = pure ((["width", "places", "count"] : List Str).zip us) :=
  fun _ _ _ _ _ _ us hl => match us, hl with | [_, _, _], _ => rfl
theorem bn_least_lost : ∀ (kV doc pm : Value) (an : Option Addr) (cdv ct : Value) (us : List Value), us.length = [("places" : Str), ("j" : Str)].length → bindArgs (PySem.W.fnOf "least_lost" "least_lost" (defArgs (topS 33)) (defBody (topS 33)) (defScope (topS 33)) .none kV doc pm an cdv ct) ⟨us, []⟩ = pure ((["places", "j"] : List Str).zip us) :=
  fun _ _ _ _ _ _ us hl => match us, hl with | [_, _], _ => rfl
theorem bn_apart_of : ∀ (kV doc pm : Value) (an : Option Addr) (cdv ct : Value) (us : List Value), us.length = [("many" : Str), ("items" : Str), ("known" : Str)].length → bindArgs (PySem.W.fnOf "apart_of" "apart_of" (defArgs (topS 34)) (defBody (topS 34)) (defScope (topS 34)) .none kV doc pm an cdv ct) ⟨us, []⟩ = pure ((["many", "items", "known"] : List Str).zip us) :=
  fun _ _ _ _ _ _ us hl => match us, hl with | [_, _, _], _ => rfl
theorem bn_neighbour_distance : ∀ (kV doc pm : Value) (an : Option Addr) (cdv ct : Value) (us : List Value), us.length = [("many" : Str), ("items" : Str)].length → bindArgs (PySem.W.fnOf "neighbour_distance" "neighbour_distance" (defArgs (topS 35)) (defBody (topS 35)) (defScope (topS 35)) .none kV doc pm an cdv ct) ⟨us, []⟩ = pure ((["many", "items"] : List Str).zip us) :=
  fun _ _ _ _ _ _ us hl => match us, hl with | [_, _], _ => rfl
theorem bn__law_hash : ∀ (kV doc pm : Value) (an : Option Addr) (cdv ct : Value) (us : List Value), us.length = [("_law_seed" : Str), ("_law_index" : Str)].length → bindArgs (PySem.W.fnOf "_law_hash" "_law_hash" (defArgs (topS 37)) (defBody (topS 37)) (defScope (topS 37)) .none kV doc pm an cdv ct) ⟨us, []⟩ = pure ((["_law_seed", "_law_index"] : List Str).zip us) :=
  fun _ _ _ _ _ _ us hl => match us, hl with | [_, _], _ => rfl
theorem bn__law_random : ∀ (kV doc pm : Value) (an : Option Addr) (cdv ct : Value) (us : List Value), us.length = [("_law_generator_here" : Str), ("_law_bound" : Str)].length → bindArgs (PySem.W.fnOf "_law_random" "_law_random" (defArgs (topS 38)) (defBody (topS 38)) (defScope (topS 38)) .none kV doc pm an cdv ct) ⟨us, []⟩ = pure ((["_law_generator_here", "_law_bound"] : List Str).zip us) :=
  fun _ _ _ _ _ _ us hl => match us, hl with | [_, _], _ => rfl
theorem bn__law_cell : ∀ (kV doc pm : Value) (an : Option Addr) (cdv ct : Value) (us : List Value), us.length = [("_law_script" : Str), ("_law_index" : Str)].length → bindArgs (PySem.W.fnOf "_law_cell" "_law_cell" (defArgs (topS 39)) (defBody (topS 39)) (defScope (topS 39)) .none kV doc pm an cdv ct) ⟨us, []⟩ = pure ((["_law_script", "_law_index"] : List Str).zip us) :=
  fun _ _ _ _ _ _ us hl => match us, hl with | [_, _], _ => rfl
theorem bn__law_generator : ∀ (kV doc pm : Value) (an : Option Addr) (cdv ct : Value) (us : List Value), us.length = [("_law_script" : Str), ("_law_index" : Str)].length → bindArgs (PySem.W.fnOf "_law_generator" "_law_generator" (defArgs (topS 40)) (defBody (topS 40)) (defScope (topS 40)) .none kV doc pm an cdv ct) ⟨us, []⟩ = pure ((["_law_script", "_law_index"] : List Str).zip us) :=
  fun _ _ _ _ _ _ us hl => match us, hl with | [_, _], _ => rfl
theorem bn__law_power : ∀ (kV doc pm : Value) (an : Option Addr) (cdv ct : Value) (us : List Value), us.length = [("_law_many" : Str)].length → bindArgs (PySem.W.fnOf "_law_power" "_law_power" (defArgs (topS 41)) (defBody (topS 41)) (defScope (topS 41)) .none kV doc pm an cdv ct) ⟨us, []⟩ = pure ((["_law_many"] : List Str).zip us) :=
  fun _ _ _ _ _ _ us hl => match us, hl with | [_], _ => rfl
theorem bn__law_same : ∀ (kV doc pm : Value) (an : Option Addr) (cdv ct : Value) (us : List Value), us.length = [("_law_told" : Str), ("_law_due_here" : Str)].length → bindArgs (PySem.W.fnOf "_law_same" "_law_same" (defArgs (topS 42)) (defBody (topS 42)) (defScope (topS 42)) .none kV doc pm an cdv ct) ⟨us, []⟩ = pure ((["_law_told", "_law_due_here"] : List Str).zip us) :=
  fun _ _ _ _ _ _ us hl => match us, hl with | [_, _], _ => rfl
theorem bn__law_ones : ∀ (kV doc pm : Value) (an : Option Addr) (cdv ct : Value) (us : List Value), us.length = [("_law_number" : Str)].length → bindArgs (PySem.W.fnOf "_law_ones" "_law_ones" (defArgs (topS 43)) (defBody (topS 43)) (defScope (topS 43)) .none kV doc pm an cdv ct) ⟨us, []⟩ = pure ((["_law_number"] : List Str).zip us) :=
  fun _ _ _ _ _ _ us hl => match us, hl with | [_], _ => rfl
theorem bn__law_due : ∀ (kV doc pm : Value) (an : Option Addr) (cdv ct : Value) (us : List Value), us.length = [("_law_many" : Str), ("_law_items" : Str)].length → bindArgs (PySem.W.fnOf "_law_due" "_law_due" (defArgs (topS 44)) (defBody (topS 44)) (defScope (topS 44)) .none kV doc pm an cdv ct) ⟨us, []⟩ = pure ((["_law_many", "_law_items"] : List Str).zip us) :=
  fun _ _ _ _ _ _ us hl => match us, hl with | [_, _], _ => rfl
theorem bn__law_right : ∀ (kV doc pm : Value) (an : Option Addr) (cdv ct : Value) (us : List Value), us.length = [("_law_generator_here" : Str)].length → bindArgs (PySem.W.fnOf "_law_right" "_law_right" (defArgs (topS 45)) (defBody (topS 45)) (defScope (topS 45)) .none kV doc pm an cdv ct) ⟨us, []⟩ = pure ((["_law_generator_here"] : List Str).zip us) :=
  fun _ _ _ _ _ _ us hl => match us, hl with | [_], _ => rfl
theorem bn__law_halves_right : ∀ (kV doc pm : Value) (an : Option Addr) (cdv ct : Value) (us : List Value), us.length = [("_law_many" : Str), ("_law_items" : Str)].length → bindArgs (PySem.W.fnOf "_law_halves_right" "_law_halves_right" (defArgs (topS 46)) (defBody (topS 46)) (defScope (topS 46)) .none kV doc pm an cdv ct) ⟨us, []⟩ = pure ((["_law_many", "_law_items"] : List Str).zip us) :=
  fun _ _ _ _ _ _ us hl => match us, hl with | [_, _], _ => rfl
theorem bn__law_great_right : ∀ (kV doc pm : Value) (an : Option Addr) (cdv ct : Value) (us : List Value), us.length = [("_law_generator_here" : Str)].length → bindArgs (PySem.W.fnOf "_law_great_right" "_law_great_right" (defArgs (topS 47)) (defBody (topS 47)) (defScope (topS 47)) .none kV doc pm an cdv ct) ⟨us, []⟩ = pure ((["_law_generator_here"] : List Str).zip us) :=
  fun _ _ _ _ _ _ us hl => match us, hl with | [_], _ => rfl
theorem bn_law : ∀ (kV doc pm : Value) (an : Option Addr) (cdv ct : Value) (us : List Value), us.length = [("_law_script" : Str)].length → bindArgs (PySem.W.fnOf "law" "law" (defArgs (topS 48)) (defBody (topS 48)) (defScope (topS 48)) .none kV doc pm an cdv ct) ⟨us, []⟩ = pure ((["_law_script"] : List Str).zip us) :=
  fun _ _ _ _ _ _ us hl => match us, hl with | [_], _ => rfl
/-- what the top must have written -/
structure Kz (P : Program) (K : PySem.W.Frag) : Prop where
  d_is_whole : ∃ f fd, DfQ K "is_whole" (topS 7) ["value"] f fd
  d_is_between : ∃ f fd, DfQ K "is_between" (topS 8) ["value", "low", "high"] f fd
  d_check_number : ∃ f fd, DfQ K "check_number" (topS 9) ["number", "low", "high"] f fd
  d_power_of_two : ∃ f fd, DfQ K "power_of_two" (topS 10) ["many"] f fd
  d_twos : ∃ f fd, DfQ K "twos" (topS 11) ["number"] f fd
  d_good_row : ∃ f fd, DfQ K "good_row" (topS 12) ["places"] f fd
  d_items_counted : ∃ f fd, DfQ K "items_counted" (topS 13) ["width", "numbers", "count"] f fd
  d_is_width : ∃ f fd, DfQ K "is_width" (topS 15) ["value"] f fd
  d_check_width : ∃ f fd, DfQ K "check_width" (topS 16) ["width"] f fd
  d_is_of_width : ∃ f fd, DfQ K "is_of_width" (topS 17) ["width", "value"] f fd
  d_rises : ∃ f fd, DfQ K "rises" (topS 18) ["numbers"] f fd
  d_are_places : ∃ f fd, DfQ K "are_places" (topS 19) ["width", "value"] f fd
  d_check_places : ∃ f fd, DfQ K "check_places" (topS 20) ["width", "places"] f fd
  d_halves : ∃ f fd, DfQ K "halves" (topS 22) ["places", "level"] f fd
  d_pairs : ∃ f fd, DfQ K "pairs" (topS 23) ["many"] f fd
  d_best_splits : ∃ f fd, DfQ K "best_splits" (topS 24) ["even", "odd"] f fd
  d_tree_of : ∃ f fd, DfQD K "tree_of" (topS 25) ["places", "level"] [.int 0] f fd
  d_lost_places : ∃ f fd, DfQ K "lost_places" (topS 26) ["branch", "many"] f fd
  d_check_code : ∃ f fd, DfQ K "check_code" (topS 28) ["width", "places", "count"] f fd
  d_items_of_code : ∃ f fd, DfQ K "items_of_code" (topS 29) ["width", "places", "count"] f fd
  d_distance_of : ∃ f fd, DfQ K "distance_of" (topS 31) ["places", "many"] f fd
  d_distance : ∃ f fd, DfQ K "distance" (topS 32) ["width", "places", "count"] f fd
  d_least_lost : ∃ f fd, DfQ K "least_lost" (topS 33) ["places", "j"] f fd
  d_apart_of : ∃ f fd, DfQ K "apart_of" (topS 34) ["many", "items", "known"] f fd
  d_neighbour_distance : ∃ f fd, DfQ K "neighbour_distance" (topS 35) ["many", "items"] f fd
  d__law_hash : ∃ f fd, DfQ K "_law_hash" (topS 37) ["_law_seed", "_law_index"] f fd
  d__law_random : ∃ f fd, DfQ K "_law_random" (topS 38) ["_law_generator_here", "_law_bound"] f fd
  d__law_cell : ∃ f fd, DfQ K "_law_cell" (topS 39) ["_law_script", "_law_index"] f fd
  d__law_generator : ∃ f fd, DfQ K "_law_generator" (topS 40) ["_law_script", "_law_index"] f fd
  d__law_power : ∃ f fd, DfQ K "_law_power" (topS 41) ["_law_many"] f fd
  d__law_same : ∃ f fd, DfQ K "_law_same" (topS 42) ["_law_told", "_law_due_here"] f fd
  d__law_ones : ∃ f fd, DfQ K "_law_ones" (topS 43) ["_law_number"] f fd
  d__law_due : ∃ f fd, DfQ K "_law_due" (topS 44) ["_law_many", "_law_items"] f fd
  d__law_right : ∃ f fd, DfQ K "_law_right" (topS 45) ["_law_generator_here"] f fd
  d__law_halves_right : ∃ f fd, DfQ K "_law_halves_right" (topS 46) ["_law_many", "_law_items"] f fd
  d__law_great_right : ∃ f fd, DfQ K "_law_great_right" (topS 47) ["_law_generator_here"] f fd
  d_law : ∃ f fd, DfQ K "law" (topS 48) ["_law_script"] f fd
  m_bool : PySem.W.nsIn K mainGlobals "bool" = some none
  m_enumerate : PySem.W.nsIn K mainGlobals "enumerate" = some none
  m_int : PySem.W.nsIn K mainGlobals "int" = some none
  m_isinstance : PySem.W.nsIn K mainGlobals "isinstance" = some none
  m_len : PySem.W.nsIn K mainGlobals "len" = some none
  m_list : PySem.W.nsIn K mainGlobals "list" = some none
  m_max : PySem.W.nsIn K mainGlobals "max" = some none
  m_min : PySem.W.nsIn K mainGlobals "min" = some none
  m_range : PySem.W.nsIn K mainGlobals "range" = some none
  m_repr : PySem.W.nsIn K mainGlobals "repr" = some none
  m_sum : PySem.W.nsIn K mainGlobals "sum" = some none
  m_zip : PySem.W.nsIn K mainGlobals "zip" = some none
  g_MOST_WIDTH : ∃ t, PySem.W.nsIn K mainGlobals "MOST_WIDTH" = some (some (.int 64 t))
theorem Kz.lz {P : Program} {K : PySem.W.Frag} (q : Kz P K) {w : World} {mg : Str → Option Value} {h bs : Heap} (inK : K.In h) (G : h.Ns mainGlobals mg) : Lz (tbOf P w K mg bs) where
  z := {
    m_bool := PySem.W.mg_none_of inK G q.m_bool,
    m_enumerate := PySem.W.mg_none_of inK G q.m_enumerate,
    m_int := PySem.W.mg_none_of inK G q.m_int,
    m_isinstance := PySem.W.mg_none_of inK G q.m_isinstance,
    m_len := PySem.W.mg_none_of inK G q.m_len,
    m_list := PySem.W.mg_none_of inK G q.m_list,
    m_max := PySem.W.mg_none_of inK G q.m_max,
    m_min := PySem.W.mg_none_of inK G q.m_min,
    m_range := PySem.W.mg_none_of inK G q.m_range,
    m_repr := PySem.W.mg_none_of inK G q.m_repr,
    m_sum := PySem.W.mg_none_of inK G q.m_sum,
    m_zip := PySem.W.mg_none_of inK G q.m_zip,
    g_MOST_WIDTH := let ⟨t, e⟩ := q.g_MOST_WIDTH; ⟨t, PySem.W.mg_of inK G e⟩ }
  d_is_whole := let ⟨f, fd, e⟩ := q.d_is_whole; ⟨f, fd, e.at sc_is_whole inK G⟩
  d_is_between := let ⟨f, fd, e⟩ := q.d_is_between; ⟨f, fd, e.at sc_is_between inK G⟩
  d_check_number := let ⟨f, fd, e⟩ := q.d_check_number; ⟨f, fd, e.at sc_check_number inK G⟩
  d_power_of_two := let ⟨f, fd, e⟩ := q.d_power_of_two; ⟨f, fd, e.at sc_power_of_two inK G⟩
  d_twos := let ⟨f, fd, e⟩ := q.d_twos; ⟨f, fd, e.at sc_twos inK G⟩
  d_good_row := let ⟨f, fd, e⟩ := q.d_good_row; ⟨f, fd, e.at sc_good_row inK G⟩
  d_items_counted := let ⟨f, fd, e⟩ := q.d_items_counted; ⟨f, fd, e.at sc_items_counted inK G⟩
  d_is_width := let ⟨f, fd, e⟩ := q.d_is_width; ⟨f, fd, e.at sc_is_width inK G⟩
  d_check_width := let ⟨f, fd, e⟩ := q.d_check_width; ⟨f, fd, e.at sc_check_width inK G⟩
  d_is_of_width := let ⟨f, fd, e⟩ := q.d_is_of_width; ⟨f, fd, e.at sc_is_of_width inK G⟩
  d_rises := let ⟨f, fd, e⟩ := q.d_rises; ⟨f, fd, e.at sc_rises inK G⟩
  d_are_places := let ⟨f, fd, e⟩ := q.d_are_places; ⟨f, fd, e.at sc_are_places inK G⟩
  d_check_places := let ⟨f, fd, e⟩ := q.d_check_places; ⟨f, fd, e.at sc_check_places inK G⟩
  d_halves := let ⟨f, fd, e⟩ := q.d_halves; ⟨f, fd, e.at sc_halves inK G⟩
  d_pairs := let ⟨f, fd, e⟩ := q.d_pairs; ⟨f, fd, e.at sc_pairs inK G⟩
  d_best_splits := let ⟨f, fd, e⟩ := q.d_best_splits; ⟨f, fd, e.at sc_best_splits inK G⟩
  d_tree_of := let ⟨f, fd, e⟩ := q.d_tree_of; ⟨f, fd, e.at sc_tree_of inK G⟩
  d_lost_places := let ⟨f, fd, e⟩ := q.d_lost_places; ⟨f, fd, e.at sc_lost_places inK G⟩
  d_check_code := let ⟨f, fd, e⟩ := q.d_check_code; ⟨f, fd, e.at sc_check_code inK G⟩
  d_items_of_code := let ⟨f, fd, e⟩ := q.d_items_of_code; ⟨f, fd, e.at sc_items_of_code inK G⟩
  d_distance_of := let ⟨f, fd, e⟩ := q.d_distance_of; ⟨f, fd, e.at sc_distance_of inK G⟩
  d_distance := let ⟨f, fd, e⟩ := q.d_distance; ⟨f, fd, e.at sc_distance inK G⟩
  d_least_lost := let ⟨f, fd, e⟩ := q.d_least_lost; ⟨f, fd, e.at sc_least_lost inK G⟩
  d_apart_of := let ⟨f, fd, e⟩ := q.d_apart_of; ⟨f, fd, e.at sc_apart_of inK G⟩
  d_neighbour_distance := let ⟨f, fd, e⟩ := q.d_neighbour_distance; ⟨f, fd, e.at sc_neighbour_distance inK G⟩
  d__law_hash := let ⟨f, fd, e⟩ := q.d__law_hash; ⟨f, fd, e.at sc__law_hash inK G⟩
  d__law_random := let ⟨f, fd, e⟩ := q.d__law_random; ⟨f, fd, e.at sc__law_random inK G⟩
  d__law_cell := let ⟨f, fd, e⟩ := q.d__law_cell; ⟨f, fd, e.at sc__law_cell inK G⟩
  d__law_generator := let ⟨f, fd, e⟩ := q.d__law_generator; ⟨f, fd, e.at sc__law_generator inK G⟩
  d__law_power := let ⟨f, fd, e⟩ := q.d__law_power; ⟨f, fd, e.at sc__law_power inK G⟩
  d__law_same := let ⟨f, fd, e⟩ := q.d__law_same; ⟨f, fd, e.at sc__law_same inK G⟩
  d__law_ones := let ⟨f, fd, e⟩ := q.d__law_ones; ⟨f, fd, e.at sc__law_ones inK G⟩
  d__law_due := let ⟨f, fd, e⟩ := q.d__law_due; ⟨f, fd, e.at sc__law_due inK G⟩
  d__law_right := let ⟨f, fd, e⟩ := q.d__law_right; ⟨f, fd, e.at sc__law_right inK G⟩
  d__law_halves_right := let ⟨f, fd, e⟩ := q.d__law_halves_right; ⟨f, fd, e.at sc__law_halves_right inK G⟩
  d__law_great_right := let ⟨f, fd, e⟩ := q.d__law_great_right; ⟨f, fd, e.at sc__law_great_right inK G⟩
  d_law := let ⟨f, fd, e⟩ := q.d_law; ⟨f, fd, e.at sc_law inK G⟩
/-- the law, called -/
theorem law_fn {P : Program} {K : PySem.W.Frag} (q : Kz P K) (k : Nat) {w : World} {mg : Str → Option Value} {fa : Addr} {h : Heap} (inK : K.In h) (G : h.Ns mainGlobals mg) (hf : mg "law" = some (.ref fa)) :
    ∃ fd : FuncData, (∀ (s : Shared) (u : Value), BindsTo s fd ⟨[u], []⟩ [("_law_script", u)]) ∧ ∀ bs : Heap, K.In bs → bs.Ns mainGlobals mg → FnG (tbOf P w K mg bs) (k + 1) fa fd ["_law_script"] (spD (tbOf P w K mg bs) [false] (callD Pg FU (k + 1) 473)) := by
  obtain ⟨f, fd, e⟩ := q.d_law
  cases hf.symm.trans (PySem.W.mg_of inK G e.ns)
  exact ⟨fd, fun s u => .of_eq (e.bn [u] rfl), fun bs _ _ => fng_step (df := d_law_v42) (i := 473) (e.at sc_law inK G) rfl rfl rfl (b_law (q.lz inK G).z (fam (q.lz inK G) k))⟩
end Z
namespace Z
def DEP : Nat := 120
theorem ans : ∀ ns : List Int, ns.length ≤ 63 → callD Pg FU (DEP + 1) 473 [.scr ns] = .ok (.sh (.bl true)) [] := fun ns _ =>
  m_law42 (k := 16) (f := 473) ⟨⟨⟨⟨rfl, rfl, rfl, rfl, rfl, rfl, rfl, rfl, rfl, rfl⟩, rfl⟩, ⟨rfl, rfl, rfl, rfl⟩, rfl, rfl, rfl, rfl, rfl, rfl, rfl⟩, rfl, rfl, rfl, rfl, rfl, rfl, rfl, rfl, rfl, rfl, rfl, rfl, rfl, rfl⟩ rfl (Nat.le_of_ble_eq_true rfl) ns
end Z
open PySem PySem.W PyProof.Rows
set_option maxHeartbeats 0 in
theorem PySem.Challenge.cw_anyplaces_k42_whole_distance_of_neighbou_holds : PySem.Challenge.rw_anyplaces_k42_whole_distance_of_neighbou.Holds := by
  w_on; o_law; k_head; (case hw => w_witness2)
  k_fill
  refine Z.head_of (l := PySem.Challenge.rw_anyplaces_k42_whole_distance_of_neighbou) (n := 63) (k := Z.DEP + 1) (x := "_law_script") (c := Z.callD Z.Pg Z.FU (Z.DEP + 1) 473) rfl (by decide) rfl ⟨rfl, by decide, by decide⟩ (fun w h Y => PySem.W.kIn_of Y) ?F Z.ans
  case F =>
    intro w mg fa h KX G hmg
    refine' Z.law_fn ?zq Z.DEP KX G hmg
    case zq =>
      refine' ⟨?d_is_whole, ?d_is_between, ?d_check_number, ?d_power_of_two, ?d_twos, ?d_good_row, ?d_items_counted, ?d_is_width, ?d_check_width, ?d_is_of_width, ?d_rises, ?d_are_places, ?d_check_places, ?d_halves, ?d_pairs, ?d_best_splits, ?d_tree_of, ?d_lost_places, ?d_check_code, ?d_items_of_code, ?d_distance_of, ?d_distance, ?d_least_lost, ?d_apart_of, ?d_neighbour_distance, ?d__law_hash, ?d__law_random, ?d__law_cell, ?d__law_generator, ?d__law_power, ?d__law_same, ?d__law_ones, ?d__law_due, ?d__law_right, ?d__law_halves_right, ?d__law_great_right, ?d_law, ?m_bool, ?m_enumerate, ?m_int, ?m_isinstance, ?m_len, ?m_list, ?m_max, ?m_min, ?m_range, ?m_repr, ?m_sum, ?m_zip, ?g_MOST_WIDTH⟩
      (case d_is_whole => refine' ⟨_, Z.dfq_mk Z.bn_is_whole ?a ?l ?c ?k⟩; (case a => k_is); (case l => k_is); (case c => k_is); (case k => k_is))
      (case d_is_between => refine' ⟨_, Z.dfq_mk Z.bn_is_between ?a ?l ?c ?k⟩; (case a => k_is); (case l => k_is); (case c => k_is); (case k => k_is))
      (case d_check_number => refine' ⟨_, Z.dfq_mk Z.bn_check_number ?a ?l ?c ?k⟩; (case a => k_is); (case l => k_is); (case c => k_is); (case k => k_is))
      (case d_power_of_two => refine' ⟨_, Z.dfq_mk Z.bn_power_of_two ?a ?l ?c ?k⟩; (case a => k_is); (case l => k_is); (case c => k_is); (case k => k_is))
      (case d_twos => refine' ⟨_, Z.dfq_mk Z.bn_twos ?a ?l ?c ?k⟩; (case a => k_is); (case l => k_is); (case c => k_is); (case k => k_is))
      (case d_good_row => refine' ⟨_, Z.dfq_mk Z.bn_good_row ?a ?l ?c ?k⟩; (case a => k_is); (case l => k_is); (case c => k_is); (case k => k_is))
      (case d_items_counted => refine' ⟨_, Z.dfq_mk Z.bn_items_counted ?a ?l ?c ?k⟩; (case a => k_is); (case l => k_is); (case c => k_is); (case k => k_is))
      (case d_is_width => refine' ⟨_, Z.dfq_mk Z.bn_is_width ?a ?l ?c ?k⟩; (case a => k_is); (case l => k_is); (case c => k_is); (case k => k_is))
      (case d_check_width => refine' ⟨_, Z.dfq_mk Z.bn_check_width ?a ?l ?c ?k⟩; (case a => k_is); (case l => k_is); (case c => k_is); (case k => k_is))
      (case d_is_of_width => refine' ⟨_, Z.dfq_mk Z.bn_is_of_width ?a ?l ?c ?k⟩; (case a => k_is); (case l => k_is); (case c => k_is); (case k => k_is))
      (case d_rises => refine' ⟨_, Z.dfq_mk Z.bn_rises ?a ?l ?c ?k⟩; (case a => k_is); (case l => k_is); (case c => k_is); (case k => k_is))
      (case d_are_places => refine' ⟨_, Z.dfq_mk Z.bn_are_places ?a ?l ?c ?k⟩; (case a => k_is); (case l => k_is); (case c => k_is); (case k => k_is))
      (case d_check_places => refine' ⟨_, Z.dfq_mk Z.bn_check_places ?a ?l ?c ?k⟩; (case a => k_is); (case l => k_is); (case c => k_is); (case k => k_is))
      (case d_halves => refine' ⟨_, Z.dfq_mk Z.bn_halves ?a ?l ?c ?k⟩; (case a => k_is); (case l => k_is); (case c => k_is); (case k => k_is))
      (case d_pairs => refine' ⟨_, Z.dfq_mk Z.bn_pairs ?a ?l ?c ?k⟩; (case a => k_is); (case l => k_is); (case c => k_is); (case k => k_is))
      (case d_best_splits => refine' ⟨_, Z.dfq_mk Z.bn_best_splits ?a ?l ?c ?k⟩; (case a => k_is); (case l => k_is); (case c => k_is); (case k => k_is))
      (case d_tree_of => refine' ⟨_, Z.dfq_mkD Z.bd_tree_of Z.be_tree_of rfl ?a ?l ?lT ?c ?k⟩; (case a => k_is); (case l => k_is); (case lT => k_is); (case c => k_is); (case k => k_is))
      (case d_lost_places => refine' ⟨_, Z.dfq_mk Z.bn_lost_places ?a ?l ?c ?k⟩; (case a => k_is); (case l => k_is); (case c => k_is); (case k => k_is))
      (case d_check_code => refine' ⟨_, Z.dfq_mk Z.bn_check_code ?a ?l ?c ?k⟩; (case a => k_is); (case l => k_is); (case c => k_is); (case k => k_is))
      (case d_items_of_code => refine' ⟨_, Z.dfq_mk Z.bn_items_of_code ?a ?l ?c ?k⟩; (case a => k_is); (case l => k_is); (case c => k_is); (case k => k_is))
      (case d_distance_of => refine' ⟨_, Z.dfq_mk Z.bn_distance_of ?a ?l ?c ?k⟩; (case a => k_is); (case l => k_is); (case c => k_is); (case k => k_is))
      (case d_distance => refine' ⟨_, Z.dfq_mk Z.bn_distance ?a ?l ?c ?k⟩; (case a => k_is); (case l => k_is); (case c => k_is); (case k => k_is))
      (case d_least_lost => refine' ⟨_, Z.dfq_mk Z.bn_least_lost ?a ?l ?c ?k⟩; (case a => k_is); (case l => k_is); (case c => k_is); (case k => k_is))
      (case d_apart_of => refine' ⟨_, Z.dfq_mk Z.bn_apart_of ?a ?l ?c ?k⟩; (case a => k_is); (case l => k_is); (case c => k_is); (case k => k_is))
      (case d_neighbour_distance => refine' ⟨_, Z.dfq_mk Z.bn_neighbour_distance ?a ?l ?c ?k⟩; (case a => k_is); (case l => k_is); (case c => k_is); (case k => k_is))
      (case d__law_hash => refine' ⟨_, Z.dfq_mk Z.bn__law_hash ?a ?l ?c ?k⟩; (case a => k_is); (case l => k_is); (case c => k_is); (case k => k_is))
      (case d__law_random => refine' ⟨_, Z.dfq_mk Z.bn__law_random ?a ?l ?c ?k⟩; (case a => k_is); (case l => k_is); (case c => k_is); (case k => k_is))
      (case d__law_cell => refine' ⟨_, Z.dfq_mk Z.bn__law_cell ?a ?l ?c ?k⟩; (case a => k_is); (case l => k_is); (case c => k_is); (case k => k_is))
      (case d__law_generator => refine' ⟨_, Z.dfq_mk Z.bn__law_generator ?a ?l ?c ?k⟩; (case a => k_is); (case l => k_is); (case c => k_is); (case k => k_is))
      (case d__law_power => refine' ⟨_, Z.dfq_mk Z.bn__law_power ?a ?l ?c ?k⟩; (case a => k_is); (case l => k_is); (case c => k_is); (case k => k_is))
      (case d__law_same => refine' ⟨_, Z.dfq_mk Z.bn__law_same ?a ?l ?c ?k⟩; (case a => k_is); (case l => k_is); (case c => k_is); (case k => k_is))
      (case d__law_ones => refine' ⟨_, Z.dfq_mk Z.bn__law_ones ?a ?l ?c ?k⟩; (case a => k_is); (case l => k_is); (case c => k_is); (case k => k_is))
      (case d__law_due => refine' ⟨_, Z.dfq_mk Z.bn__law_due ?a ?l ?c ?k⟩; (case a => k_is); (case l => k_is); (case c => k_is); (case k => k_is))
      (case d__law_right => refine' ⟨_, Z.dfq_mk Z.bn__law_right ?a ?l ?c ?k⟩; (case a => k_is); (case l => k_is); (case c => k_is); (case k => k_is))
      (case d__law_halves_right => refine' ⟨_, Z.dfq_mk Z.bn__law_halves_right ?a ?l ?c ?k⟩; (case a => k_is); (case l => k_is); (case c => k_is); (case k => k_is))
      (case d__law_great_right => refine' ⟨_, Z.dfq_mk Z.bn__law_great_right ?a ?l ?c ?k⟩; (case a => k_is); (case l => k_is); (case c => k_is); (case k => k_is))
      (case d_law => refine' ⟨_, Z.dfq_mk Z.bn_law ?a ?l ?c ?k⟩; (case a => k_is); (case l => k_is); (case c => k_is); (case k => k_is))
      (case m_bool => k_is)
      (case m_enumerate => k_is)
      (case m_int => k_is)
      (case m_isinstance => k_is)
      (case m_len => k_is)
      (case m_list => k_is)
      (case m_max => k_is)
      (case m_min => k_is)
      (case m_range => k_is)
      (case m_repr => k_is)
      (case m_sum => k_is)
      (case m_zip => k_is)
      (case g_MOST_WIDTH => refine' ⟨_, Eq.trans ?g ?h⟩; (case g => k_is); (case h => exact rfl))
