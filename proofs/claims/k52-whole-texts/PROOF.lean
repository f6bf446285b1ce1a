import PyProof.Rows.All
import Wide.All
import OpenK.AllK
import Wide.FinOn
import HandS.ForMost
import HandS.Deep
import HandS.Zip
import HandS.TupAny
import HandS.TupMul
import HandS.Conv
import HandS.Strs
import HandS.SetFor
import HandS.IsInst
import HandS.SortInts
import HandS.Codes
import HandS.Style
import KE.DataMinMax
import KE.KTupSum
import KE.KIndexOf
import KE.KeyNested
import KE.GoesEnum
import KE.DataFind
import HandS.TupSets
import HandS.WordsExc
import HandS.ExcIs
import HandS.Replace
import HandS.ReplaceLit
import PySem.Challenge.RW_sealedbids_k52_whole_texts
set_option Elab.async false
set_option linter.all false
set_option maxRecDepth 100000
/-! Sb1: an own small language, its plain evaluator. Data are PyData. -/
namespace Sb
open PySem
abbrev D := PyData

inductive Out (A : Type) where
  | ok (a : A) | exn (c : Str) | bad
def Out.bnd {A B : Type} (x : Out A) (f : A -> Out B) : Out B := match x with
  | .ok a => f a
  | .exn c => .exn c
  | .bad => .bad
@[simp] theorem bnd_ok {A B : Type} (a : A) (f : A -> Out B) : (Out.ok a).bnd f = f a := rfl
@[simp] theorem bnd_exn {A B : Type} (c : Str) (f : A -> Out B) : (Out.exn c : Out A).bnd f = .exn c := rfl
@[simp] theorem bnd_bad {A B : Type} (f : A -> Out B) : (Out.bad : Out A).bnd f = .bad := rfl
theorem bnd_inv {A B : Type} {x : Out A} {f : A -> Out B} {b : B} (h : x.bnd f = .ok b) : ∃ a, x = .ok a ∧ f a = .ok b := by
  cases x with
  | ok a => exact ⟨a, rfl, h⟩
  | exn c => cases h
  | bad => cases h
def ofO {A : Type} : Option A -> Out A
  | some a => .ok a
  | none => .bad
@[simp] theorem ofO_some {A : Type} (a : A) : ofO (some a) = .ok a := rfl
@[simp] theorem ofO_none {A : Type} : ofO (none : Option A) = .bad := rfl
theorem ofO_inv {A : Type} {o : Option A} {a : A} (h : ofO o = .ok a) : o = some a := by
  cases o with
  | none => cases h
  | some b => cases h; rfl
/-- a check -/
def chk {A : Type} (b : Bool) (x : Out A) : Out A := match b with
  | true => x
  | false => .bad
@[simp] theorem chk_true {A : Type} (x : Out A) : chk true x = x := rfl
theorem chk_inv {A : Type} {b : Bool} {x : Out A} {a : A} (h : chk b x = .ok a) : b = true ∧ x = .ok a := by
  cases b with
  | true => exact ⟨rfl, h⟩
  | false => cases h

/-- a key (number, (numbers)) of a dict -/
abbrev NKey := Int × List Int
/-- what a slot holds: data; a borrowed list; an own list; an own dict of int keys; one of keys (number, (numbers)) -/
inductive Rv where
  | d (x : D) | c (l : List D) | o (l : List D) | m (kvs : List (L2.Key × D)) | n (kvs : List (NKey × D))
abbrev En := List (Option Rv)

inductive Bop where
  | add | sub | mul | fdiv | mod | pow
  deriving DecidableEq
inductive Cop where
  | eq | ne | lt | le | gt | ge | isn | nisn | isb | nisb | isin | notin
  deriving DecidableEq
inductive Ty where
  | int | bool | str | tuple | list
  deriving DecidableEq
inductive Prim where
  | len | list | tuple | max1 | min1 | max2 | min2 | sum | all | any | int | lenset | sortset
  deriving DecidableEq
/-- other forms of expressions: sorted(set(x)); x[::-1] -/
inductive Op where
  | sorts | rev | revt | sortt | sortsl | str1 | join (sep : Str) | split (sep : Str) | chars | repl (y z : Str)
  deriving DecidableEq
inductive Meth where
  | lindex | tindex | lcount
  deriving DecidableEq
inductive Tg where
  | v (i : Nat) | t (l : List Tg)

abbrev PF := List D -> Out D
abbrev SF := List D -> List D -> Out (D × List D)

mutual
inductive E where
  | k (d : D)
  | v (i : Nat)
  | bin (op : Bop) (a b : E)
  | neg (a : E)
  | cmp (op : Cop) (a b : E)
  | chain (op op2 : Cop) (a b c : E)
  | band (a b : E) | bor (a b : E) | bnot (a : E)
  | ite (c a b : E)
  | tup (l : List E) | lst (l : List E)
  | ix (a i : E)
  | cix (s : Nat) (i : E)
  | dix (s : Nat) (i : E)
  | nix (s : Nat) (i : E)
  | dgt (s : Nat) (i x : E)
  | sl (a : E) (lo hi : Option E)
  | prim (p : Prim) (l : List E)
  | meth (m : Meth) (a b : E)
  | isi (t : Ty) (a : E)
  | lens (a : E)
  | op (o : Op) (l : List E)
  | rng (lo hi : E)
  | call (f : Str) (sem : PF) (l : List E)
  | callT (fs : List (Str × PF)) (i : E) (l : List E)
  | callS (f : Str) (sem : SF) (a : E) (s : Nat) (l : List E)
  | lc (own : List (Str × Nat)) (tg : Tg) (it : Src) (cond : Option E) (e : E)
  | lc2 (own : List (Str × Nat)) (vs1 : List Nat) (tg : Tg) (it : Src) (tg1 : Tg) (it1 : Src) (e : E)
inductive Src where
  | seq (e : E) | rng (e : E) | rng2 (a b : E) | enum (e : E) | zip (a b : E)
end

/-! ### plain operations on data -/
def intsD : List D -> Option (List Int)
  | [] => some []
  | .int i :: r => (intsD r).map (i :: ·)
  | _ => none
def strsD : List D -> Option (List Str)
  | [] => some []
  | .str i :: r => (strsD r).map (i :: ·)
  | _ => none
def boolsD : List D -> Option (List Bool)
  | [] => some []
  | .bool i :: r => (boolsD r).map (i :: ·)
  | _ => none
def cut {A : Type} (xs : List A) (lo hi : Option Int) : List A := (xs.drop (HT.sIx xs.length 0 lo)).take (HT.sIx xs.length xs.length hi - HT.sIx xs.length 0 lo)
def maxI : List Int -> Option Int
  | [] => none
  | x :: r => some (r.foldl max x)
def minI : List Int -> Option Int
  | [] => none
  | x :: r => some (r.foldl min x)
def iota (lo : Int) (n : Nat) : List D := (List.range n).map fun (i : Nat) => .int (lo + (i : Int))
def dedup (l : List Int) : List Int := l.foldl (fun acc x => if acc.any (· == x) then acc else acc ++ [x]) []
def ins (x : Int) : List Int -> List Int
  | [] => [x]
  | y :: r => if x ≤ y then x :: y :: r else y :: ins x r
def sortI : List Int -> List Int
  | [] => []
  | x :: r => ins x (sortI r)
def tupsD : List D -> Option (List (List Int))
  | [] => some []
  | .tuple l :: r => (intsD l).bind fun ns => (tupsD r).map (ns :: ·)
  | _ => none
/-- a tuple of small ints as a number, in the tuples' order -/
def cod : List Int -> Int
  | [] => 0
  | d :: r => d * 64 ^ r.length + cod r
def insC (x : List Int) : List (List Int) -> List (List Int)
  | [] => [x]
  | y :: r => if cod x ≤ cod y then x :: y :: r else y :: insC x r
def sortC : List (List Int) -> List (List Int)
  | [] => []
  | x :: r => insC x (sortC r)
def sortOk (ns : List (List Int)) : Bool := decide (ns.length < 64) && ns.all (fun l => decide (l.length = (ns.headD [0]).length) && l.all fun i => decide (0 ≤ i) && decide (i < 64)) && decide (1 ≤ (ns.headD [0]).length) && decide (ns.map cod).Nodup
def small (n : Nat) : Bool := decide (n ≤ 16777216)
def depthOk (a b : D) : Bool := SeqAt.shaped a && SeqAt.shaped b
def eqD (a b : D) : Out Bool := match a, b with
  | .int i, .int j => .ok (decide (i = j))
  | .none, .none => .ok true
  | a, b => chk (depthOk a b) (.ok (PyData.eqv a b))
/-- at most n, without the sign (by Nat.ble: a symbol stops it at once) -/
def ab (i : Int) (n : Nat) : Bool := Nat.ble i.natAbs n
theorem ab_le {i : Int} {n : Nat} (h : ab i n = true) : -(n : Int) ≤ i ∧ i ≤ n := by
  have := Nat.le_of_ble_eq_true h
  omega
theorem ab_of {i : Int} {n : Nat} (h1 : -(n : Int) ≤ i) (h2 : i ≤ n) : ab i n = true := Nat.ble_eq_true_of_le (by omega)
def mulOk (i j : Int) : Bool := ab i 18446744073709551615 || ab j 18446744073709551615
def rep {A : Type} (n : Nat) (xs : List A) : List A := (List.replicate n xs).flatten
def binD (op : Bop) (a b : D) : Out D := match op, a, b with
  | .add, .int i, .int j => .ok (.int (i + j))
  | .add, .tuple xs, .tuple ys => chk (small (xs.length + ys.length)) (.ok (.tuple (xs ++ ys)))
  | .add, .list xs, .list ys => chk (small (xs.length + ys.length)) (.ok (.list (xs ++ ys)))
  | .add, .str x, .str y => chk (small (x.length + y.length)) (.ok (.str (x ++ y)))
  | .sub, .int i, .int j => .ok (.int (i - j))
  | .mul, .int i, .int j => chk (mulOk i j) (.ok (.int (i * j)))
  | .mul, .tuple xs, .int k => chk (!xs.isEmpty && decide (2 ≤ k) && ab k 1000 && decide (xs.length ≤ 1000)) (.ok (.tuple (rep k.toNat xs)))
  | .mul, .list xs, .int k => chk (ab k 1000 && decide (xs.length ≤ 1000)) (.ok (.list (rep k.toNat xs)))
  | .fdiv, .int i, .int j => chk (decide (0 < j) && ab j 1073741823) (.ok (.int (i / j)))
  | .mod, .int i, .int j => chk (decide (0 < j)) (.ok (.int (i % j)))
  | .pow, .int i, .int j => chk (decide (0 ≤ j) && ab j 1000000 && ab i 18446744073709551615) (.ok (.int (i ^ j.toNat)))
  | _, _, _ => .bad
def isNone : D -> Bool
  | .none => true
  | _ => false
def inD (x : D) : List D -> Out Bool
  | [] => .ok false
  | y :: r => (eqD y x).bnd fun b => (inD x r).bnd fun c => .ok (b || c)
def cmpD (op : Cop) (a b : D) : Out D := match op, a, b with
  | .eq, a, b => (eqD a b).bnd fun r => .ok (.bool r)
  | .ne, a, b => (eqD a b).bnd fun r => .ok (.bool (!r))
  | .lt, .int i, .int j => .ok (.bool (decide (i < j)))
  | .le, .int i, .int j => .ok (.bool (decide (i ≤ j)))
  | .gt, .int i, .int j => .ok (.bool (decide (j < i)))
  | .ge, .int i, .int j => .ok (.bool (decide (j ≤ i)))
  | .isn, a, .none => .ok (.bool (isNone a))
  | .nisn, a, .none => .ok (.bool (!isNone a))
  | .isb, .bool x, .bool y => .ok (.bool (decide (x = y)))
  | .nisb, .bool x, .bool y => .ok (.bool (!decide (x = y)))
  | .isin, x, .list ys => chk (depthOk x (.list ys)) (.ok (.bool (ys.any fun z => PyData.eqv z x)))
  | .notin, x, .list ys => chk (depthOk x (.list ys)) (.ok (.bool (!ys.any fun z => PyData.eqv z x)))
  | .isin, x, .tuple ys => chk (depthOk x (.tuple ys)) (.ok (.bool (ys.any fun z => PyData.eqv z x)))
  | .notin, x, .tuple ys => chk (depthOk x (.tuple ys)) (.ok (.bool (!ys.any fun z => PyData.eqv z x)))
  | _, _, _ => .bad
def itemsD : D -> Out (List D)
  | .list xs => .ok xs
  | .tuple xs => .ok xs
  | _ => .bad
def ixD (a i : D) : Out D := match a, i with
  | .list xs, .int i => ofO (L2.atI xs i)
  | .tuple xs, .int i => ofO (L2.atI xs i)
  | _, _ => .bad
def slD (a : D) (lo hi : Option Int) : Out D := match a with
  | .list xs => .ok (.list (cut xs lo hi))
  | .tuple xs => .ok (.tuple (cut xs lo hi))
  | .str z => chk (small z.length) (.ok (.str (Txt.slice z lo hi)))
  | _ => .bad
def isiD (t : Ty) (a : D) : Bool := match t, a with
  | .int, .int _ => true
  | .int, .bool _ => true
  | .bool, .bool _ => true
  | .str, .str _ => true
  | .tuple, .tuple _ => true
  | .list, .list _ => true
  | _, _ => false
def b2i (b : Bool) : Int := if b then 1 else 0
def primD (p : Prim) (l : List D) : Out D := match p, l with
  | .len, [.list xs] => .ok (.int xs.length)
  | .len, [.tuple xs] => .ok (.int xs.length)
  | .list, [.list xs] => .ok (.list xs)
  | .list, [.tuple xs] => .ok (.list xs)
  | .tuple, [.list xs] => .ok (.tuple xs)
  | .tuple, [.tuple xs] => .ok (.tuple xs)
  | .max1, [.list xs] => (ofO (intsD xs)).bnd fun ns => (ofO (maxI ns)).bnd fun m => .ok (.int m)
  | .max1, [.tuple xs] => (ofO (intsD xs)).bnd fun ns => (ofO (maxI ns)).bnd fun m => .ok (.int m)
  | .min1, [.list xs] => (ofO (intsD xs)).bnd fun ns => (ofO (minI ns)).bnd fun m => .ok (.int m)
  | .min1, [.tuple xs] => (ofO (intsD xs)).bnd fun ns => (ofO (minI ns)).bnd fun m => .ok (.int m)
  | .max2, [.int i, .int j] => .ok (.int (if j > i then j else i))
  | .min2, [.int i, .int j] => .ok (.int (if j < i then j else i))
  | .sum, [.list xs] => (ofO (intsD xs)).bnd fun ns => .ok (.int ns.sum)
  | .sum, [.tuple xs] => (ofO (intsD xs)).bnd fun ns => .ok (.int ns.sum)
  | .all, [.list xs] => (ofO (boolsD xs)).bnd fun bs => .ok (.bool (bs.all id))
  | .any, [.list xs] => (ofO (boolsD xs)).bnd fun bs => .ok (.bool (bs.any id))
  | .int, [.bool b] => .ok (.int (b2i b))
  | .int, [.int b] => .ok (.int b)
  | .lenset, [.list xs] => (ofO (intsD xs)).bnd fun ns => chk (decide (ns.length ≤ 1000)) (.ok (.int (dedup ns).length))
  | .lenset, [.tuple xs] => (ofO (intsD xs)).bnd fun ns => chk (decide (ns.length ≤ 1000)) (.ok (.int (dedup ns).length))
  | .sortset, [.tuple xs] => (ofO (intsD xs)).bnd fun ns => chk (decide (ns.length ≤ 60)) (.ok (.list ((sortI (dedup ns)).map .int)))
  | .len, [.str z] => chk (small z.length) (.ok (.int z.length))
  | _, _ => .bad
def opD (o : Op) (l : List D) : Out D := match o, l with
  | .sorts, [d] => primD .sortset [d]
  | .rev, [.list xs] => .ok (.list xs.reverse)
  | .revt, [.tuple xs] => .ok (.tuple xs.reverse)
  | .sortsl, [.list xs] => (ofO (intsD xs)).bnd fun ns => chk (decide (ns.length ≤ 60)) (.ok (.list ((sortI (dedup ns)).map .int)))
  | .str1, [.int i] => chk (ab i 1000000) (.ok (.str (Str.ofString (toString i))))
  | .join sep, [.list xs] => (ofO (strsD xs)).bnd fun ys => chk (small ((ys.map (·.length)).sum + ys.length * sep.length)) (.ok (.str (Txt.join sep ys)))
  | .chars, [.str z] => chk (small z.length) (.ok (.list ((PyProof.Rows.signs z).map .str)))
  | .repl y z, [.str x] => chk (decide (x.length + (x.length + 1) * z.length ≤ 16777216) && !(y == z)) (.ok (.str (Txt.replace x y z)))
  | .split sep, [.str z] => chk (!(sep.length == 0) && small (z.length + 2)) (.ok (.list ((Txt.split z sep).map .str)))
  | .sortt, [.list xs] => (ofO (tupsD xs)).bnd fun ns => chk (sortOk ns) (.ok (.list ((sortC ns).map fun l => .tuple (l.map .int))))
  | _, _ => .bad
def indexOf (x : D) : List D -> Option Nat
  | [] => none
  | y :: r => if PyData.eqv y x then some 0 else (indexOf x r).map (· + 1)
def methD (m : Meth) (a b : D) : Out D := match m, a with
  | .lindex, .list xs => chk (depthOk a b) ((ofO (indexOf b xs)).bnd fun n => .ok (.int (n : Nat)))
  | .tindex, .tuple xs => match b with
    | .int i => (ofO (intsD xs)).bnd fun ns => chk (ns.contains i) (.ok (.int (ns.idxOf i : Nat)))
    | _ => .bad
  | .lcount, .list xs => chk (depthOk a b) (.ok (.int (xs.countP fun y => PyData.eqv y b : Nat)))
  | _, _ => .bad

def intK : D -> Option Int
  | .int i => some i
  | _ => none
/-- a key of a dict -/
def keyD : D -> Option L2.Key
  | .int k => some (.inl k)
  | .str x => some (.inr x)
  | _ => none
def lookK (k : L2.Key) : List (L2.Key × D) -> Option D
  | [] => none
  | p :: l => if p.1 = k then some p.2 else lookK k l
def nkeyD : D -> Option NKey
  | .tuple [.int i, .tuple l] => (intsD l).map fun ns => (i, ns)
  | _ => none
def lookN (k : NKey) : List (NKey × D) -> Option D
  | [] => none
  | p :: l => if p.1 = k then some p.2 else lookN k l
/-! ### slots -/
def getD (r : En) (i : Nat) : Out D := match r[i]? with
  | some (some (.d x)) => .ok x
  | _ => .bad
def cellOf (r : En) (i : Nat) : Out (List D) := match r[i]? with
  | some (some (.c l)) => .ok l
  | some (some (.o l)) => .ok l
  | _ => .bad
def dictOf (r : En) (i : Nat) : Out (List (L2.Key × D)) := match r[i]? with
  | some (some (.m l)) => .ok l
  | _ => .bad
def nictOf (r : En) (i : Nat) : Out (List (NKey × D)) := match r[i]? with
  | some (some (.n l)) => .ok l
  | _ => .bad
/-- the same cell with another content -/
def recell (r : En) (i : Nat) (l : List D) : En := match r[i]? with
  | some (some (.c _)) => r.set i (some (.c l))
  | some (some (.o _)) => r.set i (some (.o l))
  | _ => r
/-- a slot that may be stored to (no borrowed list in it) -/
def freeAt (r : En) (i : Nat) : Bool := match r[i]? with
  | some (some (.c _)) => false
  | some _ => true
  | none => false
def setD (r : En) (i : Nat) (x : Rv) : Out En := chk (freeAt r i) (.ok (r.set i (some x)))
mutual
def bindT : Tg -> D -> En -> Out En
  | .v i, x, r => setD r i (.d x)
  | .t l, x, r => match x with
    | .tuple xs => bindTs l xs r
    | _ => .bad
def bindTs : List Tg -> List D -> En -> Out En
  | [], xs, r => match xs with
    | [] => .ok r
    | _ => .bad
  | t :: l, xs, r => match xs with
    | x :: ys => (bindT t x r).bnd fun r2 => bindTs l ys r2
    | [] => .bad
end
def wipeE (r : En) : List Nat -> En
  | [] => r
  | v :: vs => (wipeE r vs).set v none
/-- the slots vs as they are in r0 -/
def backE (r0 : En) (r : En) : List Nat -> En
  | [] => r
  | v :: vs => (backE r0 r vs).set v (r0[v]?.getD none)
/-- none of the slots vs holds a list or dict of one's own -/
def noCell (r : En) (vs : List Nat) : Bool := vs.all fun v => match r[v]? with
  | some (some (.d _)) => true
  | some none => true
  | _ => false
def lcA (turn : D -> En -> Out (List D × En)) : List D -> En -> Out (List D × En)
  | [], r => .ok ([], r)
  | x :: xs, r => (turn x r).bnd fun p => (lcA turn xs p.2).bnd fun q => .ok (p.1 ++ q.1, q.2)
def enumL (n : Nat) : List D -> List D
  | [] => []
  | x :: r => .tuple [.int n, x] :: enumL (n + 1) r
def zipL : List D -> List D -> List D
  | x :: xs, y :: ys => .tuple [x, y] :: zipL xs ys
  | _, _ => []
def rngOk (i : Int) : Bool := ab i 1000000

mutual
def den : E -> En -> Out (D × En)
  | .k d, r => .ok (d, r)
  | .v i, r => (getD r i).bnd fun x => .ok (x, r)
  | .bin op a b, r => (den a r).bnd fun p => (den b p.2).bnd fun q => (binD op p.1 q.1).bnd fun x => .ok (x, q.2)
  | .neg a, r => (den a r).bnd fun p => match p.1 with
    | .int i => .ok (.int (-i), p.2)
    | _ => .bad
  | .cmp op a b, r => (den a r).bnd fun p => (den b p.2).bnd fun q => (cmpD op p.1 q.1).bnd fun x => .ok (x, q.2)
  | .chain op op2 a b c, r => (den a r).bnd fun p => (den b p.2).bnd fun q => (cmpD op p.1 q.1).bnd fun x => match x with
    | .bool true => (den c q.2).bnd fun s => (cmpD op2 q.1 s.1).bnd fun y => .ok (y, s.2)
    | .bool false => .ok (.bool false, q.2)
    | _ => .bad
  | .band a b, r => (den a r).bnd fun p => match p.1 with
    | .bool true => den b p.2
    | .bool false => .ok (.bool false, p.2)
    | _ => .bad
  | .bor a b, r => (den a r).bnd fun p => match p.1 with
    | .bool true => .ok (.bool true, p.2)
    | .bool false => den b p.2
    | _ => .bad
  | .bnot a, r => (den a r).bnd fun p => match p.1 with
    | .bool b => .ok (.bool (!b), p.2)
    | _ => .bad
  | .ite c a b, r => (den c r).bnd fun p => match p.1 with
    | .bool true => den a p.2
    | .bool false => den b p.2
    | _ => .bad
  | .tup l, r => (denL l r).bnd fun p => chk (small p.1.length) (.ok (.tuple p.1, p.2))
  | .lst l, r => (denL l r).bnd fun p => chk (small p.1.length) (.ok (.list p.1, p.2))
  | .ix a i, r => (den a r).bnd fun p => (den i p.2).bnd fun q => (ixD p.1 q.1).bnd fun x => .ok (x, q.2)
  | .cix s i, r => (cellOf r s).bnd fun _ => (den i r).bnd fun q => (cellOf q.2 s).bnd fun l => (ixD (.list l) q.1).bnd fun x => .ok (x, q.2)
  | .nix s i, r => (nictOf r s).bnd fun _ => (den i r).bnd fun q => (nictOf q.2 s).bnd fun kvs => (ofO (nkeyD q.1)).bnd fun k => (ofO (lookN k kvs)).bnd fun x => .ok (x, q.2)
  | .dix s i, r => (dictOf r s).bnd fun _ => (den i r).bnd fun q => (dictOf q.2 s).bnd fun kvs => (ofO (keyD q.1)).bnd fun k => (ofO (lookK k kvs)).bnd fun x => .ok (x, q.2)
  | .dgt s i x, r => (dictOf r s).bnd fun _ => (den i r).bnd fun q => (den x q.2).bnd fun t => (dictOf t.2 s).bnd fun kvs => (ofO (keyD q.1)).bnd fun k => .ok ((lookK k kvs).getD t.1, t.2)
  | .sl a lo hi, r => (den a r).bnd fun p => (denO lo p.2).bnd fun q => (denO hi q.2).bnd fun s => (slD p.1 q.1 s.1).bnd fun x => .ok (x, s.2)
  | .prim p l, r => (denL l r).bnd fun q => (primD p q.1).bnd fun x => .ok (x, q.2)
  | .meth m a b, r => (den a r).bnd fun p => (den b p.2).bnd fun q => (methD m p.1 q.1).bnd fun x => .ok (x, q.2)
  | .isi t a, r => (den a r).bnd fun p => .ok (.bool (isiD t p.1), p.2)
  | .lens a, r => (den a r).bnd fun p => (primD .lenset [p.1]).bnd fun x => .ok (x, p.2)
  | .op o l, r => (denL l r).bnd fun p => (opD o p.1).bnd fun x => .ok (x, p.2)
  | .rng a b, r => (den a r).bnd fun p => (den b p.2).bnd fun q => match p.1, q.1 with
    | .int i, .int j => chk (rngOk i && rngOk j) (.ok (.list (iota i (j - i).toNat), q.2))
    | _, _ => .bad
  | .call _ sem l, r => (denL l r).bnd fun p => (sem p.1).bnd fun x => .ok (x, p.2)
  | .callT fs i l, r => (den i r).bnd fun p => (ofO (intK p.1)).bnd fun k => (ofO (L2.atI fs k)).bnd fun f => (denL l p.2).bnd fun q => (f.2 q.1).bnd fun x => .ok (x, q.2)
  | .callS _ sem a s l, r => (den a r).bnd fun p => (cellOf p.2 s).bnd fun _ => (denL l p.2).bnd fun q => (cellOf q.2 s).bnd fun t => (sem (p.1 :: q.1) t).bnd fun z => .ok (z.1, recell q.2 s z.2)
  | .lc own tg it cond e, r => (items it r).bnd fun p => chk (noCell p.2 (own.map (·.2))) ((lcA (fun x r1 => (bindT tg x r1).bnd fun r2 => (denC cond r2).bnd fun b => match b.1 with
      | true => (den e b.2).bnd fun y => .ok ([y.1], wipeE y.2 (own.map (·.2)))
      | false => .ok ([], wipeE b.2 (own.map (·.2)))) p.1 (wipeE p.2 (own.map (·.2)))).bnd fun q => chk (small (q.1.length + 1)) (.ok (.list q.1, backE p.2 q.2 (own.map (·.2)))))
  | .lc2 own vs1 tg it tg1 it1 e, r => (items it r).bnd fun p => chk (noCell p.2 (own.map (·.2)) && vs1.all fun v => (own.map (·.2)).contains v) ((lcA (fun x r1 => (bindT tg x r1).bnd fun r2 => (items it1 r2).bnd fun p1 =>
      chk (noCell p1.2 vs1) ((lcA (fun x1 r3 => (bindT tg1 x1 r3).bnd fun r4 => (den e r4).bnd fun y => .ok ([y.1], wipeE y.2 vs1)) p1.1 (wipeE p1.2 vs1)).bnd fun q1 =>
      .ok (q1.1, wipeE q1.2 (own.map (·.2))))) p.1 (wipeE p.2 (own.map (·.2)))).bnd fun q => chk (small (q.1.length + 1)) (.ok (.list q.1, backE p.2 q.2 (own.map (·.2)))))
def denL : List E -> En -> Out (List D × En)
  | [], r => .ok ([], r)
  | e :: l, r => (den e r).bnd fun p => (denL l p.2).bnd fun q => .ok (p.1 :: q.1, q.2)
def denO : Option E -> En -> Out (Option Int × En)
  | none, r => .ok (none, r)
  | some e, r => (den e r).bnd fun p => match p.1 with
    | .int i => .ok (some i, p.2)
    | _ => .bad
def denC : Option E -> En -> Out (Bool × En)
  | none, r => .ok (true, r)
  | some e, r => (den e r).bnd fun p => match p.1 with
    | .bool b => .ok (b, p.2)
    | _ => .bad
def items : Src -> En -> Out (List D × En)
  | .seq e, r => (den e r).bnd fun p => (itemsD p.1).bnd fun l => .ok (l, p.2)
  | .rng e, r => (den e r).bnd fun p => match p.1 with
    | .int j => chk (rngOk j) (.ok (iota 0 j.toNat, p.2))
    | _ => .bad
  | .rng2 a b, r => (den a r).bnd fun p => (den b p.2).bnd fun q => match p.1, q.1 with
    | .int i, .int j => chk (rngOk i && rngOk j) (.ok (iota i (j - i).toNat, q.2))
    | _, _ => .bad
  | .enum e, r => (den e r).bnd fun p => (itemsD p.1).bnd fun l => .ok (enumL 0 l, p.2)
  | .zip a b, r => (den a r).bnd fun p => (den b p.2).bnd fun q => (itemsD p.1).bnd fun l => (itemsD q.1).bnd fun l2 => .ok (zipL l l2, q.2)
end

/-! ### statements -/
/-- what may be given to a name: a value; a new list; a new dict; a new list [a] * n; what a def makes anew -/
inductive Gv where
  | e (e : E) | nil | dnil | nnil | dlit (kvs : List (L2.Key × D)) | rep (a n : E) | mk (f : Str) (sem : List D -> Out (List D)) (l : List E)
  | lst (l : List E) | cat (a b : E) | lcn (own : List (Str × Nat)) (tg : Tg) (it : Src) (cond : Option E) (e : E)
inductive S where
  | set (i : Nat) (g : Gv)
  | setT (tg : Tg) (e : E)
  | set2 (i j : Nat) (g h : Gv)
  | set3 (i j l : Nat) (e f g : E)
  | setix (s : Nat) (i e : E)
  | setix2 (s t : Nat) (i j e f : E)
  | setdx (s : Nat) (i e : E)
  | setnx (s : Nat) (i e : E)
  | app (s : Nat) (e : E)
  | ex (e : E)
  | ife (c : E) (a b : List S)
  | loop (tg : Tg) (it : Src) (body : List S)
  | wh (fuel : Nat) (c : E) (body : List S)
  | ret (e : E)
  | fz (i : Nat)
  | drop (i : Nat)
  | raise (c : Str)
  | retT (i : Nat) (fs : List (Str × PF)) (ix : E) (l : List E)
inductive Res where
  | nx (r : En) | rt (d : D) (r : En)
def isCellR : Rv -> Bool
  | .d _ => false
  | _ => true
def okPair (_ _ : Rv) : Bool := true
def putK (k : L2.Key) (x : D) (l : List (L2.Key × D)) : List (L2.Key × D) := if (l.any fun p => decide (p.1 = k)) = true then l.map (fun p => if p.1 = k then (p.1, x) else p) else l ++ [(k, x)]
def putN (k : NKey) (x : D) (l : List (NKey × D)) : List (NKey × D) := if (l.any fun p => decide (p.1 = k)) = true then l.map (fun p => if p.1 = k then (p.1, x) else p) else l ++ [(k, x)]
def itemsL : D -> Out (List D)
  | .list xs => .ok xs
  | _ => .bad
def denG : Gv -> En -> Out (Rv × En)
  | .e e, r => (den e r).bnd fun p => .ok (.d p.1, p.2)
  | .nil, r => .ok (.o [], r)
  | .dnil, r => .ok (.m [], r)
  | .nnil, r => .ok (.n [], r)
  | .dlit kvs, r => chk (decide (kvs.length ≤ 15)) (.ok (.m (kvs.foldl (fun acc p => putK p.1 p.2 acc) []), r))
  | .rep a n, r => (den a r).bnd fun p => (den n p.2).bnd fun q => match q.1 with
    | .int k => chk (decide (0 ≤ k) && ab k 1000) (.ok (.o (rep k.toNat [p.1]), q.2))
    | _ => .bad
  | .mk _ sem l, r => (denL l r).bnd fun p => (sem p.1).bnd fun x => .ok (.o x, p.2)
  | .lst l, r => (denL l r).bnd fun p => chk (small p.1.length) (.ok (.o p.1, p.2))
  | .cat a b, r => (den a r).bnd fun p => (den b p.2).bnd fun q => (itemsL p.1).bnd fun x => (itemsL q.1).bnd fun y => chk (small (x.length + y.length)) (.ok (.o (x ++ y), q.2))
  | .lcn own tg it cond e, r => (den (.lc own tg it cond e) r).bnd fun p => (itemsL p.1).bnd fun x => .ok (.o x, p.2)
def setCell (r : En) (s : Nat) (i x : D) : Out En := (cellOf r s).bnd fun l => match i with
  | .int k => (ofO (L2.ixN l.length k)).bnd fun j => .ok (recell r s (l.set j x))
  | _ => .bad
def forA (body : D -> En -> Out Res) : List D -> En -> Out Res
  | [], r => .ok (.nx r)
  | x :: xs, r => (body x r).bnd fun a => match a with
    | .nx r2 => forA body xs r2
    | .rt d r2 => .ok (.rt d r2)
def whA (c : En -> Out (Bool × En)) (body : En -> Out Res) : Nat -> En -> Out Res
  | 0, _ => .bad
  | n + 1, r => (c r).bnd fun p => match p.1 with
    | true => (body p.2).bnd fun a => match a with
      | .nx r2 => whA c body n r2
      | .rt d r2 => .ok (.rt d r2)
    | false => .ok (.nx p.2)
mutual
def run : S -> En -> Out Res
  | .set i g, r => (denG g r).bnd fun p => (setD p.2 i p.1).bnd fun r2 => .ok (.nx r2)
  | .setT tg e, r => (den e r).bnd fun p => (bindT tg p.1 p.2).bnd fun r2 => .ok (.nx r2)
  | .set2 i j g h, r => (denG g r).bnd fun p => (denG h p.2).bnd fun q => chk (okPair p.1 q.1 && decide (i ≠ j)) <| (setD q.2 i p.1).bnd fun r2 => (setD r2 j q.1).bnd fun r3 => .ok (.nx r3)
  | .set3 i j l e f g, r => (den e r).bnd fun p => (den f p.2).bnd fun q => (den g q.2).bnd fun t => chk (decide (i ≠ j) && decide (i ≠ l) && decide (j ≠ l)) <| (setD t.2 i (.d p.1)).bnd fun r2 => (setD r2 j (.d q.1)).bnd fun r3 => (setD r3 l (.d t.1)).bnd fun r4 => .ok (.nx r4)
  | .setix s i e, r => (den e r).bnd fun p => (cellOf p.2 s).bnd fun _ => (den i p.2).bnd fun q => (setCell q.2 s q.1 p.1).bnd fun r2 => .ok (.nx r2)
  | .setix2 s t i j e f, r => (den e r).bnd fun p => (den f p.2).bnd fun q => (cellOf q.2 s).bnd fun _ => (den i q.2).bnd fun a => (setCell a.2 s a.1 p.1).bnd fun r2 => (cellOf r2 t).bnd fun _ => (den j r2).bnd fun b => (setCell b.2 t b.1 q.1).bnd fun r3 => .ok (.nx r3)
  | .setdx s i e, r => (den e r).bnd fun p => (dictOf p.2 s).bnd fun _ => (den i p.2).bnd fun q => (dictOf q.2 s).bnd fun kvs => (ofO (keyD q.1)).bnd fun k => chk (decide (kvs.length < 1000)) (.ok (.nx (q.2.set s (some (.m (putK k p.1 kvs))))))
  | .setnx s i e, r => (den e r).bnd fun p => (nictOf p.2 s).bnd fun _ => (den i p.2).bnd fun q => (nictOf q.2 s).bnd fun kvs => (ofO (nkeyD q.1)).bnd fun k => chk (decide (kvs.length < 1000)) (.ok (.nx (q.2.set s (some (.n (putN k p.1 kvs))))))
  | .app s e, r => (cellOf r s).bnd fun _ => (den e r).bnd fun p => (cellOf p.2 s).bnd fun l => chk (small (l.length + 1)) (.ok (.nx (recell p.2 s (l ++ [p.1]))))
  | .ex e, r => (den e r).bnd fun p => .ok (.nx p.2)
  | .ife c a b, r => (denC (some c) r).bnd fun p => match p.1 with
    | true => runs a p.2
    | false => runs b p.2
  | .loop tg it body, r => (items it r).bnd fun p => forA (fun x r1 => (bindT tg x r1).bnd fun r2 => runs body r2) p.1 p.2
  | .wh n c body, r => whA (fun r1 => denC (some c) r1) (fun r1 => runs body r1) n r
  | .ret e, r => (den e r).bnd fun p => .ok (.rt p.1 p.2)
  | .fz i, r => match r[i]? with
    | some (some (.o l)) => .ok (.nx (r.set i (some (.d (.list l)))))
    | _ => .bad
  | .drop i, r => match r[i]? with
    | some (some (.c _)) => .bad
    | _ => .ok (.nx (r.set i none))
  | .raise c, _ => .exn c
  | .retT i fs ix l, r => match r[i]? with
    | some none => match den (.callT fs ix l) r with
      | .exn c => .exn c
      | _ => .bad
    | _ => .bad
def runs : List S -> En -> Out Res
  | [], r => .ok (.nx r)
  | s :: l, r => (run s r).bnd fun a => match a with
    | .nx r2 => runs l r2
    | .rt d r2 => .ok (.rt d r2)
end
/-- a def: its number of parameters, of slots, its body -/
def mkP (n m : Nat) (body : List S) : PF := fun args => chk (decide (args.length = n)) ((runs body (args.map (fun x => some (Rv.d x)) ++ List.replicate (m - n) none)).bnd fun a => match a with
  | .rt d _ => .ok d
  | .nx _ => .ok .none)
/-- a def whose second parameter is a list that it may change -/
def mkS (n m : Nat) (body : List S) : SF := fun args t => chk (decide (args.length + 1 = n)) (match args with
  | [] => .bad
  | x :: rest => (runs body (some (Rv.d x) :: some (Rv.c t) :: rest.map (fun x => some (Rv.d x)) ++ List.replicate (m - n) none)).bnd fun a => match a with
    | .rt d r => (cellOf r 1).bnd fun t2 => .ok (d, t2)
    | .nx r => (cellOf r 1).bnd fun t2 => .ok (.none, t2))
example : den (.k (.int 0)) [] = .ok (.int 0, []) := rfl
example : run (.ret (.k (.int 0))) [] = .ok (.rt (.int 0) []) := rfl
end Sb

set_option Elab.async false
set_option linter.all false
set_option maxRecDepth 100000
set_option maxHeartbeats 1000000
/-! Sb2: data in the abstract heap; operators on data by the layer's rules. -/
namespace Sb
open PySem PySem.Spec PyProof.Rows L2

/-- a tuple whose object is known and has no dict -/
def TupAt (H : Hp) (a : Addr) (xs : List V) : Prop := ∃ o : Obj, H a = some (.frz o (.tup xs)) ∧ o.dict = none
theorem TupAt.rd {H : Hp} {a : Addr} {xs : List V} (h : TupAt H a xs) : Rd H a (.tup xs) := let ⟨o, e, _⟩ := h; .inr ⟨o, e⟩
mutual
/-- v is the datum d in H, none of its lists or tuples at a forbidden address -/
inductive Dn (B : Addr -> Prop) (H : Hp) : V -> D -> Prop
  | non : Dn B H .non .none
  | bl (b : Bool) : Dn B H (.bl b) (.bool b)
  | int (i : Int) : Dn B H (.int i) (.int i)
  | str (x : Str) : Dn B H (.str x) (.str x)
  | lst {a : Addr} {xs : List V} {ds : List D} : Rd H a (.lst xs) -> ¬ B a -> DnL B H xs ds -> Dn B H (.ref a) (.list ds)
  | tup {a : Addr} {xs : List V} {ds : List D} : TupAt H a xs -> ¬ B a -> DnL B H xs ds -> Dn B H (.ref a) (.tuple ds)
inductive DnL (B : Addr -> Prop) (H : Hp) : List V -> List D -> Prop
  | nil : DnL B H [] []
  | cons {v : V} {vs : List V} {d : D} {ds : List D} : Dn B H v d -> DnL B H vs ds -> DnL B H (v :: vs) (d :: ds)
end
section
variable {B B1 : Addr -> Prop} {H H1 : Hp}
theorem Rd.some_of {H : Hp} {a : Addr} {u : HO} (h : Rd H a u) : ∃ o, H a = some o := by
  rcases h with h | ⟨o, h⟩
  · exact ⟨_, h⟩
  · exact ⟨_, h⟩
theorem Rd.keep {H H1 : Hp} {a : Addr} {u : HO} (h : Rd H a u) (k : ∀ o, H a = some o -> H1 a = some o) : Rd H1 a u := by
  rcases h with h | ⟨o, h⟩
  · exact .inl (k _ h)
  · exact .inr ⟨o, k _ h⟩
mutual
theorem Dn.mono (hB : ∀ a, B1 a -> B a ∨ H a = none) (hH : ∀ a o, ¬ B a -> H a = some o -> H1 a = some o) : ∀ {v : V} {d : D}, Dn B H v d -> Dn B1 H1 v d
  | _, _, .non => .non
  | _, _, .bl b => .bl b
  | _, _, .int b => .int b
  | _, _, .str b => .str b
  | _, _, .lst r n l => .lst (Rd.keep r fun o => hH _ o n) (fun z => by
      rcases hB _ z with z | z
      · exact n z
      · obtain ⟨o, e⟩ := Rd.some_of r
        rw [z] at e; cases e) (DnL.mono hB hH l)
  | _, _, .tup r n l => .tup (let ⟨o, e, d⟩ := r; ⟨o, hH _ _ n e, d⟩) (fun z => by
      rcases hB _ z with z | z
      · exact n z
      · obtain ⟨o, e, _⟩ := r
        rw [z] at e; cases e) (DnL.mono hB hH l)
theorem DnL.mono (hB : ∀ a, B1 a -> B a ∨ H a = none) (hH : ∀ a o, ¬ B a -> H a = some o -> H1 a = some o) : ∀ {v : List V} {d : List D}, DnL B H v d -> DnL B1 H1 v d
  | _, _, .nil => .nil
  | _, _, .cons h t => .cons (Dn.mono hB hH h) (DnL.mono hB hH t)
end
theorem Dn.same (hs : Same H H1) {v : V} {d : D} (h : Dn B H v d) : Dn B H1 v d := h.mono (fun _ z => .inl z) fun a o _ e => hs a o e
theorem DnL.same (hs : Same H H1) {v : List V} {d : List D} (h : DnL B H v d) : DnL B H1 v d := h.mono (fun _ z => .inl z) fun a o _ e => hs a o e
mutual
theorem Dn.dp {K : PySem.W.Frag} : ∀ {v : V} {d : D}, Dn B H v d -> Dp K H v d
  | _, _, .non => .non
  | _, _, .bl b => .bl b
  | _, _, .int b => .int b
  | _, _, .str b => .str b
  | _, _, .lst r n l => .lst (.inl r) (DnL.dp l)
  | _, _, .tup r n l => .tup (.inl r.rd) (DnL.dp l)
theorem DnL.dp {K : PySem.W.Frag} : ∀ {v : List V} {d : List D}, DnL B H v d -> DpAll K H v d
  | _, _, .nil => .nil
  | _, _, .cons h t => .cons (Dn.dp h) (DnL.dp t)
end
theorem DnL.length : ∀ {v : List V} {d : List D}, DnL B H v d -> v.length = d.length
  | _, _, .nil => rfl
  | _, _, .cons _ t => by simp [DnL.length t]
theorem DnL.get : ∀ {v : List V} {d : List D} {i : Nat} {x : D}, DnL B H v d -> d[i]? = some x -> ∃ y, v[i]? = some y ∧ Dn B H y x
  | _, _, _, _, .nil, e => by simp at e
  | _, _, 0, _, .cons h t, e => by simp at e; subst e; exact ⟨_, rfl, h⟩
  | _, _, i + 1, _, .cons h t, e => by
    obtain ⟨y, e1, e2⟩ := DnL.get (i := i) t (by simpa using e)
    exact ⟨y, by simpa using e1, e2⟩
theorem DnL.get' : ∀ {v : List V} {d : List D} {i : Nat} {y : V}, DnL B H v d -> v[i]? = some y -> ∃ x, d[i]? = some x ∧ Dn B H y x
  | _, _, _, _, .nil, e => by simp at e
  | _, _, 0, _, .cons h t, e => by simp at e; subst e; exact ⟨_, rfl, h⟩
  | _, _, i + 1, _, .cons h t, e => by
    obtain ⟨y, e1, e2⟩ := DnL.get' (i := i) t (by simpa using e)
    exact ⟨y, by simpa using e1, e2⟩
theorem DnL.append : ∀ {v w : List V} {d e : List D}, DnL B H v d -> DnL B H w e -> DnL B H (v ++ w) (d ++ e)
  | _, _, _, _, .nil, s => s
  | _, _, _, _, .cons h t, s => .cons h (DnL.append t s)
theorem DnL.take : ∀ {v : List V} {d : List D} (n : Nat), DnL B H v d -> DnL B H (v.take n) (d.take n)
  | _, _, 0, _ => by simp only [List.take_zero]; exact .nil
  | _, _, _ + 1, .nil => .nil
  | _, _, n + 1, .cons h t => .cons h (DnL.take n t)
theorem DnL.drop : ∀ {v : List V} {d : List D} (n : Nat), DnL B H v d -> DnL B H (v.drop n) (d.drop n)
  | _, _, 0, r => r
  | _, _, _ + 1, .nil => .nil
  | _, _, n + 1, .cons _ t => DnL.drop n t
theorem DnL.set {y : V} {x : D} (hx : Dn B H y x) : ∀ {v : List V} {d : List D} (i : Nat), DnL B H v d -> DnL B H (v.set i y) (d.set i x)
  | _, _, _, .nil => .nil
  | _, _, 0, .cons _ t => .cons hx t
  | _, _, i + 1, .cons q t => .cons q (DnL.set hx i t)
theorem DnL.rep {v : List V} {d : List D} (h : DnL B H v d) : ∀ n : Nat, DnL B H (List.replicate n v).flatten (rep n d)
  | 0 => .nil
  | n + 1 => by
    unfold Sb.rep
    simp only [List.replicate_succ, List.flatten_cons]
    exact h.append (DnL.rep h n)
theorem DnL.cut {v : List V} {d : List D} (h : DnL B H v d) (lo hi : Option Int) : DnL B H (cutV v lo hi) (cut d lo hi) := by
  unfold Sb.cut cutV
  rw [h.length]
  exact (h.drop _).take _
theorem DnL.at {v : List V} {d : List D} {i : Int} {x : D} (h : DnL B H v d) (e : atI d i = some x) : ∃ y, atI v i = some y ∧ Dn B H y x := by
  unfold atI at e ⊢
  rw [h.length]
  cases q : ixN d.length i with
  | none => rw [q] at e; cases e
  | some j =>
    rw [q] at e
    exact h.get e
theorem DnL.intsV : ∀ {v : List V} {d : List D} {ns : List Int}, DnL B H v d -> intsD d = some ns -> v = ns.map V.int
  | _, _, ns, .nil, e => by
    simp [intsD] at e; subst e; rfl
  | _, _, ns, .cons h t, e => by
    cases h with
    | int i =>
      rename_i vs ds
      unfold intsD at e
      cases q : intsD ds with
      | none => rw [q] at e; cases e
      | some r =>
        rw [q] at e
        have e' : i :: r = ns := Option.some.inj e
        subst e'
        rw [DnL.intsV t q]; rfl
    | non => simp [intsD] at e
    | bl b => simp [intsD] at e
    | str b => simp [intsD] at e
    | lst _ _ _ => simp [intsD] at e
    | tup _ _ _ => simp [intsD] at e
theorem DnL.boolsV : ∀ {v : List V} {d : List D} {ns : List Bool}, DnL B H v d -> boolsD d = some ns -> v = ns.map V.bl
  | _, _, ns, .nil, e => by
    simp [boolsD] at e; subst e; rfl
  | _, _, ns, .cons h t, e => by
    cases h with
    | bl i =>
      rename_i vs ds
      unfold boolsD at e
      cases q : boolsD ds with
      | none => rw [q] at e; cases e
      | some r =>
        rw [q] at e
        have e' : i :: r = ns := Option.some.inj e
        subst e'
        rw [DnL.boolsV t q]; rfl
    | non => simp [boolsD] at e
    | int b => simp [boolsD] at e
    | str b => simp [boolsD] at e
    | lst _ _ _ => simp [boolsD] at e
    | tup _ _ _ => simp [boolsD] at e
theorem DnL.ofInts : ∀ (ns : List Int), DnL B H (ns.map V.int) (ns.map PyData.int)
  | [] => .nil
  | n :: r => .cons (.int n) (DnL.ofInts r)
theorem same_new {p : Addr} {o : HO} (h : H p = none) : Same H (upd H p o) := fun b x e => by
  rw [upd_ne (ne_of_none e h)]
  exact e
end

/-- what is given behind an operation that makes new objects alone -/
def RV (B : Addr -> Prop) (H : Hp) (d : D) (Q : VK) : Prop := ∀ v H1, Same H H1 -> Dn B H1 v d -> Q v H1
def Trk (B : Addr -> Prop) (H : Hp) : Prop := ∀ a, B a -> H a ≠ none
theorem RV.here {B : Addr -> Prop} {H : Hp} {d : D} {Q : VK} {v : V} (h : RV B H d Q) (r : Dn B H v d) : Q v H := h v H (Same.refl H) r
/-- a new tuple is wanted -/
def NT (H : Hp) (xs : List V) (Q : VK) : Prop := ∀ (p : Addr) (o : Obj), H p = none -> o.dict = none -> Q (.ref p) (upd H p (.frz o (.tup xs)))
theorem RV.newT {B : Addr -> Prop} {H : Hp} {d : List D} {Q : VK} {xs : List V} (h : RV B H (.tuple d) Q) (t : Trk B H) (r : DnL B H xs d) : NT H xs Q := fun p o hp ho =>
  h _ _ (same_new hp) (.tup ⟨o, upd_same, ho⟩ (fun z => t p z hp) (r.same (same_new hp)))
theorem RV.newL {B : Addr -> Prop} {H : Hp} {d : List D} {Q : VK} {xs : List V} (h : RV B H (.list d) Q) (t : Trk B H) (r : DnL B H xs d) : ∀ p, H p = none -> Q (.ref p) (upd H p (.lst xs)) := fun p hp =>
  h _ _ (same_new hp) (.lst (.inl upd_same) (fun z => t p z hp) (r.same (same_new hp)))
def r2 (f : D -> D -> Out D) : R2 := fun x y H Q => ∃ (B : Addr -> Prop) (d1 d2 d : D), Trk B H ∧ Dn B H x d1 ∧ Dn B H y d2 ∧ f d1 d2 = .ok d ∧ RV B H d Q
def rN (f : List D -> Out D) : List V -> Hp -> VK -> Prop := fun xs H Q => ∃ (B : Addr -> Prop) (ds : List D) (d : D), Trk B H ∧ DnL B H xs ds ∧ f ds = .ok d ∧ RV B H d Q

theorem small_ok {n : Nat} (h : small n = true) : n ≤ sizeLine := by
  rw [sizeLine_eq]
  exact of_decide_eq_true h

section
variable {X : Cx}
theorem laidT {pins : List (Addr × Obj)} {σ : L2.St} {H : Hp} {s : Shared} {Q : VK} {xs : List V} {us : List Value} (I : Inv X pins σ H s) (hv : Vals xs us) (hz : xs.length ≤ sizeLine) (q : NT H xs Q) :
    EP X pins σ Q (.ref s.heap.objs.size) { s with heap := s.heap.push { cls := .type "tuple", data := .seq us.toArray } } := by
  refine ⟨.ref s.heap.objs.size, _, I.laid (t' := s.toks) (o := .frz { cls := .type "tuple", data := .seq us.toArray } (.tup xs)) (fun b ob q => Heap.get?_push_of_some _ q) (Nat.le_refl _) ?_, rfl, q _ _ (I.hok.fresh (Nat.le_refl _)) rfl⟩
  exact ⟨Heap.get?_push_size _ rfl, hz, _, hv, IsTup.new _ _⟩
def tTupF (t : TA) : TE := fun σ H Q => t σ H fun xs H1 => xs.length ≤ sizeLine ∧ NT H1 xs Q
theorem pe_tupF {es : List Expr} {t : TA} {pos : Pos} {x1} (h : PA X es t) : PE X (.Tuple es x1 pos) (tTupF t) := by
  refine ⟨fun pins s σ H Q I hq => ?_⟩
  refine wpAny_Tuple_spliced (thn (h.run pos pins s σ H _ I hq) fun us s1 ⟨xs, H1, I1, r, z, q⟩ => ⟨by rw [← r.length]; exact z, ?_⟩)
  exact laidT I1 r z q
theorem op_catF : OpR X (binaryOp .Add) (fun x y H Q => ∃ a b xs ys, x = .ref a ∧ y = .ref b ∧ SqT X.K H a xs ∧ SqT X.K H b ys ∧ xs.length + ys.length ≤ sizeLine ∧
    (xs = [] → Q (.ref b) H) ∧ (xs ≠ [] → ys = [] → Q (.ref a) H) ∧ (xs ≠ [] → ys ≠ [] → NT H (xs ++ ys) Q)) := by
  intro pins s σ H x y v u Q I rx ry h
  obtain ⟨a, b, xs, ys, rfl, rfl, ha, hb, hz, q0, q1, q2⟩ := h
  cases rx
  cases ry
  obtain ⟨its, r1, p1, _⟩ := I.tuple ha
  obtain ⟨its2, r2, p2, _⟩ := I.tuple hb
  by_cases hx : xs = []
  · subst hx
    cases r1
    exact cat_tup0 p1 p2 ⟨.ref b, H, I, rfl, q0 rfl⟩
  · refine HT.cat_tup p1 p2 (fun z => hx (r1.nil_iff.mp z)) (fun z => ⟨.ref a, H, I, rfl, q1 hx (r2.nil_iff.mp z)⟩) (fun z => ?_) (by rw [← r1.length, ← r2.length]; exact hz)
    exact laidT I (r1.append r2) (by rw [List.length_append]; exact hz) (q2 hx fun w => z (r2.nil_iff.mpr w))
theorem sl_tupF : SlR X (fun x lo hi H Q => ∃ a xs, x = .ref a ∧ SqT X.K H a xs ∧
    (HT.sIx xs.length 0 lo = 0 ∧ HT.sIx xs.length xs.length hi = xs.length → Q (.ref a) H) ∧ (¬ (HT.sIx xs.length 0 lo = 0 ∧ HT.sIx xs.length xs.length hi = xs.length) → NT H (cutV xs lo hi) Q)) := by
  intro pins s σ H x v vl vu lo hi sl Q I rx hs pl pu h
  obtain ⟨a, xs, rfl, hx, q1, q2⟩ := h
  cases rx
  obtain ⟨its, r, ht, hz⟩ := I.tuple hx
  have hlen : its.toArray.size = xs.length := by rw [List.size_toArray]; exact r.length.symm
  refine ⟨"tuple", _, PyProof.Rows.slot_tuple_getitem.lookup, ht.typeIs, ?_⟩
  by_cases hw : HT.sIx xs.length 0 lo = 0 ∧ HT.sIx xs.length xs.length hi = xs.length
  · exact getItem_tuple_whole ht hs pl pu (by rw [hlen]; exact hw) ⟨.ref a, H, I, rfl, q1 hw⟩
  · refine HT.getItem_tuple_cut ht hs pl pu (by rw [hlen]; exact hw) ?_ (by rw [hlen]; exact hz)
    rw [hlen]
    exact laidT I ((r.drop (HT.sIx xs.length 0 lo)).take (HT.sIx xs.length xs.length hi - HT.sIx xs.length 0 lo)) (Nat.le_trans (cutV_length xs lo hi) hz) (q2 hw)
theorem call_tupleF : CallR X (.type "tuple") (fun xs H Q => ∃ p ys, xs = [.ref p] ∧ ((SqL X.K H p ys ∧ NT H ys Q) ∨ (SqT X.K H p ys ∧ Q (.ref p) H))) := by
  intro pins s σ H xs us Q I r h
  obtain ⟨p, ys, rfl, h⟩ := h
  obtain ⟨u, rfl, rx⟩ := vals1 r
  cases rx
  rcases h with ⟨hq, q⟩ | ⟨hq, q⟩
  · obtain ⟨its, r', pl, hz⟩ := I.list hq
    have hlen := r'.length
    refine call_tuple_list pl.isList (fun h' kp => ?_) (by simp only [List.size_toArray] <;> omega)
    have I1 : Inv X pins σ H { s with heap := h' } := I.kept (t' := s.toks) kp
    exact laidT I1 r' hz q
  · obtain ⟨its, r', pl, hz⟩ := I.tuple hq
    exact call_tuple_same pl ⟨.ref p, H, I, rfl, q⟩
theorem op_repF : OpR X (binaryOp .Mult) (fun x y H Q => ∃ l k xs, x = .ref l ∧ y = .int k ∧ SqT X.K H l xs ∧ xs ≠ [] ∧ 2 ≤ k ∧ k ≤ 1000 ∧ xs.length ≤ 1000 ∧ NT H (List.replicate k.toNat xs).flatten Q) := by
  intro pins s σ H x y v u Q I rx ry h
  obtain ⟨l, k, xs, rfl, rfl, hT, hne, h1, h2, hz, q⟩ := h
  cases rx
  obtain ⟨t, rfl⟩ := ry
  obtain ⟨its, r, ⟨⟨cls, dd, data, sl⟩, ho, hc, n, hd⟩, hs⟩ := I.tuple hT
  simp only at hc hd
  subst hc hd
  have hle : its.length = xs.length := r.length.symm
  have hn : its ≠ [] := fun e => hne (by
    rw [e] at hle
    exact List.eq_nil_of_length_eq_zero hle.symm)
  have hi : its.toArray.isEmpty = false := by
    cases its with
    | nil => exact absurd rfl hn
    | cons a b => rfl
  have hsz0 : its.toArray.size = xs.length := by rw [List.size_toArray, hle]
  have hm : ((its.toArray.size : Nat) : Int) * k ≤ 1000000 := by
    rw [hsz0]
    have a1 : ((xs.length : Nat) : Int) * k ≤ 1000 * k := Int.mul_le_mul_of_nonneg_right (by omega) (by omega)
    omega
  have flen0 : (List.replicate k.toNat xs).flatten.length ≤ sizeLine := by
    rw [PyProof.Rows.lm_len_rep_flat, sizeLine_eq]
    have a1 : k.toNat * xs.length ≤ 1000 * 1000 := Nat.mul_le_mul (by omega) hz
    omega
  have flen : (List.replicate k.toNat its).flatten.length ≤ sizeLine := by
    rw [← (r.rep k.toNat).length]
    exact flen0
  have c0 : (decide (k < -(2 ^ 63)) || decide (k ≥ 2 ^ 63)) = false := by
    rw [decide_eq_false (by omega), decide_eq_false (by omega)] <;> rfl
  have c1 : (its.toArray.isEmpty || k == 1) = false := by
    rw [hi, Bool.false_or]
    exact beq_eq_false_iff_ne.mpr (by omega)
  have c2 : (decide (k ≤ 0) || its.toArray.isEmpty) = false := by
    rw [hi, Bool.or_false]
    exact decide_eq_false (by omega)
  have c4 : Builtin.Tuple.tupleTooMany (((its.toArray.size : Nat) : Int) * k) = false := by
    unfold Builtin.Tuple.tupleTooMany
    rw [sizeLine_eq]
    exact decide_eq_false (by omega)
  refine wpAny_binaryOp_repeat_ref (T := "tuple") (U := "int") (by decide) ⟨_, ho, rfl⟩ (fun s' => typeIs_int s' k t) noFill_tuple_mul F.fills_int_mul F.slot_int_rmul repeat_tuple F.slot_int_index.lookup
    (call_meets F.slot_int_rmul (typeIs_int s k t) F.entry_int_rmul (F.args_int_rmul_2 _ _) (int_rmul_tuple k t l its.toArray n dd sl)
      ⟨ho, rfl, ⟨_, ho, rfl⟩, call_meets F.slot_tuple_mul ⟨_, ho, rfl⟩ F.entry_tuple_mul (F.args_tuple_mul_2 _ _) (tuple_mulW l its.toArray n dd sl k t c0 c1 c2 (by omega) c4 (by rw [size_rep, List.size_toArray]; exact flen)) ⟨ho, ?_⟩⟩)
  rw [size_rep]
  exact laidT I (r.rep k.toNat) flen0 q
/-- two lists, the frozen ones too -/
theorem op_catS : OpR X (binaryOp .Add) (fun x y H Q => ∃ l b xs zs, x = .ref l ∧ y = .ref b ∧ Rd H l (.lst xs) ∧ Rd H b (.lst zs) ∧ xs.length + zs.length ≤ sizeLine ∧ ∀ p, H p = none -> Q (.ref p) (upd H p (.lst (xs ++ zs)))) := by
  intro pins s σ H x y v u Q I rx ry h
  obtain ⟨l, b, xs, zs, rfl, rfl, hl, hb, hz, q⟩ := h
  cases rx
  cases ry
  obtain ⟨z, its, n, r, e⟩ := hl.ok I.hok
  obtain ⟨z2, its2, n2, r2, e2⟩ := hb.ok I.hok
  have l1 := r.length
  have l2 := r2.length
  refine PySem.P.add_list e e2 ?_ (by rw [List.size_toArray, List.size_toArray]; omega)
  have ea : its.toArray ++ its2.toArray = (its ++ its2).toArray := by simp
  rw [ea]
  exact ⟨.ref _, _, I.lnew (t' := s.toks) (r.append r2) (by rw [List.length_append]; omega), rfl, q _ I.fresh⟩
theorem op_repS : OpR X (binaryOp .Mult) (fun x y H Q => ∃ l k xs, x = .ref l ∧ y = .int k ∧ Rd H l (.lst xs) ∧ -(2 ^ 63) ≤ k ∧ k < 2 ^ 63 ∧ xs.length * k.toNat ≤ sizeLine ∧ ∀ p, H p = none -> Q (.ref p) (upd H p (.lst (List.replicate k.toNat xs).flatten))) := by
  intro pins s σ H x y v u Q I rx ry h
  obtain ⟨l, k, xs, rfl, rfl, hH, h1, h2, hz, q⟩ := h
  cases rx
  obtain ⟨t, rfl⟩ := ry
  obtain ⟨z, its, n, r, e⟩ := hH.ok I.hok
  have hl := r.length
  have hlen : its.toArray.size * k.toNat ≤ sizeLine := by rw [List.size_toArray, ← hl]; exact hz
  have hcap : ¬ its.toArray.size * k.toNat > (2 ^ 63 - 1) / 8 := by
    have : (sizeLine : Nat) ≤ (2 ^ 63 - 1) / 8 := by decide
    omega
  have hfit : ¬ (!Builtin.List.listFitsIndex k) = true := by
    rw [fitsIndex_both h1 h2]
    exact Bool.false_ne_true
  have hlong : ¬ Builtin.List.listTooLong (its.toArray.size * k.toNat) = true := by
    rw [notLongL hlen]
    exact Bool.false_ne_true
  have hnew : List.foldl (fun x1 x2 => x1 ++ x2) #[] (List.replicate (if its.toArray.isEmpty = true then 0 else k.toNat) its.toArray) = (List.replicate k.toNat its).flatten.toArray := by
    rw [size_rep]
    cases its with
    | nil => simp
    | cons a r' => rw [if_neg (by simp)]
  refine wpAny_binaryOp_repeat_ref (T := "list") (U := "int") (by decide) ⟨_, e, rfl⟩ (fun s' => typeIs_int s' k t) noFill_list_mul F.fills_int_mul F.slot_int_rmul repeat_list F.slot_int_index.lookup
    (call_meets F.slot_int_rmul (typeIs_int s k t) F.entry_int_rmul (F.args_int_rmul_2 _ _) (int___rmul___int_list k t l its.toArray n)
      ⟨e, rfl, ⟨_, e, rfl⟩, call_meets F.slot_list_mul ⟨_, e, rfl⟩ F.entry_list_mul (F.args_list_mul_2 _ _) (AutoListH.list___mul___list_int_3 l its.toArray n k t hfit hcap hlong) ⟨e, ?_⟩⟩)
  rw [hnew]
  exact ⟨.ref _, _, I.lnew (t' := s.toks) (r.rep k.toNat) (by rw [PyProof.Rows.lm_len_rep_flat, Nat.mul_comm]; exact hz), rfl, q _ I.fresh⟩

def toOp : Bop -> Operator
  | .add => .Add
  | .sub => .Sub
  | .mul => .Mult
  | .fdiv => .FloorDiv
  | .mod => .Mod
  | .pow => .Pow
theorem bin_ok (op : Bop) : OpR X (binaryOp (toOp op)) (r2 (binD op)) := by
  intro pins s σ H x y v u Q I rx ry h
  obtain ⟨B, d1, d2, d, ht, h1, h2, hf, q⟩ := h
  cases op with
  | add =>
    cases d1 with
    | int i =>
      cases d2 with
      | int j => cases hf; cases h1; cases h2; exact op_add pins s σ H _ _ v u Q I rx ry ⟨i, j, rfl, rfl, q.here (.int _)⟩
      | _ => cases hf
    | tuple xs =>
      cases d2 with
      | tuple ys =>
        obtain ⟨hs, hf⟩ := chk_inv hf
        cases hf
        cases h1 with | tup a1 a2 a3 => cases h2 with | tup b1 b2 b3 =>
        refine op_catF pins s σ H _ _ v u Q I rx ry ⟨_, _, _, _, rfl, rfl, .inl a1.rd, .inl b1.rd, by rw [a3.length, b3.length]; exact small_ok hs, fun z => ?_, fun _ z => ?_, fun _ _ => q.newT ht (a3.append b3)⟩
        · have e := a3.length
          rw [z] at e
          have e' : xs = [] := List.eq_nil_of_length_eq_zero e.symm
          rw [e', List.nil_append] at q
          exact q.here (.tup b1 b2 b3)
        · have e := b3.length
          rw [z] at e
          have e' : ys = [] := List.eq_nil_of_length_eq_zero e.symm
          rw [e', List.append_nil] at q
          exact q.here (.tup a1 a2 a3)
      | _ => cases hf
    | list xs =>
      cases d2 with
      | list ys =>
        obtain ⟨hs, hf⟩ := chk_inv hf
        cases hf
        cases h1 with | lst a1 a2 a3 => cases h2 with | lst b1 b2 b3 =>
        exact op_catS pins s σ H _ _ v u Q I rx ry ⟨_, _, _, _, rfl, rfl, a1, b1, by rw [a3.length, b3.length]; exact small_ok hs, q.newL ht (a3.append b3)⟩
      | _ => cases hf
    | str x1 =>
      cases d2 with
      | str y1 =>
        obtain ⟨hs, hf⟩ := chk_inv hf
        cases hf
        cases h1; cases h2
        exact op_add_str pins s σ H _ _ v u Q I rx ry ⟨x1, y1, rfl, rfl, small_ok hs, q.here (.str _)⟩
      | _ => cases hf
    | _ => cases hf
  | sub =>
    cases d1 with
    | int i =>
      cases d2 with
      | int j => cases hf; cases h1; cases h2; exact op_sub pins s σ H _ _ v u Q I rx ry ⟨i, j, rfl, rfl, q.here (.int _)⟩
      | _ => cases hf
    | _ => cases hf
  | mul =>
    cases d1 with
    | int i =>
      cases d2 with
      | int j =>
        obtain ⟨hs, hf⟩ := chk_inv hf
        cases hf; cases h1; cases h2
        refine op_mul pins s σ H _ _ v u Q I rx ry ⟨i, j, rfl, rfl, ?_, q.here (.int _)⟩
        unfold mulOk at hs
        rcases Bool.or_eq_true_iff.mp hs with z | z
        · have := ab_le z
          exact .inl (by omega)
        · have := ab_le z
          exact .inr (by omega)
      | _ => cases hf
    | tuple xs =>
      cases d2 with
      | int k =>
        obtain ⟨hs, hf⟩ := chk_inv hf
        cases hf; cases h2
        cases h1 with | tup a1 a2 a3 =>
        simp only [Bool.and_eq_true, decide_eq_true_eq, Bool.not_eq_true'] at hs
        obtain ⟨⟨⟨c1, c2⟩, c3⟩, c4⟩ := hs
        refine op_repF pins s σ H _ _ v u Q I rx ry ⟨_, _, _, rfl, rfl, .inl a1.rd, ?_, c2, (ab_le c3).2, by rw [a3.length]; exact c4, q.newT ht (a3.rep _)⟩
        intro z
        have := a3.length
        rw [z] at this
        cases xs with
        | nil => simp at c1
        | cons _ _ => simp at this
      | _ => cases hf
    | list xs =>
      cases d2 with
      | int k =>
        obtain ⟨hs, hf⟩ := chk_inv hf
        cases hf; cases h2
        cases h1 with | lst a1 a2 a3 =>
        simp only [Bool.and_eq_true, decide_eq_true_eq] at hs
        obtain ⟨c2, c4⟩ := hs
        have c3 := ab_le c2
        refine op_repS pins s σ H _ _ v u Q I rx ry ⟨_, _, _, rfl, rfl, a1, by omega, by omega, ?_, q.newL ht (a3.rep _)⟩
        rw [a3.length, sizeLine_eq]
        have a1 : xs.length * k.toNat ≤ 1000 * 1000 := Nat.mul_le_mul c4 (by omega)
        omega
      | _ => cases hf
    | _ => cases hf
  | fdiv =>
    cases d1 with
    | int i =>
      cases d2 with
      | int j =>
        obtain ⟨hs, hf⟩ := chk_inv hf
        cases hf; cases h1; cases h2
        simp only [Bool.and_eq_true, decide_eq_true_eq] at hs
        have := ab_le hs.2
        exact op_fdiv pins s σ H _ _ v u Q I rx ry ⟨i, j, rfl, rfl, ⟨hs.1, by omega⟩, q.here (.int _)⟩
      | _ => cases hf
    | _ => cases hf
  | mod =>
    cases d1 with
    | int i =>
      cases d2 with
      | int j =>
        obtain ⟨hs, hf⟩ := chk_inv hf
        cases hf; cases h1; cases h2
        exact op_mod pins s σ H _ _ v u Q I rx ry ⟨i, j, rfl, rfl, of_decide_eq_true hs, q.here (.int _)⟩
      | _ => cases hf
    | _ => cases hf
  | pow =>
    cases d1 with
    | int i =>
      cases d2 with
      | int j =>
        obtain ⟨hs, hf⟩ := chk_inv hf
        cases hf; cases h1; cases h2
        simp only [Bool.and_eq_true, decide_eq_true_eq] at hs
        have h1 := ab_le hs.1.2
        have h2 := Nat.le_of_ble_eq_true hs.2
        exact op_pow pins s σ H _ _ v u Q I rx ry ⟨i, j, rfl, rfl, ⟨hs.1.1, h1.2, by omega⟩, q.here (.int _)⟩
      | _ => cases hf
    | _ => cases hf

def toCmp : Cop -> CmpOp
  | .eq => .Eq
  | .ne => .NotEq
  | .lt => .Lt
  | .le => .LtE
  | .gt => .Gt
  | .ge => .GtE
  | .isn => .Is
  | .nisn => .IsNot
  | .isb => .Is
  | .nisb => .IsNot
  | .isin => .In
  | .notin => .NotIn
theorem shaped_int (i : Int) : SeqAt.shaped (.int i) = true := by simp [SeqAt.shaped, PyData.canLay0, PyData.depth]
theorem shaped_none : SeqAt.shaped .none = true := by simp [SeqAt.shaped, PyData.canLay0, PyData.depth]
theorem eqD_inv {a b : D} {r : Bool} (h : eqD a b = .ok r) : SeqAt.shaped a = true ∧ SeqAt.shaped b = true ∧ r = PyData.eqv a b := by
  unfold eqD at h
  split at h
  · cases h
    refine ⟨shaped_int _, shaped_int _, ?_⟩
    simp [PyData.eqv, Bool.beq_eq_decide_eq]
  · cases h
    refine ⟨shaped_none, shaped_none, ?_⟩
    simp [PyData.eqv]
  · obtain ⟨h1, h2⟩ := chk_inv h
    cases h2
    obtain ⟨c1, c2⟩ := Bool.and_eq_true_iff.mp h1
    exact ⟨c1, c2, rfl⟩
theorem isNone_dn {B : Addr -> Prop} {H : Hp} {x : V} {d : D} (h : Dn B H x d) : decide (x = .non) = isNone d := by
  cases h <;> simp [isNone]
theorem cmp_ok (op : Cop) (hu : X.A.units + 65 < cLine) : OpR X (compareOp (toCmp op)) (r2 (cmpD op)) := by
  intro pins s σ H x y v u Q I rx ry h
  obtain ⟨B, d1, d2, d, ht, h1, h2, hf, q⟩ := h
  cases op with
  | eq =>
    obtain ⟨r, hr, hf⟩ := bnd_inv hf
    cases hf
    obtain ⟨s1, s2, rfl⟩ := eqD_inv hr
    exact op_eqD (by omega) pins s σ H _ _ v u Q I rx ry ⟨d1, d2, h1.dp, h2.dp, s1, s2, q.here (.bl _)⟩
  | ne =>
    obtain ⟨r, hr, hf⟩ := bnd_inv hf
    cases hf
    obtain ⟨s1, s2, rfl⟩ := eqD_inv hr
    exact op_neD (by omega) pins s σ H _ _ v u Q I rx ry ⟨d1, d2, h1.dp, h2.dp, s1, s2, q.here (.bl _)⟩
  | lt =>
    cases d1 with
    | int i =>
      cases d2 with
      | int j => cases hf; cases h1; cases h2; exact op_lt pins s σ H _ _ v u Q I rx ry ⟨i, j, rfl, rfl, q.here (.bl _)⟩
      | _ => cases hf
    | _ => cases hf
  | le =>
    cases d1 with
    | int i =>
      cases d2 with
      | int j => cases hf; cases h1; cases h2; exact op_le pins s σ H _ _ v u Q I rx ry ⟨i, j, rfl, rfl, q.here (.bl _)⟩
      | _ => cases hf
    | _ => cases hf
  | gt =>
    cases d1 with
    | int i =>
      cases d2 with
      | int j => cases hf; cases h1; cases h2; exact op_gt pins s σ H _ _ v u Q I rx ry ⟨i, j, rfl, rfl, q.here (.bl _)⟩
      | _ => cases hf
    | _ => cases hf
  | ge =>
    cases d1 with
    | int i =>
      cases d2 with
      | int j => cases hf; cases h1; cases h2; exact op_ge pins s σ H _ _ v u Q I rx ry ⟨i, j, rfl, rfl, q.here (.bl _)⟩
      | _ => cases hf
    | _ => cases hf
  | isn =>
    cases d2 with
    | none =>
      cases hf
      cases h2
      refine op_isN pins s σ H _ _ v u Q I rx ry ⟨rfl, ?_⟩
      rw [isNone_dn h1]
      exact q.here (.bl _)
    | _ => cases hf
  | nisn =>
    cases d2 with
    | none =>
      cases hf
      cases h2
      refine op_notN pins s σ H _ _ v u Q I rx ry ⟨rfl, ?_⟩
      rw [isNone_dn h1]
      exact q.here (.bl _)
    | _ => cases hf
  | isb =>
    cases d1 with
    | bool i =>
      cases d2 with
      | bool j => cases hf; cases h1; cases h2; exact op_isBl pins s σ H _ _ v u Q I rx ry ⟨i, j, rfl, rfl, q.here (.bl _)⟩
      | _ => cases hf
    | _ => cases hf
  | nisb =>
    cases d1 with
    | bool i =>
      cases d2 with
      | bool j => cases hf; cases h1; cases h2; exact op_notBl pins s σ H _ _ v u Q I rx ry ⟨i, j, rfl, rfl, q.here (.bl _)⟩
      | _ => cases hf
    | _ => cases hf
  | isin =>
    cases d2 with
    | list ys =>
      obtain ⟨hs, hf⟩ := chk_inv hf
      cases hf
      obtain ⟨c1, c2⟩ := Bool.and_eq_true_iff.mp hs
      exact op_inD hu pins s σ H _ _ v u Q I rx ry ⟨d1, ys, h1.dp, h2.dp, c1, c2, q.here (.bl _)⟩
    | tuple ys =>
      obtain ⟨hs, hf⟩ := chk_inv hf
      cases hf
      obtain ⟨c1, c2⟩ := Bool.and_eq_true_iff.mp hs
      obtain ⟨as, r1⟩ := Dp.reads I d1 x v h1.dp rx
      obtain ⟨bs, r2⟩ := Dp.reads I (.tuple ys) y u h2.dp ry
      exact SeqAt.in_tuple_reads r2 r1 (SeqAt.canLay_of_shaped c2) (SeqAt.canLay_of_shaped c1) (room_in_shaped c1 hu) ⟨.bl _, H, I, rfl, q.here (.bl _)⟩
    | _ => cases hf
  | notin =>
    cases d2 with
    | list ys =>
      obtain ⟨hs, hf⟩ := chk_inv hf
      cases hf
      obtain ⟨c1, c2⟩ := Bool.and_eq_true_iff.mp hs
      exact op_notInD hu pins s σ H _ _ v u Q I rx ry ⟨d1, ys, h1.dp, h2.dp, c1, c2, q.here (.bl _)⟩
    | tuple ys =>
      obtain ⟨hs, hf⟩ := chk_inv hf
      cases hf
      obtain ⟨c1, c2⟩ := Bool.and_eq_true_iff.mp hs
      obtain ⟨as, r1⟩ := Dp.reads I d1 x v h1.dp rx
      obtain ⟨bs, r2⟩ := Dp.reads I (.tuple ys) y u h2.dp ry
      exact SeqAt.notIn_tuple_reads r2 r1 (SeqAt.canLay_of_shaped c2) (SeqAt.canLay_of_shaped c1) (room_in_shaped c1 hu) ⟨.bl _, H, I, rfl, q.here (.bl _)⟩
    | _ => cases hf

theorem ix_ok : IxR X (r2 ixD) := by
  intro value slice pins s σ H x y v u Q I rx ry h hsub
  obtain ⟨B, d1, d2, d, ht, h1, h2, hf, q⟩ := h
  cases d1 with
  | list xs =>
    cases d2 with
    | int i =>
      have e := ofO_inv hf
      cases h2
      cases h1 with | lst a1 a2 a3 =>
      obtain ⟨y, e1, e2⟩ := a3.at e
      exact ix_list value slice pins s σ H _ _ v u Q I rx ry ⟨_, _, i, y, rfl, rfl, .inl a1, e1, q.here e2⟩ hsub
    | _ => cases hf
  | tuple xs =>
    cases d2 with
    | int i =>
      have e := ofO_inv hf
      cases h2
      cases h1 with | tup a1 a2 a3 =>
      obtain ⟨y, e1, e2⟩ := a3.at e
      exact ix_tup value slice pins s σ H _ _ v u Q I rx ry ⟨_, _, i, y, rfl, rfl, .inl a1.rd, e1, q.here e2⟩ hsub
    | _ => cases hf
  | _ => cases hf
def rSlD : V -> Option Int -> Option Int -> Hp -> VK -> Prop := fun x lo hi H Q => ∃ (B : Addr -> Prop) (d1 d : D), Trk B H ∧ Dn B H x d1 ∧ slD d1 lo hi = .ok d ∧ RV B H d Q
theorem cut_whole {A : Type} {xs : List A} {lo hi : Option Int} (h1 : HT.sIx xs.length 0 lo = 0) (h2 : HT.sIx xs.length xs.length hi = xs.length) : cut xs lo hi = xs := by
  unfold cut
  rw [h1, h2]
  simp
theorem sl_ok : SlR X rSlD := by
  intro pins s σ H x v vl vu lo hi sl Q I rx hs pl pu h
  obtain ⟨B, d1, d, ht, h1, hf, q⟩ := h
  cases d1 with
  | list xs =>
    cases hf
    cases h1 with | lst a1 a2 a3 =>
    exact sl_list pins s σ H _ v vl vu lo hi sl Q I rx hs pl pu ⟨_, _, rfl, .inl a1, q.newL ht (a3.cut lo hi)⟩
  | tuple xs =>
    cases hf
    cases h1 with | tup a1 a2 a3 =>
    refine sl_tupF pins s σ H _ v vl vu lo hi sl Q I rx hs pl pu ⟨_, _, rfl, .inl a1.rd, fun z => ?_, fun _ => q.newT ht (a3.cut lo hi)⟩
    rw [a3.length] at z
    rw [cut_whole z.1 z.2] at q
    exact q.here (.tup a1 a2 a3)
  | str z =>
    obtain ⟨hz, hf⟩ := chk_inv hf
    cases hf
    cases h1
    exact C8.sl_txt pins s σ H _ v vl vu lo hi sl Q I rx hs pl pu ⟨z, rfl, small_ok hz, q.here (.str _)⟩
  | _ => cases hf
end
end Sb

set_option Elab.async false
set_option linter.all false
set_option maxRecDepth 100000
set_option maxHeartbeats 1000000
/-! Sb3: the built-in calls on data. -/
namespace Sb
open PySem PySem.Spec PyProof.Rows L2
section
variable {X : Cx}
theorem maxI_spec : ∀ {ns : List Int} {m : Int}, maxI ns = some m -> m ∈ ns ∧ ∀ y ∈ ns, y ≤ m := by
  have key : ∀ (r : List Int) (x : Int), r.foldl max x ∈ x :: r ∧ ∀ y ∈ x :: r, y ≤ r.foldl max x := by
    intro r
    induction r with
    | nil => intro x; simp
    | cons z r ih =>
      intro x
      obtain ⟨h1, h2⟩ := ih (max x z)
      simp only [List.foldl_cons]
      refine ⟨?_, fun y hy => ?_⟩
      · rcases List.mem_cons.mp h1 with e | e
        · rw [e]
          by_cases hxz : x ≤ z
          · rw [Int.max_eq_right hxz]; simp
          · rw [Int.max_eq_left (by omega)]; simp
        · simp [e]
      · have h0 := h2 (max x z) List.mem_cons_self
        rcases List.mem_cons.mp hy with e | e
        · rw [e]; omega
        · rcases List.mem_cons.mp e with e | e
          · rw [e]; omega
          · exact h2 y (List.mem_cons_of_mem _ e)
  intro ns m h
  cases ns with
  | nil => cases h
  | cons x r => cases h; exact key r x
theorem minI_spec : ∀ {ns : List Int} {m : Int}, minI ns = some m -> m ∈ ns ∧ ∀ y ∈ ns, m ≤ y := by
  have key : ∀ (r : List Int) (x : Int), r.foldl min x ∈ x :: r ∧ ∀ y ∈ x :: r, r.foldl min x ≤ y := by
    intro r
    induction r with
    | nil => intro x; simp
    | cons z r ih =>
      intro x
      obtain ⟨h1, h2⟩ := ih (min x z)
      simp only [List.foldl_cons]
      refine ⟨?_, fun y hy => ?_⟩
      · rcases List.mem_cons.mp h1 with e | e
        · rw [e]
          by_cases hxz : x ≤ z
          · rw [Int.min_eq_left hxz]; simp
          · rw [Int.min_eq_right (by omega)]; simp
        · simp [e]
      · have h0 := h2 (min x z) List.mem_cons_self
        rcases List.mem_cons.mp hy with e | e
        · rw [e]; omega
        · rcases List.mem_cons.mp e with e | e
          · rw [e]; omega
          · exact h2 y (List.mem_cons_of_mem _ e)
  intro ns m h
  cases ns with
  | nil => cases h
  | cons x r => cases h; exact key r x
theorem max_uniq {ns : List Int} {m k : Int} (h : m ∈ ns ∧ ∀ y ∈ ns, y ≤ m) (h2 : k ∈ ns) (h3 : ∀ y, y ∈ ns -> y ≤ k) : k = m := by
  have a1 := h.2 k h2
  have a2 := h3 m h.1
  omega
theorem min_uniq {ns : List Int} {m k : Int} (h : m ∈ ns ∧ ∀ y ∈ ns, m ≤ y) (h2 : k ∈ ns) (h3 : ∀ y, y ∈ ns -> k ≤ y) : k = m := by
  have a1 := h.2 k h2
  have a2 := h3 m h.1
  omega
theorem reads_all {pins : List (Addr × Obj)} {σ : L2.St} {H : Hp} {s : Shared} (I : Inv X pins σ H s) : ∀ (ns : List Int) (us : List Value), Vals (ns.map V.int) us -> ∃ as, ReadsAll s.heap us (ns.map PyData.int) as := fun ns us r => by
  refine Dp.readsAll I (ns.map PyData.int) (ns.map V.int) us ?_ r
  have : DnL (fun _ => False) H (ns.map V.int) (ns.map PyData.int) := DnL.ofInts ns
  exact this.dp
theorem alike_ints (ns : List Int) : PySem.W.AlikeAll (ns.map PyData.int) := by
  refine ⟨fun x hx y hy => ?_, fun x hx => ?_⟩
  · obtain ⟨i, _, rfl⟩ := List.mem_map.mp hx
    obtain ⟨j, _, rfl⟩ := List.mem_map.mp hy
    simp [PySem.W.alike]
  · obtain ⟨i, _, rfl⟩ := List.mem_map.mp hx
    simp
theorem depth_ints : ∀ ns : List Int, PyData.depthAll (ns.map PyData.int) = 0
  | [] => by simp [PyData.depthAll]
  | n :: r => by simp [PyData.depthAll, PyData.depth, depth_ints r]
/-- max, min, sum of a tuple of ints -/
def rTupI (g : List Int -> Option Int) : List V -> Hp -> VK -> Prop := fun vs H Q => ∃ (a : Addr) (ns : List Int) (m : Int), vs = [V.ref a] ∧ Rd H a (.tup (ns.map V.int)) ∧ g ns = some m ∧ Q (.int m) H
theorem cr_maxT (hc : X.calm = true) (hu : X.A.units + 65 < cLine) : CallR X (.builtin "max") (rTupI maxI) := by
  intro pins s σ H xs us Q I r h
  obtain ⟨a, ns, m, rfl, ha, hm, q⟩ := h
  obtain rfl := Vals.ref1 r
  obtain ⟨its, rv, p, _⟩ := I.tuple (xs := ns.map V.int) (.inl ha)
  cases ns with
  | nil => cases hm
  | cons n ns =>
    obtain ⟨as, ra⟩ := reads_all I (n :: ns) its rv
    refine PySem.W.max_tuple_data (I.ok.hd hc) p (by simpa using ra) (alike_ints (n :: ns)) (by have := depth_ints (n :: ns); simp only [List.map_cons] at this; rw [this]; omega) fun i v h' tk bs hv hr hk => ?_
    rw [PySem.W.maxD_ints] at hr
    cases hm
    obtain ⟨t, e⟩ : ∃ t, v = Value.int (ns.foldl max n) t := by
      cases hr
      exact ⟨_, rfl⟩
    subst e
    exact ⟨.int _, H, I.kept hk, ⟨_, rfl⟩, q⟩
theorem cr_minT (hc : X.calm = true) (hu : X.A.units + 65 < cLine) : CallR X (.builtin "min") (rTupI minI) := by
  intro pins s σ H xs us Q I r h
  obtain ⟨a, ns, m, rfl, ha, hm, q⟩ := h
  obtain rfl := Vals.ref1 r
  obtain ⟨its, rv, p, _⟩ := I.tuple (xs := ns.map V.int) (.inl ha)
  cases ns with
  | nil => cases hm
  | cons n ns =>
    obtain ⟨as, ra⟩ := reads_all I (n :: ns) its rv
    refine PySem.W.min_tuple_data (I.ok.hd hc) p (by simpa using ra) (alike_ints (n :: ns)) (by have := depth_ints (n :: ns); simp only [List.map_cons] at this; rw [this]; omega) fun i v h' tk bs hv hr hk => ?_
    rw [PySem.W.minD_ints] at hr
    cases hm
    obtain ⟨t, e⟩ : ∃ t, v = Value.int (ns.foldl min n) t := by
      cases hr
      exact ⟨_, rfl⟩
    subst e
    exact ⟨.int _, H, I.kept hk, ⟨_, rfl⟩, q⟩
theorem cr_sumT (hc : X.calm = true) : CallR X (.builtin "sum") (rTupI fun ns => some ns.sum) := by
  intro pins s σ H xs us Q I r h
  obtain ⟨a, ns, m, rfl, ha, hm, q⟩ := h
  cases hm
  obtain rfl := Vals.ref1 r
  obtain ⟨its, rv, p, _⟩ := I.tuple (xs := ns.map V.int) (.inl ha)
  have hi := Vals.ints rv
  obtain ⟨ys, hx⟩ := hi.allInts.items
  have hn : numsOf its.toArray.toList = ns := by rw [show its.toArray.toList = its from rfl, hi.numsOf]
  have p' : s.heap.IsTuple a its.toArray := p
  rw [hx] at p' hn
  rw [nums_intItems] at hn
  refine PySem.W.ktm_sumG (I.ok.hd hc) p' fun h' tk t' hk => ?_
  rw [preSum_eq, List.take_of_length_le (by simp), hn]
  exact ⟨.int _, H, I.kept hk, ⟨_, rfl⟩, q⟩
def pName : Prim -> Str
  | .len => "len"
  | .list => "list"
  | .tuple => "tuple"
  | .max1 => "max"
  | .min1 => "min"
  | .max2 => "max"
  | .min2 => "min"
  | .sum => "sum"
  | .all => "all"
  | .any => "any"
  | .int => "int"
  | .lenset => ""
  | .sortset => ""
def pVal : Prim -> Value
  | .len => .builtin "len"
  | .list => .type "list"
  | .tuple => .type "tuple"
  | .max1 => .builtin "max"
  | .min1 => .builtin "min"
  | .max2 => .builtin "max"
  | .min2 => .builtin "min"
  | .sum => .builtin "sum"
  | .all => .builtin "all"
  | .any => .builtin "any"
  | .int => .type "int"
  | .lenset => .none
  | .sortset => .none
theorem one_of {B : Addr -> Prop} {H : Hp} {xs : List V} {d : D} (h : DnL B H xs [d]) : ∃ x, xs = [x] ∧ Dn B H x d := by
  cases h with | cons a b => cases b; exact ⟨_, rfl, a⟩
theorem two_of {B : Addr -> Prop} {H : Hp} {xs : List V} {d e : D} (h : DnL B H xs [d, e]) : ∃ x y, xs = [x, y] ∧ Dn B H x d ∧ Dn B H y e := by
  cases h with | cons a b => cases b with | cons b c => cases c; exact ⟨_, _, rfl, a, b⟩
theorem ref_lst {B : Addr -> Prop} {H : Hp} {x : V} {l : List D} (h : Dn B H x (.list l)) : ∃ a xs, x = .ref a ∧ Rd H a (.lst xs) ∧ ¬ B a ∧ DnL B H xs l := by
  cases h with | lst a b c => exact ⟨_, _, rfl, a, b, c⟩
theorem ref_tup {B : Addr -> Prop} {H : Hp} {x : V} {l : List D} (h : Dn B H x (.tuple l)) : ∃ a xs, x = .ref a ∧ TupAt H a xs ∧ ¬ B a ∧ DnL B H xs l := by
  cases h with | tup a b c => exact ⟨_, _, rfl, a, b, c⟩
theorem prim_ok (p : Prim) (hc : X.calm = true) (hu : X.A.units + 65 < cLine) (h0 : p ≠ .lenset) (h1 : p ≠ .sortset) : CallR X (pVal p) (rN (primD p)) := by
  intro pins s σ H xs us Q I r h
  obtain ⟨B, ds, d, ht, hd, hf, q⟩ := h
  unfold primD at hf
  split at hf
  all_goals first | exact absurd rfl h0 | exact absurd rfl h1 | skip
  case h_1 =>
    cases hf
    obtain ⟨x, rfl, hx⟩ := one_of hd
    obtain ⟨a, ys, rfl, a1, a2, a3⟩ := ref_lst hx
    rw [← a3.length] at q
    exact call_len_seq pins s σ H _ us Q I r ⟨_, _, rfl, .inl (.inl a1), q.here (.int _)⟩
  case h_2 =>
    cases hf
    obtain ⟨x, rfl, hx⟩ := one_of hd
    obtain ⟨a, ys, rfl, a1, a2, a3⟩ := ref_tup hx
    rw [← a3.length] at q
    exact call_len_seq pins s σ H _ us Q I r ⟨_, _, rfl, .inr (.inl a1.rd), q.here (.int _)⟩
  case h_3 =>
    cases hf
    obtain ⟨x, rfl, hx⟩ := one_of hd
    obtain ⟨a, ys, rfl, a1, a2, a3⟩ := ref_lst hx
    exact call_list_of pins s σ H _ us Q I r ⟨_, _, rfl, .inl (.inl a1), q.newL ht a3⟩
  case h_4 =>
    cases hf
    obtain ⟨x, rfl, hx⟩ := one_of hd
    obtain ⟨a, ys, rfl, a1, a2, a3⟩ := ref_tup hx
    exact call_list_of pins s σ H _ us Q I r ⟨_, _, rfl, .inr (.inl a1.rd), q.newL ht a3⟩
  case h_5 =>
    cases hf
    obtain ⟨x, rfl, hx⟩ := one_of hd
    obtain ⟨a, ys, rfl, a1, a2, a3⟩ := ref_lst hx
    exact call_tupleF pins s σ H _ us Q I r ⟨_, _, rfl, .inl ⟨.inl a1, q.newT ht a3⟩⟩
  case h_6 =>
    cases hf
    obtain ⟨x, rfl, hx⟩ := one_of hd
    obtain ⟨a, ys, rfl, a1, a2, a3⟩ := ref_tup hx
    exact call_tupleF pins s σ H _ us Q I r ⟨_, _, rfl, .inr ⟨.inl a1.rd, q.here (.tup a1 a2 a3)⟩⟩
  case h_7 =>
    obtain ⟨ns, e1, hf⟩ := bnd_inv hf
    obtain ⟨m, e2, hf⟩ := bnd_inv hf
    cases hf
    obtain ⟨x, rfl, hx⟩ := one_of hd
    obtain ⟨a, ys, rfl, a1, a2, a3⟩ := ref_lst hx
    have e := a3.intsV (ofO_inv e1)
    subst e
    have sp := maxI_spec (ofO_inv e2)
    exact cr_max hc pins s σ H _ us Q I r ⟨_, ns, rfl, .inl a1, List.length_pos_of_mem sp.1, fun k hk hk2 => by rw [max_uniq sp hk hk2]; exact q.here (.int _)⟩
  case h_8 =>
    obtain ⟨ns, e1, hf⟩ := bnd_inv hf
    obtain ⟨m, e2, hf⟩ := bnd_inv hf
    cases hf
    obtain ⟨x, rfl, hx⟩ := one_of hd
    obtain ⟨a, ys, rfl, a1, a2, a3⟩ := ref_tup hx
    have e := a3.intsV (ofO_inv e1)
    subst e
    exact cr_maxT hc hu pins s σ H _ us Q I r ⟨_, ns, m, rfl, a1.rd, ofO_inv e2, q.here (.int _)⟩
  case h_9 =>
    obtain ⟨ns, e1, hf⟩ := bnd_inv hf
    obtain ⟨m, e2, hf⟩ := bnd_inv hf
    cases hf
    obtain ⟨x, rfl, hx⟩ := one_of hd
    obtain ⟨a, ys, rfl, a1, a2, a3⟩ := ref_lst hx
    have e := a3.intsV (ofO_inv e1)
    subst e
    have sp := minI_spec (ofO_inv e2)
    exact cr_min hc pins s σ H _ us Q I r ⟨_, ns, rfl, .inl a1, List.length_pos_of_mem sp.1, fun k hk hk2 => by rw [min_uniq sp hk hk2]; exact q.here (.int _)⟩
  case h_10 =>
    obtain ⟨ns, e1, hf⟩ := bnd_inv hf
    obtain ⟨m, e2, hf⟩ := bnd_inv hf
    cases hf
    obtain ⟨x, rfl, hx⟩ := one_of hd
    obtain ⟨a, ys, rfl, a1, a2, a3⟩ := ref_tup hx
    have e := a3.intsV (ofO_inv e1)
    subst e
    exact cr_minT hc hu pins s σ H _ us Q I r ⟨_, ns, m, rfl, a1.rd, ofO_inv e2, q.here (.int _)⟩
  case h_11 =>
    cases hf
    obtain ⟨x, y, rfl, hx, hy⟩ := two_of hd
    cases hx; cases hy
    exact call_max2 hc pins s σ H _ us Q I r ⟨_, _, rfl, q.here (.int _)⟩
  case h_12 =>
    cases hf
    obtain ⟨x, y, rfl, hx, hy⟩ := two_of hd
    cases hx; cases hy
    exact call_min2 hc pins s σ H _ us Q I r ⟨_, _, rfl, q.here (.int _)⟩
  case h_13 =>
    obtain ⟨ns, e1, hf⟩ := bnd_inv hf
    cases hf
    obtain ⟨x, rfl, hx⟩ := one_of hd
    obtain ⟨a, ys, rfl, a1, a2, a3⟩ := ref_lst hx
    have e := a3.intsV (ofO_inv e1)
    subst e
    exact cr_sum hc pins s σ H _ us Q I r ⟨_, ns, rfl, .inl a1, q.here (.int _)⟩
  case h_14 =>
    obtain ⟨ns, e1, hf⟩ := bnd_inv hf
    cases hf
    obtain ⟨x, rfl, hx⟩ := one_of hd
    obtain ⟨a, ys, rfl, a1, a2, a3⟩ := ref_tup hx
    have e := a3.intsV (ofO_inv e1)
    subst e
    exact cr_sumT hc pins s σ H _ us Q I r ⟨_, ns, _, rfl, a1.rd, rfl, q.here (.int _)⟩
  case h_15 =>
    obtain ⟨ns, e1, hf⟩ := bnd_inv hf
    cases hf
    obtain ⟨x, rfl, hx⟩ := one_of hd
    obtain ⟨a, ys, rfl, a1, a2, a3⟩ := ref_lst hx
    have e := a3.boolsV (ofO_inv e1)
    subst e
    exact cr_all hc pins s σ H _ us Q I r ⟨_, ns, rfl, .inl a1, q.here (.bl _)⟩
  case h_16 =>
    obtain ⟨ns, e1, hf⟩ := bnd_inv hf
    cases hf
    obtain ⟨x, rfl, hx⟩ := one_of hd
    obtain ⟨a, ys, rfl, a1, a2, a3⟩ := ref_lst hx
    have e := a3.boolsV (ofO_inv e1)
    subst e
    exact cr_any hc pins s σ H _ us Q I r ⟨_, ns, rfl, .inl a1, q.here (.bl _)⟩
  case h_17 =>
    cases hf
    obtain ⟨x, rfl, hx⟩ := one_of hd
    cases hx
    exact call_int1 pins s σ H _ us Q I r (.inr ⟨_, rfl, q.here (.int _)⟩)
  case h_18 =>
    cases hf
    obtain ⟨x, rfl, hx⟩ := one_of hd
    cases hx
    exact call_int1 pins s σ H _ us Q I r (.inl ⟨_, rfl, q.here (.int _)⟩)
  case h_22 =>
    obtain ⟨hz, hf⟩ := chk_inv hf
    cases hf
    obtain ⟨x, rfl, hx⟩ := one_of hd
    cases hx
    exact call_len_str pins s σ H _ us Q I r ⟨_, rfl, small_ok hz, q.here (.int _)⟩
  all_goals cases hf
end
end Sb

set_option Elab.async false
set_option linter.all false
set_option maxRecDepth 100000
set_option maxHeartbeats 1000000
/-! Sb4: methods, isinstance, len(set(..)), enumerate and zip over lists and tuples. -/
namespace Sb
open PySem PySem.Spec PyProof.Rows L2
section
variable {X : Cx}
/-! ### methods -/
def mId : Meth -> String
  | .lindex => "list.index"
  | .tindex => "tuple.index"
  | .lcount => "list.count"
def mName : Meth -> Str
  | .lindex => "index"
  | .tindex => "index"
  | .lcount => "count"
def rM (m : Meth) : V -> List V -> Hp -> VK -> Prop := fun x xs H Q => ∃ (B : Addr -> Prop) (d1 d2 d : D), Trk B H ∧ Dn B H x d1 ∧ DnL B H xs [d2] ∧ methD m d1 d2 = .ok d ∧ RV B H d Q
theorem indexOf_spec {b : D} : ∀ {xs : List D} {n : Nat}, indexOf b xs = some n -> ∃ z, xs[n]? = some z ∧ PyData.eqv z b = true ∧ ∀ (m : Nat) (z' : D), m < n -> xs[m]? = some z' -> PyData.eqv z' b = false
  | [], n, h => by cases h
  | y :: r, n, h => by
    unfold indexOf at h
    split at h
    · rename_i he
      cases h
      exact ⟨y, rfl, he, fun m z' hm => absurd hm (Nat.not_lt_zero _)⟩
    · rename_i he
      cases q : indexOf b r with
      | none => rw [q] at h; cases h
      | some k =>
        rw [q] at h
        have e : k + 1 = n := Option.some.inj h
        subst e
        obtain ⟨z, h1, h2, h3⟩ := indexOf_spec q
        refine ⟨z, by simpa using h1, h2, fun m z' hm hz => ?_⟩
        cases m with
        | zero =>
          simp at hz
          subst hz
          simpa using he
        | succ m => exact h3 m z' (by omega) (by simpa using hz)
theorem meth_ok (m : Meth) (hu : X.A.units + 65 < cLine) : MtR X (mId m) (rM m) := by
  intro pins s σ H x xs v us Q I rx rxs h
  obtain ⟨B, d1, d2, d, ht, h1, h2, hf, q⟩ := h
  obtain ⟨y, rfl, hy⟩ := one_of h2
  cases m with
  | lindex =>
    cases d1 with
    | list ds =>
      obtain ⟨hs, hf⟩ := chk_inv hf
      obtain ⟨n, e, hf⟩ := bnd_inv hf
      cases hf
      obtain ⟨c1, c2⟩ := Bool.and_eq_true_iff.mp hs
      obtain ⟨z, z1, z2, z3⟩ := indexOf_spec (ofO_inv e)
      obtain ⟨a, ys, rfl, a1, a2, a3⟩ := ref_lst h1
      exact mt_indexD hu pins s σ H _ _ v us Q I rx rxs ⟨a, y, d2, ds, n, z, rfl, rfl, h1.dp, hy.dp, c1, c2, z1, z2, z3, q.here (.int _)⟩
    | _ => cases hf
  | tindex =>
    cases d1 with
    | tuple ds =>
      cases d2 with
      | int i =>
        obtain ⟨ns, e, hf⟩ := bnd_inv hf
        obtain ⟨hs, hf⟩ := chk_inv hf
        cases hf
        obtain ⟨a, ys, rfl, a1, a2, a3⟩ := ref_tup h1
        have e2 := a3.intsV (ofO_inv e)
        subst e2
        cases hy
        obtain ⟨u, rfl, ru⟩ := rxs.one
        obtain ⟨t, rfl⟩ := ru
        cases rx
        obtain ⟨its, rv, p, _⟩ := I.tuple (xs := ns.map V.int) (.inl a1.rd)
        exact SeqAt.tuple_index_ints p (Vals.ints rv) (by simpa using hs) ⟨.int _, H, I.tok _, ⟨_, rfl⟩, q.here (.int _)⟩
      | _ => cases hf
    | _ => cases hf
  | lcount =>
    cases d1 with
    | list ds =>
      obtain ⟨hs, hf⟩ := chk_inv hf
      cases hf
      obtain ⟨c1, c2⟩ := Bool.and_eq_true_iff.mp hs
      obtain ⟨u1, rfl, ru⟩ := rxs.one
      obtain ⟨bs, r1⟩ := Dp.reads I d2 y u1 hy.dp ru
      have hl := h1.dp (K := X.K)
      cases hl with
      | lst hsq hall =>
        cases rx
        obtain ⟨its, rv, ⟨⟨cls, dd, data, sls⟩, n, ho, hc, hdn, hdt⟩, hlen⟩ := I.list hsq
        simp only at hc hdt
        subst hc hdt
        obtain ⟨as, h4⟩ := Dp.readsAll I ds _ its hall rv
        have hp1 : PyData.plainAll ds = true := PyData.plain_of_canLay0 (.list ds) (SeqAt.canLay_of_shaped c1)
        have hp2 : d2.plain = true := PyData.plain_of_canLay0 d2 (SeqAt.canLay_of_shaped c2)
        exact SeqAt.count_list_data (vs := its.toArray) ⟨_, ho, rfl, n, rfl⟩ (show ReadsAll s.heap its.toArray.toList ds as from h4) r1 hp1 hp2 (room_in_shaped c2 hu) ⟨.int _, H, I.tok _, ⟨_, rfl⟩, q.here (.int _)⟩
    | _ => cases hf
/-- a method of a list or of such a tuple, called with arguments -/
def seqTy (T : String) (x : V) (H : Hp) : Prop := ∃ (B : Addr -> Prop) (d : D), Dn B H x d ∧ ((T = "list" ∧ ∃ l, d = .list l) ∨ (T = "tuple" ∧ ∃ l, d = .tuple l))
theorem seqTy_is {pins : List (Addr × Obj)} {σ : L2.St} {H : Hp} {s : Shared} {T : String} {x : V} {v : Value} (I : Inv X pins σ H s) (r : RelV x v) (ty : seqTy T x H) :
    s.TypeIs v T ∧ ∀ a, v = .ref a → ∃ ob, s.heap.get? a = some ob ∧ ob.dict = none := by
  obtain ⟨B, d, hd, ⟨rfl, l, rfl⟩ | ⟨rfl, l, rfl⟩⟩ := ty
  · obtain ⟨a, ys, rfl, a1, a2, a3⟩ := ref_lst hd
    cases r
    obtain ⟨z, its, n, r, e⟩ := a1.ok I.hok
    exact ⟨⟨_, e, rfl⟩, fun b hb => by cases hb; exact ⟨_, e, rfl⟩⟩
  · obtain ⟨a, ys, rfl, ⟨o, a1, ho⟩, a2, a3⟩ := ref_tup hd
    cases r
    obtain ⟨e, z, its, r, o2, e2, c2, _⟩ := (show ObjOk X.prog X.w H s.heap a (.frz o (.tup ys)) from I.hok a _ a1)
    refine ⟨⟨o2, e2, c2⟩, fun b hb => ?_⟩
    cases hb
    exact ⟨o, e, ho⟩
def tBMs (T : String) (r : V -> List V -> Hp -> VK -> Prop) (to : TE) (t : TA) : TE := fun σ H Q => to σ H fun x H1 => seqTy T x H1 ∧ t σ H1 fun xs H2 => r x xs H2 Q
theorem pe_bms {o e : Expr} {es : List Expr} {to : TE} {t : TA} {name : Str} {apos cpos : Pos} {T id : String} {r : V → List V → Hp → VK → Prop} (pa : PlainAttrs T) (slot : Slot T name id) (hty : typeOf (.builtin id) = pure (.type "method_descriptor")) (hm : MtR X id r) (ho : PE X o to) (ha : PA X (e :: es) t)
    (hbase : attributeBase o name X.env (eval o X.env) = eval o X.env)
    (hfew : ((backTo cpos (starEach (e :: es) X.env)).all (fun x => !x.1) && (backToKw cpos (keywordEach [] X.env)).all (fun x => x.1.isSome)
      && decide ((e :: es).length + ([] : List Keyword).length + (if ([] : List Keyword).isEmpty then 0 else 1) < 30)) = true)
    (hline : (apos.endLine == cpos.line) = true) (hs : starEach (e :: es) X.env = (false, eval e X.env) :: starEach es X.env) (hplain : (backTo cpos (starEach es X.env)).any (·.1) = false) :
    PE X (.Call (.Attribute o name apos) (e :: es) [] cpos) (tBMs T r to t) := by
  refine ⟨fun pins s σ H Q I h => ?_⟩
  refine wpAny_Call_method_late hbase hfew hline rfl (thn (ho.run pins s σ H _ I h) fun v s1 ⟨x, H1, I1, r1, ty, q1⟩ => ?_)
  obtain ⟨h1, h2⟩ := seqTy_is I1 r1 ty
  refine ⟨T, id, pa, slot, hty, h1, h2, ?_⟩
  have hA := ha.run cpos pins s1 σ H1 _ I1 q1
  rw [hs] at hA ⊢
  refine Calls.callWith_builtin (by show (false || (backTo cpos (starEach es X.env)).any (·.1)) = false; rw [hplain] <;> rfl) (Calls.evalArgs_plain ?_)
  exact thn hA fun us s2 ⟨vs, H2, I2, r2, q2⟩ => hm pins s2 σ H2 x vs v us Q I2 r1 r2 q2

/-! ### isinstance -/
def tyN : Ty -> String
  | .int => "int"
  | .bool => "bool"
  | .str => "str"
  | .tuple => "tuple"
  | .list => "list"
def tyD : D -> String
  | .none => "NoneType"
  | .bool _ => "bool"
  | .int _ => "int"
  | .str _ => "str"
  | .list _ => "list"
  | .tuple _ => "tuple"
  | .dict _ => "dict"
theorem tyX_of {K : PySem.W.Frag} {B : Addr -> Prop} {H : Hp} {x : V} {d : D} (h : Dn B H x d) : TyX K H x (.type (tyD d)) := by
  cases h with
  | non => exact .base .non
  | bl b => exact .base (.bl b)
  | int b => exact .base (.int b)
  | str b => exact .base (.str b)
  | lst r n l =>
    rcases r with r | ⟨o, r⟩
    · exact .base (.lst r)
    · exact .base (.frz r)
  | tup r n l =>
    obtain ⟨o, r, _⟩ := r
    exact .fTuple r
theorem kit_isi (t : Ty) (d : D) (hd : ∀ l, d ≠ .dict l) : kitB (tyD d) (tyN t) = some (isiD t d) := by
  cases d with
  | dict l => exact absurd rfl (hd l)
  | none => cases t <;> (simp only [tyD, tyN, isiD]; decide +kernel)
  | bool b => cases t <;> (simp only [tyD, tyN, isiD]; decide +kernel)
  | int i => cases t <;> (simp only [tyD, tyN, isiD]; decide +kernel)
  | str s => cases t <;> (simp only [tyD, tyN, isiD]; decide +kernel)
  | list l => cases t <;> (simp only [tyD, tyN, isiD]; decide +kernel)
  | tuple l => cases t <;> (simp only [tyD, tyN, isiD]; decide +kernel)
def rIsiD (t : Ty) : List V -> Hp -> VK -> Prop := fun xs H Q => ∃ (B : Addr -> Prop) (x : V) (d : D), xs = [x, .ty (tyN t)] ∧ Dn B H x d ∧ Q (.bl (isiD t d)) H
theorem isi_ok (t : Ty) : CallR X (.builtin "isinstance") (rIsiD t) := by
  intro pins s σ H xs us Q I r h
  obtain ⟨B, x, d, rfl, hd, q⟩ := h
  exact call_isi pins s σ H _ us Q I r ⟨x, _, _, _, _, rfl, .ty _, tyX_of hd, kit_ty (kit_isi t d (fun l e => by subst e; cases hd)), q⟩

/-! ### len(set(xs)) of ints -/
theorem firstMet_dedup (ns : List Int) : ∀ i, i ≤ ns.length -> PyProof.Rows.firstMet (fun i => ns.getD i 0) i = dedup (ns.take i)
  | 0, _ => by simp [dedup]; rfl
  | i + 1, hi => by
    have hlt : i < ns.length := hi
    have e1 : ns.getD i 0 = ns[i] := by
      rw [List.getD_eq_getElem?_getD, List.getElem?_eq_getElem hlt] <;> rfl
    have e2 : ns.take (i + 1) = ns.take i ++ [ns[i]] := by
      rw [List.take_add_one, List.getElem?_eq_getElem hlt] <;> rfl
    rw [PyProof.Rows.firstMet_succ, firstMet_dedup ns i (Nat.le_of_lt hlt), e2]
    unfold dedup
    rw [List.foldl_append, List.foldl_cons, List.foldl_nil]
    show (if _ then _ else _ ++ [ns.getD i 0]) = _
    rw [e1]
def tLenSetD (ta : TE) : TE := fun σ H Q => ta σ H fun x H1 => ∃ (l : Addr) (ns : List Int), x = .ref l ∧ (Rd H1 l (.lst (ns.map V.int)) ∨ Rd H1 l (.tup (ns.map V.int))) ∧ ns.length ≤ 1000 ∧ Q (.int ((dedup ns).length : Nat)) H1
theorem dedup_len (ns : List Int) : (dedup ns).length ≤ ns.length := by
  have key : ∀ (l acc : List Int), (l.foldl (fun acc x => if acc.any (· == x) then acc else acc ++ [x]) acc).length ≤ acc.length + l.length := by
    intro l
    induction l with
    | nil => intro acc; simp
    | cons x r ih =>
      intro acc
      simp only [List.foldl_cons, List.length_cons]
      refine Nat.le_trans (ih _) ?_
      split
      · omega
      · simp only [List.length_append, List.length_singleton]; omega
  have := key ns []
  simpa [dedup] using this
theorem dedup_inv (ns : List Int) : (dedup ns).Nodup ∧ ∀ k, k ∈ dedup ns ↔ k ∈ ns := by
  have key : ∀ (l acc : List Int), acc.Nodup → (l.foldl (fun acc x => if acc.any (· == x) then acc else acc ++ [x]) acc).Nodup ∧ ∀ k, k ∈ l.foldl (fun acc x => if acc.any (· == x) then acc else acc ++ [x]) acc ↔ k ∈ acc ∨ k ∈ l := by
    intro l
    induction l with
    | nil => intro acc h; simp [h]
    | cons x r ih =>
      intro acc h
      simp only [List.foldl_cons]
      by_cases hx : acc.any (· == x) = true
      · rw [if_pos hx]
        obtain ⟨h1, h2⟩ := ih acc h
        refine ⟨h1, fun k => ?_⟩
        rw [h2 k]
        have hm : x ∈ acc := by
          obtain ⟨y, hy, e⟩ := List.any_eq_true.mp hx
          rw [← eq_of_beq e]; exact hy
        constructor
        · rintro (a | a)
          · exact .inl a
          · exact .inr (List.mem_cons_of_mem _ a)
        · rintro (a | a)
          · exact .inl a
          · rcases List.mem_cons.mp a with e | e
            · rw [e]; exact .inl hm
            · exact .inr e
      · rw [if_neg hx]
        have hm : x ∉ acc := fun z => hx (List.any_eq_true.mpr ⟨x, z, by simp⟩)
        have hn : (acc ++ [x]).Nodup := by
          rw [List.nodup_append]
          refine ⟨h, by simp, fun a ha b hb e => ?_⟩
          have : b = x := by simpa using hb
          rw [e, this] at ha
          exact hm ha
        obtain ⟨h1, h2⟩ := ih (acc ++ [x]) hn
        refine ⟨h1, fun k => ?_⟩
        rw [h2 k]
        simp only [List.mem_append, List.mem_singleton, List.mem_cons]
        constructor
        · rintro ((a | a) | a)
          · exact .inl a
          · exact .inr (.inl (by simpa using a))
          · exact .inr (.inr a)
        · rintro (a | a | a)
          · exact .inl (.inl a)
          · exact .inl (.inr (by simpa using a))
          · exact .inr a
  have := key ns [] (by simp)
  refine ⟨this.1, fun k => ?_⟩
  unfold dedup
  rw [this.2 k]
  simp
theorem dedup_nodup (ns : List Int) : (dedup ns).Nodup := (dedup_inv ns).1
theorem dedup_mem (ns : List Int) (k : Int) : k ∈ dedup ns ↔ k ∈ ns := (dedup_inv ns).2 k
theorem nodup_len {a b : List Int} (ha : a.Nodup) (hb : b.Nodup) (h : ∀ k, k ∈ a ↔ k ∈ b) : a.length = b.length := ((List.perm_ext_iff_of_nodup ha hb).mpr h).length_eq
theorem pe_lenSetD {a : Expr} {ta : TE} {p p2 q pos : Pos} (hg : Gl X "len") (hm : X.mg "len" = none) (hg2 : Gl X "set") (hm2 : X.mg "set" = none) (ha : PE X a ta) (hc : X.calm = true)
    (na : starEach [a] X.env = (false, eval a X.env) :: starEach [] X.env) : PE X (.Call (.Name "len" p) [.Call (.Name "set" p2) [a] [] q] [] pos) (tLenSetD ta) := by
  refine ⟨fun pins s σ H Q I h => ?_⟩
  refine Call_ (ld_blt I hg hm boot_len ?_)
  refine PyProof.Rows.callWith_builtin1 (PyProof.Rows.args_cons ?_ rfl) rfl rfl
  refine Call_ (ld_blt I hg2 hm2 boot_set ?_)
  refine PyProof.Rows.callWith_type1 (PyProof.Rows.args_cons (thn (ha.run pins s σ H _ I h) fun v s1 ⟨x, H1, I1, r1, q1⟩ => PyProof.Rows.args_nil ?_) na) na rfl
  obtain ⟨l, ns, rfl, hq, hl, q1⟩ := q1
  cases r1
  have dl := dedup_len ns
  rcases hq with hq | hq
  · obtain ⟨its, r, pl, hz⟩ := I1.list (xs := ns.map V.int) (.inl hq)
    have hlen : its.toArray.size = ns.length := by rw [List.size_toArray, ← r.length, List.length_map]
    refine call_set_list (I1.ok.hd hc) pl.isList (by simpa using Vals.ints r) (by rw [hlen]; unfold scanBound; omega) fun h' tk hS hk => ?_
    refine PyProof.Rows.args_nil ?_
    rw [hlen, firstMet_dedup ns ns.length (Nat.le_refl _), List.take_length] at hS
    obtain ⟨o, es, ep, t, ho, hex, hd, _, _, _, hf, hn⟩ := hS
    have I2 : Inv X pins σ H1 { s1 with heap := h', toks := tk } := I1.kept fun b o e => hk b o (Heap.lt_size e) e
    exact call_len_set ho hex hd hf (by rw [hn] <;> omega) ⟨.int ((dedup ns).length : Nat), H1, I2.tok _, ⟨_, by rw [hn]⟩, q1⟩
  · obtain ⟨its, r, pl, hz⟩ := I1.tuple (xs := ns.map V.int) (.inl hq)
    refine call_set_tupI ns (I1.ok.hd hc) pl (by simpa using Vals.ints r) (by unfold scanBound; omega) fun h' tk c hS hcn hk => ?_
    refine PyProof.Rows.args_nil ?_
    obtain ⟨o, es, ep, t, ho, hex, hd, _, hnd, hmem, _, hf, hn, _⟩ := hS
    have hc2 : c = (dedup ns).length := by
      rw [← hn, ← Array.length_toList, ← List.length_map (f := keyOf)]
      refine nodup_len hnd (dedup_nodup ns) fun k => ?_
      rw [dedup_mem, ← hmem k]
      simp
    have I2 : Inv X pins σ H1 { s1 with heap := h', toks := tk } := I1.kept hk
    exact call_len_set ho hex hd hf (by rw [hn] <;> omega) ⟨.int ((dedup ns).length : Nat), H1, I2.tok _, ⟨_, by rw [hn, hc2]⟩, q1⟩
end
/-! ### enumerate and zip over lists and tuples -/
inductive Sk where
  | l | t
def Sk.sq (k : Sk) (K : PySem.W.Frag) (H : Hp) (a : Addr) (xs : List V) : Prop := match k with
  | .l => SqL K H a xs
  | .t => SqT K H a xs
def Sk.iter (k : Sk) (h : Heap) (it a : Addr) (i : Nat) : Prop := match k with
  | .l => h.IsListIter it a i
  | .t => h.IsTupleIter it a i
def Sk.at (k : Sk) (h : Heap) (a : Addr) (its : Array Value) : Prop := match k with
  | .l => h.IsList a its
  | .t => h.IsTuple a its
def Sk.obj (k : Sk) (a : Addr) : Obj := match k with
  | .l => { cls := .type "list_iterator", data := .fields #[.ref a, .int 0 0] }
  | .t => { cls := .type "tuple_iterator", data := .fields #[.ref a, .int 0 0] }
section
variable {X : Cx} {pins : List (Addr × Obj)} {σ : L2.St} {H : Hp} {s : Shared} {a : Addr} {xs ys : List V}
theorem sk_get (k : Sk) (I : Inv X pins σ H s) (h : k.sq X.K H a xs) : ∃ its : List Value, Vals xs its ∧ k.at s.heap a its.toArray ∧ a < s.heap.objs.size := by
  cases k with
  | l => obtain ⟨its, r, p, z⟩ := I.list h; exact ⟨its, r, p.isList, p.lt⟩
  | t => obtain ⟨its, r, p, z⟩ := I.tuple h; exact ⟨its, r, p, p.lt⟩
theorem sk_inj (k : Sk) (I : Inv X pins σ H s) (h : k.sq X.K H a xs) (h' : k.sq X.K H a ys) : xs = ys := by
  cases k with
  | l => exact I.list_inj h h'
  | t => exact I.tuple_inj h h'
theorem sk_obj (k : Sk) {h : Heap} {it a : Addr} {i : Nat} (z : k.iter h it a i) : ∃ o, h.get? it = some o ∧ ∀ v, o.data ≠ .cell v := by
  cases k with
  | l => obtain ⟨o, e, _, d⟩ := z; exact ⟨o, e, fun v q => by rw [d] at q; cases q⟩
  | t => obtain ⟨o, e, _, d⟩ := z; exact ⟨o, e, fun v q => by rw [d] at q; cases q⟩
theorem sk_stay (k : Sk) {h h' : Heap} {it a : Addr} {i : Nat} (z : k.iter h it a i) (kk : ∀ o, h.get? it = some o → h'.get? it = some o) : k.iter h' it a i := by
  cases k with
  | l => exact Heap.IsListIter.at z kk
  | t => exact Heap.IsTupleIter.at z kk
theorem sk_draws (k : Sk) {prog : Program} {w : World} {A : Around} (hh : A.handled = none) (it t : Addr) (hne : t ≠ it) (items : Array Value) :
    Draws prog w A it [it, t] items.size (fun i v => items[i]? = some v) (fun i h => k.iter h it t i ∧ k.at h t items) := by
  cases k with
  | l => exact Draws.list hh it t hne items
  | t => exact Draws.tuple hh it t hne items
theorem sk_begins (k : Sk) (t : Addr) (items : Array Value) : Begins (.ref t) (k.obj t) (fun h => k.at h t items) := by
  cases k with
  | l => exact begins_list t items
  | t => exact begins_tuple t items
theorem sk_start (k : Sk) {h : Heap} {it t : Addr} (e : h.get? it = some (k.obj t)) : k.iter h it t 0 := by
  cases k with
  | l => exact ⟨_, e, rfl, rfl⟩
  | t => exact ⟨_, e, rfl, rfl⟩
def ItE (k : Sk) (K : PySem.W.Frag) (a : Addr) : It :=
  ⟨fun i H => ∃ (xs : List V) (x : V), k.sq K H a xs ∧ xs[i]? = some x, fun i H v H' => ∃ T x, v = .ref T ∧ H T = none ∧ H' = upd H T (.tup [.int (i : Nat), x]) ∧ ∀ xs, k.sq K H a xs → xs[i]? = some x, fun i H => ∃ xs : List V, k.sq K H a xs ∧ xs.length = i⟩
theorem turn_enumD (k : Sk) {P : Program} {w : World} {K : PySem.W.Frag} {elts : List Expr} {kk : Nat} {tpos : Pos} (a e it : Addr) (hei : e ≠ it) (hea : e ≠ a) (hai : a ≠ it) :
    Turn P w K (.Tuple elts kk tpos) (ItE k K a) [e, it] e (fun i h => (∃ old, IsEnum h e it ((i : Nat) : Int) old) ∧ k.iter h it a i) where
  mem := by simp
  obj := fun i h st b hb => by
    obtain ⟨⟨old, he⟩, hi⟩ := st
    have e' : b = e ∨ b = it := by simpa using hb
    rcases e' with z | z
    · rw [z]; exact ⟨_, he, fun v q => nomatch q⟩
    · rw [z]; exact sk_obj k hi
  keep := fun i h h' st kp => let ⟨⟨old, he⟩, hi⟩ := st; ⟨⟨old, kp e (by simp) _ he⟩, sk_stay k hi fun o q => kp it (by simp) o q⟩
  item := by
    intro X hP hw hK hc i pins s σ H E I hf st hg
    subst hP hw hK
    obtain ⟨⟨old, he⟩, hit⟩ := st
    obtain ⟨xs, x, hq, hx⟩ := hg
    obtain ⟨its, rv, p, hal⟩ := sk_get k I hq
    obtain ⟨u, hu, ru⟩ := rv.get hx
    have hel : e < s.heap.objs.size := Heap.lt_size he
    have hil : it < s.heap.objs.size := by obtain ⟨_, q, _⟩ := sk_obj k hit; exact Heap.lt_size q
    have hlt : i < its.toArray.size := by
      rw [List.size_toArray]
      exact (List.getElem?_eq_some_iff.mp hu).1
    have DD := sk_draws k (prog := X.prog) (w := X.w) (A := X.A.in1) (I.ok.hd hc) it a hai its.toArray
    refine wpAny_pyNext_enum_itemD DD he ⟨hit, p⟩ hlt hei (by simp [hei, hea]) fun u1 h' tk hP1 ho hst' hT hsz hk => ?_
    have eu : u1 = u := by
      have q : its.toArray[i]? = some u1 := hP1
      have q2 : its.toArray[i]? = some u := by simpa using hu
      exact Option.some.inj (q.symm.trans q2)
    subst eu
    refine ⟨_, rfl, wpAny_letOwnedTupleGo_enum (s := { s with heap := h', toks := tk + 1 }) ho fun h'' he' sb => ?_⟩
    have hT2 : h''.get? s.heap.objs.size = some { cls := .type "tuple", data := .seq #[.int i tk, u1] } := (sb.2 _ (Nat.ne_of_gt hel)).trans hT
    have new : ObjOk X.prog X.w (upd H s.heap.objs.size (.tup [.int (i : Nat), x])) h'' s.heap.objs.size (.tup [.int (i : Nat), x]) :=
      ⟨by show 2 ≤ sizeLine; decide, [.int i tk, u1], .cons ⟨_, rfl⟩ (.cons ru .nil), ⟨_, hT2, rfl, _, rfl⟩⟩
    have I1 : Inv X pins σ (upd H s.heap.objs.size (.tup [.int (i : Nat), x])) { s with heap := h'', toks := tk + 1 } :=
      I.turnedNew (ch := [e, it]) (fun b ob hb q => (sb.2 b (fun z => hb (by simp [z]))).trans (hk b ob (fun z => hb (by simp [z])) (fun z => hb (by simp [z])) q)) hf (Nat.le_refl _) new
    refine ⟨.ref s.heap.objs.size, _, I1, rfl, ⟨_, x, rfl, I.hok.fresh (Nat.le_refl _), rfl, fun ys hy => by rw [sk_inj k I hy hq]; exact hx⟩, ⟨⟨u1, ?_⟩, sk_stay k hst'.1 fun o q => (sb.2 it (Ne.symm hei)).trans q⟩, fun b hb => ?_⟩
    · have e1 : ((i + 1 : Nat) : Int) = (i : Int) + 1 := by omega
      rw [e1]; exact he'
    · have hb' : b < s.heap.objs.size := by
        have e' : b = e ∨ b = it := by simpa using hb
        rcases e' with z | z
        · rw [z]; exact hel
        · rw [z]; exact hil
      rw [upd_ne (Nat.ne_of_lt hb')]
      exact (hf b hb).1
  done := by
    intro X hP hw hK hc i pins s σ H E I hf st hg
    subst hP hw hK
    obtain ⟨⟨old, he⟩, hit⟩ := st
    obtain ⟨xs, hq, hx⟩ := hg
    obtain ⟨its, rv, p, hal⟩ := sk_get k I hq
    obtain ⟨f0, f1, f2, f3, f4, f5⟩ := hf it (by simp)
    have hl := rv.length
    have e : its.toArray.size = i := by rw [List.size_toArray, ← hl]; exact hx
    have DD := sk_draws k (prog := X.prog) (w := X.w) (A := X.A.in1) (I.ok.hd hc) it a hai its.toArray
    rw [e] at DD
    refine wpAny_pyNext_enum_endD DD he ⟨hit, p⟩ fun h' eb => ⟨rfl, I.turned (t' := s.toks) (fun b o hb q => eb b o hb q) f0 f1 f3 f4 f5⟩
  self := fun A i s Q E st h => let ⟨⟨_, he⟩, _⟩ := st; wpAny_pyIter_enum he h

def ItZ (k1 k2 : Sk) (K : PySem.W.Frag) (a b : Addr) : It :=
  ⟨fun i H => ∃ (xs ys : List V) (x y : V), k1.sq K H a xs ∧ k2.sq K H b ys ∧ xs[i]? = some x ∧ ys[i]? = some y,
    fun i H v H' => ∃ T x y, v = .ref T ∧ H T = none ∧ H' = upd H T (.tup [x, y]) ∧ (∀ xs, k1.sq K H a xs → xs[i]? = some x) ∧ ∀ ys, k2.sq K H b ys → ys[i]? = some y,
    fun i H => ∃ xs ys : List V, k1.sq K H a xs ∧ k2.sq K H b ys ∧ i = min xs.length ys.length⟩
theorem turn_zipD (k1 k2 : Sk) {P : Program} {w : World} {K : PySem.W.Frag} {elts : List Expr} {kk : Nat} {tpos : Pos} {a b z TI TO i1 i2 : Addr} (D : ZipSep2 z TI TO i1 i2 [i1, a] [i2, b]) (ha : a ≠ i1) (hb : b ≠ i2) :
    Turn P w K (.Tuple elts kk tpos) (ItZ k1 k2 K a b) [z, TI, TO, i1, i2] z (fun i h => IsZip h z TI TO .none ∧ IsTupOf2 h TI (.ref i1) (.ref i2) ∧ (∃ x y, IsTupOf2 h TO x y) ∧ k1.iter h i1 a i ∧ k2.iter h i2 b i) where
  mem := by simp
  obj := fun i h st c hc => by
    obtain ⟨hz, hTI, ⟨x, y, hTO⟩, h1, h2⟩ := st
    have e' : c = z ∨ c = TI ∨ c = TO ∨ c = i1 ∨ c = i2 := by simpa using hc
    rcases e' with q | q | q | q | q
    · rw [q]; exact ⟨_, hz, fun v q => nomatch q⟩
    · rw [q]; exact ⟨_, hTI, fun v q => nomatch q⟩
    · rw [q]; exact ⟨_, hTO, fun v q => nomatch q⟩
    · rw [q]; exact sk_obj k1 h1
    · rw [q]; exact sk_obj k2 h2
  keep := fun i h h' st k => by
    obtain ⟨hz, hTI, ⟨x, y, hTO⟩, h1, h2⟩ := st
    exact ⟨k z (by simp) _ hz, k TI (by simp) _ hTI, ⟨x, y, k TO (by simp) _ hTO⟩, sk_stay k1 h1 fun o q => k i1 (by simp) o q, sk_stay k2 h2 fun o q => k i2 (by simp) o q⟩
  item := by
    intro X hP hw hK hc i pins s σ H E I hf st hg
    subst hP hw hK
    obtain ⟨hz, hTI, ⟨x0, y0, hTO⟩, h1, h2⟩ := st
    obtain ⟨xs, ys, x, y, hqx, hqy, hx, hy⟩ := hg
    obtain ⟨its, rv, p, _⟩ := sk_get k1 I hqx
    obtain ⟨its2, rv2, p2, _⟩ := sk_get k2 I hqy
    obtain ⟨u, hu, ru⟩ := rv.get hx
    obtain ⟨u2, hu2, ru2⟩ := rv2.get hy
    have hzl : z < s.heap.objs.size := Heap.lt_size hz
    have D1 := sk_draws k1 (prog := X.prog) (w := X.w) (A := X.A.in1) (I.ok.hd hc) i1 a ha its.toArray
    have D2 := sk_draws k2 (prog := X.prog) (w := X.w) (A := X.A.in1) (I.ok.hd hc) i2 b hb its2.toArray
    have hl1 : i < its.toArray.size := by
      rw [List.size_toArray]
      exact (List.getElem?_eq_some_iff.mp hu).1
    have hl2 : i < its2.toArray.size := by
      rw [List.size_toArray]
      exact (List.getElem?_eq_some_iff.mp hu2).1
    refine wpAny_pyNext_zipD2_item D D1 D2 hz hTI hTO ⟨h1, p⟩ ⟨h2, p2⟩ hl1 hl2 fun v1 v2 h' tk y1 y2 z' TO' st1' st2' hT hsz hk => ?_
    have e1 : v1 = u := by
      have q : its.toArray[i]? = some v1 := y1
      have q2 : its.toArray[i]? = some u := by simpa using hu
      exact Option.some.inj (q.symm.trans q2)
    have e2 : v2 = u2 := by
      have q : its2.toArray[i]? = some v2 := y2
      have q2 : its2.toArray[i]? = some u2 := by simpa using hu2
      exact Option.some.inj (q.symm.trans q2)
    subst e1 e2
    refine ⟨_, rfl, wpAny_letOwnedTupleGo_zip (s := { s with heap := h', toks := tk }) z' fun h'' z'' sb => ?_⟩
    have hT2 : h''.get? s.heap.objs.size = some { cls := .type "tuple", data := .seq #[v1, v2] } := (sb.2 _ (Nat.ne_of_gt hzl)).trans hT
    have new : ObjOk X.prog X.w (upd H s.heap.objs.size (.tup [x, y])) h'' s.heap.objs.size (.tup [x, y]) :=
      ⟨by show 2 ≤ sizeLine; decide, [v1, v2], .cons ru (.cons ru2 .nil), ⟨_, hT2, rfl, _, rfl⟩⟩
    have I1 : Inv X pins σ (upd H s.heap.objs.size (.tup [x, y])) { s with heap := h'', toks := tk } :=
      I.turnedNew (t' := tk) (ch := [z, TI, TO, i1, i2]) (fun c o hb q => (sb.2 c (fun q' => hb (by simp [q']))).trans (hk c o (fun q' => hb (by simp [q'])) (fun q' => hb (by simp [q'])) (fun q' => hb (by simp [q'])) (fun q' => hb (by simp [q'])) q)) hf (Nat.le_refl _) new
    refine ⟨.ref s.heap.objs.size, _, I1, rfl, ⟨_, x, y, rfl, I.hok.fresh (Nat.le_refl _), rfl, fun l hl => by rw [sk_inj k1 I hl hqx]; exact hx, fun l hl => by rw [sk_inj k2 I hl hqy]; exact hy⟩, ⟨z'', ?_, ⟨v1, v2, ?_⟩, ?_, ?_⟩, fun c hcm => ?_⟩
    · exact (sb.2 _ D.TIz).trans (hk _ _ D.TIz D.TITO D.TIi1 D.TIi2 hTI)
    · exact (sb.2 _ D.TOz).trans TO'
    · exact sk_stay k1 st1'.1 fun o q => (sb.2 _ D.zi1.symm).trans q
    · exact sk_stay k2 st2'.1 fun o q => (sb.2 _ D.zi2.symm).trans q
    · have hlt : c < s.heap.objs.size := by
        have e' : c = z ∨ c = TI ∨ c = TO ∨ c = i1 ∨ c = i2 := by simpa using hcm
        rcases e' with q | q | q | q | q
        · rw [q]; exact hzl
        · rw [q]; exact Heap.lt_size hTI
        · rw [q]; exact Heap.lt_size hTO
        · rw [q]; obtain ⟨_, e1, _⟩ := sk_obj k1 h1; exact Heap.lt_size e1
        · rw [q]; obtain ⟨_, e2, _⟩ := sk_obj k2 h2; exact Heap.lt_size e2
      rw [upd_ne (Nat.ne_of_lt hlt)]
      exact (hf c hcm).1
  done := by
    intro X hP hw hK hc i pins s σ H E I hf st hg
    subst hP hw hK
    obtain ⟨hz, hTI, ⟨x0, y0, hTO⟩, h1, h2⟩ := st
    obtain ⟨xs, ys, hqx, hqy, hend⟩ := hg
    obtain ⟨its, rv, p, _⟩ := sk_get k1 I hqx
    obtain ⟨its2, rv2, p2, _⟩ := sk_get k2 I hqy
    have l1 := rv.length
    have l2 := rv2.length
    have D1 := sk_draws k1 (prog := X.prog) (w := X.w) (A := X.A.in1) (I.ok.hd hc) i1 a ha its.toArray
    have D2 := sk_draws k2 (prog := X.prog) (w := X.w) (A := X.A.in1) (I.ok.hd hc) i2 b hb its2.toArray
    refine wpAny_pyNext_zipD2_end D D1 D2 hz hTI hTO ⟨h1, p⟩ ⟨h2, p2⟩ (by rw [List.size_toArray]; omega) (by rw [List.size_toArray]; omega) (by rw [List.size_toArray, List.size_toArray]; omega) fun h' tk hk => ⟨rfl, I.turnedL (t' := tk) (ch := [z, TI, TO, i1, i2]) (fun c o hb q =>
      hk c o (fun q' => hb (by simp [q'])) (fun q' => hb (by simp [q'])) (fun q' => hb (by simp [q'])) (fun q' => hb (by simp [q'])) q) hf⟩
  self := fun A i s Q E st h => wpAny_pyIter_zip st.1 h
theorem lt_one {a N : Nat} (h : a < N) : ∀ b ∈ [a], b < N := fun b hb => by
  have e : b = a := by simpa using hb
  rw [e]; exact h
def iZipD (K : PySem.W.Frag) (ta : TA) : TI := fun σ H R => ta σ H fun vs H1 => ∃ a b xs ys k1 k2, vs = [.ref a, .ref b] ∧ Sk.sq k1 K H1 a xs ∧ Sk.sq k2 K H1 b ys ∧ R (ItZ k1 k2 K a b) H1
def iEnumD (K : PySem.W.Frag) (ta : TA) : TI := fun σ H R => ta σ H fun vs H1 => ∃ a xs k, vs = [.ref a] ∧ Sk.sq k K H1 a xs ∧ R (ItE k K a) H1
theorem pi_zipD {e e2 : Expr} {ta : TA} {p pos tpos : Pos} {elts : List Expr} {kk : Nat} (hg : Gl X "zip") (hm : X.mg "zip" = none) (ha : PA X [e, e2] ta)
    (hs : starEach [e, e2] X.env = (false, eval e X.env) :: starEach [e2] X.env) (hpl : (backTo pos (starEach [e2] X.env)).any (·.1) = false) :
    PI X (.Tuple elts kk tpos) (.Call (.Name "zip" p) [e, e2] [] pos) (iZipD X.K ta) := by
  refine ⟨fun pins s σ H R I h => ?_⟩
  refine Call_ (ld_blt I hg hm PyProof.Rows.boot_zip (PyProof.Rows.callWith_type1 (thn (ha.run pos pins s σ H _ I h) fun us s1 ⟨vs, H1, I1, r1, q1⟩ => ?_) hs hpl))
  obtain ⟨a, b, xs, ys, k1, k2, ex, hqx, hqy, q⟩ := q1
  subst ex
  obtain ⟨u1, u2, rfl, r, r'⟩ := r1.two
  cases r
  cases r'
  obtain ⟨its, rv, p1, la⟩ := sk_get k1 I1 hqx
  obtain ⟨its2, rv2, p2, lb⟩ := sk_get k2 I1 hqy
  refine zip_begins2 (sk_begins k1 a its.toArray) (sk_begins k2 b its2.toArray) p1 p2 fun h' hz hTI hTO h1 h2 hsz hk => wpAny_pyIter_zip hz ?_
  have I2 : Inv X pins σ H1 { s1 with heap := h' } := I1.kept (t' := s1.toks) hk
  refine ⟨s1.heap.objs.size + 4, [s1.heap.objs.size + 4, s1.heap.objs.size + 2, s1.heap.objs.size + 3, s1.heap.objs.size, s1.heap.objs.size + 1], _, _, H1, rfl, I2, turn_zipD k1 k2 (zip_sep2 (N := s1.heap.objs.size) (fp1 := [a]) (fp2 := [b]) (lt_one la) (lt_one lb)) (Nat.ne_of_lt la) (Nat.ne_of_lt (Nat.lt_succ_of_lt lb)), ⟨hz, hTI, ⟨_, _, hTO⟩, sk_start k1 h1, sk_start k2 h2⟩, fun c hcm => ?_, q⟩
  have e' : c = s1.heap.objs.size + 4 ∨ c = s1.heap.objs.size + 2 ∨ c = s1.heap.objs.size + 3 ∨ c = s1.heap.objs.size ∨ c = s1.heap.objs.size + 1 := by simpa using hcm
  have hle : s1.heap.objs.size ≤ c := by
    rcases e' with z | z | z | z | z
    · rw [z]; exact Nat.le_add_right _ _
    · rw [z]; exact Nat.le_add_right _ _
    · rw [z]; exact Nat.le_add_right _ _
    · rw [z]; exact Nat.le_refl _
    · rw [z]; exact Nat.le_add_right _ _
  exact I1.fpOk hle (I1.hok.fresh hle)

theorem meets_enum0 {v : Value} {o : Obj} {H : Heap → Prop} (B : Begins v o H) :
    Meets (Builtin.«enumerate.__new__» ⟨[.type "enumerate", v], []⟩) (fun _ R s => H s.heap ∧
      R (.ok (.ret (.ref (s.heap.push o).objs.size))) { s with heap := (s.heap.push o).push { cls := .type "enumerate", data := .fields #[.none, .bool false, .ref s.heap.objs.size, rawInt 0, .none, .none] } }) :=
  .of_wp fun prog w A R s h => by
    obtain ⟨hp, g, d, tk, os⟩ := s; obtain ⟨h1, h⟩ := h
    have hsub := sub_enumerate
    have q1 : ∀ {A' : Around} {E : Value → Shared → Prop} {Q : Value → Shared → Prop}, Q (.ref hp.objs.size) ⟨hp.push o, g, d, tk, os⟩ → wpAny (model prog w) A' (pyIter v) Q E ⟨hp, g, d, tk, os⟩ :=
      fun q => B.iter prog w _ _ ⟨hp, g, d, tk, os⟩ _ h1 q
    wp_walk using q1
    refine wpAny_stack_any fun st => wpAny_pure ?_
    split
    · rename_i c _ _ _ _ _
      cases (c == Value.type "enumerate")
      · wp_walk using q1
        exact ⟨_, rfl, h⟩
      · wp_walk using q1
        exact ⟨_, rfl, h⟩
    · wp_walk using q1
      exact ⟨_, rfl, h⟩
theorem enum_begins0 {prog : Program} {w : World} {A : Around} {E : Value → Shared → Prop} {s : Shared} {v : Value} {o : Obj} {H : Heap → Prop} {Q : Value → Shared → Prop} (B : Begins v o H) (h1 : H s.heap)
    (h : ∀ h', IsEnum h' (s.heap.objs.size + 1) s.heap.objs.size 0 .none → h'.get? s.heap.objs.size = some o → h'.objs.size = s.heap.objs.size + 2 →
      (∀ b o, s.heap.get? b = some o → h'.get? b = some o) → Q (.ref (s.heap.objs.size + 1)) { s with heap := h' }) :
    wpAny (model prog w) A (call (.type "enumerate") [v]) Q E s := by
  refine callType_new F.called_enumerate (by decide) (F.typeCall_enumerate_1 _) (F.newCall_enumerate_1 _) (fun obj => F.args_object_init_2 obj _) F.entry_enumerate_new
    (meets_enum0 B) ⟨h1, ?_⟩
  have hz : (s.heap.push o).objs.size = s.heap.objs.size + 1 := Heap.size_push ..
  show _ ∧ _
  rw [hz]
  have he : IsEnum ((s.heap.push o).push { cls := .type "enumerate", data := .fields #[.none, .bool false, .ref s.heap.objs.size, rawInt 0, .none, .none] }) (s.heap.objs.size + 1) s.heap.objs.size 0 .none := by
    have := Heap.get?_push_size (s.heap.push o) (o := { cls := .type "enumerate", data := .fields #[.none, .bool false, .ref s.heap.objs.size, rawInt 0, .none, .none] }) rfl
    rw [hz] at this; exact this
  refine ⟨⟨_, he, rfl⟩, h _ he (Heap.get?_push_of_some _ (Heap.get?_push_size _ B.free)) (by rw [Heap.size_push, hz]) fun b o x => Heap.get?_push_of_some _ (Heap.get?_push_of_some _ x)⟩
theorem pi_enumD {e : Expr} {ta : TA} {p pos tpos : Pos} {elts : List Expr} {kk : Nat} (hg : Gl X "enumerate") (hm : X.mg "enumerate" = none) (ha : PA X [e] ta) (hs : starEach [e] X.env = [(false, eval e X.env)]) :
    PI X (.Tuple elts kk tpos) (.Call (.Name "enumerate" p) [e] [] pos) (iEnumD X.K ta) := by
  refine ⟨fun pins s σ H R I h => ?_⟩
  refine Call_ (ld_blt I hg hm boot_enumerate (PyProof.Rows.callWith_type1 (thn (ha.run pos pins s σ H _ I h) fun us s1 ⟨vs, H1, I1, r1, q1⟩ => ?_) hs rfl))
  obtain ⟨a, xs, k, ex, hq, q⟩ := q1
  subst ex
  obtain ⟨u1, rfl, r⟩ := r1.one
  cases r
  obtain ⟨its, rv, p', la⟩ := sk_get k I1 hq
  refine enum_begins0 (sk_begins k a its.toArray) p' fun h' he hit hsz hk => wpAny_pyIter_enum he ?_
  have I2 : Inv X pins σ H1 { s1 with heap := h' } := I1.kept (t' := s1.toks) hk
  refine ⟨s1.heap.objs.size + 1, [s1.heap.objs.size + 1, s1.heap.objs.size], _, _, H1, rfl, I2, turn_enumD k a (s1.heap.objs.size + 1) s1.heap.objs.size (Nat.succ_ne_self _) (Nat.ne_of_gt (Nat.lt_succ_of_lt la)) (Nat.ne_of_lt la), ⟨⟨.none, he⟩, sk_start k hit⟩, fun b hb => ?_, q⟩
  have e' : b = s1.heap.objs.size + 1 ∨ b = s1.heap.objs.size := by simpa using hb
  have hle : s1.heap.objs.size ≤ b := by
    rcases e' with z | z
    · rw [z]; exact Nat.le_add_right _ _
    · rw [z]; exact Nat.le_refl _
  exact I1.fpOk hle (I1.hok.fresh hle)
end
end Sb

set_option Elab.async false
set_option linter.all false
set_option maxRecDepth 100000
set_option maxHeartbeats 1000000
/-! Sb5: slots and the abstract heap; what an expression leaves. -/
namespace Sb
open PySem PySem.Spec PyProof.Rows L2
def hashN (k : NKey) : Int := reduceHash (Builtin.Tuple.tupleHashOf [hashInt k.1, reduceHash (Builtin.Tuple.tupleHashOf (k.2.map hashInt))])
/-- the dict at a: keys, where they are, values -/
def NdP (a : Addr) (xs : List (NKey × Addr × V)) : Heap -> Prop := fun h => (a == sysModules) = false ∧ ∃ ys : List (NKey × Addr × Value), Paired (fun (p : NKey × Addr × V) (q : NKey × Addr × Value) => p.1 = q.1 ∧ p.2.1 = q.2.1 ∧ RelV p.2.2 q.2.2) xs ys ∧
  ∃ o es ep, h.get? a = some o ∧ o.ExactDict ∧ o.data = .dict es ep ∧ es.toList = ys.map (fun y => (⟨hashN y.1, .ref y.2.1, y.2.2⟩ : DictEntry)) ∧ (ys.map (·.1)).Nodup
def ndD (k : NKey) : D := .tuple [.int k.1, .tuple (k.2.map .int)]
def kd : Option (Option Rv) -> Nat
  | some (some (.c _)) => 1
  | some (some (.o _)) => 2
  | some (some (.m _)) => 3
  | some (some (.n _)) => 4
  | _ => 0
def own (r : En) (σ : L2.St) : Addr -> Prop := fun a => ∃ i : Nat, kd r[i]? ≠ 0 ∧ σ[i]? = some (some (.ref a))
def Bf (B0 : Addr -> Prop) (r : En) (σ : L2.St) : Addr -> Prop := fun a => B0 a ∨ own r σ a
inductive KvOk (B : Addr -> Prop) (H : Hp) : List (Key × V) -> List (Key × D) -> Prop
  | nil : KvOk B H [] []
  | cons {k : Key} {v : V} {d : D} {ks : List (Key × V)} {kvs : List (Key × D)} : Dn B H v d -> KvOk B H ks kvs -> KvOk B H ((k, v) :: ks) ((k, d) :: kvs)
theorem KvOk.mono {B B1 : Addr -> Prop} {H H1 : Hp} (hB : ∀ a, B1 a -> B a ∨ H a = none) (hH : ∀ a o, ¬ B a -> H a = some o -> H1 a = some o) : ∀ {ks : List (Key × V)} {kvs : List (Key × D)}, KvOk B H ks kvs -> KvOk B1 H1 ks kvs
  | _, _, .nil => .nil
  | _, _, .cons h t => .cons (h.mono hB hH) (KvOk.mono hB hH t)
inductive NvOk (B : Addr -> Prop) (H : Hp) : List (NKey × Addr × V) -> List (NKey × D) -> Prop
  | nil : NvOk B H [] []
  | cons {k : NKey} {b : Addr} {v : V} {d : D} {ks : List (NKey × Addr × V)} {kvs : List (NKey × D)} : Dn B H (.ref b) (ndD k) -> Dn B H v d -> NvOk B H ks kvs -> NvOk B H ((k, b, v) :: ks) ((k, d) :: kvs)
theorem NvOk.mono {B B1 : Addr -> Prop} {H H1 : Hp} (hB : ∀ a, B1 a -> B a ∨ H a = none) (hH : ∀ a o, ¬ B a -> H a = some o -> H1 a = some o) : ∀ {ks : List (NKey × Addr × V)} {kvs : List (NKey × D)}, NvOk B H ks kvs -> NvOk B1 H1 ks kvs
  | _, _, .nil => .nil
  | _, _, .cons h h2 t => .cons (h.mono hB hH) (h2.mono hB hH) (NvOk.mono hB hH t)
def RvOk (B0 B : Addr -> Prop) (H : Hp) (v : V) : Rv -> Prop
  | .d x => Dn B H v x
  | .c l => ∃ a xs, v = .ref a ∧ H a = some (.lst xs) ∧ DnL B H xs l ∧ B0 a
  | .o l => ∃ a xs, v = .ref a ∧ H a = some (.lst xs) ∧ DnL B H xs l ∧ ¬ B0 a
  | .m kvs => ∃ a ks, v = .ref a ∧ H a = some (.dK ks) ∧ KvOk B H ks kvs ∧ ¬ B0 a
  | .n kvs => ∃ a ks, v = .ref a ∧ H a = some (.ext (NdP a ks)) ∧ NvOk B H ks kvs ∧ ¬ B0 a
structure Rel (B0 : Addr -> Prop) (r : En) (σ : L2.St) (H : Hp) : Prop where
  len : r.length = σ.length
  at' : ∀ (i : Nat) x, r[i]? = some (some x) -> ∃ v, σ[i]? = some (some v) ∧ RvOk B0 (Bf B0 r σ) H v x
  inj : ∀ (i j : Nat) a, kd r[i]? ≠ 0 -> kd r[j]? ≠ 0 -> σ[i]? = some (some (.ref a)) -> σ[j]? = some (some (.ref a)) -> i = j
  trk : ∀ a, B0 a -> H a ≠ none
structure Shp (r r1 : En) : Prop where
  len : r1.length = r.length
  kind : ∀ i : Nat, kd r1[i]? = kd r[i]?
  dat : ∀ i : Nat, kd r[i]? = 0 -> r1[i]? = r[i]?
theorem Shp.refl (r : En) : Shp r r := ⟨rfl, fun _ => rfl, fun _ _ => rfl⟩
theorem Shp.trans {r r1 r2 : En} (a : Shp r r1) (b : Shp r1 r2) : Shp r r2 := ⟨b.len.trans a.len, fun i => (b.kind i).trans (a.kind i), fun i h => (b.dat i (by rw [a.kind]; exact h)).trans (a.dat i h)⟩
theorem own_shp {r r1 : En} {σ : L2.St} (h : Shp r r1) : own r1 σ = own r σ := by
  funext a
  unfold own
  simp only [h.kind]
theorem Bf_shp {B0 : Addr -> Prop} {r r1 : En} {σ : L2.St} (h : Shp r r1) : Bf B0 r1 σ = Bf B0 r σ := by
  unfold Bf
  rw [own_shp h]
structure Go (O : Addr -> Prop) (H H1 : Hp) : Prop where
  keep : ∀ a o, ¬ O a -> H a = some o -> H1 a = some o
  live : ∀ a, H a ≠ none -> H1 a ≠ none
theorem Go.refl (O : Addr -> Prop) (H : Hp) : Go O H H := ⟨fun _ _ _ e => e, fun _ e => e⟩
theorem Go.trans {O : Addr -> Prop} {H H1 H2 : Hp} (a : Go O H H1) (b : Go O H1 H2) : Go O H H2 := ⟨fun x o n e => b.keep x o n (a.keep x o n e), fun x e => b.live x (a.live x e)⟩
theorem Go.ofSame {O : Addr -> Prop} {H H1 : Hp} (h : Same H H1) : Go O H H1 := ⟨fun a o _ e => h a o e, fun a e => by
  cases q : H a with
  | none => exact absurd q e
  | some o => rw [h a o q]; simp⟩
structure Ex (B0 : Addr -> Prop) (r r1 : En) (σ : L2.St) (H H1 : Hp) : Prop where
  rel : Rel B0 r1 σ H1
  go : Go (own r σ) H H1
  shp : Shp r r1
section
variable {B0 : Addr -> Prop} {r r1 r2 : En} {σ : L2.St} {H H1 H2 : Hp}
theorem Rel.ownB (h : Rel B0 r σ H) {a : Addr} (z : own r σ a) : H a ≠ none := by
  obtain ⟨i, hk, hs⟩ := z
  cases q : r[i]? with
  | none => rw [q] at hk; exact absurd rfl hk
  | some o =>
    cases o with
    | none => rw [q] at hk; exact absurd rfl hk
    | some x =>
      obtain ⟨v, hv, hx⟩ := h.at' i x q
      rw [hs] at hv
      cases hv
      cases x with
      | d x => rw [q] at hk; exact absurd rfl hk
      | c l => obtain ⟨b, xs, e, hb, _⟩ := hx; cases e; rw [hb]; simp
      | o l => obtain ⟨b, xs, e, hb, _⟩ := hx; cases e; rw [hb]; simp
      | m l => obtain ⟨b, xs, e, hb, _⟩ := hx; cases e; rw [hb]; simp
      | n l => obtain ⟨b, xs, e, hb, _⟩ := hx; cases e; rw [hb]; simp
theorem Rel.trkB (h : Rel B0 r σ H) : Trk (Bf B0 r σ) H := fun a z => by
  rcases z with z | z
  · exact h.trk a z
  · exact h.ownB z
theorem Ex.refl (h : Rel B0 r σ H) : Ex B0 r r σ H H := ⟨h, Go.refl _ _, Shp.refl _⟩
theorem Ex.trans (a : Ex B0 r r1 σ H H1) (b : Ex B0 r1 r2 σ H1 H2) : Ex B0 r r2 σ H H2 := ⟨b.rel, a.go.trans (by rw [← own_shp a.shp]; exact b.go), a.shp.trans b.shp⟩
theorem Ex.dn (a : Ex B0 r r1 σ H H1) {v : V} {d : D} (h : Dn (Bf B0 r σ) H v d) : Dn (Bf B0 r1 σ) H1 v d := by
  rw [Bf_shp a.shp]
  exact h.mono (fun _ z => .inl z) fun b o n e => a.go.keep b o (fun z => n (.inr z)) e
theorem Ex.dnL (a : Ex B0 r r1 σ H H1) {v : List V} {d : List D} (h : DnL (Bf B0 r σ) H v d) : DnL (Bf B0 r1 σ) H1 v d := by
  rw [Bf_shp a.shp]
  exact h.mono (fun _ z => .inl z) fun b o n e => a.go.keep b o (fun z => n (.inr z)) e
theorem RvOk.same {B : Addr -> Prop} {v : V} {x : Rv} (hs : Same H H1) (h : RvOk B0 B H v x) : RvOk B0 B H1 v x := by
  cases x with
  | d x => exact Dn.same hs h
  | c l => obtain ⟨a, xs, e, h1, h2, h3⟩ := h; exact ⟨a, xs, e, hs _ _ h1, h2.same hs, h3⟩
  | o l => obtain ⟨a, xs, e, h1, h2, h3⟩ := h; exact ⟨a, xs, e, hs _ _ h1, h2.same hs, h3⟩
  | m l => obtain ⟨a, xs, e, h1, h2, h3⟩ := h; exact ⟨a, xs, e, hs _ _ h1, h2.mono (fun _ z => .inl z) (fun b o _ q => hs b o q), h3⟩
  | n l => obtain ⟨a, xs, e, h1, h2, h3⟩ := h; exact ⟨a, xs, e, hs _ _ h1, h2.mono (fun _ z => .inl z) (fun b o _ q => hs b o q), h3⟩
theorem Rel.same (hs : Same H H1) (h : Rel B0 r σ H) : Rel B0 r σ H1 := ⟨h.len, fun i x e => by
    obtain ⟨v, e1, e2⟩ := h.at' i x e
    exact ⟨v, e1, e2.same hs⟩, h.inj, fun a z => (Go.ofSame (O := fun _ => False) hs).live a (h.trk a z)⟩
theorem Ex.ofSame (h : Rel B0 r σ H) (hs : Same H H1) : Ex B0 r r σ H H1 := ⟨h.same hs, Go.ofSame hs, Shp.refl _⟩
end

def tE (e : E) : TE := fun σ H Q => ∃ B0 r d r1, Rel B0 r σ H ∧ den e r = .ok (d, r1) ∧ ∀ v H1, Ex B0 r r1 σ H H1 -> Dn (Bf B0 r1 σ) H1 v d -> Q v H1
def tT (e : E) : TT := fun σ H Q => ∃ B0 r b r1, Rel B0 r σ H ∧ den e r = .ok (.bool b, r1) ∧ ∀ H1, Ex B0 r r1 σ H H1 -> Q b H1
def tA (l : List E) : TA := fun σ H Q => ∃ B0 r ds r1, Rel B0 r σ H ∧ denL l r = .ok (ds, r1) ∧ ∀ vs H1, Ex B0 r r1 σ H H1 -> DnL (Bf B0 r1 σ) H1 vs ds -> Q vs H1
def tO (l : Option E) : TO := fun σ H Q => ∃ B0 r o r1, Rel B0 r σ H ∧ denO l r = .ok (o, r1) ∧ ∀ H1, Ex B0 r r1 σ H H1 -> Q o H1
def tCd (l : Option E) : TT := fun σ H Q => ∃ B0 r b r1, Rel B0 r σ H ∧ denC l r = .ok (b, r1) ∧ ∀ H1, Ex B0 r r1 σ H H1 -> Q b H1
/-- a datum, or a pair that a loop has just made -/
def Dw (B : Addr -> Prop) (H : Hp) (v : V) (d : D) : Prop := Dn B H v d ∨ ∃ T xs ds, v = .ref T ∧ Rd H T (.tup xs) ∧ d = .tuple ds ∧ DnL B H xs ds
/-- what J walks is l, as long as no forbidden place matters -/
def Walk (B : Addr -> Prop) (H : Hp) (J : It) (l : List D) (weak : Bool) : Prop := ∀ (B1 : Addr -> Prop) H1, (∀ a, B1 a -> B a ∨ H a = none) -> (∀ a o, ¬ B a -> H a = some o -> H1 a = some o) -> J.stop l.length H1 ∧ ∀ (i : Nat) (d : D), l[i]? = some d -> J.go i H1 ∧ ∀ x H2, J.yld i H1 x H2 -> Same H1 H2 ∧ Dw B1 H2 x d ∧ (weak = false -> Dn B1 H2 x d)
theorem Walk.up {B B1 : Addr -> Prop} {H H1 : Hp} {J : It} {l : List D} {w : Bool} (h : Walk B H J l w) (hB : ∀ a, B1 a -> B a ∨ H a = none) (hH : ∀ a o, ¬ B a -> H a = some o -> H1 a = some o) (live : ∀ a, H a ≠ none -> H1 a ≠ none) : Walk B1 H1 J l w := fun B2 H2 hB2 keep => by
  refine h B2 H2 (fun a z => ?_) fun a o n e => ?_
  · rcases hB2 a z with z | z
    · exact hB a z
    · by_cases q : H a = none
      · exact .inr q
      · exact absurd z (live a q)
  · have n2 : ¬ B1 a := fun z => (hB a z).elim n fun z => by rw [z] at e; cases e
    exact keep a o n2 (hH a o n e)
def isWeak : Src -> Bool
  | .enum _ => true
  | .zip _ _ => true
  | _ => false
def tI (it : Src) : TI := fun σ H R => ∃ B0 r l r1, Rel B0 r σ H ∧ items it r = .ok (l, r1) ∧ ∀ J H1, Ex B0 r r1 σ H H1 -> Walk (Bf B0 r1 σ) H1 J l (isWeak it) -> R J H1
theorem PE.of {X : Cx} {e : Expr} {t t' : TE} (h : PE X e t) (w : ∀ σ H Q, t' σ H Q -> t σ H Q) : PE X e t' := ⟨fun pins s σ H Q I q => h.run pins s σ H Q I (w _ _ _ q)⟩
theorem PT.of {X : Cx} {e : Expr} {t t' : TT} (h : PT X e t) (w : ∀ σ H Q, t' σ H Q -> t σ H Q) : PT X e t' := ⟨fun pins s σ H Q I q => h.run pins s σ H Q I (w _ _ _ q)⟩
theorem PW.of {X : Cx} {e : Expr} {t t' : TT} (h : PW X e t) (w : ∀ σ H Q, t' σ H Q -> t σ H Q) : PW X e t' := ⟨fun wh pins s σ H Q I q => h.run wh pins s σ H Q I (w _ _ _ q)⟩
theorem PA.of {X : Cx} {e : List Expr} {t t' : TA} (h : PA X e t) (w : ∀ σ H Q, t' σ H Q -> t σ H Q) : PA X e t' := ⟨fun pos pins s σ H Q I q => h.run pos pins s σ H Q I (w _ _ _ q)⟩
theorem PO.of {X : Cx} {e : Option Expr} {t t' : TO} (h : PO X e t) (w : ∀ σ H Q, t' σ H Q -> t σ H Q) : PO X e t' := by
  obtain ⟨run⟩ := h
  constructor
  intros
  refine run _ _ _ _ _ ‹_› (w _ _ _ ‹_›)
theorem PTs.of {X : Cx} {e : List Expr} {t t' : TT} (h : PTs X e t) (w : ∀ σ H Q, t' σ H Q -> t σ H Q) : PTs X e t' := ⟨fun pins s σ H Q I q => h.run pins s σ H Q I (w _ _ _ q)⟩

/-! ### promises of defs -/
/-- a def that changes nothing -/
def spP (n : Nat) (sem : PF) : Sp := fun vs H Q _ => vs.length = n ∧ ∃ (B : Addr -> Prop) (ds : List D) (d : D), Trk B H ∧ DnL B H vs ds ∧ sem ds = .ok d ∧ RV B H d Q
/-- a def that may change the list in its second argument -/
def spS (n : Nat) (sem : SF) : Sp := fun vs H Q _ => vs.length = n ∧ ∃ (B : Addr -> Prop) (v0 : V) (a : Addr) (vr : List V) (d0 : D) (dr : List D) (xs : List V) (t : List D) (d : D) (t2 : List D), vs = v0 :: .ref a :: vr ∧ Trk B H ∧ B a ∧ Dn B H v0 d0 ∧ DnL B H vr dr ∧
  H a = some (.lst xs) ∧ DnL B H xs t ∧ sem (d0 :: dr) t = .ok (d, t2) ∧ ∀ v H1 ys, Go (fun b => b = a) H H1 -> Dn B H1 v d -> H1 a = some (.lst ys) -> DnL B H1 ys t2 -> Q v H1
/-- a def that gives a new list -/
def spM (n : Nat) (sem : List D -> Out (List D)) : Sp := fun vs H Q _ => vs.length = n ∧ ∃ (B : Addr -> Prop) (ds : List D) (t : List D), Trk B H ∧ DnL B H vs ds ∧ sem ds = .ok t ∧ ∀ p xs H1, H p = none -> Same H H1 -> H1 p = some (.lst xs) -> DnL (fun a => B a ∨ a = p) H1 xs t -> Q (.ref p) H1
inductive Cl where
  | p (f : Str) (n : Nat) (sem : PF) | s (f : Str) (n : Nat) (sem : SF) | m (f : Str) (n : Nat) (sem : List D -> Out (List D))
def Cl.name : Cl -> Str
  | .p f _ _ => f
  | .s f _ _ => f
  | .m f _ _ => f
def Cl.sp : Cl -> Sp
  | .p _ n sem => spP n sem
  | .s _ n sem => spS n sem
  | .m _ n sem => spM n sem
/-- the def stands and keeps its promise -/
def Fok (P : Program) (w : World) (K : PySem.W.Frag) (mg : Str → Option Value) (base : Heap) (k : Nat) (c : Cl) : Prop :=
  ∃ (fa : Addr) (fd : FuncData) (ps : List Str), mg c.name = some (.ref fa) ∧ PySem.W.keepIn K (.ref fa) = true ∧ Binds K fd ps [] ∧ FnOk P w K mg base CX0 k fa fd ps c.sp
theorem Fok.mono {P : Program} {w : World} {K : PySem.W.Frag} {mg : Str → Option Value} {base : Heap} {j k : Nat} {c : Cl} (h : Fok P w K mg base j c) (l : j ≤ k) : Fok P w K mg base k c := by
  obtain ⟨fa, fd, ps, h1, h2, h3, h4⟩ := h
  exact ⟨fa, fd, ps, h1, h2, h3, h4.mono l⟩
end Sb

set_option Elab.async false
set_option linter.all false
set_option maxRecDepth 100000
set_option maxHeartbeats 1000000
/-! Sb6: does a piece of the row's syntax say what the own language says? -/
namespace Sb
open PySem PySem.Spec PyProof.Rows L2
def visB (sc : Scope) (x : Str) : Bool := match sc.names.lookup x with
  | some .local => true
  | some .cell => true
  | some .free => true
  | _ => false
def glB (sc : Scope) (x : Str) : Bool := match sc.names.lookup x with
  | some .globalImplicit => true
  | _ => false
def okN (x : Str) : Bool := !(x == ("__debug__" : Str)) && !(x == ("__classdict__" : Str)) && !(x == ("__name__" : Str))
/-- a name of the scope's own -/
def sbOf (sc : Scope) (x : Str) : Bool := match sc.names.lookup x with
  | some .local => true
  | some .cell => true
  | _ => false
/-- a name in its slot -/
def slB (N : List Str) (i : Nat) (x : Str) : Bool := decide (N[i]? = some x)
/-- neither starred nor a set nor a slice -/
def plainX : Expr -> Bool
  | .Starred _ _ => false
  | .Set _ _ _ => false
  | .Slice _ _ _ _ => false
  | _ => true
/-- no call without arguments -/
def noCall0 : Expr -> Bool
  | .Call _ [] _ _ => false
  | _ => true
/-- names of defs, one behind the other -/
def fsM (sc : Scope) : List (Str × PF) -> List Expr -> Bool
  | [], es => match es with
    | [] => true
    | _ => false
  | f :: fs, es => match es with
    | .Name x _ :: es => decide (x = f.1) && glB sc x && okN x && fsM sc fs es
    | _ => false
/-- the parts of such a form -/
def opM (o : Op) (sc : Scope) (pe : Expr) : Option (List Expr) := match o with
  | .sorts => match pe with
    | .Call (.Name x _) [.Call (.Name y _) [e] [] _] [] _ => if (decide (x = "sorted") && decide (y = "set") && glB sc "sorted" && glB sc "set") = true then some [e] else none
    | _ => none
  | .rev => match pe with
    | .Subscript e (.Slice none none (some (.UnaryOp .USub (.Constant (.int 1) _ _) _)) _) _ => some [e]
    | _ => none
  | .revt => match pe with
    | .Subscript e (.Slice none none (some (.UnaryOp .USub (.Constant (.int 1) _ _) _)) _) _ => some [e]
    | _ => none
  | .sortt => match pe with
    | .Call (.Name x _) [e] [] _ => if (decide (x = "sorted") && glB sc "sorted") = true then some [e] else none
    | _ => none
  | .sortsl => match pe with
    | .Call (.Name x _) [.Call (.Name y _) [e] [] _] [] _ => if (decide (x = "sorted") && decide (y = "set") && glB sc "sorted" && glB sc "set") = true then some [e] else none
    | _ => none
  | .str1 => match pe with
    | .Call (.Name x _) [e] [] _ => if (decide (x = "str") && glB sc "str") = true then some [e] else none
    | _ => none
  | .join sep => match pe with
    | .Call (.Attribute (.Constant (.str a) _ _) n ap) [e] [] cp => if (decide (a = sep) && decide (n = "join") && (ap.endLine == cp.line)) = true then some [e] else none
    | _ => none
  | .split sep => match pe with
    | .Call (.Attribute e n ap) [.Constant (.str a) _ _] [] cp => if (decide (a = sep) && decide (n = "split") && (ap.endLine == cp.line) && noCall0 e) = true then some [e] else none
    | _ => none
  | .chars => match pe with
    | .Call (.Name x _) [e] [] _ => if (decide (x = "list") && glB sc "list") = true then some [e] else none
    | _ => none
  | .repl _ _ => none
/-- an expression whose truth is asked of its value -/
def valX : Expr -> Bool
  | .UnaryOp .Not _ _ => false
  | .BoolOp _ _ _ => false
  | .IfExp _ _ _ _ => false
  | .Compare _ _ _ _ => false
  | _ => true
def constB (d : D) (c : Const) : Bool := match d, c with
  | .none, .none => true
  | .bool a, .bool b => decide (a = b)
  | .int a, .int b => decide (a = b)
  | .str a, .str b => decide (a = b)
  | _, _ => false
def isZero : E -> Bool
  | .k (.int i) => decide (i = 0)
  | _ => false
mutual
def mT (N : List Str) (sb : Str -> Bool) : Tg -> Expr -> Bool
  | .v i, pe => match pe with
    | .Name x _ => slB N i x && sb x
    | _ => false
  | .t l, pe => match pe with
    | .Tuple es _ _ => mTs N sb l es
    | _ => false
def mTs (N : List Str) (sb : Str -> Bool) : List Tg -> List Expr -> Bool
  | [], es => match es with
    | [] => true
    | _ => false
  | t :: l, es => match es with
    | e :: r => mT N sb t e && mTs N sb l r
    | [] => false
end
mutual
def tgS : Tg -> List Nat
  | .v i => [i]
  | .t l => tgSs l
def tgSs : List Tg -> List Nat
  | [] => []
  | t :: l => tgS t ++ tgSs l
end
def isTupX : Expr -> Bool
  | .Tuple _ _ _ => true
  | _ => false
mutual
def mE (N : List Str) (sc : Scope) : E -> Expr -> Bool
  | .k d, pe => match pe with
    | .Constant c _ _ => constB d c
    | _ => false
  | .v i, pe => match pe with
    | .Name x _ => slB N i x && visB sc x && okN x
    | _ => false
  | .bin op a b, pe => match pe with
    | .BinOp l o r _ => decide (o = toOp op) && mE N sc a l && mE N sc b r
    | _ => false
  | .neg a, pe => match pe with
    | .UnaryOp o x _ => decide (o = .USub) && mE N sc a x
    | _ => false
  | .cmp op a b, pe => match pe with
    | .Compare l [o] [r] _ => decide (o = toCmp op) && mE N sc a l && mE N sc b r
    | _ => false
  | .chain op op2 a b c, pe => match pe with
    | .Compare l [o, o2] [m, r] _ => decide (o = toCmp op) && decide (o2 = toCmp op2) && mE N sc a l && mE N sc b m && mE N sc c r
    | _ => false
  | .band a b, pe => match pe with
    | .BoolOp o (x :: y :: rest) pos => decide (o = .And) && mE N sc a x && (match rest with
      | [] => mE N sc b y
      | _ => mE N sc b (.BoolOp o (y :: rest) pos))
    | _ => false
  | .bor a b, pe => match pe with
    | .BoolOp o (x :: y :: rest) pos => decide (o = .Or) && mE N sc a x && (match rest with
      | [] => mE N sc b y
      | _ => mE N sc b (.BoolOp o (y :: rest) pos))
    | _ => false
  | .bnot a, pe => match pe with
    | .UnaryOp o x _ => decide (o = .Not) && mE N sc a x
    | _ => false
  | .ite c a b, pe => match pe with
    | .IfExp t x y _ => mE N sc c t && mE N sc a x && mE N sc b y
    | _ => false
  | .tup l, pe => match pe with
    | .Tuple es _ _ => mEs N sc l es
    | _ => false
  | .lst l, pe => match pe with
    | .List es _ => mEs N sc l es
    | _ => false
  | .ix a i, pe => match pe with
    | .Subscript o s _ => mE N sc a o && mE N sc i s
    | _ => false
  | .cix s i, pe => match pe with
    | .Subscript (.Name x _) sl _ => slB N s x && visB sc x && okN x && mE N sc i sl
    | _ => false
  | .dix s i, pe => match pe with
    | .Subscript (.Name x _) sl _ => slB N s x && visB sc x && okN x && mE N sc i sl
    | _ => false
  | .nix s i, pe => match pe with
    | .Subscript (.Name x _) sl _ => slB N s x && visB sc x && okN x && mE N sc i sl
    | _ => false
  | .dgt s i x, pe => match pe with
    | .Call (.Attribute (.Name y _) n ap) [pi, px] [] cp => decide (n = "get") && slB N s y && visB sc y && okN y && (ap.endLine == cp.line) && mE N sc i pi && mE N sc x px
    | _ => false
  | .sl a lo hi, pe => match pe with
    | .Subscript o (.Slice l h none _) _ => mE N sc a o && mO N sc lo l && mO N sc hi h
    | _ => false
  | .prim p l, pe => match pe with
    | .Call (.Name x _) es [] _ => (match p with
      | .lenset => false
      | .sortset => false
      | p => decide (x = pName p) && glB sc x && mEs N sc l es)
    | _ => false
  | .meth m a b, pe => match pe with
    | .Call (.Attribute o name ap) [e] [] cp => decide (name = mName m) && (ap.endLine == cp.line) && noCall0 o && mE N sc a o && mE N sc b e
    | _ => false
  | .isi t a, pe => match pe with
    | .Call (.Name x _) [e, .Name y _] [] _ => decide (x = "isinstance") && decide (y = Str.ofString (tyN t)) && glB sc x && glB sc y && mE N sc a e
    | _ => false
  | .lens a, pe => match pe with
    | .Call (.Name x _) [.Call (.Name y _) [e] [] _] [] _ => decide (x = "len") && decide (y = "set") && glB sc "len" && glB sc "set" && mE N sc a e
    | _ => false
  | .op o l, pe => match opM o sc pe with
    | some es => mEs N sc l es
    | none => false
  | .rng lo hi, pe => match pe with
    | .Call (.Name x _) [.Call (.Name y _) es [] _] [] _ => decide (x = "list") && decide (y = "range") && glB sc "list" && glB sc "range" && (match es with
      | [b] => isZero lo && mE N sc hi b
      | [a, b] => mE N sc lo a && mE N sc hi b
      | _ => false)
    | _ => false
  | .call f _ l, pe => match pe with
    | .Call (.Name x _) es [] _ => decide (x = f) && glB sc x && okN x && mEs N sc l es
    | _ => false
  | .callT fs i l, pe => match pe with
    | .Call (.Subscript (.Tuple fx _ _) ie _) (e :: es) [] _ => decide (fs.length ≤ 1000) && fsM sc fs fx && mE N sc i ie && mEs N sc l (e :: es)
    | _ => false
  | .callS f _ a s l, pe => match pe with
    | .Call (.Name x _) (e :: .Name y _ :: es) [] _ => decide (x = f) && glB sc x && okN x && slB N s y && visB sc y && okN y && mE N sc a e && mEs N sc l es
    | _ => false
  | .lc own tg it cond e, pe => match pe with
    | .ListComp elt [⟨t, i, ifs, 0⟩] scope _ => blkC N sc scope own && mT N (sbOf scope) tg t && (tgS tg).all (fun v => (own.map (·.2)).contains v) && mI N sc it t i && mC N (relS scope sc) cond ifs && mE N (relS scope sc) e elt
    | _ => false
  | .lc2 own vs1 tg it tg1 it1 e, pe => match pe with
    | .ListComp elt [⟨t, i, [], 0⟩, ⟨t1, i1, [], 0⟩] scope _ => blkC N sc scope own && mT N (sbOf scope) tg t && mT N (sbOf scope) tg1 t1 && (tgS tg).all (fun v => (own.map (·.2)).contains v) && (tgS tg1).all (fun v => vs1.contains v) && vs1.all (fun v => (own.map (·.2)).contains v) &&
        mI N sc it t i && mI N (relS scope sc) it1 t1 i1 && mE N (relS scope sc) e elt
    | _ => false
def mEs (N : List Str) (sc : Scope) : List E -> List Expr -> Bool
  | [], es => match es with
    | [] => true
    | _ => false
  | a :: l, es => match es with
    | e :: r => mE N sc a e && mEs N sc l r
    | [] => false
def mO (N : List Str) (sc : Scope) : Option E -> Option Expr -> Bool
  | none, e => match e with
    | none => true
    | _ => false
  | some a, e => match e with
    | some e => mE N sc a e
    | none => false
def mC (N : List Str) (sc : Scope) : Option E -> List Expr -> Bool
  | none, e => match e with
    | [] => true
    | _ => false
  | some a, e => match e with
    | [e] => mE N sc a e
    | _ => false
def mI (N : List Str) (sc : Scope) : Src -> Expr -> Expr -> Bool
  | .seq e, _, pe => mE N sc e pe
  | .rng e, _, pe => match pe with
    | .Call (.Name x _) [a] [] _ => decide (x = "range") && glB sc "range" && mE N sc e a
    | _ => false
  | .rng2 a b, _, pe => match pe with
    | .Call (.Name x _) [e, f] [] _ => decide (x = "range") && glB sc "range" && mE N sc a e && mE N sc b f
    | _ => false
  | .enum e, t, pe => match pe with
    | .Call (.Name x _) [a] [] _ => decide (x = "enumerate") && glB sc "enumerate" && isTupX t && mE N sc e a
    | _ => false
  | .zip a b, t, pe => match pe with
    | .Call (.Name x _) [e, f] [] _ => decide (x = "zip") && glB sc "zip" && isTupX t && mE N sc a e && mE N sc b f
    | _ => false
end
mutual
def clE : E -> List Cl
  | .k _ => []
  | .v _ => []
  | .bin _ a b => clE a ++ clE b
  | .neg a => clE a
  | .cmp _ a b => clE a ++ clE b
  | .chain _ _ a b c => clE a ++ clE b ++ clE c
  | .band a b => clE a ++ clE b
  | .bor a b => clE a ++ clE b
  | .bnot a => clE a
  | .ite c a b => clE c ++ clE a ++ clE b
  | .tup l => clL l
  | .lst l => clL l
  | .ix a i => clE a ++ clE i
  | .cix _ i => clE i
  | .dix _ i => clE i
  | .nix _ i => clE i
  | .dgt _ i x => clE i ++ clE x
  | .sl a lo hi => clE a ++ clO lo ++ clO hi
  | .prim _ l => clL l
  | .meth _ a b => clE a ++ clE b
  | .isi _ a => clE a
  | .lens a => clE a
  | .op _ l => clL l
  | .rng a b => clE a ++ clE b
  | .call f sem l => Cl.p f l.length sem :: clL l
  | .callT fs i l => fs.map (fun f => Cl.p f.1 l.length f.2) ++ (clE i ++ clL l)
  | .callS f sem a _ l => Cl.s f (l.length + 2) sem :: (clE a ++ clL l)
  | .lc _ _ it cond e => clI it ++ clO cond ++ clE e
  | .lc2 _ _ _ it _ it1 e => clI it ++ clI it1 ++ clE e
def clL : List E -> List Cl
  | [] => []
  | e :: l => clE e ++ clL l
def clO : Option E -> List Cl
  | none => []
  | some e => clE e
def clI : Src -> List Cl
  | .seq e => clE e
  | .rng e => clE e
  | .rng2 a b => clE a ++ clE b
  | .enum e => clE e
  | .zip a b => clE a ++ clE b
end

/-! ### what the context must be -/
def bltN : List Str := ["len", "list", "tuple", "max", "min", "sum", "all", "any", "int", "set", "range", "enumerate", "zip", "isinstance", "bool", "str", "sorted"]
structure Gd (X : Cx) (N : List Str) (sc : Scope) (sb : Str -> Bool) (k : Nat) : Prop where
  scope : X.env.scope = sc
  names : X.N = N
  nd : N.Nodup
  calm : X.calm = true
  room : Room k X.A
  blt : ∀ x ∈ bltN, X.mg x = none
  po : PassesOwn (model X.prog X.w) X.A X.env X.xe
  kind : X.env.scope.kind = .function
  sto : ∀ x, sb x = true -> Loc X.env.scope x ∧ (X.fn x = true ∨ X.env.scope.names.lookup x = some .local)
def Cs (X : Cx) (k : Nat) (l : List Cl) : Prop := ∀ c ∈ l, Fok X.prog X.w X.K X.mg X.base k c
theorem Cs.l {X : Cx} {k : Nat} {a b : List Cl} (h : Cs X k (a ++ b)) : Cs X k a := fun c hc => h c (List.mem_append_left _ hc)
theorem Cs.r {X : Cx} {k : Nat} {a b : List Cl} (h : Cs X k (a ++ b)) : Cs X k b := fun c hc => h c (List.mem_append_right _ hc)
section
variable {X : Cx} {N : List Str} {sc : Scope} {sb : Str -> Bool} {k : Nat}
theorem Gd.hu (g : Gd X N sc sb k) : X.A.units + 65 < cLine := by
  have := g.room.un
  omega
theorem Gd.vis (g : Gd X N sc sb k) {x : Str} (h : visB sc x = true) : Vis X.env.scope x := by
  rw [g.scope]
  unfold visB at h
  unfold Vis
  split at h
  · rename_i e; exact .inl e
  · rename_i e; exact .inr (.inl e)
  · rename_i e; exact .inr (.inr e)
  · cases h
theorem Gd.gl (g : Gd X N sc sb k) {x : Str} (h : glB sc x = true) : Gl X x := by
  show X.env.scope.names.lookup x = _
  rw [g.scope]
  unfold glB at h
  split at h
  · rename_i e; exact e
  · cases h
theorem Gd.sl (g : Gd X N sc sb k) {i : Nat} {x : Str} (h : slB N i x = true) : X.N[i]? = some x := by
  rw [g.names]
  exact of_decide_eq_true h
theorem Gd.ndX (g : Gd X N sc sb k) : X.N.Nodup := by rw [g.names]; exact g.nd
theorem okN_d {x : Str} (h : okN x = true) : (x == ("__debug__" : Str)) = false ∧ (x == ("__classdict__" : Str)) = false ∧ x ≠ "__name__" := by
  unfold okN at h
  simp only [Bool.and_eq_true, Bool.not_eq_true'] at h
  exact ⟨h.1.1, h.1.2, fun e => by rw [e] at h; simp at h⟩
theorem Gd.blk (g : Gd X N sc sb k) (s : Shared) (H : Hp) (scope : Scope) (C : Addr) (cl : List (Str × Addr)) (fp : List Addr) :
    scope.kind = .function -> Gd (X.blk s H scope (compEnvC scope cl C X.env) fp) N (relS scope sc) (sbOf scope) k := fun hkk => {
  scope := by
    rw [← g.scope]
    rfl
  names := g.names
  nd := g.nd
  calm := g.calm
  room := g.room
  blt := g.blt
  po := PassesOwn.never
  kind := hkk
  sto := fun x hx => by
    unfold sbOf at hx
    show Loc (relS scope X.env.scope) x ∧ ((scope.names.lookup x == some NameKind.cell) = true ∨ (relS scope X.env.scope).names.lookup x = some .local)
    split at hx
    · rename_i e
      have q := lookup_relS_keep (sc := X.env.scope) (k := .local) (by decide) e
      exact ⟨.inl q, .inr q⟩
    · rename_i e
      have q := lookup_relS_keep (sc := X.env.scope) (k := .cell) (by decide) e
      exact ⟨.inr q, .inl (by rw [e]; rfl)⟩
    · cases hx }
theorem star_plain {e : Expr} (h : plainX e = true) (es : List Expr) (env : Env) : starEach (e :: es) env = (false, eval e env) :: starEach es env := by
  cases e <;> first | rfl | cases h
theorem ix_plain {e : Expr} (h : plainX e = true) : PlainIx e := by
  intro o i
  cases e <;> first | rfl | cases h
theorem fold_plain {e : Expr} (h : plainX e = true) (env : Env) (x : Value) : foldedSetIterable e env x = pure x := by
  cases e <;> first | rfl | cases h
theorem mark_plain {e : Expr} (h : plainX e = true) (op : CmpOp) : behindInMarks op e = false := by
  cases e <;> first | rfl | cases h
theorem base_plain {o : Expr} (h : noCall0 o = true) (name : Str) (env : Env) (w : Sem Value) : attributeBase o name env w = w := by
  unfold attributeBase
  split
  · cases h
  · rfl
theorem val_plain {e : Expr} (h : valX e = true) (env : Env) (whole : Sem Value) : isTrue e env whole = (do let v ← whole; standAt e.pos; holding [v] (truthy v)) := by
  cases e with
  | UnaryOp o x p => cases o <;> first | rfl | cases h
  | BoolOp _ _ _ => cases h
  | IfExp _ _ _ _ => cases h
  | Compare _ _ _ _ => cases h
  | _ => rfl
theorem opM_plain {o : Op} {pe : Expr} {es : List Expr} (h : opM o sc pe = some es) : plainX pe = true ∧ valX pe = true := by
  cases o <;> cases pe <;> first | exact ⟨rfl, rfl⟩ | (simp [opM] at h)
theorem mE_plain {e : E} {pe : Expr} (h : mE N sc e pe = true) : plainX pe = true := by
  cases pe <;> first | rfl | (cases e <;> first | (simp [mE] at h; done) | (rename_i o l; unfold mE at h; split at h <;> first | (rename_i q; exact (opM_plain q).1) | cases h))
end
end Sb

set_option Elab.async false
set_option linter.all false
set_option maxRecDepth 100000
set_option maxHeartbeats 1000000
/-! Sb7: each expression of the own language, from its parts. -/
namespace Sb
open PySem PySem.Spec PyProof.Rows L2
section
variable {X : Cx} {pos : Pos} {pa pb pc : Expr} {a b c : E}
theorem k_const {d : D} {co : Const} {j : Nat} (h : constB d co = true) : PE X (.Constant co j pos) (tE (.k d)) := by
  cases d <;> cases co <;> first | cases h | skip
  · exact PE.of pe_non fun σ H Q ⟨B0, r, d, r1, rel, hd, q⟩ => by cases hd; exact q _ _ (Ex.refl rel) .non
  · have e := of_decide_eq_true h
    subst e
    exact PE.of pe_bl fun σ H Q ⟨B0, r, d, r1, rel, hd, q⟩ => by cases hd; exact q _ _ (Ex.refl rel) (.bl _)
  · have e := of_decide_eq_true h
    subst e
    exact PE.of pe_int fun σ H Q ⟨B0, r, d, r1, rel, hd, q⟩ => by cases hd; exact q _ _ (Ex.refl rel) (.int _)
  · have e := of_decide_eq_true h
    subst e
    exact PE.of pe_str fun σ H Q ⟨B0, r, d, r1, rel, hd, q⟩ => by cases hd; exact q _ _ (Ex.refl rel) (.str _)
theorem getD_inv {r : En} {i : Nat} {x : D} (h : getD r i = .ok x) : r[i]? = some (some (.d x)) := by
  unfold getD at h
  split at h
  · cases h; assumption
  · cases h
theorem k_var {i : Nat} {x : Str} (hN : X.N[i]? = some x) (hv : Vis X.env.scope x) (hd : (x == ("__debug__" : Str)) = false) (hcd : (x == ("__classdict__" : Str)) = false) : PE X (.Name x pos) (tE (.v i)) :=
  PE.of (pe_var hN hv hd hcd) fun σ H Q ⟨B0, r, d, r1, rel, hden, q⟩ => by
    obtain ⟨y, h1, h2⟩ := bnd_inv hden
    cases h2
    obtain ⟨v, e1, e2⟩ := rel.at' i _ (getD_inv h1)
    exact ⟨v, e1, q v H (Ex.refl rel) e2⟩
theorem op_of {f : D -> D -> Out D} {σ : L2.St} {H : Hp} {Q : VK} {B0 : Addr -> Prop} {r : En} {p q : D × En} {d : D} (rel : Rel B0 r σ H) (ha : den a r = .ok p) (hb : den b p.2 = .ok q) (hf : f p.1 q.1 = .ok d)
    (hq : ∀ v H1, Ex B0 r q.2 σ H H1 -> Dn (Bf B0 q.2 σ) H1 v d -> Q v H1) : tOp (r2 f) (tE a) (tE b) σ H Q :=
  ⟨B0, r, p.1, p.2, rel, ha, fun v H1 ex dn => ⟨B0, p.2, q.1, q.2, ex.rel, hb, fun w H2 ex2 dn2 => ⟨_, p.1, q.1, d, ex2.rel.trkB, ex2.dn dn, dn2, hf, fun z H3 hs dz => hq z H3 ((ex.trans ex2).trans (Ex.ofSame ex2.rel hs)) dz⟩⟩⟩
theorem k_bin {op : Bop} (ha : PE X pa (tE a)) (hb : PE X pb (tE b)) : PE X (.BinOp pa (toOp op) pb pos) (tE (.bin op a b)) :=
  PE.of (pe_op (bin_ok op) ha hb) fun σ H Q ⟨B0, r, d, r1, rel, hden, q⟩ => by
    obtain ⟨p1, h1, hden⟩ := bnd_inv hden
    obtain ⟨p2, h2, hden⟩ := bnd_inv hden
    obtain ⟨x, h3, hden⟩ := bnd_inv hden
    cases hden
    exact op_of rel h1 h2 h3 q
theorem k_neg (ha : PE X pa (tE a)) : PE X (.UnaryOp .USub pa pos) (tE (.neg a)) :=
  PE.of (pe_un un_neg ha) fun σ H Q ⟨B0, r, d, r1, rel, hden, q⟩ => by
    obtain ⟨p1, h1, hden⟩ := bnd_inv hden
    split at hden
    · rename_i i e
      cases hden
      refine ⟨B0, r, _, p1.2, rel, h1, fun v H1 ex dn => ?_⟩
      rw [e] at dn
      cases dn
      exact ⟨i, rfl, q _ H1 ex (.int _)⟩
    · cases hden
theorem k_cmp {op : Cop} (hu : X.A.units + 65 < cLine) (ha : PE X pa (tE a)) (hb : PE X pb (tE b)) (hm : behindInMarks (toCmp op) pb = false) : PE X (.Compare pa [toCmp op] [pb] pos) (tE (.cmp op a b)) :=
  PE.of (pe_cmpR (cmp_ok op hu) ha hb hm) fun σ H Q ⟨B0, r, d, r1, rel, hden, q⟩ => by
    obtain ⟨p1, h1, hden⟩ := bnd_inv hden
    obtain ⟨p2, h2, hden⟩ := bnd_inv hden
    obtain ⟨x, h3, hden⟩ := bnd_inv hden
    cases hden
    exact op_of rel h1 h2 h3 q
theorem dn_bool {B : Addr -> Prop} {H : Hp} {v : V} {b : Bool} (h : Dn B H v (.bool b)) : v = .bl b := by cases h; rfl
theorem k_cmpT {op : Cop} (hu : X.A.units + 65 < cLine) (ha : PE X pa (tE a)) (hb : PE X pb (tE b)) (hm : behindInMarks (toCmp op) pb = false) : PT X (.Compare pa [toCmp op] [pb] pos) (tT (.cmp op a b)) :=
  PT.of (pt_cmpR (cmp_ok op hu) ha hb hm) fun σ H Q ⟨B0, r, d, r1, rel, hden, q⟩ => by
    obtain ⟨p1, h1, hden⟩ := bnd_inv hden
    obtain ⟨p2, h2, hden⟩ := bnd_inv hden
    obtain ⟨x, h3, hden⟩ := bnd_inv hden
    cases hden
    exact op_of rel h1 h2 h3 fun v H1 ex dn => ⟨d, dn_bool dn, q H1 ex⟩
theorem chain_of {op op2 : Cop} {σ : L2.St} {H : Hp} {Q : VK} {B0 : Addr -> Prop} {r : En} {d : D} {r1 : En} (rel : Rel B0 r σ H) (hden : den (.chain op op2 a b c) r = .ok (d, r1))
    (hq : ∀ v H1, Ex B0 r r1 σ H H1 -> Dn (Bf B0 r1 σ) H1 v d -> Q v H1) : tChain (r2 (cmpD op)) (r2 (cmpD op2)) (tE a) (tE b) (tE c) σ H Q := by
  obtain ⟨p1, h1, hden⟩ := bnd_inv hden
  obtain ⟨p2, h2, hden⟩ := bnd_inv hden
  obtain ⟨x, h3, hden⟩ := bnd_inv hden
  refine ⟨B0, r, p1.1, p1.2, rel, h1, fun v H1 ex dn => ⟨B0, p1.2, p2.1, p2.2, ex.rel, h2, fun w H2 ex2 dn2 => ⟨_, p1.1, p2.1, x, ex2.rel.trkB, ex2.dn dn, dn2, h3, fun z H3 hs dz => ?_⟩⟩⟩
  have ex3 := (ex.trans ex2).trans (Ex.ofSame ex2.rel hs)
  split at hden
  · refine ⟨true, dn_bool dz, ?_⟩
    rw [if_pos rfl]
    obtain ⟨p3, h4, hden⟩ := bnd_inv hden
    obtain ⟨y, h5, hden⟩ := bnd_inv hden
    cases hden
    exact ⟨B0, p2.2, p3.1, p3.2, ex3.rel, h4, fun w3 H4 ex4 dn4 => ⟨_, p2.1, p3.1, d, ex4.rel.trkB, ex4.dn ((Ex.ofSame ex2.rel hs).dn dn2), dn4, h5, fun z2 H5 hs2 dz2 => hq z2 H5 ((ex3.trans ex4).trans (Ex.ofSame ex4.rel hs2)) dz2⟩⟩
  · refine ⟨false, dn_bool dz, ?_⟩
    rw [if_neg (by simp)]
    cases hden
    exact hq _ _ ex3 (.bl _)
  · cases hden
theorem k_chain {op op2 : Cop} (hu : X.A.units + 65 < cLine) (ha : PE X pa (tE a)) (hb : PE X pb (tE b)) (hc : PE X pc (tE c)) (hm : behindInMarks (toCmp op2) pc = false) : PE X (.Compare pa [toCmp op, toCmp op2] [pb, pc] pos) (tE (.chain op op2 a b c)) :=
  PE.of (pe_chain (cmp_ok op hu) (cmp_ok op2 hu) ha hb hc hm) fun σ H Q ⟨B0, r, d, r1, rel, hden, q⟩ => chain_of rel hden q
theorem k_chainT {op op2 : Cop} (hu : X.A.units + 65 < cLine) (ha : PE X pa (tE a)) (hb : PE X pb (tE b)) (hc : PE X pc (tE c)) (hm : behindInMarks (toCmp op2) pc = false) : PT X (.Compare pa [toCmp op, toCmp op2] [pb, pc] pos) (tT (.chain op op2 a b c)) :=
  PT.of (pt_chain (cmp_ok op hu) (cmp_ok op2 hu) ha hb hc hm) fun σ H Q ⟨B0, r, d, r1, rel, hden, q⟩ => chain_of rel hden fun v H1 ex dn => ⟨d, dn_bool dn, q H1 ex⟩
/-! ### and, or, not, if -/
theorem k_and {y : Expr} {rest : List Expr} (ha : PE X pa (tE a)) (hb : PE X (.BoolOp .And (y :: rest) pos) (tE b)) : PE X (.BoolOp .And (pa :: y :: rest) pos) (tE (.band a b)) :=
  PE.of (pe_and ha hb) fun σ H Q ⟨B0, r, d, r1, rel, hden, q⟩ => by
    obtain ⟨p1, h1, hden⟩ := bnd_inv hden
    refine ⟨B0, r, p1.1, p1.2, rel, h1, fun v H1 ex dn => ?_⟩
    split at hden
    · rename_i e
      rw [e] at dn
      refine ⟨true, dn_bool dn, ?_⟩
      rw [if_pos rfl]
      exact ⟨B0, p1.2, d, r1, ex.rel, hden, fun w H2 ex2 dn2 => q w H2 (ex.trans ex2) dn2⟩
    · rename_i e
      rw [e] at dn
      refine ⟨false, dn_bool dn, ?_⟩
      rw [if_neg (by simp)]
      cases hden
      exact q _ _ ex (.bl _)
    · cases hden
theorem k_or {y : Expr} {rest : List Expr} (ha : PE X pa (tE a)) (hb : PE X (.BoolOp .Or (y :: rest) pos) (tE b)) : PE X (.BoolOp .Or (pa :: y :: rest) pos) (tE (.bor a b)) :=
  PE.of (pe_or ha hb) fun σ H Q ⟨B0, r, d, r1, rel, hden, q⟩ => by
    obtain ⟨p1, h1, hden⟩ := bnd_inv hden
    refine ⟨B0, r, p1.1, p1.2, rel, h1, fun v H1 ex dn => ?_⟩
    split at hden
    · rename_i e
      rw [e] at dn
      refine ⟨true, dn_bool dn, ?_⟩
      rw [if_pos rfl]
      cases hden
      exact q _ _ ex (.bl _)
    · rename_i e
      rw [e] at dn
      refine ⟨false, dn_bool dn, ?_⟩
      rw [if_neg (by simp)]
      exact ⟨B0, p1.2, d, r1, ex.rel, hden, fun w H2 ex2 dn2 => q w H2 (ex.trans ex2) dn2⟩
    · cases hden
theorem k_andT {y : Expr} {rest : List Expr} (ha : PT X pa (tT a)) (hb : PW X (.BoolOp .And (y :: rest) pos) (tT b)) : PW X (.BoolOp .And (pa :: y :: rest) pos) (tT (.band a b)) :=
  PW.of (pw_and ha hb) fun σ H Q ⟨B0, r, d, r1, rel, hden, q⟩ => by
    obtain ⟨p1, h1, hden⟩ := bnd_inv hden
    obtain ⟨p1a, p1b⟩ := p1
    simp only at hden
    split at hden
    · refine ⟨B0, r, true, p1b, rel, h1, fun H1 ex => ?_⟩
      refine iteT ?_
      exact ⟨B0, p1b, d, r1, ex.rel, hden, fun H2 ex2 => q H2 (ex.trans ex2)⟩
    · refine ⟨B0, r, false, p1b, rel, h1, fun H1 ex => ?_⟩
      refine iteF ?_
      cases hden
      exact q _ ex
    · cases hden
theorem k_orT {y : Expr} {rest : List Expr} (ha : PT X pa (tT a)) (hb : PW X (.BoolOp .Or (y :: rest) pos) (tT b)) : PW X (.BoolOp .Or (pa :: y :: rest) pos) (tT (.bor a b)) :=
  PW.of (pw_or ha hb) fun σ H Q ⟨B0, r, d, r1, rel, hden, q⟩ => by
    obtain ⟨p1, h1, hden⟩ := bnd_inv hden
    obtain ⟨p1a, p1b⟩ := p1
    simp only at hden
    split at hden
    · refine ⟨B0, r, true, p1b, rel, h1, fun H1 ex => ?_⟩
      refine iteT ?_
      cases hden
      exact q _ ex
    · refine ⟨B0, r, false, p1b, rel, h1, fun H1 ex => ?_⟩
      refine iteF ?_
      exact ⟨B0, p1b, d, r1, ex.rel, hden, fun H2 ex2 => q H2 (ex.trans ex2)⟩
    · cases hden
theorem k_not (ha : PE X pa (tE a)) : PE X (.UnaryOp .Not pa pos) (tE (.bnot a)) :=
  PE.of (pe_not ha) fun σ H Q ⟨B0, r, d, r1, rel, hden, q⟩ => by
    obtain ⟨p1, h1, hden⟩ := bnd_inv hden
    split at hden
    · rename_i e
      cases hden
      refine ⟨B0, r, p1.1, p1.2, rel, h1, fun v H1 ex dn => ?_⟩
      rw [e] at dn
      exact ⟨_, dn_bool dn, q _ _ ex (.bl _)⟩
    · cases hden
theorem k_notT (ha : PT X pa (tT a)) : PT X (.UnaryOp .Not pa pos) (tT (.bnot a)) :=
  PT.of (pt_not ha) fun σ H Q ⟨B0, r, d, r1, rel, hden, q⟩ => by
    obtain ⟨p1, h1, hden⟩ := bnd_inv hden
    obtain ⟨p1a, p1b⟩ := p1
    simp only at hden
    split at hden
    · cases hden
      exact ⟨B0, r, _, _, rel, h1, fun H1 ex => q _ ex⟩
    · cases hden
theorem k_ite (hc : PT X pc (tT c)) (ha : PE X pa (tE a)) (hb : PE X pb (tE b)) : PE X (.IfExp pc pa pb pos) (tE (.ite c a b)) :=
  PE.of (pe_ifExp hc ha hb) fun σ H Q ⟨B0, r, d, r1, rel, hden, q⟩ => by
    obtain ⟨p1, h1, hden⟩ := bnd_inv hden
    obtain ⟨p1a, p1b⟩ := p1
    simp only at hden
    split at hden
    · refine ⟨B0, r, true, p1b, rel, h1, fun H1 ex => ?_⟩
      refine iteT ?_
      exact ⟨B0, p1b, d, r1, ex.rel, hden, fun w H2 ex2 dn2 => q w H2 (ex.trans ex2) dn2⟩
    · refine ⟨B0, r, false, p1b, rel, h1, fun H1 ex => ?_⟩
      refine iteF ?_
      exact ⟨B0, p1b, d, r1, ex.rel, hden, fun w H2 ex2 dn2 => q w H2 (ex.trans ex2) dn2⟩
    · cases hden
/-- a test by its value -/
theorem k_val (ha : PE X pa (tE a)) (hv : valX pa = true) : PT X pa (tT a) :=
  PT.of (pt_val ha (fun w => val_plain hv X.env w)) fun σ H Q ⟨B0, r, d, r1, rel, hden, q⟩ => ⟨B0, r, _, r1, rel, hden, fun v H1 ex dn => ⟨d, dn_bool dn, q H1 ex⟩⟩
/-! ### arguments, displays, places -/
variable {l : List E} {es : List Expr}
theorem k_nil : PA X [] (tA []) := PA.of pa_nil fun σ H Q ⟨B0, r, d, r1, rel, hden, q⟩ => by
  cases hden
  exact q _ _ (Ex.refl rel) .nil
theorem k_cons (ha : PE X pa (tE a)) (hr : PA X es (tA l)) (hs : starEach (pa :: es) X.env = (false, eval pa X.env) :: starEach es X.env) : PA X (pa :: es) (tA (a :: l)) :=
  PA.of (pa_cons ha hr hs) fun σ H Q ⟨B0, r, d, r1, rel, hden, q⟩ => by
    obtain ⟨p1, h1, hden⟩ := bnd_inv hden
    obtain ⟨p2, h2, hden⟩ := bnd_inv hden
    cases hden
    exact ⟨B0, r, p1.1, p1.2, rel, h1, fun v H1 ex dn => ⟨B0, p1.2, p2.1, p2.2, ex.rel, h2, fun vs H2 ex2 dn2 => q _ _ (ex.trans ex2) (.cons (ex2.dn dn) dn2)⟩⟩
theorem k_tup {x1} (h : PA X es (tA l)) : PE X (.Tuple es x1 pos) (tE (.tup l)) :=
  PE.of (pe_tupF h) fun σ H Q ⟨B0, r, d, r1, rel, hden, q⟩ => by
    obtain ⟨p1, h1, hden⟩ := bnd_inv hden
    obtain ⟨hs, hden⟩ := chk_inv hden
    cases hden
    refine ⟨B0, r, p1.1, p1.2, rel, h1, fun vs H1 ex dn => ⟨by rw [dn.length]; exact small_ok hs, ?_⟩⟩
    have rv : RV (Bf B0 p1.2 σ) H1 (.tuple p1.1) Q := fun v H2 hs dn2 => q v H2 (ex.trans (Ex.ofSame ex.rel hs)) dn2
    exact rv.newT ex.rel.trkB dn
theorem k_lst (h : PA X es (tA l)) : PE X (.List es pos) (tE (.lst l)) :=
  PE.of (pe_lst h) fun σ H Q ⟨B0, r, d, r1, rel, hden, q⟩ => by
    obtain ⟨p1, h1, hden⟩ := bnd_inv hden
    obtain ⟨hs, hden⟩ := chk_inv hden
    cases hden
    refine ⟨B0, r, p1.1, p1.2, rel, h1, fun vs H1 ex dn => ⟨by rw [dn.length]; exact small_ok hs, ?_⟩⟩
    have rv : RV (Bf B0 p1.2 σ) H1 (.list p1.1) Q := fun v H2 hs dn2 => q v H2 (ex.trans (Ex.ofSame ex.rel hs)) dn2
    exact rv.newL ex.rel.trkB dn
theorem k_ix (ha : PE X pa (tE a)) (hb : PE X pb (tE b)) (hp : PlainIx pb) : PE X (.Subscript pa pb pos) (tE (.ix a b)) :=
  PE.of (pe_ix ix_ok ha hb hp) fun σ H Q ⟨B0, r, d, r1, rel, hden, q⟩ => by
    obtain ⟨p1, h1, hden⟩ := bnd_inv hden
    obtain ⟨p2, h2, hden⟩ := bnd_inv hden
    obtain ⟨x, h3, hden⟩ := bnd_inv hden
    cases hden
    exact op_of rel h1 h2 h3 q
theorem cell_at {B0 : Addr -> Prop} {r : En} {σ : L2.St} {H : Hp} {s : Nat} {t : List D} (rel : Rel B0 r σ H) (h : cellOf r s = .ok t) :
    ∃ p xs, σ[s]? = some (some (.ref p)) ∧ H p = some (.lst xs) ∧ DnL (Bf B0 r σ) H xs t ∧ own r σ p := by
  unfold cellOf at h
  split at h
  · rename_i l e
    cases h
    obtain ⟨v, e1, p, xs, rfl, e2, e3, e4⟩ := rel.at' s _ e
    exact ⟨p, xs, e1, e2, e3, s, by rw [e]; simp [kd], e1⟩
  · rename_i l e
    cases h
    obtain ⟨v, e1, p, xs, rfl, e2, e3, e4⟩ := rel.at' s _ e
    exact ⟨p, xs, e1, e2, e3, s, by rw [e]; simp [kd], e1⟩
  · cases h
/-- a slot that an expression leaves as it is -/
theorem k_cix {s : Nat} {x : Str} {p2 : Pos} (hN : X.N[s]? = some x) (hv : Vis X.env.scope x) (hd : (x == ("__debug__" : Str)) = false) (hcd : (x == ("__classdict__" : Str)) = false) (hb : PE X pb (tE b)) (hp : PlainIx pb) : PE X (.Subscript (.Name x p2) pb pos) (tE (.cix s b)) :=
  PE.of (pe_ix ix_list (pe_var hN hv hd hcd) hb hp) fun σ H Q ⟨B0, r, d, r1, rel, hden, q⟩ => by
    obtain ⟨t0, h0, hden⟩ := bnd_inv hden
    obtain ⟨p2, h2, hden⟩ := bnd_inv hden
    obtain ⟨t, h3, hden⟩ := bnd_inv hden
    obtain ⟨y, h4, hden⟩ := bnd_inv hden
    cases hden
    obtain ⟨p0, _, hv, _⟩ := cell_at rel h0
    refine ⟨_, hv, B0, r, p2.1, p2.2, rel, h2, fun w H1 ex dn => ?_⟩
    obtain ⟨pp, xs, e1, e2, e3, _⟩ := cell_at ex.rel h3
    rw [hv] at e1
    cases e1
    unfold ixD at h4
    split at h4
    · rename_i i e5 e6
      cases e5
      rw [e6] at dn
      cases dn
      obtain ⟨z, e7, e8⟩ := e3.at (ofO_inv h4)
      exact ⟨_, xs, i, z, rfl, rfl, .inl (.inl e2), e7, q z H1 ex e8⟩
    · rename_i e5 _; cases e5
    · cases h4
end
end Sb

set_option Elab.async false
set_option linter.all false
set_option maxRecDepth 100000
set_option maxHeartbeats 1000000
/-! Sb8: slices, built-in calls, methods, calls of defs, dict places. -/
namespace Sb
open PySem PySem.Spec PyProof.Rows L2
section
variable {X : Cx} {pos : Pos} {pa pb pc : Expr} {a b c : E} {l : List E} {es : List Expr}
theorem k_none : PO X none (tO none) := PO.of po_none fun σ H Q ⟨B0, r, d, r1, rel, hden, q⟩ => by
  cases hden
  exact q _ (Ex.refl rel)
theorem k_some (ha : PE X pa (tE a)) : PO X (some pa) (tO (some a)) := PO.of (po_some ha) fun σ H Q ⟨B0, r, d, r1, rel, hden, q⟩ => by
  obtain ⟨p1, h1, hden⟩ := bnd_inv hden
  split at hden
  · rename_i i e
    cases hden
    refine ⟨B0, r, p1.1, p1.2, rel, h1, fun v H1 ex dn => ?_⟩
    rw [e] at dn
    cases dn
    exact ⟨i, rfl, q _ ex⟩
  · cases hden
theorem k_slice {lo hi : Option E} {plo phi : Option Expr} {p2 : Pos} (ha : PE X pa (tE a)) (hl : PO X plo (tO lo)) (hh : PO X phi (tO hi)) : PE X (.Subscript pa (.Slice plo phi none p2) pos) (tE (.sl a lo hi)) :=
  PE.of (pe_slice sl_ok ha hl hh) fun σ H Q ⟨B0, r, d, r1, rel, hden, q⟩ => by
    obtain ⟨p1, h1, hden⟩ := bnd_inv hden
    obtain ⟨p2, h2, hden⟩ := bnd_inv hden
    obtain ⟨p3, h3, hden⟩ := bnd_inv hden
    obtain ⟨x, h4, hden⟩ := bnd_inv hden
    cases hden
    exact ⟨B0, r, p1.1, p1.2, rel, h1, fun v H1 ex dn => ⟨B0, p1.2, p2.1, p2.2, ex.rel, h2, fun H2 ex2 => ⟨B0, p2.2, p3.1, p3.2, ex2.rel, h3, fun H3 ex3 =>
      ⟨_, p1.1, d, ex3.rel.trkB, ex3.dn (ex2.dn dn), h4, fun z H4 hs dz => q z H4 (((ex.trans ex2).trans ex3).trans (Ex.ofSame ex3.rel hs)) dz⟩⟩⟩⟩
theorem back_any (pos : Pos) (env : Env) : ∀ {es : List Expr}, (∀ e ∈ es, plainX e = true) -> (backTo pos (starEach es env)).any (·.1) = false
  | [], _ => rfl
  | e :: es, h => by
    rw [star_plain (h e List.mem_cons_self)]
    have ih := back_any pos env (es := es) fun x hx => h x (List.mem_cons_of_mem _ hx)
    show (false || (backTo pos (starEach es env)).any (·.1)) = false
    rw [ih]; rfl
theorem nprim_of {f : List D -> Out D} {σ : L2.St} {H : Hp} {Q : VK} {B0 : Addr -> Prop} {r : En} {p : List D × En} {d : D} (rel : Rel B0 r σ H) (ha : denL l r = .ok p) (hf : f p.1 = .ok d)
    (hq : ∀ v H1, Ex B0 r p.2 σ H H1 -> Dn (Bf B0 p.2 σ) H1 v d -> Q v H1) : tCB (rN f) (tA l) σ H Q :=
  ⟨B0, r, p.1, p.2, rel, ha, fun vs H1 ex dn => ⟨_, p.1, d, ex.rel.trkB, dn, hf, fun z H3 hs dz => hq z H3 (ex.trans (Ex.ofSame ex.rel hs)) dz⟩⟩
theorem boot_prim (p : Prim) (h0 : p ≠ .lenset) (h1 : p ≠ .sortset) : bootBuiltins (pName p) = some (pVal p) := by
  cases p <;> first | exact absurd rfl h0 | exact absurd rfl h1 | decide +kernel
theorem pname_ne (p : Prim) : pName p ≠ "__name__" ∧ (pName p == ("__debug__" : Str)) = false := by
  cases p <;> decide +kernel
theorem k_prim {p : Prim} {p2 : Pos} {e : Expr} (hc : X.calm = true) (hu : X.A.units + 65 < cLine) (h0 : p ≠ .lenset) (h1 : p ≠ .sortset) (hg : Gl X (pName p)) (hm : X.mg (pName p) = none) (ha : PA X (e :: es) (tA l)) (hp : ∀ x ∈ e :: es, plainX x = true) :
    PE X (.Call (.Name (pName p) p2) (e :: es) [] pos) (tE (.prim p l)) := by
  have key : PE X (.Call (.Name (pName p) p2) (e :: es) [] pos) (tCB (rN (primD p)) (tA l)) := by
    have hb := boot_prim p h0 h1
    have ok := prim_ok (X := X) p hc hu h0 h1
    have hs := star_plain (hp e List.mem_cons_self) es X.env
    have hn := pname_ne p
    have hpl := back_any pos X.env fun x hx => hp x (List.mem_cons_of_mem _ hx)
    cases hv : pVal p with
    | builtin id => rw [hv] at hb ok; exact pe_callB ok hg hm hb ha hn.1 hn.2 hs hpl
    | type T => rw [hv] at hb ok; exact pe_callTy ok hg hm hb ha hn.1 hn.2 hs hpl
    | _ => cases p <;> cases hv <;> first | exact absurd rfl h0 | exact absurd rfl h1
  exact PE.of key fun σ H Q ⟨B0, r, d, r1, rel, hden, q⟩ => by
    obtain ⟨p1, h1, hden⟩ := bnd_inv hden
    obtain ⟨x, h2, hden⟩ := bnd_inv hden
    cases hden
    exact nprim_of rel h1 h2 q
theorem lenset_inv {d0 d : D} (h : primD .lenset [d0] = .ok d) : ∃ l ns, (d0 = .list l ∨ d0 = .tuple l) ∧ intsD l = some ns ∧ ns.length ≤ 1000 ∧ d = .int ((dedup ns).length : Nat) := by
  cases d0 with
  | list l =>
    obtain ⟨ns, h1, h⟩ := bnd_inv (show (ofO (intsD l)).bnd _ = _ from h)
    obtain ⟨h2, h⟩ := chk_inv h
    cases h
    exact ⟨l, ns, .inl rfl, ofO_inv h1, of_decide_eq_true h2, rfl⟩
  | tuple l =>
    obtain ⟨ns, h1, h⟩ := bnd_inv (show (ofO (intsD l)).bnd _ = _ from h)
    obtain ⟨h2, h⟩ := chk_inv h
    cases h
    exact ⟨l, ns, .inr rfl, ofO_inv h1, of_decide_eq_true h2, rfl⟩
  | _ => cases h
theorem k_lenset {p2 p3 p4 : Pos} (hg : Gl X "len") (hm : X.mg "len" = none) (hg2 : Gl X "set") (hm2 : X.mg "set" = none) (ha : PE X pa (tE a)) (hc : X.calm = true) (hp : plainX pa = true) :
    PE X (.Call (.Name "len" p2) [.Call (.Name "set" p3) [pa] [] p4] [] pos) (tE (.lens a)) :=
  PE.of (pe_lenSetD hg hm hg2 hm2 ha hc (star_plain hp [] X.env)) fun σ H Q ⟨B0, r, d, r1, rel, hden, q⟩ => by
    obtain ⟨p3, h3, hden⟩ := bnd_inv hden
    obtain ⟨x, h2, hden⟩ := bnd_inv hden
    cases hden
    refine ⟨B0, r, p3.1, p3.2, rel, h3, fun v H1 ex dn => ?_⟩
    obtain ⟨l, ns, e1, e2, e3, rfl⟩ := lenset_inv h2
    rcases e1 with e1 | e1
    · rw [e1] at dn
      obtain ⟨x, ys, rfl, a1, a2, a3⟩ := ref_lst dn
      have e := a3.intsV e2
      subst e
      exact ⟨x, ns, rfl, .inl a1, e3, q _ _ ex (.int _)⟩
    · rw [e1] at dn
      obtain ⟨x, ys, rfl, a1, a2, a3⟩ := ref_tup dn
      have e := a3.intsV e2
      subst e
      exact ⟨x, ns, rfl, .inr a1.rd, e3, q _ _ ex (.int _)⟩
/-! ### methods, isinstance -/
theorem meth_ty (m : Meth) {d1 d2 d : D} (h : methD m d1 d2 = .ok d) : (mId m = "tuple.index" ∧ m = .tindex ∧ ∃ l, d1 = .tuple l) ∨ ((m = .lindex ∨ m = .lcount) ∧ ∃ l, d1 = .list l) := by
  cases m with
  | lindex => cases d1 <;> first | cases h | exact .inr ⟨.inl rfl, _, rfl⟩
  | tindex => cases d1 <;> first | cases h | exact .inl ⟨rfl, rfl, _, rfl⟩
  | lcount => cases d1 <;> first | cases h | exact .inr ⟨.inr rfl, _, rfl⟩
theorem k_meth {m : Meth} {ap cp : Pos} (hu : X.A.units + 65 < cLine) (ha : PE X pa (tE a)) (hb : PE X pb (tE b)) (h0 : noCall0 pa = true) (hp : plainX pb = true) (hl : (ap.endLine == cp.line) = true) :
    PE X (.Call (.Attribute pa (mName m) ap) [pb] [] cp) (tE (.meth m a b)) := by
  have hs := star_plain hp [] X.env
  have hA : PA X [pb] (tA [b]) := k_cons hb k_nil hs
  have few : ((backTo cp (starEach [pb] X.env)).all (fun x => !x.1) && (backToKw cp (keywordEach [] X.env)).all (fun x => x.1.isSome)
      && decide (([pb] : List Expr).length + ([] : List Keyword).length + (if ([] : List Keyword).isEmpty then 0 else 1) < 30)) = true := by
    rw [hs]; rfl
  have fin : ∀ (T : String), (∀ d1 d2 d, methD m d1 d2 = .ok d -> (T = "list" ∧ ∃ l, d1 = .list l) ∨ (T = "tuple" ∧ ∃ l, d1 = .tuple l)) -> PE X (.Call (.Attribute pa (mName m) ap) [pb] [] cp) (tBMs T (rM m) (tE a) (tA [b])) -> PE X (.Call (.Attribute pa (mName m) ap) [pb] [] cp) (tE (.meth m a b)) := fun T hT key =>
    PE.of key fun σ H Q ⟨B0, r, d, r1, rel, hden, q⟩ => by
      obtain ⟨p1, h1, hden⟩ := bnd_inv hden
      obtain ⟨p2, h2, hden⟩ := bnd_inv hden
      obtain ⟨x, h3, hden⟩ := bnd_inv hden
      cases hden
      refine ⟨B0, r, p1.1, p1.2, rel, h1, fun v H1 ex dn => ⟨⟨_, p1.1, dn, hT _ _ _ h3⟩, B0, p1.2, [p2.1], p2.2, ex.rel, ?_, fun vs H2 ex2 dn2 => ⟨_, p1.1, p2.1, d, ex2.rel.trkB, ex2.dn dn, dn2, h3, fun z H3 hs dz => q z H3 ((ex.trans ex2).trans (Ex.ofSame ex2.rel hs)) dz⟩⟩⟩
      show denL [b] p1.2 = _
      unfold denL
      rw [h2]
      rfl
  cases m with
  | lindex => exact fin "list" (fun d1 d2 d h => .inl ⟨rfl, by rcases meth_ty _ h with ⟨_, e, _⟩ | ⟨_, z⟩; cases e; exact z⟩) (pe_bms PySem.F.plainAttrs_list PySem.F.slot_list_index PySem.F.type_list_index (meth_ok .lindex hu) ha hA (base_plain h0 _ _ _) few hl hs rfl)
  | lcount => exact fin "list" (fun d1 d2 d h => .inl ⟨rfl, by rcases meth_ty _ h with ⟨_, e, _⟩ | ⟨_, z⟩; cases e; exact z⟩) (pe_bms PySem.F.plainAttrs_list PySem.F.slot_list_count PySem.F.type_list_count (meth_ok .lcount hu) ha hA (base_plain h0 _ _ _) few hl hs rfl)
  | tindex => exact fin "tuple" (fun d1 d2 d h => .inr ⟨rfl, by rcases meth_ty _ h with ⟨_, _, z⟩ | ⟨e | e, z⟩; exact z; cases e; cases e⟩) (pe_bms PySem.F.plainAttrs_tuple PySem.F.slot_tuple_index PySem.F.type_tuple_index (meth_ok .tindex hu) ha hA (base_plain h0 _ _ _) few hl hs rfl)
theorem boot_ty (t : Ty) : bootBuiltins (Str.ofString (tyN t)) = some (.type (tyN t)) := by
  cases t <;> decide +kernel
theorem ty_ne (t : Ty) : Str.ofString (tyN t) ≠ "__name__" ∧ (Str.ofString (tyN t) == ("__debug__" : Str)) = false := by
  cases t <;> decide +kernel
theorem k_isi {t : Ty} {p2 p3 : Pos} (hg : Gl X "isinstance") (hm : X.mg "isinstance" = none) (hg2 : Gl X (Str.ofString (tyN t))) (hm2 : X.mg (Str.ofString (tyN t)) = none) (ha : PE X pa (tE a)) (hp : plainX pa = true) :
    PE X (.Call (.Name "isinstance" p2) [pa, .Name (Str.ofString (tyN t)) p3] [] pos) (tE (.isi t a)) := by
  have hT : PE X (.Name (Str.ofString (tyN t)) p3) (L2.tC (.ty (tyN t))) := pe_bltn hg2 hm2 (boot_ty t) rfl (ty_ne t).1 (ty_ne t).2
  refine PE.of (pe_callB (isi_ok t) hg hm (by decide +kernel) (pa_cons ha (pa_cons hT pa_nil rfl) (star_plain hp _ X.env)) (by decide) (by decide) (star_plain hp _ X.env) rfl) fun σ H Q ⟨B0, r, d, r1, rel, hden, q⟩ => ?_
  obtain ⟨p1, h1, hden⟩ := bnd_inv hden
  cases hden
  exact ⟨B0, r, p1.1, p1.2, rel, h1, fun v H1 ex dn => ⟨_, v, p1.1, rfl, dn, q _ _ ex (.bl _)⟩⟩
/-! ### list(range(..)) -/
theorem rngOk_le {i : Int} (h : rngOk i = true) : -1000000 ≤ i ∧ i ≤ 1000000 := by
  have := ab_le h
  omega
theorem dn_iota {B : Addr -> Prop} {H : Hp} (i j : Int) : DnL B H (rgV i j) (iota i (j - i).toNat) := by
  unfold rgV iota
  generalize List.range (j - i).toNat = l
  induction l with
  | nil => exact .nil
  | cons x r ih => exact .cons (.int _) ih
theorem rng_of {σ : L2.St} {H : Hp} {Q : VK} {B0 : Addr -> Prop} {r : En} {d : D} {r1 : En} (rel : Rel B0 r σ H) (hden : den (.rng a b) r = .ok (d, r1))
    (hq : ∀ v H1, Ex B0 r r1 σ H H1 -> Dn (Bf B0 r1 σ) H1 v d -> Q v H1) :
    ∃ (p1 p2 : D × En) (i j : Int), den a r = .ok p1 ∧ den b p1.2 = .ok p2 ∧ p1.1 = .int i ∧ p2.1 = .int j ∧ r1 = p2.2 ∧ RgOk i j ∧ ∀ H1, Ex B0 r p2.2 σ H H1 -> ∀ q, H1 q = none -> Q (.ref q) (upd H1 q (.lst (rgV i j))) := by
  obtain ⟨p1, h1, hden⟩ := bnd_inv hden
  obtain ⟨p2, h2, hden⟩ := bnd_inv hden
  split at hden
  · rename_i i j e1 e2
    obtain ⟨hs, hden⟩ := chk_inv hden
    cases hden
    obtain ⟨c1, c2⟩ := Bool.and_eq_true_iff.mp hs
    have d1 := rngOk_le c1
    have d2 := rngOk_le c2
    refine ⟨p1, p2, i, j, h1, h2, e1, e2, rfl, ⟨by omega, by omega, by omega, by omega, by omega⟩, fun H1 ex => ?_⟩
    have rv : RV (Bf B0 p2.2 σ) H1 (.list (iota i (j - i).toNat)) Q := fun v H2 hs dn2 => hq v H2 (ex.trans (Ex.ofSame ex.rel hs)) dn2
    exact rv.newL ex.rel.trkB (dn_iota i j)
  · cases hden
theorem k_rng2 {p1 p2 p3 : Pos} (hc : X.calm = true) (hg : Gl X "list") (hm : X.mg "list" = none) (hg2 : Gl X "range") (hm2 : X.mg "range" = none) (ha : PE X pa (tE a)) (hb : PE X pb (tE b)) (hp : plainX pa = true) (hp2 : plainX pb = true) :
    PE X (.Call (.Name "list" p1) [.Call (.Name "range" p2) [pa, pb] [] p3] [] pos) (tE (.rng a b)) :=
  PE.of (pe_listRg hc hg hm (prg_2 hg2 hm2 ha hb (star_plain hp _ _) (star_plain hp2 _ _) (by rw [star_plain hp2]; rfl)) rfl) fun σ H Q ⟨B0, r, d, r1, rel, hden, q⟩ => by
    obtain ⟨p1, p2, i, j, h1, h2, e1, e2, rfl, ok, fin⟩ := rng_of rel hden q
    refine ⟨B0, r, p1.1, p1.2, rel, h1, fun v H1 ex dn => ⟨B0, p1.2, p2.1, p2.2, ex.rel, h2, fun w H2 ex2 dn2 => ?_⟩⟩
    rw [e1] at dn
    rw [e2] at dn2
    cases dn
    cases dn2
    exact ⟨i, j, rfl, rfl, ok, fin H2 (ex.trans ex2)⟩
theorem k_rng1 {p1 p2 p3 : Pos} {z : E} (hz : isZero z = true) (hc : X.calm = true) (hg : Gl X "list") (hm : X.mg "list" = none) (hg2 : Gl X "range") (hm2 : X.mg "range" = none) (hb : PE X pb (tE b)) (hp2 : plainX pb = true) :
    PE X (.Call (.Name "list" p1) [.Call (.Name "range" p2) [pb] [] p3] [] pos) (tE (.rng z b)) :=
  PE.of (pe_listRg hc hg hm (prg_1 hg2 hm2 hb (star_plain hp2 _ _)) rfl) fun σ H Q ⟨B0, r, d, r1, rel, hden, q⟩ => by
    obtain ⟨p1, p2, i, j, h1, h2, e1, e2, rfl, ok, fin⟩ := rng_of rel hden q
    unfold isZero at hz
    split at hz
    · have hz' := of_decide_eq_true hz
      subst hz'
      cases h1
      cases e1
      refine ⟨B0, r, p2.1, p2.2, rel, h2, fun w H2 ex2 dn2 => ?_⟩
      rw [e2] at dn2
      cases dn2
      exact ⟨j, rfl, ok, fin H2 ex2⟩
    · cases hz
/-! ### defs -/
theorem denL_len : ∀ {l : List E} {r : En} {p : List D × En}, denL l r = .ok p -> p.1.length = l.length := by
  intro l
  induction l with
  | nil => intro r p h; cases h; rfl
  | cons a l ih =>
    intro r p h
    obtain ⟨q1, g1, h⟩ := bnd_inv h
    obtain ⟨q2, g2, h⟩ := bnd_inv h
    cases h
    simp [ih g2]
theorem k_call {f : Str} {sem : PF} {p2 : Pos} {e : Expr} {k : Nat} (F : Fok X.prog X.w X.K X.mg X.base k (.p f l.length sem)) (hr : Room k X.A) (hg : Gl X f) (hd : (f == ("__debug__" : Str)) = false) (ha : PA X (e :: es) (tA l)) (hp : ∀ x ∈ e :: es, plainX x = true) :
    PE X (.Call (.Name f p2) (e :: es) [] pos) (tE (.call f sem l)) := by
  obtain ⟨fa, fd, ps, h1, h2, h3, h4⟩ := F
  refine PE.of (pe_call h4 hr hg h1 h2 h3 .nil pass0 ha hd (star_plain (hp e List.mem_cons_self) es X.env) (back_any pos X.env fun x hx => hp x (List.mem_cons_of_mem _ hx))) fun σ H Q ⟨B0, r, d, r1, rel, hden, q⟩ => ?_
  obtain ⟨p1, e1, hden⟩ := bnd_inv hden
  obtain ⟨x, e2, hden⟩ := bnd_inv hden
  cases hden
  refine ⟨B0, r, p1.1, p1.2, rel, e1, fun vs H1 ex dn => ?_⟩
  show spP l.length sem (vs ++ []) H1 Q E0
  rw [List.append_nil]
  refine ⟨?_, _, p1.1, d, ex.rel.trkB, dn, e2, fun z H3 hs dz => q z H3 (ex.trans (Ex.ofSame ex.rel hs)) dz⟩
  rw [dn.length]
  exact denL_len e1
theorem k_call0 {f : Str} {sem : PF} {p2 : Pos} {k : Nat} (F : Fok X.prog X.w X.K X.mg X.base k (.p f 0 sem)) (hr : Room k X.A) (hg : Gl X f) (hd : (f == ("__debug__" : Str)) = false) :
    PE X (.Call (.Name f p2) [] [] pos) (tE (.call f sem [])) := by
  obtain ⟨fa, fd, ps, h1, h2, h3, h4⟩ := F
  refine PE.of (pe_call0 h4 hr hg h1 h2 h3 .nil pass0 hd) fun σ H Q ⟨B0, r, d, r1, rel, hden, q⟩ => ?_
  obtain ⟨p1, e1, hden⟩ := bnd_inv hden
  obtain ⟨x, e2, hden⟩ := bnd_inv hden
  cases hden
  cases e1
  exact ⟨rfl, _, [], d, rel.trkB, .nil, e2, fun z H3 hs dz => q z H3 (Ex.ofSame rel hs) dz⟩

theorem recell_get {r : En} {s : Nat} {t : List D} (i : Nat) (h : i ≠ s) : (recell r s t)[i]? = r[i]? := by
  unfold recell
  split
  · exact List.getElem?_set_ne (Ne.symm h)
  · exact List.getElem?_set_ne (Ne.symm h)
  · rfl
theorem recell_shp (r : En) (s : Nat) (t : List D) : Shp r (recell r s t) := by
  have key : ∀ x y : Rv, kd (some (some x)) = kd (some (some y)) -> r[s]? = some (some x) -> kd (some (some x)) ≠ 0 -> Shp r (r.set s (some y)) := fun x y e h hk => by
    have hl : s < r.length := (List.getElem?_eq_some_iff.mp h).1
    refine ⟨List.length_set, fun i => ?_, fun i hi => ?_⟩
    · by_cases z : s = i
      · subst z
        rw [List.getElem?_set_self hl, h, e]
      · rw [List.getElem?_set_ne z]
    · by_cases z : s = i
      · subst z
        rw [h] at hi
        exact absurd hi hk
      · rw [List.getElem?_set_ne z]
  unfold recell
  split
  · rename_i l0 e; exact key (.c l0) (.c t) (by simp [kd]) e (by simp [kd])
  · rename_i l0 e; exact key (.o l0) (.o t) (by simp [kd]) e (by simp [kd])
  · exact Shp.refl r
theorem Rel.recell {B0 : Addr -> Prop} {r : En} {σ : L2.St} {H H1 : Hp} {s : Nat} {p : Addr} {t t2 : List D} {ys : List V} (rel : Rel B0 r σ H) (hc : cellOf r s = .ok t) (hs : σ[s]? = some (some (.ref p))) (g : Go (fun b => b = p) H H1)
    (hp : H1 p = some (.lst ys)) (hy : DnL (Bf B0 r σ) H1 ys t2) : Rel B0 (Sb.recell r s t2) σ H1 := by
  have shp := recell_shp r s t2
  have hk : kd r[s]? ≠ 0 := by
    unfold cellOf at hc
    split at hc
    · rename_i e; rw [e]; simp [kd]
    · rename_i e; rw [e]; simp [kd]
    · cases hc
  have ow : own r σ p := ⟨s, hk, hs⟩
  have keep : ∀ a o, ¬ Bf B0 r σ a -> H a = some o -> H1 a = some o := fun a o n e => g.keep a o (fun z => n (by rw [z]; exact .inr ow)) e
  refine ⟨shp.len.trans rel.len, fun i x e => ?_, fun i j a hi hj => ?_, fun a z => g.live a (rel.trk a z)⟩
  · rw [Bf_shp shp]
    by_cases hi : i = s
    · subst hi
      have hl : i < r.length := by
        rw [← shp.len]
        exact (List.getElem?_eq_some_iff.mp e).1
      unfold Sb.recell at e
      split at e
      · rename_i l e2
        rw [List.getElem?_set_self hl] at e
        cases e
        obtain ⟨v, e3, a, xs, rfl, e4, e5, e6⟩ := rel.at' i _ e2
        rw [hs] at e3
        cases e3
        exact ⟨_, hs, p, ys, rfl, hp, hy, e6⟩
      · rename_i l e2
        rw [List.getElem?_set_self hl] at e
        cases e
        obtain ⟨v, e3, a, xs, rfl, e4, e5, e6⟩ := rel.at' i _ e2
        rw [hs] at e3
        cases e3
        exact ⟨_, hs, p, ys, rfl, hp, hy, e6⟩
      · rename_i n1 n2
        unfold cellOf at hc
        split at hc
        · rename_i e2; exact absurd e2 (n1 _)
        · rename_i e2; exact absurd e2 (n2 _)
        · cases hc
    · rw [recell_get i hi] at e
      obtain ⟨v, e1, e2⟩ := rel.at' i x e
      refine ⟨v, e1, ?_⟩
      have ne : ∀ a, kd r[i]? ≠ 0 -> v = .ref a -> a ≠ p := fun a h1 h2 z => hi (rel.inj i s a h1 hk (by rw [e1, h2]) (by rw [z]; exact hs))
      cases x with
      | d x => exact Dn.mono (fun _ z => .inl z) keep e2
      | c l => obtain ⟨a, xs, e3, e4, e5, e6⟩ := e2; exact ⟨a, xs, e3, g.keep a _ (ne a (by rw [e]; simp [kd]) e3) e4, e5.mono (fun _ z => .inl z) keep, e6⟩
      | o l => obtain ⟨a, xs, e3, e4, e5, e6⟩ := e2; exact ⟨a, xs, e3, g.keep a _ (ne a (by rw [e]; simp [kd]) e3) e4, e5.mono (fun _ z => .inl z) keep, e6⟩
      | m l => obtain ⟨a, xs, e3, e4, e5, e6⟩ := e2; exact ⟨a, xs, e3, g.keep a _ (ne a (by rw [e]; simp [kd]) e3) e4, e5.mono (fun _ z => .inl z) keep, e6⟩
      | n l => obtain ⟨a, xs, e3, e4, e5, e6⟩ := e2; exact ⟨a, xs, e3, g.keep a _ (ne a (by rw [e]; simp [kd]) e3) e4, e5.mono (fun _ z => .inl z) keep, e6⟩
  · rw [shp.kind] at hi hj
    exact rel.inj i j a hi hj
theorem Ex.recell {B0 : Addr -> Prop} {r : En} {σ : L2.St} {H H1 : Hp} {s : Nat} {p : Addr} {t t2 : List D} {ys : List V} (rel : Rel B0 r σ H) (hc : cellOf r s = .ok t) (hs : σ[s]? = some (some (.ref p))) (ow : own r σ p) (g : Go (fun b => b = p) H H1)
    (hp : H1 p = some (.lst ys)) (hy : DnL (Bf B0 r σ) H1 ys t2) : Ex B0 r (Sb.recell r s t2) σ H H1 :=
  ⟨rel.recell hc hs g hp hy, ⟨fun a o n e => g.keep a o (fun z => n (by rw [z]; exact ow)) e, g.live⟩, recell_shp r s t2⟩
theorem k_callS {f : Str} {sem : SF} {p2 p3 : Pos} {y : Str} {s : Nat} {k : Nat} (F : Fok X.prog X.w X.K X.mg X.base k (.s f (l.length + 2) sem)) (hr : Room k X.A) (hg : Gl X f) (hd : (f == ("__debug__" : Str)) = false) (ha : PE X pa (tE a)) (hpa : plainX pa = true)
    (hN : X.N[s]? = some y) (hv : Vis X.env.scope y) (hd2 : (y == ("__debug__" : Str)) = false) (hcd : (y == ("__classdict__" : Str)) = false) (hl : PA X es (tA l)) (hp : ∀ x ∈ es, plainX x = true) :
    PE X (.Call (.Name f p2) (pa :: .Name y p3 :: es) [] pos) (tE (.callS f sem a s l)) := by
  obtain ⟨fa, fd, ps, h1, h2, h3, h4⟩ := F
  have hs1 := star_plain hpa (.Name y p3 :: es) X.env
  have hs2 : starEach (.Name y p3 :: es) X.env = (false, eval (.Name y p3) X.env) :: starEach es X.env := rfl
  refine PE.of (pe_call h4 hr hg h1 h2 h3 .nil pass0 (pa_cons ha (pa_cons (pe_var hN hv hd2 hcd) hl hs2) hs1) hd hs1 (back_any pos X.env fun x hx => by
    rcases List.mem_cons.mp hx with e | e
    · rw [e]; rfl
    · exact hp x e)) fun σ H Q ⟨B0, r, d, r1, rel, hden, q⟩ => ?_
  obtain ⟨q1, e1, hden⟩ := bnd_inv hden
  obtain ⟨t0, e2, hden⟩ := bnd_inv hden
  obtain ⟨q2, e3, hden⟩ := bnd_inv hden
  obtain ⟨t, e4, hden⟩ := bnd_inv hden
  obtain ⟨z, e5, hden⟩ := bnd_inv hden
  cases hden
  refine ⟨B0, r, q1.1, q1.2, rel, e1, fun v0 H1 ex dn => ?_⟩
  obtain ⟨p0, _, hv0, _⟩ := cell_at ex.rel e2
  refine ⟨_, hv0, B0, q1.2, q2.1, q2.2, ex.rel, e3, fun vs H2 ex2 dn2 => ?_⟩
  show spS (l.length + 2) sem ((v0 :: .ref p0 :: vs) ++ []) H2 Q E0
  rw [List.append_nil]
  obtain ⟨p1, xs, c1, c2, c3, c4⟩ := cell_at ex2.rel e4
  rw [hv0] at c1
  cases c1
  refine ⟨by simp [dn2.length, denL_len e3], _, v0, p0, vs, q1.1, q2.1, xs, t, z.1, z.2, rfl, ex2.rel.trkB, .inr c4, ex2.dn dn, dn2, c2, c3, e5, fun v H3 ys g dv hp hy => ?_⟩
  have ex3 := Ex.recell ex2.rel e4 hv0 c4 g hp hy
  refine q v H3 ((ex.trans ex2).trans ex3) ?_
  rw [Bf_shp ex3.shp]
  exact dv
end
end Sb

set_option Elab.async false
set_option linter.all false
set_option maxRecDepth 100000
set_option maxHeartbeats 1000000
/-! Sb9: what loops walk; targets. -/
namespace Sb
open PySem PySem.Spec PyProof.Rows L2
section
variable {X : Cx} {pos : Pos} {pa pb tg : Expr} {a b : E}
theorem seqWalk {k : Sk} {K : PySem.W.Frag} {B B1 : Addr -> Prop} {H H1 : Hp} {p : Addr} {xs : List V} {d : D} {l : List D} (e : d = (match k with | .l => PyData.list l | .t => PyData.tuple l)) (dn : Dn B H (.ref p) d) (hB : ∀ a, B1 a -> B a ∨ H a = none) (keep : ∀ a o, ¬ B a -> H a = some o -> H1 a = some o) :
    ∃ xs, k.sq K H1 p xs ∧ DnL B1 H1 xs l := by
  cases k with
  | l =>
    subst e
    obtain ⟨q, ys, e1, a1, a2, a3⟩ := ref_lst dn
    cases e1
    exact ⟨ys, .inl (Rd.keep a1 fun o => keep _ o a2), a3.mono hB keep⟩
  | t =>
    subst e
    obtain ⟨q, ys, e1, a1, a2, a3⟩ := ref_tup dn
    cases e1
    exact ⟨ys, .inl (Rd.keep a1.rd fun o => keep _ o a2), a3.mono hB keep⟩
theorem itemsD_inv {d : D} {l : List D} (h : itemsD d = .ok l) : ∃ k : Sk, d = (match k with | .l => PyData.list l | .t => PyData.tuple l) := by
  cases d <;> cases h
  · exact ⟨.l, rfl⟩
  · exact ⟨.t, rfl⟩
theorem ref_sk {k : Sk} {B : Addr -> Prop} {H : Hp} {v : V} {l : List D} {d : D} (e : d = (match k with | .l => PyData.list l | .t => PyData.tuple l)) (dn : Dn B H v d) : ∃ p, v = .ref p := by
  cases k with
  | l => subst e; obtain ⟨q, ys, e1, _⟩ := ref_lst dn; exact ⟨q, e1⟩
  | t => subst e; obtain ⟨q, ys, e1, _⟩ := ref_tup dn; exact ⟨q, e1⟩
theorem k_seq (ha : PE X pa (tE a)) : PI X tg pa (tI (.seq a)) := by
  refine ⟨fun pins s σ H R I h => ?_⟩
  obtain ⟨B0, r, l, r1, rel, hd, q⟩ := h
  obtain ⟨p1, h1, hd⟩ := bnd_inv hd
  obtain ⟨l', h2, hd⟩ := bnd_inv hd
  cases hd
  obtain ⟨k, hk⟩ := itemsD_inv h2
  cases k with
  | l =>
    refine (pi_list ha).run pins s σ H R I ⟨B0, r, p1.1, p1.2, rel, h1, fun v H1 ex dn => ?_⟩
    obtain ⟨p, rfl⟩ := ref_sk (k := .l) hk dn
    refine ⟨p, rfl, ?_, q _ H1 ex fun B1 H2 hB keep => ?_⟩
    · obtain ⟨xs, e1, _⟩ := seqWalk (k := .l) (xs := []) (K := X.K) hk dn (B1 := fun _ => False) (fun _ z => z.elim) fun _ _ _ e => e
      exact ⟨xs, e1⟩
    · obtain ⟨xs, e1, e2⟩ := seqWalk (k := .l) (xs := []) (K := X.K) hk dn hB keep
      refine ⟨⟨xs, e1, by rw [e2.length]; exact Nat.le_refl _⟩, fun i d hi => ?_⟩
      obtain ⟨y, e3, e4⟩ := e2.get hi
      refine ⟨⟨xs, y, e1, e3⟩, fun x H3 hy => ?_⟩
      obtain ⟨rfl, hy⟩ := hy
      have e5 : x = y := Option.some.inj ((hy xs e1).symm.trans e3)
      subst e5
      exact ⟨Same.refl _, .inl e4, fun _ => e4⟩
  | t =>
    refine (pi_tup ha).run pins s σ H R I ⟨B0, r, p1.1, p1.2, rel, h1, fun v H1 ex dn => ?_⟩
    obtain ⟨p, rfl⟩ := ref_sk (k := .t) hk dn
    refine ⟨p, rfl, ?_, q _ H1 ex fun B1 H2 hB keep => ?_⟩
    · obtain ⟨xs, e1, _⟩ := seqWalk (k := .t) (xs := []) (K := X.K) hk dn (B1 := fun _ => False) (fun _ z => z.elim) fun _ _ _ e => e
      exact ⟨xs, e1⟩
    · obtain ⟨xs, e1, e2⟩ := seqWalk (k := .t) (xs := []) (K := X.K) hk dn hB keep
      refine ⟨⟨xs, e1, by rw [e2.length]; exact Nat.le_refl _⟩, fun i d hi => ?_⟩
      obtain ⟨y, e3, e4⟩ := e2.get hi
      refine ⟨⟨xs, y, e1, e3⟩, fun x H3 hy => ?_⟩
      obtain ⟨rfl, hy⟩ := hy
      have e5 : x = y := Option.some.inj ((hy xs e1).symm.trans e3)
      subst e5
      exact ⟨Same.refl _, .inl e4, fun _ => e4⟩
theorem iota_get {lo : Int} {n i : Nat} {d : D} (h : (iota lo n)[i]? = some d) : i < n ∧ d = .int (lo + (i : Int)) := by
  unfold iota at h
  rw [List.getElem?_map] at h
  obtain ⟨j, h1, h2⟩ := Option.map_eq_some_iff.mp h
  obtain ⟨h3, h4⟩ := List.getElem?_eq_some_iff.mp h1
  rw [List.getElem_range] at h4
  subst h4
  exact ⟨by simpa using h3, h2.symm⟩
theorem iota_len (lo : Int) (n : Nat) : (iota lo n).length = n := by simp [iota]
theorem walk_rng {B : Addr -> Prop} {H : Hp} (lo : Int) (n : Nat) (w : Bool) : Walk B H (Itr lo n) (iota lo n) w := fun _ H1 _ _ => ⟨by rw [iota_len]; exact Nat.le_refl _, fun i d hi => by
  obtain ⟨h1, rfl⟩ := iota_get hi
  refine ⟨h1, fun x H2 hy => ?_⟩
  obtain ⟨rfl, rfl⟩ := hy
  exact ⟨Same.refl _, .inl (.int _), fun _ => .int _⟩⟩
theorem k_rngI {p2 : Pos} (hg : Gl X "range") (hm : X.mg "range" = none) (ha : PE X pa (tE a)) (hp : plainX pa = true) : PI X tg (.Call (.Name "range" p2) [pa] [] pos) (tI (.rng a)) := by
  refine ⟨fun pins s σ H R I h => ?_⟩
  obtain ⟨B0, r, l, r1, rel, hd, q⟩ := h
  obtain ⟨p1, h1, hd⟩ := bnd_inv hd
  split at hd
  · rename_i j e
    obtain ⟨hs, hd⟩ := chk_inv hd
    cases hd
    have hj := rngOk_le hs
    refine (pi_range1 hg hm (pa_cons ha pa_nil (star_plain hp _ _)) (star_plain hp _ _)).run pins s σ H R I ⟨B0, r, p1.1, p1.2, rel, h1, fun v H1 ex dn => ?_⟩
    rw [e] at dn
    cases dn
    exact ⟨j, rfl, by omega, by omega, q _ H1 ex (walk_rng 0 j.toNat _)⟩
  · cases hd
theorem k_rngI2 {p2 : Pos} (hg : Gl X "range") (hm : X.mg "range" = none) (ha : PE X pa (tE a)) (hb : PE X pb (tE b)) (hp : plainX pa = true) (hp2 : plainX pb = true) : PI X tg (.Call (.Name "range" p2) [pa, pb] [] pos) (tI (.rng2 a b)) := by
  refine ⟨fun pins s σ H R I h => ?_⟩
  obtain ⟨B0, r, l, r1, rel, hd, q⟩ := h
  obtain ⟨p1, h1, hd⟩ := bnd_inv hd
  obtain ⟨p2, h2, hd⟩ := bnd_inv hd
  split at hd
  · rename_i i j e1 e2
    obtain ⟨hs, hd⟩ := chk_inv hd
    cases hd
    obtain ⟨c1, c2⟩ := Bool.and_eq_true_iff.mp hs
    have d1 := rngOk_le c1
    have d2 := rngOk_le c2
    have s1 := star_plain hp [pb] X.env
    have s2 := star_plain hp2 [] X.env
    refine (pi_range2 hg hm (pa_cons ha (pa_cons hb pa_nil s2) s1) (by rw [s1, s2]; rfl) s2).run pins s σ H R I ⟨B0, r, p1.1, p1.2, rel, h1, fun v H1 ex dn => ⟨B0, p1.2, p2.1, p2.2, ex.rel, h2, fun w H2 ex2 dn2 => ?_⟩⟩
    rw [e1] at dn
    rw [e2] at dn2
    cases dn
    cases dn2
    exact ⟨i, j, rfl, ⟨by omega, by omega, by omega, by omega⟩, q _ H2 (ex.trans ex2) (walk_rng i (j - i).toNat _)⟩
  · cases hd
theorem enumL_get : ∀ {l : List D} {n i : Nat} {d : D}, (enumL n l)[i]? = some d -> ∃ x, l[i]? = some x ∧ d = .tuple [.int ((n + i : Nat) : Int), x]
  | [], n, i, d, h => by simp [enumL] at h
  | x :: r, n, 0, d, h => by
    simp [enumL] at h
    exact ⟨x, rfl, by rw [← h]; rfl⟩
  | x :: r, n, i + 1, d, h => by
    obtain ⟨y, h1, h2⟩ := enumL_get (l := r) (n := n + 1) (i := i) (by simpa [enumL] using h)
    refine ⟨y, by simpa using h1, ?_⟩
    rw [h2]
    have e : n + 1 + i = n + (i + 1) := by omega
    rw [e]
theorem enumL_len : ∀ (l : List D) (n : Nat), (enumL n l).length = l.length
  | [], _ => rfl
  | _ :: r, n => by simp [enumL, enumL_len r]
theorem k_enumI {p2 tp : Pos} {elts : List Expr} {kk : Nat} (hg : Gl X "enumerate") (hm : X.mg "enumerate" = none) (ha : PE X pa (tE a)) (hp : plainX pa = true) : PI X (.Tuple elts kk tp) (.Call (.Name "enumerate" p2) [pa] [] pos) (tI (.enum a)) := by
  refine ⟨fun pins s σ H R I h => ?_⟩
  obtain ⟨B0, r, l, r1, rel, hd, q⟩ := h
  obtain ⟨p1, h1, hd⟩ := bnd_inv hd
  obtain ⟨l', h2, hd⟩ := bnd_inv hd
  cases hd
  obtain ⟨k, hk⟩ := itemsD_inv h2
  refine (pi_enumD hg hm (pa_cons ha pa_nil (star_plain hp _ _)) (star_plain hp _ _)).run pins s σ H R I ⟨B0, r, p1.1, p1.2, rel, h1, fun v H1 ex dn => ?_⟩
  obtain ⟨p, rfl⟩ := ref_sk hk dn
  obtain ⟨xs0, e0, _⟩ := seqWalk (xs := []) (K := X.K) hk dn (B1 := fun _ => False) (fun _ z => z.elim) fun _ _ _ e => e
  refine ⟨p, xs0, k, rfl, e0, q _ H1 ex fun B1 H2 hB keep => ?_⟩
  obtain ⟨xs, e1, e2⟩ := seqWalk (xs := []) (K := X.K) hk dn hB keep
  refine ⟨⟨xs, e1, by rw [e2.length, enumL_len]⟩, fun i d hi => ?_⟩
  obtain ⟨x, hx, rfl⟩ := enumL_get hi
  obtain ⟨y, e3, e4⟩ := e2.get hx
  refine ⟨⟨xs, y, e1, e3⟩, fun z H3 hy => ?_⟩
  obtain ⟨T, w, rfl, hT, rfl, hw⟩ := hy
  have e5 : w = y := Option.some.inj ((hw xs e1).symm.trans e3)
  subst e5
  refine ⟨same_new hT, .inr ⟨T, _, _, rfl, .inl upd_same, rfl, .cons ?_ (.cons (e4.same (same_new hT)) .nil)⟩, fun z => nomatch z⟩
  rw [Nat.zero_add]
  exact .int _
theorem zipL_get : ∀ {l m : List D} {i : Nat} {d : D}, (zipL l m)[i]? = some d -> ∃ x y, l[i]? = some x ∧ m[i]? = some y ∧ d = .tuple [x, y]
  | [], m, i, d, h => by simp [zipL] at h
  | x :: r, [], i, d, h => by simp [zipL] at h
  | x :: r, y :: s, 0, d, h => by
    simp [zipL] at h
    exact ⟨x, y, rfl, rfl, h.symm⟩
  | x :: r, y :: s, i + 1, d, h => by
    obtain ⟨u, v, h1, h2, h3⟩ := zipL_get (l := r) (m := s) (i := i) (by simpa [zipL] using h)
    exact ⟨u, v, by simpa using h1, by simpa using h2, h3⟩
theorem zipL_len : ∀ (l m : List D), (zipL l m).length = min l.length m.length
  | [], m => by simp [zipL]
  | x :: r, [] => by simp [zipL]
  | x :: r, y :: s => by simp [zipL, zipL_len r s] <;> omega
theorem k_zipI {p2 tp : Pos} {elts : List Expr} {kk : Nat} (hg : Gl X "zip") (hm : X.mg "zip" = none) (ha : PE X pa (tE a)) (hb : PE X pb (tE b)) (hp : plainX pa = true) (hp2 : plainX pb = true) : PI X (.Tuple elts kk tp) (.Call (.Name "zip" p2) [pa, pb] [] pos) (tI (.zip a b)) := by
  refine ⟨fun pins s σ H R I h => ?_⟩
  obtain ⟨B0, r, l, r1, rel, hd, q⟩ := h
  obtain ⟨p1, h1, hd⟩ := bnd_inv hd
  obtain ⟨p2, h2, hd⟩ := bnd_inv hd
  obtain ⟨l1, h3, hd⟩ := bnd_inv hd
  obtain ⟨l2, h4, hd⟩ := bnd_inv hd
  cases hd
  obtain ⟨k1, hk1⟩ := itemsD_inv h3
  obtain ⟨k2, hk2⟩ := itemsD_inv h4
  have s1 := star_plain hp [pb] X.env
  have s2 := star_plain hp2 [] X.env
  refine (pi_zipD hg hm (pa_cons ha (pa_cons hb pa_nil s2) s1) s1 (by rw [s2]; rfl)).run pins s σ H R I ⟨B0, r, p1.1, p1.2, rel, h1, fun v H1 ex dn => ⟨B0, p1.2, p2.1, p2.2, ex.rel, h2, fun w H2 ex2 dn2 => ?_⟩⟩
  have dn1 := ex2.dn dn
  obtain ⟨c1, rfl⟩ := ref_sk hk1 dn1
  obtain ⟨c2, rfl⟩ := ref_sk hk2 dn2
  obtain ⟨xs0, e0, _⟩ := seqWalk (xs := []) (K := X.K) hk1 dn1 (B1 := fun _ => False) (fun _ z => z.elim) fun _ _ _ e => e
  obtain ⟨ys0, f0, _⟩ := seqWalk (xs := []) (K := X.K) hk2 dn2 (B1 := fun _ => False) (fun _ z => z.elim) fun _ _ _ e => e
  refine ⟨c1, c2, xs0, ys0, k1, k2, rfl, e0, f0, q _ H2 (ex.trans ex2) fun B1 H3 hB keep => ?_⟩
  obtain ⟨xs, e1, e2⟩ := seqWalk (xs := []) (K := X.K) hk1 dn1 hB keep
  obtain ⟨ys, f1, f2⟩ := seqWalk (xs := []) (K := X.K) hk2 dn2 hB keep
  refine ⟨⟨xs, ys, e1, f1, by rw [zipL_len, e2.length, f2.length]⟩, fun i d hi => ?_⟩
  obtain ⟨x, y, hx, hy, rfl⟩ := zipL_get hi
  obtain ⟨u, e3, e4⟩ := e2.get hx
  obtain ⟨u2, f3, f4⟩ := f2.get hy
  refine ⟨⟨xs, ys, u, u2, e1, f1, e3, f3⟩, fun z H4 hz => ?_⟩
  obtain ⟨T, w1, w2, rfl, hT, rfl, hw1, hw2⟩ := hz
  have e5 : w1 = u := Option.some.inj ((hw1 xs e1).symm.trans e3)
  have f5 : w2 = u2 := Option.some.inj ((hw2 ys f1).symm.trans f3)
  subst e5 f5
  exact ⟨same_new hT, .inr ⟨T, _, _, rfl, .inl upd_same, rfl, .cons (e4.same (same_new hT)) (.cons (f4.same (same_new hT)) .nil)⟩, fun z => nomatch z⟩
end

/-! ### targets -/
/-- slots S stored to -/
structure Bd (S : List Nat) (r : En) (σ : L2.St) (r1 : En) (σ1 : L2.St) : Prop where
  lenR : r1.length = r.length
  lenS : σ1.length = σ.length
  off : ∀ i : Nat, i ∉ S -> r1[i]? = r[i]? ∧ σ1[i]? = σ[i]?
  new : ∀ i : Nat, i ∈ S -> kd r1[i]? = 0
  nc : ∀ i : Nat, i ∈ S -> kd r[i]? ≠ 1
theorem Bd.nil (r : En) (σ : L2.St) : Bd [] r σ r σ := ⟨rfl, rfl, fun _ _ => ⟨rfl, rfl⟩, fun _ h => by simp at h, fun _ h => by simp at h⟩
theorem Bd.app {S T : List Nat} {r r1 r2 : En} {σ σ1 σ2 : L2.St} (a : Bd S r σ r1 σ1) (b : Bd T r1 σ1 r2 σ2) : Bd (S ++ T) r σ r2 σ2 := by
  refine ⟨b.lenR.trans a.lenR, b.lenS.trans a.lenS, fun i hi => ?_, fun i hi => ?_, fun i hi => ?_⟩
  · have h1 : i ∉ S := fun z => hi (List.mem_append_left _ z)
    have h2 : i ∉ T := fun z => hi (List.mem_append_right _ z)
    exact ⟨(b.off i h2).1.trans (a.off i h1).1, (b.off i h2).2.trans (a.off i h1).2⟩
  · by_cases h2 : i ∈ T
    · exact b.new i h2
    · rcases List.mem_append.mp hi with h1 | h1
      · rw [(b.off i h2).1]; exact a.new i h1
      · exact absurd h1 h2
  · by_cases h1 : i ∈ S
    · exact a.nc i h1
    · rcases List.mem_append.mp hi with h2 | h2
      · exact absurd h2 h1
      · have := b.nc i h2
        rw [(a.off i h1).1] at this
        exact this
theorem Bd.own_le {S : List Nat} {r r1 : En} {σ σ1 : L2.St} (h : Bd S r σ r1 σ1) {a : Addr} (z : own r1 σ1 a) : own r σ a := by
  obtain ⟨i, h1, h2⟩ := z
  by_cases hi : i ∈ S
  · exact absurd (h.new i hi) h1
  · exact ⟨i, by rw [← (h.off i hi).1]; exact h1, by rw [← (h.off i hi).2]; exact h2⟩
theorem setD_inv {r r1 : En} {i : Nat} {x : Rv} (h : setD r i x = .ok r1) : freeAt r i = true ∧ r1 = r.set i (some x) := by
  obtain ⟨h1, h2⟩ := chk_inv h
  cases h2
  exact ⟨h1, rfl⟩
theorem freeAt_nc {r : En} {i : Nat} (h : freeAt r i = true) : kd r[i]? ≠ 1 ∧ i < r.length := by
  unfold freeAt at h
  split at h
  · cases h
  · rename_i o hn e
    refine ⟨fun z => ?_, (List.getElem?_eq_some_iff.mp e).1⟩
    rw [e] at z
    cases o with
    | none => cases z
    | some x =>
      cases x with
      | c l => exact hn l rfl
      | d l => cases z
      | o l => cases z
      | m l => cases z
      | n l => cases z
  · cases h
theorem Rel.setd {B0 : Addr -> Prop} {r : En} {σ : L2.St} {H : Hp} {i : Nat} {v : V} {d : D} (rel : Rel B0 r σ H) (hf : freeAt r i = true) (dn : Dn (Bf B0 r σ) H v d) :
    Rel B0 (r.set i (some (.d d))) (σ.set i (some v)) H ∧ Bd [i] r σ (r.set i (some (.d d))) (σ.set i (some v)) := by
  obtain ⟨hn, hl⟩ := freeAt_nc hf
  have hl2 : i < σ.length := by rw [← rel.len]; exact hl
  have bd : Bd [i] r σ (r.set i (some (.d d))) (σ.set i (some v)) := by
    refine ⟨List.length_set, List.length_set, fun j hj => ?_, fun j hj => ?_, fun j hj => ?_⟩
    · have : i ≠ j := fun z => hj (by simp [z])
      exact ⟨List.getElem?_set_ne this, List.getElem?_set_ne this⟩
    · have e : j = i := by simpa using hj
      subst e
      rw [List.getElem?_set_self hl]; rfl
    · have e : j = i := by simpa using hj
      subst e
      exact hn
  refine ⟨⟨by rw [List.length_set, List.length_set]; exact rel.len, fun j x e => ?_, fun j k a hj hk ej ek => ?_, rel.trk⟩, bd⟩
  · have hB : ∀ a, Bf B0 (r.set i (some (.d d))) (σ.set i (some v)) a -> Bf B0 r σ a ∨ H a = none := fun a z => by
      rcases z with z | z
      · exact .inl (.inl z)
      · exact .inl (.inr (bd.own_le z))
    by_cases hj : j = i
    · subst hj
      rw [List.getElem?_set_self hl] at e
      cases e
      exact ⟨v, List.getElem?_set_self hl2, dn.mono hB fun _ _ _ e => e⟩
    · obtain ⟨h1, h2⟩ := bd.off j (by simpa using hj)
      rw [h1] at e
      obtain ⟨w, e1, e2⟩ := rel.at' j x e
      refine ⟨w, by rw [h2]; exact e1, ?_⟩
      cases x with
      | d x => exact Dn.mono hB (fun _ _ _ e => e) e2
      | c l => obtain ⟨a, xs, e3, e4, e5, e6⟩ := e2; exact ⟨a, xs, e3, e4, e5.mono hB (fun _ _ _ e => e), e6⟩
      | o l => obtain ⟨a, xs, e3, e4, e5, e6⟩ := e2; exact ⟨a, xs, e3, e4, e5.mono hB (fun _ _ _ e => e), e6⟩
      | m l => obtain ⟨a, xs, e3, e4, e5, e6⟩ := e2; exact ⟨a, xs, e3, e4, e5.mono hB (fun _ _ _ e => e), e6⟩
      | n l => obtain ⟨a, xs, e3, e4, e5, e6⟩ := e2; exact ⟨a, xs, e3, e4, e5.mono hB (fun _ _ _ e => e), e6⟩
  · have nj : j ≠ i := fun z => by subst z; exact absurd (bd.new j (by simp)) hj
    have nk : k ≠ i := fun z => by subst z; exact absurd (bd.new k (by simp)) hk
    obtain ⟨a1, a2⟩ := bd.off j (by simpa using nj)
    obtain ⟨b1, b2⟩ := bd.off k (by simpa using nk)
    rw [a1] at hj
    rw [b1] at hk
    rw [a2] at ej
    rw [b2] at ek
    exact rel.inj j k a hj hk ej ek
/-- for a target that is a name the datum is whole -/
def DwT (t : Tg) (B : Addr -> Prop) (H : Hp) (v : V) (d : D) : Prop := match t with
  | .v _ => Dn B H v d
  | .t _ => Dw B H v d
def tG (t : Tg) : TG := fun v σ H Q => ∃ B0 r d r1, Rel B0 r σ H ∧ DwT t (Bf B0 r σ) H v d ∧ bindT t d r = .ok r1 ∧ ∀ σ1, Rel B0 r1 σ1 H -> Bd (tgS t) r σ r1 σ1 -> Q σ1 H
def tGs (t : List Tg) : TGs := fun vs σ H Q => ∃ B0 r ds r1, Rel B0 r σ H ∧ DnL (Bf B0 r σ) H vs ds ∧ bindTs t ds r = .ok r1 ∧ ∀ σ1, Rel B0 r1 σ1 H -> Bd (tgSs t) r σ r1 σ1 -> Q σ1 H
theorem PG.of {X : Cx} {e : Expr} {t t' : TG} (h : PG X e t) (w : ∀ v σ H Q, t' v σ H Q -> t v σ H Q) : PG X e t' := ⟨fun pins s σ H v u Q I r q => h.run pins s σ H v u Q I r (w _ _ _ _ q)⟩
theorem PGs.of {X : Cx} {e : List Expr} {t t' : TGs} (h : PGs X e t) (w : ∀ v σ H Q, t' v σ H Q -> t v σ H Q) : PGs X e t' := ⟨fun pins s σ H v u Q I r q => h.run pins s σ H v u Q I r (w _ _ _ _ q)⟩
theorem bindTs_len : ∀ {l : List Tg} {ds : List D} {r r1 : En}, bindTs l ds r = .ok r1 -> ds.length = l.length
  | [], ds, r, r1, h => by
    cases ds with
    | nil => rfl
    | cons _ _ => simp [bindTs] at h
  | t :: l, ds, r, r1, h => by
    cases ds with
    | nil => simp [bindTs] at h
    | cons d ds =>
      obtain ⟨r2, h1, h2⟩ := bnd_inv (show (bindT t d r).bnd _ = _ from h)
      simp [bindTs_len h2]
section
variable {X : Cx} {N : List Str} {sc : Scope} {sb : Str -> Bool} {k : Nat}
theorem mT_ns {t : Tg} {pe : Expr} (h : mT N sb t pe = true) : ∀ (es : List Expr) (env : Env), assignEach (pe :: es) env = (false, assign pe env) :: assignEach es env := by
  intro es env
  cases pe <;> first | rfl | (cases t <;> simp [mT] at h)
theorem mTs_len : ∀ {l : List Tg} {es : List Expr}, mTs N sb l es = true -> es.length = l.length
  | [], es, h => by
    cases es with
    | nil => rfl
    | cons _ _ => simp [mTs] at h
  | t :: l, es, h => by
    cases es with
    | nil => simp [mTs] at h
    | cons e es =>
      unfold mTs at h
      simp only [Bool.and_eq_true] at h
      simp [mTs_len h.2]
theorem asg_len {env : Env} : ∀ {l : List Tg} {es : List Expr}, mTs N sb l es = true -> (assignEach es env).length = l.length ∧ (assignEach es env).findIdx? (·.1) = none
  | [], es, h => by
    cases es with
    | nil => exact ⟨rfl, rfl⟩
    | cons _ _ => simp [mTs] at h
  | t :: l, es, h => by
    cases es with
    | nil => simp [mTs] at h
    | cons e es =>
      unfold mTs at h
      simp only [Bool.and_eq_true] at h
      obtain ⟨h1, h2⟩ := asg_len (env := env) h.2
      rw [mT_ns h.1 es env]
      refine ⟨by simp [h1], ?_⟩
      rw [List.findIdx?_cons]
      simp [h2]
mutual
theorem pg_den (g : Gd X N sc sb k) : ∀ (t : Tg) (pe : Expr), mT N sb t pe = true -> PG X pe (tG t)
  | .v i, pe, m => by
    unfold mT at m
    split at m
    · simp only [Bool.and_eq_true] at m
      obtain ⟨s1, s2⟩ := g.sto _ m.2
      refine PG.of (pg_name (i := i) g.ndX (g.sl m.1) s1 s2) fun v σ H Q ⟨B0, r, d, r1, rel, dn, hb, q⟩ => ?_
      obtain ⟨hf, rfl⟩ := setD_inv (show setD r i (.d d) = .ok r1 from hb)
      obtain ⟨rel2, bd⟩ := rel.setd hf dn
      exact q _ rel2 bd
    · cases m
  | .t l, pe, m => by
    unfold mT at m
    split at m
    · rename_i es kk p
      obtain ⟨hn, hst⟩ := asg_len (env := X.env) m
      refine PG.of (pg_tup g.calm (pgs_den g l es m) hn hst) fun v σ H Q ⟨B0, r, d, r1, rel, dn, hb, q⟩ => ?_
      obtain ⟨ds, rfl, hb⟩ : ∃ ds, d = .tuple ds ∧ bindTs l ds r = .ok r1 := by
        cases d <;> first | exact ⟨_, rfl, hb⟩ | (simp [bindT] at hb)
      have : ∃ a xs, v = .ref a ∧ Rd H a (.tup xs) ∧ DnL (Bf B0 r σ) H xs ds := by
        rcases dn with dn | ⟨T, xs, ds2, e1, e2, e3, e4⟩
        · obtain ⟨a, xs, e1, a1, a2, a3⟩ := ref_tup dn
          exact ⟨a, xs, e1, a1.rd, a3⟩
        · cases e3
          exact ⟨T, xs, e1, e2, e4⟩
      obtain ⟨a, xs, e1, e2, e3⟩ := this
      refine ⟨a, xs, e1, .inl e2, by rw [e3.length]; exact bindTs_len hb, B0, r, ds, r1, rel, e3, hb, q⟩
    · cases m
theorem pgs_den (g : Gd X N sc sb k) : ∀ (l : List Tg) (es : List Expr), mTs N sb l es = true -> PGs X es (tGs l)
  | [], es, m => by
    unfold mTs at m
    split at m
    · refine PGs.of pgs_nil fun v σ H Q ⟨B0, r, d, r1, rel, dn, hb, q⟩ => ?_
      cases d with
      | nil =>
        cases dn
        simp [bindTs] at hb
        subst hb
        exact ⟨rfl, q _ rel (Bd.nil _ _)⟩
      | cons _ _ => simp [bindTs] at hb
    · cases m
  | t :: l, es, m => by
    unfold mTs at m
    split at m
    · rename_i e es
      simp only [Bool.and_eq_true] at m
      refine PGs.of (pgs_cons (pg_den g t e m.1) (pgs_den g l es m.2) (by rw [mT_ns m.1]; rfl)) fun v σ H Q ⟨B0, r, d, r1, rel, dn, hb, q⟩ => ?_
      cases d with
      | nil => simp [bindTs] at hb
      | cons d ds =>
        cases dn with
        | cons d1 d2 =>
          obtain ⟨r2, h1, h2⟩ := bnd_inv (show (bindT t d r).bnd _ = _ from hb)
          refine ⟨_, _, rfl, B0, r, d, r2, rel, ?_, h1, fun σ1 rel2 bd => ⟨B0, r2, ds, r1, rel2, ?_, h2, fun σ2 rel3 bd2 => q σ2 rel3 (bd.app bd2)⟩⟩
          · cases t with
            | v i => exact d1
            | t l => exact .inl d1
          · refine d2.mono (fun a z => ?_) fun _ _ _ e => e
            rcases z with z | z
            · exact .inl (.inl z)
            · exact .inl (.inr (bd.own_le z))
    · cases m
end
end
end Sb

set_option Elab.async false
set_option linter.all false
set_option maxRecDepth 100000
set_option maxHeartbeats 1000000
/-! SbA: list comprehensions. -/
namespace Sb
open PySem PySem.Spec PyProof.Rows L2
theorem wipe_get (σ : L2.St) (i : Nat) : ∀ vs : List Nat, (wipe σ vs)[i]? = if i ∈ vs then (σ[i]?).map (fun _ => none) else σ[i]?
  | [] => by simp [wipe]
  | v :: vs => by
    unfold wipe
    have ih := wipe_get σ i vs
    by_cases hv : v = i
    · subst hv
      rw [if_pos (by simp)]
      by_cases hl : v < (wipe σ vs).length
      · rw [List.getElem?_set_self hl]
        rw [wipe_length] at hl
        rw [List.getElem?_eq_getElem hl]; rfl
      · rw [wipe_length] at hl
        rw [List.getElem?_eq_none (by rw [List.length_set, wipe_length]; omega), List.getElem?_eq_none (by omega)]; rfl
    · rw [List.getElem?_set_ne hv, ih]
      have : (i ∈ v :: vs) ↔ i ∈ vs := by
        simp only [List.mem_cons]
        exact ⟨fun z => z.elim (fun e => absurd e.symm hv) id, .inr⟩
      simp only [this]
theorem wipeE_length (r : En) : ∀ vs : List Nat, (wipeE r vs).length = r.length
  | [] => rfl
  | v :: vs => by unfold wipeE; rw [List.length_set, wipeE_length r vs]
theorem wipeE_get (r : En) (i : Nat) : ∀ vs : List Nat, (wipeE r vs)[i]? = if i ∈ vs then (r[i]?).map (fun _ => none) else r[i]?
  | [] => by simp [wipeE]
  | v :: vs => by
    unfold wipeE
    have ih := wipeE_get r i vs
    by_cases hv : v = i
    · subst hv
      rw [if_pos (by simp)]
      by_cases hl : v < (wipeE r vs).length
      · rw [List.getElem?_set_self hl]
        rw [wipeE_length] at hl
        rw [List.getElem?_eq_getElem hl]; rfl
      · rw [wipeE_length] at hl
        rw [List.getElem?_eq_none (by rw [List.length_set, wipeE_length]; omega), List.getElem?_eq_none (by omega)]; rfl
    · rw [List.getElem?_set_ne hv, ih]
      have : (i ∈ v :: vs) ↔ i ∈ vs := by
        simp only [List.mem_cons]
        exact ⟨fun z => z.elim (fun e => absurd e.symm hv) id, .inr⟩
      simp only [this]
theorem backE_length (r0 r : En) : ∀ vs : List Nat, (backE r0 r vs).length = r.length
  | [] => rfl
  | v :: vs => by unfold backE; rw [List.length_set, backE_length r0 r vs]
theorem backE_get (r0 r : En) (hl : r0.length = r.length) (i : Nat) : ∀ vs : List Nat, (backE r0 r vs)[i]? = if i ∈ vs then r0[i]? else r[i]?
  | [] => by simp [backE]
  | v :: vs => by
    unfold backE
    have ih := backE_get r0 r hl i vs
    by_cases hv : v = i
    · subst hv
      rw [if_pos (by simp)]
      by_cases h : v < (backE r0 r vs).length
      · rw [List.getElem?_set_self h]
        rw [backE_length] at h
        have h' : v < r0.length := by omega
        rw [List.getElem?_eq_getElem h']
        rfl
      · rw [backE_length] at h
        rw [List.getElem?_eq_none (by rw [List.length_set, backE_length]; omega), List.getElem?_eq_none (by omega)]
    · rw [List.getElem?_set_ne hv, ih]
      have : (i ∈ v :: vs) ↔ i ∈ vs := by
        simp only [List.mem_cons]
        exact ⟨fun z => z.elim (fun e => absurd e.symm hv) id, .inr⟩
      simp only [this]
theorem noCell_kd {r : En} {vs : List Nat} (h : noCell r vs = true) : ∀ i ∈ vs, kd r[i]? = 0 := fun i hi => by
  have := List.all_eq_true.mp h i hi
  split at this
  · rename_i e; rw [e]; rfl
  · rename_i e; rw [e]; rfl
  · cases this
/-- the slots vs are empty -/
def Emp (vs : List Nat) (r : En) : Prop := ∀ i ∈ vs, ∀ x, r[i]? ≠ some (some x)
theorem wipeE_emp (r : En) (vs : List Nat) : Emp vs (wipeE r vs) := fun i hi x e => by
  rw [wipeE_get, if_pos hi] at e
  cases q : r[i]? with
  | none => rw [q] at e; cases e
  | some o => rw [q] at e; cases e
theorem Emp.kd {vs : List Nat} {r : En} (h : Emp vs r) {i : Nat} (hi : i ∈ vs) : Sb.kd r[i]? = 0 := by
  cases q : r[i]? with
  | none => rfl
  | some o =>
    cases o with
    | none => rfl
    | some x => exact absurd q (h i hi x)
section
variable {B0 : Addr -> Prop} {r r1 : En} {σ : L2.St} {H H1 : Hp} {vs : List Nat} {D0 : Addr}
theorem wipe_kd (h : ∀ i ∈ vs, kd r[i]? = 0) (i : Nat) : kd (wipeE r vs)[i]? = kd r[i]? := by
  rw [wipeE_get]
  split
  · rename_i hi
    rw [h i hi]
    cases r[i]? <;> rfl
  · rfl
theorem wipe_own (h : ∀ i ∈ vs, kd r[i]? = 0) : own (wipeE r vs) (wipe σ vs) = own r σ := by
  funext a
  apply propext
  constructor
  · rintro ⟨i, h1, h2⟩
    rw [wipe_kd h] at h1
    have hi : i ∉ vs := fun z => h1 (h i z)
    rw [wipe_get, if_neg hi] at h2
    exact ⟨i, h1, h2⟩
  · rintro ⟨i, h1, h2⟩
    have hi : i ∉ vs := fun z => h1 (h i z)
    exact ⟨i, by rw [wipe_kd h]; exact h1, by rw [wipe_get, if_neg hi]; exact h2⟩
theorem Rel.wipe (rel : Rel B0 r σ H) (h : ∀ i ∈ vs, kd r[i]? = 0) : Rel B0 (wipeE r vs) (L2.wipe σ vs) H := by
  have ho := wipe_own (σ := σ) h
  refine ⟨by rw [wipeE_length, wipe_length]; exact rel.len, fun i x e => ?_, fun i j a hi hj ei ej => ?_, rel.trk⟩
  · have hi : i ∉ vs := fun z => wipeE_emp r vs i z x e
    rw [wipeE_get, if_neg hi] at e
    obtain ⟨v, e1, e2⟩ := rel.at' i x e
    refine ⟨v, by rw [wipe_get, if_neg hi]; exact e1, ?_⟩
    unfold Bf
    rw [ho]
    exact e2
  · rw [wipe_kd h] at hi hj
    have ni : i ∉ vs := fun z => hi (h i z)
    have nj : j ∉ vs := fun z => hj (h j z)
    rw [wipe_get, if_neg ni] at ei
    rw [wipe_get, if_neg nj] at ej
    exact rel.inj i j a hi hj ei ej
theorem RvOk.mono2 {B1 B : Addr -> Prop} {B2 : Addr -> Prop} {v : V} {x : Rv} (hB : ∀ a, B2 a -> B a ∨ H a = none) (hH : ∀ a o, ¬ B a -> H a = some o -> H1 a = some o) (hc : ∀ a, kd (some (some x)) ≠ 0 -> v = .ref a -> (∀ o, H a = some o -> H1 a = some o) ∧ (B0 a ↔ B1 a))
    (h : RvOk B0 B H v x) : RvOk B1 B2 H1 v x := by
  cases x with
  | d x => exact Dn.mono hB hH h
  | c l => obtain ⟨a, xs, e, h1, h2, h3⟩ := h; obtain ⟨c1, c2⟩ := hc a (by simp [kd]) e; exact ⟨a, xs, e, c1 _ h1, h2.mono hB hH, c2.mp h3⟩
  | o l => obtain ⟨a, xs, e, h1, h2, h3⟩ := h; obtain ⟨c1, c2⟩ := hc a (by simp [kd]) e; exact ⟨a, xs, e, c1 _ h1, h2.mono hB hH, fun z => h3 (c2.mpr z)⟩
  | m l => obtain ⟨a, xs, e, h1, h2, h3⟩ := h; obtain ⟨c1, c2⟩ := hc a (by simp [kd]) e; exact ⟨a, xs, e, c1 _ h1, h2.mono hB hH, fun z => h3 (c2.mpr z)⟩
  | n l => obtain ⟨a, xs, e, h1, h2, h3⟩ := h; obtain ⟨c1, c2⟩ := hc a (by simp [kd]) e; exact ⟨a, xs, e, c1 _ h1, h2.mono hB hH, fun z => h3 (c2.mpr z)⟩
/-- a new address is forbidden from now on -/
theorem Rel.add {o : HO} (rel : Rel B0 r σ H) (h : H D0 = none) : Rel (fun a => B0 a ∨ a = D0) r σ (upd H D0 o) := by
  have hs := same_new (o := o) h
  refine ⟨rel.len, fun i x e => ?_, rel.inj, fun a z => ?_⟩
  · obtain ⟨v, e1, e2⟩ := rel.at' i x e
    refine ⟨v, e1, e2.mono2 (fun a z => ?_) (fun a o _ e => hs a o e) fun a hk ev => ⟨fun o => hs a o, ⟨.inl, fun z => ?_⟩⟩⟩
    · rcases z with (z | z) | z
      · exact .inl (.inl z)
      · rw [z]; exact .inr h
      · exact .inl (.inr z)
    · rcases z with z | z
      · exact z
      · have := rel.ownB (a := a) ⟨i, by rw [e]; exact hk, by rw [e1, ev]⟩
        rw [z] at this
        exact absurd h this
  · rcases z with z | z
    · exact (Go.ofSame (O := fun _ => False) hs).live a (rel.trk a z)
    · rw [z, upd_same]; simp
theorem Rel.unadd (rel : Rel (fun a => B0 a ∨ a = D0) r σ H) (h : ¬ own r σ D0) : Rel B0 r σ H := by
  refine ⟨rel.len, fun i x e => ?_, rel.inj, fun a z => rel.trk a (.inl z)⟩
  obtain ⟨v, e1, e2⟩ := rel.at' i x e
  refine ⟨v, e1, e2.mono2 (fun a z => .inl ?_) (fun _ _ _ e => e) fun a hk ev => ⟨fun _ e => e, ⟨fun z => ?_, .inl⟩⟩⟩
  · rcases z with z | z
    · exact .inl (.inl z)
    · exact .inr z
  · rcases z with z | z
    · exact z
    · exact absurd ⟨i, by rw [e]; exact hk, by rw [e1, ev, z]⟩ h
theorem Rel.upd {o : HO} (rel : Rel B0 r σ H) (hD : B0 D0) (h : ¬ own r σ D0) : Rel B0 r σ (upd H D0 o) := by
  refine ⟨rel.len, fun i x e => ?_, rel.inj, fun a z => ?_⟩
  · obtain ⟨v, e1, e2⟩ := rel.at' i x e
    refine ⟨v, e1, e2.mono2 (fun a z => .inl z) (fun a o n e => ?_) fun a hk ev => ⟨fun o e => ?_, Iff.rfl⟩⟩
    · rw [upd_ne (fun z => n (by rw [z]; exact .inl hD))]; exact e
    · rw [upd_ne (fun z => h ⟨i, by rw [‹r[i]? = _›]; exact hk, by rw [e1, ev, z]⟩)]; exact e
  · by_cases e : a = D0
    · rw [e, upd_same]; simp
    · rw [upd_ne e]; exact rel.trk a z
end
/-- all but the own lists and D0 is kept -/
abbrev GoX (O : Addr -> Prop) (D0 : Addr) (H H1 : Hp) : Prop := Go (fun a => O a ∨ a = D0) H H1
theorem Go.mono {O O1 : Addr -> Prop} {H H1 : Hp} (h : Go O H H1) (w : ∀ a, O a -> O1 a) : Go O1 H H1 := ⟨fun a o n e => h.keep a o (fun z => n (w a z)) e, h.live⟩
theorem goX_upd {O : Addr -> Prop} {H : Hp} {D0 : Addr} {o : HO} : GoX O D0 H (upd H D0 o) := ⟨fun a u n e => by
  rw [upd_ne (fun z => n (.inr z))]; exact e, fun a e => by
  by_cases z : a = D0
  · rw [z, upd_same]; simp
  · rw [upd_ne z]; exact e⟩
theorem loopD {B0 : Addr -> Prop} {σw : L2.St} {D0 : Addr} {J : It} {l : List D} {w : Bool} {turn : D -> En -> Out (List D × En)} {Body : V -> Hp -> (Hp -> Prop) -> Prop} {Fin : Hp -> Prop} {r0 r2 : En} {H0 : Hp} {acc0 : List V} {d0 ys : List D}
    (hD : B0 D0) (rel0 : Rel B0 r0 σw H0) (hd0 : H0 D0 = some (.lst acc0)) (hacc : DnL (Bf B0 r0 σw) H0 acc0 d0) (hw : Walk (Bf B0 r0 σw) H0 J l w) (hrun : lcA turn l r0 = .ok (ys, r2)) (hlen : d0.length + ys.length < 16777216)
    (hturn : ∀ x v rc Hc acc accD ys1 rc1 Nx, Rel B0 rc σw Hc -> Shp r0 rc -> Hc D0 = some (.lst acc) -> DnL (Bf B0 rc σw) Hc acc accD -> Dw (Bf B0 rc σw) Hc v x -> (w = false -> Dn (Bf B0 rc σw) Hc v x) -> turn x rc = .ok (ys1, rc1) -> accD.length + ys1.length < 16777216 ->
      (∀ Hn accn, Rel B0 rc1 σw Hn -> Shp rc rc1 -> GoX (own r0 σw) D0 Hc Hn -> Hn D0 = some (.lst accn) -> DnL (Bf B0 rc1 σw) Hn accn (accD ++ ys1) -> Nx Hn) -> Body v Hc Nx)
    (hfin : ∀ Hc acc, Rel B0 r2 σw Hc -> Shp r0 r2 -> GoX (own r0 σw) D0 H0 Hc -> Hc D0 = some (.lst acc) -> DnL (Bf B0 r2 σw) Hc acc (d0 ++ ys) -> Fin Hc) :
    ∃ W : Nat -> Nat -> Hp -> Prop, (∃ m, W 0 m H0) ∧ ∀ i m H, W i m H -> (J.stop i H ∧ Fin H) ∨ (J.go i H ∧ ∃ Nx : Hp -> Prop, (∀ H', Nx H' -> ∃ m', m' < m ∧ W (i + 1) m' H') ∧ ∀ x H', J.yld i H x H' -> Body x H' Nx) := by
  refine ⟨fun i m H => ∃ rc acc accD ys', m = l.length - i ∧ i ≤ l.length ∧ Rel B0 rc σw H ∧ Shp r0 rc ∧ GoX (own r0 σw) D0 H0 H ∧ H D0 = some (.lst acc) ∧ DnL (Bf B0 rc σw) H acc accD ∧ lcA turn (l.drop i) rc = .ok (ys', r2) ∧ d0 ++ ys = accD ++ ys',
    ⟨l.length, r0, acc0, d0, ys, by simp, Nat.zero_le _, rel0, Shp.refl _, Go.refl _ _, hd0, hacc, by simpa using hrun, rfl⟩, ?_⟩
  rintro i m H ⟨rc, acc, accD, ys', rfl, hi, rel, shp, go, hd, hac, hr, he⟩
  have keep : ∀ a o, ¬ Bf B0 r0 σw a -> H0 a = some o -> H a = some o := fun a o n e => go.keep a o (fun z => n (z.elim .inr fun z => by rw [z]; exact .inl hD)) e
  obtain ⟨w1, w2⟩ := hw (Bf B0 r0 σw) H (fun a z => .inl z) keep
  by_cases hlt : i < l.length
  · have hx : l[i]? = some l[i] := List.getElem?_eq_getElem hlt
    obtain ⟨g1, g2⟩ := w2 i l[i] hx
    rw [List.drop_eq_getElem_cons hlt] at hr
    obtain ⟨p, h1, hr⟩ := bnd_inv (show (turn l[i] rc).bnd _ = _ from hr)
    obtain ⟨q, h2, hr⟩ := bnd_inv hr
    cases hr
    refine .inr ⟨g1, fun Hn => ∃ rc1 accn, Rel B0 rc1 σw Hn ∧ Shp r0 rc1 ∧ GoX (own r0 σw) D0 H0 Hn ∧ Hn D0 = some (.lst accn) ∧ DnL (Bf B0 rc1 σw) Hn accn (accD ++ p.1) ∧ lcA turn (l.drop (i + 1)) rc1 = .ok (q.1, q.2), fun H' hN => ?_, fun x H' hy => ?_⟩
    · obtain ⟨rc1, accn, k1, k2, k3, k4, k5, k6⟩ := hN
      exact ⟨l.length - (i + 1), by omega, rc1, accn, _, _, rfl, hlt, k1, k2, k3, k4, k5, k6, by rw [he, List.append_assoc]⟩
    · obtain ⟨hs, dw, dn⟩ := g2 x H' hy
      have hs2 := Ex.ofSame rel hs
      have eB : Bf B0 r0 σw = Bf B0 rc σw := (Bf_shp shp).symm
      rw [eB] at dw dn
      have hle : accD.length + p.1.length < 16777216 := by
        have := congrArg List.length he
        simp only [List.length_append] at this
        omega
      refine hturn l[i] x rc H' acc accD p.1 p.2 _ hs2.rel shp (hs _ _ hd) (hac.same hs) dw dn h1 hle fun Hn accn k1 k2 k3 k4 k5 => ?_
      exact ⟨p.2, accn, k1, shp.trans k2, (go.trans (Go.ofSame hs)).trans k3, k4, k5, h2⟩
  · have e : i = l.length := by omega
    subst e
    rw [List.drop_length] at hr
    cases hr
    rw [List.append_nil] at he
    refine .inl ⟨w1, hfin H acc rel shp go hd ?_⟩
    rw [he]
    exact hac
end Sb

set_option Elab.async false
set_option linter.all false
set_option maxRecDepth 100000
set_option maxHeartbeats 1000000
/-! SbB: list comprehensions, further; all expressions. -/
namespace Sb
open PySem PySem.Spec PyProof.Rows L2
def isV : Tg -> Bool
  | .v _ => true
  | .t _ => false
theorem dwT_of {t : Tg} {B : Addr -> Prop} {H : Hp} {v : V} {d : D} {w : Bool} (h : isV t = true -> w = false) (a : Dw B H v d) (b : w = false -> Dn B H v d) : DwT t B H v d := by
  cases t with
  | v i => exact b (h rfl)
  | t l => exact a
theorem wipe_same {σ σ1 : L2.St} {vs S : List Nat} (hl : σ1.length = σ.length) (hS : ∀ i ∈ S, i ∈ vs) (off : ∀ i : Nat, i ∉ S -> σ1[i]? = (wipe σ vs)[i]?) : wipe σ1 vs = wipe σ vs := by
  apply List.ext_getElem?
  intro i
  rw [wipe_get, wipe_get]
  by_cases hi : i ∈ vs
  · rw [if_pos hi, if_pos hi]
    by_cases h : i < σ.length
    · rw [List.getElem?_eq_getElem h, List.getElem?_eq_getElem (by omega)]; rfl
    · rw [List.getElem?_eq_none (by omega), List.getElem?_eq_none (by omega)]
  · rw [if_neg hi, if_neg hi, off i (fun z => hi (hS i z)), wipe_get, if_neg hi]
/-- behind a turn: the slots vs are emptied again -/
theorem after_turn {B0 : Addr -> Prop} {σw σ1 : L2.St} {rc rb re : En} {H : Hp} {vs S : List Nat} (emp : Emp vs rc) (hS : ∀ i ∈ S, i ∈ vs) (bd : Bd S rc σw rb σ1) (shp : Shp rb re) (hw : wipe σ1 vs = σw) (rel : Rel B0 re σ1 H) :
    Rel B0 (wipeE re vs) σw H ∧ Shp rc (wipeE re vs) ∧ own (wipeE re vs) σw = own re σ1 := by
  have kb : ∀ i ∈ vs, kd re[i]? = 0 := fun i hi => by
    rw [shp.kind]
    by_cases h : i ∈ S
    · exact bd.new i h
    · rw [(bd.off i h).1]; exact emp.kd hi
  have hr := rel.wipe kb
  rw [hw] at hr
  refine ⟨hr, ⟨by rw [wipeE_length, shp.len, bd.lenR], fun i => ?_, fun i hi => ?_⟩, ?_⟩
  · rw [wipe_kd kb]
    by_cases h : i ∈ vs
    · rw [kb i h, emp.kd h]
    · have h2 : i ∉ S := fun z => h (hS i z)
      rw [shp.kind, (bd.off i h2).1]
  · rw [wipeE_get]
    by_cases h : i ∈ vs
    · rw [if_pos h]
      have hl : re.length = rc.length := by rw [shp.len, bd.lenR]
      cases q : rc[i]? with
      | none =>
        have : rc.length ≤ i := List.getElem?_eq_none_iff.mp q
        rw [List.getElem?_eq_none (by omega)]; rfl
      | some o =>
        cases o with
        | some x => exact absurd q (emp i h x)
        | none =>
          have := (List.getElem?_eq_some_iff.mp q).1
          rw [List.getElem?_eq_getElem (by omega)]; rfl
    · have h2 : i ∉ S := fun z => h (hS i z)
      rw [if_neg h, shp.dat i (by rw [(bd.off i h2).1]; exact hi), (bd.off i h2).1]
  · rw [← hw]
    exact wipe_own kb
section
variable {B0 : Addr -> Prop} {σ : L2.St} {D0 : Addr} {vs : List Nat} {tg : Tg} {cond : Option E} {e : E}
def lcTurn (vs : List Nat) (tg : Tg) (cond : Option E) (e : E) : D -> En -> Out (List D × En) := fun x r1 => (bindT tg x r1).bnd fun r2 => (denC cond r2).bnd fun b => match b.1 with
  | true => (den e b.2).bnd fun y => .ok ([y.1], wipeE y.2 vs)
  | false => .ok ([], wipeE b.2 vs)
def lcBody (σ : L2.St) (D0 : Addr) (vs : List Nat) (tg : Tg) (cond : Option E) (e : E) : V -> Hp -> (Hp -> Prop) -> Prop := fun v H' Nx => tG tg v (wipe σ vs) H' fun σ2 H2 => wipe σ2 vs = wipe σ vs ∧ tCd cond σ2 H2 fun b H3 =>
    if b = true then tE e σ2 H3 fun y H4 => ∃ acc, H4 D0 = some (.lst acc) ∧ acc.length < sizeLine ∧ Nx (upd H4 D0 (.lst (acc ++ [y]))) else Nx H3
theorem turn_elt {r0 : En} {w : Bool} (hD : B0 D0) (emp0 : Emp vs r0) (hno : ¬ own r0 (wipe σ vs) D0) (hS : ∀ i ∈ tgS tg, i ∈ vs) (hv : isV tg = true -> w = false) :
    ∀ x v rc Hc acc accD ys1 rc1 Nx, Rel B0 rc (wipe σ vs) Hc -> Shp r0 rc -> Hc D0 = some (.lst acc) -> DnL (Bf B0 rc (wipe σ vs)) Hc acc accD -> Dw (Bf B0 rc (wipe σ vs)) Hc v x -> (w = false -> Dn (Bf B0 rc (wipe σ vs)) Hc v x) -> lcTurn vs tg cond e x rc = .ok (ys1, rc1) -> accD.length + ys1.length < 16777216 ->
      (∀ Hn accn, Rel B0 rc1 (wipe σ vs) Hn -> Shp rc rc1 -> GoX (own r0 (wipe σ vs)) D0 Hc Hn -> Hn D0 = some (.lst accn) -> DnL (Bf B0 rc1 (wipe σ vs)) Hn accn (accD ++ ys1) -> Nx Hn) -> lcBody σ D0 vs tg cond e v Hc Nx := by
  intro x v rc Hc acc accD ys1 rc1 Nx rel shp hd hac dw dn ht hlen fin
  have emp : Emp vs rc := fun i hi y q => by
    have := shp.dat i (emp0.kd hi)
    rw [this] at q
    exact emp0 i hi y q
  obtain ⟨rb, h1, ht⟩ := bnd_inv ht
  obtain ⟨b, h2, ht⟩ := bnd_inv ht
  refine ⟨B0, rc, x, rb, rel, dwT_of hv dw dn, h1, fun σ1 relb bd => ?_⟩
  have hwl : σ1.length = σ.length := by rw [bd.lenS, wipe_length]
  have hw : wipe σ1 vs = wipe σ vs := wipe_same hwl hS fun i hi => (bd.off i hi).2
  refine ⟨hw, B0, rb, b.1, b.2, relb, h2, fun H3 ex => ?_⟩
  have owle : ∀ {a : Addr}, own rb σ1 a -> own r0 (wipe σ vs) a := fun z => by
    rw [← own_shp shp]
    exact bd.own_le z
  have hd3 : H3 D0 = some (.lst acc) := ex.go.keep _ _ (fun z => hno (owle z)) hd
  cases hb : b.1 with
  | false =>
    rw [hb] at ht
    cases ht
    refine iteF ?_
    obtain ⟨k1, k2, k3⟩ := after_turn emp hS bd ex.shp hw ex.rel
    refine fin H3 acc k1 k2 (ex.go.mono fun a z => .inl (owle z)) hd3 ?_
    rw [List.append_nil]
    have hac2 : DnL (Bf B0 rb σ1) Hc acc accD := hac.mono (fun a z => z.elim (fun z => .inl (.inl z)) fun z => .inl (.inr (bd.own_le z))) fun _ _ _ e => e
    have := ex.dnL hac2
    unfold Bf at this ⊢
    rw [k3]
    exact this
  | true =>
    rw [hb] at ht
    obtain ⟨y, h3, ht⟩ := bnd_inv ht
    cases ht
    refine iteT ?_
    refine ⟨B0, b.2, y.1, y.2, ex.rel, h3, fun u H4 ex2 du => ?_⟩
    have ex3 := ex.trans ex2
    have hd4 : H4 D0 = some (.lst acc) := ex3.go.keep _ _ (fun z => hno (owle z)) hd
    obtain ⟨k1, k2, k3⟩ := after_turn emp hS bd ex3.shp hw ex3.rel
    have hno2 : ¬ own (wipeE y.2 vs) (wipe σ vs) D0 := fun z => by
      rw [k3, own_shp ex3.shp] at z
      exact hno (owle z)
    have hac2 : DnL (Bf B0 rb σ1) Hc acc accD := hac.mono (fun a z => z.elim (fun z => .inl (.inl z)) fun z => .inl (.inr (bd.own_le z))) fun _ _ _ e => e
    have hac3 := ex3.dnL hac2
    have eB : Bf B0 (wipeE y.2 vs) (wipe σ vs) = Bf B0 y.2 σ1 := by unfold Bf; rw [k3]
    refine ⟨acc, hd4, ?_, fin _ (acc ++ [u]) (k1.upd hD hno2) k2 ((ex3.go.mono fun a z => .inl (owle z)).trans goX_upd) upd_same ?_⟩
    · rw [hac.length, sizeLine_eq]
      simp only [List.length_singleton] at hlen
      omega
    · rw [eB]
      exact (hac3.append (.cons du .nil)).mono (fun a z => .inl z) fun a o n e => by
        rw [upd_ne (fun z => n (by rw [z]; exact .inl hD))]; exact e
end
section
variable {X : Cx} {pos : Pos} {pe pt pi pt1 pi1 : Expr} {ifs : List Expr} {scope : Scope} {tg tg1 : Tg} {it it1 : Src} {cond : Option E} {e : E} {own0 : List (Str × Nat)} {vs1 : List Nat}
/-- the comprehension's end -/
theorem lc_end {B0 : Addr -> Prop} {r r1 r2 : En} {σ : L2.St} {H H1 Hc : Hp} {D0 : Addr} {vs : List Nat} {ys : List D} {acc : List V} (ex : Ex B0 r r1 σ H H1) (hD : H1 D0 = none) (hn : ∀ i ∈ vs, kd r1[i]? = 0)
    (rel : Rel (fun a => B0 a ∨ a = D0) r2 (wipe σ vs) Hc) (shp : Shp (wipeE r1 vs) r2) (go : GoX (own (wipeE r1 vs) (wipe σ vs)) D0 (upd H1 D0 (.lst [])) Hc) (hd : Hc D0 = some (.lst acc)) (hac : DnL (Bf (fun a => B0 a ∨ a = D0) r2 (wipe σ vs)) Hc acc ys) :
    Ex B0 r (backE r1 r2 vs) σ H Hc ∧ Dn (Bf B0 (backE r1 r2 vs) σ) Hc (.ref D0) (.list ys) := by
  have hl : r1.length = r2.length := by rw [shp.len, wipeE_length]
  have k12 : ∀ i, kd r2[i]? = kd r1[i]? := fun i => by rw [shp.kind, wipe_kd hn]
  have shp2 : Shp r1 (backE r1 r2 vs) := by
    refine ⟨by rw [backE_length, hl], fun i => ?_, fun i hi => ?_⟩
    · rw [backE_get r1 r2 hl]
      split
      · rfl
      · exact k12 i
    · rw [backE_get r1 r2 hl]
      split
      · rfl
      · rename_i h
        rw [shp.dat i (by rw [wipe_kd hn]; exact hi), wipeE_get, if_neg h]
  have ow : own (wipeE r1 vs) (wipe σ vs) = own r1 σ := wipe_own hn
  have ow2 : own r2 (wipe σ vs) = own r1 σ := by rw [own_shp shp, ow]
  have hno : ¬ own r1 σ D0 := fun z => ex.rel.ownB z hD
  have rel2 : Rel B0 r2 (wipe σ vs) Hc := rel.unadd (by rw [ow2]; exact hno)
  have go1 : Go (own r1 σ) H1 Hc := by
    refine ⟨fun a o n q => ?_, fun a q => go.live a ?_⟩
    · have na : a ≠ D0 := fun z => by rw [z, hD] at q; cases q
      refine go.keep a o (fun z => z.elim (fun z => n (by rw [← ow]; exact z)) na) ?_
      rw [upd_ne na]; exact q
    · exact (Go.ofSame (O := fun _ => False) (same_new hD)).live a q
  have eB : Bf B0 (backE r1 r2 vs) σ = Bf B0 r1 σ := Bf_shp shp2
  have eB2 : Bf B0 r2 (wipe σ vs) = Bf B0 r1 σ := by unfold Bf; rw [ow2]
  have relb : Rel B0 (backE r1 r2 vs) σ Hc := by
    refine ⟨by rw [backE_length, ← hl]; exact ex.rel.len, fun i x q => ?_, fun i j a hi hj => ?_, fun a z => go1.live a (ex.rel.trk a z)⟩
    · rw [backE_get r1 r2 hl] at q
      rw [eB]
      by_cases h : i ∈ vs
      · rw [if_pos h] at q
        obtain ⟨v, e1, e2⟩ := ex.rel.at' i x q
        refine ⟨v, e1, ?_⟩
        have hk := hn i h
        rw [q] at hk
        cases x with
        | d x => exact Dn.mono (fun _ z => .inl z) (fun a o n q => go1.keep a o (fun z => n (.inr z)) q) e2
        | c l => cases hk
        | o l => cases hk
        | m l => cases hk
        | n l => cases hk
      · rw [if_neg h] at q
        obtain ⟨v, e1, e2⟩ := rel2.at' i x q
        rw [wipe_get, if_neg h] at e1
        rw [eB2] at e2
        exact ⟨v, e1, e2⟩
    · rw [shp2.kind] at hi hj
      exact ex.rel.inj i j a hi hj
  refine ⟨⟨relb, ex.go.trans (by rw [← own_shp ex.shp]; exact go1), ex.shp.trans shp2⟩, ?_⟩
  rw [eB]
  refine .lst (.inl hd) (fun z => ?_) (hac.mono (fun a z => .inl ?_) fun _ _ _ q => q)
  · rcases z with z | z
    · exact ex.rel.trk _ z hD
    · exact hno z
  · rw [← eB2] at z
    rcases z with z | z
    · exact .inl (.inl z)
    · exact .inr z
/-- the new list is nobody's -/
theorem lc_endN {B0 : Addr -> Prop} {r r1 r2 : En} {σ : L2.St} {H H1 Hc : Hp} {D0 : Addr} {vs : List Nat} {ys : List D} {acc : List V} (ex : Ex B0 r r1 σ H H1) (hD : H1 D0 = none) (hn : ∀ i ∈ vs, kd r1[i]? = 0)
    (rel : Rel (fun a => B0 a ∨ a = D0) r2 (wipe σ vs) Hc) (shp : Shp (wipeE r1 vs) r2) (go : GoX (own (wipeE r1 vs) (wipe σ vs)) D0 (upd H1 D0 (.lst [])) Hc) (hd : Hc D0 = some (.lst acc)) (hac : DnL (Bf (fun a => B0 a ∨ a = D0) r2 (wipe σ vs)) Hc acc ys) :
    H D0 = none ∧ ¬ B0 D0 ∧ ¬ own (backE r1 r2 vs) σ D0 ∧ Rel (fun a => B0 a ∨ a = D0) (backE r1 r2 vs) σ Hc ∧ DnL (fun a => Bf B0 (backE r1 r2 vs) σ a ∨ a = D0) Hc acc ys := by
  obtain ⟨z1, z2⟩ := lc_end ex hD hn rel shp go hd hac
  have hl : r1.length = r2.length := by rw [shp.len, wipeE_length]
  have hno : ¬ own r1 σ D0 := fun z => ex.rel.ownB z hD
  have ow : own (wipeE r1 vs) (wipe σ vs) = own r1 σ := wipe_own hn
  have ow2 : own r2 (wipe σ vs) = own r1 σ := by rw [own_shp shp, ow]
  have shp2 : ∀ i, kd (backE r1 r2 vs)[i]? = kd r1[i]? := fun i => by
    rw [backE_get r1 r2 hl]
    split
    · rfl
    · rw [shp.kind, wipe_kd hn]
  have ow3 : own (backE r1 r2 vs) σ = own r1 σ := by
    funext a
    unfold own
    simp only [shp2]
  have eB : Bf (fun a => B0 a ∨ a = D0) (backE r1 r2 vs) σ = Bf (fun a => B0 a ∨ a = D0) r2 (wipe σ vs) := by
    unfold Bf
    rw [ow2, ow3]
  have keep : ∀ a o, ¬ Bf B0 r1 σ a -> H1 a = some o -> Hc a = some o := fun a o n q => by
    have na : a ≠ D0 := fun z => by rw [z, hD] at q; cases q
    refine go.keep a o (fun z => z.elim (fun z => n (.inr (by rw [← ow]; exact z))) na) ?_
    rw [upd_ne na]; exact q
  refine ⟨?_, fun z => ex.rel.trk D0 z hD, by rw [ow3]; exact hno, ⟨z1.rel.len, fun i x q => ?_, z1.rel.inj, rel.trk⟩, ?_⟩
  · by_cases q : H D0 = none
    · exact q
    · exact absurd hD (ex.go.live D0 q)
  · rw [eB]
    rw [backE_get r1 r2 hl] at q
    by_cases h : i ∈ vs
    · rw [if_pos h] at q
      obtain ⟨v, e1, e2⟩ := ex.rel.at' i x q
      refine ⟨v, e1, ?_⟩
      have hk := hn i h
      rw [q] at hk
      cases x with
      | d x =>
        refine Dn.mono (fun a z => ?_) keep e2
        unfold Bf at z
        rw [ow2] at z
        rcases z with (z | z) | z
        · exact .inl (.inl z)
        · rw [z]; exact .inr hD
        · exact .inl (.inr z)
      | c l => cases hk
      | o l => cases hk
      | m l => cases hk
      | n l => cases hk
    · rw [if_neg h] at q
      obtain ⟨v, e1, e2⟩ := rel.at' i x q
      rw [wipe_get, if_neg h] at e1
      exact ⟨v, e1, e2⟩
  · refine hac.mono (fun a z => .inl ?_) fun _ _ _ q => q
    rw [← eB]
    rcases z with (z | z) | z
    · exact .inl (.inl z)
    · exact .inr z
    · exact .inl (.inr z)
/-- the comprehension's start -/
theorem lc_start {B0 : Addr -> Prop} {r r1 : En} {σ : L2.St} {H H1 : Hp} {D0 : Addr} {vs : List Nat} {J : It} {l : List D} {w : Bool} (ex : Ex B0 r r1 σ H H1) (hD : H1 D0 = none) (hn : ∀ i ∈ vs, kd r1[i]? = 0) (hw : Walk (Bf B0 r1 σ) H1 J l w) :
    Rel (fun a => B0 a ∨ a = D0) (wipeE r1 vs) (wipe σ vs) (upd H1 D0 (.lst [])) ∧ ¬ own (wipeE r1 vs) (wipe σ vs) D0 ∧ Walk (Bf (fun a => B0 a ∨ a = D0) (wipeE r1 vs) (wipe σ vs)) (upd H1 D0 (.lst [])) J l w := by
  have ow : own (wipeE r1 vs) (wipe σ vs) = own r1 σ := wipe_own hn
  refine ⟨(ex.rel.add hD).wipe hn, fun z => ?_, hw.up (fun a z => ?_) (fun a o n e => same_new hD a o e) (Go.ofSame (O := fun _ => False) (same_new hD)).live⟩
  · rw [ow] at z
    exact ex.rel.ownB z hD
  · rcases z with (z | z) | z
    · exact .inl (.inl z)
    · rw [z]; exact .inr hD
    · rw [ow] at z
      exact .inl (.inr z)
theorem small_lt {n : Nat} (h : small (n + 1) = true) : n < 16777216 := by
  have := of_decide_eq_true h
  omega
theorem lc_of {σ : L2.St} {H : Hp} {Q : VK} (hS : ∀ i ∈ tgS tg, i ∈ own0.map (·.2)) (hv : isV tg = true -> isWeak it = false) (h : tE (.lc own0 tg it cond e) σ H Q) : tLc (tI it) (tG tg) (tCd cond) (tE e) (own0.map (·.2)) σ H Q := by
  obtain ⟨B0, r, d, rr, rel, hden, q⟩ := h
  obtain ⟨p, h1, hden⟩ := bnd_inv hden
  obtain ⟨h2, hden⟩ := chk_inv hden
  obtain ⟨p2, h3, hden⟩ := bnd_inv hden
  obtain ⟨h4, hden⟩ := chk_inv hden
  cases hden
  have hn := noCell_kd h2
  refine ⟨B0, r, p.1, p.2, rel, h1, fun J H1 ex hw D0 hD => ?_⟩
  obtain ⟨s1, s2, s3⟩ := lc_start ex hD hn hw
  have h3' : lcA (lcTurn (own0.map (fun x => x.2)) tg cond e) p.1 (wipeE p.2 (own0.map (fun x => x.2))) = .ok (p2.1, p2.2) := h3
  refine loopD (B0 := fun a => B0 a ∨ a = D0) (turn := lcTurn (own0.map (fun x => x.2)) tg cond e) (Body := lcBody σ D0 (own0.map (fun x => x.2)) tg cond e) (.inr rfl) s1 upd_same .nil s3 h3' (by simpa using small_lt h4) (turn_elt (.inr rfl) (wipeE_emp _ _) s2 hS hv) fun Hc acc k1 k2 k3 k4 k5 => ?_
  obtain ⟨z1, z2⟩ := lc_end ex hD hn k1 k2 k3 k4 (by simpa using k5)
  exact q _ _ z1 z2
theorem lc_ofN {σ : L2.St} {H : Hp} {Q : VK} (hS : ∀ i ∈ tgS tg, i ∈ own0.map (·.2)) (hv : isV tg = true -> isWeak it = false) {B0 : Addr -> Prop} {r rr : En} {l : List D} (rel : Rel B0 r σ H) (hden : den (.lc own0 tg it cond e) r = .ok (.list l, rr))
    (q : ∀ p xs H1, Ex B0 r rr σ H H1 -> H p = none -> ¬ B0 p -> ¬ own rr σ p -> Rel (fun a => B0 a ∨ a = p) rr σ H1 -> H1 p = some (.lst xs) -> DnL (fun a => Bf B0 rr σ a ∨ a = p) H1 xs l -> Q (.ref p) H1) : tLc (tI it) (tG tg) (tCd cond) (tE e) (own0.map (·.2)) σ H Q := by
  obtain ⟨p, h1, hden⟩ := bnd_inv hden
  obtain ⟨h2, hden⟩ := chk_inv hden
  obtain ⟨p2, h3, hden⟩ := bnd_inv hden
  obtain ⟨h4, hden⟩ := chk_inv hden
  cases hden
  have hn := noCell_kd h2
  refine ⟨B0, r, p.1, p.2, rel, h1, fun J H1 ex hw D0 hD => ?_⟩
  obtain ⟨s1, s2, s3⟩ := lc_start ex hD hn hw
  have h3' : lcA (lcTurn (own0.map (fun x => x.2)) tg cond e) p.1 (wipeE p.2 (own0.map (fun x => x.2))) = .ok (p2.1, p2.2) := h3
  refine loopD (B0 := fun a => B0 a ∨ a = D0) (turn := lcTurn (own0.map (fun x => x.2)) tg cond e) (Body := lcBody σ D0 (own0.map (fun x => x.2)) tg cond e) (.inr rfl) s1 upd_same .nil s3 h3' (by simpa using small_lt h4) (turn_elt (.inr rfl) (wipeE_emp _ _) s2 hS hv) fun Hc acc k1 k2 k3 k4 k5 => ?_
  have k5' : DnL (Bf (fun a => B0 a ∨ a = D0) p2.2 (wipe σ (own0.map (·.2)))) Hc acc p2.1 := by simpa using k5
  obtain ⟨z1, z2⟩ := lc_end ex hD hn k1 k2 k3 k4 k5'
  obtain ⟨y1, y2, y3, y4, y5⟩ := lc_endN ex hD hn k1 k2 k3 k4 k5'
  exact q D0 acc Hc z1 y1 y2 y3 y4 k4 y5
theorem k_lc (hc : X.calm = true) (hN : X.N.Nodup) (hi : PI X pt pi (tI it)) (ok : BlkOk X.N X.env.scope scope own0)
    (hg : ∀ (s : Shared) (H : Hp) (C : Addr) (cl : List (Str × Addr)) (fp : List Addr), PG (X.blk s H scope (compEnvC scope cl C X.env) fp) pt (tG tg)) (ht : ∀ (s : Shared) (H : Hp) (C : Addr) (cl : List (Str × Addr)) (fp : List Addr), PTs (X.blk s H scope (compEnvC scope cl C X.env) fp) ifs (tCd cond))
    (he : ∀ (s : Shared) (H : Hp) (C : Addr) (cl : List (Str × Addr)) (fp : List Addr), PE (X.blk s H scope (compEnvC scope cl C X.env) fp) pe (tE e)) (hs : ∀ x, foldedSetIterable pi X.env x = pure x)
    (hS : ∀ i ∈ tgS tg, i ∈ own0.map (·.2)) (hv : isV tg = true -> isWeak it = false) : PE X (.ListComp pe [⟨pt, pi, ifs, 0⟩] scope pos) (tE (.lc own0 tg it cond e)) :=
  PE.of (pe_lc hc hN hi ok hg ht he hs) fun σ H Q h => lc_of hS hv h

/-! ### two clauses -/
def lc2Turn (vs vs1 : List Nat) (tg tg1 : Tg) (it1 : Src) (e : E) : D -> En -> Out (List D × En) := fun x r1 => (bindT tg x r1).bnd fun r2 => (items it1 r2).bnd fun p1 =>
  chk (noCell p1.2 vs1) ((lcA (fun x1 r3 => (bindT tg1 x1 r3).bnd fun r4 => (den e r4).bnd fun y => .ok ([y.1], wipeE y.2 vs1)) p1.1 (wipeE p1.2 vs1)).bnd fun q1 => .ok (q1.1, wipeE q1.2 vs))
def lc2Body (σ : L2.St) (D0 : Addr) (vs vs1 : List Nat) (tg tg1 : Tg) (it1 : Src) (e : E) : V -> Hp -> (Hp -> Prop) -> Prop := fun v H' Nx => tG tg v (wipe σ vs) H' fun σ2 H2 => wipe σ2 vs = wipe σ vs ∧ tCd none σ2 H2 fun b H3 =>
    if b = true then tI it1 σ2 H3 fun J1 H4 => ∃ W1 : Nat → Nat → Hp → Prop, (∃ m, W1 0 m H4) ∧ ∀ j k H, W1 j k H →
      (J1.stop j H ∧ Nx H) ∨ (J1.go j H ∧ ∃ Nx1 : Hp → Prop, (∀ H', Nx1 H' → ∃ k', k' < k ∧ W1 (j + 1) k' H') ∧ ∀ x H', J1.yld j H x H' → lcBody σ2 D0 vs1 tg1 none e x H' Nx1)
    else Nx H3
theorem inner_eq (vs1 : List Nat) (tg1 : Tg) (e : E) : (fun x1 r3 => (bindT tg1 x1 r3).bnd fun r4 => (den e r4).bnd fun y => .ok ([y.1], wipeE y.2 vs1)) = lcTurn vs1 tg1 none e := rfl
theorem turn_elt2 {B0 : Addr -> Prop} {σ : L2.St} {D0 : Addr} {vs vs1 : List Nat} {r0 : En} {w : Bool} (hD : B0 D0) (emp0 : Emp vs r0) (hno : ¬ own r0 (wipe σ vs) D0) (hS : ∀ i ∈ tgS tg, i ∈ vs) (hv : isV tg = true -> w = false) (hS1 : ∀ i ∈ tgS tg1, i ∈ vs1) (hvs : ∀ i ∈ vs1, i ∈ vs) (hv1 : isV tg1 = true -> isWeak it1 = false) :
    ∀ x v rc Hc acc accD ys1 rc1 Nx, Rel B0 rc (wipe σ vs) Hc -> Shp r0 rc -> Hc D0 = some (.lst acc) -> DnL (Bf B0 rc (wipe σ vs)) Hc acc accD -> Dw (Bf B0 rc (wipe σ vs)) Hc v x -> (w = false -> Dn (Bf B0 rc (wipe σ vs)) Hc v x) -> lc2Turn vs vs1 tg tg1 it1 e x rc = .ok (ys1, rc1) -> accD.length + ys1.length < 16777216 ->
      (∀ Hn accn, Rel B0 rc1 (wipe σ vs) Hn -> Shp rc rc1 -> GoX (own r0 (wipe σ vs)) D0 Hc Hn -> Hn D0 = some (.lst accn) -> DnL (Bf B0 rc1 (wipe σ vs)) Hn accn (accD ++ ys1) -> Nx Hn) -> lc2Body σ D0 vs vs1 tg tg1 it1 e v Hc Nx := by
  intro x v rc Hc acc accD ys1 rc1 Nx rel shp hd hac dw dn ht hlen fin
  have emp : Emp vs rc := fun i hi y q => by
    have := shp.dat i (emp0.kd hi)
    rw [this] at q
    exact emp0 i hi y q
  obtain ⟨rb, h1, ht⟩ := bnd_inv ht
  obtain ⟨p1, h2, ht⟩ := bnd_inv ht
  obtain ⟨h3, ht⟩ := chk_inv ht
  obtain ⟨q1, h4, ht⟩ := bnd_inv ht
  cases ht
  rw [inner_eq] at h4
  refine ⟨B0, rc, x, rb, rel, dwT_of hv dw dn, h1, fun σ1 relb bd => ?_⟩
  have hwl : σ1.length = σ.length := by rw [bd.lenS, wipe_length]
  have hw : wipe σ1 vs = wipe σ vs := wipe_same hwl hS fun i hi => (bd.off i hi).2
  refine ⟨hw, B0, rb, true, rb, relb, rfl, fun H3 ex => iteT ⟨B0, rb, p1.1, p1.2, ex.rel, h2, fun J1 H4 ex1 hwalk => ?_⟩⟩
  have ex2 := ex.trans ex1
  have owle : ∀ {a : Addr}, own rb σ1 a -> own r0 (wipe σ vs) a := fun z => by
    rw [← own_shp shp]
    exact bd.own_le z
  have hd4 : H4 D0 = some (.lst acc) := ex2.go.keep _ _ (fun z => hno (owle z)) hd
  have hn1 := noCell_kd h3
  have ow1 : own (wipeE p1.2 vs1) (wipe σ1 vs1) = own rb σ1 := by rw [wipe_own hn1, own_shp ex2.shp]
  have eB1 : Bf B0 (wipeE p1.2 vs1) (wipe σ1 vs1) = Bf B0 p1.2 σ1 := by unfold Bf; rw [wipe_own hn1]
  have hno1 : ¬ own (wipeE p1.2 vs1) (wipe σ1 vs1) D0 := fun z => by rw [ow1] at z; exact hno (owle z)
  have hac2 : DnL (Bf B0 rb σ1) Hc acc accD := hac.mono (fun a z => z.elim (fun z => .inl (.inl z)) fun z => .inl (.inr (bd.own_le z))) fun _ _ _ e => e
  have hac3 : DnL (Bf B0 (wipeE p1.2 vs1) (wipe σ1 vs1)) H4 acc accD := by rw [eB1]; exact ex2.dnL hac2
  have h4' : lcA (lcTurn vs1 tg1 none e) p1.1 (wipeE p1.2 vs1) = .ok (q1.1, q1.2) := h4
  refine loopD (B0 := B0) (turn := lcTurn vs1 tg1 none e) (Body := lcBody σ1 D0 vs1 tg1 none e) hD (ex2.rel.wipe hn1) hd4 hac3 (by rw [eB1]; exact hwalk) h4' hlen (turn_elt hD (wipeE_emp _ _) hno1 hS1 hv1) fun Hn accn k1 k2 k3 k4 k5 => ?_
  -- the inner loop's end
  have kq : ∀ i ∈ vs, kd q1.2[i]? = 0 := fun i hi => by
    rw [k2.kind, wipe_kd hn1, ex2.shp.kind]
    by_cases h : i ∈ tgS tg
    · exact bd.new i h
    · rw [(bd.off i h).1]; exact emp.kd hi
  have hw2 : wipe (wipe σ1 vs1) vs = wipe σ vs := by
    rw [← hw]
    apply List.ext_getElem?
    intro i
    rw [wipe_get, wipe_get, wipe_get]
    by_cases hi : i ∈ vs
    · rw [if_pos hi, if_pos hi]
      split
      · cases σ1[i]? <;> rfl
      · rfl
    · rw [if_neg hi, if_neg hi, if_neg fun z => hi (hvs i z)]
  have relq := k1.wipe kq
  rw [hw2] at relq
  have owq : own (wipeE q1.2 vs) (wipe σ vs) = own q1.2 (wipe σ1 vs1) := by rw [← hw2]; exact wipe_own kq
  refine fin Hn accn relq ⟨?_, fun i => ?_, fun i hi => ?_⟩ ((ex2.go.mono fun a z => .inl (owle z)).trans (k3.mono fun a z => z.elim (fun z => .inl (owle (by rw [← ow1]; exact z))) .inr)) k4 ?_
  · rw [wipeE_length, k2.len, wipeE_length, ex2.shp.len, bd.lenR]
  · rw [wipe_kd kq]
    by_cases h : i ∈ vs
    · rw [kq i h, emp.kd h]
    · have h2 : i ∉ tgS tg := fun z => h (hS i z)
      rw [k2.kind, wipe_kd hn1, ex2.shp.kind, (bd.off i h2).1]
  · rw [wipeE_get]
    have hl : q1.2.length = rc.length := by rw [k2.len, wipeE_length, ex2.shp.len, bd.lenR]
    by_cases h : i ∈ vs
    · rw [if_pos h]
      cases q : rc[i]? with
      | none =>
        have : rc.length ≤ i := List.getElem?_eq_none_iff.mp q
        rw [List.getElem?_eq_none (by omega)]; rfl
      | some o =>
        cases o with
        | some x => exact absurd q (emp i h x)
        | none =>
          have := (List.getElem?_eq_some_iff.mp q).1
          rw [List.getElem?_eq_getElem (by omega)]; rfl
    · have h2 : i ∉ tgS tg := fun z => h (hS i z)
      have h3 : i ∉ vs1 := fun z => h (hvs i z)
      have hk : kd rb[i]? = 0 := by rw [(bd.off i h2).1]; exact hi
      rw [if_neg h, k2.dat i (by rw [wipe_kd hn1, ex2.shp.kind]; exact hk), wipeE_get, if_neg h3, ex2.shp.dat i hk, (bd.off i h2).1]
  · have : Bf B0 (wipeE q1.2 vs) (wipe σ vs) = Bf B0 q1.2 (wipe σ1 vs1) := by unfold Bf; rw [owq]
    rw [this]
    exact k5
theorem lc2_of {σ : L2.St} {H : Hp} {Q : VK} (hS : ∀ i ∈ tgS tg, i ∈ own0.map (·.2)) (hv : isV tg = true -> isWeak it = false) (hS1 : ∀ i ∈ tgS tg1, i ∈ vs1) (hvs : ∀ i ∈ vs1, i ∈ own0.map (·.2)) (hv1 : isV tg1 = true -> isWeak it1 = false) (h : tE (.lc2 own0 vs1 tg it tg1 it1 e) σ H Q) :
    tLc2 (tI it) (tG tg) (tCd none) (tI it1) (tG tg1) (tCd none) (tE e) (own0.map (·.2)) vs1 σ H Q := by
  obtain ⟨B0, r, d, rr, rel, hden, q⟩ := h
  obtain ⟨p, h1, hden⟩ := bnd_inv hden
  obtain ⟨h2, hden⟩ := chk_inv hden
  obtain ⟨p2, h3, hden⟩ := bnd_inv hden
  obtain ⟨h4, hden⟩ := chk_inv hden
  cases hden
  have hn := noCell_kd (Bool.and_eq_true_iff.mp h2).1
  refine ⟨B0, r, p.1, p.2, rel, h1, fun J H1 ex hw D0 hD => ?_⟩
  obtain ⟨s1, s2, s3⟩ := lc_start ex hD hn hw
  have h3' : lcA (lc2Turn (own0.map (fun x => x.2)) vs1 tg tg1 it1 e) p.1 (wipeE p.2 (own0.map (fun x => x.2))) = .ok (p2.1, p2.2) := h3
  refine loopD (B0 := fun a => B0 a ∨ a = D0) (turn := lc2Turn (own0.map (fun x => x.2)) vs1 tg tg1 it1 e) (Body := lc2Body σ D0 (own0.map (fun x => x.2)) vs1 tg tg1 it1 e) (.inr rfl) s1 upd_same .nil s3 h3' (by simpa using small_lt h4) (turn_elt2 (.inr rfl) (wipeE_emp _ _) s2 hS hv hS1 hvs hv1) fun Hc acc k1 k2 k3 k4 k5 => ?_
  obtain ⟨z1, z2⟩ := lc_end ex hD hn k1 k2 k3 k4 (by simpa using k5)
  exact q _ _ z1 z2
theorem k_lc2 (hc : X.calm = true) (hN : X.N.Nodup) (hi : PI X pt pi (tI it)) (ok : BlkOk X.N X.env.scope scope own0)
    (hg : ∀ (s : Shared) (H : Hp) (C : Addr) (cl : List (Str × Addr)) (fp : List Addr), PG (X.blk s H scope (compEnvC scope cl C X.env) fp) pt (tG tg)) (ht : ∀ (s : Shared) (H : Hp) (C : Addr) (cl : List (Str × Addr)) (fp : List Addr), PTs (X.blk s H scope (compEnvC scope cl C X.env) fp) [] (tCd none))
    (hi1 : ∀ (s : Shared) (H : Hp) (C : Addr) (cl : List (Str × Addr)) (fp : List Addr), PI (X.blk s H scope (compEnvC scope cl C X.env) fp) pt1 pi1 (tI it1))
    (hg1 : ∀ (s : Shared) (H : Hp) (C : Addr) (cl : List (Str × Addr)) (fp : List Addr), PG (X.blk s H scope (compEnvC scope cl C X.env) fp) pt1 (tG tg1))
    (he : ∀ (s : Shared) (H : Hp) (C : Addr) (cl : List (Str × Addr)) (fp : List Addr), PE (X.blk s H scope (compEnvC scope cl C X.env) fp) pe (tE e)) (hs : ∀ x, foldedSetIterable pi X.env x = pure x) (hs1 : ∀ env x, foldedSetIterable pi1 env x = pure x)
    (hS : ∀ i ∈ tgS tg, i ∈ own0.map (·.2)) (hv : isV tg = true -> isWeak it = false) (hS1 : ∀ i ∈ tgS tg1, i ∈ vs1) (hvs : ∀ i ∈ vs1, i ∈ own0.map (·.2)) (hv1 : isV tg1 = true -> isWeak it1 = false) :
    PE X (.ListComp pe [⟨pt, pi, [], 0⟩, ⟨pt1, pi1, [], 0⟩] scope pos) (tE (.lc2 own0 vs1 tg it tg1 it1 e)) :=
  PE.of (pe_lc2 hc hN hi ok hvs hg ht hi1 hg1 ht he hs hs1) fun σ H Q h => lc2_of hS hv hS1 hvs hv1 h
end
end Sb

set_option Elab.async false
set_option linter.all false
set_option maxRecDepth 100000
set_option maxHeartbeats 4000000
/-! SbV: t[::-1] of a tuple; sorted(list of tuples of ints). -/
namespace Sb
open PySem PySem.Spec PyProof.Rows L2
section
variable {prog : Program} {w : World} {A : Around} {E : Value → Shared → Prop} {s : Shared}
theorem sliceApplied_rev {sl : Addr} {vl vu vs : Value} {n : Nat} {Q : Int × Int × Nat → Shared → Prop} (hs : s.heap.IsSliceOf sl vl vu vs) (pl : IsPart vl none) (pu : IsPart vu none) (ps : IsPart vs (some (-1)))
    (h : Q ((n : Int) - 1, -1, n) s) : wpAny (model prog w) A (Builtin.Slice.sliceApplied (.ref sl) (pure (n : Int))) Q E s := by
  obtain ⟨os, hos, hcs, hds⟩ := id hs
  unfold Builtin.Slice.sliceApplied Builtin.Slice.sliceFields
  refine wpAny_bind (wpAny_bind (wpAny_field hos hds (x := vl) rfl (wpAny_bind (wpAny_field hos hds (x := vu) rfl (wpAny_bind (wpAny_field hos hds (x := vs) rfl (wpAny_pure ?_)))))))
  refine wpAny_bind (HT.slicePart_ ps ?_)
  show wpAny _ _ (if ((-1 : Int) == 0) = true then _ else _) _ _ s
  rw [if_neg (by decide)]
  refine wpAny_bind (HT.slicePart_ pl (wpAny_bind (HT.slicePart_ pu (wpAny_bind (wpAny_pure ?_)))))
  show wpAny _ _ (pure ((n : Int) - 1, (-1 : Int), Builtin.Slice.slicePlaces ((n : Int) - 1) (-1) (-1))) _ _ s
  have e : Builtin.Slice.slicePlaces ((n : Int) - 1) (-1) (-1) = n := by
    unfold Builtin.Slice.slicePlaces
    rw [if_neg (by decide)]
    by_cases c : (n : Int) - 1 > -1
    · rw [if_pos c, show (- -1 : Int) = 1 by decide, Int.ediv_one]
      omega
    · rw [if_neg c]
      omega
  rw [e]
  exact wpAny_pure h
theorem pick_rev (xs : Array Value) : ((List.range xs.size).filterMap fun (m : Nat) => xs[(((xs.size : Int) - 1) + (m : Int) * (-1)).toNat]?).toArray = xs.toList.reverse.toArray := by
  have e : (List.range xs.size).filterMap (fun (m : Nat) => xs[(((xs.size : Int) - 1) + (m : Int) * (-1)).toNat]?) = ((List.range xs.size).map (fun k => xs.size - 1 - k)).filterMap (xs[·]?) := by
    rw [List.filterMap_map]
    refine congrFun (congrArg List.filterMap ?_) _
    funext m
    show _ = xs[xs.size - 1 - m]?
    have : (((xs.size : Int) - 1) + (m : Int) * (-1)).toNat = xs.size - 1 - m := by omega
    rw [this]
  rw [e, PySem.W.krv_range, List.filterMap_reverse, PySem.W.krv_all]
theorem getItem_tuple_rev {t sl : Addr} {items : Array Value} {vl vu vs : Value} {Q : Value → Shared → Prop} (ht : IsTup s.heap t items) (hs : s.heap.IsSliceOf sl vl vu vs) (pl : IsPart vl none) (pu : IsPart vu none) (ps : IsPart vs (some (-1)))
    (h : Q (.ref s.heap.objs.size) { s with heap := s.heap.push { cls := .type "tuple", data := .seq items.toList.reverse.toArray } })
    (hsz : items.size ≤ sizeLine) : wpAny (model prog w) A (getItem (.ref t) (.ref sl)) Q E s := by
  have htake : sizeOk (.seq items.toList.reverse.toArray) := by
    show items.toList.reverse.toArray.size ≤ sizeLine
    rw [List.size_toArray, List.length_reverse, Array.length_toList]
    omega
  obtain ⟨os, hos, hcs, hds⟩ := id hs
  have hTs : s.TypeIs (.ref sl) "slice" := ⟨os, hos, hcs⟩
  unfold getItem
  try with_reducible refine wpAny_holding ?_
  first | refine wpAny_bind (wpAny_pure ?_) | skip
  refine wpAny_bind (wpAny_sequenceKey ht.typeIs (by decide) ?_)
  refine wpAny_bind (wpAny_callSpecial?_slot (name := Str.ofString "__getitem__") ht.typeIs PyProof.Rows.slot_tuple_getitem
    (wpAny_call_entry PyProof.Rows.slot_tuple_getitem ht.typeIs entry_tuple_getitem ?_ (args_tuple_getitem _ _)))
  show wpAny _ _ (Builtin.Tuple.tupleItemsOf (.ref t) >>= _) _ _ s
  refine wpAny_bind (tupleItemsOf_ ht ?_)
  refine wpAny_bind (wpAny_typeOf hTs ?_)
  rw [if_pos (by decide)]
  refine wpAny_bind (sliceApplied_rev hs pl pu ps ?_)
  have hno : ¬ ((((items.size : Int) - 1) == 0 && (-1 : Int) == 1 && items.size == items.size) = true) := by
    intro q
    rw [Bool.and_eq_true, Bool.and_eq_true] at q
    exact absurd q.1.2 (by decide)
  show wpAny _ _ (if ((((items.size : Int) - 1) == 0 && (-1 : Int) == 1 && items.size == items.size) = true) then _ else _) _ _ s
  rw [if_neg hno, pick_rev]
  first
    | exact wpAny_bind (m := Builtin.Tuple.tupleExact _) (wpAny_newObj_type (wpAny_pure ⟨_, rfl, wpAny_pure h⟩) htake)
    | exact wpAny_bind (m := Builtin.Tuple.tupleExact _) (wpAny_newObj_type (wpAny_bind (wpAny_pure (wpAny_pure ⟨_, rfl, wpAny_pure h⟩))) htake)
    | exact wpAny_bind (wpAny_bind (m := Builtin.Tuple.tupleExact _) (wpAny_newObj_type (wpAny_pure (wpAny_pure ⟨_, rfl, wpAny_pure h⟩)) htake))
    | exact wpAny_bind (wpAny_bind (m := Builtin.Tuple.tupleExact _) (wpAny_newObj_type (wpAny_pure ⟨_, rfl, wpAny_pure h⟩) htake))
end
section
variable {X : Cx}
def tRevT (K : PySem.W.Frag) (te : TE) : TE := fun σ H Q => te σ H fun x H1 => ∃ a xs, x = .ref a ∧ SqT K H1 a xs ∧ NT H1 xs.reverse Q
theorem pe_revT {e : Expr} {te : TE} {k : Nat} {p1 p2 p3 pos : Pos} (he : PE X e te) : PE X (.Subscript e (.Slice none none (some (.UnaryOp .USub (.Constant (.int 1) k p1) p2)) p3) pos) (tRevT X.K te) := by
  refine ⟨fun pins s σ H Q I h => ?_⟩
  refine Subscript_ (thn (he.run pins s σ H _ I h) fun v s1 ⟨x, H1, I1, r1, q1⟩ => ?_)
  obtain ⟨a, xs, ex, hx, q⟩ := q1
  subst ex
  cases r1
  have hst : PO X (some (.UnaryOp .USub (.Constant (.int 1) k p1) p2)) (tPart (tUn (rU fun i => .int (-i)) (tC (.int 1)))) := po_some (pe_un un_neg pe_int)
  refine wpAny_Slice (thn (po_none.run pins s1 σ H1 (fun o H2 => o = none ∧ H2 = H1) I1 ⟨rfl, rfl⟩) fun vl s2 ⟨l, H2, I2, pl, el, e2⟩ => ?_)
  subst el e2
  refine thn (po_none.run pins s2 σ H2 (fun o H3 => o = none ∧ H3 = H2) I2 ⟨rfl, rfl⟩) fun vu s3 ⟨u, H3, I3, pu, eu, e3⟩ => ?_
  subst eu e3
  refine thn (hst.run pins s3 σ H3 (fun o H4 => o = some (-1) ∧ H4 = H3) I3 ⟨1, rfl, -1, rfl, rfl, rfl⟩) fun vs s4 ⟨o, H4, I4, ps, eo, e4⟩ => ?_
  subst eo e4
  have I5 : Inv X pins σ H4 { s4 with heap := s4.heap.push { cls := .type "slice", data := .fields #[vl, vu, vs] } } := I4.kept (t' := s4.toks) fun b ob q => Heap.get?_push_of_some _ q
  obtain ⟨its, r, ht, hz⟩ := I5.tuple hx
  have hlen := r.length
  show wpAny (model X.prog X.w) X.A (subscriptTail e (.Slice none none (some (.UnaryOp .USub (.Constant (.int 1) k p1) p2)) p3) (.ref a) (.ref s4.heap.objs.size)) (EP X pins σ Q) X.xe { s4 with heap := s4.heap.push { cls := .type "slice", data := .fields #[vl, vu, vs] } }
  refine tail_any (ops := [.ref a, .ref s4.heap.objs.size]) ht.typeIs (PyProof.Rows.slot_tuple_getitem.lookup) ?_ (by with_unfolding_all rfl)
  refine getItem_tuple_rev ht (Heap.IsSliceOf.new _ vl vu vs) pl pu ps ?_ (by rw [List.size_toArray]; omega)
  exact laidT I5 r.reverse (by rw [List.length_reverse]; exact hz) q
/-- sorted(l), l a list of tuples of ints -/
def tSortT (K : PySem.W.Frag) (ta : TE) : TE := fun σ H Q => ta σ H fun x H1 => ∃ (l : Addr) (ks : List (Addr × List Int)) (d : Nat) (B : Int), x = .ref l ∧ SqL K H1 l (ks.map fun p => V.ref p.1) ∧ (∀ p ∈ ks, SqT K H1 p.1 (p.2.map V.int)) ∧ ks.length < 64 ∧ 1 ≤ d ∧
  (∀ p ∈ ks, p.2.length = d ∧ TS.Bd B p.2) ∧
  ∀ (L' : List (Addr × List Int)) (p : Addr), L'.Perm ks → L'.Pairwise (fun q r => TS.code B q.2 ≤ TS.code B r.2) → H1 p = none → Q (.ref p) (upd H1 p (.lst (L'.map fun q => V.ref q.1)))
theorem boot_sorted : bootBuiltins "sorted" = some (.builtin "sorted") := by decide +kernel
theorem refs_back {h : Heap} : ∀ (ks : List (Addr × List Int)) (out : List Value), out.Perm (ks.map fun p => Value.ref p.1) → ∃ L' : List (Addr × List Int), L'.Perm ks ∧ out = L'.map fun p => Value.ref p.1 := by
  intro ks out pm
  have go : ∀ {a b : List Value}, a.Perm b → ∀ ks : List (Addr × List Int), b = ks.map (fun p => Value.ref p.1) → ∃ L' : List (Addr × List Int), L'.Perm ks ∧ a = L'.map fun p => Value.ref p.1 := by
    intro a b pm
    induction pm with
    | nil =>
      intro ks e
      cases ks with
      | nil => exact ⟨[], List.Perm.nil, rfl⟩
      | cons _ _ => cases e
    | cons x p ih =>
      intro ks e
      cases ks with
      | nil => cases e
      | cons k ks =>
        injection e with e1 e2
        obtain ⟨L, p1, p2⟩ := ih ks e2
        exact ⟨k :: L, .cons _ p1, by rw [p2, e1]; rfl⟩
    | swap x y l =>
      intro ks e
      cases ks with
      | nil => cases e
      | cons k ks =>
        injection e with e1 e2
        cases ks with
        | nil => cases e2
        | cons k2 ks =>
          injection e2 with e3 e4
          exact ⟨k2 :: k :: ks, .swap _ _ _, by rw [e1, e3, e4]; rfl⟩
    | trans p q ih1 ih2 =>
      intro ks e
      obtain ⟨L, p1, p2⟩ := ih2 ks e
      obtain ⟨M, p3, p4⟩ := ih1 L p2
      exact ⟨M, p3.trans p1, p4⟩
  exact go pm ks rfl
theorem pe_sortT {a : Expr} {ta : TE} {p pos : Pos} (hg : Gl X "sorted") (hm : X.mg "sorted" = none) (ha : PE X a ta)
    (na : starEach [a] X.env = (false, eval a X.env) :: starEach [] X.env) : PE X (.Call (.Name "sorted" p) [a] [] pos) (tSortT X.K ta) := by
  refine ⟨fun pins s σ H Q I h => ?_⟩
  refine Call_ (ld_blt I hg hm boot_sorted ?_)
  refine PyProof.Rows.callWith_builtin1 (PyProof.Rows.args_cons (thn (ha.run pins s σ H _ I h) fun v s1 ⟨x, H1, I1, r1, q1⟩ => PyProof.Rows.args_nil ?_) na) na rfl
  obtain ⟨l, ks, d, B, rfl, hl, hk, hf, hd, hB, q⟩ := q1
  cases r1
  obtain ⟨its, rv, pl, hz⟩ := I1.list hl
  have ei : its = ks.map fun p => Value.ref p.1 := refs_of_vals rv
  subst ei
  have tk : ∀ p ∈ ks, TS.TupInts s1.heap (.ref p.1) p.2 := fun p hp => tupInts_of (P := X.prog) (w := X.w) (I1.isT (hk p hp))
  refine TS.sorted_tups (d := d) (B := B) pl.isList (by rw [List.length_map]; exact hf) hd (fun v hv => ?_) fun out a1 a2 => ?_
  · obtain ⟨p, hp, rfl⟩ := List.mem_map.mp hv
    exact ⟨p.2, tk p hp, (hB p hp).1, (hB p hp).2⟩
  · obtain ⟨L', pm, e'⟩ := refs_back (h := s1.heap) ks out.toList a1
    have pw : L'.Pairwise (fun q r => TS.code B q.2 ≤ TS.code B r.2) := by
      rw [e'] at a2
      refine List.Pairwise.imp_of_mem (fun {q r} hq hr hle => ?_) (List.pairwise_map.mp a2)
      have f1 := (tk q (pm.mem_iff.mp hq)).ints
      have f2 := (tk r (pm.mem_iff.mp hr)).ints
      rw [← f1, ← f2]
      exact hle
    obtain ⟨c, hc⟩ := sortedAll_at s1.heap (ks.map fun p => Value.ref p.1) out
    have hn : H1 (s1.heap.objs.size + 1) = none := I1.hok.fresh (Nat.le_succ _)
    have hlen : (L'.map fun q => V.ref q.1).length ≤ sizeLine := by rw [List.length_map, pm.length_eq, sizeLine_eq]; omega
    refine ⟨.ref _, _, I1.laid (t' := s1.toks) (o := .lst (L'.map fun q => V.ref q.1)) (fun b ob q => sortedAll_old q) (Nat.le_succ _) ⟨hlen, out.toList, c, by rw [e']; exact vals_of_refs L', hc⟩, rfl, q L' _ pm pw hn⟩
theorem DnL.snoc {B : Addr -> Prop} {H : Hp} {v : V} {d : D} (hv : Dn B H v d) : ∀ {xs : List V} {ds : List D}, DnL B H xs ds -> DnL B H (xs ++ [v]) (ds ++ [d])
  | _, _, .nil => .cons hv .nil
  | _, _, .cons h t => .cons h (DnL.snoc hv t)
theorem DnL.rev {B : Addr -> Prop} {H : Hp} : ∀ {xs : List V} {ds : List D}, DnL B H xs ds -> DnL B H xs.reverse ds.reverse
  | _, _, .nil => .nil
  | _, _, .cons h t => by
    rw [List.reverse_cons, List.reverse_cons]
    exact (DnL.rev t).snoc h
variable {pos : Pos} {pa : Expr} {a : E}
theorem k_revt {p1 p2 p3 : Pos} {k : Nat} (ha : PE X pa (tE a)) : PE X (.Subscript pa (.Slice none none (some (.UnaryOp .USub (.Constant (.int 1) k p1) p2)) p3) pos) (tE (.op .revt [a])) :=
  PE.of (pe_revT ha) fun σ H Q ⟨B0, r, d, r1, rel, hden, q⟩ => by
    obtain ⟨p3, h3, hden⟩ := bnd_inv hden
    obtain ⟨x, h2, hden⟩ := bnd_inv hden
    cases hden
    obtain ⟨p4, h4, h3⟩ := bnd_inv h3
    cases h3
    refine ⟨B0, r, p4.1, p4.2, rel, h4, fun v H1 ex dn => ?_⟩
    obtain ⟨p41, p42⟩ := p4
    cases p41 with
    | tuple l =>
      cases h2
      obtain ⟨y, ys, rfl, a1, a2, a3⟩ := ref_tup dn
      refine ⟨y, ys, rfl, .inl a1.rd, ?_⟩
      have rv : RV (Bf B0 p42 σ) H1 (.tuple l.reverse) Q := fun v H2 hs dn2 => q v H2 (ex.trans (Ex.ofSame ex.rel hs)) dn2
      exact rv.newT ex.rel.trkB a3.rev
    | _ => cases h2
theorem cod_code : ∀ l : List Int, cod l = TS.code 64 l
  | [] => rfl
  | d :: r => by
    show d * 64 ^ r.length + cod r = d * 64 ^ r.length + TS.code 64 r
    rw [cod_code r]
theorem insC_perm (x : List Int) : ∀ l, (insC x l).Perm (x :: l)
  | [] => .refl _
  | y :: l => by
    unfold insC
    split
    · exact .refl _
    · exact ((insC_perm x l).cons y).trans (.swap _ _ _)
theorem sortC_perm : ∀ l, (sortC l).Perm l
  | [] => .refl _
  | x :: l => (insC_perm x _).trans ((sortC_perm l).cons x)
theorem insC_le {x : List Int} : ∀ {l : List (List Int)}, l.Pairwise (fun a b => cod a ≤ cod b) -> (insC x l).Pairwise (fun a b => cod a ≤ cod b)
  | [], _ => by simp [insC]
  | z :: l, h => by
    obtain ⟨h1, h2⟩ := List.pairwise_cons.mp h
    unfold insC
    split
    · refine List.pairwise_cons.mpr ⟨fun y hy => ?_, h⟩
      rcases List.mem_cons.mp hy with e | e
      · subst e; assumption
      · have := h1 y e; omega
    · refine List.pairwise_cons.mpr ⟨fun y hy => ?_, insC_le h2⟩
      rcases List.mem_cons.mp ((insC_perm x l).mem_iff.mp hy) with e | e
      · subst e; omega
      · exact h1 y e
theorem sortC_le : ∀ l, (sortC l).Pairwise (fun a b => cod a ≤ cod b)
  | [] => .nil
  | x :: l => insC_le (sortC_le l)
theorem cod_unique : ∀ {l m : List (List Int)}, l.Pairwise (fun a b => cod a < cod b) -> m.Pairwise (fun a b => cod a < cod b) -> (∀ k, k ∈ l ↔ k ∈ m) -> l = m
  | [], [], _, _, _ => rfl
  | [], y :: m, _, _, h => absurd ((h y).mpr (by simp)) (by simp)
  | x :: l, [], _, _, h => absurd ((h x).mp (by simp)) (by simp)
  | x :: l, y :: m, hl, hm, h => by
    obtain ⟨l1, l2⟩ := List.pairwise_cons.mp hl
    obtain ⟨m1, m2⟩ := List.pairwise_cons.mp hm
    have e : x = y := by
      rcases List.mem_cons.mp ((h x).mp (by simp)) with q | q
      · exact q
      · rcases List.mem_cons.mp ((h y).mpr (by simp)) with r | r
        · exact r.symm
        · have := m1 x q
          have := l1 y r
          omega
    subst e
    rw [cod_unique l2 m2 fun k => ⟨fun q => ?_, fun q => ?_⟩]
    · rcases List.mem_cons.mp ((h k).mp (List.mem_cons_of_mem _ q)) with r | r
      · have := l1 k q; rw [r] at this; omega
      · exact r
    · rcases List.mem_cons.mp ((h k).mpr (List.mem_cons_of_mem _ q)) with r | r
      · have := m1 k q; rw [r] at this; omega
      · exact r
theorem cod_lt {l : List (List Int)} (h : l.Pairwise (fun a b => cod a ≤ cod b)) (n : (l.map cod).Nodup) : l.Pairwise (fun a b => cod a < cod b) := by
  have n' : l.Pairwise (fun a b => cod a ≠ cod b) := List.pairwise_map.mp n
  exact (h.and n').imp fun ⟨a, b⟩ => by omega
/-- what stands sorted is what sorting gives -/
theorem sortC_is {l m : List (List Int)} (n : (m.map cod).Nodup) (h : l.Pairwise (fun a b => cod a ≤ cod b)) (p : l.Perm m) : l = sortC m := by
  refine cod_unique (cod_lt h ((p.map cod).nodup_iff.mpr n)) (cod_lt (sortC_le m) (((sortC_perm m).map cod).nodup_iff.mpr n)) fun k => ?_
  rw [p.mem_iff, (sortC_perm m).mem_iff]
theorem intsD_eq : ∀ {l : List D} {ns : List Int}, intsD l = some ns -> l = ns.map .int
  | [], _, e => by cases e; rfl
  | d :: l, ns, e => by
    cases d with
    | int i =>
      simp only [intsD, Option.map_eq_some_iff] at e
      obtain ⟨nr, e2, rfl⟩ := e
      rw [intsD_eq e2]; rfl
    | _ => simp [intsD] at e
theorem tups_of {B : Addr -> Prop} {H : Hp} : ∀ {xs : List V} {ds : List D} {ns : List (List Int)}, DnL B H xs ds -> tupsD ds = some ns -> ∃ ks : List (Addr × List Int), xs = ks.map (fun p => V.ref p.1) ∧ ks.map (·.2) = ns ∧
    ∀ p ∈ ks, Dn B H (.ref p.1) (.tuple (p.2.map .int)) ∧ Rd H p.1 (.tup (p.2.map V.int))
  | _, _, _, .nil, e => by cases e; exact ⟨[], rfl, rfl, fun _ h => nomatch h⟩
  | _, _, ns, .cons (v := v) (d := d) h t, e => by
    cases d with
    | tuple l =>
      obtain ⟨y, ys, rfl, a1, a2, a3⟩ := ref_tup h
      simp only [tupsD] at e
      cases e1 : intsD l with
      | none => rw [e1] at e; cases e
      | some n0 =>
        rw [e1] at e
        simp only [Option.bind_some, Option.map_eq_some_iff] at e
        obtain ⟨nr, e2, rfl⟩ := e
        obtain ⟨ks, b1, b2, b3⟩ := tups_of t e2
        refine ⟨(y, n0) :: ks, by rw [b1]; rfl, by rw [List.map_cons, b2], fun p hp => ?_⟩
        rcases List.mem_cons.mp hp with e | e
        · subst e
          have ev := a3.intsV e1
          have el : l = n0.map .int := intsD_eq e1
          subst ev
          rw [← el]
          exact ⟨h, a1.rd⟩
        · exact b3 p e
    | _ => simp [tupsD] at e
theorem dn_tups {B : Addr -> Prop} {H : Hp} : ∀ {ks : List (Addr × List Int)}, (∀ p ∈ ks, Dn B H (.ref p.1) (.tuple (p.2.map .int))) -> DnL B H (ks.map fun p => V.ref p.1) ((ks.map (·.2)).map fun l => PyData.tuple (l.map .int))
  | [], _ => .nil
  | p :: ks, h => .cons (h p (by simp)) (dn_tups fun q hq => h q (List.mem_cons_of_mem _ hq))
theorem k_sortt {p2 : Pos} (hg : Gl X "sorted") (hm : X.mg "sorted" = none) (ha : PE X pa (tE a)) (hp : plainX pa = true) :
    PE X (.Call (.Name "sorted" p2) [pa] [] pos) (tE (.op .sortt [a])) :=
  PE.of (pe_sortT hg hm ha (star_plain hp [] X.env)) fun σ H Q ⟨B0, r, d, r1, rel, hden, q⟩ => by
    obtain ⟨p3, h3, hden⟩ := bnd_inv hden
    obtain ⟨x, h2, hden⟩ := bnd_inv hden
    cases hden
    obtain ⟨p4, h4, h3⟩ := bnd_inv h3
    cases h3
    refine ⟨B0, r, p4.1, p4.2, rel, h4, fun v H1 ex dn => ?_⟩
    obtain ⟨p41, p42⟩ := p4
    cases p41 with
    | list l =>
      obtain ⟨ns, h5, h2⟩ := bnd_inv (show (ofO (tupsD l)).bnd _ = _ from h2)
      obtain ⟨h6, h2⟩ := chk_inv h2
      cases h2
      obtain ⟨y, ys, rfl, a1, a2, a3⟩ := ref_lst dn
      obtain ⟨ks, b1, b2, b3⟩ := tups_of a3 (ofO_inv h5)
      simp only [sortOk, Bool.and_eq_true, decide_eq_true_eq, List.all_eq_true] at h6
      obtain ⟨⟨⟨c1, c2⟩, c3⟩, c4⟩ := h6
      subst b1
      refine ⟨y, ks, (ns.headD [0]).length, 64, rfl, .inl a1, fun p hp => .inl (b3 p hp).2, ?_, c3, fun p hp => ?_, fun L' p pm pw hn => ?_⟩
      · rw [← b2, List.length_map] at c1
        exact c1
      · have := c2 p.2 (by rw [← b2]; exact List.mem_map_of_mem hp)
        exact ⟨this.1, fun m hm => this.2 m hm⟩
      · have rv : RV (Bf B0 p42 σ) H1 (.list ((sortC ns).map fun l => .tuple (l.map .int))) Q := fun v H2 hs dn2 => q v H2 (ex.trans (Ex.ofSame ex.rel hs)) dn2
        have es : L'.map (·.2) = sortC ns := sortC_is c4 (List.pairwise_map.mpr (pw.imp fun h => by rw [cod_code, cod_code]; exact h)) (by rw [← b2]; exact pm.map _)
        rw [← es] at rv
        exact rv.newL ex.rel.trkB (dn_tups fun q hq => (b3 q (pm.mem_iff.mp hq)).1) p hn
    | _ => cases h2
end
end Sb

set_option Elab.async false
set_option linter.all false
set_option maxRecDepth 100000
set_option maxHeartbeats 4000000
/-! SbW: set(xs) of a list of ints, as a set that can be walked. -/
namespace Sb
open PySem PySem.Spec PyProof.Rows L2
/-- a new set -/
abbrev emptySet (w : World) : Obj := { cls := .type "set", dict := none, data := .set #[] 0 (.fresh 0 0 (!w.params.followText "set-order")) }
section
variable {P : Program} {w : World} {A : Around} {E : Value → Shared → Prop} {s : Shared}
theorem set_of_ints {l : Addr} {xs : Array Value} (ns : List Int) {Q : Value → Shared → Prop} (nh : A.handled = none) (isl : s.heap.IsList l xs) (itz : IntsAre xs.toList ns) (few : ns.length + 1 < scanBound)
    (fin : ∀ (g : Heap) (tk c : Nat), SetR w g s.heap.objs.size (fun j => decide (j ∈ ns)) c → c ≤ ns.length → (∀ b o, s.heap.get? b = some o → g.get? b = some o) → Q (.ref s.heap.objs.size) { s with heap := g, toks := tk }) :
    wpAny (model P w) A (call (.type "set") [.ref l]) Q E s := by
  have lx : xs.size = ns.length := by
    have z := IntsAre.length itz
    rwa [Array.length_toList] at z
  obtain ⟨c0, t0, mr⟩ := F.called_set.mro
  have md := F.called_set.made
  have sb := F.called_set.sub
  have nt := F.called_set.notType
  have cc := F.called_set.canCreate
  have tc := F.typeCall_set_1 (.ref l)
  refine wpAny_call (codeAny_of_tree (?_ : wpAny _ _ (callAny (.type "set") _) _ _ _))
  refine wpAny_pure ⟨Code.quiet_builtin _ (by decide +kernel), codeAny_builtin F.entry_type_call ?go⟩
  rw [show A.under (.builtin "type.__call__" ⟨[.type "set", .ref l], []⟩) = A.in1 from Around.under_plain (weight_type_call_type "set" [.ref l] []) rfl]
  (repeat (any_goals (first | assumption | wp_step)))
  refine codeAny_mono (code_set_led1 (.ref l) (E := E) (Q₁ := fun v t => v = .ref s.heap.objs.size ∧ t = { s with heap := s.heap.push (emptySet w) }) ⟨rfl, rfl⟩) fun r0 s0 hr0 => ?_
  obtain ⟨er, rfl⟩ | ⟨v, rfl, hr0⟩ : (∃ e, r0 = .error e) ∨ (∃ v, r0 = .ok (.ret v) ∧ (v = .ref s.heap.objs.size ∧ s0 = { s with heap := s.heap.push (emptySet w) })) := by
    cases r0 with
    | error e => exact .inl ⟨e, rfl⟩
    | ok fl =>
      cases fl with
      | ret v => exact .inr ⟨v, rfl, hr0⟩
      | _ => exact hr0.elim
  · exact hr0
  obtain ⟨rfl, rfl⟩ := hr0
  have at0 : (s.heap.push (emptySet w)).get? s.heap.objs.size = some (emptySet w) := Heap.get?_push_size _ rfl
  have ty0 : Shared.TypeIs { s with heap := s.heap.push (emptySet w) } (.ref s.heap.objs.size) "set" := ⟨_, at0, rfl⟩
  have ini := F.called_set.init.lookup
  have bnd := F.called_set.init.bind (.ref s.heap.objs.size)
  (repeat (any_goals (first | assumption | wp_step)))
  refine codeAny_mono (codeAny_call_builtin (R := wants (fun v t => v = .none ∧ ∃ g tk c, t = { s with heap := g, toks := tk } ∧ SetR w g s.heap.objs.size (fun j => decide (j ∈ ns)) c ∧ c ≤ ns.length ∧ ∀ b o, s.heap.get? b = some o → g.get? b = some o) E) F.called_set.init.plain F.entry_set_init (check_set_init_1 ty0 ?_)) fun r1 s1 hr1 => ?_
  · obtain ⟨⟨k1, k2, k3, k4⟩, got, rfl, cnt, rfl⟩ := isl
    have got1 : (s.heap.push (emptySet w)).get? l = some { cls := .type "list", dict := k2, data := .seq xs cnt, slots := k4 } := Heap.get?_push_of_some _ got
    have u1 := F.sub_list_set
    have u2 := F.sub_list_frozenset
    have u3 : (Value.type "list" == Value.type "dict") = false := by decide
    have isl1 : (s.heap.push (emptySet w)).IsList l xs := ⟨_, got1, rfl, cnt, rfl⟩
    unfold Builtin.«set.__init__» noKeywords Builtin.Frozenset.updateFrom
    generalize gi : pyIter = pit
    wp_walk
    subst gi
    refine wpAny_pyIter_list isl1 (wpAny_bind (wpAny_runValue ?_))
    have lt0 : l < s.heap.objs.size := Heap.lt_size got
    have sz1 : (s.heap.push (emptySet w)).objs.size = s.heap.objs.size + 1 := Heap.size_push ..
    have nh3 : A.in1.in1.in1.handled = none := by simp [nh]
    refine set_update_ints ((Walks.list nh3 _ l (by rw [sz1]; exact Nat.ne_of_lt (Nat.lt_succ_of_lt lt0)) xs).toS) s.heap.objs.size (by rw [sz1]; simp only [List.mem_cons, List.not_mem_nil, or_false, not_or]; exact ⟨Nat.ne_of_lt (Nat.lt_succ_self _), Nat.ne_of_gt lt0⟩) ns lx few (fun i v hv => ?val) (xs.size - 0) 0 _ (by omega) (Nat.zero_le _) ⟨⟨_, Heap.get?_push_size _ rfl, rfl, rfl⟩, (isl1.push _)⟩ ⟨0, Nat.le_refl 0, setR_new_at (Heap.get?_push_of_some _ at0)⟩ ?out
    case val =>
      have hi : i < ns.length := by rw [← lx]; exact (Array.getElem?_eq_some_iff.mp hv).1
      obtain ⟨tk, q⟩ := PyProof.Rows.IntsAre.int_at itz i v (by rw [Array.getElem?_toList]; exact hv)
      exact ⟨ns[i], tk, List.getElem?_eq_getElem hi, by rw [q, List.getD_eq_getElem?_getD, List.getElem?_eq_getElem hi] <;> rfl⟩
    case out =>
      rintro ⟨g, q1, q2, tk, q3⟩ c mv hc hS
      obtain rfl : q1 = s.gens := mv.gens
      obtain rfl : q2 = s.drawn := mv.drawn
      obtain rfl : q3 = s.os := mv.os
      show wpAny _ _ _ _ _ _
      refine wpAny_pure (?_ : wpAny _ _ (ret Value.none) _ _ _)
      refine wpAny_pure ⟨rfl, g, tk, c, rfl, hS, by omega, fun b o e => ?_⟩
      have lb : b < s.heap.objs.size := Heap.lt_size e
      exact mv.heap b o (by rw [sz1]; simp only [List.mem_cons, List.not_mem_nil, or_false, not_or]; exact ⟨Nat.ne_of_lt lb, Nat.ne_of_lt (Nat.lt_succ_of_lt lb)⟩) (Heap.get?_push_of_some _ (Heap.get?_push_of_some _ e))
  · cases r1 with
    | error e => exact hr1
    | ok fl =>
      cases fl with
      | ret v =>
        obtain ⟨rfl, g, tk, c, rfl, hS, hc, hk⟩ := hr1
        (repeat (any_goals (first | assumption | wp_step)))
        exact fin _ _ _ hS hc hk
      | _ => exact hr1.elim
end
end Sb

set_option Elab.async false
set_option linter.all false
set_option maxRecDepth 100000
set_option maxHeartbeats 4000000
/-! SbY: sorted(set(x)), x[::-1]. -/
namespace Sb
open PySem PySem.Spec PyProof.Rows L2
theorem ins_mem {x y : Int} : ∀ {l : List Int}, y ∈ ins x l ↔ y = x ∨ y ∈ l
  | [] => by simp [ins]
  | z :: l => by
    unfold ins
    split
    · simp
    · simp only [List.mem_cons, ins_mem (l := l)]
      constructor
      · rintro (h | h | h)
        · exact .inr (.inl h)
        · exact .inl h
        · exact .inr (.inr h)
      · rintro (h | h | h)
        · exact .inr (.inl h)
        · exact .inl h
        · exact .inr (.inr h)
theorem ins_lt {x : Int} : ∀ {l : List Int}, l.Pairwise (· < ·) -> x ∉ l -> (ins x l).Pairwise (· < ·)
  | [], _, _ => by simp [ins]
  | z :: l, h, hx => by
    obtain ⟨h1, h2⟩ := List.pairwise_cons.mp h
    have hz : x ≠ z := fun e => hx (by simp [e])
    unfold ins
    split
    · refine List.pairwise_cons.mpr ⟨fun y hy => ?_, h⟩
      rcases List.mem_cons.mp hy with e | e
      · omega
      · have := h1 y e; omega
    · refine List.pairwise_cons.mpr ⟨fun y hy => ?_, ins_lt h2 fun q => hx (List.mem_cons_of_mem _ q)⟩
      rcases ins_mem.mp hy with e | e
      · omega
      · exact h1 y e
theorem sortI_mem {y : Int} : ∀ {l : List Int}, y ∈ sortI l ↔ y ∈ l
  | [] => by simp [sortI]
  | x :: l => by
    unfold sortI
    rw [ins_mem, sortI_mem (l := l), List.mem_cons]
theorem sortI_lt : ∀ {l : List Int}, l.Nodup -> (sortI l).Pairwise (· < ·)
  | [], _ => by simp [sortI]
  | x :: l, h => by
    obtain ⟨h1, h2⟩ := List.nodup_cons.mp h
    unfold sortI
    exact ins_lt (sortI_lt h2) fun q => h1 (sortI_mem.mp q)
theorem lt_unique : ∀ {l m : List Int}, l.Pairwise (· < ·) -> m.Pairwise (· < ·) -> (∀ k, k ∈ l ↔ k ∈ m) -> l = m
  | [], [], _, _, _ => rfl
  | [], y :: m, _, _, h => absurd ((h y).mpr (by simp)) (by simp)
  | x :: l, [], _, _, h => absurd ((h x).mp (by simp)) (by simp)
  | x :: l, y :: m, hl, hm, h => by
    obtain ⟨l1, l2⟩ := List.pairwise_cons.mp hl
    obtain ⟨m1, m2⟩ := List.pairwise_cons.mp hm
    have e : x = y := by
      rcases List.mem_cons.mp ((h x).mp (by simp)) with q | q
      · exact q
      · rcases List.mem_cons.mp ((h y).mpr (by simp)) with r | r
        · exact r.symm
        · have := m1 x q
          have := l1 y r
          omega
    subst e
    rw [lt_unique l2 m2 fun k => ⟨fun q => ?_, fun q => ?_⟩]
    · rcases List.mem_cons.mp ((h k).mp (List.mem_cons_of_mem _ q)) with r | r
      · have := l1 k q; omega
      · exact r
    · rcases List.mem_cons.mp ((h k).mpr (List.mem_cons_of_mem _ q)) with r | r
      · have := m1 k q; omega
      · exact r
section
variable {X : Cx} {pos : Pos} {pa : Expr} {a : E}
def tSortSetD (ta : TE) : TE := fun σ H Q => ta σ H fun x H1 => ∃ (l : Addr) (ns : List Int), x = .ref l ∧ Rd H1 l (.tup (ns.map V.int)) ∧ ns.length ≤ 60 ∧
  ∀ (ns' : List Int) (p : Addr), ns'.Pairwise (· < ·) → (∀ k : Int, k ∈ ns' ↔ k ∈ ns) → H1 p = none → Q (.ref p) (upd H1 p (.lst (ns'.map V.int)))
theorem pe_sortSetD {a : Expr} {ta : TE} {p p2 q pos : Pos} (hg : Gl X "sorted") (hm : X.mg "sorted" = none) (hg2 : Gl X "set") (hm2 : X.mg "set" = none) (ha : PE X a ta) (hc : X.calm = true)
    (na : starEach [a] X.env = (false, eval a X.env) :: starEach [] X.env) : PE X (.Call (.Name "sorted" p) [.Call (.Name "set" p2) [a] [] q] [] pos) (tSortSetD ta) := by
  refine ⟨fun pins s σ H Q I h => ?_⟩
  refine Call_ (ld_blt I hg hm boot_sorted ?_)
  refine PyProof.Rows.callWith_builtin1 (PyProof.Rows.args_cons ?_ rfl) rfl rfl
  refine Call_ (ld_blt I hg2 hm2 boot_set ?_)
  refine PyProof.Rows.callWith_type1 (PyProof.Rows.args_cons (thn (ha.run pins s σ H _ I h) fun v s1 ⟨x, H1, I1, r1, q1⟩ => PyProof.Rows.args_nil ?_) na) na rfl
  obtain ⟨l, ns, rfl, hq, hl, q1⟩ := q1
  cases r1
  obtain ⟨its, r, pl, hz⟩ := I1.tuple (xs := ns.map V.int) (.inl hq)
  refine call_set_tupI ns (I1.ok.hd hc) pl (by simpa using Vals.ints r) (by unfold scanBound; omega) fun h' tk c hS hcn hk => ?_
  refine PyProof.Rows.args_nil ?_
  have I2 : Inv X pins σ H1 { s1 with heap := h', toks := tk } := I1.kept hk
  refine sorted_set hS (I2.ok.hd hc) (by omega) fun s' p out c2 ns' k g o hp hg hi hs hm hl2 => ?_
  have hlen : (ns'.map V.int).length ≤ sizeLine := by rw [List.length_map, hl2, sizeLine_eq]; omega
  have hn : H1 p = none := I2.hok.fresh hp
  have J : Inv X pins σ (upd H1 p (.lst (ns'.map V.int))) { ({ s1 with heap := h', toks := tk } : Shared) with heap := s'.heap, gens := s'.gens, drawn := s'.drawn, toks := s'.toks } :=
    I2.call (ch := []) (Un.laid k hp hn) (I2.hok.laid k hp ⟨hlen, out.toList, c2, vals_of_ints hi, hg⟩) (by rw [g]; exact I2.bare) (fun _ z => nomatch z)
  have e : s' = { ({ s1 with heap := h', toks := tk } : Shared) with heap := s'.heap, gens := s'.gens, drawn := s'.drawn, toks := s'.toks } := by
    cases s'
    cases s1
    cases o
    rfl
  rw [e]
  exact ⟨.ref p, _, J, rfl, q1 ns' p hs (fun k => by rw [hm k]; simp) hn⟩
def tSortSetL (ta : TE) : TE := fun σ H Q => ta σ H fun x H1 => ∃ (l : Addr) (ns : List Int), x = .ref l ∧ Rd H1 l (.lst (ns.map V.int)) ∧ ns.length ≤ 60 ∧
  ∀ (ns' : List Int) (p : Addr), ns'.Pairwise (· < ·) → (∀ k : Int, k ∈ ns' ↔ k ∈ ns) → H1 p = none → Q (.ref p) (upd H1 p (.lst (ns'.map V.int)))
theorem pe_sortSetL {a : Expr} {ta : TE} {p p2 q pos : Pos} (hg : Gl X "sorted") (hm : X.mg "sorted" = none) (hg2 : Gl X "set") (hm2 : X.mg "set" = none) (ha : PE X a ta) (hc : X.calm = true)
    (na : starEach [a] X.env = (false, eval a X.env) :: starEach [] X.env) : PE X (.Call (.Name "sorted" p) [.Call (.Name "set" p2) [a] [] q] [] pos) (tSortSetL ta) := by
  refine ⟨fun pins s σ H Q I h => ?_⟩
  refine Call_ (ld_blt I hg hm boot_sorted ?_)
  refine PyProof.Rows.callWith_builtin1 (PyProof.Rows.args_cons ?_ rfl) rfl rfl
  refine Call_ (ld_blt I hg2 hm2 boot_set ?_)
  refine PyProof.Rows.callWith_type1 (PyProof.Rows.args_cons (thn (ha.run pins s σ H _ I h) fun v s1 ⟨x, H1, I1, r1, q1⟩ => PyProof.Rows.args_nil ?_) na) na rfl
  obtain ⟨l, ns, rfl, hq, hl, q1⟩ := q1
  cases r1
  obtain ⟨its, r, pl, hz⟩ := I1.list (xs := ns.map V.int) (.inl hq)
  refine set_of_ints ns (I1.ok.hd hc) pl.isList (by simpa using Vals.ints r) (by unfold scanBound; omega) fun h' tk c hS hcn hk => ?_
  refine PyProof.Rows.args_nil ?_
  have I2 : Inv X pins σ H1 { s1 with heap := h', toks := tk } := I1.kept hk
  refine sorted_set hS (I2.ok.hd hc) (by omega) fun s' p out c2 ns' k g o hp hg hi hs hm hl2 => ?_
  have hlen : (ns'.map V.int).length ≤ sizeLine := by rw [List.length_map, hl2, sizeLine_eq]; omega
  have hn : H1 p = none := I2.hok.fresh hp
  have J : Inv X pins σ (upd H1 p (.lst (ns'.map V.int))) { ({ s1 with heap := h', toks := tk } : Shared) with heap := s'.heap, gens := s'.gens, drawn := s'.drawn, toks := s'.toks } :=
    I2.call (ch := []) (Un.laid k hp hn) (I2.hok.laid k hp ⟨hlen, out.toList, c2, vals_of_ints hi, hg⟩) (by rw [g]; exact I2.bare) (fun _ z => nomatch z)
  have e : s' = { ({ s1 with heap := h', toks := tk } : Shared) with heap := s'.heap, gens := s'.gens, drawn := s'.drawn, toks := s'.toks } := by
    cases s'
    cases s1
    cases o
    rfl
  rw [e]
  exact ⟨.ref p, _, J, rfl, q1 ns' p hs (fun k => by rw [hm k]; simp) hn⟩
theorem sortset_inv {d0 d : D} (h : primD .sortset [d0] = .ok d) : ∃ l ns, d0 = .tuple l ∧ intsD l = some ns ∧ ns.length ≤ 60 ∧ d = .list ((sortI (dedup ns)).map .int) := by
  cases d0 with
  | tuple l =>
    obtain ⟨ns, h1, h⟩ := bnd_inv (show (ofO (intsD l)).bnd _ = _ from h)
    obtain ⟨h2, h⟩ := chk_inv h
    cases h
    exact ⟨l, ns, rfl, ofO_inv h1, of_decide_eq_true h2, rfl⟩
  | _ => cases h
theorem dn_ints {B : Addr -> Prop} {H : Hp} : ∀ ns : List Int, DnL B H (ns.map V.int) (ns.map PyData.int)
  | [] => .nil
  | n :: ns => .cons (.int _) (dn_ints ns)
theorem k_sorts {p2 p3 p4 : Pos} (hg : Gl X "sorted") (hm : X.mg "sorted" = none) (hg2 : Gl X "set") (hm2 : X.mg "set" = none) (ha : PE X pa (tE a)) (hc : X.calm = true) (hp : plainX pa = true) :
    PE X (.Call (.Name "sorted" p2) [.Call (.Name "set" p3) [pa] [] p4] [] pos) (tE (.op .sorts [a])) :=
  PE.of (pe_sortSetD hg hm hg2 hm2 ha hc (star_plain hp [] X.env)) fun σ H Q ⟨B0, r, d, r1, rel, hden, q⟩ => by
    obtain ⟨p3, h3, hden⟩ := bnd_inv hden
    obtain ⟨x, h2, hden⟩ := bnd_inv hden
    cases hden
    obtain ⟨p4, h4, h3⟩ := bnd_inv h3
    cases h3
    refine ⟨B0, r, p4.1, p4.2, rel, h4, fun v H1 ex dn => ?_⟩
    obtain ⟨l, ns, e1, e2, e3, rfl⟩ := sortset_inv h2
    rw [e1] at dn
    obtain ⟨y, ys, rfl, a1, a2, a3⟩ := ref_tup dn
    have e := a3.intsV e2
    subst e
    refine ⟨y, ns, rfl, a1.rd, e3, fun ns' p hs hmem hn => ?_⟩
    have en : ns' = sortI (dedup ns) := lt_unique hs (sortI_lt (dedup_nodup ns)) fun k => by rw [hmem k, sortI_mem, dedup_mem]
    subst en
    have rv : RV (Bf B0 p4.2 σ) H1 (.list ((sortI (dedup ns)).map .int)) Q := fun v H2 hs dn2 => q v H2 (ex.trans (Ex.ofSame ex.rel hs)) dn2
    exact rv.newL ex.rel.trkB (dn_ints _) p hn
theorem k_rev {p1 p2 p3 : Pos} {k : Nat} (ha : PE X pa (tE a)) : PE X (.Subscript pa (.Slice none none (some (.UnaryOp .USub (.Constant (.int 1) k p1) p2)) p3) pos) (tE (.op .rev [a])) :=
  PE.of (pe_revL ha) fun σ H Q ⟨B0, r, d, r1, rel, hden, q⟩ => by
    obtain ⟨p3, h3, hden⟩ := bnd_inv hden
    obtain ⟨x, h2, hden⟩ := bnd_inv hden
    cases hden
    obtain ⟨p4, h4, h3⟩ := bnd_inv h3
    cases h3
    refine ⟨B0, r, p4.1, p4.2, rel, h4, fun v H1 ex dn => ?_⟩
    obtain ⟨p41, p42⟩ := p4
    cases p41 with
    | list l =>
      cases h2
      obtain ⟨y, ys, rfl, a1, a2, a3⟩ := ref_lst dn
      refine ⟨y, ys, rfl, .inl a1, fun p hn => ?_⟩
      have rv : RV (Bf B0 p42 σ) H1 (.list l.reverse) Q := fun v H2 hs dn2 => q v H2 (ex.trans (Ex.ofSame ex.rel hs)) dn2
      exact rv.newL ex.rel.trkB a3.rev p hn
    | _ => cases h2
end
section
variable {X : Cx} {pos : Pos} {pa : Expr} {a : E}
theorem strsV {B : Addr -> Prop} {H : Hp} : ∀ {vs : List V} {ds : List D} {ns : List Str}, DnL B H vs ds -> strsD ds = some ns -> vs = ns.map V.str
  | _, _, ns, .nil, h => by cases h; rfl
  | _, _, ns, .cons (d := d) (ds := ds) h1 h2, h => by
    cases d with
    | str i =>
      cases q : strsD ds with
      | none => unfold strsD at h; rw [q] at h; cases h
      | some ms =>
        unfold strsD at h
        rw [q] at h
        cases h
        cases h1
        rw [strsV h2 q]
        rfl
    | _ => unfold strsD at h; cases h
theorem dn_strs {B : Addr -> Prop} {H : Hp} : ∀ ns : List Str, DnL B H (ns.map V.str) (ns.map PyData.str)
  | [] => .nil
  | n :: ns => .cons (.str _) (dn_strs ns)
/-- one argument, any rule on data -/
theorem op_one {o : Op} {pe : Expr} {tr : TE -> TE} (h : PE X pe (tr (tE a))) (w : ∀ (B0 : Addr -> Prop) (r r1 : En) (d0 d : D) (σ : L2.St) (H : Hp) (Q : VK), Rel B0 r σ H -> den a r = .ok (d0, r1) -> opD o [d0] = .ok d -> (∀ v H1, Ex B0 r r1 σ H H1 -> Dn (Bf B0 r1 σ) H1 v d -> Q v H1) -> tr (tE a) σ H Q) : PE X pe (tE (.op o [a])) :=
  PE.of h fun σ H Q ⟨B0, r, d, r1, rel, hden, q⟩ => by
    obtain ⟨p3, h3, hden⟩ := bnd_inv hden
    obtain ⟨x, h2, hden⟩ := bnd_inv hden
    cases hden
    obtain ⟨p4, h4, h3⟩ := bnd_inv h3
    cases h3
    obtain ⟨d0, r4⟩ := p4
    exact w B0 r _ d0 _ σ H Q rel h4 h2 q
theorem k_sortsl {p2 p3 p4 : Pos} (hg : Gl X "sorted") (hm : X.mg "sorted" = none) (hg2 : Gl X "set") (hm2 : X.mg "set" = none) (ha : PE X pa (tE a)) (hc : X.calm = true) (hp : plainX pa = true) :
    PE X (.Call (.Name "sorted" p2) [.Call (.Name "set" p3) [pa] [] p4] [] pos) (tE (.op .sortsl [a])) :=
  op_one (pe_sortSetL hg hm hg2 hm2 ha hc (star_plain hp [] X.env)) fun B0 r r1 d0 d σ H Q rel h4 h2 q => by
    refine ⟨B0, r, d0, r1, rel, h4, fun v H1 ex dn => ?_⟩
    cases d0 with
    | list l =>
      obtain ⟨ns, e2, h2⟩ := bnd_inv (show (ofO (intsD l)).bnd _ = _ from h2)
      obtain ⟨e3, h2⟩ := chk_inv h2
      cases h2
      obtain ⟨y, ys, rfl, a1, a2, a3⟩ := ref_lst dn
      have e := a3.intsV (ofO_inv e2)
      subst e
      refine ⟨y, ns, rfl, a1, of_decide_eq_true e3, fun ns' p hs hmem hn => ?_⟩
      have en : ns' = sortI (dedup ns) := lt_unique hs (sortI_lt (dedup_nodup ns)) fun k => by rw [hmem k, sortI_mem, dedup_mem]
      subst en
      have rv : RV (Bf B0 r1 σ) H1 (.list ((sortI (dedup ns)).map .int)) Q := fun v H2 hs dn2 => q v H2 (ex.trans (Ex.ofSame ex.rel hs)) dn2
      exact rv.newL ex.rel.trkB (dn_ints _) p hn
    | _ => cases h2
theorem k_str1 {p2 : Pos} (hg : Gl X "str") (hm : X.mg "str" = none) (ha : PE X pa (tE a)) (hp : plainX pa = true) : PE X (.Call (.Name "str" p2) [pa] [] pos) (tE (.op .str1 [a])) :=
  op_one (tr := fun t => tCB _ (tCons t tNil)) (pe_callTy call_str_int hg hm (by decide +kernel) (pa_cons ha pa_nil (star_plain hp [] X.env)) (by decide) (by decide) (star_plain hp [] X.env) rfl) fun B0 r r1 d0 d σ H Q rel h4 h2 q => by
    refine ⟨B0, r, d0, r1, rel, h4, fun v H1 ex dn => ?_⟩
    cases d0 with
    | int i =>
      obtain ⟨e3, h2⟩ := chk_inv h2
      cases h2
      cases dn
      refine ⟨i, rfl, ?_, q _ H1 ex (.str _)⟩
      have := ab_le e3
      have h5 : i.natAbs < 2 ^ 20 := by omega
      by_cases hz : i.natAbs = 0
      · rw [hz]; decide
      · have := (Nat.log2_lt hz).mpr h5
        omega
    | _ => cases h2
theorem k_join {sep : Str} {j : Nat} {p2 ap : Pos} (ha : PE X pa (tE a)) (hp : plainX pa = true) (hl : (ap.endLine == pos.line) = true) : PE X (.Call (.Attribute (.Constant (.str sep) j p2) "join" ap) [pa] [] pos) (tE (.op (.join sep) [a])) :=
  op_one (tr := fun t => tM1 _ (L2.tC (.str sep)) t) (pe_m1 PySem.F.slot_str_join PySem.F.type_str_join mt_join pe_str ha (star_plain hp [] X.env) rfl hl) fun B0 r r1 d0 d σ H Q rel h4 h2 q => by
    refine ⟨⟨sep, rfl⟩, B0, r, d0, r1, rel, h4, fun v H1 ex dn => ?_⟩
    cases d0 with
    | list l =>
      obtain ⟨ns, e2, h2⟩ := bnd_inv (show (ofO (strsD l)).bnd _ = _ from h2)
      obtain ⟨e3, h2⟩ := chk_inv h2
      cases h2
      obtain ⟨y, ys, rfl, a1, a2, a3⟩ := ref_lst dn
      have e := strsV a3 (ofO_inv e2)
      subst e
      exact ⟨sep, y, ns, rfl, rfl, .inl (.inl a1), of_decide_eq_true e3, q _ H1 ex (.str _)⟩
    | _ => cases h2
theorem k_split {sep : Str} {j : Nat} {p2 ap : Pos} (ha : PE X pa (tE a)) (h0 : noCall0 pa = true) (hl : (ap.endLine == pos.line) = true) : PE X (.Call (.Attribute pa "split" ap) [.Constant (.str sep) j p2] [] pos) (tE (.op (.split sep) [a])) :=
  op_one (tr := fun t => tM1 _ t (L2.tC (.str sep))) (pe_m1 PySem.F.slot_str_split PySem.F.type_str_split mt_split ha pe_str rfl (base_plain h0 _ _ _) hl) fun B0 r r1 d0 d σ H Q rel h4 h2 q => by
    refine ⟨B0, r, d0, r1, rel, h4, fun v H1 ex dn => ?_⟩
    cases d0 with
    | str z =>
      obtain ⟨e3, h2⟩ := chk_inv h2
      cases h2
      cases dn
      simp only [Bool.and_eq_true, Bool.not_eq_true'] at e3
      refine ⟨⟨z, rfl⟩, z, sep, rfl, rfl, e3.1, small_ok e3.2, fun p hn => ?_⟩
      have rv : RV (Bf B0 r1 σ) H1 (.list ((Txt.split z sep).map .str)) Q := fun v H2 hs dn2 => q v H2 (ex.trans (Ex.ofSame ex.rel hs)) dn2
      exact rv.newL ex.rel.trkB (dn_strs _) p hn
    | _ => cases h2
end
section
variable {X : Cx} {pos : Pos} {pa : Expr} {a : E}
/-- list(text) -/
theorem call_listS (hc : X.calm = true) : CallR X (.type "list") (r1 fun x H Q => ∃ z, x = .str z ∧ z.length ≤ sizeLine ∧ ∀ q, H q = none → Q (.ref q) (upd H q (.lst ((PyProof.Rows.signs z).map V.str)))) :=
  call_r1 fun pins s σ H x v Q I r h => by
    obtain ⟨z, rfl, hz, q⟩ := h
    obtain ⟨t, rfl⟩ := r
    refine call_list_str (I.ok.hd hc) z t (hn := hz) fun h' tk acc c' hk e hi => ?_
    refine ⟨.ref s.heap.objs.size, upd H s.heap.objs.size (.lst ((PyProof.Rows.signs z).map V.str)), I.laid hk (Nat.le_refl _) ⟨by rw [List.length_map]; simp only [PyProof.Rows.signs, List.length_map]; exact hz, acc.toList, c', ?_, by rw [Array.toArray_toList]; exact e⟩, rfl, q _ (I.hok.fresh (Nat.le_refl _))⟩
    refine vals_of_idx _ _ (by simp [PyProof.Rows.signs, hi.1]) fun j u hj => ?_
    obtain ⟨c, t', hc, rfl⟩ := hi.2 j u (by rw [← Array.getElem?_toList]; exact hj)
    exact ⟨.str ⟨#[c]⟩, by simp [PyProof.Rows.signs, hc], ⟨_, rfl⟩⟩
theorem k_chars {p2 : Pos} (hc : X.calm = true) (hg : Gl X "list") (hm : X.mg "list" = none) (ha : PE X pa (tE a)) (hp : plainX pa = true) : PE X (.Call (.Name "list" p2) [pa] [] pos) (tE (.op .chars [a])) :=
  op_one (tr := fun t => tCB _ (tCons t tNil)) (pe_callTy (call_listS hc) hg hm (by decide +kernel) (pa_cons ha pa_nil (star_plain hp [] X.env)) (by decide) (by decide) (star_plain hp [] X.env) rfl) fun B0 r r1 d0 d σ H Q rel h4 h2 q => by
    refine ⟨B0, r, d0, r1, rel, h4, fun v H1 ex dn => ?_⟩
    cases d0 with
    | str z =>
      obtain ⟨e3, h2⟩ := chk_inv h2
      cases h2
      cases dn
      refine ⟨z, rfl, small_ok e3, fun p hn => ?_⟩
      have rv : RV (Bf B0 r1 σ) H1 (.list ((PyProof.Rows.signs z).map .str)) Q := fun v H2 hs dn2 => q v H2 (ex.trans (Ex.ofSame ex.rel hs)) dn2
      exact rv.newL ex.rel.trkB (dn_strs _) p hn
    | _ => cases h2
end
/-- each part by itself -/
inductive PEs (X : Cx) : List Expr -> List E -> Prop where
  | nil : PEs X [] []
  | cons {pe : Expr} {e : E} {ps : List Expr} {l : List E} : PE X pe (tE e) -> plainX pe = true -> PEs X ps l -> PEs X (pe :: ps) (e :: l)
theorem k_op {X : Cx} {N : List Str} {sc : Scope} {sb : Str -> Bool} {k : Nat} (g : Gd X N sc sb k) {o : Op} {pe : Expr} {es : List Expr} {l : List E} (m : opM o sc pe = some es) (h : PEs X es l) : PE X pe (tE (.op o l)) := by
  cases o with
  | sorts =>
    unfold opM at m
    simp only at m
    split at m
    · split at m
      · rename_i e hc
        cases m
        simp only [Bool.and_eq_true, decide_eq_true_eq] at hc
        obtain ⟨⟨⟨rfl, rfl⟩, m1⟩, m2⟩ := hc
        cases h with
        | cons h1 hp h2 =>
          cases h2
          exact k_sorts (g.gl m1) (g.blt _ (by decide +kernel)) (g.gl m2) (g.blt _ (by decide +kernel)) h1 g.calm hp
      · cases m
    · cases m
  | rev =>
    unfold opM at m
    simp only at m
    split at m
    · cases m
      cases h with
      | cons h1 hp h2 =>
        cases h2
        exact k_rev h1
    · cases m
  | revt =>
    unfold opM at m
    simp only at m
    split at m
    · cases m
      cases h with
      | cons h1 hp h2 =>
        cases h2
        exact k_revt h1
    · cases m
  | sortt =>
    unfold opM at m
    simp only at m
    split at m
    · split at m
      · rename_i e hc
        cases m
        simp only [Bool.and_eq_true, decide_eq_true_eq] at hc
        obtain ⟨rfl, m1⟩ := hc
        cases h with
        | cons h1 hp h2 =>
          cases h2
          exact k_sortt (g.gl m1) (g.blt _ (by decide +kernel)) h1 hp
      · cases m
    · cases m
  | sortsl =>
    unfold opM at m
    simp only at m
    split at m
    · split at m
      · rename_i e hc
        cases m
        simp only [Bool.and_eq_true, decide_eq_true_eq] at hc
        obtain ⟨⟨⟨rfl, rfl⟩, m1⟩, m2⟩ := hc
        cases h with
        | cons h1 hp h2 =>
          cases h2
          exact k_sortsl (g.gl m1) (g.blt _ (by decide +kernel)) (g.gl m2) (g.blt _ (by decide +kernel)) h1 g.calm hp
      · cases m
    · cases m
  | str1 =>
    unfold opM at m
    simp only at m
    split at m
    · split at m
      · rename_i e hc
        cases m
        simp only [Bool.and_eq_true, decide_eq_true_eq] at hc
        obtain ⟨rfl, m1⟩ := hc
        cases h with
        | cons h1 hp h2 =>
          cases h2
          exact k_str1 (g.gl m1) (g.blt _ (by decide +kernel)) h1 hp
      · cases m
    · cases m
  | chars =>
    unfold opM at m
    simp only at m
    split at m
    · split at m
      · rename_i e hc
        cases m
        simp only [Bool.and_eq_true, decide_eq_true_eq] at hc
        obtain ⟨rfl, m1⟩ := hc
        cases h with
        | cons h1 hp h2 =>
          cases h2
          exact k_chars g.calm (g.gl m1) (g.blt _ (by decide +kernel)) h1 hp
      · cases m
    · cases m
  | repl y z =>
    unfold opM at m
    cases m
  | join sep =>
    unfold opM at m
    simp only at m
    split at m
    · split at m
      · rename_i e hc
        cases m
        simp only [Bool.and_eq_true, decide_eq_true_eq] at hc
        obtain ⟨⟨rfl, rfl⟩, m1⟩ := hc
        cases h with
        | cons h1 hp h2 =>
          cases h2
          exact k_join h1 hp m1
      · cases m
    · cases m
  | split sep =>
    unfold opM at m
    simp only at m
    split at m
    · split at m
      · rename_i e hc
        cases m
        simp only [Bool.and_eq_true, decide_eq_true_eq] at hc
        obtain ⟨⟨⟨rfl, rfl⟩, m1⟩, m2⟩ := hc
        cases h with
        | cons h1 hp h2 =>
          cases h2
          exact k_split h1 m2 m1
      · cases m
    · cases m
end Sb

set_option Elab.async false
set_option linter.all false
set_option maxRecDepth 100000
set_option maxHeartbeats 4000000
/-! SbZ: (f, g, ..)[i](..). -/
namespace Sb
open PySem PySem.Spec PyProof.Rows L2
def tFs (fas : List Addr) : TA := fun _ H Q => Q (fas.map V.ref) H
theorem fs_pa {X : Cx} {N : List Str} {sc : Scope} {sb : Str -> Bool} {k n : Nat} (g : Gd X N sc sb k) : ∀ {fs : List (Str × PF)} {es : List Expr}, fsM sc fs es = true -> (∀ f ∈ fs, Fok X.prog X.w X.K X.mg X.base k (.p f.1 n f.2)) ->
    ∃ fas : List Addr, fas.length = fs.length ∧ PA X es (tFs fas) ∧ ∀ (j : Nat) f, fs[j]? = some f -> ∃ fa fd ps, fas[j]? = some fa ∧ PySem.W.keepIn X.K (.ref fa) = true ∧ Binds X.K fd ps [] ∧ FnOk X.prog X.w X.K X.mg X.base CX0 k fa fd ps (spP n f.2)
  | [], es, h, _ => by
    unfold fsM at h
    split at h
    · exact ⟨[], rfl, pa_nil, fun j f e => by simp at e⟩
    · cases h
  | f :: fs, es, h, hF => by
    unfold fsM at h
    split at h
    · rename_i x px es
      simp only [Bool.and_eq_true, decide_eq_true_eq] at h
      obtain ⟨⟨⟨rfl, h1⟩, h2⟩, h3⟩ := h
      obtain ⟨fas, hl, hpa, hj⟩ := fs_pa g h3 fun z hz => hF z (List.mem_cons_of_mem _ hz)
      obtain ⟨fa, fd, ps, c1, c2, c3, c4⟩ := hF f List.mem_cons_self
      refine ⟨fa :: fas, by simp [hl], ?_, ?_⟩
      · exact pa_cons (te := L2.tC (.ref fa)) (t := tFs fas) (pe_glob (g.gl h1) c1 rfl (okN_d h2).1) hpa (star_plain (e := .Name f.1 px) rfl es X.env)
      · intro j z e
        cases j with
        | zero =>
          simp at e
          subst e
          exact ⟨fa, fd, ps, rfl, c2, c3, c4⟩
        | succ j => exact hj j z (by simpa using e)
    · cases h
theorem intK_dn {B : Addr -> Prop} {H : Hp} {v : V} {d : D} {k : Int} (h : intK d = some k) (dn : Dn B H v d) : v = .int k := by
  cases d <;> first | cases h | skip
  cases dn
  rfl
theorem k_callT {X : Cx} {N : List Str} {sc : Scope} {sb : Str -> Bool} {k : Nat} {pos p1 p2 : Pos} {x1 : Nat} {fx es : List Expr} {ie e : Expr} {fs : List (Str × PF)} {i : E} {l : List E} (g : Gd X N sc sb k) (m : fsM sc fs fx = true) (hF : ∀ f ∈ fs, Fok X.prog X.w X.K X.mg X.base k (.p f.1 l.length f.2))
    (hi : PE X ie (tE i)) (hix : PlainIx ie) (ha : PA X (e :: es) (tA l)) (hp : ∀ x ∈ e :: es, plainX x = true) (hfs : fs.length ≤ 1000) : PE X (.Call (.Subscript (.Tuple fx x1 p1) ie p2) (e :: es) [] pos) (tE (.callT fs i l)) := by
  obtain ⟨fas, hl, hpa, hj⟩ := fs_pa (n := l.length) g m hF
  refine ⟨fun pins s σ H Q I ⟨B0, r, d, r1, rel, hden, q⟩ => ?_⟩
  obtain ⟨q1, h1, hden⟩ := bnd_inv hden
  obtain ⟨kk, h2, hden⟩ := bnd_inv hden
  obtain ⟨f, h3, hden⟩ := bnd_inv hden
  obtain ⟨q2, h4, hden⟩ := bnd_inv hden
  obtain ⟨x, h5, hden⟩ := bnd_inv hden
  cases hden
  have h3 : (L2.ixN fs.length kk).bind (fun j => fs[j]?) = some f := ofO_inv h3
  obtain ⟨j2, qj, h3⟩ : ∃ j2, L2.ixN fs.length kk = some j2 ∧ fs[j2]? = some f := by
    cases q : L2.ixN fs.length kk with
    | none => rw [q] at h3; cases h3
    | some j2 => rw [q] at h3; exact ⟨j2, rfl, h3⟩
  obtain ⟨fa, fd, ps, c1, c2, c3, c4⟩ := hj j2 f h3
  have hfa : L2.atI (fas.map V.ref) kk = some (V.ref fa) := by
    unfold L2.atI
    rw [List.length_map, hl, qj]
    show (fas.map V.ref)[j2]? = _
    rw [List.getElem?_map, c1]
    rfl
  have hfun := pe_ix (pos := p2) (ix_tup (X := X)) (pe_tup (x1 := x1) (pos := p1) hpa) hi hix
  refine Call_ (thn (hfun.run pins s σ H (fun v H1 => v = .ref fa ∧ Ex B0 r q1.2 σ H H1) I ?pre) fun u s1 ⟨v, H1, I1, rv, ev, ex⟩ => ?_)
  case pre =>
    refine ⟨by rw [List.length_map, hl, sizeLine_eq]; omega, fun p hp => ?_⟩
    have ex0 := Ex.ofSame rel (same_new (o := .tup (fas.map V.ref)) hp)
    refine ⟨B0, r, q1.1, q1.2, ex0.rel, h1, fun w H2 ex2 dn2 => ?_⟩
    have ew := intK_dn (ofO_inv h2) dn2
    subst ew
    have nl : ¬ own r σ p := fun z => rel.ownB z hp
    have hl2 : H2 p = some (.tup (fas.map V.ref)) := ex2.go.keep _ _ nl upd_same
    exact ⟨p, _, kk, _, rfl, rfl, .inl (.inl hl2), hfa, rfl, ex0.trans ex2⟩
  subst ev
  cases rv
  refine PySem.W.callWith_K (h₀ := X.base) I.ok.mod.kin c2 (thn (ha.run pos pins s1 σ H1 (fun vs H2 => spP l.length f.2 vs H2 Q E0) I1 ?args) fun us s2 ⟨vs, H2, I2, rr, qq⟩ => ⟨I2.kIn, ?_⟩) (star_plain (hp e List.mem_cons_self) es X.env) (back_any pos X.env fun x hx => hp x (List.mem_cons_of_mem _ hx))
  case args =>
    refine ⟨B0, q1.2, q2.1, q2.2, ex.rel, h4, fun vs H2 ex2 dn => ?_⟩
    refine ⟨?_, _, q2.1, d, ex2.rel.trkB, dn, h5, fun z H3 hs dz => q z H3 ((ex.trans ex2).trans (Ex.ofSame ex2.rel hs)) dz⟩
    rw [dn.length]
    exact denL_len h4
  exact run_fn c4 g.room c3 .nil pass0 I2 rr (by rw [List.append_nil]; exact qq)
end Sb

set_option Elab.async false
set_option linter.all false
set_option maxRecDepth 100000
set_option maxHeartbeats 1000000
/-! SbNd: an own dict whose keys are (number, (numbers)). -/
namespace Sb
open PySem PySem.Spec PyProof.Rows L2
def nk (k : NKey) : NestedKey := .tup [.num k.1, .tup (k.2.map .num)]
theorem nums_inj : ∀ {a b : List Int}, a.map NestedKey.num = b.map NestedKey.num -> a = b
  | [], [], _ => rfl
  | [], _ :: _, e => by simp at e
  | _ :: _, [], e => by simp at e
  | x :: xs, y :: ys, e => by
    rw [List.map_cons, List.map_cons] at e
    injection e with e1 e2
    injection e1 with e1
    rw [e1, nums_inj e2]
theorem nk_inj {a b : NKey} (h : nk a = nk b) : a = b := by
  unfold nk at h
  injection h with h
  injection h with h1 h
  injection h with h2 _
  injection h1 with h1
  injection h2 with h2
  exact Prod.ext h1 (nums_inj h2)
theorem hashes_nums (w : World) : ∀ l : List Int, NestedKey.hashes w (l.map .num) = l.map hashInt
  | [] => rfl
  | x :: l => by
    rw [List.map_cons, List.map_cons, NestedKey.hashes, hashes_nums w l]
    rfl
theorem nk_hash (w : World) (k : NKey) : (nk k).hash w = hashN k := by
  unfold nk hashN
  rw [NestedKey.hash, NestedKey.hashes, NestedKey.hashes, NestedKey.hashes, NestedKey.hash, NestedKey.hash, hashes_nums]
theorem depth_nums : ∀ l : List Int, NestedKey.depthAll (l.map .num) = 0
  | [] => rfl
  | x :: l => by rw [List.map_cons, NestedKey.depthAll, depth_nums l]; rfl
theorem nk_depth (k : NKey) : (nk k).depth ≤ 8 := by
  unfold nk
  simp only [NestedKey.depth, NestedKey.depthAll, depth_nums]
  decide
section
variable {P : Program} {w : World} {B : Addr -> Prop} {H : Hp} {h : Heap}
theorem nums_all : ∀ {l : List Int} {xs : List V} {us : List Value}, DnL B H xs (l.map .int) -> Vals xs us -> NestedAll h (l.map .num) us
  | [], _, _, d, r => by cases d; cases r; exact .nil
  | i :: l, _, _, d, r => by
    rw [List.map_cons] at d
    cases d with
    | cons d1 d2 =>
      cases r with
      | cons r1 r2 =>
        cases d1
        obtain ⟨t, e⟩ := (show ∃ t, _ = Value.int i t from r1)
        subst e
        exact .cons (.int i t) (nums_all d2 r2)
theorem nd_is {a : Addr} {k : NKey} (ok : HOk P w H h) (d : Dn B H (.ref a) (ndD k)) : (nestedKind P w).is h (nk k) a := by
  refine ⟨?_, nk_depth k⟩
  unfold ndD at d
  obtain ⟨a', xs, e, ta, _, dl⟩ := ref_tup d
  cases e
  obtain ⟨_, its, r, o, h1, h2, n, h3⟩ := (show ObjOk P w H h a (.tup xs) from ta.rd.ok ok)
  refine .tup h1 h2 h3 ?_
  cases dl with
  | cons d1 dl =>
    cases dl with
    | cons d2 dl =>
      cases dl
      cases r with
      | cons r1 r =>
        cases r with
        | cons r2 r =>
          cases r
          cases d1
          obtain ⟨t, e⟩ := (show ∃ t, _ = Value.int k.1 t from r1)
          subst e
          obtain ⟨a2, xs2, e, ta2, _, dl2⟩ := ref_tup d2
          subst e
          cases (show _ = Value.ref a2 from r2)
          obtain ⟨_, its2, q, o2, g1, g2, n2, g3⟩ := (show ObjOk P w H h a2 (.tup xs2) from ta2.rd.ok ok)
          refine .cons (.int _ t) (.cons (.tup g1 g2 g3 ?_) .nil)
          exact nums_all dl2 (by simpa using q)
def nup (y : NKey × Addr × Value) : NestedKey × Addr × Value := (nk y.1, y.2)
abbrev NR (xs : List (NKey × Addr × V)) (ys : List (NKey × Addr × Value)) : Prop := Paired (fun (p : NKey × Addr × V) (q : NKey × Addr × Value) => p.1 = q.1 ∧ p.2.1 = q.2.1 ∧ RelV p.2.2 q.2.2) xs ys
theorem nd_all (ok : HOk P w H h) : ∀ {xs : List (NKey × Addr × V)} {ys : List (NKey × Addr × Value)} {kvs : List (NKey × D)}, NR xs ys -> NvOk B H xs kvs -> ∀ x ∈ ys.map nup, (nestedKind P w).is h x.1 x.2.1
  | _, _, _, .nil, _, x, hx => by cases hx
  | _, _, _, .cons r t, .cons d1 d2 dt, x, hx => by
    rcases List.mem_cons.mp hx with e | hx
    · subst e
      obtain ⟨r1, r2, _⟩ := r
      have z := nd_is (P := P) (w := w) ok d1
      dsimp only at r1 r2
      subst r1
      subst r2
      exact z
    · exact nd_all ok t dt x hx
theorem nd_dict {a : Addr} {xs : List (NKey × Addr × V)} {kvs : List (NKey × D)} (ok : HOk P w H h) (e : H a = some (.ext (NdP a xs))) (nv : NvOk B H xs kvs) :
    (a == sysModules) = false ∧ ∃ ys, NR xs ys ∧ h.DictOfH (nestedKind P w) a (ys.map nup) := by
  obtain ⟨⟨z, ys, r, o, es, ep, h1, h2, h3, h4, h5⟩, _, _⟩ := (show ObjOk P w H h a (.ext (NdP a xs)) from ok a _ e)
  refine ⟨z, ys, r, o, es, ep, h1, h2, h3, ?_, nd_all ok r nv, ?_⟩
  · rw [h4, List.map_map]
    refine List.map_congr_left fun y _ => ?_
    show _ = (⟨(nk y.1).hash w, .ref y.2.1, y.2.2⟩ : DictEntry)
    rw [nk_hash]
  · rw [List.map_map]
    have : (ys.map nup).map (·.1) = (ys.map (·.1)).map nk := by rw [List.map_map, List.map_map]; rfl
    rw [← List.map_map, this]
    exact List.Pairwise.map nk (fun a b n z => n (nk_inj z)) h5
theorem at_nup (k : NKey) : ∀ ys : List (NKey × Addr × Value), atKey (ys.map nup) (nk k) = atKey ys k
  | [] => rfl
  | y :: ys => by
    rw [List.map_cons]
    unfold atKey
    rw [List.find?_cons, List.find?_cons]
    by_cases e : y.1 = k
    · have e2 : (nup y).1 = nk k := by show nk y.1 = nk k; rw [e]
      rw [decide_eq_true e, decide_eq_true e2]
      rfl
    · have e2 : ¬ (nup y).1 = nk k := fun z => e (nk_inj z)
      rw [decide_eq_false e, decide_eq_false e2]
      exact at_nup k ys
theorem stored_nup (k : NKey) (b : Addr) (u : Value) (ys : List (NKey × Addr × Value)) : storedH (ys.map nup) (nk k) b u = (storedH ys k b u).map nup := by
  unfold storedH
  rw [at_nup]
  split
  · rw [List.map_map, List.map_map]
    refine List.map_congr_left fun y _ => ?_
    show putAt (nk k) u (nup y) = nup (putAt k u y)
    unfold putAt
    by_cases e : y.1 = k
    · have e2 : (nup y).1 = nk k := by show nk y.1 = nk k; rw [e]
      rw [if_pos e, if_pos e2]
      rfl
    · have e2 : ¬ (nup y).1 = nk k := fun z => e (nk_inj z)
      rw [if_neg e, if_neg e2]
  · rw [List.map_append]
    rfl
/-- the table of V's -/
def valN (k : NKey) : List (NKey × Addr × V) -> Option V
  | [] => none
  | p :: l => if p.1 = k then some p.2.2 else valN k l
def putV (k : NKey) (b : Addr) (v : V) (l : List (NKey × Addr × V)) : List (NKey × Addr × V) := if (valN k l).isSome = true then l.map (fun p => if p.1 = k then (p.1, p.2.1, v) else p) else l ++ [(k, b, v)]
theorem NR.val (k : NKey) : ∀ {xs : List (NKey × Addr × V)} {ys : List (NKey × Addr × Value)}, NR xs ys -> RelO (valN k xs) ((atKey ys k).map (·.2))
  | _, _, .nil => True.intro
  | p :: _, q :: qs, .cons r t => by
    obtain ⟨r1, _, r3⟩ := r
    unfold valN
    by_cases e : p.1 = k
    · have e' : q.1 = k := r1.symm.trans e
      have b : atKey (q :: qs) k = some q.2 := by simp [atKey, List.find?_cons, e']
      rw [if_pos e, b]; exact r3
    · have e' : ¬ q.1 = k := fun z => e (r1.trans z)
      have b : atKey (q :: qs) k = atKey qs k := by simp [atKey, List.find?_cons, e']
      rw [if_neg e, b]; exact NR.val k t
theorem NR.repl (k : NKey) {v : V} {u : Value} (rv : RelV v u) : ∀ {xs : List (NKey × Addr × V)} {ys : List (NKey × Addr × Value)}, NR xs ys -> NR (xs.map (fun p => if p.1 = k then (p.1, p.2.1, v) else p)) (ys.map (putAt k u))
  | _, _, .nil => .nil
  | p :: _, q :: qs, .cons r t => by
    rw [List.map_cons, List.map_cons]
    refine .cons ?_ (NR.repl k rv t)
    obtain ⟨r1, r2, r3⟩ := r
    unfold putAt
    by_cases e : p.1 = k
    · rw [if_pos e, if_pos (r1.symm.trans e)]; exact ⟨r1, r2, rv⟩
    · rw [if_neg e, if_neg (fun z => e (r1.trans z))]; exact ⟨r1, r2, r3⟩
theorem NR.put (k : NKey) (b : Addr) {v : V} {u : Value} (rv : RelV v u) {xs : List (NKey × Addr × V)} {ys : List (NKey × Addr × Value)} (r : NR xs ys) : NR (putV k b v xs) (storedH ys k b u) := by
  unfold putV storedH
  have e : (valN k xs).isSome = (atKey ys k).isSome := by rw [(r.val k).isSome_eq, Option.isSome_map]
  rw [e]
  split
  · exact r.repl k rv
  · exact Paired.snoc r ⟨rfl, rfl, rv⟩
theorem nv_get : ∀ {ks : List (NKey × Addr × V)} {kvs : List (NKey × D)} {k : NKey} {d : D}, NvOk B H ks kvs -> lookN k kvs = some d -> ∃ v, valN k ks = some v ∧ Dn B H v d
  | _, _, k, d, .nil, e => by cases e
  | _, _, k, d, .cons (k := k0) (v := v0) h1 h2 t, e => by
    unfold lookN at e
    unfold valN
    by_cases hk : k0 = k
    · rw [if_pos hk] at e ⊢
      cases e
      exact ⟨v0, rfl, h2⟩
    · rw [if_neg hk] at e ⊢
      exact nv_get t e
theorem nv_any {k : NKey} : ∀ {ks : List (NKey × Addr × V)} {kvs : List (NKey × D)}, NvOk B H ks kvs -> (kvs.any fun p => decide (p.1 = k)) = (valN k ks).isSome
  | _, _, .nil => rfl
  | _, _, .cons (k := k0) h1 h2 t => by
    rw [List.any_cons]
    unfold valN
    by_cases hk : k0 = k
    · rw [if_pos hk, decide_eq_true hk]; rfl
    · rw [if_neg hk, decide_eq_false hk, Bool.false_or]; exact nv_any t
theorem nv_repl {k : NKey} {v : V} {d : D} (dn : Dn B H v d) : ∀ {ks : List (NKey × Addr × V)} {kvs : List (NKey × D)}, NvOk B H ks kvs -> NvOk B H (ks.map (fun p => if p.1 = k then (p.1, p.2.1, v) else p)) (kvs.map (fun p => if p.1 = k then (p.1, d) else p))
  | _, _, .nil => .nil
  | _, _, .cons (k := k0) h1 h2 t => by
    rw [List.map_cons, List.map_cons]
    by_cases hk : k0 = k
    · rw [if_pos hk, if_pos hk]; exact .cons h1 dn (nv_repl dn t)
    · rw [if_neg hk, if_neg hk]; exact .cons h1 h2 (nv_repl dn t)
theorem nv_snoc {k : NKey} {b : Addr} {v : V} {d : D} (db : Dn B H (.ref b) (ndD k)) (dn : Dn B H v d) : ∀ {ks : List (NKey × Addr × V)} {kvs : List (NKey × D)}, NvOk B H ks kvs -> NvOk B H (ks ++ [(k, b, v)]) (kvs ++ [(k, d)])
  | _, _, .nil => .cons db dn .nil
  | _, _, .cons h1 h2 t => .cons h1 h2 (nv_snoc db dn t)
theorem nv_put {k : NKey} {b : Addr} {v : V} {d : D} {ks : List (NKey × Addr × V)} {kvs : List (NKey × D)} (db : Dn B H (.ref b) (ndD k)) (dn : Dn B H v d) (h : NvOk B H ks kvs) : NvOk B H (putV k b v ks) (Sb.putN k d kvs) := by
  unfold putV putN
  rw [nv_any h]
  split
  · exact nv_repl dn h
  · exact nv_snoc db dn h
theorem nv_len : ∀ {ks : List (NKey × Addr × V)} {kvs : List (NKey × D)}, NvOk B H ks kvs -> ks.length = kvs.length
  | _, _, .nil => rfl
  | _, _, .cons _ _ t => by rw [List.length_cons, List.length_cons, nv_len t]
theorem ndP_ok {a : Addr} {xs : List (NKey × Addr × V)} (p : NdP a xs h) : ObjOk P w H h a (.ext (NdP a xs)) := by
  refine ⟨p, ?_, fun h1 h2 q k => ?_⟩
  · obtain ⟨_, _, _, o, _, _, e, _⟩ := p
    exact ⟨o, e⟩
  · obtain ⟨z, ys, r, o, es, ep, e1, e2⟩ := q
    exact ⟨z, ys, r, o, es, ep, k o e1, e2⟩
theorem ndP_of {a : Addr} {xs : List (NKey × Addr × V)} {ys : List (NKey × Addr × Value)} (z : (a == sysModules) = false) (r : NR xs ys) (d : h.DictOfH (nestedKind P w) a (ys.map nup)) : NdP a xs h := by
  obtain ⟨o, es, ep, h1, h2, h3, h4, _, h5⟩ := d
  refine ⟨z, ys, r, o, es, ep, h1, h2, h3, ?_, ?_⟩
  · rw [h4, List.map_map]
    refine List.map_congr_left fun y _ => ?_
    show (⟨(nk y.1).hash w, .ref y.2.1, y.2.2⟩ : DictEntry) = _
    rw [nk_hash]
  · have e : (ys.map nup).map (·.1) = (ys.map (·.1)).map nk := by rw [List.map_map, List.map_map]; rfl
    rw [e] at h5
    exact List.Pairwise.of_map nk (fun a b n z => n (by rw [z])) h5
theorem ints_back : ∀ {l : List D} {ns : List Int}, intsD l = some ns -> l = ns.map .int
  | [], ns, h => by cases h; rfl
  | x :: l, ns, h => by
    cases x <;> first | cases h | skip
    rename_i i
    unfold intsD at h
    cases e : intsD l with
    | none => rw [e] at h; cases h
    | some m => rw [e] at h; cases h; rw [List.map_cons, ints_back e]
theorem nkeyD_is {d : D} {k : NKey} (h : nkeyD d = some k) : d = ndD k := by
  unfold nkeyD at h
  split at h
  · rename_i i l
    cases e : intsD l with
    | none => rw [e] at h; cases h
    | some m => rw [e] at h; cases h; unfold ndD; rw [ints_back e]
  · cases h
theorem nict_at {B0 : Addr -> Prop} {r : En} {σ : L2.St} {s : Nat} {t : List (NKey × D)} (rel : Rel B0 r σ H) (h : nictOf r s = .ok t) :
    ∃ p xs, σ[s]? = some (some (.ref p)) ∧ H p = some (.ext (NdP p xs)) ∧ NvOk (Bf B0 r σ) H xs t ∧ own r σ p ∧ ¬ B0 p := by
  unfold nictOf at h
  split at h
  · rename_i l e
    cases h
    obtain ⟨v, e1, p, xs, rfl, e2, e3, e4⟩ := rel.at' s _ e
    exact ⟨p, xs, e1, e2, e3, ⟨s, by rw [e]; simp [kd], e1⟩, e4⟩
  · cases h
end
def tNGet (s : Nat) (ti : TE) : TE := fun σ H Q => ∃ p, σ[s]? = some (some (.ref p)) ∧ ti σ H fun y H1 => ∃ B xs kvs k b d, y = .ref b ∧ H1 p = some (.ext (NdP p xs)) ∧ NvOk B H1 xs kvs ∧ Dn B H1 (.ref b) (ndD k) ∧ lookN k kvs = some d ∧ ∀ v, Dn B H1 v d -> Q v H1
theorem k_nix {X : Cx} {pos : Pos} {pb : Expr} {b : E} {s : Nat} {x : Str} {p2 : Pos} (hu : X.A.units + 65 < cLine) (hN : X.N[s]? = some x) (hv : Vis X.env.scope x) (hd : (x == ("__debug__" : Str)) = false) (hcd : (x == ("__classdict__" : Str)) = false) (hb : PE X pb (tE b)) (hp : NoSl pb) : PE X (.Subscript (.Name x p2) pb pos) (tE (.nix s b)) := by
  refine PE.of (t := tNGet s (tE b)) ⟨fun pins sh σ H Q I h => ?_⟩ fun σ H Q ⟨B0, r, d, r1, rel, hden, q⟩ => ?_
  · obtain ⟨p, e0, h⟩ := h
    refine subD_of PySem.F.slot_dict_getitem.lookup hp (L2.thn ((pe_var hN hv hd hcd).run pins sh σ H (fun v H1 => v = .ref p ∧ H1 = H) I ⟨_, e0, rfl, rfl⟩) fun u s1 ⟨x1, H1, I1, rx, ex, eH⟩ => ?_)
    subst ex
    subst eH
    cases (show u = Value.ref p from rx)
    refine L2.thn (hb.run pins s1 σ H1 _ I1 h) fun iv s2 ⟨y, H2, I2, ry, B, xs, kvs, k, bb, dd, ey, e1, nv, dk, lk, q⟩ => ?_
    subst ey
    cases (show iv = Value.ref bb from ry)
    obtain ⟨z, ys, nr, dh⟩ := nd_dict I2.hok e1 nv
    refine ⟨dh.typeIs, ?_⟩
    obtain ⟨v, ev, dv⟩ := nv_get nv lk
    have rl := nr.val k
    rw [ev] at rl
    obtain ⟨w', hw, rw'⟩ := RelO.some_of rl
    obtain ⟨pp, hp1, hp2⟩ := Option.map_eq_some_iff.mp hw
    refine wpAny_getItem_heap (show (nestedKind X.prog X.w).room X.A.in1 from by show X.A.in1.units + 8 < cLine; rw [Around.in1_units]; omega) (nd_is I2.hok dk) dh (by rw [at_nup]; exact hp1) ?_
    rw [hp2]
    exact ⟨v, H2, I2.tok _, rw', q v dv⟩
  · obtain ⟨t0, h0, hden⟩ := bnd_inv hden
    obtain ⟨p2, h2, hden⟩ := bnd_inv hden
    obtain ⟨t, h3, hden⟩ := bnd_inv hden
    obtain ⟨k, ek, hden⟩ := bnd_inv hden
    obtain ⟨y, h4, hden⟩ := bnd_inv hden
    cases hden
    obtain ⟨p0, _, hv, _⟩ := nict_at rel h0
    refine ⟨p0, hv, B0, r, p2.1, p2.2, rel, h2, fun w H1 ex dn => ?_⟩
    obtain ⟨pp, xs, e1, e2, e3, _⟩ := nict_at ex.rel h3
    rw [hv] at e1
    cases e1
    have ey := nkeyD_is (ofO_inv ek)
    rw [ey] at dn
    obtain ⟨b1, _, rfl, _⟩ := ref_tup (show Dn _ _ w (.tuple _) from dn)
    exact ⟨_, xs, t, k, b1, _, rfl, e2, e3, dn, ofO_inv h4, fun v dv => q v H1 ex dv⟩
end Sb

set_option Elab.async false
set_option linter.all false
set_option maxRecDepth 100000
set_option maxHeartbeats 4000000
/-! SbC: every expression that matches. -/
namespace Sb
open PySem PySem.Spec PyProof.Rows L2
theorem kv_get {B : Addr -> Prop} {H : Hp} : ∀ {ks : List (Key × V)} {kvs : List (Key × D)} {k : Key} {d : D}, KvOk B H ks kvs -> lookK k kvs = some d -> ∃ v, valV ks k = some v ∧ Dn B H v d
  | _, _, k, d, .nil, e => by cases e
  | _, _, k, d, .cons (k := k0) (v := v0) (d := d0) h t, e => by
    unfold lookK at e
    by_cases hk : k0 = k
    · rw [if_pos hk] at e
      have e := Option.some.inj e
      subst e
      exact ⟨v0, valV_pos hk, h⟩
    · rw [if_neg hk] at e
      obtain ⟨v, e1, e2⟩ := kv_get t e
      exact ⟨v, by rw [valV_neg hk]; exact e1, e2⟩
theorem keyD_dn {B : Addr -> Prop} {H : Hp} {v : V} {d : D} {k : Key} (h : keyD d = some k) (dn : Dn B H v d) : v = kV k := by
  cases d <;> first | cases h | skip
  · cases dn; rfl
  · cases dn; rfl
theorem dict_at {B0 : Addr -> Prop} {r : En} {σ : L2.St} {H : Hp} {s : Nat} {t : List (Key × D)} (rel : Rel B0 r σ H) (h : dictOf r s = .ok t) :
    ∃ p xs, σ[s]? = some (some (.ref p)) ∧ H p = some (.dK xs) ∧ KvOk (Bf B0 r σ) H xs t ∧ own r σ p ∧ ¬ B0 p := by
  unfold dictOf at h
  split at h
  · rename_i l e
    cases h
    obtain ⟨v, e1, p, xs, rfl, e2, e3, e4⟩ := rel.at' s _ e
    exact ⟨p, xs, e1, e2, e3, ⟨s, by rw [e]; simp [kd], e1⟩, e4⟩
  · cases h
theorem k_dix {X : Cx} {pos : Pos} {pb : Expr} {b : E} {s : Nat} {x : Str} {p2 : Pos} (hu : X.A.units + 65 < cLine) (hN : X.N[s]? = some x) (hv : Vis X.env.scope x) (hd : (x == ("__debug__" : Str)) = false) (hcd : (x == ("__classdict__" : Str)) = false) (hb : PE X pb (tE b)) (hp : NoSl pb) : PE X (.Subscript (.Name x p2) pb pos) (tE (.dix s b)) :=
  PE.of (pe_dget (by omega) (pe_var hN hv hd hcd) hb hp) fun σ H Q ⟨B0, r, d, r1, rel, hden, q⟩ => by
    obtain ⟨t0, h0, hden⟩ := bnd_inv hden
    obtain ⟨p2, h2, hden⟩ := bnd_inv hden
    obtain ⟨t, h3, hden⟩ := bnd_inv hden
    obtain ⟨k, ek, hden⟩ := bnd_inv hden
    obtain ⟨y, h4, hden⟩ := bnd_inv hden
    cases hden
    obtain ⟨p0, _, hv, _⟩ := dict_at rel h0
    refine ⟨_, hv, B0, r, p2.1, p2.2, rel, h2, fun w H1 ex dn => ?_⟩
    obtain ⟨pp, xs, e1, e2, e3, _⟩ := dict_at ex.rel h3
    rw [hv] at e1
    cases e1
    have ew := keyD_dn (ofO_inv ek) dn
    subst ew
    obtain ⟨v, e5, e6⟩ := kv_get e3 (ofO_inv h4)
    refine ⟨_, v, rfl, ?_, q v H1 ex e6⟩
    rw [← e5]
    exact DGet.k (k := k) e2
theorem m2_plain {X : Cx} {o : Expr} {x n : Str} {p2 ap pos : Pos} {pb px : Expr} (hb : plainX pb = true) (hx : plainX px = true) (hl : (ap.endLine == pos.line) = true) : M2 X (.Name x p2) n ap pb px pos := by
  have e2 := star_plain hb [px] X.env
  have e1 := star_plain hx [] X.env
  refine ⟨rfl, ?_, hl, ?_⟩
  · rw [e2, e1]; rfl
  · rw [e2, e1]; rfl
theorem kv_getO {B : Addr -> Prop} {H : Hp} : ∀ {ks : List (Key × V)} {kvs : List (Key × D)} {k : Key} {v : V} {d : D}, KvOk B H ks kvs -> Dn B H v d -> Dn B H ((valV ks k).getD v) ((lookK k kvs).getD d)
  | _, _, k, v, d, .nil, h => by
    show Dn B H ((valV [] k).getD v) d
    exact h
  | _, _, k, v, d, .cons (k := k0) (v := v0) (d := d0) h t, e => by
    unfold lookK
    by_cases hk : k0 = k
    · rw [if_pos hk, valV_pos hk]
      exact h
    · rw [if_neg hk, valV_neg hk]
      exact kv_getO t e
theorem k_dgt {X : Cx} {pos ap : Pos} {pb px : Expr} {b c : E} {s : Nat} {x : Str} {p2 : Pos} (hu : X.A.units + 65 < cLine) (hN : X.N[s]? = some x) (hv : Vis X.env.scope x) (hd : (x == ("__debug__" : Str)) = false) (hcd : (x == ("__classdict__" : Str)) = false) (hb : PE X pb (tE b)) (hc : PE X px (tE c)) (hpb : plainX pb = true) (hpx : plainX px = true) (hl : (ap.endLine == pos.line) = true) : PE X (.Call (.Attribute (.Name x p2) "get" ap) [pb, px] [] pos) (tE (.dgt s b c)) :=
  PE.of (pe_dget2 (by omega) (pe_var hN hv hd hcd) hb hc (m2_plain (o := pb) hpb hpx hl)) fun σ H Q ⟨B0, r, d, r1, rel, hden, q⟩ => by
    obtain ⟨t0, h0, hden⟩ := bnd_inv hden
    obtain ⟨p2, h2, hden⟩ := bnd_inv hden
    obtain ⟨p3, h5, hden⟩ := bnd_inv hden
    obtain ⟨t, h3, hden⟩ := bnd_inv hden
    obtain ⟨k, ek, hden⟩ := bnd_inv hden
    cases hden
    obtain ⟨p0, xs0, hv, hh0, _⟩ := dict_at rel h0
    refine ⟨_, hv, p0, rfl, .inl ⟨_, .inl hh0⟩, B0, r, p2.1, p2.2, rel, h2, fun w H1 ex dn => ?_⟩
    refine ⟨B0, p2.2, p3.1, p3.2, ex.rel, h5, fun z H2 ex2 dz => ?_⟩
    obtain ⟨pp, xs, e1, e2, e3, _⟩ := dict_at ex2.rel h3
    rw [hv] at e1
    cases e1
    have ew := keyD_dn (ofO_inv ek) dn
    subst ew
    exact ⟨_, DGet.k (k := k) e2, q _ H2 (ex.trans ex2) (kv_getO e3 dz)⟩
theorem mEs_plain {N : List Str} {sc : Scope} : ∀ {l : List E} {es : List Expr}, mEs N sc l es = true -> ∀ x ∈ es, plainX x = true
  | [], es, h => by
    cases es with
    | nil => intro x hx; simp at hx
    | cons _ _ => simp [mEs] at h
  | a :: l, es, h => by
    cases es with
    | nil => intro x hx; simp at hx
    | cons e es =>
      unfold mEs at h
      simp only [Bool.and_eq_true] at h
      intro x hx
      rcases List.mem_cons.mp hx with q | q
      · rw [q]; exact mE_plain h.1
      · exact mEs_plain h.2 x q
theorem tg_isV {N : List Str} {sb : Str -> Bool} {t : Tg} {pe : Expr} (m : mT N sb t pe = true) (h : isTupX pe = true) : isV t = false := by
  cases t with
  | t l => rfl
  | v i =>
    cases pe <;> first | (simp [mT] at m; done) | (simp [isTupX] at h; done)
theorem weak_of {N : List Str} {sc : Scope} {sb : Str -> Bool} {t : Tg} {pt pi : Expr} {it : Src} (m : mT N sb t pt = true) (mi : mI N sc it pt pi = true) : isV t = true -> isWeak it = false := fun hv => by
  cases it with
  | enum e =>
    unfold mI at mi
    split at mi
    · simp only [Bool.and_eq_true] at mi
      rw [tg_isV m mi.1.2] at hv
      cases hv
    · cases mi
  | zip a b =>
    unfold mI at mi
    split at mi
    · simp only [Bool.and_eq_true] at mi
      rw [tg_isV m mi.1.1.2] at hv
      cases hv
    · cases mi
  | _ => rfl
theorem mI_plain {N : List Str} {sc : Scope} {it : Src} {pt pi : Expr} (m : mI N sc it pt pi = true) : plainX pi = true := by
  cases it with
  | seq e => exact mE_plain (show mE N sc e pi = true from m)
  | _ => cases pi <;> first | rfl | (simp [mI] at m)
theorem all_mem {a b : List Nat} (h : a.all (fun v => b.contains v) = true) : ∀ i ∈ a, i ∈ b := fun i hi => by
  have := List.all_eq_true.mp h i hi
  simpa using this
theorem pw_last {X : Cx} {pos : Pos} {y : Expr} {b : E} (h : PT X y (tT b)) : PW X (.BoolOp .And [y] pos) (tT b) := pw_and1 h
theorem pw_lastO {X : Cx} {pos : Pos} {y : Expr} {b : E} (h : PT X y (tT b)) : PW X (.BoolOp .Or [y] pos) (tT b) := pw_or1 h
theorem k_ptsnil {X : Cx} : PTs X [] (tCd none) := PTs.of pts_nil fun σ H Q ⟨B0, r, b, r1, rel, hd, q⟩ => by cases hd; exact q H (Ex.refl rel)
theorem prim_nil (p : Prim) : primD p [] = .bad := by cases p <;> rfl
theorem k_iteT {X : Cx} {pos : Pos} {pa pb pc : Expr} {a b c : E} (hc : PT X pc (tT c)) (ha : PT X pa (tT a)) (hb : PT X pb (tT b)) : PT X (.IfExp pc pa pb pos) (tT (.ite c a b)) := by
  refine ⟨fun pins s σ H Q I ⟨B0, r, d, r1, rel, hden, q⟩ => ?_⟩
  obtain ⟨p1, h1, hden⟩ := bnd_inv hden
  obtain ⟨p1a, p1b⟩ := p1
  simp only at hden
  have key : ∀ w, isTrue (.IfExp pc pa pb pos) X.env w = (do if ← isTrue pc X.env (eval pc X.env) then isTrue pa X.env (eval pa X.env) else isTrue pb X.env (eval pb X.env)) := fun w => by simp only [PySem.isTrue]
  rw [key]
  split at hden
  · refine wpAny_bind (thn (hc.run pins s σ H (fun z H1 => z = true ∧ Ex B0 r p1b σ H H1) I ⟨B0, r, true, p1b, rel, h1, fun H1 ex => ⟨rfl, ex⟩⟩) fun z s1 ⟨H1, I1, hz, ex⟩ => ?_)
    subst hz
    exact ha.run pins s1 σ H1 Q I1 ⟨B0, p1b, d, r1, ex.rel, hden, fun H2 ex2 => q H2 (ex.trans ex2)⟩
  · refine wpAny_bind (thn (hc.run pins s σ H (fun z H1 => z = false ∧ Ex B0 r p1b σ H H1) I ⟨B0, r, false, p1b, rel, h1, fun H1 ex => ⟨rfl, ex⟩⟩) fun z s1 ⟨H1, I1, hz, ex⟩ => ?_)
    subst hz
    exact hb.run pins s1 σ H1 Q I1 ⟨B0, p1b, d, r1, ex.rel, hden, fun H2 ex2 => q H2 (ex.trans ex2)⟩
  · cases hden
theorem pty_in (t : Ty) : Str.ofString (tyN t) ∈ bltN := by cases t <;> decide +kernel
theorem pname_in (p : Prim) (h0 : p ≠ .lenset) (h1 : p ≠ .sortset) : pName p ∈ bltN := by
  cases p <;> first | exact absurd rfl h0 | exact absurd rfl h1 | decide +kernel
mutual
theorem ex_den {N : List Str} : ∀ (e : E) (pe : Expr) {X : Cx} {sc : Scope} {sb : Str -> Bool} {k : Nat}, Gd X N sc sb k -> mE N sc e pe = true -> Cs X k (clE e) -> PE X pe (tE e) ∧ PT X pe (tT e)
  | .k d, pe, X, sc, sb, k, g, m, c => by
    suffices h : PE X pe (tE _) from ⟨h, k_val h (by cases pe <;> first | rfl | (simp [mE] at m))⟩
    unfold mE at m
    split at m
    · exact k_const m
    · cases m
  | .v i, pe, X, sc, sb, k, g, m, c => by
    suffices h : PE X pe (tE _) from ⟨h, k_val h (by cases pe <;> first | rfl | (simp [mE] at m))⟩
    unfold mE at m
    split at m
    · simp only [Bool.and_eq_true] at m
      have o := okN_d m.2
      exact k_var (g.sl m.1.1) (g.vis m.1.2) o.1 o.2.1
    · cases m
  | .bin op a b, pe, X, sc, sb, k, g, m, c => by
    suffices h : PE X pe (tE _) from ⟨h, k_val h (by cases pe <;> first | rfl | (simp [mE] at m))⟩
    unfold mE at m
    split at m
    · simp only [Bool.and_eq_true, decide_eq_true_eq] at m
      obtain ⟨⟨rfl, m1⟩, m2⟩ := m
      unfold clE at c
      exact k_bin (ex_den a _ g m1 c.l).1 (ex_den b _ g m2 c.r).1
    · cases m
  | .neg a, pe, X, sc, sb, k, g, m, c => by
    suffices h : PE X pe (tE _) from ⟨h, k_val h (by
      unfold mE at m
      split at m
      · simp only [Bool.and_eq_true, decide_eq_true_eq] at m
        obtain ⟨rfl, _⟩ := m
        rfl
      · cases m)⟩
    unfold mE at m
    split at m
    · simp only [Bool.and_eq_true, decide_eq_true_eq] at m
      obtain ⟨rfl, m1⟩ := m
      unfold clE at c
      exact k_neg (ex_den a _ g m1 c).1
    · cases m
  | .cmp op a b, pe, X, sc, sb, k, g, m, c => by
    constructor
    · unfold mE at m
      split at m
      · simp only [Bool.and_eq_true, decide_eq_true_eq] at m
        obtain ⟨⟨rfl, m1⟩, m2⟩ := m
        unfold clE at c
        exact k_cmp g.hu (ex_den a _ g m1 c.l).1 (ex_den b _ g m2 c.r).1 (mark_plain (mE_plain m2) _)
      · cases m
    · unfold mE at m
      split at m
      · simp only [Bool.and_eq_true, decide_eq_true_eq] at m
        obtain ⟨⟨rfl, m1⟩, m2⟩ := m
        unfold clE at c
        exact k_cmpT g.hu (ex_den a _ g m1 c.l).1 (ex_den b _ g m2 c.r).1 (mark_plain (mE_plain m2) _)
      · cases m
  | .chain op op2 a b d, pe, X, sc, sb, k, g, m, c => by
    constructor
    · unfold mE at m
      split at m
      · simp only [Bool.and_eq_true, decide_eq_true_eq] at m
        obtain ⟨⟨⟨⟨rfl, rfl⟩, m1⟩, m2⟩, m3⟩ := m
        unfold clE at c
        exact k_chain g.hu (ex_den a _ g m1 c.l.l).1 (ex_den b _ g m2 c.l.r).1 (ex_den d _ g m3 c.r).1 (mark_plain (mE_plain m3) _)
      · cases m
    · unfold mE at m
      split at m
      · simp only [Bool.and_eq_true, decide_eq_true_eq] at m
        obtain ⟨⟨⟨⟨rfl, rfl⟩, m1⟩, m2⟩, m3⟩ := m
        unfold clE at c
        exact k_chainT g.hu (ex_den a _ g m1 c.l.l).1 (ex_den b _ g m2 c.l.r).1 (ex_den d _ g m3 c.r).1 (mark_plain (mE_plain m3) _)
      · cases m
  | .band a b, pe, X, sc, sb, k, g, m, c => by
    constructor
    · unfold mE at m
      split at m
      · simp only [Bool.and_eq_true, decide_eq_true_eq] at m
        obtain ⟨⟨rfl, m1⟩, m2⟩ := m
        unfold clE at c
        split at m2
        · exact k_and (ex_den a _ g m1 c.l).1 (pe_one (ex_den b _ g m2 c.r).1)
        · exact k_and (ex_den a _ g m1 c.l).1 (ex_den b _ g m2 c.r).1
      · cases m
    · unfold mE at m
      split at m
      · simp only [Bool.and_eq_true, decide_eq_true_eq] at m
        obtain ⟨⟨rfl, m1⟩, m2⟩ := m
        unfold clE at c
        split at m2
        · exact (k_andT (ex_den a _ g m1 c.l).2 (pw_last (ex_den b _ g m2 c.r).2)).pt
        · exact (k_andT (ex_den a _ g m1 c.l).2 (pw_den b _ _ _ g m2 c.r)).pt
      · cases m
  | .bor a b, pe, X, sc, sb, k, g, m, c => by
    constructor
    · unfold mE at m
      split at m
      · simp only [Bool.and_eq_true, decide_eq_true_eq] at m
        obtain ⟨⟨rfl, m1⟩, m2⟩ := m
        unfold clE at c
        split at m2
        · exact k_or (ex_den a _ g m1 c.l).1 (pe_one (ex_den b _ g m2 c.r).1)
        · exact k_or (ex_den a _ g m1 c.l).1 (ex_den b _ g m2 c.r).1
      · cases m
    · unfold mE at m
      split at m
      · simp only [Bool.and_eq_true, decide_eq_true_eq] at m
        obtain ⟨⟨rfl, m1⟩, m2⟩ := m
        unfold clE at c
        split at m2
        · exact (k_orT (ex_den a _ g m1 c.l).2 (pw_lastO (ex_den b _ g m2 c.r).2)).pt
        · exact (k_orT (ex_den a _ g m1 c.l).2 (pw_den b _ _ _ g m2 c.r)).pt
      · cases m
  | .bnot a, pe, X, sc, sb, k, g, m, c => by
    constructor
    · unfold mE at m
      split at m
      · simp only [Bool.and_eq_true, decide_eq_true_eq] at m
        obtain ⟨rfl, m1⟩ := m
        unfold clE at c
        exact k_not (ex_den a _ g m1 c).1
      · cases m
    · unfold mE at m
      split at m
      · simp only [Bool.and_eq_true, decide_eq_true_eq] at m
        obtain ⟨rfl, m1⟩ := m
        unfold clE at c
        exact k_notT (ex_den a _ g m1 c).2
      · cases m
  | .ite d a b, pe, X, sc, sb, k, g, m, c => by
    constructor
    · unfold mE at m
      split at m
      · simp only [Bool.and_eq_true] at m
        unfold clE at c
        exact k_ite (ex_den d _ g m.1.1 c.l.l).2 (ex_den a _ g m.1.2 c.l.r).1 (ex_den b _ g m.2 c.r).1
      · cases m
    · unfold mE at m
      split at m
      · simp only [Bool.and_eq_true] at m
        unfold clE at c
        exact k_iteT (ex_den d _ g m.1.1 c.l.l).2 (ex_den a _ g m.1.2 c.l.r).2 (ex_den b _ g m.2 c.r).2
      · cases m
  | .tup l, pe, X, sc, sb, k, g, m, c => by
    suffices h : PE X pe (tE _) from ⟨h, k_val h (by cases pe <;> first | rfl | (simp [mE] at m))⟩
    unfold mE at m
    split at m
    · unfold clE at c
      exact k_tup (pa_den l _ g m c)
    · cases m
  | .lst l, pe, X, sc, sb, k, g, m, c => by
    suffices h : PE X pe (tE _) from ⟨h, k_val h (by cases pe <;> first | rfl | (simp [mE] at m))⟩
    unfold mE at m
    split at m
    · unfold clE at c
      exact k_lst (pa_den l _ g m c)
    · cases m
  | .ix a i, pe, X, sc, sb, k, g, m, c => by
    suffices h : PE X pe (tE _) from ⟨h, k_val h (by cases pe <;> first | rfl | (simp [mE] at m))⟩
    unfold mE at m
    split at m
    · simp only [Bool.and_eq_true] at m
      unfold clE at c
      exact k_ix (ex_den a _ g m.1 c.l).1 (ex_den i _ g m.2 c.r).1 (ix_plain (mE_plain m.2))
    · cases m
  | .cix s i, pe, X, sc, sb, k, g, m, c => by
    suffices h : PE X pe (tE _) from ⟨h, k_val h (by cases pe <;> first | rfl | (simp [mE] at m))⟩
    unfold mE at m
    split at m
    · simp only [Bool.and_eq_true] at m
      unfold clE at c
      have o := okN_d m.1.2
      exact k_cix (g.sl m.1.1.1) (g.vis m.1.1.2) o.1 o.2.1 (ex_den i _ g m.2 c).1 (ix_plain (mE_plain m.2))
    · cases m
  | .dix s i, pe, X, sc, sb, k, g, m, c => by
    suffices h : PE X pe (tE _) from ⟨h, k_val h (by cases pe <;> first | rfl | (simp [mE] at m))⟩
    unfold mE at m
    split at m
    · simp only [Bool.and_eq_true] at m
      unfold clE at c
      have o := okN_d m.1.2
      exact k_dix g.hu (g.sl m.1.1.1) (g.vis m.1.1.2) o.1 o.2.1 (ex_den i _ g m.2 c).1 (ix_plain (mE_plain m.2))
    · cases m
  | .nix s i, pe, X, sc, sb, k, g, m, c => by
    suffices h : PE X pe (tE _) from ⟨h, k_val h (by cases pe <;> first | rfl | (simp [mE] at m))⟩
    unfold mE at m
    split at m
    · simp only [Bool.and_eq_true] at m
      unfold clE at c
      have o := okN_d m.1.2
      exact k_nix g.hu (g.sl m.1.1.1) (g.vis m.1.1.2) o.1 o.2.1 (ex_den i _ g m.2 c).1 (ix_plain (mE_plain m.2))
    · cases m
  | .dgt s i x, pe, X, sc, sb, k, g, m, c => by
    suffices h : PE X pe (tE _) from ⟨h, k_val h (by cases pe <;> first | rfl | (simp [mE] at m))⟩
    unfold mE at m
    split at m
    · simp only [Bool.and_eq_true, decide_eq_true_eq] at m
      obtain ⟨⟨⟨⟨⟨⟨rfl, m1⟩, m2⟩, m3⟩, m4⟩, m5⟩, m6⟩ := m
      unfold clE at c
      have o := okN_d m3
      exact k_dgt g.hu (g.sl m1) (g.vis m2) o.1 o.2.1 (ex_den i _ g m5 c.l).1 (ex_den x _ g m6 c.r).1 (mE_plain m5) (mE_plain m6) m4
    · cases m
  | .sl a lo hi, pe, X, sc, sb, k, g, m, c => by
    suffices h : PE X pe (tE _) from ⟨h, k_val h (by cases pe <;> first | rfl | (simp [mE] at m))⟩
    unfold mE at m
    split at m
    · simp only [Bool.and_eq_true] at m
      unfold clE at c
      exact k_slice (ex_den a _ g m.1.1 c.l.l).1 (po_den lo _ g m.1.2 c.l.r) (po_den hi _ g m.2 c.r)
    · cases m
  | .prim p l, pe, X, sc, sb, k, g, m, c => by
    suffices h : PE X pe (tE _) from ⟨h, k_val h (by cases pe <;> first | rfl | (simp [mE] at m))⟩
    unfold mE at m
    split at m
    · unfold clE at c
      split at m
      · cases m
      · cases m
      · rename_i h0 h1
        simp only [Bool.and_eq_true, decide_eq_true_eq] at m
        obtain ⟨⟨rfl, m1⟩, m2⟩ := m
        have hp := mEs_plain m2
        have ha := pa_den l _ g m2 c
        rename_i es _ _
        cases es with
        | nil =>
          cases l with
          | nil =>
            refine ⟨fun pins s σ H Q I ⟨B0, r, d, r1, rel, hd, q⟩ => ?_⟩
            obtain ⟨p1, e1, hd⟩ := bnd_inv hd
            cases e1
            obtain ⟨x, e2, hd⟩ := bnd_inv hd
            rw [prim_nil] at e2
            cases e2
          | cons _ _ => simp [mEs] at m2
        | cons e es => exact k_prim g.calm g.hu h0 h1 (g.gl m1) (g.blt _ (pname_in p h0 h1)) ha hp
    · cases m
  | .meth mm a b, pe, X, sc, sb, k, g, m, c => by
    suffices h : PE X pe (tE _) from ⟨h, k_val h (by cases pe <;> first | rfl | (simp [mE] at m))⟩
    unfold mE at m
    split at m
    · simp only [Bool.and_eq_true, decide_eq_true_eq] at m
      obtain ⟨⟨⟨⟨rfl, m1⟩, m2⟩, m3⟩, m4⟩ := m
      unfold clE at c
      exact k_meth g.hu (ex_den a _ g m3 c.l).1 (ex_den b _ g m4 c.r).1 m2 (mE_plain m4) m1
    · cases m
  | .isi t a, pe, X, sc, sb, k, g, m, c => by
    suffices h : PE X pe (tE _) from ⟨h, k_val h (by cases pe <;> first | rfl | (simp [mE] at m))⟩
    unfold mE at m
    split at m
    · simp only [Bool.and_eq_true, decide_eq_true_eq] at m
      obtain ⟨⟨⟨⟨rfl, rfl⟩, m1⟩, m2⟩, m3⟩ := m
      unfold clE at c
      exact k_isi (g.gl m1) (g.blt _ (by decide +kernel)) (g.gl m2) (g.blt _ (pty_in t)) (ex_den a _ g m3 c).1 (mE_plain m3)
    · cases m
  | .lens a, pe, X, sc, sb, k, g, m, c => by
    suffices h : PE X pe (tE _) from ⟨h, k_val h (by cases pe <;> first | rfl | (simp [mE] at m))⟩
    unfold mE at m
    split at m
    · simp only [Bool.and_eq_true, decide_eq_true_eq] at m
      obtain ⟨⟨⟨⟨rfl, rfl⟩, m1⟩, m2⟩, m3⟩ := m
      unfold clE at c
      exact k_lenset (g.gl m1) (g.blt _ (by decide +kernel)) (g.gl m2) (g.blt _ (by decide +kernel)) (ex_den a _ g m3 c).1 g.calm (mE_plain m3)
    · cases m
  | .op o l, pe, X, sc, sb, k, g, m, c => by
    unfold mE at m
    split at m
    · rename_i es q
      unfold clE at c
      have h : PE X pe (tE (.op o l)) := k_op g q (pes_den l es g m c)
      exact ⟨h, k_val h (opM_plain q).2⟩
    · cases m
  | .rng a b, pe, X, sc, sb, k, g, m, c => by
    suffices h : PE X pe (tE _) from ⟨h, k_val h (by cases pe <;> first | rfl | (simp [mE] at m))⟩
    unfold mE at m
    split at m
    · simp only [Bool.and_eq_true, decide_eq_true_eq] at m
      obtain ⟨⟨⟨⟨rfl, rfl⟩, m1⟩, m2⟩, m3⟩ := m
      unfold clE at c
      split at m3
      · simp only [Bool.and_eq_true] at m3
        exact k_rng1 m3.1 g.calm (g.gl m1) (g.blt _ (by decide +kernel)) (g.gl m2) (g.blt _ (by decide +kernel)) (ex_den b _ g m3.2 c.r).1 (mE_plain m3.2)
      · simp only [Bool.and_eq_true] at m3
        exact k_rng2 g.calm (g.gl m1) (g.blt _ (by decide +kernel)) (g.gl m2) (g.blt _ (by decide +kernel)) (ex_den a _ g m3.1 c.l).1 (ex_den b _ g m3.2 c.r).1 (mE_plain m3.1) (mE_plain m3.2)
      · cases m3
    · cases m
  | .call f sem l, pe, X, sc, sb, k, g, m, c => by
    suffices h : PE X pe (tE _) from ⟨h, k_val h (by cases pe <;> first | rfl | (simp [mE] at m))⟩
    unfold mE at m
    split at m
    · simp only [Bool.and_eq_true, decide_eq_true_eq] at m
      obtain ⟨⟨⟨rfl, m1⟩, m2⟩, m3⟩ := m
      unfold clE at c
      have hp := mEs_plain m3
      have F := c _ List.mem_cons_self
      have c2 : Cs X k (clL l) := fun z hz => c z (List.mem_cons_of_mem _ hz)
      have ha := pa_den l _ g m3 c2
      rename_i es _
      cases es with
      | nil =>
        cases l with
        | nil => exact k_call0 F g.room (g.gl m1) (okN_d m2).1
        | cons _ _ => simp [mEs] at m3
      | cons e es => exact k_call F g.room (g.gl m1) (okN_d m2).1 ha hp
    · cases m
  | .callT fs i l, pe, X, sc, sb, k, g, m, c => by
    suffices h : PE X pe (tE _) from ⟨h, k_val h (by cases pe <;> first | rfl | (simp [mE] at m))⟩
    unfold mE at m
    split at m
    · simp only [Bool.and_eq_true] at m
      obtain ⟨⟨⟨m0, m1⟩, m2⟩, m3⟩ := m
      unfold clE at c
      simp only [decide_eq_true_eq] at m0
      exact k_callT g m1 (fun f hf => c.l _ (List.mem_map.mpr ⟨f, hf, rfl⟩)) (ex_den i _ g m2 c.r.l).1 (ix_plain (mE_plain m2)) (pa_den l _ g m3 c.r.r) (mEs_plain m3) m0
    · cases m
  | .callS f sem a s l, pe, X, sc, sb, k, g, m, c => by
    suffices h : PE X pe (tE _) from ⟨h, k_val h (by cases pe <;> first | rfl | (simp [mE] at m))⟩
    unfold mE at m
    split at m
    · simp only [Bool.and_eq_true, decide_eq_true_eq] at m
      obtain ⟨⟨⟨⟨⟨⟨⟨rfl, m1⟩, m2⟩, m3⟩, m4⟩, m5⟩, m6⟩, m7⟩ := m
      unfold clE at c
      have F := c _ List.mem_cons_self
      have c2 : Cs X k (clE a ++ clL l) := fun z hz => c z (List.mem_cons_of_mem _ hz)
      have o := okN_d m5
      exact k_callS F g.room (g.gl m1) (okN_d m2).1 (ex_den a _ g m6 c2.l).1 (mE_plain m6) (g.sl m3) (g.vis m4) o.1 o.2.1 (pa_den l _ g m7 c2.r) (mEs_plain m7)
    · cases m
  | .lc own0 tg it cond e, pe, X, sc, sb, k, g, m, c => by
    suffices h : PE X pe (tE _) from ⟨h, k_val h (by cases pe <;> first | rfl | (simp [mE] at m))⟩
    unfold mE at m
    split at m
    · simp only [Bool.and_eq_true] at m
      obtain ⟨⟨⟨⟨⟨m1, m2⟩, m3⟩, m4⟩, m5⟩, m6⟩ := m
      have hkk := (blkOk_by m1).kind
      unfold clE at c
      exact k_lc g.calm g.ndX (pi_den it _ _ g m4 c.l.l) (by rw [g.names, g.scope]; exact blkOk_by m1) (fun s H C cl fp => pg_den (g.blk s H _ C cl fp hkk) _ _ m2) (fun s H C cl fp => pts_den cond _ (g.blk s H _ C cl fp hkk) m5 c.l.r)
        (fun s H C cl fp => (ex_den e _ (g.blk s H _ C cl fp hkk) m6 c.r).1) (fold_plain (mI_plain m4) _) (all_mem m3) (weak_of m2 m4)
    · cases m
  | .lc2 own0 vs1 tg it tg1 it1 e, pe, X, sc, sb, k, g, m, c => by
    suffices h : PE X pe (tE _) from ⟨h, k_val h (by cases pe <;> first | rfl | (simp [mE] at m))⟩
    unfold mE at m
    split at m
    · simp only [Bool.and_eq_true] at m
      obtain ⟨⟨⟨⟨⟨⟨⟨⟨m1, m2⟩, m3⟩, m4⟩, m5⟩, m6⟩, m7⟩, m8⟩, m9⟩ := m
      have hkk := (blkOk_by m1).kind
      unfold clE at c
      exact k_lc2 g.calm g.ndX (pi_den it _ _ g m7 c.l.l) (by rw [g.names, g.scope]; exact blkOk_by m1) (fun s H C cl fp => pg_den (g.blk s H _ C cl fp hkk) _ _ m2) (fun s H C cl fp => k_ptsnil)
        (fun s H C cl fp => pi_den it1 _ _ (g.blk s H _ C cl fp hkk) m8 c.l.r) (fun s H C cl fp => pg_den (g.blk s H _ C cl fp hkk) _ _ m3)
        (fun s H C cl fp => (ex_den e _ (g.blk s H _ C cl fp hkk) m9 c.r).1) (fold_plain (mI_plain m7) _) (fold_plain (mI_plain m8)) (all_mem m4) (weak_of m2 m7) (all_mem m5) (all_mem m6) (weak_of m3 m8)
    · cases m
theorem pw_den {N : List Str} : ∀ (e : E) (o : BoolOp) (vs : List Expr) (pos : Pos) {X : Cx} {sc : Scope} {sb : Str -> Bool} {k : Nat}, Gd X N sc sb k -> mE N sc e (.BoolOp o vs pos) = true -> Cs X k (clE e) -> PW X (.BoolOp o vs pos) (tT e)
  | .band a b, o, vs, pos, X, sc, sb, k, g, m, c => by
    unfold mE at m
    split at m
    · rename_i q
      simp only [Bool.and_eq_true, decide_eq_true_eq] at m
      obtain ⟨⟨m0, m1⟩, m2⟩ := m
      cases q
      subst m0
      unfold clE at c
      split at m2
      · exact k_andT (ex_den a _ g m1 c.l).2 (pw_last (ex_den b _ g m2 c.r).2)
      · exact k_andT (ex_den a _ g m1 c.l).2 (pw_den b _ _ _ g m2 c.r)
    · cases m
  | .bor a b, o, vs, pos, X, sc, sb, k, g, m, c => by
    unfold mE at m
    split at m
    · rename_i q
      simp only [Bool.and_eq_true, decide_eq_true_eq] at m
      obtain ⟨⟨m0, m1⟩, m2⟩ := m
      cases q
      subst m0
      unfold clE at c
      split at m2
      · exact k_orT (ex_den a _ g m1 c.l).2 (pw_lastO (ex_den b _ g m2 c.r).2)
      · exact k_orT (ex_den a _ g m1 c.l).2 (pw_den b _ _ _ g m2 c.r)
    · cases m
  | .k _, o, vs, pos, X, sc, sb, k, g, m, c => by simp [mE] at m
  | .v _, o, vs, pos, X, sc, sb, k, g, m, c => by simp [mE] at m
  | .bin _ _ _, o, vs, pos, X, sc, sb, k, g, m, c => by simp [mE] at m
  | .neg _, o, vs, pos, X, sc, sb, k, g, m, c => by simp [mE] at m
  | .tup _, o, vs, pos, X, sc, sb, k, g, m, c => by simp [mE] at m
  | .lst _, o, vs, pos, X, sc, sb, k, g, m, c => by simp [mE] at m
  | .ix _ _, o, vs, pos, X, sc, sb, k, g, m, c => by simp [mE] at m
  | .cix _ _, o, vs, pos, X, sc, sb, k, g, m, c => by simp [mE] at m
  | .dix _ _, o, vs, pos, X, sc, sb, k, g, m, c => by simp [mE] at m
  | .nix _ _, o, vs, pos, X, sc, sb, k, g, m, c => by simp [mE] at m
  | .dgt _ _ _, o, vs, pos, X, sc, sb, k, g, m, c => by simp [mE] at m
  | .sl _ _ _, o, vs, pos, X, sc, sb, k, g, m, c => by simp [mE] at m
  | .prim _ _, o, vs, pos, X, sc, sb, k, g, m, c => by simp [mE] at m
  | .meth _ _ _, o, vs, pos, X, sc, sb, k, g, m, c => by simp [mE] at m
  | .lens _, o, vs, pos, X, sc, sb, k, g, m, c => by simp [mE] at m
  | .op o2 _, o, vs, pos, X, sc, sb, k, g, m, c => by cases o2 <;> simp [mE, opM] at m
  | .isi _ _, o, vs, pos, X, sc, sb, k, g, m, c => by simp [mE] at m
  | .rng _ _, o, vs, pos, X, sc, sb, k, g, m, c => by simp [mE] at m
  | .call _ _ _, o, vs, pos, X, sc, sb, k, g, m, c => by simp [mE] at m
  | .callS _ _ _ _ _, o, vs, pos, X, sc, sb, k, g, m, c => by simp [mE] at m
  | .callT _ _ _, o, vs, pos, X, sc, sb, k, g, m, c => by simp [mE] at m
  | .lc _ _ _ _ _, o, vs, pos, X, sc, sb, k, g, m, c => by simp [mE] at m
  | .lc2 _ _ _ _ _ _ _, o, vs, pos, X, sc, sb, k, g, m, c => by simp [mE] at m
  | .cmp _ _ _, o, vs, pos, X, sc, sb, k, g, m, c => by simp [mE] at m
  | .chain _ _ _ _ _, o, vs, pos, X, sc, sb, k, g, m, c => by simp [mE] at m
  | .bnot _, o, vs, pos, X, sc, sb, k, g, m, c => by simp [mE] at m
  | .ite _ _ _, o, vs, pos, X, sc, sb, k, g, m, c => by simp [mE] at m
theorem pes_den {N : List Str} : ∀ (l : List E) (es : List Expr) {X : Cx} {sc : Scope} {sb : Str -> Bool} {k : Nat}, Gd X N sc sb k -> mEs N sc l es = true -> Cs X k (clL l) -> PEs X es l
  | [], es, X, sc, sb, k, g, m, c => by
    unfold mEs at m
    split at m
    · exact .nil
    · cases m
  | a :: l, es, X, sc, sb, k, g, m, c => by
    unfold mEs at m
    split at m
    · simp only [Bool.and_eq_true] at m
      unfold clL at c
      exact .cons (ex_den a _ g m.1 c.l).1 (mE_plain m.1) (pes_den l _ g m.2 c.r)
    · cases m
theorem pa_den {N : List Str} : ∀ (l : List E) (es : List Expr) {X : Cx} {sc : Scope} {sb : Str -> Bool} {k : Nat}, Gd X N sc sb k -> mEs N sc l es = true -> Cs X k (clL l) -> PA X es (tA l)
  | [], es, X, sc, sb, k, g, m, c => by
    unfold mEs at m
    split at m
    · exact k_nil
    · cases m
  | a :: l, es, X, sc, sb, k, g, m, c => by
    unfold mEs at m
    split at m
    · simp only [Bool.and_eq_true] at m
      unfold clL at c
      exact k_cons (ex_den a _ g m.1 c.l).1 (pa_den l _ g m.2 c.r) (star_plain (mE_plain m.1) _ _)
    · cases m
theorem po_den {N : List Str} : ∀ (o : Option E) (e : Option Expr) {X : Cx} {sc : Scope} {sb : Str -> Bool} {k : Nat}, Gd X N sc sb k -> mO N sc o e = true -> Cs X k (clO o) -> PO X e (tO o)
  | none, e, X, sc, sb, k, g, m, c => by
    unfold mO at m
    split at m
    · exact k_none
    · cases m
  | some a, e, X, sc, sb, k, g, m, c => by
    unfold mO at m
    split at m
    · unfold clO at c
      exact k_some (ex_den a _ g m c).1
    · cases m
theorem pts_den {N : List Str} : ∀ (o : Option E) (e : List Expr) {X : Cx} {sc : Scope} {sb : Str -> Bool} {k : Nat}, Gd X N sc sb k -> mC N sc o e = true -> Cs X k (clO o) -> PTs X e (tCd o)
  | none, e, X, sc, sb, k, g, m, c => by
    unfold mC at m
    split at m
    · exact k_ptsnil
    · cases m
  | some a, e, X, sc, sb, k, g, m, c => by
    unfold mC at m
    split at m
    · unfold clO at c
      refine PTs.of (pts_one (ex_den a _ g m c).2) fun σ H Q ⟨B0, r, b, r1, rel, hd, q⟩ => ?_
      obtain ⟨p, h1, hd⟩ := bnd_inv hd
      obtain ⟨p1, p2⟩ := p
      simp only at hd
      split at hd
      · cases hd
        exact ⟨B0, r, _, _, rel, h1, q⟩
      · cases hd
    · cases m
theorem pi_den {N : List Str} : ∀ (it : Src) (pt pi : Expr) {X : Cx} {sc : Scope} {sb : Str -> Bool} {k : Nat}, Gd X N sc sb k -> mI N sc it pt pi = true -> Cs X k (clI it) -> PI X pt pi (tI it)
  | .seq e, pt, pi, X, sc, sb, k, g, m, c => by
    unfold mI at m
    unfold clI at c
    exact k_seq (ex_den e _ g m c).1
  | .rng e, pt, pi, X, sc, sb, k, g, m, c => by
    unfold mI at m
    split at m
    · simp only [Bool.and_eq_true, decide_eq_true_eq] at m
      obtain ⟨⟨rfl, m1⟩, m2⟩ := m
      unfold clI at c
      exact k_rngI (g.gl m1) (g.blt _ (by decide +kernel)) (ex_den e _ g m2 c).1 (mE_plain m2)
    · cases m
  | .rng2 a b, pt, pi, X, sc, sb, k, g, m, c => by
    unfold mI at m
    split at m
    · simp only [Bool.and_eq_true, decide_eq_true_eq] at m
      obtain ⟨⟨⟨rfl, m1⟩, m2⟩, m3⟩ := m
      unfold clI at c
      exact k_rngI2 (g.gl m1) (g.blt _ (by decide +kernel)) (ex_den a _ g m2 c.l).1 (ex_den b _ g m3 c.r).1 (mE_plain m2) (mE_plain m3)
    · cases m
  | .enum e, pt, pi, X, sc, sb, k, g, m, c => by
    unfold mI at m
    split at m
    · simp only [Bool.and_eq_true, decide_eq_true_eq] at m
      obtain ⟨⟨⟨rfl, m1⟩, mt⟩, m2⟩ := m
      unfold clI at c
      unfold isTupX at mt
      split at mt
      · exact k_enumI (g.gl m1) (g.blt _ (by decide +kernel)) (ex_den e _ g m2 c).1 (mE_plain m2)
      · cases mt
    · cases m
  | .zip a b, pt, pi, X, sc, sb, k, g, m, c => by
    unfold mI at m
    split at m
    · simp only [Bool.and_eq_true, decide_eq_true_eq] at m
      obtain ⟨⟨⟨⟨rfl, m1⟩, mt⟩, m2⟩, m3⟩ := m
      unfold clI at c
      unfold isTupX at mt
      split at mt
      · exact k_zipI (g.gl m1) (g.blt _ (by decide +kernel)) (ex_den a _ g m2 c.l).1 (ex_den b _ g m3 c.r).1 (mE_plain m2) (mE_plain m3)
      · cases mt
    · cases m
end
end Sb

set_option Elab.async false
set_option linter.all false
set_option maxRecDepth 100000
set_option maxHeartbeats 1000000
/-! SbD: statements, from their parts. -/
namespace Sb
open PySem PySem.Spec PyProof.Rows L2
/-- at a place of a def's body: the slots, and what stood at the entry (I0: what is lent) -/
structure Sx (B0 I0 : Addr -> Prop) (H0 : Hp) (r : En) (σ : L2.St) (H : Hp) : Prop where
  rel : Rel B0 r σ H
  go : Go I0 H0 H
  cell : ∀ (i : Nat) a, kd r[i]? ≠ 0 -> σ[i]? = some (some (.ref a)) -> I0 a ∨ H0 a = none
/-- lent lists stay in their slots -/
def Cel (r : En) (σ : L2.St) (r1 : En) (σ1 : L2.St) : Prop := ∀ i : Nat, kd r[i]? = 1 -> kd r1[i]? = 1 ∧ σ1[i]? = σ[i]?
theorem Cel.refl (r : En) (σ : L2.St) : Cel r σ r σ := fun _ h => ⟨h, rfl⟩
theorem Cel.trans {r r1 r2 : En} {σ σ1 σ2 : L2.St} (a : Cel r σ r1 σ1) (b : Cel r1 σ1 r2 σ2) : Cel r σ r2 σ2 := fun i h => ⟨(b i (a i h).1).1, (b i (a i h).1).2.trans (a i h).2⟩
section
variable {B0 I0 : Addr -> Prop} {H0 : Hp} {r r1 : En} {σ σ1 : L2.St} {H H1 : Hp}
theorem Sx.own (s : Sx B0 I0 H0 r σ H) {a : Addr} (z : Sb.own r σ a) : I0 a ∨ H0 a = none := by
  obtain ⟨i, h1, h2⟩ := z
  exact s.cell i a h1 h2
theorem Sx.gox (s : Sx B0 I0 H0 r σ H) (g : Go (Sb.own r σ) H H1) : Go I0 H0 H1 := ⟨fun a o n e => g.keep a o (fun z => (s.own z).elim n fun z => by rw [z] at e; cases e) (s.go.keep a o n e), fun a e => g.live a (s.go.live a e)⟩
theorem Sx.ex (s : Sx B0 I0 H0 r σ H) (e : Ex B0 r r1 σ H H1) : Sx B0 I0 H0 r1 σ H1 := ⟨e.rel, s.gox e.go, fun i a h => s.cell i a (by rw [← e.shp.kind]; exact h)⟩
theorem Cel.shp (h : Shp r r1) : Cel r σ r1 σ := fun i e => ⟨by rw [h.kind]; exact e, rfl⟩
theorem Sx.bd {S : List Nat} (s : Sx B0 I0 H0 r σ H) (rel : Rel B0 r1 σ1 H) (b : Bd S r σ r1 σ1) : Sx B0 I0 H0 r1 σ1 H := ⟨rel, s.go, fun i a h h2 => by
  have hi : i ∉ S := fun z => h (b.new i z)
  rw [(b.off i hi).1] at h
  rw [(b.off i hi).2] at h2
  exact s.cell i a h h2⟩
theorem Cel.bd {S : List Nat} (b : Bd S r σ r1 σ1) : Cel r σ r1 σ1 := fun i e => by
  have hi : i ∉ S := fun z => b.nc i z e
  exact ⟨by rw [(b.off i hi).1]; exact e, (b.off i hi).2⟩
end
def okR (B0 I0 : Addr -> Prop) (H0 : Hp) (r : En) (σ : L2.St) (D : Ends) : Res -> Prop
  | .nx r1 => ∀ σ1 H1, Sx B0 I0 H0 r1 σ1 H1 -> Cel r σ r1 σ1 -> D.nx σ1 H1
  | .rt d r1 => ∀ v σ1 H1, Sx B0 I0 H0 r1 σ1 H1 -> Cel r σ r1 σ1 -> Dn (Bf B0 r1 σ1) H1 v d -> D.rt v H1
def tS (s : S) : TS := fun D σ H => ∃ B0 I0 H0 r res, Sx B0 I0 H0 r σ H ∧ run s r = .ok res ∧ okR B0 I0 H0 r σ D res
def tSs (s : List S) : TS := fun D σ H => ∃ B0 I0 H0 r res, Sx B0 I0 H0 r σ H ∧ runs s r = .ok res ∧ okR B0 I0 H0 r σ D res
theorem PS.of {X : Cx} {e : Stmt} {t t' : TS} (h : PS X e t) (w : ∀ D σ H, t' D σ H -> t D σ H) : PS X e t' := ⟨fun pins s σ H D I q => h.run pins s σ H D I (w _ _ _ q)⟩
theorem PSs.of {X : Cx} {e : List Stmt} {t t' : TS} (h : PSs X e t) (w : ∀ D σ H, t' D σ H -> t D σ H) : PSs X e t' := ⟨fun pins s σ H D I q => h.run pins s σ H D I (w _ _ _ q)⟩
theorem okR.from {B0 I0 : Addr -> Prop} {H0 : Hp} {r r1 : En} {σ σ1 : L2.St} {D : Ends} {res : Res} (c : Cel r σ r1 σ1) (h : okR B0 I0 H0 r σ D res) : okR B0 I0 H0 r1 σ1 D res := by
  cases res with
  | nx r2 => exact fun σ2 H2 s c2 => h σ2 H2 s (c.trans c2)
  | rt d r2 => exact fun v σ2 H2 s c2 dn => h v σ2 H2 s (c.trans c2) dn
section
variable {X : Cx} {pos : Pos} {pe pb pc : Expr} {a b c e : E} {s : S} {l : List S} {st : Stmt} {es : List Stmt}
theorem s_nil : PSs X [] (tSs []) := PSs.of pss_nil fun D σ H ⟨B0, I0, H0, r, res, sx, hr, q⟩ => by
  cases hr
  exact q σ H sx (Cel.refl _ _)
theorem s_cons (h1 : PS X st (tS s)) (h2 : PSs X es (tSs l)) : PSs X (st :: es) (tSs (s :: l)) := PSs.of (pss_cons h1 h2) fun D σ H ⟨B0, I0, H0, r, res, sx, hr, q⟩ => by
  obtain ⟨x, e1, hr⟩ := bnd_inv (show (run s r).bnd _ = _ from hr)
  refine ⟨B0, I0, H0, r, x, sx, e1, ?_⟩
  cases x with
  | nx r2 => exact fun σ1 H1 sx2 c => ⟨B0, I0, H0, r2, res, sx2, hr, q.from c⟩
  | rt d r2 =>
    cases hr
    exact fun v σ1 H1 sx2 c dn => q v σ1 H1 sx2 c dn
theorem s_ex (he : PE X pe (tE e)) (hs : swapsWith pe none pos.line X.env = pure false) : PS X (.Expr pe pos) (tS (.ex e)) := PS.of (ps_expr he hs) fun D σ H ⟨B0, I0, H0, r, res, sx, hr, q⟩ => by
  obtain ⟨p, e1, hr⟩ := bnd_inv hr
  cases hr
  exact ⟨B0, r, p.1, p.2, sx.rel, e1, fun v H1 ex dn => q σ H1 (sx.ex ex) (Cel.shp ex.shp)⟩
theorem s_ret (he : PE X pe (tE e)) : PS X (.Return (some pe) pos) (tS (.ret e)) := PS.of (ps_ret he) fun D σ H ⟨B0, I0, H0, r, res, sx, hr, q⟩ => by
  obtain ⟨p, e1, hr⟩ := bnd_inv hr
  cases hr
  exact ⟨B0, r, p.1, p.2, sx.rel, e1, fun v H1 ex dn => q v σ H1 (sx.ex ex) (Cel.shp ex.shp) dn⟩
theorem denC_of {e : E} {r r1 : En} {b : Bool} (h : denC (some e) r = .ok (b, r1)) : den e r = .ok (.bool b, r1) := by
  obtain ⟨p, e1, h⟩ := bnd_inv h
  obtain ⟨p1, p2⟩ := p
  simp only at h
  split at h
  · cases h; exact e1
  · cases h
theorem s_if {l2 : List S} {es2 : List Stmt} (hc : PT X pc (tT c)) (h1 : PSs X es (tSs l)) (h2 : PSs X es2 (tSs l2)) : PS X (.If pc es es2 pos) (tS (.ife c l l2)) := PS.of (ps_if hc h1 h2) fun D σ H ⟨B0, I0, H0, r, res, sx, hr, q⟩ => by
  obtain ⟨p, e1, hr⟩ := bnd_inv hr
  obtain ⟨b, r1⟩ := p
  refine ⟨B0, r, b, r1, sx.rel, denC_of e1, fun H1 ex => ?_⟩
  cases b with
  | true => exact iteT ⟨B0, I0, H0, r1, res, sx.ex ex, hr, q.from (Cel.shp ex.shp)⟩
  | false => exact iteF ⟨B0, I0, H0, r1, res, sx.ex ex, hr, q.from (Cel.shp ex.shp)⟩
theorem s_raise : PS X st (tS (.raise ("" : Str))) := PS.of ps_never fun D σ H ⟨B0, I0, H0, r, res, sx, hr, q⟩ => by cases hr
theorem s_raise' {cn : Str} : PS X st (tS (.raise cn)) := PS.of ps_never fun D σ H ⟨B0, I0, H0, r, res, sx, hr, q⟩ => by cases hr
theorem run_retT_ne {i : Nat} {fs : List (Str × PF)} {ix : E} {l : List E} {r : En} {a : Res} : run (.retT i fs ix l) r ≠ .ok a := fun h => by
  unfold run at h
  split at h
  · split at h <;> cases h
  · cases h
theorem s_retT' {i : Nat} {fs : List (Str × PF)} {ix : E} {q : List E} : PS X st (tS (.retT i fs ix q)) := PS.of ps_never fun D σ H ⟨B0, I0, H0, r, res, sx, hr, _⟩ => absurd hr run_retT_ne
theorem s_retTs' {i : Nat} {fs : List (Str × PF)} {ix : E} {q : List E} : PSs X es (tSs (.retT i fs ix q :: l)) := PSs.of pss_never fun D σ H ⟨B0, I0, H0, r, res, sx, hr, _⟩ => by
  obtain ⟨x, e1, _⟩ := bnd_inv (show (run (.retT i fs ix q) r).bnd _ = _ from hr)
  exact absurd e1 run_retT_ne
/-- a list of one's own is one's own no longer -/
theorem s_fz {i : Nat} (h : PSs X es (tSs l)) : PSs X es (tSs (.fz i :: l)) := PSs.of h fun D σ H ⟨B0, I0, H0, r, res, sx, hr, q⟩ => by
  obtain ⟨x, e1, hr⟩ := bnd_inv (show (run (.fz i) r).bnd _ = _ from hr)
  unfold run at e1
  split at e1
  · rename_i t ht
    cases e1
    have hl : i < r.length := (List.getElem?_eq_some_iff.mp ht).1
    obtain ⟨v, ev, p, xs, rfl, e2, e3, e4⟩ := sx.rel.at' i _ ht
    have off : ∀ j : Nat, j ≠ i -> (r.set i (some (.d (.list t))))[j]? = r[j]? := fun j hj => List.getElem?_set_ne (Ne.symm hj)
    have at0 : (r.set i (some (.d (.list t))))[i]? = some (some (.d (.list t))) := List.getElem?_set_self hl
    have kd0 : ∀ j : Nat, kd (r.set i (some (.d (.list t))))[j]? ≠ 0 -> j ≠ i ∧ kd r[j]? ≠ 0 := fun j hj => by
      by_cases z : j = i
      · subst z; rw [at0] at hj; exact absurd rfl hj
      · rw [off j z] at hj; exact ⟨z, hj⟩
    have ow : ∀ z, own (r.set i (some (.d (.list t)))) σ z -> own r σ z ∧ z ≠ p := fun z hz => by
      obtain ⟨j, h1, h2⟩ := hz
      obtain ⟨nj, hk⟩ := kd0 j h1
      refine ⟨⟨j, hk, h2⟩, fun zp => nj ?_⟩
      rw [zp] at h2
      exact sx.rel.inj j i p hk (by rw [ht]; simp [kd]) h2 ev
    have hB : ∀ z, Bf B0 (r.set i (some (.d (.list t)))) σ z -> Bf B0 r σ z ∨ H z = none := fun z hz => hz.elim (fun y => .inl (.inl y)) fun y => .inl (.inr (ow z y).1)
    refine ⟨B0, I0, H0, _, res, ⟨⟨by rw [List.length_set]; exact sx.rel.len, fun j x hx => ?_, fun j k2 z hj hk2 => ?_, sx.rel.trk⟩, sx.go, fun j z hj hz => sx.cell j z (kd0 j hj).2 hz⟩, hr, q.from fun j hj => ?_⟩
    · by_cases z : j = i
      · subst z
        rw [at0] at hx
        cases hx
        refine ⟨_, ev, .lst (.inl e2) (fun y => y.elim e4 fun y => (ow p y).2 rfl) (e3.mono hB fun _ _ _ e => e)⟩
      · rw [off j z] at hx
        obtain ⟨v2, f1, f2⟩ := sx.rel.at' j x hx
        exact ⟨v2, f1, f2.mono2 hB (fun _ _ _ e => e) fun _ _ _ => ⟨fun _ e => e, Iff.rfl⟩⟩
    · exact sx.rel.inj j k2 z (kd0 j hj).2 (kd0 k2 hk2).2
    · have z : j ≠ i := fun z => by
        subst z
        rw [ht] at hj
        cases hj
      exact ⟨by rw [off j z]; exact hj, rfl⟩
  · cases e1
/-- a slot is forgotten -/
theorem s_drop {i : Nat} (h : PSs X es (tSs l)) : PSs X es (tSs (.drop i :: l)) := PSs.of h fun D σ H ⟨B0, I0, H0, r, res, sx, hr, q⟩ => by
  obtain ⟨x, e1, hr⟩ := bnd_inv (show (run (.drop i) r).bnd _ = _ from hr)
  unfold run at e1
  split at e1
  · cases e1
  · rename_i hnc
    cases e1
    have off : ∀ j : Nat, j ≠ i -> (r.set i none)[j]? = r[j]? := fun j hj => List.getElem?_set_ne (Ne.symm hj)
    have at0 : ∀ x, (r.set i none)[i]? ≠ some (some x) := fun x hx => by
      by_cases hl : i < r.length
      · rw [List.getElem?_set_self hl] at hx; cases hx
      · rw [List.getElem?_eq_none (by rw [List.length_set]; omega)] at hx; cases hx
    have kd0 : ∀ j : Nat, kd (r.set i none)[j]? ≠ 0 -> j ≠ i ∧ kd r[j]? ≠ 0 := fun j hj => by
      by_cases z : j = i
      · subst z
        exfalso
        cases q : (r.set j none)[j]? with
        | none => rw [q] at hj; exact hj rfl
        | some o =>
          cases o with
          | none => rw [q] at hj; exact hj rfl
          | some x => exact at0 x q
      · rw [off j z] at hj; exact ⟨z, hj⟩
    have ow : ∀ z, own (r.set i none) σ z -> own r σ z := fun z hz => by
      obtain ⟨j, h1, h2⟩ := hz
      exact ⟨j, (kd0 j h1).2, h2⟩
    have hB : ∀ z, Bf B0 (r.set i none) σ z -> Bf B0 r σ z ∨ H z = none := fun z hz => hz.elim (fun y => .inl (.inl y)) fun y => .inl (.inr (ow z y))
    refine ⟨B0, I0, H0, _, res, ⟨⟨by rw [List.length_set]; exact sx.rel.len, fun j x hx => ?_, fun j k2 z hj hk2 => ?_, sx.rel.trk⟩, sx.go, fun j z hj hz => sx.cell j z (kd0 j hj).2 hz⟩, hr, q.from fun j hj => ?_⟩
    · by_cases z : j = i
      · subst z; exact absurd hx (at0 x)
      · rw [off j z] at hx
        obtain ⟨v2, f1, f2⟩ := sx.rel.at' j x hx
        exact ⟨v2, f1, f2.mono2 hB (fun _ _ _ e => e) fun _ _ _ => ⟨fun _ e => e, Iff.rfl⟩⟩
    · exact sx.rel.inj j k2 z (kd0 j hj).2 (kd0 k2 hk2).2
    · have z : j ≠ i := fun z => by
        subst z
        cases q : r[j]? with
        | none => rw [q] at hj; cases hj
        | some o =>
          cases o with
          | none => rw [q] at hj; cases hj
          | some x =>
            cases x with
            | c t => exact hnc t q
            | _ => rw [q] at hj; cases hj
      exact ⟨by rw [off j z]; exact hj, rfl⟩
end
end Sb

set_option Elab.async false
set_option linter.all false
set_option maxRecDepth 100000
set_option maxHeartbeats 1000000
/-! SbE: stores. -/
namespace Sb
open PySem PySem.Spec PyProof.Rows L2
section
variable {B0 : Addr -> Prop} {r r1 : En} {σ : L2.St} {H H1 : Hp} {p : Addr}
theorem Rel.add2 (rel : Rel B0 r σ H) (h : H p = none) (hs : Same H H1) (h1 : H1 p ≠ none) : Rel (fun a => B0 a ∨ a = p) r σ H1 := by
  refine ⟨rel.len, fun i x e => ?_, rel.inj, fun a z => ?_⟩
  · obtain ⟨v, e1, e2⟩ := rel.at' i x e
    refine ⟨v, e1, e2.mono2 (fun a z => ?_) (fun a o _ e => hs a o e) fun a hk ev => ⟨fun o => hs a o, ⟨.inl, fun z => ?_⟩⟩⟩
    · rcases z with (z | z) | z
      · exact .inl (.inl z)
      · rw [z]; exact .inr h
      · exact .inl (.inr z)
    · rcases z with z | z
      · exact z
      · have := rel.ownB (a := a) ⟨i, by rw [e]; exact hk, by rw [e1, ev]⟩
        rw [z] at this
        exact absurd h this
  · rcases z with z | z
    · exact (Go.ofSame (O := fun _ => False) hs).live a (rel.trk a z)
    · rw [z]; exact h1
theorem Rel.take {i : Nat} {x : Rv} (rel : Rel (fun a => B0 a ∨ a = p) r σ H) (hn : ¬ B0 p) (ho : ¬ own r σ p) (hf : freeAt r i = true) (hx : RvOk B0 (Bf (fun a => B0 a ∨ a = p) r σ) H (.ref p) x) (hk : kd (some (some x)) ≠ 0) :
    Rel B0 (r.set i (some x)) (σ.set i (some (.ref p))) H := by
  obtain ⟨hc, hl⟩ := freeAt_nc hf
  have hl2 : i < σ.length := by rw [← rel.len]; exact hl
  have off : ∀ j : Nat, j ≠ i -> (r.set i (some x))[j]? = r[j]? ∧ (σ.set i (some (V.ref p)))[j]? = σ[j]? := fun j hj => ⟨List.getElem?_set_ne (Ne.symm hj), List.getElem?_set_ne (Ne.symm hj)⟩
  have a0 : (r.set i (some x))[i]? = some (some x) := List.getElem?_set_self hl
  have b0 : (σ.set i (some (V.ref p)))[i]? = some (some (.ref p)) := List.getElem?_set_self hl2
  have ow : ∀ z, own (r.set i (some x)) (σ.set i (some (.ref p))) z -> own r σ z ∨ z = p := fun z ⟨j, h1, h2⟩ => by
    by_cases e : j = i
    · subst e
      rw [b0] at h2
      cases h2
      exact .inr rfl
    · rw [(off j e).1] at h1
      rw [(off j e).2] at h2
      exact .inl ⟨j, h1, h2⟩
  have hB : ∀ z, Bf B0 (r.set i (some x)) (σ.set i (some (.ref p))) z -> Bf (fun a => B0 a ∨ a = p) r σ z ∨ H z = none := fun z hz => by
    rcases hz with hz | hz
    · exact .inl (.inl (.inl hz))
    · rcases ow z hz with hz | hz
      · exact .inl (.inr hz)
      · exact .inl (.inl (.inr hz))
  refine ⟨by rw [List.length_set, List.length_set]; exact rel.len, fun j y e => ?_, fun j k a hj hk2 ej ek => ?_, fun a z => rel.trk a (.inl z)⟩
  · by_cases hj : j = i
    · subst hj
      rw [a0] at e
      cases e
      exact ⟨_, b0, hx.mono2 hB (fun _ _ _ e => e) fun a _ _ => ⟨fun _ e => e, Iff.rfl⟩⟩
    · rw [(off j hj).1] at e
      obtain ⟨v, e1, e2⟩ := rel.at' j y e
      refine ⟨v, by rw [(off j hj).2]; exact e1, e2.mono2 hB (fun _ _ _ e => e) fun a ha ev => ⟨fun _ e => e, ⟨fun z => ?_, .inl⟩⟩⟩
      rcases z with z | z
      · exact z
      · exact absurd ⟨j, by rw [e]; exact ha, by rw [e1, ev, z]⟩ ho
  · by_cases ej' : j = i
    · by_cases ek' : k = i
      · rw [ej', ek']
      · subst ej'
        rw [b0] at ej
        cases ej
        rw [(off k ek').1] at hk2
        rw [(off k ek').2] at ek
        exact absurd ⟨k, hk2, ek⟩ ho
    · by_cases ek' : k = i
      · subst ek'
        rw [b0] at ek
        cases ek
        rw [(off j ej').1] at hj
        rw [(off j ej').2] at ej
        exact absurd ⟨j, hj, ej⟩ ho
      · rw [(off j ej').1] at hj
        rw [(off j ej').2] at ej
        rw [(off k ek').1] at hk2
        rw [(off k ek').2] at ek
        exact rel.inj j k a hj hk2 ej ek
end
theorem kv_any {B : Addr -> Prop} {H : Hp} {k : Key} : ∀ {ks : List (Key × V)} {kvs : List (Key × D)}, KvOk B H ks kvs -> (ks.any fun kv => decide (kv.1 = k)) = (kvs.any fun p => decide (p.1 = k))
  | _, _, .nil => rfl
  | _, _, @KvOk.cons _ _ k0 v d ks kvs h t => by
    rw [List.any_cons, List.any_cons, kv_any t]
theorem kv_map {B : Addr -> Prop} {H : Hp} {k : Key} {v : V} {d : D} (dv : Dn B H v d) : ∀ {ks : List (Key × V)} {kvs : List (Key × D)}, KvOk B H ks kvs -> KvOk B H (ks.map fun kv => if kv.1 = k then (kv.1, v) else kv) (kvs.map fun p => if p.1 = k then (p.1, d) else p)
  | _, _, .nil => .nil
  | _, _, @KvOk.cons _ _ k0 v0 d0 ks kvs h t => by
    rw [List.map_cons, List.map_cons]
    by_cases e : k0 = k
    · rw [if_pos (show (k0, v0).1 = k from e), if_pos (show (k0, d0).1 = k from e)]
      exact .cons dv (kv_map dv t)
    · rw [if_neg (show ¬ (k0, v0).1 = k from e), if_neg (show ¬ (k0, d0).1 = k from e)]
      exact .cons h (kv_map dv t)
theorem kv_snoc {B : Addr -> Prop} {H : Hp} {k : Key} {v : V} {d : D} (dv : Dn B H v d) : ∀ {ks : List (Key × V)} {kvs : List (Key × D)}, KvOk B H ks kvs -> KvOk B H (ks ++ [(k, v)]) (kvs ++ [(k, d)])
  | _, _, .nil => .cons dv .nil
  | _, _, .cons h t => .cons h (kv_snoc dv t)
theorem kv_put {B : Addr -> Prop} {H : Hp} {k : Key} {v : V} {d : D} (dv : Dn B H v d) {ks : List (Key × V)} {kvs : List (Key × D)} (h : KvOk B H ks kvs) : KvOk B H (L2.putK ks k v) (Sb.putK k d kvs) := by
  unfold L2.putK Sb.putK
  rw [kv_any h]
  split
  · exact kv_map dv h
  · exact kv_snoc dv h
theorem kv_len {B : Addr -> Prop} {H : Hp} : ∀ {ks : List (Key × V)} {kvs : List (Key × D)}, KvOk B H ks kvs -> ks.length = kvs.length
  | _, _, .nil => rfl
  | _, _, .cons h t => by rw [List.length_cons, List.length_cons, kv_len t]
/-- a plain value -/
def plV : D -> Option V
  | .none => some .non
  | .int i => some (.int i)
  | .str x => some (.str x)
  | _ => none
theorem plV_dn {B : Addr -> Prop} {H : Hp} {d : D} {v : V} (h : plV d = some v) : Dn B H v d := by
  cases d <;> first | cases h | skip
  · exact .non
  · exact .int _
  · exact .str _
/-- what a source has given: data, or an object that was not there -/
def NewOk (B0 : Addr -> Prop) (r r1 : En) (σ : L2.St) (H H1 : Hp) (v : V) : Rv -> Prop
  | .d d => Ex B0 r r1 σ H H1 ∧ Dn (Bf B0 r1 σ) H1 v d
  | .o l => Ex B0 r r1 σ H H1 ∧ ∃ p xs, v = .ref p ∧ H p = none ∧ ¬ B0 p ∧ ¬ own r1 σ p ∧ Rel (fun a => B0 a ∨ a = p) r1 σ H1 ∧ H1 p = some (.lst xs) ∧ DnL (fun a => Bf B0 r1 σ a ∨ a = p) H1 xs l
  | .m kvs => ∃ H2 p ks, Ex B0 r r1 σ H H2 ∧ H2 p = none ∧ Same H2 H1 ∧ v = .ref p ∧ H1 p = some (.dK ks) ∧ KvOk (fun a => Bf B0 r1 σ a ∨ a = p) H1 ks kvs
  | .n kvs => ∃ H2 p ks, Ex B0 r r1 σ H H2 ∧ H2 p = none ∧ Same H2 H1 ∧ v = .ref p ∧ H1 p = some (.ext (NdP p ks)) ∧ NvOk (fun a => Bf B0 r1 σ a ∨ a = p) H1 ks kvs
  | .c _ => False
section
variable {B0 : Addr -> Prop} {r r1 r2 : En} {σ : L2.St} {H H1 : Hp} {v : V} {x : Rv}
theorem newO {H2 : Hp} {p : Addr} {xs : List V} {l : List D} (e1 : Ex B0 r r1 σ H H2) (e2 : H2 p = none) (e3 : Same H2 H1) (e5 : H1 p = some (.lst xs)) (e6 : DnL (fun a => Bf B0 r1 σ a ∨ a = p) H1 xs l) : NewOk B0 r r1 σ H H1 (.ref p) (.o l) := by
  have nn : H1 p ≠ none := by rw [e5]; simp
  refine ⟨e1.trans (Ex.ofSame e1.rel e3), p, xs, rfl, ?_, fun z => e1.rel.trk p z e2, fun z => e1.rel.ownB z e2, e1.rel.add2 e2 e3 nn, e5, e6⟩
  by_cases q : H p = none
  · exact q
  · exact absurd e2 (e1.go.live p q)
theorem NewOk.ex (n : NewOk B0 r r1 σ H H1 v x) : Ex B0 r r1 σ H H1 := by
  cases x with
  | d d => exact n.1
  | o l => exact n.1
  | m l => obtain ⟨H2, p, ks, e1, e2, e3, _⟩ := n; exact e1.trans (Ex.ofSame e1.rel e3)
  | n l => obtain ⟨H2, p, ks, e1, e2, e3, _⟩ := n; exact e1.trans (Ex.ofSame e1.rel e3)
  | c l => exact n.elim
/-- as an object: where it is, and that it was not there -/
theorem NewOk.cell (n : NewOk B0 r r1 σ H H1 v x) (hk : kd (some (some x)) ≠ 0) : ∃ p, v = .ref p ∧ H p = none ∧ ¬ B0 p ∧ ¬ own r1 σ p ∧ Rel (fun a => B0 a ∨ a = p) r1 σ H1 ∧ RvOk B0 (Bf (fun a => B0 a ∨ a = p) r1 σ) H1 (.ref p) x ∧ H1 p ≠ none := by
  have fin : ∀ (H2 : Hp) (p : Addr), Ex B0 r r1 σ H H2 -> H2 p = none -> H p = none ∧ ¬ B0 p ∧ ¬ own r1 σ p := fun H2 p e1 e2 => ⟨by
    by_cases q : H p = none
    · exact q
    · exact absurd e2 (e1.go.live p q), fun z => e1.rel.trk p z e2, fun z => e1.rel.ownB z e2⟩
  cases x with
  | d d => exact absurd rfl hk
  | o l =>
    obtain ⟨_, p, xs, e4, f1, f2, f3, rel2, e5, e6⟩ := n
    have nn : H1 p ≠ none := by rw [e5]; simp
    refine ⟨p, e4, f1, f2, f3, rel2, ⟨p, xs, rfl, e5, e6.mono (fun a z => .inl ?_) (fun _ _ _ e => e), f2⟩, nn⟩
    rcases z with (z | z) | z
    · exact .inl (.inl z)
    · exact .inr z
    · exact .inl (.inr z)
  | m l =>
    obtain ⟨H2, p, ks, e1, e2, e3, e4, e5, e6⟩ := n
    obtain ⟨f1, f2, f3⟩ := fin H2 p e1 e2
    have nn : H1 p ≠ none := by rw [e5]; simp
    refine ⟨p, e4, f1, f2, f3, e1.rel.add2 e2 e3 nn, ⟨p, ks, rfl, e5, e6.mono (fun a z => .inl ?_) (fun _ _ _ e => e), f2⟩, nn⟩
    rcases z with (z | z) | z
    · exact .inl (.inl z)
    · exact .inr z
    · exact .inl (.inr z)
  | n l =>
    obtain ⟨H2, p, ks, e1, e2, e3, e4, e5, e6⟩ := n
    obtain ⟨f1, f2, f3⟩ := fin H2 p e1 e2
    have nn : H1 p ≠ none := by rw [e5]; simp
    refine ⟨p, e4, f1, f2, f3, e1.rel.add2 e2 e3 nn, ⟨p, ks, rfl, e5, e6.mono (fun a z => .inl ?_) (fun _ _ _ e => e), f2⟩, nn⟩
    rcases z with (z | z) | z
    · exact .inl (.inl z)
    · exact .inr z
    · exact .inl (.inr z)
  | c l => exact n.elim
theorem Rel.setN {i : Nat} (n : NewOk B0 r r1 σ H H1 v x) (hf : freeAt r1 i = true) : Rel B0 (r1.set i (some x)) (σ.set i (some v)) H1 := by
  by_cases hk : kd (some (some x)) = 0
  · cases x with
    | d d => exact (n.1.rel.setd hf n.2).1
    | o l => cases hk
    | m l => cases hk
    | n l => cases hk
    | c l => cases hk
  · obtain ⟨p, rfl, h1, h2, h3, h4, h5, _⟩ := n.cell hk
    exact h4.take h2 h3 hf h5 hk
end
/-- a slot stored to -/
theorem set_cel {r : En} {σ : L2.St} {i : Nat} {x : Rv} {v : V} (hf : freeAt r i = true) : Cel r σ (r.set i (some x)) (σ.set i (some v)) := fun j hj => by
  have ne : j ≠ i := fun z => by subst z; exact (freeAt_nc hf).1 hj
  rw [List.getElem?_set_ne (Ne.symm ne), List.getElem?_set_ne (Ne.symm ne)]
  exact ⟨hj, rfl⟩
theorem set_cell {I0 : Addr -> Prop} {H0 : Hp} {r : En} {σ : L2.St} {i : Nat} {x : Rv} {v : V} (hl : r.length = σ.length) (h : ∀ (j : Nat) a, kd r[j]? ≠ 0 -> σ[j]? = some (some (.ref a)) -> I0 a ∨ H0 a = none) (hv : kd (some (some x)) ≠ 0 -> ∀ a, v = .ref a -> I0 a ∨ H0 a = none) :
    ∀ (j : Nat) a, kd (r.set i (some x))[j]? ≠ 0 -> (σ.set i (some v))[j]? = some (some (.ref a)) -> I0 a ∨ H0 a = none := fun j a hj ha => by
  by_cases e : i = j
  · subst e
    by_cases hlt : i < r.length
    · rw [List.getElem?_set_self hlt] at hj
      rw [List.getElem?_set_self (by omega)] at ha
      exact hv hj a (Option.some.inj (Option.some.inj ha))
    · rw [List.getElem?_eq_none (by rw [List.length_set]; omega)] at hj
      exact absurd rfl hj
  · rw [List.getElem?_set_ne e] at hj ha
    exact h j a hj ha
theorem Sx.setN {B0 I0 : Addr -> Prop} {H0 : Hp} {r r1 : En} {σ : L2.St} {H H1 : Hp} {v : V} {x : Rv} {i : Nat} (s : Sx B0 I0 H0 r σ H) (n : NewOk B0 r r1 σ H H1 v x) (hf : freeAt r1 i = true) :
    Sx B0 I0 H0 (r1.set i (some x)) (σ.set i (some v)) H1 ∧ Cel r σ (r1.set i (some x)) (σ.set i (some v)) := by
  have s1 := s.ex n.ex
  refine ⟨⟨Rel.setN n hf, s1.go, set_cell s1.rel.len s1.cell fun hk a ha => ?_⟩, (Cel.shp n.ex.shp).trans (set_cel hf)⟩
  obtain ⟨p, e, h1, _⟩ := n.cell hk
  rw [e] at ha
  cases ha
  by_cases q : H0 a = none
  · exact .inr q
  · exact absurd h1 (s.go.live _ q)
def tGv (g : Gv) : TE := fun σ H Q => ∃ B0 r x r1, Rel B0 r σ H ∧ denG g r = .ok (x, r1) ∧ ∀ v H1, NewOk B0 r r1 σ H H1 v x -> Q v H1
section
variable {X : Cx} {pos : Pos} {pe pa pb : Expr} {e a b : E}
theorem g_e (he : PE X pe (tE e)) : PE X pe (tGv (.e e)) := PE.of he fun σ H Q ⟨B0, r, x, r1, rel, hd, q⟩ => by
  obtain ⟨p, h1, hd⟩ := bnd_inv hd
  cases hd
  exact ⟨B0, r, p.1, p.2, rel, h1, fun v H1 ex dn => q v H1 ⟨ex, dn⟩⟩
theorem g_nil : PE X (.List [] pos) (tGv .nil) := PE.of (pe_lst pa_nil) fun σ H Q ⟨B0, r, x, r1, rel, hd, q⟩ => by
  cases hd
  exact ⟨Nat.zero_le _, fun p hp => q _ _ (newO (Ex.refl rel) hp (same_new hp) upd_same .nil)⟩
theorem g_dnil : PE X (.Dict [] [] pos) (tGv .dnil) := PE.of pe_dnewK fun σ H Q ⟨B0, r, x, r1, rel, hd, q⟩ => by
  cases hd
  exact fun p hp => q _ _ ⟨H, p, [], Ex.refl rel, hp, same_new hp, rfl, upd_same, .nil⟩
theorem pe_nnew : PE X (.Dict [] [] pos) (fun _ H Q => ∀ p, H p = none → Q (.ref p) (upd H p (.ext (NdP p [])))) := ⟨fun pins s σ H Q I h =>
  wpAny_Dict_empty ⟨.ref s.heap.objs.size, _, I.laid (a := s.heap.objs.size) (o := .ext (NdP s.heap.objs.size [])) (t' := s.toks) (fun _ _ q => Heap.get?_push_of_some _ q) (Nat.le_refl _)
    (ndP_ok ⟨beq_eq_false_iff_ne.mpr (Ne.symm (Nat.ne_of_lt I.big)), [], .nil, _, #[], 0, Heap.get?_push_size _ rfl, ⟨rfl, rfl, rfl⟩, rfl, rfl, List.nodup_nil⟩), rfl, h _ (I.hok.fresh (Nat.le_refl _))⟩⟩
theorem g_nnil : PE X (.Dict [] [] pos) (tGv .nnil) := PE.of pe_nnew fun σ H Q ⟨B0, r, x, r1, rel, hd, q⟩ => by
  cases hd
  exact fun p hp => q _ _ ⟨H, p, [], Ex.refl rel, hp, same_new hp, rfl, upd_same, .nil⟩
/-- a display of keys and plain values -/
def dlM : List (Key × D) -> List (Option Expr) -> List Expr -> Bool
  | [], ks, vs => match ks, vs with
    | [], [] => true
    | _, _ => false
  | (k, d) :: l, ks, vs => match ks, vs with
    | some (.Constant c _ _) :: ks, .Constant c2 _ _ :: vs => (match k, c with
      | .inl i, .int j => decide (i = j)
      | .inr x, .str y => decide (x = y)
      | _, _ => false) && constB d c2 && (plV d).isSome && dlM l ks vs
    | _, _ => false
def plK : List (Key × D) -> List (Key × V)
  | [] => []
  | (k, d) :: l => (k, (plV d).getD .non) :: plK l
theorem plK_len : ∀ l : List (Key × D), (plK l).length = l.length
  | [] => rfl
  | _ :: l => by simp [plK, plK_len l]
theorem dlM_len : ∀ {l : List (Key × D)} {ks : List (Option Expr)} {vs : List Expr}, dlM l ks vs = true -> ks.length = l.length ∧ vs.length = l.length ∧ ks.all (·.isSome) = true ∧ ∀ p ∈ l, (plV p.2).isSome = true
  | [], ks, vs, h => by
    unfold dlM at h
    split at h
    · exact ⟨rfl, rfl, rfl, fun p hp => by simp at hp⟩
    · cases h
  | (k, d) :: l, ks, vs, h => by
    unfold dlM at h
    split at h
    · simp only [Bool.and_eq_true] at h
      obtain ⟨a, b, c, e⟩ := dlM_len h.2
      refine ⟨by simp [a], by simp [b], by simp [c], fun p hp => ?_⟩
      rcases List.mem_cons.mp hp with z | z
      · rw [z]; exact h.1.2
      · exact e p z
    · cases h
theorem dl_pps : ∀ {l : List (Key × D)} {ks : List (Option Expr)} {vs : List Expr}, dlM l ks vs = true -> PPs X pos ks vs ((plK l).map fun p => (L2.tC (kV p.1), L2.tC p.2))
  | [], ks, vs, h => by
    unfold dlM at h
    split at h
    · exact pps_nil
    · cases h
  | (k, d) :: l, ks, vs, h => by
    unfold dlM at h
    split at h
    · rename_i c _ _ ks c2 _ _ vs
      simp only [Bool.and_eq_true] at h
      obtain ⟨⟨⟨h1, h2⟩, h3⟩, h4⟩ := h
      refine pps_cons ?_ ?_ (dl_pps h4)
      · cases k <;> cases c <;> first | cases h1 | skip
        · have e := of_decide_eq_true h1
          subst e
          exact pe_int
        · have e := of_decide_eq_true h1
          subst e
          exact pe_str
      · cases d <;> cases c2 <;> first | cases h2 | cases h3 | skip
        · exact pe_non
        · have e := of_decide_eq_true h2
          subst e
          exact pe_int
        · have e := of_decide_eq_true h2
          subst e
          exact pe_str
    · cases h
theorem tpairs_c {σ : L2.St} {H : Hp} : ∀ {l : List (Key × V)} {Q : List (V × V) → Hp → Prop}, Q (l.map fun p => (kV p.1, p.2)) H -> tPairs (l.map fun p => (L2.tC (kV p.1), L2.tC p.2)) σ H Q
  | [], Q, h => h
  | p :: l, Q, h => tpairs_c (l := l) (Q := fun ps H3 => Q ((kV p.1, p.2) :: ps) H3) h
theorem kv_merge {B : Addr -> Prop} {H : Hp} : ∀ {l : List (Key × D)} {ks : List (Key × V)} {kvs : List (Key × D)}, (∀ p ∈ l, (plV p.2).isSome = true) -> KvOk B H ks kvs -> KvOk B H (mergeK ks (plK l)) (l.foldl (fun acc p => Sb.putK p.1 p.2 acc) kvs)
  | [], ks, kvs, _, h => h
  | (k, d) :: l, ks, kvs, hp, h => by
    have h1 := hp (k, d) List.mem_cons_self
    cases q : plV d with
    | none => rw [show plV (k, d).2 = plV d from rfl, q] at h1; cases h1
    | some v =>
      have : mergeK ks (plK ((k, d) :: l)) = mergeK (L2.putK ks k v) (plK l) := by
        show List.foldl _ _ ((k, (plV d).getD .non) :: plK l) = _
        rw [List.foldl_cons, q]
        rfl
      rw [this, List.foldl_cons]
      exact kv_merge (fun p hm => hp p (List.mem_cons_of_mem _ hm)) (kv_put (plV_dn q) h)
theorem g_dlit {l : List (Key × D)} {ks : List (Option Expr)} {vs : List Expr} (m : dlM l ks vs = true) (h0 : ks ≠ []) : PE X (.Dict ks vs pos) (tGv (.dlit l)) := by
  obtain ⟨a, b, c, e⟩ := dlM_len m
  by_cases h15 : l.length ≤ 15
  · refine PE.of (pe_disp (dl_pps m) c (by omega) h0 (by omega)) fun σ H Q ⟨B0, r, x, r1, rel, hd, q⟩ => ?_
    obtain ⟨_, hd⟩ := chk_inv hd
    cases hd
    refine fun p hp => tpairs_c ⟨upd_same, plK l, rfl, by rw [plK_len]; exact h15, ?_⟩
    have hs : Same H (upd (upd H p (.dK [])) p (.dK (mergeK [] (plK l)))) := fun z o hz => by
      have hne : z ≠ p := fun q => by rw [q, hp] at hz; cases hz
      unfold upd
      rw [if_neg hne, if_neg hne]
      exact hz
    exact q _ _ ⟨H, p, _, Ex.refl rel, hp, hs, rfl, upd_same, kv_merge e .nil⟩
  · refine ⟨fun pins s σ H Q I ⟨B0, r, x, r1, rel, hd, q⟩ => ?_⟩
    obtain ⟨h, _⟩ := chk_inv hd
    exact absurd (of_decide_eq_true h) h15
theorem g_rep {p2 : Pos} (ha : PE X pa (tE a)) (hb : PE X pb (tE b)) (hp : plainX pa = true) : PE X (.BinOp (.List [pa] p2) .Mult pb pos) (tGv (.rep a b)) :=
  PE.of (pe_op op_rep (pe_lst (pa_cons ha pa_nil (star_plain hp _ _))) hb) fun σ H Q ⟨B0, r, x, r1, rel, hd, q⟩ => by
    obtain ⟨p1, h1, hd⟩ := bnd_inv hd
    obtain ⟨p2, h2, hd⟩ := bnd_inv hd
    split at hd
    · rename_i k ek
      obtain ⟨hc, hd⟩ := chk_inv hd
      cases hd
      simp only [Bool.and_eq_true, decide_eq_true_eq] at hc
      have hc2 := ab_le hc.2
      refine ⟨B0, r, p1.1, p1.2, rel, h1, fun v H1 ex dn => ⟨by show 1 ≤ sizeLine; decide, fun l hl => ?_⟩⟩
      have ex1 := ex.trans (Ex.ofSame ex.rel (same_new (o := .lst [v]) hl))
      refine ⟨B0, p1.2, p2.1, p2.2, ex1.rel, h2, fun w H2 ex2 dn2 => ?_⟩
      rw [ek] at dn2
      cases dn2
      have nl : ¬ own p1.2 σ l := fun z => ex.rel.ownB z hl
      have hl2 : H2 l = some (.lst [v]) := ex2.go.keep _ _ nl upd_same
      have ex3 := ex1.trans ex2
      refine ⟨l, k, [v], rfl, rfl, hl2, by omega, by omega, ?_, fun p hp => q _ _ (newO ex3 hp (same_new hp) upd_same ?_)⟩
      · rw [sizeLine_eq]
        simp only [List.length_singleton, Nat.one_mul]
        omega
      · have dv := ex2.dn ((Ex.ofSame ex.rel (same_new (o := .lst [v]) hl)).dn dn)
        have := (DnL.cons dv DnL.nil).rep k.toNat
        refine this.mono (fun z hz => ?_) fun z o _ e => same_new hp z o e
        rcases hz with hz | hz
        · exact .inl hz
        · rw [hz]; exact .inr hp
    · cases hd
theorem g_mk {f : Str} {sem : List D -> Out (List D)} {l : List E} {es : List Expr} {p2 : Pos} {k : Nat} {e0 : Expr} (F : Fok X.prog X.w X.K X.mg X.base k (.m f l.length sem)) (hr : Room k X.A) (hg : Gl X f) (hd : (f == ("__debug__" : Str)) = false) (ha : PA X (e0 :: es) (tA l)) (hp : ∀ x ∈ e0 :: es, plainX x = true) :
    PE X (.Call (.Name f p2) (e0 :: es) [] pos) (tGv (.mk f sem l)) := by
  obtain ⟨fa, fd, ps, h1, h2, h3, h4⟩ := F
  refine PE.of (pe_call h4 hr hg h1 h2 h3 .nil pass0 ha hd (star_plain (hp e0 List.mem_cons_self) es X.env) (back_any pos X.env fun x hx => hp x (List.mem_cons_of_mem _ hx))) fun σ H Q ⟨B0, r, x, r1, rel, hden, q⟩ => ?_
  obtain ⟨p1, e1, hden⟩ := bnd_inv hden
  obtain ⟨t, e2, hden⟩ := bnd_inv hden
  cases hden
  refine ⟨B0, r, p1.1, p1.2, rel, e1, fun vs H1 ex dn => ?_⟩
  show spM l.length sem (vs ++ []) H1 Q E0
  rw [List.append_nil]
  exact ⟨by rw [dn.length, denL_len e1], _, p1.1, t, ex.rel.trkB, dn, e2, fun p xs H2 hp hs hx hy => q _ _ (newO ex hp hs hx hy)⟩
theorem itemsL_inv {d : D} {l : List D} (h : itemsL d = .ok l) : d = .list l := by
  cases d <;> first | (cases h; rfl) | cases h
theorem g_lst {l : List E} {es : List Expr} (ha : PA X es (tA l)) : PE X (.List es pos) (tGv (.lst l)) :=
  PE.of (pe_lst ha) fun σ H Q ⟨B0, r, x, r1, rel, hd, q⟩ => by
    obtain ⟨p1, h1, hd⟩ := bnd_inv hd
    obtain ⟨hc, hd⟩ := chk_inv hd
    cases hd
    refine ⟨B0, r, p1.1, p1.2, rel, h1, fun vs H1 ex dn => ⟨?_, fun p hp => ?_⟩⟩
    · have := of_decide_eq_true hc
      rw [dn.length, sizeLine_eq]
      exact this
    · refine q _ _ (newO ex hp (same_new hp) upd_same (dn.mono (fun a z => z.elim .inl fun z => .inr (by rw [z]; exact hp)) fun a o _ e => same_new hp a o e))
theorem g_cat (ha : PE X pa (tE a)) (hb : PE X pb (tE b)) : PE X (.BinOp pa .Add pb pos) (tGv (.cat a b)) :=
  PE.of (pe_op op_catS ha hb) fun σ H Q ⟨B0, r, x, r1, rel, hd, q⟩ => by
    obtain ⟨p1, h1, hd⟩ := bnd_inv hd
    obtain ⟨p2, h2, hd⟩ := bnd_inv hd
    obtain ⟨l1, h3, hd⟩ := bnd_inv hd
    obtain ⟨l2, h4, hd⟩ := bnd_inv hd
    obtain ⟨hc, hd⟩ := chk_inv hd
    cases hd
    have e3 := itemsL_inv h3
    have e4 := itemsL_inv h4
    refine ⟨B0, r, p1.1, p1.2, rel, h1, fun v H1 ex dn => ⟨B0, p1.2, p2.1, p2.2, ex.rel, h2, fun w H2 ex2 dn2 => ?_⟩⟩
    have dn := ex2.dn dn
    rw [e3] at dn
    rw [e4] at dn2
    obtain ⟨x1, xs, rfl, a1, a2, a3⟩ := ref_lst dn
    obtain ⟨y1, ys, rfl, b1, b2, b3⟩ := ref_lst dn2
    refine ⟨x1, y1, xs, ys, rfl, rfl, a1, b1, by rw [a3.length, b3.length]; exact small_ok hc, fun p hp => q _ _ (newO (ex.trans ex2) hp (same_new hp) upd_same ?_)⟩
    refine (a3.append b3).mono (fun z hz => ?_) fun z o _ e => same_new hp z o e
    rcases hz with hz | hz
    · exact .inl hz
    · rw [hz]; exact .inr hp
theorem g_lcn {pe pt pi : Expr} {ifs : List Expr} {scope : Scope} {tg : Tg} {it : Src} {cond : Option E} {e : E} {own0 : List (Str × Nat)} (hc : X.calm = true) (hN : X.N.Nodup) (hi : PI X pt pi (tI it)) (ok : BlkOk X.N X.env.scope scope own0)
    (hg : ∀ (s : Shared) (H : Hp) (C : Addr) (cl : List (Str × Addr)) (fp : List Addr), PG (X.blk s H scope (compEnvC scope cl C X.env) fp) pt (tG tg)) (ht : ∀ (s : Shared) (H : Hp) (C : Addr) (cl : List (Str × Addr)) (fp : List Addr), PTs (X.blk s H scope (compEnvC scope cl C X.env) fp) ifs (tCd cond))
    (he : ∀ (s : Shared) (H : Hp) (C : Addr) (cl : List (Str × Addr)) (fp : List Addr), PE (X.blk s H scope (compEnvC scope cl C X.env) fp) pe (tE e)) (hs : ∀ x, foldedSetIterable pi X.env x = pure x)
    (hS : ∀ i ∈ tgS tg, i ∈ own0.map (·.2)) (hv : isV tg = true -> isWeak it = false) : PE X (.ListComp pe [⟨pt, pi, ifs, 0⟩] scope pos) (tGv (.lcn own0 tg it cond e)) :=
  PE.of (pe_lc hc hN hi ok hg ht he hs) fun σ H Q ⟨B0, r, x, r1, rel, hd, q⟩ => by
    obtain ⟨p1, h1, hd⟩ := bnd_inv hd
    obtain ⟨l, h3, hd⟩ := bnd_inv hd
    cases hd
    obtain ⟨p1a, p1b⟩ := p1
    have e3 := itemsL_inv h3
    simp only at e3
    subst e3
    exact lc_ofN hS hv rel h1 fun p xs H1 ex y1 y2 y3 y4 y5 y6 => q _ _ ⟨ex, p, xs, rfl, y1, y2, y3, y4, y5, y6⟩
/-! ### name = source -/
theorem setr_of {i : Nat} {g : Gv} {D : Ends} {σ : L2.St} {H : Hp} (h : tS (.set i g) D σ H) : tAsg (tGv g) (gName i) D σ H := by
  obtain ⟨B0, I0, H0, r, res, sx, hr, q⟩ := h
  obtain ⟨p, e1, hr⟩ := bnd_inv hr
  obtain ⟨r2, e2, hr⟩ := bnd_inv hr
  cases hr
  obtain ⟨hf, rfl⟩ := setD_inv e2
  refine ⟨B0, r, p.1, p.2, sx.rel, e1, fun v H1 n => ?_⟩
  obtain ⟨s1, c1⟩ := sx.setN n hf
  exact q _ _ s1 c1
theorem s_set {i : Nat} {x : Str} {g : Gv} {p2 : Pos} (hN : X.N.Nodup) (hi : X.N[i]? = some x) (hx : Loc X.env.scope x) (he : PE X pe (tGv g)) (hs : swapsWith pe (some (.Name x p2)) pos.line X.env = pure false) (hf : X.fn x = true ∨ X.env.scope.names.lookup x = some .local) :
    PS X (.Assign [.Name x p2] pe pos) (tS (.set i g)) := PS.of (ps_set hN hi hx he hs hf) fun D σ H h => setr_of h
theorem s_setT {tg : Tg} {pt : Expr} (he : PE X pe (tE e)) (hg : PG X pt (tG tg)) (hs : swapsWithSole [pt] pe pos.line X.env = pure false) (hw : swappedStores [pt] pe X.env = pure none) (h1 : (assignEach [pt] X.env).map (·.2) = [assign pt X.env]) :
    PS X (.Assign [pt] pe pos) (tS (.setT tg e)) := PS.of (ps_asg he hg hs hw h1) fun D σ H ⟨B0, I0, H0, r, res, sx, hr, q⟩ => by
  obtain ⟨p, e1, hr⟩ := bnd_inv hr
  obtain ⟨r2, e2, hr⟩ := bnd_inv hr
  cases hr
  refine ⟨B0, r, p.1, p.2, sx.rel, e1, fun v H1 ex dn => ⟨B0, p.2, p.1, r2, ex.rel, ?_, e2, fun σ1 rel bd => ?_⟩⟩
  · cases tg with
    | v i => exact dn
    | t l => exact .inl dn
  · exact q σ1 H1 ((sx.ex ex).bd rel bd) ((Cel.shp ex.shp).trans (Cel.bd bd))
end
end Sb

set_option Elab.async false
set_option linter.all false
set_option maxRecDepth 100000
set_option maxHeartbeats 1000000
/-! SbF: two stores at once, places, append, loops. -/
namespace Sb
open PySem PySem.Spec PyProof.Rows L2
theorem Sx.same {B0 I0 : Addr -> Prop} {H0 : Hp} {r : En} {σ : L2.St} {H H1 : Hp} (s : Sx B0 I0 H0 r σ H) (h : Same H H1) : Sx B0 I0 H0 r σ H1 := s.ex (Ex.ofSame s.rel h)
theorem freeAt_set {r : En} {i j : Nat} {x : Rv} (h : freeAt r j = true) (hij : i ≠ j) : freeAt (r.set i (some x)) j = true := by
  unfold freeAt at h ⊢
  rw [List.getElem?_set_ne hij]
  exact h
theorem freeAt_of {r : En} {i j : Nat} {x : Rv} (h : freeAt (r.set i (some x)) j = true) (hij : i ≠ j) : freeAt r j = true := by
  unfold freeAt at h ⊢
  rw [List.getElem?_set_ne hij] at h
  exact h
theorem kd_cell {x : Rv} : kd (some (some x)) ≠ 0 ↔ isCellR x = true := by cases x <;> simp [kd, isCellR]
theorem Rel.comm {B0 : Addr -> Prop} {r : En} {σ : L2.St} {H : Hp} {p q : Addr} (h : Rel (fun a => (B0 a ∨ a = p) ∨ a = q) r σ H) : Rel (fun a => (B0 a ∨ a = q) ∨ a = p) r σ H := by
  have e : (fun a => (B0 a ∨ a = p) ∨ a = q) = (fun a => (B0 a ∨ a = q) ∨ a = p) := by
    funext a
    apply propext
    constructor
    · rintro ((z | z) | z)
      · exact .inl (.inl z)
      · exact .inr z
      · exact .inl (.inr z)
    · rintro ((z | z) | z)
      · exact .inl (.inl z)
      · exact .inr z
      · exact .inl (.inr z)
  rw [← e]
  exact h
section
variable {X : Cx} {pos : Pos}
theorem set2_of {i j : Nat} {g h : Gv} {D : Ends} {σ : L2.St} {H : Hp} (hh : tS (.set2 i j g h) D σ H) :
    tGv g σ H fun v H1 => tGv h σ H1 fun w H2 => ∀ H3, Same H2 H3 -> D.nx ((σ.set i (some v)).set j (some w)) H3 := by
  obtain ⟨B0, I0, H0, r, res, sx, hr, q⟩ := hh
  obtain ⟨p1, e1, hr⟩ := bnd_inv hr
  obtain ⟨p2, e2, hr⟩ := bnd_inv hr
  obtain ⟨hc, hr⟩ := chk_inv hr
  obtain ⟨r3, e3, hr⟩ := bnd_inv hr
  obtain ⟨r4, e4, hr⟩ := bnd_inv hr
  cases hr
  obtain ⟨f1, rfl⟩ := setD_inv e3
  obtain ⟨f2', rfl⟩ := setD_inv e4
  simp only [Bool.and_eq_true, decide_eq_true_eq] at hc
  obtain ⟨hp, hij⟩ := hc
  have f2 := freeAt_of f2' hij
  obtain ⟨x1, r1⟩ := p1
  obtain ⟨x2, r2⟩ := p2
  simp only at *
  refine ⟨B0, r, x1, r1, sx.rel, e1, fun v H1 n1 => ?_⟩
  have s1 := sx.ex n1.ex
  cases hk : isCellR x1 with
  | false =>
    cases x1 with
    | d d1 =>
      cases hk2 : isCellR x2 with
      | false =>
        cases x2 with
        | d d2 =>
          refine ⟨B0, r1, .d d2, r2, n1.ex.rel, e2, fun w H2 n2 H3 hs => ?_⟩
          have s2 := s1.ex n2.ex
          obtain ⟨ex2, dn2⟩ := n2
          obtain ⟨rel3, bd3⟩ := s2.rel.setd f1 (ex2.dn n1.2)
          have dn2' := dn2.mono (B1 := Bf B0 (r2.set i (some (.d d1))) (σ.set i (some v))) (fun a z => z.elim (fun z => .inl (.inl z)) fun z => .inl (.inr (bd3.own_le z))) fun _ _ _ e => e
          obtain ⟨rel4, bd4⟩ := rel3.setd f2' dn2'
          exact q _ _ (((s2.bd rel3 bd3).bd rel4 bd4).same hs) ((((Cel.shp n1.ex.shp).trans (Cel.shp ex2.shp)).trans (Cel.bd bd3)).trans (Cel.bd bd4))
        | _ => cases hk2
      | true =>
        refine ⟨B0, r1, x2, r2, n1.ex.rel, e2, fun w H2 n2 H3 hs => ?_⟩
        have ex2 := n2.ex
        obtain ⟨p2, rfl, c1, c2, c3, c4, c5, c6⟩ := n2.cell (kd_cell.mpr hk2)
        have go2 : Go I0 H0 H2 := s1.gox ex2.go
        have len2 : r2.length = σ.length := ex2.rel.len
        have cell2 : ∀ (j : Nat) a, kd r2[j]? ≠ 0 -> σ[j]? = some (some (.ref a)) -> I0 a ∨ H0 a = none := fun j a h1 h2 => s1.cell j a (by rw [← ex2.shp.kind]; exact h1) h2
        have dnv : Dn (Bf (fun a => B0 a ∨ a = p2) r2 σ) H2 v d1 := by
          refine n1.2.mono (fun a z => ?_) fun a o n e => ex2.go.keep a o (fun z => n (.inr z)) e
          rcases z with (z | z) | z
          · exact .inl (.inl z)
          · rw [z]; exact .inr c1
          · rw [own_shp ex2.shp] at z; exact .inl (.inr z)
        obtain ⟨rel3, bd3⟩ := c4.setd f1 dnv
        have no3 : ¬ own (r2.set i (some (.d d1))) (σ.set i (some v)) p2 := fun z => c3 (bd3.own_le z)
        have hx2 : RvOk B0 (Bf (fun a => B0 a ∨ a = p2) (r2.set i (some (.d d1))) (σ.set i (some v))) H2 (.ref p2) x2 :=
          c5.mono2 (fun a z => .inl (z.elim .inl fun z => .inr (bd3.own_le z))) (fun _ _ _ e => e) fun a _ ea => ⟨fun _ e => e, Iff.rfl⟩
        have rel4 := rel3.take c2 no3 f2' hx2 (kd_cell.mpr hk2)
        have cell3 := set_cell (i := i) (x := .d d1) (v := v) len2 cell2 fun h => absurd rfl h
        have cell4 := set_cell (i := j) (x := x2) (v := .ref p2) (by rw [List.length_set, List.length_set]; exact len2) cell3 fun _ a ea => by
          cases ea
          by_cases z : H0 p2 = none
          · exact .inr z
          · exact absurd c1 (s1.go.live _ z)
        have s4 : Sx B0 I0 H0 ((r2.set i (some (.d d1))).set j (some x2)) ((σ.set i (some v)).set j (some (.ref p2))) H2 := ⟨rel4, go2, cell4⟩
        exact q _ _ (s4.same hs) ((((Cel.shp n1.ex.shp).trans (Cel.shp ex2.shp)).trans (Cel.bd bd3)).trans (set_cel f2'))
    | _ => cases hk
  | true =>
    obtain ⟨p, rfl, c1, c2, c3, c4, c5, c6⟩ := n1.cell (kd_cell.mpr hk)
    refine ⟨fun a => B0 a ∨ a = p, r1, x2, r2, c4, e2, fun w H2 n2 H3 hs => ?_⟩
    have ex2 := n2.ex
    have no2 : ¬ own r2 σ p := fun z => c3 (by rw [← own_shp ex2.shp]; exact z)
    have hx1 : RvOk B0 (Bf (fun a => B0 a ∨ a = p) r2 σ) H2 (.ref p) x1 := by
      refine c5.mono2 (fun a z => .inl ?_) (fun a o n e => ex2.go.keep a o (fun z => n (.inr z)) e) fun a _ ea => ⟨fun o e => ?_, Iff.rfl⟩
      · rw [Bf_shp ex2.shp] at z; exact z
      · cases ea
        exact ex2.go.keep _ _ c3 e
    have cel12 : Cel r σ r2 σ := (Cel.shp n1.ex.shp).trans (Cel.shp ex2.shp)
    -- what is not in the slots is kept
    have go2 : Go I0 H0 H2 := by
      have g1 : Go (own r1 σ) H1 H2 := ex2.go
      exact s1.gox g1
    have cell2 : ∀ (j : Nat) a, kd r2[j]? ≠ 0 -> σ[j]? = some (some (.ref a)) -> I0 a ∨ H0 a = none := fun j a h1 h2 => s1.cell j a (by rw [← ex2.shp.kind]; exact h1) h2
    have new1 : kd (some (some x1)) ≠ 0 -> ∀ a, V.ref p = .ref a -> I0 a ∨ H0 a = none := fun _ a ea => by
      cases ea
      by_cases z : H0 p = none
      · exact .inr z
      · exact absurd c1 (sx.go.live _ z)
    have len2 : r2.length = σ.length := ex2.rel.len
    have cell3 := set_cell (i := i) len2 cell2 new1
    cases hk2 : isCellR x2 with
    | false =>
      cases x2 with
      | d d2 =>
        have rel3 := ex2.rel.take c2 no2 f1 hx1 (kd_cell.mpr hk)
        have dn2 : Dn (Bf (fun a => B0 a ∨ a = p) r2 σ) H2 w d2 := n2.2
        have hle : ∀ a, Bf B0 (r2.set i (some x1)) (σ.set i (some (.ref p))) a -> Bf (fun a => B0 a ∨ a = p) r2 σ a := fun a z => by
          rcases z with z | ⟨k, h1, h2⟩
          · exact .inl (.inl z)
          · by_cases e : i = k
            · subst e
              rw [List.getElem?_set_self (by rw [← len2]; exact (freeAt_nc f1).2)] at h2
              cases h2
              exact .inl (.inr rfl)
            · rw [List.getElem?_set_ne e] at h1 h2
              exact .inr ⟨k, h1, h2⟩
        obtain ⟨rel4, bd4⟩ := rel3.setd f2' (dn2.mono (fun a z => .inl (hle a z)) fun _ _ _ e => e)
        have s3 : Sx B0 I0 H0 (r2.set i (some x1)) (σ.set i (some (.ref p))) H2 := ⟨rel3, go2, cell3⟩
        exact q _ _ ((s3.bd rel4 bd4).same hs) ((cel12.trans (set_cel f1)).trans (Cel.bd bd4))
      | _ => cases hk2
    | true =>
      obtain ⟨p2, rfl, d1, d2, d3, d4, d5, d6⟩ := n2.cell (kd_cell.mpr hk2)
      have np : p2 ≠ p := fun z => d2 (.inr z)
      have hx1' : RvOk (fun a => B0 a ∨ a = p2) (Bf (fun a => (B0 a ∨ a = p2) ∨ a = p) r2 σ) H2 (.ref p) x1 := by
        -- the first list was there before the second
        have key : ∀ a, Bf (fun a => (B0 a ∨ a = p2) ∨ a = p) r2 σ a -> Bf (fun a => B0 a ∨ a = p) r1 σ a ∨ H1 a = none := fun a z => by
          rcases z with ((z | z) | z) | z
          · exact .inl (.inl (.inl z))
          · rw [z]; exact .inr d1
          · exact .inl (.inl (.inr z))
          · rw [own_shp ex2.shp] at z; exact .inl (.inr z)
        refine c5.mono2 key (fun a o n e => ex2.go.keep a o (fun z => n (.inr z)) e) fun a _ ea => ⟨fun o e => ?_, ?_⟩
        · cases ea
          exact ex2.go.keep _ _ c3 e
        · cases ea
          exact ⟨.inl, fun z => z.elim id fun z => absurd z.symm np⟩
      have rel3 := d4.comm.take (fun z => z.elim c2 fun z => np z.symm) no2 f1 hx1' (kd_cell.mpr hk)
      have no3 : ¬ own (r2.set i (some x1)) (σ.set i (some (.ref p))) p2 := fun ⟨k, h1, h2⟩ => by
        by_cases e : i = k
        · subst e
          rw [List.getElem?_set_self (by rw [← len2]; exact (freeAt_nc f1).2)] at h2
          cases h2
          exact np rfl
        · rw [List.getElem?_set_ne e] at h1 h2
          exact d3 ⟨k, h1, h2⟩
      have hx2 : RvOk B0 (Bf (fun a => B0 a ∨ a = p2) (r2.set i (some x1)) (σ.set i (some (.ref p)))) H2 (.ref p2) x2 := by
        refine d5.mono2 (fun a z => .inl ?_) (fun _ _ _ e => e) fun a _ ea => ⟨fun _ e => e, ?_⟩
        · rcases z with (z | z) | ⟨k, h1, h2⟩
          · exact .inl (.inl (.inl z))
          · exact .inl (.inr z)
          · by_cases e : i = k
            · subst e
              rw [List.getElem?_set_self (by rw [← len2]; exact (freeAt_nc f1).2)] at h2
              cases h2
              exact .inl (.inl (.inr rfl))
            · rw [List.getElem?_set_ne e] at h1 h2
              exact .inr ⟨k, h1, h2⟩
        · cases ea
          exact ⟨fun z => z.elim id fun z => absurd z np, .inl⟩
      have rel4 := rel3.take (fun z => d2 (.inl z)) no3 f2' hx2 (kd_cell.mpr hk2)
      have cell4 := set_cell (i := j) (x := x2) (v := .ref p2) (by rw [List.length_set, List.length_set]; exact len2) cell3 fun _ a ea => by
        cases ea
        by_cases z : H0 p2 = none
        · exact .inr z
        · exact absurd d1 (s1.go.live _ z)
      have s4 : Sx B0 I0 H0 ((r2.set i (some x1)).set j (some x2)) ((σ.set i (some (.ref p))).set j (some (.ref p2))) H2 := ⟨rel4, go2, cell4⟩
      exact q _ _ (s4.same hs) ((cel12.trans (set_cel f1)).trans (set_cel f2'))
end
end Sb

set_option Elab.async false
set_option linter.all false
set_option maxRecDepth 100000
set_option maxHeartbeats 1000000
/-! SbG: places, append, loops. -/
namespace Sb
open PySem PySem.Spec PyProof.Rows L2
theorem go_upd {H : Hp} {p : Addr} {o : HO} : Go (fun b => b = p) H (upd H p o) := ⟨fun a u n e => by rw [upd_ne n]; exact e, fun a e => by
  by_cases z : a = p
  · rw [z, upd_same]; simp
  · rw [upd_ne z]; exact e⟩
/-- a list of one's own is written -/
theorem wr_cell {B0 : Addr -> Prop} {r : En} {σ : L2.St} {H : Hp} {s : Nat} {p : Addr} {t t2 : List D} {ys : List V} (rel : Rel B0 r σ H) (hc : cellOf r s = .ok t) (hs : σ[s]? = some (some (.ref p))) (ow : own r σ p) (hy : DnL (Bf B0 r σ) H ys t2) :
    Ex B0 r (recell r s t2) σ H (upd H p (.lst ys)) :=
  Ex.recell rel hc hs ow go_upd upd_same (hy.mono (fun _ z => .inl z) fun a o n e => by rw [upd_ne (fun z => n (by rw [z]; exact .inr ow))]; exact e)
section
variable {X : Cx} {pos : Pos} {pe pi pc pb pf pj : Expr} {e i c b f j : E} {s t : Nat} {x y : Str} {p2 p3 p4 p5 : Pos}
theorem s_app {ap cp : Pos} (hN : X.N[s]? = some x) (hv : Vis X.env.scope x) (hd : (x == ("__debug__" : Str)) = false) (hcd : (x == ("__classdict__" : Str)) = false) (he : PE X pe (tE e)) (hp : plainX pe = true) (hl : (ap.endLine == cp.line) = true) :
    PS X (.Expr (.Call (.Attribute (.Name x p2) "append" ap) [pe] [] cp) pos) (tS (.app s e)) := by
  have hs := star_plain hp [] X.env
  have few : ((backTo cp (starEach [pe] X.env)).all (fun x => !x.1) && (backToKw cp (keywordEach [] X.env)).all (fun x => x.1.isSome)
      && decide (([pe] : List Expr).length + ([] : List Keyword).length + (if ([] : List Keyword).isEmpty then 0 else 1) < 30)) = true := by
    rw [hs]; rfl
  refine PS.of (ps_expr (pe_bm PySem.F.plainAttrs_list PySem.F.slot_list_append PySem.F.type_list_append mt_append (pe_var hN hv hd hcd) (pa_cons he pa_nil hs) (base_plain rfl _ _ _) few hl hs rfl) rfl) fun D σ H ⟨B0, I0, H0, r, res, sx, hr, q⟩ => ?_
  obtain ⟨t0, h0, hr⟩ := bnd_inv hr
  obtain ⟨p1, h1, hr⟩ := bnd_inv hr
  obtain ⟨t1, h2, hr⟩ := bnd_inv hr
  obtain ⟨h3, hr⟩ := chk_inv hr
  cases hr
  obtain ⟨p, xs0, hv0, hx0, _, _⟩ := cell_at sx.rel h0
  refine ⟨_, hv0, .inl ⟨rfl, xs0, .inl (.inl hx0)⟩, B0, r, p1.1, p1.2, sx.rel, h1, fun v H1 ex dn => ?_⟩
  obtain ⟨p', xs, c1, c2, c3, c4⟩ := cell_at ex.rel h2
  rw [hv0] at c1
  cases c1
  have hz := of_decide_eq_true (show decide (t1.length + 1 ≤ 16777216) = true from h3)
  refine ⟨p, xs, v, rfl, rfl, c2, by rw [c3.length, sizeLine_eq]; omega, ?_⟩
  have ex2 := wr_cell ex.rel h2 hv0 c4 (c3.append (.cons dn .nil))
  exact q σ _ ((sx.ex ex).ex ex2) ((Cel.shp ex.shp).trans (Cel.shp ex2.shp))
theorem setCell_inv {r r1 : En} {d x : D} (h : setCell r s d x = .ok r1) : ∃ l k jj, cellOf r s = .ok l ∧ d = .int k ∧ ixN l.length k = some jj ∧ r1 = recell r s (l.set jj x) := by
  obtain ⟨l, h1, h⟩ := bnd_inv h
  split at h
  · obtain ⟨jj, h2, h⟩ := bnd_inv h
    cases h
    exact ⟨l, _, jj, h1, rfl, ofO_inv h2, rfl⟩
  · cases h
/-- the list's place written, by values -/
theorem put_of {B0 : Addr -> Prop} {r r1 : En} {σ : L2.St} {H : Hp} {w v : V} {d dx : D} {p : Addr} (rel : Rel B0 r σ H) (hs : σ[s]? = some (some (.ref p))) (di : Dn (Bf B0 r σ) H w d) (dv : Dn (Bf B0 r σ) H v dx) (h : setCell r s d dx = .ok r1) {Q : Hp -> Prop} (q : ∀ H1, Ex B0 r r1 σ H H1 -> Q H1) :
    rSetL (.ref p) w v H Q := by
  obtain ⟨l, k, jj, h1, rfl, h2, rfl⟩ := setCell_inv h
  cases di
  obtain ⟨p', xs, c1, c2, c3, c4⟩ := cell_at rel h1
  rw [hs] at c1
  cases c1
  exact ⟨p, xs, k, jj, rfl, rfl, c2, by rw [c3.length]; exact h2, q _ (wr_cell rel h1 hs c4 (c3.set dv jj))⟩
theorem s_setix (hN : X.N[s]? = some x) (hv : Vis X.env.scope x) (hd : (x == ("__debug__" : Str)) = false) (hcd : (x == ("__classdict__" : Str)) = false) (he : PE X pe (tE e)) (hi : PE X pi (tE i)) (hp : plainX pi = true)
    (hs : swapsWithSole [.Subscript (.Name x p2) pi p3] pe pos.line X.env = pure false) :
    PS X (.Assign [.Subscript (.Name x p2) pi p3] pe pos) (tS (.setix s i e)) := by
  have ha : ∀ v, assign (.Subscript (.Name x p2) pi p3) X.env v = (do
      let ov ← holding [v] (eval (.Name x p2) X.env)
      let iv ← holding [v, ov] (eval pi X.env)
      standAt p3
      holding [v, ov, iv] (setItem ov iv v)
      release [v, ov, iv] []) := fun v => by
    cases pi <;> first | rfl | cases hp
  refine PS.of (ps_asg he (pg_sub (pe_var hN hv hd hcd) hi set_list ha) hs rfl rfl) fun D σ H ⟨B0, I0, H0, r, res, sx, hr, q⟩ => ?_
  obtain ⟨p1, h1, hr⟩ := bnd_inv hr
  obtain ⟨t0, h0, hr⟩ := bnd_inv hr
  obtain ⟨p2, h2, hr⟩ := bnd_inv hr
  obtain ⟨r3, h3, hr⟩ := bnd_inv hr
  cases hr
  refine ⟨B0, r, p1.1, p1.2, sx.rel, h1, fun v H1 ex dn => ?_⟩
  obtain ⟨p, xs0, hv0, hx0, _, _⟩ := cell_at ex.rel h0
  refine ⟨_, hv0, B0, p1.2, p2.1, p2.2, ex.rel, h2, fun w H2 ex2 dn2 => ?_⟩
  refine put_of ex2.rel hv0 dn2 (ex2.dn dn) h3 fun H3 ex3 => ?_
  exact q σ _ (((sx.ex ex).ex ex2).ex ex3) (((Cel.shp ex.shp).trans (Cel.shp ex2.shp)).trans (Cel.shp ex3.shp))
theorem s_setix2 {p6 p7 : Pos} {k1 k2 : Nat} (hc : X.calm = true) (hN : X.N[s]? = some x) (hv : Vis X.env.scope x) (hd : (x == ("__debug__" : Str)) = false) (hcd : (x == ("__classdict__" : Str)) = false) (hN2 : X.N[t]? = some y) (hv2 : Vis X.env.scope y) (hd2 : (y == ("__debug__" : Str)) = false) (hcd2 : (y == ("__classdict__" : Str)) = false)
    (he : PE X pe (tE e)) (hf : PE X pf (tE f)) (hi : PE X pi (tE i)) (hj : PE X pj (tE j)) (hpe : plainX pe = true) (hpf : plainX pf = true) (hp : plainX pi = true) (hq : plainX pj = true) :
    PS X (.Assign [.Tuple [.Subscript (.Name x p2) pi p3, .Subscript (.Name y p4) pj p5] k1 p6] (.Tuple [pe, pf] k2 p7) pos) (tS (.setix2 s t i j e f)) := by
  have ha : ∀ v, assign (.Subscript (.Name x p2) pi p3) X.env v = (do
      let ov ← holding [v] (eval (.Name x p2) X.env)
      let iv ← holding [v, ov] (eval pi X.env)
      standAt p3
      holding [v, ov, iv] (setItem ov iv v)
      release [v, ov, iv] []) := fun v => by
    cases pi <;> first | rfl | cases hp
  have hb : ∀ v, assign (.Subscript (.Name y p4) pj p5) X.env v = (do
      let ov ← holding [v] (eval (.Name y p4) X.env)
      let iv ← holding [v, ov] (eval pj X.env)
      standAt p5
      holding [v, ov, iv] (setItem ov iv v)
      release [v, ov, iv] []) := fun v => by
    cases pj <;> first | rfl | cases hq
  have g1 := pg_sub (pe_var hN hv hd hcd) hi (set_list (X := X)) ha
  have g2 := pg_sub (pe_var hN2 hv2 hd2 hcd2) hj (set_list (X := X)) hb
  have sw : swappedStores [.Tuple [.Subscript (.Name x p2) pi p3, .Subscript (.Name y p4) pj p5] k1 p6] (.Tuple [pe, pf] k2 p7) X.env = pure none := by
    unfold swappedStores
    simp
  refine PS.of (ps_asg (pe_tupF (pa_cons he (pa_cons hf pa_nil (star_plain hpf _ _)) (star_plain hpe _ _))) (pg_tup (n := 2) hc (pgs_cons g1 (pgs_cons g2 pgs_nil rfl) rfl) rfl rfl) rfl sw rfl) fun D σ H ⟨B0, I0, H0, r, res, sx, hr, q⟩ => ?_
  obtain ⟨p1, h1, hr⟩ := bnd_inv hr
  obtain ⟨p2, h2, hr⟩ := bnd_inv hr
  obtain ⟨t0, h0, hr⟩ := bnd_inv hr
  obtain ⟨a1, h3, hr⟩ := bnd_inv hr
  obtain ⟨r2, h4, hr⟩ := bnd_inv hr
  obtain ⟨t1, h5, hr⟩ := bnd_inv hr
  obtain ⟨b1, h6, hr⟩ := bnd_inv hr
  obtain ⟨r3, h7, hr⟩ := bnd_inv hr
  cases hr
  refine ⟨B0, r, p1.1, p1.2, sx.rel, h1, fun v H1 ex dn => ⟨B0, p1.2, p2.1, p2.2, ex.rel, h2, fun w H2 ex2 dn2 => ⟨by show 2 ≤ sizeLine; decide, fun pt ot hpt hot => ?_⟩⟩⟩
  have hsm := same_new (o := .frz ot (.tup [v, w])) hpt
  have ex3 := Ex.ofSame ex2.rel hsm
  have dv := ex3.dn (ex2.dn dn)
  have dw := ex3.dn dn2
  refine ⟨pt, [v, w], rfl, .inl (.inr ⟨ot, upd_same⟩), rfl, v, [w], rfl, ?_⟩
  obtain ⟨q1, xs1, hv1, _, _, _⟩ := cell_at ex3.rel h0
  refine ⟨_, hv1, B0, p2.2, a1.1, a1.2, ex3.rel, h3, fun u H3 ex4 du => put_of ex4.rel hv1 du (ex4.dn dv) h4 fun H4 ex5 => ⟨w, [], rfl, ?_⟩⟩
  obtain ⟨q2, xs2, hv2, _, _, _⟩ := cell_at ex5.rel h5
  refine ⟨_, hv2, B0, r2, b1.1, b1.2, ex5.rel, h6, fun u2 H5 ex6 du2 => put_of ex6.rel hv2 du2 (ex6.dn (ex5.dn (ex4.dn dw))) h7 fun H6 ex7 => ⟨rfl, ?_⟩⟩
  have exA := ((((((ex.trans ex2).trans ex3).trans ex4).trans ex5).trans ex6).trans ex7)
  exact q σ _ (sx.ex exA) (Cel.shp exA.shp)
end
section
variable {X : Cx} {pos : Pos} {pt pi pc : Expr} {tg : Tg} {it : Src} {c : E} {body : List S} {es : List Stmt}
/-- from a loop's own beginning -/
theorem Sx.up {B0 I0 : Addr -> Prop} {H0 : Hp} {r rc : En} {σ σc : L2.St} {H Hc : Hp} (s : Sx B0 I0 H0 r σ H) (t : Sx B0 (Sb.own r σ) H rc σc Hc) : Sx B0 I0 H0 rc σc Hc := by
  refine ⟨t.rel, s.gox t.go, fun i a h1 h2 => ?_⟩
  rcases t.cell i a h1 h2 with z | z
  · exact s.own z
  · by_cases e : H0 a = none
    · exact .inr e
    · exact absurd z (s.go.live a e)
theorem Sx.self {B0 I0 : Addr -> Prop} {H0 : Hp} {r : En} {σ : L2.St} {H : Hp} (s : Sx B0 I0 H0 r σ H) : Sx B0 (Sb.own r σ) H r σ H := ⟨s.rel, Go.refl _ _, fun i a h1 h2 => .inl ⟨i, h1, h2⟩⟩
theorem s_loop (po : PassesOwn (model X.prog X.w) X.A X.env X.xe) (hc : X.calm = true) (hi : PI X pt pi (tI it)) (hg : PG X pt (tG tg)) (hb : PSs X es (tSs body)) (hs : ∀ x, foldedSetIterable pi X.env x = pure x) (hv : isV tg = true -> isWeak it = false) :
    PS X (.For pt pi es [] pos) (tS (.loop tg it body)) := PS.of (ps_for po hc hi hg hb hs) fun D σ H ⟨B0, I0, H0, r, res, sx, hr, q⟩ => by
  obtain ⟨p, h1, hr⟩ := bnd_inv hr
  obtain ⟨l, r1⟩ := p
  simp only at hr
  refine ⟨B0, r, l, r1, sx.rel, h1, fun J H1 ex hw => ?_⟩
  have s1 := sx.ex ex
  refine ⟨fun k m σc Hc => m = l.length - k ∧ k ≤ l.length ∧ ∃ rc, Sx B0 (Sb.own r1 σ) H1 rc σc Hc ∧ Cel r σ rc σc ∧ forA (fun x r1 => (bindT tg x r1).bnd fun r2 => runs body r2) (l.drop k) rc = .ok res,
    ⟨l.length, by simp, Nat.zero_le _, r1, s1.self, Cel.shp ex.shp, by simpa using hr⟩, ?_⟩
  rintro k m σc Hc ⟨rfl, hk, rc, sc, cc, hf⟩
  have hB : ∀ a, Bf B0 rc σc a -> Bf B0 r1 σ a ∨ H1 a = none := fun a z => z.elim (fun z => .inl (.inl z)) fun z => (sc.own z).elim (fun z => .inl (.inr z)) .inr
  obtain ⟨w1, w2⟩ := hw (Bf B0 rc σc) Hc hB fun a o n e => sc.go.keep a o (fun z => n (.inr z)) e
  by_cases hlt : k < l.length
  · have hx : l[k]? = some l[k] := List.getElem?_eq_getElem hlt
    obtain ⟨g1, g2⟩ := w2 k l[k] hx
    rw [List.drop_eq_getElem_cons hlt] at hf
    obtain ⟨a, h2, hf⟩ := bnd_inv (show ((bindT tg l[k] rc).bnd fun r2 => runs body r2).bnd _ = _ from hf)
    obtain ⟨rb, h3, h4⟩ := bnd_inv h2
    refine .inr ⟨g1, fun σn Hn => ∃ rn, Sx B0 (Sb.own r1 σ) H1 rn σn Hn ∧ Cel r σ rn σn ∧ forA (fun x r1 => (bindT tg x r1).bnd fun r2 => runs body r2) (l.drop (k + 1)) rn = .ok res, fun σ' H' hN => ?_, fun x H' hy => ?_⟩
    · obtain ⟨rn, n1, n2, n3⟩ := hN
      exact ⟨l.length - (k + 1), by omega, rfl, hlt, rn, n1, n2, n3⟩
    · obtain ⟨hsm, dw, dn⟩ := g2 x H' hy
      have sc2 := sc.same hsm
      refine ⟨B0, rc, l[k], rb, sc2.rel, dwT_of hv dw dn, h3, fun σ1 relb bd => ?_⟩
      have sb := sc2.bd relb bd
      refine ⟨B0, Sb.own r1 σ, H1, rb, a, sb, h4, ?_⟩
      cases a with
      | nx r2 => exact fun σ2 H2 s2 c2 => ⟨r2, s2, (cc.trans (Cel.bd bd)).trans c2, hf⟩
      | rt d r2 =>
        cases hf
        exact fun v σ2 H2 s2 c2 dn2 => q v σ2 H2 (s1.up s2) ((cc.trans (Cel.bd bd)).trans c2) dn2
  · have e : k = l.length := by omega
    subst e
    rw [List.drop_length] at hf
    cases hf
    exact .inl ⟨w1, q σc Hc (s1.up sc) cc⟩
theorem s_while {n : Nat} (po : PassesOwn (model X.prog X.w) X.A X.env X.xe) (hc : PT X pc (tT c)) (hb : PSs X es (tSs body)) : PS X (.While pc es [] pos) (tS (.wh n c body)) := PS.of (ps_while po hc hb) fun D σ H ⟨B0, I0, H0, r, res, sx, hr, q⟩ => by
  refine ⟨fun m σc Hc => ∃ rc, Sx B0 I0 H0 rc σc Hc ∧ Cel r σ rc σc ∧ whA (fun r1 => denC (some c) r1) (fun r1 => runs body r1) m rc = .ok res, ⟨n, r, sx, Cel.refl _ _, hr⟩, ?_⟩
  rintro m σc Hc ⟨rc, sc, cc, hw⟩
  cases m with
  | zero => cases hw
  | succ m =>
    obtain ⟨p, h1, hw⟩ := bnd_inv (show (denC (some c) rc).bnd _ = _ from hw)
    obtain ⟨b, r1⟩ := p
    refine ⟨B0, rc, b, r1, sc.rel, denC_of h1, fun H1 ex => ?_⟩
    have s1 := sc.ex ex
    have c1 := cc.trans (Cel.shp (σ := σc) ex.shp)
    cases b with
    | true =>
      obtain ⟨a, h2, hw⟩ := bnd_inv (show (runs body r1).bnd _ = _ from hw)
      refine iteT ⟨fun σn Hn => ∃ rn, Sx B0 I0 H0 rn σn Hn ∧ Cel r σ rn σn ∧ whA (fun r1 => denC (some c) r1) (fun r1 => runs body r1) m rn = .ok res, fun σ' H' ⟨rn, n1, n2, n3⟩ => ⟨m, Nat.lt_succ_self _, rn, n1, n2, n3⟩, B0, I0, H0, r1, a, s1, h2, ?_⟩
      cases a with
      | nx r2 => exact fun σ2 H2 s2 c2 => ⟨r2, s2, c1.trans c2, hw⟩
      | rt d r2 =>
        cases hw
        exact fun v σ2 H2 s2 c2 dn2 => q v σ2 H2 s2 (c1.trans c2) dn2
    | false =>
      cases hw
      exact iteF (q σc H1 s1 c1)
end
end Sb

set_option Elab.async false
set_option linter.all false
set_option maxRecDepth 100000
set_option maxHeartbeats 1000000
/-! SbH: the remaining stores; statements against the row's syntax. -/
namespace Sb
open PySem PySem.Spec PyProof.Rows L2
/-- a comprehension -/
def compX : Expr -> Bool
  | .ListComp _ _ _ _ => true
  | .SetComp _ _ _ _ => true
  | .DictComp _ _ _ _ _ => true
  | _ => false
theorem sw_not {pe : Expr} (h : compX pe = false) (t : Option Expr) (l : Nat) (env : Env) : swapsWith pe t l env = pure false := by
  cases pe <;> first | rfl | cases h
theorem sw_other {pe t : Expr} (l : Nat) (env : Env) (h : ∀ x p, t ≠ .Name x p) : swapsWith pe (some t) l env = pure false := by
  unfold swapsWith
  cases pe <;> first | rfl | (cases t <;> first | rfl | exact absurd rfl (h _ _))
def swB (sc : Scope) (x : Str) (px : Pos) (e : Expr) : Bool := match e with
  | .ListComp _ _ scope pos => (decide (sc.names.lookup x = some .local) && (px.line == pos.line) && !(scope.names.any fun (n, k) => n == x && (k == .local || k == .cell))) || decide (sc.names.lookup x = some .cell)
  | e => !compX e
theorem sw_cell {elt : Expr} {gs : List Comprehension} {scope : Scope} {pos py : Pos} {y : Str} {l : Nat} {env : Env} (hy : env.scope.names.lookup y = some .cell) : swapsWith (.ListComp elt gs scope pos) (some (.Name y py)) l env = pure false := by
  have ky : env.kindOf y = some .cell := hy
  have z : ((some NameKind.cell : Option NameKind) == some NameKind.local) = false := rfl
  unfold swapsWith
  simp only [ky, z, Bool.and_false, Bool.false_and]
theorem sw2_some {env : Env} {x y : Str} {px py pt pt2 : Pos} {kt k2 : Nat} {a b : Expr} (hk : env.scope.kind = .function) (hx : env.scope.names.lookup x = some .local) (hy : env.scope.names.lookup y = some .local) (hl : (py.line == px.line) = true) (hxy : x ≠ y) (h1 : [a, b].all (foldedForSure 8) = false) (h2 : [a, b].all (constantsAlone 8) = false) (ha : plainX a = true) (hb : plainX b = true) :
    swappedStores [.Tuple [.Name x px, .Name y py] kt pt] (.Tuple [a, b] k2 pt2) env = pure (some [x, y]) := by
  have kx : env.kindOf x = some .local := hx
  have ky : env.kindOf y = some .local := hy
  have hbk : env.blockKind = .function := by unfold Env.blockKind; rw [hk]; rfl
  have hs : ∀ e : Expr, plainX e = true -> ((fun | .Starred .. => true | _ => false : Expr → Bool) e) = false := fun e h => by
    cases e <;> first | rfl | cases h
  have hne : (x == y) = false := by simpa using hxy
  have hne' : (y == x) = false := by simpa using Ne.symm hxy
  have sa := hs a ha
  have sb := hs b hb
  have hsAny : ([a, b].any fun | .Starred .. => true | _ => false) = false := by
    rw [List.any_cons, List.any_cons, List.any_nil]
    show (((fun | .Starred .. => true | _ => false : Expr → Bool) a) || (((fun | .Starred .. => true | _ => false : Expr → Bool) b) || false)) = false
    rw [sa, sb]
    rfl
  have hdup : ([x, y].eraseDups.length != [x, y].length) = false := by
    simp [List.eraseDups_cons, hne, hne']
  unfold swappedStores
  dsimp only [bind, pure]
  rw [if_neg (by simp [hbk])]
  refine (if_neg (fun z => Bool.noConfusion (hsAny.symm.trans z))).trans ?_
  have e1 : (env.kindOf x == some NameKind.local && px.line == (Option.map (fun x => x.pos.line) [Expr.Name x px, Expr.Name y py].head?).getD 0) = true := by simp [kx, Expr.pos]
  have e2 : (env.kindOf y == some NameKind.local && py.line == (Option.map (fun x => x.pos.line) [Expr.Name x px, Expr.Name y py].head?).getD 0) = true := by
    rw [ky]
    show (_ && (py.line == px.line)) = true
    rw [hl]; rfl
  simp only [List.filterMap_cons, List.filterMap_nil, e1, e2, if_true]
  rw [if_neg (by rw [hdup]; simp), if_neg (by rw [h1]; decide), if_neg (by rw [h2]; decide)]
theorem sw2_none {env : Env} {x y : Str} {px py pt pt2 : Pos} {kt k2 : Nat} {a b : Expr} (h : env.scope.names.lookup x ≠ some .local ∨ env.scope.names.lookup y ≠ some .local ∨ [a, b].all (foldedForSure 8) = true) :
    swappedStores [.Tuple [.Name x px, .Name y py] kt pt] (.Tuple [a, b] k2 pt2) env = pure none := by
  unfold swappedStores
  dsimp only [bind, pure]
  split
  · rfl
  · split
    · rfl
    · by_cases e1 : (env.kindOf x == some NameKind.local && px.line == (Option.map (fun x => x.pos.line) [Expr.Name x px, Expr.Name y py].head?).getD 0) = true
      · by_cases e2 : (env.kindOf y == some NameKind.local && py.line == (Option.map (fun x => x.pos.line) [Expr.Name x px, Expr.Name y py].head?).getD 0) = true
        · simp only [List.filterMap_cons, List.filterMap_nil, e1, e2, if_true]
          split
          · rfl
          · rcases h with h | h | h
            · simp only [Bool.and_eq_true, beq_iff_eq] at e1
              exact absurd e1.1 h
            · simp only [Bool.and_eq_true, beq_iff_eq] at e2
              exact absurd e2.1 h
            · rw [if_pos h]
        · simp only [List.filterMap_cons, List.filterMap_nil, e1, e2, if_true]
          rfl
      · by_cases e2 : (env.kindOf y == some NameKind.local && py.line == (Option.map (fun x => x.pos.line) [Expr.Name x px, Expr.Name y py].head?).getD 0) = true
        · simp only [List.filterMap_cons, List.filterMap_nil, e1, e2, if_true]
          rfl
        · simp only [List.filterMap_cons, List.filterMap_nil, e1, e2, if_true]
          rfl
section
variable {X : Cx} {pos : Pos} {pa pb : Expr} {i j : Nat} {x y : Str} {g h : Gv} {px py pt pt2 : Pos} {kt k2 : Nat}
theorem s_set2A (hc : X.calm = true) (hN : X.N.Nodup) (hi : X.N[i]? = some x) (hj : X.N[j]? = some y) (hij : i ≠ j) (hx : X.env.scope.names.lookup x = some .local) (hy : X.env.scope.names.lookup y = some .local) (ha : PE X pa (tGv g)) (hb : PE X pb (tGv h)) (pla : plainX pa = true) (plb : plainX pb = true)
    (hw : swappedStores [.Tuple [.Name x px, .Name y py] kt pt] (.Tuple [pa, pb] k2 pt2) X.env = pure (some [x, y])) :
    PS X (.Assign [.Tuple [.Name x px, .Name y py] kt pt] (.Tuple [pa, pb] k2 pt2) pos) (tS (.set2 i j g h)) :=
  PS.of (ps_par hc hN hi hj hij hx hy (pa_cons ha (pa_cons hb pa_nil (star_plain plb _ _)) (star_plain pla _ _)) hw rfl) fun D σ H hh => by
    obtain ⟨B0, r, d, r1, rel, e1, k1⟩ := set2_of hh
    refine ⟨B0, r, d, r1, rel, e1, fun v H1 n1 => ?_⟩
    obtain ⟨B1, r2, d2, r3, rel2, e2, k2⟩ := k1 v H1 n1
    exact ⟨B1, r2, d2, r3, rel2, e2, fun w H2 n2 => ⟨v, w, rfl, k2 w H2 n2 H2 (fun _ _ e => e)⟩⟩
theorem s_set2B (hc : X.calm = true) (hN : X.N.Nodup) (hi : X.N[i]? = some x) (hj : X.N[j]? = some y) (hx : Loc X.env.scope x ∧ (X.fn x = true ∨ X.env.scope.names.lookup x = some .local)) (hy : Loc X.env.scope y ∧ (X.fn y = true ∨ X.env.scope.names.lookup y = some .local)) (ha : PE X pa (tGv g)) (hb : PE X pb (tGv h)) (pla : plainX pa = true) (plb : plainX pb = true)
    (hw : swappedStores [.Tuple [.Name x px, .Name y py] kt pt] (.Tuple [pa, pb] k2 pt2) X.env = pure none) :
    PS X (.Assign [.Tuple [.Name x px, .Name y py] kt pt] (.Tuple [pa, pb] k2 pt2) pos) (tS (.set2 i j g h)) := by
  have g1 := pg_name (pos := px) hN hi hx.1 hx.2
  have g2 := pg_name (pos := py) hN hj hy.1 hy.2
  refine PS.of (ps_asg (pe_tupF (pa_cons ha (pa_cons hb pa_nil (star_plain plb _ _)) (star_plain pla _ _))) (pg_tup (n := 2) hc (pgs_cons g1 (pgs_cons g2 pgs_nil rfl) rfl) rfl rfl) rfl hw rfl) fun D σ H hh => ?_
  obtain ⟨B0, r, d, r1, rel, e1, k1⟩ := set2_of hh
  refine ⟨B0, r, d, r1, rel, e1, fun v H1 n1 => ?_⟩
  obtain ⟨B1, r2, d2, r3, rel2, e2, k2⟩ := k1 v H1 n1
  refine ⟨B1, r2, d2, r3, rel2, e2, fun w H2 n2 => ⟨by show 2 ≤ sizeLine; decide, fun q ot hq hot => ?_⟩⟩
  exact ⟨q, [v, w], rfl, .inl (.inr ⟨ot, upd_same⟩), rfl, v, [w], rfl, w, [], rfl, rfl, k2 w H2 n2 _ (same_new hq)⟩
end
def mG (N : List Str) (sc : Scope) : Gv -> Expr -> Bool
  | .e e, pe => mE N sc e pe
  | .nil, pe => match pe with
    | .List [] _ => true
    | _ => false
  | .dnil, pe => match pe with
    | .Dict [] [] _ => true
    | _ => false
  | .nnil, pe => match pe with
    | .Dict [] [] _ => true
    | _ => false
  | .dlit l, pe => match pe with
    | .Dict (k :: ks) vs _ => dlM l (k :: ks) vs
    | _ => false
  | .rep a n, pe => match pe with
    | .BinOp (.List [x] _) o y _ => decide (o = .Mult) && mE N sc a x && mE N sc n y
    | _ => false
  | .mk f _ l, pe => match pe with
    | .Call (.Name x _) (e :: es) [] _ => decide (x = f) && glB sc x && okN x && mEs N sc l (e :: es)
    | _ => false
  | .lst l, pe => match pe with
    | .List es _ => mEs N sc l es
    | _ => false
  | .cat a b, pe => match pe with
    | .BinOp x o y _ => decide (o = .Add) && mE N sc a x && mE N sc b y
    | _ => false
  | .lcn own tg it cond e, pe => match pe with
    | .ListComp elt [⟨t, i, ifs, 0⟩] scope _ => blkC N sc scope own && mT N (sbOf scope) tg t && (tgS tg).all (fun v => (own.map (·.2)).contains v) && mI N sc it t i && mC N (relS scope sc) cond ifs && mE N (relS scope sc) e elt
    | _ => false
def clG : Gv -> List Cl
  | .e e => clE e
  | .nil => []
  | .dnil => []
  | .nnil => []
  | .dlit _ => []
  | .rep a n => clE a ++ clE n
  | .mk f sem l => Cl.m f l.length sem :: clL l
  | .lst l => clL l
  | .cat a b => clE a ++ clE b
  | .lcn _ _ it cond e => clI it ++ clO cond ++ clE e
section
variable {X : Cx} {pos : Pos} {pt pi pe : Expr} {ifs : List Expr} {tg : Tg} {it : Src} {cond : Option E} {e : E} {i : Nat} {y : Str} {scope : Scope} {own0 : List (Str × Nat)} {py p2 : Pos} {N : List Str} {sc : Scope} {sb : Str -> Bool} {k : Nat}
theorem setLc_imp {t : TE} {e : E} (w : ∀ σ H Q, tE e σ H Q -> t σ H Q) {D : Ends} {σ : L2.St} {H : Hp} (h : tS (.set i (.e e)) D σ H) : tAsg t (gName i) D σ H := by
  refine w _ _ _ ?_
  obtain ⟨B0, r, x, r1, rel, hd, q⟩ := setr_of h
  obtain ⟨p, h1, hd⟩ := bnd_inv hd
  cases hd
  exact ⟨B0, r, p.1, p.2, rel, h1, fun v H1 ex dn => q v H1 ⟨ex, dn⟩⟩
theorem s_setE (g : Gd X N sc sb k) (hi : X.N[i]? = some y) (hx : Loc X.env.scope y ∧ (X.fn y = true ∨ X.env.scope.names.lookup y = some .local)) (m : mE N sc e pe = true) (c : Cs X k (clE e)) (sw : swB sc y py pe = true) : PS X (.Assign [.Name y py] pe pos) (tS (.set i (.e e))) := by
  by_cases hcx : compX pe = false
  · exact s_set g.ndX hi hx.1 (g_e (ex_den e _ g m c).1) (sw_not hcx _ _ _) hx.2
  · cases e with
    | lc own tg it cond e =>
      have m0 := m
      unfold mE at m
      split at m
      · rename_i elt t i0 ifs scope pos2
        simp only [Bool.and_eq_true] at m
        obtain ⟨⟨⟨⟨⟨m1, m2⟩, m3⟩, m4⟩, m5⟩, m6⟩ := m
        have hkk := (blkOk_by m1).kind
        simp only [swB, Bool.or_eq_true, Bool.and_eq_true, decide_eq_true_eq, Bool.not_eq_true'] at sw
        rcases sw with sw | sw
        rotate_left
        · exact s_set g.ndX hi hx.1 (g_e (ex_den _ _ g m0 c).1) (sw_cell (by rw [g.scope]; exact sw)) hx.2
        unfold clE at c
        obtain ⟨⟨w1, w2⟩, w3⟩ := sw
        have w1' : X.env.scope.names.lookup y = some .local := by rw [g.scope]; exact w1
        exact PS.of (ps_setLc g.calm g.ndX hi w1' (sw_true g.kind w1' w2 w3) (pi_den it _ _ g m4 c.l.l) (by rw [g.names, g.scope]; exact blkOk_by m1) (fun s H C cl fp => pg_den (g.blk s H _ C cl fp hkk) _ _ m2) (fun s H C cl fp => pts_den cond _ (g.blk s H _ C cl fp hkk) m5 c.l.r)
          (fun s H C cl fp => (ex_den e _ (g.blk s H _ C cl fp hkk) m6 c.r).1) (fold_plain (mI_plain m4) _)) fun D σ H h => setLc_imp (fun σ H Q h => lc_of (all_mem m3) (weak_of m2 m4) h) h
      · cases m
    | lc2 own vs1 tg it tg1 it1 e =>
      have m0 := m
      unfold mE at m
      split at m
      · rename_i elt t i0 t1 i1 scope pos2
        simp only [Bool.and_eq_true] at m
        obtain ⟨⟨⟨⟨⟨⟨⟨⟨m1, m2⟩, m3⟩, m4⟩, m5⟩, m6⟩, m7⟩, m8⟩, m9⟩ := m
        have hkk := (blkOk_by m1).kind
        simp only [swB, Bool.or_eq_true, Bool.and_eq_true, decide_eq_true_eq, Bool.not_eq_true'] at sw
        rcases sw with sw | sw
        rotate_left
        · exact s_set g.ndX hi hx.1 (g_e (ex_den _ _ g m0 c).1) (sw_cell (by rw [g.scope]; exact sw)) hx.2
        unfold clE at c
        obtain ⟨⟨w1, w2⟩, w3⟩ := sw
        have w1' : X.env.scope.names.lookup y = some .local := by rw [g.scope]; exact w1
        exact PS.of (ps_setLc2 g.calm g.ndX hi w1' (sw_true g.kind w1' w2 w3) (pi_den it _ _ g m7 c.l.l) (by rw [g.names, g.scope]; exact blkOk_by m1) (all_mem m6) (fun s H C cl fp => pg_den (g.blk s H _ C cl fp hkk) _ _ m2) (fun s H C cl fp => k_ptsnil)
          (fun s H C cl fp => pi_den it1 _ _ (g.blk s H _ C cl fp hkk) m8 c.l.r) (fun s H C cl fp => pg_den (g.blk s H _ C cl fp hkk) _ _ m3) (fun s H C cl fp => k_ptsnil)
          (fun s H C cl fp => (ex_den e _ (g.blk s H _ C cl fp hkk) m9 c.r).1) (fold_plain (mI_plain m7) _) (fold_plain (mI_plain m8))) fun D σ H h => setLc_imp (fun σ H Q h => lc2_of (all_mem m4) (weak_of m2 m7) (all_mem m5) (all_mem m6) (weak_of m3 m8) h) h
      · cases m
    | op o l => cases o <;> cases pe <;> first | exact absurd rfl hcx | (simp [mE, opM] at m; done)
    | _ => cases pe <;> first | exact absurd rfl hcx | (simp [mE] at m; done)
theorem s_setN (g : Gd X N sc sb k) (hi : X.N[i]? = some y) (hx : Loc X.env.scope y ∧ (X.fn y = true ∨ X.env.scope.names.lookup y = some .local)) (m : mG N sc (.lcn own0 tg it cond e) pe = true) (c : Cs X k (clG (.lcn own0 tg it cond e))) (sw : swB sc y py pe = true) : PS X (.Assign [.Name y py] pe pos) (tS (.set i (.lcn own0 tg it cond e))) := by
  dsimp only [mG] at m
  split at m
  · rename_i elt t i0 ifs scope pos2
    simp only [Bool.and_eq_true] at m
    obtain ⟨⟨⟨⟨⟨m1, m2⟩, m3⟩, m4⟩, m5⟩, m6⟩ := m
    have hkk := (blkOk_by m1).kind
    dsimp only [clG] at c
    simp only [swB, Bool.or_eq_true, Bool.and_eq_true, decide_eq_true_eq, Bool.not_eq_true'] at sw
    rcases sw with sw | sw
    rotate_left
    · exact s_set g.ndX hi hx.1 (g_lcn g.calm g.ndX (pi_den it _ _ g m4 c.l.l) (by rw [g.names, g.scope]; exact blkOk_by m1) (fun s H C cl fp => pg_den (g.blk s H _ C cl fp hkk) _ _ m2) (fun s H C cl fp => pts_den cond _ (g.blk s H _ C cl fp hkk) m5 c.l.r)
        (fun s H C cl fp => (ex_den e _ (g.blk s H _ C cl fp hkk) m6 c.r).1) (fold_plain (mI_plain m4) _) (all_mem m3) (weak_of m2 m4)) (sw_cell (by rw [g.scope]; exact sw)) hx.2
    obtain ⟨⟨w1, w2⟩, w3⟩ := sw
    have w1' : X.env.scope.names.lookup y = some .local := by rw [g.scope]; exact w1
    refine PS.of (ps_setLc g.calm g.ndX hi w1' (sw_true g.kind w1' w2 w3) (pi_den it _ _ g m4 c.l.l) (by rw [g.names, g.scope]; exact blkOk_by m1) (fun s H C cl fp => pg_den (g.blk s H _ C cl fp hkk) _ _ m2) (fun s H C cl fp => pts_den cond _ (g.blk s H _ C cl fp hkk) m5 c.l.r)
      (fun s H C cl fp => (ex_den e _ (g.blk s H _ C cl fp hkk) m6 c.r).1) (fold_plain (mI_plain m4) _)) fun D σ H h => ?_
    obtain ⟨B0, r, x, r1, rel, hd, q⟩ := setr_of h
    obtain ⟨p1, h1, hd⟩ := bnd_inv hd
    obtain ⟨l, h3, hd⟩ := bnd_inv hd
    cases hd
    obtain ⟨p1a, p1b⟩ := p1
    have e3 := itemsL_inv h3
    simp only at e3
    subst e3
    exact lc_ofN (all_mem m3) (weak_of m2 m4) rel h1 fun p xs H1 ex y1 y2 y3 y4 y5 y6 => q _ _ ⟨ex, p, xs, rfl, y1, y2, y3, y4, y5, y6⟩
  · cases m
end
end Sb

set_option Elab.async false
set_option linter.all false
set_option maxRecDepth 100000
set_option maxHeartbeats 1000000
/-! SbX: a place of an own dict is written; three stores at once. -/
namespace Sb
open PySem PySem.Spec PyProof.Rows L2
/-- a dict of one's own is written -/
theorem wr_dict {B0 : Addr -> Prop} {r : En} {σ : L2.St} {H : Hp} {s : Nat} {p : Addr} {t t2 : List (Key × D)} {ks : List (Key × V)} (rel : Rel B0 r σ H) (hc : dictOf r s = .ok t) (hs : σ[s]? = some (some (.ref p))) (hy : KvOk (Bf B0 r σ) H ks t2) :
    Ex B0 r (r.set s (some (.m t2))) σ H (upd H p (.dK ks)) := by
  have hr : r[s]? = some (some (.m t)) := by
    unfold dictOf at hc
    split at hc
    · rename_i e; cases hc; exact e
    · cases hc
  have hl : s < r.length := (List.getElem?_eq_some_iff.mp hr).1
  have hk : kd r[s]? ≠ 0 := by rw [hr]; simp [kd]
  have ow : own r σ p := ⟨s, hk, hs⟩
  have g : Go (fun b => b = p) H (upd H p (.dK ks)) := go_upd
  have shp : Shp r (r.set s (some (.m t2))) := by
    refine ⟨List.length_set, fun i => ?_, fun i hi => ?_⟩
    · by_cases z : s = i
      · subst z
        rw [List.getElem?_set_self hl, hr]
        rfl
      · rw [List.getElem?_set_ne z]
    · by_cases z : s = i
      · subst z
        exact absurd hi hk
      · rw [List.getElem?_set_ne z]
  have keep : ∀ a o, ¬ Bf B0 r σ a -> H a = some o -> upd H p (.dK ks) a = some o := fun a o n e => g.keep a o (fun z => n (by rw [z]; exact .inr ow)) e
  refine ⟨⟨shp.len.trans rel.len, fun i x e => ?_, fun i j a hi hj => ?_, fun a z => g.live a (rel.trk a z)⟩, ⟨fun a o n e => g.keep a o (fun z => n (by rw [z]; exact ow)) e, g.live⟩, shp⟩
  · rw [Bf_shp shp]
    by_cases hi : s = i
    · subst hi
      rw [List.getElem?_set_self hl] at e
      cases e
      obtain ⟨v, e3, a, xs, rfl, e4, e5, e6⟩ := rel.at' s _ hr
      rw [hs] at e3
      cases e3
      exact ⟨_, hs, p, ks, rfl, upd_same, hy.mono (fun _ z => .inl z) keep, e6⟩
    · rw [List.getElem?_set_ne hi] at e
      obtain ⟨v, e1, e2⟩ := rel.at' i x e
      refine ⟨v, e1, ?_⟩
      have ne : ∀ a, kd r[i]? ≠ 0 -> v = .ref a -> a ≠ p := fun a h1 h2 z => hi (rel.inj i s a h1 hk (by rw [e1, h2]) (by rw [z]; exact hs)).symm
      cases x with
      | d x => exact Dn.mono (fun _ z => .inl z) keep e2
      | c l => obtain ⟨a, xs, e3, e4, e5, e6⟩ := e2; exact ⟨a, xs, e3, g.keep a _ (ne a (by rw [e]; simp [kd]) e3) e4, e5.mono (fun _ z => .inl z) keep, e6⟩
      | o l => obtain ⟨a, xs, e3, e4, e5, e6⟩ := e2; exact ⟨a, xs, e3, g.keep a _ (ne a (by rw [e]; simp [kd]) e3) e4, e5.mono (fun _ z => .inl z) keep, e6⟩
      | m l => obtain ⟨a, xs, e3, e4, e5, e6⟩ := e2; exact ⟨a, xs, e3, g.keep a _ (ne a (by rw [e]; simp [kd]) e3) e4, e5.mono (fun _ z => .inl z) keep, e6⟩
      | n l => obtain ⟨a, xs, e3, e4, e5, e6⟩ := e2; exact ⟨a, xs, e3, g.keep a _ (ne a (by rw [e]; simp [kd]) e3) e4, e5.mono (fun _ z => .inl z) keep, e6⟩
  · rw [shp.kind] at hi hj
    exact rel.inj i j a hi hj
/-- a dict of one's own is written -/
theorem wr_nict {B0 : Addr -> Prop} {r : En} {σ : L2.St} {H : Hp} {s : Nat} {p : Addr} {t t2 : List (NKey × D)} {ks : List (NKey × Addr × V)} (rel : Rel B0 r σ H) (hc : nictOf r s = .ok t) (hs : σ[s]? = some (some (.ref p))) (hy : NvOk (Bf B0 r σ) H ks t2) :
    Ex B0 r (r.set s (some (.n t2))) σ H (upd H p (.ext (NdP p ks))) := by
  have hr : r[s]? = some (some (.n t)) := by
    unfold nictOf at hc
    split at hc
    · rename_i e; cases hc; exact e
    · cases hc
  have hl : s < r.length := (List.getElem?_eq_some_iff.mp hr).1
  have hk : kd r[s]? ≠ 0 := by rw [hr]; simp [kd]
  have ow : own r σ p := ⟨s, hk, hs⟩
  have g : Go (fun b => b = p) H (upd H p (.ext (NdP p ks))) := go_upd
  have shp : Shp r (r.set s (some (.n t2))) := by
    refine ⟨List.length_set, fun i => ?_, fun i hi => ?_⟩
    · by_cases z : s = i
      · subst z
        rw [List.getElem?_set_self hl, hr]
        rfl
      · rw [List.getElem?_set_ne z]
    · by_cases z : s = i
      · subst z
        exact absurd hi hk
      · rw [List.getElem?_set_ne z]
  have keep : ∀ a o, ¬ Bf B0 r σ a -> H a = some o -> upd H p (.ext (NdP p ks)) a = some o := fun a o n e => g.keep a o (fun z => n (by rw [z]; exact .inr ow)) e
  refine ⟨⟨shp.len.trans rel.len, fun i x e => ?_, fun i j a hi hj => ?_, fun a z => g.live a (rel.trk a z)⟩, ⟨fun a o n e => g.keep a o (fun z => n (by rw [z]; exact ow)) e, g.live⟩, shp⟩
  · rw [Bf_shp shp]
    by_cases hi : s = i
    · subst hi
      rw [List.getElem?_set_self hl] at e
      cases e
      obtain ⟨v, e3, a, xs, rfl, e4, e5, e6⟩ := rel.at' s _ hr
      rw [hs] at e3
      cases e3
      exact ⟨_, hs, p, ks, rfl, upd_same, hy.mono (fun _ z => .inl z) keep, e6⟩
    · rw [List.getElem?_set_ne hi] at e
      obtain ⟨v, e1, e2⟩ := rel.at' i x e
      refine ⟨v, e1, ?_⟩
      have ne : ∀ a, kd r[i]? ≠ 0 -> v = .ref a -> a ≠ p := fun a h1 h2 z => hi (rel.inj i s a h1 hk (by rw [e1, h2]) (by rw [z]; exact hs)).symm
      cases x with
      | d x => exact Dn.mono (fun _ z => .inl z) keep e2
      | c l => obtain ⟨a, xs, e3, e4, e5, e6⟩ := e2; exact ⟨a, xs, e3, g.keep a _ (ne a (by rw [e]; simp [kd]) e3) e4, e5.mono (fun _ z => .inl z) keep, e6⟩
      | o l => obtain ⟨a, xs, e3, e4, e5, e6⟩ := e2; exact ⟨a, xs, e3, g.keep a _ (ne a (by rw [e]; simp [kd]) e3) e4, e5.mono (fun _ z => .inl z) keep, e6⟩
      | m l => obtain ⟨a, xs, e3, e4, e5, e6⟩ := e2; exact ⟨a, xs, e3, g.keep a _ (ne a (by rw [e]; simp [kd]) e3) e4, e5.mono (fun _ z => .inl z) keep, e6⟩
      | n l => obtain ⟨a, xs, e3, e4, e5, e6⟩ := e2; exact ⟨a, xs, e3, g.keep a _ (ne a (by rw [e]; simp [kd]) e3) e4, e5.mono (fun _ z => .inl z) keep, e6⟩
  · rw [shp.kind] at hi hj
    exact rel.inj i j a hi hj
section
variable {X : Cx} {pos : Pos} {pe pi : Expr} {e i : E} {s : Nat} {x : Str} {p2 p3 : Pos}
theorem s_setdx (hu : X.A.units + 65 < cLine) (hN : X.N[s]? = some x) (hv : Vis X.env.scope x) (hd : (x == ("__debug__" : Str)) = false) (hcd : (x == ("__classdict__" : Str)) = false) (he : PE X pe (tE e)) (hi : PE X pi (tE i)) :
    PS X (.Assign [.Subscript (.Name x p2) pi p3] pe pos) (tS (.setdx s i e)) := by
  refine PS.of (ps_dput (by omega) (pe_var hN hv hd hcd) hi he (sw_other _ _ (by intro x p z; cases z))) fun D σ H ⟨B0, I0, H0, r, res, sx, hr, q⟩ => ?_
  obtain ⟨p1, h1, hr⟩ := bnd_inv hr
  obtain ⟨t0, h0, hr⟩ := bnd_inv hr
  obtain ⟨p2, h2, hr⟩ := bnd_inv hr
  obtain ⟨t, h3, hr⟩ := bnd_inv hr
  obtain ⟨k, ek, hr⟩ := bnd_inv hr
  obtain ⟨hc, hr⟩ := chk_inv hr
  cases hr
  refine ⟨B0, r, p1.1, p1.2, sx.rel, h1, fun v H1 ex dn => ?_⟩
  obtain ⟨p, xs0, hv0, hx0, _, _, _⟩ := dict_at ex.rel h0
  refine ⟨_, hv0, B0, p1.2, p2.1, p2.2, ex.rel, h2, fun w H2 ex2 dn2 => ?_⟩
  have ew := keyD_dn (ofO_inv ek) dn2
  subst ew
  obtain ⟨p', ks, c1, c2, c3, _, _⟩ := dict_at ex2.rel h3
  rw [hv0] at c1
  cases c1
  have hz := of_decide_eq_true hc
  have ex3 := wr_dict ex2.rel h3 hv0 (kv_put (k := k) (ex2.dn dn) c3)
  refine ⟨p, _, rfl, DPut.k (k := k) c2 (by rw [kv_len c3, sizeLine_eq]; omega), ?_⟩
  exact q σ _ (((sx.ex ex).ex ex2).ex ex3) (((Cel.shp ex.shp).trans (Cel.shp ex2.shp)).trans (Cel.shp ex3.shp))
theorem s_setnx (hu : X.A.units + 65 < cLine) (hN : X.N[s]? = some x) (hv : Vis X.env.scope x) (hd : (x == ("__debug__" : Str)) = false) (hcd : (x == ("__classdict__" : Str)) = false) (he : PE X pe (tE e)) (hi : PE X pi (tE i)) :
    PS X (.Assign [.Subscript (.Name x p2) pi p3] pe pos) (tS (.setnx s i e)) := by
  refine ⟨fun pins s0 σ H D I ⟨B0, I0, H0, r, res, sx, hr, q⟩ => ?_⟩
  obtain ⟨p1, h1, hr⟩ := bnd_inv hr
  obtain ⟨t0, h0, hr⟩ := bnd_inv hr
  obtain ⟨p2, h2, hr⟩ := bnd_inv hr
  obtain ⟨t, h3, hr⟩ := bnd_inv hr
  obtain ⟨k, ek, hr⟩ := bnd_inv hr
  obtain ⟨hc, hr⟩ := chk_inv hr
  cases hr
  refine wpAny_Assign_Subscript (L2.thn (he.run pins s0 σ H (fun v H1 => Ex B0 r p1.2 σ H H1 ∧ Dn (Bf B0 p1.2 σ) H1 v p1.1) I ⟨B0, r, p1.1, p1.2, sx.rel, h1, fun v H1 ex dn => ⟨ex, dn⟩⟩) fun r1 s1 ⟨v, H1, I1, rv, ex, dn⟩ => ?_) (sw_other _ _ (by intro x p z; cases z))
  obtain ⟨p, xs0, hv0, hx0, _, _, _⟩ := nict_at ex.rel h0
  refine L2.thn ((pe_var hN hv hd hcd).run pins s1 σ H1 (fun v2 H2 => v2 = .ref p ∧ H2 = H1) I1 ⟨_, hv0, rfl, rfl⟩) fun u s2 ⟨x1, H1', I2, rx, ex1, eH⟩ => ?_
  subst ex1
  subst eH
  cases (show u = Value.ref p from rx)
  refine L2.thn (hi.run pins s2 σ H1' (fun w H2 => Ex B0 p1.2 p2.2 σ H1' H2 ∧ Dn (Bf B0 p2.2 σ) H2 w p2.1) I2 ⟨B0, p1.2, p2.1, p2.2, ex.rel, h2, fun v H1 ex dn => ⟨ex, dn⟩⟩) fun iv s3 ⟨y, H2, I3, ry, ex2, dn2⟩ => ?_
  have ey := nkeyD_is (ofO_inv ek)
  rw [ey] at dn2
  obtain ⟨b1, _, rfl, _⟩ := ref_tup (show Dn _ _ y (.tuple _) from dn2)
  cases (show iv = Value.ref b1 from ry)
  obtain ⟨p', ks, c1, c2, c3, _, _⟩ := nict_at ex2.rel h3
  rw [hv0] at c1
  cases c1
  have hz := of_decide_eq_true hc
  have nv2 := nv_put dn2 (ex2.dn dn) c3
  have ex3 := wr_nict ex2.rel h3 hv0 nv2
  obtain ⟨z, ys, nr, dh⟩ := nd_dict I3.hok c2 c3
  have ly : (ys.map nup).length ≤ sizeLine := by
    have a1 := Paired.length nr
    have a2 := nv_len c3
    rw [List.length_map, sizeLine_eq]; omega
  refine wpAny_setItem_heap (hsz := ly) (show (nestedKind X.prog X.w).room X.A.in1 from by show X.A.in1.units + 8 < cLine; rw [Around.in1_units]; omega) (nd_is I3.hok dn2) dh fun h' dd' hs => ?_
  rw [stored_nup] at dd'
  have he' : ∃ q, h'.get? p = some q := let ⟨q, _, _, hq, _⟩ := dd'; ⟨q, hq⟩
  refine ⟨σ, _, d_write I3 (by rw [c2]; exact True.intro) hs he' (ndP_ok (ndP_of z (nr.put k b1 rv) dd')), ?_⟩
  exact q σ _ (((sx.ex ex).ex ex2).ex ex3) (((Cel.shp ex.shp).trans (Cel.shp ex2.shp)).trans (Cel.shp ex3.shp))
end
theorem sw3_some {env : Env} {x y z : Str} {px py pz pt pt2 : Pos} {kt k2 : Nat} {a b c : Expr} (hk : env.scope.kind = .function) (hx : env.scope.names.lookup x = some .local) (hy : env.scope.names.lookup y = some .local) (hz : env.scope.names.lookup z = some .local) (hl : (py.line == px.line) = true) (hl2 : (pz.line == px.line) = true) (hxy : x ≠ y) (hxz : x ≠ z) (hyz : y ≠ z)
    (h1 : [a, b, c].all (foldedForSure 8) = false) (h2 : [a, b, c].all (constantsAlone 8) = false) (ha : plainX a = true) (hb : plainX b = true) (hc : plainX c = true) :
    swappedStores [.Tuple [.Name x px, .Name y py, .Name z pz] kt pt] (.Tuple [a, b, c] k2 pt2) env = pure (some [x, y, z]) := by
  have kx : env.kindOf x = some .local := hx
  have ky : env.kindOf y = some .local := hy
  have kz : env.kindOf z = some .local := hz
  have hbk : env.blockKind = .function := by unfold Env.blockKind; rw [hk]; rfl
  have hs : ∀ e : Expr, plainX e = true -> ((fun | .Starred .. => true | _ => false : Expr → Bool) e) = false := fun e h => by
    cases e <;> first | rfl | cases h
  have sa := hs a ha
  have sb := hs b hb
  have sc := hs c hc
  have hsAny : ([a, b, c].any fun | .Starred .. => true | _ => false) = false := by
    rw [List.any_cons, List.any_cons, List.any_cons, List.any_nil]
    show (((fun | .Starred .. => true | _ => false : Expr → Bool) a) || (((fun | .Starred .. => true | _ => false : Expr → Bool) b) || (((fun | .Starred .. => true | _ => false : Expr → Bool) c) || false))) = false
    rw [sa, sb, sc]
    rfl
  have hdup : ([x, y, z].eraseDups.length != [x, y, z].length) = false := by
    have n1 : (x == y) = false := by simpa using hxy
    have n2 : (y == x) = false := by simpa using Ne.symm hxy
    have n3 : (x == z) = false := by simpa using hxz
    have n4 : (z == x) = false := by simpa using Ne.symm hxz
    have n5 : (y == z) = false := by simpa using hyz
    have n6 : (z == y) = false := by simpa using Ne.symm hyz
    simp [List.eraseDups_cons, n1, n2, n3, n4, n5, n6]
  unfold swappedStores
  dsimp only [bind, pure]
  rw [if_neg (by simp [hbk])]
  refine (if_neg (fun z => Bool.noConfusion (hsAny.symm.trans z))).trans ?_
  have e1 : (env.kindOf x == some NameKind.local && px.line == (Option.map (fun x => x.pos.line) [Expr.Name x px, Expr.Name y py, Expr.Name z pz].head?).getD 0) = true := by simp [kx, Expr.pos]
  have e2 : (env.kindOf y == some NameKind.local && py.line == (Option.map (fun x => x.pos.line) [Expr.Name x px, Expr.Name y py, Expr.Name z pz].head?).getD 0) = true := by
    rw [ky]
    show (_ && (py.line == px.line)) = true
    rw [hl]; rfl
  have e3 : (env.kindOf z == some NameKind.local && pz.line == (Option.map (fun x => x.pos.line) [Expr.Name x px, Expr.Name y py, Expr.Name z pz].head?).getD 0) = true := by
    rw [kz]
    show (_ && (pz.line == px.line)) = true
    rw [hl2]; rfl
  simp only [List.filterMap_cons, List.filterMap_nil, e1, e2, e3, if_true]
  rw [if_neg (by rw [hdup]; simp), if_neg (by rw [h1]; decide), if_neg (by rw [h2]; decide)]
section
variable {X : Cx} {pos : Pos} {pa pb pc : Expr} {i j l : Nat} {x y z : Str} {a b c : E} {px py pz pt pt2 : Pos} {kt k2 : Nat}
theorem s_set3A (hc : X.calm = true) (hN : X.N.Nodup) (hi : X.N[i]? = some x) (hj : X.N[j]? = some y) (hl : X.N[l]? = some z) (hij : i ≠ j) (hil : i ≠ l) (hjl : j ≠ l) (hx : X.env.scope.names.lookup x = some .local) (hy : X.env.scope.names.lookup y = some .local) (hz : X.env.scope.names.lookup z = some .local)
    (ha : PE X pa (tE a)) (hb : PE X pb (tE b)) (hc2 : PE X pc (tE c)) (pla : plainX pa = true) (plb : plainX pb = true) (plc : plainX pc = true)
    (hw : swappedStores [.Tuple [.Name x px, .Name y py, .Name z pz] kt pt] (.Tuple [pa, pb, pc] k2 pt2) X.env = pure (some [x, y, z])) :
    PS X (.Assign [.Tuple [.Name x px, .Name y py, .Name z pz] kt pt] (.Tuple [pa, pb, pc] k2 pt2) pos) (tS (.set3 i j l a b c)) :=
  PS.of (ps_par3 hc hN hi hj hl hij hil hjl hx hy hz (pa_cons ha (pa_cons hb (pa_cons hc2 pa_nil (star_plain plc _ _)) (star_plain plb _ _)) (star_plain pla _ _)) hw rfl) fun D σ H ⟨B0, I0, H0, r, res, sx, hr, q⟩ => by
    obtain ⟨p1, h1, hr⟩ := bnd_inv hr
    obtain ⟨p2, h2, hr⟩ := bnd_inv hr
    obtain ⟨p3, h3, hr⟩ := bnd_inv hr
    obtain ⟨hcc, hr⟩ := chk_inv hr
    obtain ⟨r4, h4, hr⟩ := bnd_inv hr
    obtain ⟨r5, h5, hr⟩ := bnd_inv hr
    obtain ⟨r6, h6, hr⟩ := bnd_inv hr
    cases hr
    obtain ⟨f4, rfl⟩ := setD_inv h4
    obtain ⟨f5, rfl⟩ := setD_inv h5
    obtain ⟨f6, rfl⟩ := setD_inv h6
    refine ⟨B0, r, p1.1, p1.2, sx.rel, h1, fun v H1 ex dn => ⟨B0, p1.2, p2.1, p2.2, ex.rel, h2, fun w H2 ex2 dn2 => ⟨B0, p2.2, p3.1, p3.2, ex2.rel, h3, fun u H3 ex3 dn3 => ⟨v, w, u, rfl, ?_⟩⟩⟩⟩
    have s3 := ((sx.ex ex).ex ex2).ex ex3
    have dv := ex3.dn (ex2.dn dn)
    have dw := ex3.dn dn2
    obtain ⟨rel4, bd4⟩ := s3.rel.setd f4 dv
    have up4 : ∀ {v1 : V} {d1 : Sb.D}, Dn (Bf B0 p3.2 σ) H3 v1 d1 -> Dn (Bf B0 (p3.2.set i (some (.d p1.1))) (σ.set i (some v))) H3 v1 d1 := fun h => h.mono (fun a z => z.elim (fun z => .inl (.inl z)) fun z => .inl (.inr (bd4.own_le z))) fun _ _ _ e => e
    obtain ⟨rel5, bd5⟩ := rel4.setd f5 (up4 dw)
    have up5 := (up4 dn3).mono (B1 := Bf B0 ((p3.2.set i (some (.d p1.1))).set j (some (.d p2.1))) ((σ.set i (some v)).set j (some w))) (fun a z => z.elim (fun z => .inl (.inl z)) fun z => .inl (.inr (bd5.own_le z))) fun _ _ _ e => e
    obtain ⟨rel6, bd6⟩ := rel5.setd f6 up5
    exact q _ _ (((s3.bd rel4 bd4).bd rel5 bd5).bd rel6 bd6) ((((((Cel.shp ex.shp).trans (Cel.shp ex2.shp)).trans (Cel.shp ex3.shp)).trans (Cel.bd bd4)).trans (Cel.bd bd5)).trans (Cel.bd bd6))
end
end Sb

set_option Elab.async false
set_option linter.all false
set_option maxRecDepth 100000
set_option maxHeartbeats 1000000
/-! SbI: statements against the row's syntax. -/
namespace Sb
open PySem PySem.Spec PyProof.Rows L2
theorem swSole (t v : Expr) (l : Nat) (env : Env) : swapsWithSole [t] v l env = swapsWith v (some t) l env := by
  simp only [swapsWithSole]
def lcl (sc : Scope) (x : Str) : Bool := decide (sc.names.lookup x = some .local)
mutual
def mS (N : List Str) (sc : Scope) (sb : Str -> Bool) : S -> Stmt -> Bool
  | .set i g, st => match st with
    | .Assign [.Name x px] pe _ => slB N i x && sb x && mG N sc g pe && swB sc x px pe
    | _ => false
  | .setT tg e, st => match st with
    | .Assign [.Tuple ts a b] pe _ => mT N sb tg (.Tuple ts a b) && mE N sc e pe && !isTupX pe
    | _ => false
  | .set2 i j g h, st => match st with
    | .Assign [.Tuple [.Name x px, .Name y py] _ _] (.Tuple [a, b] _ _) _ => slB N i x && slB N j y && decide (i ≠ j) && sb x && sb y && mG N sc g a && mG N sc h b &&
      ((lcl sc x && lcl sc y && (py.line == px.line) && decide (x ≠ y) && !([a, b].all (foldedForSure 8)) && !([a, b].all (constantsAlone 8))) || (!lcl sc x || !lcl sc y || [a, b].all (foldedForSure 8)))
    | _ => false
  | .set3 i j l a b c, st => match st with
    | .Assign [.Tuple [.Name x px, .Name y py, .Name z pz] _ _] (.Tuple [pa, pb, pc] _ _) _ => slB N i x && slB N j y && slB N l z && decide (i ≠ j) && decide (i ≠ l) && decide (j ≠ l) && lcl sc x && lcl sc y && lcl sc z && (py.line == px.line) && (pz.line == px.line) && decide (x ≠ y) && decide (x ≠ z) && decide (y ≠ z) &&
      !([pa, pb, pc].all (foldedForSure 8)) && !([pa, pb, pc].all (constantsAlone 8)) && mE N sc a pa && mE N sc b pb && mE N sc c pc
    | _ => false
  | .setix s i e, st => match st with
    | .Assign [.Subscript (.Name x _) pi _] pe _ => slB N s x && visB sc x && okN x && mE N sc i pi && mE N sc e pe
    | _ => false
  | .setix2 s t i j e f, st => match st with
    | .Assign [.Tuple [.Subscript (.Name x _) pi _, .Subscript (.Name y _) pj _] _ _] (.Tuple [pe, pf] _ _) _ => slB N s x && visB sc x && okN x && slB N t y && visB sc y && okN y && mE N sc i pi && mE N sc j pj && mE N sc e pe && mE N sc f pf
    | _ => false
  | .setdx s i e, st => match st with
    | .Assign [.Subscript (.Name x _) pi _] pe _ => slB N s x && visB sc x && okN x && mE N sc i pi && mE N sc e pe
    | _ => false
  | .setnx s i e, st => match st with
    | .Assign [.Subscript (.Name x _) pi _] pe _ => slB N s x && visB sc x && okN x && mE N sc i pi && mE N sc e pe
    | _ => false
  | .app s e, st => match st with
    | .Expr (.Call (.Attribute (.Name x _) n ap) [pe] [] cp) _ => decide (n = "append") && slB N s x && visB sc x && okN x && (ap.endLine == cp.line) && mE N sc e pe
    | _ => false
  | .ex e, st => match st with
    | .Expr pe _ => mE N sc e pe && !compX pe
    | _ => false
  | .ife c a b, st => match st with
    | .If pc es es2 _ => mE N sc c pc && mSs N sc sb a es && mSs N sc sb b es2
    | _ => false
  | .loop tg it body, st => match st with
    | .For pt pi es [] _ => mT N sb tg pt && mI N sc it pt pi && mSs N sc sb body es
    | _ => false
  | .wh _ c body, st => match st with
    | .While pc es [] _ => mE N sc c pc && mSs N sc sb body es
    | _ => false
  | .ret e, st => match st with
    | .Return (some pe) _ => mE N sc e pe
    | _ => false
  | .fz _, _ => false
  | .drop _, _ => false
  | .raise _, _ => true
  | .retT _ _ _ _, _ => true
def mSs (N : List Str) (sc : Scope) (sb : Str -> Bool) : List S -> List Stmt -> Bool
  | [], es => match es with
    | [] => true
    | _ => false
  | s :: l, es => match s with
    | .fz _ => mSs N sc sb l es
    | .drop _ => mSs N sc sb l es
    | .retT _ _ _ _ => true
    | s => match es with
      | st :: r => mS N sc sb s st && mSs N sc sb l r
      | [] => false
end
mutual
def clS : S -> List Cl
  | .set _ g => clG g
  | .setT _ e => clE e
  | .set2 _ _ g h => clG g ++ clG h
  | .set3 _ _ _ e f g => clE e ++ clE f ++ clE g
  | .setix _ i e => clE i ++ clE e
  | .setix2 _ _ i j e f => clE i ++ clE j ++ clE e ++ clE f
  | .setdx _ i e => clE i ++ clE e
  | .setnx _ i e => clE i ++ clE e
  | .app _ e => clE e
  | .ex e => clE e
  | .ife c a b => clE c ++ clSs a ++ clSs b
  | .loop _ it body => clI it ++ clSs body
  | .wh _ c body => clE c ++ clSs body
  | .ret e => clE e
  | .fz _ => []
  | .drop _ => []
  | .raise _ => []
  | .retT _ fs ix l => fs.map (fun f => Cl.p f.1 l.length f.2) ++ (clE ix ++ clL l)
def clSs : List S -> List Cl
  | [] => []
  | s :: l => clS s ++ clSs l
end
theorem g_den {N : List Str} {g : Gv} {pe : Expr} {X : Cx} {sc : Scope} {sb : Str -> Bool} {k : Nat} (gd : Gd X N sc sb k) (m : mG N sc g pe = true) (c : Cs X k (clG g)) : PE X pe (tGv g) := by
  cases g with
  | e e => exact g_e (ex_den e _ gd m c).1
  | nil =>
    dsimp only [mG] at m
    split at m
    · exact g_nil
    · cases m
  | dnil =>
    dsimp only [mG] at m
    split at m
    · exact g_dnil
    · cases m
  | nnil =>
    dsimp only [mG] at m
    split at m
    · exact g_nnil
    · cases m
  | dlit l =>
    dsimp only [mG] at m
    split at m
    · exact g_dlit m (by simp)
    · cases m
  | rep a n =>
    dsimp only [mG] at m
    split at m
    · simp only [Bool.and_eq_true, decide_eq_true_eq] at m
      obtain ⟨⟨rfl, m1⟩, m2⟩ := m
      dsimp only [clG] at c
      exact g_rep (ex_den a _ gd m1 c.l).1 (ex_den n _ gd m2 c.r).1 (mE_plain m1)
    · cases m
  | lst l =>
    dsimp only [mG] at m
    split at m
    · dsimp only [clG] at c
      exact g_lst (pa_den l _ gd m c)
    · cases m
  | cat a b =>
    dsimp only [mG] at m
    split at m
    · simp only [Bool.and_eq_true, decide_eq_true_eq] at m
      obtain ⟨⟨rfl, m1⟩, m2⟩ := m
      dsimp only [clG] at c
      exact g_cat (ex_den a _ gd m1 c.l).1 (ex_den b _ gd m2 c.r).1
    · cases m
  | lcn own0 tg it cond e =>
    dsimp only [mG] at m
    split at m
    · simp only [Bool.and_eq_true] at m
      obtain ⟨⟨⟨⟨⟨m1, m2⟩, m3⟩, m4⟩, m5⟩, m6⟩ := m
      have hkk := (blkOk_by m1).kind
      dsimp only [clG] at c
      exact g_lcn gd.calm gd.ndX (pi_den it _ _ gd m4 c.l.l) (by rw [gd.names, gd.scope]; exact blkOk_by m1) (fun s H C cl fp => pg_den (gd.blk s H _ C cl fp hkk) _ _ m2) (fun s H C cl fp => pts_den cond _ (gd.blk s H _ C cl fp hkk) m5 c.l.r)
        (fun s H C cl fp => (ex_den e _ (gd.blk s H _ C cl fp hkk) m6 c.r).1) (fold_plain (mI_plain m4) _) (all_mem m3) (weak_of m2 m4)
    · cases m
  | mk f sem l =>
    dsimp only [mG] at m
    split at m
    · simp only [Bool.and_eq_true, decide_eq_true_eq] at m
      obtain ⟨⟨⟨rfl, m1⟩, m2⟩, m3⟩ := m
      dsimp only [clG] at c
      exact g_mk (c _ List.mem_cons_self) gd.room (gd.gl m1) (okN_d m2).1 (pa_den l _ gd m3 (fun x hx => c x (List.mem_cons_of_mem _ hx))) (mEs_plain m3)
    · cases m
theorem mG_plain {N : List Str} {sc : Scope} {g : Gv} {pe : Expr} (m : mG N sc g pe = true) : plainX pe = true := by
  cases g with
  | e e => exact mE_plain m
  | _ => dsimp only [mG] at m; split at m <;> first | rfl | cases m
mutual
theorem st_den {N : List Str} {X : Cx} {sc : Scope} {sb : Str -> Bool} {k : Nat} (gd : Gd X N sc sb k) : ∀ (s : S) (st : Stmt), mS N sc sb s st = true -> Cs X k (clS s) -> PS X st (tS s)
  | .set i g, st, m, c => by
    unfold mS at m
    split at m
    · simp only [Bool.and_eq_true] at m
      obtain ⟨⟨⟨m1, m2⟩, m3⟩, m4⟩ := m
      unfold clS at c
      cases g with
      | e e => exact s_setE gd (gd.sl m1) (gd.sto _ m2) m3 c m4
      | lcn own0 tg it cond e => exact s_setN gd (gd.sl m1) (gd.sto _ m2) m3 c m4
      | _ =>
        refine s_set gd.ndX (gd.sl m1) (gd.sto _ m2).1 (g_den gd m3 c) (sw_not ?_ _ _ _) (gd.sto _ m2).2
        dsimp only [mG] at m3
        split at m3 <;> first | rfl | cases m3
    · cases m
  | .setT tg e, st, m, c => by
    unfold mS at m
    split at m
    · rename_i ts a b pe pos
      simp only [Bool.and_eq_true, Bool.not_eq_true'] at m
      obtain ⟨⟨m1, m2⟩, m3⟩ := m
      unfold clS at c
      refine s_setT (ex_den e _ gd m2 c).1 (pg_den gd _ _ m1) (by rw [swSole]; exact sw_other _ _ (by intro x p z; cases z)) ?_ rfl
      unfold swappedStores
      cases pe <;> first | rfl | cases m3
    · cases m
  | .set2 i j g h, st, m, c => by
    unfold mS at m
    split at m
    · simp only [Bool.and_eq_true, decide_eq_true_eq] at m
      obtain ⟨⟨⟨⟨⟨⟨⟨m1, m2⟩, m3⟩, m4⟩, m5⟩, m6⟩, m7⟩, m8⟩ := m
      unfold clS at c
      have a1 := g_den gd m6 c.l
      have a2 := g_den gd m7 c.r
      rw [Bool.or_eq_true] at m8
      rcases m8 with w | w
      · simp only [lcl, Bool.and_eq_true, decide_eq_true_eq, Bool.not_eq_true'] at w
        obtain ⟨⟨⟨⟨⟨w1, w2⟩, w3⟩, w4⟩, w5⟩, w6⟩ := w
        rw [← gd.scope] at w1 w2
        exact s_set2A gd.calm gd.ndX (gd.sl m1) (gd.sl m2) m3 w1 w2 a1 a2 (mG_plain m6) (mG_plain m7) (sw2_some gd.kind w1 w2 w3 w4 w5 w6 (mG_plain m6) (mG_plain m7))
      · refine s_set2B gd.calm gd.ndX (gd.sl m1) (gd.sl m2) (gd.sto _ m4) (gd.sto _ m5) a1 a2 (mG_plain m6) (mG_plain m7) (sw2_none ?_)
        rw [gd.scope]
        simp only [lcl, Bool.or_eq_true, Bool.not_eq_true', decide_eq_false_iff_not] at w
        rcases w with (w | w) | w
        · exact .inl w
        · exact .inr (.inl w)
        · exact .inr (.inr w)
    · cases m
  | .set3 i j l a b c, st, m, cs => by
    unfold mS at m
    split at m
    · simp only [lcl, Bool.and_eq_true, decide_eq_true_eq, Bool.not_eq_true'] at m
      obtain ⟨⟨⟨⟨⟨⟨⟨⟨⟨⟨⟨⟨⟨⟨⟨⟨⟨⟨m1, m2⟩, m3⟩, m4⟩, m5⟩, m6⟩, w1⟩, w2⟩, w3⟩, w4⟩, w5⟩, w6⟩, w7⟩, w8⟩, w9⟩, w10⟩, m7⟩, m8⟩, m9⟩ := m
      unfold clS at cs
      rw [← gd.scope] at w1 w2 w3
      exact s_set3A gd.calm gd.ndX (gd.sl m1) (gd.sl m2) (gd.sl m3) m4 m5 m6 w1 w2 w3 (ex_den a _ gd m7 cs.l.l).1 (ex_den b _ gd m8 cs.l.r).1 (ex_den c _ gd m9 cs.r).1 (mE_plain m7) (mE_plain m8) (mE_plain m9) (sw3_some gd.kind w1 w2 w3 w4 w5 w6 w7 w8 w9 w10 (mE_plain m7) (mE_plain m8) (mE_plain m9))
    · cases m
  | .setix s i e, st, m, c => by
    unfold mS at m
    split at m
    · simp only [Bool.and_eq_true] at m
      obtain ⟨⟨⟨⟨m1, m2⟩, m3⟩, m4⟩, m5⟩ := m
      unfold clS at c
      exact s_setix (gd.sl m1) (gd.vis m2) (okN_d m3).1 (okN_d m3).2.1 (ex_den e _ gd m5 c.r).1 (ex_den i _ gd m4 c.l).1 (mE_plain m4) (by rw [swSole]; exact sw_other _ _ (by intro x p z; cases z))
    · cases m
  | .setix2 s t i j e f, st, m, c => by
    unfold mS at m
    split at m
    · simp only [Bool.and_eq_true] at m
      obtain ⟨⟨⟨⟨⟨⟨⟨⟨⟨m1, m2⟩, m3⟩, m4⟩, m5⟩, m6⟩, m7⟩, m8⟩, m9⟩, m10⟩ := m
      unfold clS at c
      exact s_setix2 gd.calm (gd.sl m1) (gd.vis m2) (okN_d m3).1 (okN_d m3).2.1 (gd.sl m4) (gd.vis m5) (okN_d m6).1 (okN_d m6).2.1 (ex_den e _ gd m9 c.l.r).1 (ex_den f _ gd m10 c.r).1 (ex_den i _ gd m7 c.l.l.l).1 (ex_den j _ gd m8 c.l.l.r).1 (mE_plain m9) (mE_plain m10) (mE_plain m7) (mE_plain m8)
    · cases m
  | .setdx s i e, st, m, c => by
    unfold mS at m
    split at m
    · simp only [Bool.and_eq_true] at m
      obtain ⟨⟨⟨⟨m1, m2⟩, m3⟩, m4⟩, m5⟩ := m
      unfold clS at c
      exact s_setdx gd.hu (gd.sl m1) (gd.vis m2) (okN_d m3).1 (okN_d m3).2.1 (ex_den e _ gd m5 c.r).1 (ex_den i _ gd m4 c.l).1
    · cases m
  | .setnx s i e, st, m, c => by
    unfold mS at m
    split at m
    · simp only [Bool.and_eq_true] at m
      obtain ⟨⟨⟨⟨m1, m2⟩, m3⟩, m4⟩, m5⟩ := m
      unfold clS at c
      exact s_setnx gd.hu (gd.sl m1) (gd.vis m2) (okN_d m3).1 (okN_d m3).2.1 (ex_den e _ gd m5 c.r).1 (ex_den i _ gd m4 c.l).1
    · cases m
  | .app s e, st, m, c => by
    unfold mS at m
    split at m
    · simp only [Bool.and_eq_true, decide_eq_true_eq] at m
      obtain ⟨⟨⟨⟨⟨rfl, m1⟩, m2⟩, m3⟩, m4⟩, m5⟩ := m
      unfold clS at c
      exact s_app (gd.sl m1) (gd.vis m2) (okN_d m3).1 (okN_d m3).2.1 (ex_den e _ gd m5 c).1 (mE_plain m5) m4
    · cases m
  | .ex e, st, m, c => by
    unfold mS at m
    split at m
    · simp only [Bool.and_eq_true, Bool.not_eq_true'] at m
      unfold clS at c
      exact s_ex (ex_den e _ gd m.1 c).1 (sw_not m.2 _ _ _)
    · cases m
  | .ife c a b, st, m, cs => by
    unfold mS at m
    split at m
    · simp only [Bool.and_eq_true] at m
      obtain ⟨⟨m1, m2⟩, m3⟩ := m
      unfold clS at cs
      exact s_if (ex_den c _ gd m1 cs.l.l).2 (sts_den gd a _ m2 cs.l.r) (sts_den gd b _ m3 cs.r)
    · cases m
  | .loop tg it body, st, m, c => by
    unfold mS at m
    split at m
    · simp only [Bool.and_eq_true] at m
      obtain ⟨⟨m1, m2⟩, m3⟩ := m
      unfold clS at c
      exact s_loop gd.po gd.calm (pi_den it _ _ gd m2 c.l) (pg_den gd _ _ m1) (sts_den gd body _ m3 c.r) (fold_plain (mI_plain m2) _) (weak_of m1 m2)
    · cases m
  | .wh n e body, st, m, c => by
    unfold mS at m
    split at m
    · simp only [Bool.and_eq_true] at m
      obtain ⟨m1, m2⟩ := m
      unfold clS at c
      exact s_while gd.po (ex_den e _ gd m1 c.l).2 (sts_den gd body _ m2 c.r)
    · cases m
  | .ret e, st, m, c => by
    unfold mS at m
    split at m
    · unfold clS at c
      exact s_ret (ex_den e _ gd m c).1
    · cases m
  | .fz _, st, m, c => by unfold mS at m; cases m
  | .drop _, st, m, c => by unfold mS at m; cases m
  | .raise _, st, m, c => s_raise'
  | .retT _ _ _ _, st, m, c => s_retT'
theorem sts_den {N : List Str} {X : Cx} {sc : Scope} {sb : Str -> Bool} {k : Nat} (gd : Gd X N sc sb k) : ∀ (l : List S) (es : List Stmt), mSs N sc sb l es = true -> Cs X k (clSs l) -> PSs X es (tSs l)
  | [], es, m, c => by
    unfold mSs at m
    split at m
    · exact s_nil
    · cases m
  | s :: l, es, m, c => by
    unfold clSs at c
    by_cases hf : ∃ i, s = .fz i
    · obtain ⟨i, rfl⟩ := hf
      unfold mSs at m
      exact s_fz (sts_den gd l _ m c.r)
    by_cases hf2 : ∃ i, s = .drop i
    · obtain ⟨i, rfl⟩ := hf2
      unfold mSs at m
      exact s_drop (sts_den gd l _ m c.r)
    by_cases hf3 : ∃ i fs ix q, s = .retT i fs ix q
    · obtain ⟨i, fs, ix, q, rfl⟩ := hf3
      exact s_retTs'
    · cases es with
      | nil =>
        unfold mSs at m
        split at m
        · exact absurd ⟨_, rfl⟩ hf
        · exact absurd ⟨_, rfl⟩ hf2
        · exact absurd ⟨_, _, _, _, rfl⟩ hf3
        · cases m
      | cons st r =>
        have m' : (mS N sc sb s st && mSs N sc sb l r) = true := by
          unfold mSs at m
          split at m
          · exact absurd ⟨_, rfl⟩ hf
          · exact absurd ⟨_, rfl⟩ hf2
          · exact absurd ⟨_, _, _, _, rfl⟩ hf3
          · exact m
        simp only [Bool.and_eq_true] at m'
        exact s_cons (st_den gd s st m'.1 c.l) (sts_den gd l r m'.2 c.r)
end
end Sb

set_option Elab.async false
set_option linter.all false
set_option maxRecDepth 100000
set_option maxHeartbeats 1000000
/-! SbJ: defs. -/
namespace Sb
open PySem PySem.Spec PyProof.Rows L2
theorem getElem?_map' {A B : Type} (f : A -> B) (l : List A) (i : Nat) : (l.map f)[i]? = l[i]?.map f := by simp
def entry (ds : List D) (k : Nat) : En := ds.map (fun x => some (Rv.d x)) ++ List.replicate k none
theorem entry_get {ds : List D} {k i : Nat} {x : Rv} (h : (entry ds k)[i]? = some (some x)) : ∃ d, ds[i]? = some d ∧ x = .d d := by
  unfold entry at h
  by_cases hi : i < ds.length
  · rw [List.getElem?_append_left (by simpa using hi), getElem?_map'] at h
    rw [List.getElem?_eq_getElem hi] at h
    simp only [Option.map_some, Option.some.injEq] at h
    exact ⟨ds[i], List.getElem?_eq_getElem hi, h.symm⟩
  · rw [List.getElem?_append_right (by simpa using hi)] at h
    have := List.mem_replicate.mp (List.mem_of_getElem? h)
    cases this.2
theorem entry_kd (ds : List D) (k i : Nat) : kd (entry ds k)[i]? = 0 := by
  cases q : (entry ds k)[i]? with
  | none => rfl
  | some o =>
    cases o with
    | none => rfl
    | some x =>
      obtain ⟨d, _, rfl⟩ := entry_get q
      rfl
section
variable {P : Program} {w : World} {K : PySem.W.Frag} {mg : Str → Option Value} {base : Heap}
theorem gd_start {N ps : List Str} {st : Stmt} {x : Str} {f : Addr} {cdv : Value} {A : Around} {outer : List Env} {s : Shared} {H : Hp} {E : XK} {k : Nat} (S : FnScope N ps (defScope st)) (hr : Room k (A.deeper (envOfC x (defScope st) s.heap.objs.size f cdv))) (blt : ∀ x ∈ bltN, mg x = none) :
    Gd (cxOf CX0 P w K mg base N x (defScope st) f cdv A outer s H E).nox N (defScope st) (sbOf (defScope st)) k where
  scope := rfl
  names := rfl
  nd := S.nd
  calm := rfl
  room := hr
  blt := blt
  po := PassesOwn.never
  kind := S.kind
  sto := fun y hy => by
    refine ⟨?_, .inl rfl⟩
    unfold sbOf at hy
    split at hy
    · rename_i e; exact .inl e
    · rename_i e; exact .inr e
    · cases hy
theorem rel_start {B : Addr -> Prop} {H : Hp} {N : List Str} {vs : List V} {ds : List D} {m n : Nat} (ht : Trk B H) (hd : DnL B H vs ds) (hn : vs.length = n) (hm : N.length = m) (hle : n ≤ m) : Rel B (entry ds (m - n)) (L2.start N vs) H := by
  have hl := hd.length
  have no : ∀ a, ¬ own (entry ds (m - n)) (L2.start N vs) a := fun a ⟨i, h1, _⟩ => h1 (entry_kd _ _ _)
  refine ⟨?_, fun i x h => ?_, fun i j a h => absurd (entry_kd _ _ _) h, fun a z => ht a z⟩
  · unfold entry L2.start
    rw [List.length_append, List.length_append, List.length_map, List.length_map, List.length_replicate, List.length_replicate, ← hl, hn, hm]
  · obtain ⟨d, h1, rfl⟩ := entry_get h
    obtain ⟨v, h2, h3⟩ := hd.get h1
    refine ⟨v, ?_, h3.mono (fun a z => .inl (z.elim id fun z => absurd z (no a))) fun _ _ _ e => e⟩
    unfold L2.start
    have hi : i < vs.length := (List.getElem?_eq_some_iff.mp h2).1
    rw [List.getElem?_append_left (by simpa using hi), getElem?_map', h2]
    rfl
theorem fnok_p {x : Str} {st : Stmt} {f : Addr} {fd : FuncData} {N ps : List Str} {k n m : Nat} {body : List Sb.S} (F : Fun K x x st f fd) (S : FnScope N ps (defScope st)) (hn : ps.length = n) (hN : N.length = m)
    (ma : mSs N (defScope st) (sbOf (defScope st)) body (defBody st) = true) (cs : ∀ c ∈ clSs body, Fok P w K mg base k c) (blt : ∀ x ∈ bltN, mg x = none) : FnOk P w K mg base CX0 (k + 1) f fd ps (spP n (mkP n m body)) := by
  refine F.ok S (fun vs H Q E h => ?_) fun cdv A outer s H vs Q E hr h => ?_
  · rw [hn]; exact h.1
  · obtain ⟨hl, B, ds, d, ht, hd, hs, hq⟩ := h
    have gd := gd_start (P := P) (w := w) (K := K) (base := base) (outer := outer) (H := H) (E := E) S hr blt
    refine ⟨_, sts_den gd body _ ma cs, ?_⟩
    have hle : n ≤ m := by
      have := congrArg List.length S.pre
      rw [List.length_take] at this
      omega
    obtain ⟨hc, hs⟩ := chk_inv hs
    obtain ⟨res, h1, h2⟩ := bnd_inv hs
    have rel := rel_start (N := N) ht hd hl hN hle
    refine ⟨B, fun _ => False, H, _, res, ⟨rel, Go.refl _ _, fun i a h => absurd (entry_kd _ _ _) h⟩, h1, ?_⟩
    have same : ∀ {H1 : Hp}, Go (fun _ => False) H H1 -> Same H H1 := fun g a o e => g.keep a o id e
    cases res with
    | nx r =>
      cases h2
      exact fun σ1 H1 sx _ => hq _ _ (same sx.go) .non
    | rt d' r =>
      cases h2
      exact fun v σ1 H1 sx _ dn => hq _ _ (same sx.go) (dn.mono (fun a z => .inl (.inl z)) fun _ _ _ e => e)
theorem fok_p {x : Str} {st : Stmt} {f : Addr} {fd : FuncData} {N ps : List Str} {k n m : Nat} {body : List Sb.S} (F : Fun K x x st f fd) (b : Binds K fd ps []) (hm : mg x = some (.ref f)) (S : FnScope N ps (defScope st)) (hn : ps.length = n) (hN : N.length = m)
    (ma : mSs N (defScope st) (sbOf (defScope st)) body (defBody st) = true) (cs : ∀ c ∈ clSs body, Fok P w K mg base k c) (blt : ∀ x ∈ bltN, mg x = none) : Fok P w K mg base (k + 1) (.p x n (mkP n m body)) :=
  ⟨f, fd, ps, hm, F.kp, b, fnok_p F S hn hN ma cs blt⟩
/-- the entry of a def with a lent list -/
def entryS (d0 : D) (t : List D) (dr : List D) (k : Nat) : En := some (Rv.d d0) :: some (Rv.c t) :: dr.map (fun x => some (Rv.d x)) ++ List.replicate k none
theorem entryS_get {d0 : D} {t dr : List D} {k i : Nat} : (entryS d0 t dr k)[i + 2]? = (entry dr k)[i]? := rfl
theorem fok_s {x : Str} {st : Stmt} {f : Addr} {fd : FuncData} {N ps : List Str} {k n m : Nat} {body : List Sb.S} (F : Fun K x x st f fd) (b : Binds K fd ps []) (hm : mg x = some (.ref f)) (S : FnScope N ps (defScope st)) (hn : ps.length = n) (hN : N.length = m)
    (ma : mSs N (defScope st) (sbOf (defScope st)) body (defBody st) = true) (cs : ∀ c ∈ clSs body, Fok P w K mg base k c) (blt : ∀ x ∈ bltN, mg x = none) : Fok P w K mg base (k + 1) (.s x n (mkS n m body)) := by
  refine ⟨f, fd, ps, hm, F.kp, b, F.ok S (fun vs H Q E h => ?_) fun cdv A outer s H vs Q E hr h => ?_⟩
  · rw [hn]; exact h.1
  · obtain ⟨hl, B, v0, a, vr, d0, dr, xs, t, d, t2, rfl, ht, ha, e0, er, hx, ex, hs, hq⟩ := h
    have gd := gd_start (P := P) (w := w) (K := K) (base := base) (outer := outer) (H := H) (E := E) S hr blt
    refine ⟨_, sts_den gd body _ ma cs, ?_⟩
    have hle : n ≤ m := by
      have := congrArg List.length S.pre
      rw [List.length_take] at this
      omega
    obtain ⟨hc, hs⟩ := chk_inv hs
    obtain ⟨res, h1, h2⟩ := bnd_inv hs
    have hlr := er.length
    have h1 : runs body (entryS d0 t dr (m - n)) = .ok res := h1
    have hσ : L2.start N (v0 :: .ref a :: vr) = some v0 :: some (.ref a) :: L2.start (N.drop 2) vr := by
      unfold L2.start
      simp only [List.map_cons, List.cons_append, List.length_drop, List.length_cons]
      rw [show N.length - (vr.length + 1 + 1) = N.length - 2 - vr.length by omega]
    have kdE : ∀ i, kd (entryS d0 t dr (m - n))[i]? ≠ 0 -> i = 1 := fun i h => by
      rcases i with _ | _ | i
      · exact absurd rfl h
      · rfl
      · rw [entryS_get] at h
        exact absurd (entry_kd _ _ _) h
    have ow : ∀ z, own (entryS d0 t dr (m - n)) (L2.start N (v0 :: .ref a :: vr)) z -> z = a := fun z ⟨i, h1, h2⟩ => by
      have := kdE i h1
      subst this
      rw [hσ] at h2
      cases h2
      rfl
    have hB : ∀ z, Bf B (entryS d0 t dr (m - n)) (L2.start N (v0 :: .ref a :: vr)) z -> B z ∨ H z = none := fun z hz => hz.elim .inl fun hz => .inl (by rw [ow z hz]; exact ha)
    have keep : ∀ a o, ¬ B a -> H a = some o -> H a = some o := fun _ _ _ e => e
    have hlm : (N.drop 2).length = m - 2 := by rw [List.length_drop, hN]
    have hn2 : vr.length + 2 = n := by simpa using hl
    have rel : Rel B (entryS d0 t dr (m - n)) (L2.start N (v0 :: .ref a :: vr)) H := by
      refine ⟨?_, fun i x h => ?_, fun i j z h1 h2 _ _ => by rw [kdE i h1, kdE j h2], fun z hz => ht z hz⟩
      · rw [hσ]
        unfold entryS L2.start
        simp only [List.cons_append, List.length_cons, List.length_append, List.length_map, List.length_replicate, hlm]
        omega
      · rcases i with _ | _ | i
        · cases h
          exact ⟨v0, by rw [hσ]; rfl, e0.mono hB keep⟩
        · cases h
          exact ⟨.ref a, by rw [hσ]; rfl, a, xs, rfl, hx, ex.mono hB keep, ha⟩
        · rw [entryS_get] at h
          obtain ⟨d', h1, rfl⟩ := entry_get h
          obtain ⟨v, h2, h3⟩ := er.get h1
          refine ⟨v, ?_, h3.mono hB keep⟩
          rw [hσ]
          show (L2.start (N.drop 2) vr)[i]? = _
          unfold L2.start
          have hi : i < vr.length := (List.getElem?_eq_some_iff.mp h2).1
          rw [List.getElem?_append_left (by simpa using hi), getElem?_map', h2]
          rfl
    refine ⟨B, fun b => b = a, H, _, res, ⟨rel, Go.refl _ _, fun i z h hz => .inl (ow z ⟨i, h, hz⟩)⟩, h1, ?_⟩
    have fin : ∀ (r1 : En) (σ1 : L2.St) (H1 : Hp) (d' : D) (v : V), Sx B (fun b => b = a) H r1 σ1 H1 -> Cel (entryS d0 t dr (m - n)) (L2.start N (v0 :: .ref a :: vr)) r1 σ1 -> Dn (Bf B r1 σ1) H1 v d' -> ((cellOf r1 1).bnd fun t2 => .ok (d', t2)) = .ok (d, t2) -> Q v H1 := fun r1 σ1 H1 d' v sx c dn h2 => by
      obtain ⟨t3, g1, h2⟩ := bnd_inv h2
      cases h2
      obtain ⟨c1, c2⟩ := c 1 rfl
      rw [hσ] at c2
      obtain ⟨p, ys, f1, f2, f3, f4⟩ := cell_at sx.rel g1
      rw [f1] at c2
      cases c2
      have down : ∀ z, B z -> Bf B r1 σ1 z ∨ H1 z = none := fun z hz => .inl (.inl hz)
      exact hq v H1 ys sx.go (dn.mono down fun _ _ _ e => e) f2 (f3.mono down fun _ _ _ e => e)
    cases res with
    | nx r => exact fun σ1 H1 sx c => fin r σ1 H1 .none .non sx c .non h2
    | rt d' r => exact fun v σ1 H1 sx c dn => fin r σ1 H1 d' v sx c dn h2
/-! ### a new list -/
def townB : List Stmt -> Bool
  | [.Return (some (.BinOp (.List [.Constant (.int i) _ _] _) o (.Call (.Name l _) [.Name s _] [] _) _)) _] => decide (i = 0) && decide (o = .Add) && decide (l = "list") && decide (s = "script")
  | _ => false
def townF : List D -> Out (List D)
  | [.list xs] => chk (small (1 + xs.length)) (.ok (.int 0 :: xs))
  | _ => .bad
theorem fok_town {x : Str} {st : Stmt} {f : Addr} {fd : FuncData} {k : Nat} (F : Fun K x x st f fd) (b : Binds K fd ["script"] []) (hm : mg x = some (.ref f)) (S : FnScope ["script"] ["script"] (defScope st)) 
    (ma : townB (defBody st) = true) (vis : visB (defScope st) "script" = true) (gl : glB (defScope st) "list" = true) (blt : ∀ x ∈ bltN, mg x = none) : Fok P w K mg base (k + 1) (.m x 1 townF) := by
  refine ⟨f, fd, _, hm, F.kp, b, F.ok S (fun vs H Q E h => h.1) fun cdv A outer s H vs Q E hr h => ?_⟩
  obtain ⟨hl, B, ds, t, ht, hd, hs, hq⟩ := h
  have gd := gd_start (P := P) (w := w) (K := K) (base := base) (outer := outer) (H := H) (E := E) S hr blt
  unfold townB at ma
  split at ma
  · rename_i heq
    simp only [Bool.and_eq_true, decide_eq_true_eq] at ma
    obtain ⟨⟨⟨rfl, rfl⟩, rfl⟩, rfl⟩ := ma
    rw [heq]
    refine ⟨_, pss_one (ps_ret (pe_op op_cat (pe_lst (pa_cons pe_int pa_nil)) (pe_callTy call_list_of (gd.gl gl) (blt _ (by decide +kernel)) (by rfl) (pa_cons (pe_var (i := 0) rfl (gd.vis vis) (by decide +kernel) (by decide +kernel)) pa_nil)))), ?_⟩
    unfold townF at hs
    split at hs
    · rename_i xs
      obtain ⟨hc, hs⟩ := chk_inv hs
      cases hs
      cases hd with
      | cons h tl =>
        cases tl
        cases h with
        | @lst a ys _ r1 r2 r3 =>
          refine ⟨by show 1 ≤ sizeLine; decide, fun l hl1 => ?_⟩
          refine ⟨_, rfl, a, ys, rfl, ?_, fun q hq1 => ?_⟩
          · refine .inl (.inl (Rd.keep r1 fun o e => ?_))
            exact same_new hl1 _ _ e
          · have s1 := same_new (o := .lst [V.int 0]) hl1
            have s2 := same_new (o := .lst ys) hq1
            have nlq : l ≠ q := fun z => by rw [← z, upd_same] at hq1; cases hq1
            refine ⟨l, q, [.int 0], ys, rfl, rfl, ?_, ?_, ?_, fun p hp => ?_⟩
            · show upd _ _ _ l = _
              rw [upd_ne nlq]; exact upd_same
            · exact upd_same
            · have hz := of_decide_eq_true (show decide (1 + xs.length ≤ 16777216) = true from hc)
              rw [r3.length, sizeLine_eq]
              simpa using hz
            · have s3 := same_new (o := .lst ([V.int 0] ++ ys)) hp
              have sA : Same H _ := (s1.trans s2).trans s3
              have hp0 : H p = none := by
                cases e : H p with
                | none => rfl
                | some o =>
                  have := (s1.trans s2) _ _ e
                  rw [this] at hp
                  cases hp
              refine hq p ([V.int 0] ++ ys) _ hp0 sA upd_same ?_
              exact (DnL.cons (Dn.int 0) r3).mono (fun z hz => hz.elim .inl fun hz => .inr (by rw [hz]; exact hp0)) fun a o _ e => sA a o e
    · cases hs
  · cases ma
end
end Sb

set_option Elab.async false
set_option linter.all false
set_option maxRecDepth 100000
set_option maxHeartbeats 1000000
/-! SbK: from the top's written part to the defs; the law's head. -/
namespace Sb
open PySem PySem.Spec PyProof.Rows L2
structure DefAt (K : PySem.W.Frag) (x : Str) (st : Stmt) : Prop where
  ex : ∃ (f : Addr) (fd : FuncData), PySem.W.nsIn K mainGlobals x = some (some (.ref f)) ∧ Fun K x x st f fd
theorem defAt_mk {K : PySem.W.Frag} {x : Str} {st : Stmt} {f : Addr} {oc : Value} {od an : Option Addr} {osl : Array (Option Value)} {kV doc pm cdv ct : Value} (a : PySem.W.nsIn K mainGlobals x = some (some (.ref f)))
    (l : K.lookup f = some ⟨oc, od, .func (PySem.W.fnOf x x (defArgs st) (defBody st) (defScope st) .none kV doc pm an cdv ct), osl⟩) (c : PySem.W.codeIn K cdv x = true) (k : PySem.W.keepIn K (.ref f) = true) : DefAt K x st :=
  ⟨f, _, a, fun_mk (st := st) l c k⟩
theorem scB {N P : List Str} {sc : Scope} (h : C8.scC N P sc = true) : FnScope N P sc := C8.fnScope_by h
abbrev BindH (x : Str) (st : Stmt) (ps : List Str) : Prop := ∀ (kV doc pm : Value) (an : Option Addr) (cdv ct : Value) (us : List Value), us.length = ps.length → bindArgs (PySem.W.fnOf x x (defArgs st) (defBody st) (defScope st) .none kV doc pm an cdv ct) ⟨us, []⟩ = pure (ps.zip us)
section
variable {P : Program} {w : World} {K : PySem.W.Frag} {mg : Str → Option Value} {base h : Heap}
theorem fokP (X : K.In h) (G : h.Ns mainGlobals mg) {x : Str} {st : Stmt} {N ps : List Str} {k n m : Nat} {body : List Sb.S} (d : DefAt K x st) (hb : BindH x st ps) (S : C8.scC N ps (defScope st) = true) (hn : ps.length = n) (hN : N.length = m)
    (ma : mSs N (defScope st) (sbOf (defScope st)) body (defBody st) = true) (blt : ∀ x ∈ bltN, mg x = none) (cs : ∀ c ∈ clSs body, Fok P w K mg base k c) : Fok P w K mg base (k + 1) (.p x n (mkP n m body)) := by
  obtain ⟨f, fd, a, F⟩ := d.ex
  exact fok_p F (F.binds hb) (PySem.W.mg_of X G a) (scB S) hn hN ma cs blt
theorem fokS (X : K.In h) (G : h.Ns mainGlobals mg) {x : Str} {st : Stmt} {N ps : List Str} {k n m : Nat} {body : List Sb.S} (d : DefAt K x st) (hb : BindH x st ps) (S : C8.scC N ps (defScope st) = true) (hn : ps.length = n) (hN : N.length = m)
    (ma : mSs N (defScope st) (sbOf (defScope st)) body (defBody st) = true) (blt : ∀ x ∈ bltN, mg x = none) (cs : ∀ c ∈ clSs body, Fok P w K mg base k c) : Fok P w K mg base (k + 1) (.s x n (mkS n m body)) := by
  obtain ⟨f, fd, a, F⟩ := d.ex
  exact fok_s F (F.binds hb) (PySem.W.mg_of X G a) (scB S) hn hN ma cs blt
theorem fokM (X : K.In h) (G : h.Ns mainGlobals mg) {x : Str} {st : Stmt} {k : Nat} (d : DefAt K x st) (hb : BindH x st ["script"]) (S : C8.scC ["script"] ["script"] (defScope st) = true) 
    (ma : (townB (defBody st) && visB (defScope st) "script" && glB (defScope st) "list") = true) (blt : ∀ x ∈ bltN, mg x = none) : Fok P w K mg base (k + 1) (.m x 1 townF) := by
  obtain ⟨f, fd, a, F⟩ := d.ex
  simp only [Bool.and_eq_true] at ma
  exact fok_town F (F.binds hb) (PySem.W.mg_of X G a) (scB S) ma.1.1 ma.1.2 ma.2 blt
theorem cs_nil {k : Nat} : ∀ c ∈ ([] : List Cl), Fok P w K mg base k c := fun c hc => by simp at hc
theorem cs_cons {k j : Nat} {c : Cl} {l : List Cl} (h : Fok P w K mg base j c) (hj : j ≤ k) (t : ∀ c ∈ l, Fok P w K mg base k c) : ∀ x ∈ c :: l, Fok P w K mg base k x := fun x hx => by
  rcases List.mem_cons.mp hx with e | e
  · rw [e]; exact h.mono hj
  · exact t x e
theorem law_at (X : K.In h) (G : h.Ns mainGlobals mg) {fa : Addr} (hfa : mg "law" = some (.ref fa)) {st : Stmt} {N : List Str} {k m : Nat} {body : List Sb.S} (d : DefAt K "law" st)
    (hb : ∀ (kV doc pm : Value) (an : Option Addr) (cdv ct : Value) (s : Shared) (v : Value), BindsTo s (PySem.W.fnOf "law" "law" (defArgs st) (defBody st) (defScope st) .none kV doc pm an cdv ct) ⟨[v], []⟩ [("script", v)])
    (S : C8.scC N ["script"] (defScope st) = true) (hN : N.length = m) (ma : mSs N (defScope st) (sbOf (defScope st)) body (defBody st) = true) (blt : ∀ x ∈ bltN, mg x = none)
    (cs : ∀ base : Heap, ∀ c ∈ clSs body, Fok P w K mg base k c) :
    ∃ fd : FuncData, (∀ (s : Shared) (v : Value), BindsTo s fd ⟨[v], []⟩ [("script", v)]) ∧ ∀ base : Heap, K.In base → base.Ns mainGlobals mg → FnOk P w K mg base CX0 (k + 1) fa fd ["script"] (spP 1 (mkP 1 m body)) := by
  obtain ⟨f, fd, a, F⟩ := d.ex
  have e := hfa.symm.trans (PySem.W.mg_of X G a)
  cases e
  have F2 := F
  obtain ⟨oc, od, kV, doc, pm, an, cdv, ct, osl, rfl, lk, hcd⟩ := F2.ex
  refine ⟨_, hb kV doc pm an cdv ct, fun base _ _ => ?_⟩
  exact fnok_p F (scB S) rfl hN ma (cs base) blt
end
theorem mem_lk {A : Type} {a : Addr} {o : A} : ∀ {K : List (Addr × A)}, K.lookup a = some o -> (a, o) ∈ K
  | [], h => by cases h
  | (b, x) :: r, h => by
    rw [List.lookup_cons] at h
    split at h
    · rename_i e
      cases h
      rw [beq_iff_eq.mp e]
      exact List.mem_cons_self
    · exact List.mem_cons_of_mem _ (mem_lk h)
/-- no list stands in the written part -/
def noListB (K : PySem.W.Frag) : Bool := K.all fun p => match p.2.cls with
  | .type s => !(s == "list")
  | _ => true
theorem noList_of {K : PySem.W.Frag} (h : noListB K = true) {a : Addr} {o : Obj} (e : K.lookup a = some o) : o.cls ≠ .type "list" := fun z => by
  have hm : (a, o) ∈ K := mem_lk e
  have := List.all_eq_true.mp h _ hm
  rw [z] at this
  simp at this
theorem ints_dn {B : Addr -> Prop} {H : Hp} : ∀ ns : List Int, DnL B H (ns.map V.int) (ns.map PyData.int)
  | [] => .nil
  | n :: r => .cons (.int n) (ints_dn r)
theorem start_law {K : PySem.W.Frag} (hK : noListB K = true) {H : Hp} {a : Addr} {ns : List Int} {sem : PF} (hS : SqL K H a (ns.map V.int)) (hs : sem [.list (ns.map PyData.int)] = .ok (.bool true)) {E : XK} : spP 1 sem [.ref a] H (fun v _ => v = .bl true) E := by
  rcases hS with r | ⟨o, its, n, e1, e2, _⟩
  · refine ⟨rfl, fun _ => False, [.list (ns.map PyData.int)], .bool true, fun a z => z.elim, .cons (.lst r id (ints_dn ns)) .nil, hs, fun v H1 _ dn => ?_⟩
    cases dn
    rfl
  · exact absurd e2 (noList_of hK e1)
end Sb
namespace Sb
open PySem PySem.Spec PyProof.Rows L2
theorem blt_of {K : PySem.W.Frag} {h : Heap} {mg : Str → Option Value} (X : K.In h) (G : h.Ns mainGlobals mg)
    (z : PySem.W.nsIn K mainGlobals "len" = some none ∧ PySem.W.nsIn K mainGlobals "list" = some none ∧ PySem.W.nsIn K mainGlobals "tuple" = some none ∧ PySem.W.nsIn K mainGlobals "max" = some none ∧ PySem.W.nsIn K mainGlobals "min" = some none ∧ PySem.W.nsIn K mainGlobals "sum" = some none ∧ PySem.W.nsIn K mainGlobals "all" = some none ∧ PySem.W.nsIn K mainGlobals "any" = some none ∧ PySem.W.nsIn K mainGlobals "int" = some none ∧ PySem.W.nsIn K mainGlobals "set" = some none ∧ PySem.W.nsIn K mainGlobals "range" = some none ∧ PySem.W.nsIn K mainGlobals "enumerate" = some none ∧ PySem.W.nsIn K mainGlobals "zip" = some none ∧ PySem.W.nsIn K mainGlobals "isinstance" = some none ∧ PySem.W.nsIn K mainGlobals "bool" = some none ∧ PySem.W.nsIn K mainGlobals "str" = some none ∧ PySem.W.nsIn K mainGlobals "sorted" = some none) :
    ∀ x ∈ bltN, mg x = none := by
  intro x hx
  obtain ⟨z1, z2, z3, z4, z5, z6, z7, z8, z9, z10, z11, z12, z13, z14, z15, z16, z17⟩ := z
  unfold bltN at hx
  simp only [List.mem_cons, List.not_mem_nil, or_false] at hx
  rcases hx with e | e | e | e | e | e | e | e | e | e | e | e | e | e | e | e | e <;> rw [e] <;> exact PySem.W.mg_none_of X G (by assumption)
end Sb

set_option Elab.async false
set_option linter.all false
set_option maxRecDepth 100000
set_option maxHeartbeats 1000000
/-! SbL: the evaluator's equations as rewrite rules; loops. -/
namespace Sb
open PySem
/-- only the head of a bind is worked at -/
theorem bnd_cong {A B : Type} {x y : Out A} {f : A -> Out B} (h : x = y) : x.bnd f = y.bnd f := by rw [h]
theorem chk_cong {A : Type} {p q : Bool} {x : Out A} (h : p = q) : chk p x = chk q x := by rw [h]
section
variable {r : En} {a b c e i f : E} {l : List E} {op op2 : Cop} {bo : Bop} {n s t : Nat} {d : D}
@[simp] theorem den_k : den (.k d) r = .ok (d, r) := rfl
@[simp] theorem den_v : den (.v n) r = (getD r n).bnd fun x => .ok (x, r) := rfl
@[simp] theorem den_bin : den (.bin bo a b) r = (den a r).bnd fun p => (den b p.2).bnd fun q => (binD bo p.1 q.1).bnd fun x => .ok (x, q.2) := rfl
@[simp] theorem den_cmp : den (.cmp op a b) r = (den a r).bnd fun p => (den b p.2).bnd fun q => (cmpD op p.1 q.1).bnd fun x => .ok (x, q.2) := rfl
def negD : D -> Out D
  | .int i => .ok (.int (-i))
  | _ => .bad
@[simp] theorem negD_int (i : Int) : negD (.int i) = .ok (.int (-i)) := rfl
theorem den_neg : den (.neg a) r = (den a r).bnd fun p => (negD p.1).bnd fun x => .ok (x, p.2) := by
  show (den a r).bnd _ = _
  cases den a r with
  | ok p => obtain ⟨d, r1⟩ := p; cases d <;> rfl
  | exn c => rfl
  | bad => rfl
/-- a test -/
def boo {A : Type} (d : D) (x y : Out A) : Out A := match d with
  | .bool true => x
  | .bool false => y
  | _ => .bad
@[simp] theorem boo_true {A : Type} (x y : Out A) : boo (.bool true) x y = x := rfl
@[simp] theorem boo_false {A : Type} (x y : Out A) : boo (.bool false) x y = y := rfl
theorem boo_cong {A : Type} {d e : D} {x y : Out A} (h : d = e) : boo d x y = boo e x y := by rw [h]
theorem boo_dec {A : Type} (p : Bool) (x y : Out A) : boo (.bool p) x y = if p then x else y := by cases p <;> rfl
@[simp] theorem den_chain : den (.chain op op2 a b c) r = (den a r).bnd fun p => (den b p.2).bnd fun q => (cmpD op p.1 q.1).bnd fun x => boo x ((den c q.2).bnd fun s => (cmpD op2 q.1 s.1).bnd fun y => .ok (y, s.2)) (.ok (.bool false, q.2)) := by
  show (den a r).bnd _ = _
  first
  | rfl
  | (congr 1
     funext p
     congr 1
     funext q
     congr 1
     funext x
     cases x <;> first | rfl | (rename_i bb; cases bb <;> rfl))
@[simp] theorem den_band : den (.band a b) r = (den a r).bnd fun p => boo p.1 (den b p.2) (.ok (.bool false, p.2)) := by
  show (den a r).bnd _ = _
  first
  | rfl
  | (congr 1
     funext p
     obtain ⟨d, r1⟩ := p
     cases d <;> first | rfl | (rename_i bb; cases bb <;> rfl))
@[simp] theorem den_bor : den (.bor a b) r = (den a r).bnd fun p => boo p.1 (.ok (.bool true, p.2)) (den b p.2) := by
  show (den a r).bnd _ = _
  first
  | rfl
  | (congr 1
     funext p
     obtain ⟨d, r1⟩ := p
     cases d <;> first | rfl | (rename_i bb; cases bb <;> rfl))
@[simp] theorem den_bnot : den (.bnot a) r = (den a r).bnd fun p => boo p.1 (.ok (.bool false, p.2)) (.ok (.bool true, p.2)) := by
  show (den a r).bnd _ = _
  first
  | rfl
  | (congr 1
     funext p
     obtain ⟨d, r1⟩ := p
     cases d <;> first | rfl | (rename_i bb; cases bb <;> rfl))
@[simp] theorem den_ite : den (.ite c a b) r = (den c r).bnd fun p => boo p.1 (den a p.2) (den b p.2) := by
  show (den c r).bnd _ = _
  first
  | rfl
  | (congr 1
     funext p
     obtain ⟨d, r1⟩ := p
     cases d <;> first | rfl | (rename_i bb; cases bb <;> rfl))
@[simp] theorem den_tup : den (.tup l) r = (denL l r).bnd fun p => chk (small p.1.length) (.ok (.tuple p.1, p.2)) := rfl
@[simp] theorem den_lst : den (.lst l) r = (denL l r).bnd fun p => chk (small p.1.length) (.ok (.list p.1, p.2)) := rfl
@[simp] theorem den_ix : den (.ix a i) r = (den a r).bnd fun p => (den i p.2).bnd fun q => (ixD p.1 q.1).bnd fun x => .ok (x, q.2) := rfl
@[simp] theorem den_cix : den (.cix s i) r = (cellOf r s).bnd fun _ => (den i r).bnd fun q => (cellOf q.2 s).bnd fun l => (ixD (.list l) q.1).bnd fun x => .ok (x, q.2) := rfl
variable {lo hi : Option E}
@[simp] theorem den_sl : den (.sl a lo hi) r = (den a r).bnd fun p => (denO lo p.2).bnd fun q => (denO hi q.2).bnd fun s => (slD p.1 q.1 s.1).bnd fun x => .ok (x, s.2) := rfl
@[simp] theorem den_prim {p : Prim} : den (.prim p l) r = (denL l r).bnd fun q => (primD p q.1).bnd fun x => .ok (x, q.2) := rfl
@[simp] theorem den_meth {m : Meth} : den (.meth m a b) r = (den a r).bnd fun p => (den b p.2).bnd fun q => (methD m p.1 q.1).bnd fun x => .ok (x, q.2) := rfl
@[simp] theorem den_isi {ty : Ty} : den (.isi ty a) r = (den a r).bnd fun p => .ok (.bool (isiD ty p.1), p.2) := rfl
@[simp] theorem den_lens : den (.lens a) r = (den a r).bnd fun p => (primD .lenset [p.1]).bnd fun x => .ok (x, p.2) := rfl
@[simp] theorem den_op {o : Op} : den (.op o l) r = (denL l r).bnd fun p => (opD o p.1).bnd fun x => .ok (x, p.2) := rfl
@[simp] theorem den_call {g : Str} {sem : PF} : den (.call g sem l) r = (denL l r).bnd fun p => (sem p.1).bnd fun x => .ok (x, p.2) := rfl
@[simp] theorem den_callT {fs : List (Str × PF)} : den (.callT fs i l) r = (den i r).bnd fun p => (ofO (intK p.1)).bnd fun k => (ofO (L2.atI fs k)).bnd fun f => (denL l p.2).bnd fun q => (f.2 q.1).bnd fun x => .ok (x, q.2) := rfl
@[simp] theorem intK_int {j : Int} : intK (.int j) = some j := rfl
@[simp] theorem den_callS {g : Str} {sem : SF} : den (.callS g sem a s l) r = (den a r).bnd fun p => (cellOf p.2 s).bnd fun _ => (denL l p.2).bnd fun q => (cellOf q.2 s).bnd fun t => (sem (p.1 :: q.1) t).bnd fun z => .ok (z.1, recell q.2 s z.2) := rfl
@[simp] theorem denL_nil : denL [] r = .ok ([], r) := rfl
@[simp] theorem denL_cons : denL (e :: l) r = (den e r).bnd fun p => (denL l p.2).bnd fun q => .ok (p.1 :: q.1, q.2) := rfl
@[simp] theorem denO_none : denO none r = .ok (none, r) := rfl
def intO : D -> Out Int
  | .int i => .ok i
  | _ => .bad
@[simp] theorem intO_int (i : Int) : intO (.int i) = .ok i := rfl
@[simp] theorem denO_some : denO (some e) r = (den e r).bnd fun p => (intO p.1).bnd fun i => .ok (some i, p.2) := by
  show (den e r).bnd _ = _
  first
  | rfl
  | (congr 1
     funext p
     obtain ⟨d, r1⟩ := p
     cases d <;> rfl)
def booO : D -> Out Bool
  | .bool i => .ok i
  | _ => .bad
@[simp] theorem booO_bool (i : Bool) : booO (.bool i) = .ok i := rfl
@[simp] theorem denC_none : denC none r = .ok (true, r) := rfl
@[simp] theorem denC_some : denC (some e) r = (den e r).bnd fun p => (booO p.1).bnd fun i => .ok (i, p.2) := by
  show (den e r).bnd _ = _
  first
  | rfl
  | (congr 1
     funext p
     obtain ⟨d, r1⟩ := p
     cases d <;> rfl)
@[simp] theorem items_seq : items (.seq e) r = (den e r).bnd fun p => (itemsD p.1).bnd fun l => .ok (l, p.2) := rfl
@[simp] theorem items_rng : items (.rng e) r = (den e r).bnd fun p => (intO p.1).bnd fun j => chk (rngOk j) (.ok (iota 0 j.toNat, p.2)) := by
  show (den e r).bnd _ = _
  first
  | rfl
  | (congr 1
     funext p
     obtain ⟨d, r1⟩ := p
     cases d <;> rfl)
@[simp] theorem items_rng2 : items (.rng2 a b) r = (den a r).bnd fun p => (den b p.2).bnd fun q => (intO p.1).bnd fun i => (intO q.1).bnd fun j => chk (rngOk i && rngOk j) (.ok (iota i (j - i).toNat, q.2)) := by
  show (den a r).bnd _ = _
  first
  | rfl
  | (congr 1
     funext p
     congr 1
     funext q
     obtain ⟨d, r1⟩ := p
     obtain ⟨d2, r2⟩ := q
     cases d <;> first | rfl | (cases d2 <;> rfl))
@[simp] theorem items_enum : items (.enum e) r = (den e r).bnd fun p => (itemsD p.1).bnd fun l => .ok (enumL 0 l, p.2) := rfl
@[simp] theorem items_zip : items (.zip a b) r = (den a r).bnd fun p => (den b p.2).bnd fun q => (itemsD p.1).bnd fun l => (itemsD q.1).bnd fun l2 => .ok (zipL l l2, q.2) := rfl
variable {g h : Gv} {tg : Tg} {body ba bb : List S} {st : S} {src : Src}
@[simp] theorem run_set : run (.set n g) r = (denG g r).bnd fun p => (setD p.2 n p.1).bnd fun r2 => .ok (.nx r2) := rfl
@[simp] theorem run_setT : run (.setT tg e) r = (den e r).bnd fun p => (bindT tg p.1 p.2).bnd fun r2 => .ok (.nx r2) := rfl
@[simp] theorem run_set2 : run (.set2 s t g h) r = (denG g r).bnd fun p => (denG h p.2).bnd fun q => chk (okPair p.1 q.1 && decide (s ≠ t)) ((setD q.2 s p.1).bnd fun r2 => (setD r2 t q.1).bnd fun r3 => .ok (.nx r3)) := rfl
@[simp] theorem run_setix : run (.setix s i e) r = (den e r).bnd fun p => (cellOf p.2 s).bnd fun _ => (den i p.2).bnd fun q => (setCell q.2 s q.1 p.1).bnd fun r2 => .ok (.nx r2) := rfl
@[simp] theorem run_app : run (.app s e) r = (cellOf r s).bnd fun _ => (den e r).bnd fun p => (cellOf p.2 s).bnd fun l => chk (small (l.length + 1)) (.ok (.nx (recell p.2 s (l ++ [p.1])))) := rfl
@[simp] theorem run_ex : run (.ex e) r = (den e r).bnd fun p => .ok (.nx p.2) := rfl
@[simp] theorem run_ife : run (.ife c ba bb) r = (den c r).bnd fun p => boo p.1 (runs ba p.2) (runs bb p.2) := by
  show (denC (some c) r).bnd _ = _
  rw [denC_some]
  cases den c r with
  | ok p =>
    obtain ⟨d, r1⟩ := p
    cases d <;> first | rfl | (rename_i q; cases q <;> rfl)
  | exn c => rfl
  | bad => rfl
/-- a loop over items -/
def loopA (tg : Tg) (body : List S) (l : List D) (r : En) : Out Res := forA (fun x r1 => (bindT tg x r1).bnd fun r2 => runs body r2) l r
@[simp] theorem run_loop : run (.loop tg src body) r = (items src r).bnd fun p => loopA tg body p.1 p.2 := rfl
/-- a loop while -/
def whL (c : E) (body : List S) (n : Nat) (r : En) : Out Res := whA (fun r1 => denC (some c) r1) (fun r1 => runs body r1) n r
@[simp] theorem run_wh : run (.wh n c body) r = whL c body n r := rfl
@[simp] theorem run_ret : run (.ret e) r = (den e r).bnd fun p => .ok (.rt p.1 p.2) := rfl
@[simp] theorem run_raise {x : Str} : run (.raise x) r = .exn x := rfl
def ownOf (r : En) (i : Nat) : Out (List D) := match r[i]? with
  | some (some (.o l)) => .ok l
  | _ => .bad
@[simp] theorem run_fz : run (.fz n) r = (ownOf r n).bnd fun l => .ok (.nx (r.set n (some (.d (.list l))))) := by
  show (match r[n]? with
    | some (some (.o l)) => Out.ok (Res.nx (r.set n (some (.d (.list l)))))
    | _ => .bad) = _
  unfold ownOf
  split <;> rfl
def dropOk (r : En) (i : Nat) : Bool := match r[i]? with
  | some (some (.c _)) => false
  | _ => true
@[simp] theorem run_drop : run (.drop n) r = chk (dropOk r n) (.ok (.nx (r.set n none))) := by
  show (match r[n]? with
    | some (some (.c _)) => Out.bad
    | _ => Out.ok (Res.nx (r.set n none))) = _
  unfold dropOk
  split <;> rfl
@[simp] theorem run_set3 {u : Nat} : run (.set3 s t u a b c) r = (den a r).bnd fun p => (den b p.2).bnd fun q => (den c q.2).bnd fun w => chk (decide (s ≠ t) && decide (s ≠ u) && decide (t ≠ u)) ((setD w.2 s (.d p.1)).bnd fun r2 => (setD r2 t (.d q.1)).bnd fun r3 => (setD r3 u (.d w.1)).bnd fun r4 => .ok (.nx r4)) := rfl
@[simp] theorem run_setix2 : run (.setix2 s t i a e f) r = (den e r).bnd fun p => (den f p.2).bnd fun q => (cellOf q.2 s).bnd fun _ => (den i q.2).bnd fun x => (setCell x.2 s x.1 p.1).bnd fun r2 => (cellOf r2 t).bnd fun _ => (den a r2).bnd fun y => (setCell y.2 t y.1 q.1).bnd fun r3 => .ok (.nx r3) := rfl
@[simp] theorem den_rng : den (.rng a b) r = (den a r).bnd fun p => (den b p.2).bnd fun q => (intO p.1).bnd fun i => (intO q.1).bnd fun j => chk (rngOk i && rngOk j) (.ok (.list (iota i (j - i).toNat), q.2)) := by
  show (den a r).bnd _ = _
  first
  | rfl
  | (congr 1
     funext p
     congr 1
     funext q
     obtain ⟨d, r1⟩ := p
     obtain ⟨d2, r2⟩ := q
     cases d <;> first | rfl | (cases d2 <;> rfl))
@[simp] theorem den_dix : den (.dix s i) r = (dictOf r s).bnd fun _ => (den i r).bnd fun q => (dictOf q.2 s).bnd fun kvs => (ofO (keyD q.1)).bnd fun k => (ofO (lookK k kvs)).bnd fun x => .ok (x, q.2) := rfl
@[simp] theorem den_dgt : den (.dgt s i a) r = (dictOf r s).bnd fun _ => (den i r).bnd fun q => (den a q.2).bnd fun t => (dictOf t.2 s).bnd fun kvs => (ofO (keyD q.1)).bnd fun k => .ok ((lookK k kvs).getD t.1, t.2) := rfl
@[simp] theorem den_nix : den (.nix s i) r = (nictOf r s).bnd fun _ => (den i r).bnd fun q => (nictOf q.2 s).bnd fun kvs => (ofO (nkeyD q.1)).bnd fun k => (ofO (lookN k kvs)).bnd fun x => .ok (x, q.2) := rfl
@[simp] theorem run_setnx : run (.setnx s i e) r = (den e r).bnd fun p => (nictOf p.2 s).bnd fun _ => (den i p.2).bnd fun q => (nictOf q.2 s).bnd fun kvs => (ofO (nkeyD q.1)).bnd fun k => chk (decide (kvs.length < 1000)) (.ok (.nx (q.2.set s (some (.n (putN k p.1 kvs)))))) := rfl
@[simp] theorem run_setdx : run (.setdx s i e) r = (den e r).bnd fun p => (dictOf p.2 s).bnd fun _ => (den i p.2).bnd fun q => (dictOf q.2 s).bnd fun kvs => (ofO (keyD q.1)).bnd fun k => chk (decide (kvs.length < 1000)) (.ok (.nx (q.2.set s (some (.m (putK k p.1 kvs)))))) := rfl
@[simp] theorem keyD_int {i : Int} : keyD (.int i) = some (.inl i) := rfl
@[simp] theorem keyD_str {x : Str} : keyD (.str x) = some (.inr x) := rfl
@[simp] theorem runs_nil : runs [] r = .ok (.nx r) := rfl
/-- what follows -/
def thn (a : Res) (k : En -> Out Res) : Out Res := match a with
  | .nx r2 => k r2
  | .rt d r2 => .ok (.rt d r2)
theorem thn_cong {a b : Res} {k : En -> Out Res} (h : a = b) : thn a k = thn b k := by rw [h]
@[simp] theorem thn_nx (k : En -> Out Res) : thn (.nx r) k = k r := rfl
@[simp] theorem thn_rt (k : En -> Out Res) : thn (.rt d r) k = .ok (.rt d r) := rfl
@[simp] theorem runs_cons {ss : List S} : runs (st :: ss) r = (run st r).bnd fun a => thn a (runs ss) := by
  show (run st r).bnd _ = _
  first
  | rfl
  | (congr 1
     funext a
     cases a <;> rfl)
@[simp] theorem forA_nil {body : D -> En -> Out Res} : forA body [] r = .ok (.nx r) := rfl
theorem forA_cons {body : D -> En -> Out Res} {x : D} {xs : List D} : forA body (x :: xs) r = (body x r).bnd fun a => thn a (forA body xs) := by
  show (body x r).bnd _ = _
  first
  | rfl
  | (congr 1
     funext a
     cases a <;> rfl)
theorem loopA_nil : loopA tg body [] r = .ok (.nx r) := rfl
theorem loopA_cons {x : D} {xs : List D} : loopA tg body (x :: xs) r = ((bindT tg x r).bnd fun r2 => runs body r2).bnd fun a => thn a (loopA tg body xs) := forA_cons
theorem whL_s : whL c body (n + 1) r = (den c r).bnd fun p => boo p.1 ((runs body p.2).bnd fun a => thn a (whL c body n)) (.ok (.nx p.2)) := by
  show (denC (some c) r).bnd _ = _
  rw [denC_some]
  cases den c r with
  | ok p =>
    obtain ⟨d, r1⟩ := p
    cases d with
    | bool q =>
      cases q with
      | true =>
        show (runs body r1).bnd _ = (runs body r1).bnd _
        congr 1
      | false => rfl
    | _ => rfl
  | exn c => rfl
  | bad => rfl
@[simp] theorem denG_rep : denG (.rep a b) r = (den a r).bnd fun p => (den b p.2).bnd fun q => (intO q.1).bnd fun k => chk (decide (0 ≤ k) && ab k 1000) (.ok (.o (rep k.toNat [p.1]), q.2)) := by
  show (den a r).bnd _ = _
  first
  | rfl
  | (congr 1
     funext p
     congr 1
     funext q
     obtain ⟨d, r1⟩ := q
     cases d <;> rfl)
@[simp] theorem denG_e : denG (.e e) r = (den e r).bnd fun p => .ok (.d p.1, p.2) := rfl
@[simp] theorem denG_lst : denG (.lst l) r = (denL l r).bnd fun p => chk (small p.1.length) (.ok (.o p.1, p.2)) := rfl
@[simp] theorem denG_cat : denG (.cat a b) r = (den a r).bnd fun p => (den b p.2).bnd fun q => (itemsL p.1).bnd fun x => (itemsL q.1).bnd fun y => chk (small (x.length + y.length)) (.ok (.o (x ++ y), q.2)) := rfl
@[simp] theorem denG_lcn {own : List (Str × Nat)} {tg : Tg} {it : Src} {cond : Option E} {e : E} : denG (.lcn own tg it cond e) r = (den (.lc own tg it cond e) r).bnd fun p => (itemsL p.1).bnd fun x => .ok (.o x, p.2) := rfl
@[simp] theorem itemsL_l {xs : List D} : itemsL (.list xs) = .ok xs := rfl
@[simp] theorem denG_nil : denG .nil r = .ok (.o [], r) := rfl
@[simp] theorem denG_nnil : denG .nnil r = .ok (.n [], r) := rfl
@[simp] theorem denG_dnil : denG .dnil r = .ok (.m [], r) := rfl
@[simp] theorem denG_dlit {kvs : List (L2.Key × D)} : denG (.dlit kvs) r = chk (decide (kvs.length ≤ 15)) (.ok (.m (kvs.foldl (fun acc p => putK p.1 p.2 acc) []), r)) := rfl
@[simp] theorem denG_mk {x : Str} {sem : List D -> Out (List D)} : denG (.mk x sem l) r = (denL l r).bnd fun p => (sem p.1).bnd fun y => .ok (.o y, p.2) := rfl
end
@[simp] theorem den_lc {own : List (Str × Nat)} {tg : Tg} {it : Src} {cond : Option E} {e : E} {r : En} : den (.lc own tg it cond e) r = (items it r).bnd fun p => chk (noCell p.2 (own.map (·.2))) ((lcA (lcTurn (own.map (·.2)) tg cond e) p.1 (wipeE p.2 (own.map (·.2)))).bnd fun q => chk (small (q.1.length + 1)) (.ok (.list q.1, backE p.2 q.2 (own.map (·.2))))) := rfl
@[simp] theorem den_lc2 {own : List (Str × Nat)} {vs1 : List Nat} {tg tg1 : Tg} {it it1 : Src} {e : E} {r : En} : den (.lc2 own vs1 tg it tg1 it1 e) r = (items it r).bnd fun p => chk (noCell p.2 (own.map (·.2)) && vs1.all fun v => (own.map (·.2)).contains v) ((lcA (lc2Turn (own.map (·.2)) vs1 tg tg1 it1 e) p.1 (wipeE p.2 (own.map (·.2)))).bnd fun q => chk (small (q.1.length + 1)) (.ok (.list q.1, backE p.2 q.2 (own.map (·.2))))) := rfl
theorem lcTurn_eq {vs : List Nat} {tg : Tg} {cond : Option E} {e : E} {x : D} {r1 : En} : lcTurn vs tg cond e x r1 = (bindT tg x r1).bnd fun r2 => (denC cond r2).bnd fun b => if b.1 then (den e b.2).bnd fun y => .ok ([y.1], wipeE y.2 vs) else .ok ([], wipeE b.2 vs) := by
  show (bindT tg x r1).bnd _ = _
  congr 1
  funext r2
  congr 1
  funext b
  obtain ⟨b, r3⟩ := b
  cases b <;> rfl
theorem lcA_map {A : Type} {turn : D -> En -> Out (List D × En)} {r : En} {f g : A -> D} : ∀ {l : List A}, (∀ a ∈ l, turn (f a) r = .ok ([g a], r)) -> lcA turn (l.map f) r = .ok (l.map g, r)
  | [], _ => rfl
  | a :: l, h => by
    show (turn (f a) r).bnd _ = _
    rw [h a List.mem_cons_self]
    show (lcA turn (l.map f) r).bnd _ = _
    rw [lcA_map fun b hb => h b (List.mem_cons_of_mem _ hb)]
    rfl
theorem lcA_filter {A : Type} {turn : D -> En -> Out (List D × En)} {r : En} {f g : A -> D} {p : A -> Bool} : ∀ {l : List A}, (∀ a ∈ l, turn (f a) r = .ok (if p a then [g a] else [], r)) -> lcA turn (l.map f) r = .ok ((l.filter p).map g, r)
  | [], _ => rfl
  | a :: l, h => by
    show (turn (f a) r).bnd _ = _
    rw [h a List.mem_cons_self]
    show (lcA turn (l.map f) r).bnd _ = _
    rw [lcA_filter fun b hb => h b (List.mem_cons_of_mem _ hb)]
    cases q : p a <;> simp [q]
/-! ### slots by numerals -/
section
variable {r : En} {o : Option Rv} {n : Nat} {x : D} {l : List D} {y : Rv}
@[simp] theorem getD_0 : getD (some (.d x) :: r) 0 = .ok x := rfl
@[simp] theorem getD_s : getD (o :: r) (n + 1) = getD r n := rfl
@[simp] theorem cellOf_c : cellOf (some (.c l) :: r) 0 = .ok l := rfl
@[simp] theorem cellOf_o : cellOf (some (.o l) :: r) 0 = .ok l := rfl
@[simp] theorem cellOf_s : cellOf (o :: r) (n + 1) = cellOf r n := rfl
@[simp] theorem freeAt_0n : freeAt (none :: r) 0 = true := rfl
@[simp] theorem freeAt_0d : freeAt (some (.d x) :: r) 0 = true := rfl
@[simp] theorem freeAt_0o : freeAt (some (.o l) :: r) 0 = true := rfl
@[simp] theorem freeAt_s : freeAt (o :: r) (n + 1) = freeAt r n := rfl
@[simp] theorem freeAt_0m {l : List (L2.Key × D)} : freeAt (some (.m l) :: r) 0 = true := rfl
@[simp] theorem ownOf_0 : ownOf (some (.o l) :: r) 0 = .ok l := rfl
@[simp] theorem ownOf_s : ownOf (o :: r) (n + 1) = ownOf r n := rfl
@[simp] theorem freeAt_0nn {l : List (NKey × D)} : freeAt (some (.n l) :: r) 0 = true := rfl
@[simp] theorem nictOf_0 {l : List (NKey × D)} : nictOf (some (.n l) :: r) 0 = .ok l := rfl
@[simp] theorem nictOf_s : nictOf (o :: r) (n + 1) = nictOf r n := rfl
@[simp] theorem dictOf_0 {l : List (L2.Key × D)} : dictOf (some (.m l) :: r) 0 = .ok l := rfl
@[simp] theorem dictOf_s : dictOf (o :: r) (n + 1) = dictOf r n := rfl
@[simp] theorem dropOk_n : dropOk (none :: r) 0 = true := rfl
@[simp] theorem dropOk_d : dropOk (some (.d x) :: r) 0 = true := rfl
@[simp] theorem dropOk_o : dropOk (some (.o l) :: r) 0 = true := rfl
@[simp] theorem dropOk_nn {l : List (NKey × D)} : dropOk (some (.n l) :: r) 0 = true := rfl
@[simp] theorem dropOk_m {l : List (L2.Key × D)} : dropOk (some (.m l) :: r) 0 = true := rfl
@[simp] theorem dropOk_s : dropOk (o :: r) (n + 1) = dropOk r n := rfl
@[simp] theorem setD_eq {i : Nat} : setD r i y = chk (freeAt r i) (.ok (r.set i (some y))) := rfl
@[simp] theorem recell_c {t : List D} : recell (some (.c l) :: r) 0 t = some (.c t) :: r := rfl
@[simp] theorem recell_o {t : List D} : recell (some (.o l) :: r) 0 t = some (.o t) :: r := rfl
@[simp] theorem recell_s {t : List D} : recell (o :: r) (n + 1) t = o :: recell r n t := by
  show (match r[n]? with
    | some (some (.c _)) => (o :: r).set (n + 1) (some (.c t))
    | some (some (.o _)) => (o :: r).set (n + 1) (some (.o t))
    | _ => o :: r) = o :: (match r[n]? with
    | some (some (.c _)) => r.set n (some (.c t))
    | some (some (.o _)) => r.set n (some (.o t))
    | _ => r)
  split <;> rfl
end
/-! ### a def's entry -/
theorem mkP_eq {n m : Nat} {body : List S} {args : List D} (h : args.length = n) : mkP n m body args = (runs body (args.map (fun x => some (Rv.d x)) ++ List.replicate (m - n) none)).bnd fun a => match a with
  | .rt d _ => .ok d
  | .nx _ => .ok .none := by
  unfold mkP
  rw [decide_eq_true h]
  rfl
def outR (a : Res) : Out D := match a with
  | .rt d _ => .ok d
  | .nx _ => .ok .none
@[simp] theorem outR_rt (d : D) (r : En) : outR (.rt d r) = .ok d := rfl
@[simp] theorem outR_nx (r : En) : outR (.nx r) = .ok .none := rfl
theorem mkP_run {n m : Nat} {body : List S} {args : List D} (r : En) (h : args.length = n) (hr : args.map (fun x => some (Rv.d x)) ++ List.replicate (m - n) none = r) : mkP n m body args = (runs body r).bnd outR := by
  rw [mkP_eq h, hr]
  rfl
theorem pf {f : PF} {n m : Nat} {body : List S} (hf : f = mkP n m body) (args : List D) (r : En) (h : args.length = n) (hr : args.map (fun x => some (Rv.d x)) ++ List.replicate (m - n) none = r) : f args = (runs body r).bnd outR := by
  rw [hf]
  exact mkP_run r h hr
@[simp] theorem bindT_v {i : Nat} {x : D} {r : En} : bindT (.v i) x r = setD r i (.d x) := rfl
@[simp] theorem bindT_t {l : List Tg} {xs : List D} {r : En} : bindT (.t l) (.tuple xs) r = bindTs l xs r := rfl
@[simp] theorem bindTs_nil {r : En} : bindTs [] [] r = .ok r := rfl
@[simp] theorem bindTs_cons {t : Tg} {l : List Tg} {x : D} {xs : List D} {r : En} : bindTs (t :: l) (x :: xs) r = (bindT t x r).bnd fun r2 => bindTs l xs r2 := rfl
@[simp] theorem itemsD_list (l : List D) : itemsD (.list l) = .ok l := rfl
@[simp] theorem itemsD_tuple (l : List D) : itemsD (.tuple l) = .ok l := rfl
theorem small_of {n : Nat} (h : n ≤ 16777216) : small n = true := decide_eq_true h
end Sb

set_option Elab.async false
set_option linter.all false
set_option maxRecDepth 100000
set_option maxHeartbeats 1000000
/-! SbM: operators on data as rewrite rules. -/
namespace Sb
open PySem
section
variable {i j k : Int} {xs ys : List D} {a b x y : D} {p q : Bool}
@[simp] theorem add_i : binD .add (.int i) (.int j) = .ok (.int (i + j)) := rfl
@[simp] theorem add_t : binD .add (.tuple xs) (.tuple ys) = chk (small (xs.length + ys.length)) (.ok (.tuple (xs ++ ys))) := rfl
@[simp] theorem add_l : binD .add (.list xs) (.list ys) = chk (small (xs.length + ys.length)) (.ok (.list (xs ++ ys))) := rfl
@[simp] theorem add_s {x y : Str} : binD .add (.str x) (.str y) = chk (small (x.length + y.length)) (.ok (.str (x ++ y))) := rfl
@[simp] theorem sub_i : binD .sub (.int i) (.int j) = .ok (.int (i - j)) := rfl
theorem mul_i : binD .mul (.int i) (.int j) = chk (mulOk i j) (.ok (.int (i * j))) := by simp only [binD]
@[simp] theorem mul_t : binD .mul (.tuple xs) (.int k) = chk (!xs.isEmpty && decide (2 ≤ k) && ab k 1000 && decide (xs.length ≤ 1000)) (.ok (.tuple (rep k.toNat xs))) := by simp only [binD]
@[simp] theorem mul_l : binD .mul (.list xs) (.int k) = chk (ab k 1000 && decide (xs.length ≤ 1000)) (.ok (.list (rep k.toNat xs))) := by simp only [binD]
@[simp] theorem fdiv_i : binD .fdiv (.int i) (.int j) = chk (decide (0 < j) && ab j 1073741823) (.ok (.int (i / j))) := by simp only [binD]
@[simp] theorem mod_i : binD .mod (.int i) (.int j) = chk (decide (0 < j)) (.ok (.int (i % j))) := by simp only [binD]
@[simp] theorem pow_i : binD .pow (.int i) (.int j) = chk (decide (0 ≤ j) && ab j 1000000 && ab i 18446744073709551615) (.ok (.int (i ^ j.toNat))) := by simp only [binD]
@[simp] theorem cmp_eq : cmpD .eq a b = (eqD a b).bnd fun r => .ok (.bool r) := by cases a <;> rfl
@[simp] theorem cmp_ne : cmpD .ne a b = (eqD a b).bnd fun r => .ok (.bool (!r)) := by cases a <;> rfl
@[simp] theorem cmp_lt : cmpD .lt (.int i) (.int j) = .ok (.bool (decide (i < j))) := rfl
@[simp] theorem cmp_le : cmpD .le (.int i) (.int j) = .ok (.bool (decide (i ≤ j))) := rfl
@[simp] theorem cmp_gt : cmpD .gt (.int i) (.int j) = .ok (.bool (decide (j < i))) := rfl
@[simp] theorem cmp_ge : cmpD .ge (.int i) (.int j) = .ok (.bool (decide (j ≤ i))) := rfl
@[simp] theorem cmp_isn : cmpD .isn a .none = .ok (.bool (isNone a)) := by cases a <;> rfl
@[simp] theorem cmp_nisn : cmpD .nisn a .none = .ok (.bool (!isNone a)) := by cases a <;> rfl
@[simp] theorem cmp_isb : cmpD .isb (.bool p) (.bool q) = .ok (.bool (decide (p = q))) := rfl
@[simp] theorem cmp_nisb : cmpD .nisb (.bool p) (.bool q) = .ok (.bool (!decide (p = q))) := rfl
@[simp] theorem cmp_inL : cmpD .isin x (.list ys) = chk (depthOk x (.list ys)) (.ok (.bool (ys.any fun z => PyData.eqv z x))) := by cases x <;> rfl
@[simp] theorem cmp_ninL : cmpD .notin x (.list ys) = chk (depthOk x (.list ys)) (.ok (.bool (!ys.any fun z => PyData.eqv z x))) := by cases x <;> rfl
@[simp] theorem cmp_inT : cmpD .isin x (.tuple ys) = chk (depthOk x (.tuple ys)) (.ok (.bool (ys.any fun z => PyData.eqv z x))) := by cases x <;> rfl
@[simp] theorem cmp_ninT : cmpD .notin x (.tuple ys) = chk (depthOk x (.tuple ys)) (.ok (.bool (!ys.any fun z => PyData.eqv z x))) := by cases x <;> rfl
@[simp] theorem eq_ii : eqD (.int i) (.int j) = .ok (decide (i = j)) := rfl
@[simp] theorem eq_nn : eqD .none .none = .ok true := rfl
theorem eq_sh (h1 : SeqAt.shaped a = true) (h2 : SeqAt.shaped b = true) : eqD a b = .ok (PyData.eqv a b) := by
  unfold eqD
  split
  · rename_i i j; rw [show PyData.eqv (.int i) (.int j) = (i == j) from by simp [PyData.eqv], show (i == j) = decide (i = j) from by by_cases e : i = j <;> simp [e]]
  · simp [PyData.eqv]
  · simp [depthOk, h1, h2]
@[simp] theorem isNone_n : isNone .none = true := rfl
@[simp] theorem isNone_i : isNone (.int i) = false := rfl
@[simp] theorem isNone_t : isNone (.tuple xs) = false := rfl
@[simp] theorem isNone_l : isNone (.list xs) = false := rfl
@[simp] theorem ix_l : ixD (.list xs) (.int i) = ofO (L2.atI xs i) := rfl
@[simp] theorem ix_t : ixD (.tuple xs) (.int i) = ofO (L2.atI xs i) := rfl
variable {lo hi : Option Int}
@[simp] theorem sl_l : slD (.list xs) lo hi = .ok (.list (cut xs lo hi)) := rfl
@[simp] theorem sl_t : slD (.tuple xs) lo hi = .ok (.tuple (cut xs lo hi)) := rfl
@[simp] theorem isi_int : isiD .int (.int i) = true := rfl
@[simp] theorem isi_boolint : isiD .bool (.int i) = false := rfl
@[simp] theorem isi_tup : isiD .tuple (.tuple xs) = true := rfl
@[simp] theorem isi_strstr {s : Str} : isiD .str (.str s) = true := rfl
@[simp] theorem len_l : primD .len [.list xs] = .ok (.int xs.length) := rfl
@[simp] theorem len_t : primD .len [.tuple xs] = .ok (.int xs.length) := rfl
@[simp] theorem list_l : primD .list [.list xs] = .ok (.list xs) := rfl
@[simp] theorem list_t : primD .list [.tuple xs] = .ok (.list xs) := rfl
@[simp] theorem tuple_l : primD .tuple [.list xs] = .ok (.tuple xs) := rfl
@[simp] theorem tuple_t : primD .tuple [.tuple xs] = .ok (.tuple xs) := rfl
@[simp] theorem max1_l : primD .max1 [.list xs] = (ofO (intsD xs)).bnd fun ns => (ofO (maxI ns)).bnd fun m => .ok (.int m) := rfl
@[simp] theorem max1_t : primD .max1 [.tuple xs] = (ofO (intsD xs)).bnd fun ns => (ofO (maxI ns)).bnd fun m => .ok (.int m) := rfl
@[simp] theorem min1_l : primD .min1 [.list xs] = (ofO (intsD xs)).bnd fun ns => (ofO (minI ns)).bnd fun m => .ok (.int m) := rfl
@[simp] theorem min1_t : primD .min1 [.tuple xs] = (ofO (intsD xs)).bnd fun ns => (ofO (minI ns)).bnd fun m => .ok (.int m) := rfl
@[simp] theorem max2_i : primD .max2 [.int i, .int j] = .ok (.int (if j > i then j else i)) := rfl
@[simp] theorem min2_i : primD .min2 [.int i, .int j] = .ok (.int (if j < i then j else i)) := rfl
@[simp] theorem sum_l : primD .sum [.list xs] = (ofO (intsD xs)).bnd fun ns => .ok (.int ns.sum) := rfl
@[simp] theorem sum_t : primD .sum [.tuple xs] = (ofO (intsD xs)).bnd fun ns => .ok (.int ns.sum) := rfl
@[simp] theorem all_l : primD .all [.list xs] = (ofO (boolsD xs)).bnd fun bs => .ok (.bool (bs.all id)) := rfl
@[simp] theorem any_l : primD .any [.list xs] = (ofO (boolsD xs)).bnd fun bs => .ok (.bool (bs.any id)) := rfl
@[simp] theorem int_b : primD .int [.bool p] = .ok (.int (b2i p)) := rfl
@[simp] theorem int_i : primD .int [.int i] = .ok (.int i) := rfl
@[simp] theorem lens_l : primD .lenset [.list xs] = (ofO (intsD xs)).bnd fun ns => chk (decide (ns.length ≤ 1000)) (.ok (.int (dedup ns).length)) := rfl
@[simp] theorem lens_t : primD .lenset [.tuple xs] = (ofO (intsD xs)).bnd fun ns => chk (decide (ns.length ≤ 1000)) (.ok (.int (dedup ns).length)) := rfl
@[simp] theorem tindex_i : methD .tindex (.tuple xs) (.int i) = (ofO (intsD xs)).bnd fun ns => chk (ns.contains i) (.ok (.int (ns.idxOf i : Nat))) := rfl
@[simp] theorem lcount_e : methD .lcount (.list xs) b = chk (depthOk (.list xs) b) (.ok (.int (xs.countP fun y => PyData.eqv y b : Nat))) := rfl
@[simp] theorem lindex_e : methD .lindex (.list xs) b = chk (depthOk (.list xs) b) ((ofO (indexOf b xs)).bnd fun n => .ok (.int (n : Nat))) := rfl
@[simp] theorem intsD_ints : ∀ l : List Int, intsD (l.map .int) = some l
  | [] => rfl
  | x :: r => by
    show (intsD (r.map .int)).map _ = _
    rw [intsD_ints r]
    rfl
@[simp] theorem boolsD_bools : ∀ l : List Bool, boolsD (l.map .bool) = some l
  | [] => rfl
  | x :: r => by
    show (boolsD (r.map .bool)).map _ = _
    rw [boolsD_bools r]
    rfl
/-- a slot that holds no list or dict of its own -/
def isDat (r : En) (v : Nat) : Bool := match r[v]? with
  | some (some (.d _)) => true
  | some none => true
  | _ => false
@[simp] theorem noCell_nil {r : En} : noCell r [] = true := rfl
@[simp] theorem noCell_cons {r : En} {v : Nat} {vs : List Nat} : noCell r (v :: vs) = (isDat r v && noCell r vs) := rfl
@[simp] theorem isDat_d {r : En} : isDat (some (.d x) :: r) 0 = true := rfl
@[simp] theorem isDat_n {r : En} : isDat (none :: r) 0 = true := rfl
@[simp] theorem isDat_s {r : En} {o : Option Rv} {n : Nat} : isDat (o :: r) (n + 1) = isDat r n := rfl
@[simp] theorem wipeE_nil {r : En} : wipeE r [] = r := rfl
@[simp] theorem wipeE_cons {r : En} {v : Nat} {vs : List Nat} : wipeE r (v :: vs) = (wipeE r vs).set v none := rfl
@[simp] theorem backE_nil {r r0 : En} : backE r0 r [] = r := rfl
@[simp] theorem backE_cons {r r0 : En} {v : Nat} {vs : List Nat} : backE r0 r (v :: vs) = (backE r0 r vs).set v (r0[v]?.getD none) := rfl
end
theorem intsD_map {A : Type} (f : A -> Int) (l : List A) : intsD (l.map fun x => .int (f x)) = some (l.map f) := by
  rw [← intsD_ints (l.map f), List.map_map]
  rfl
theorem boolsD_map {A : Type} (f : A -> Bool) (l : List A) : boolsD (l.map fun x => .bool (f x)) = some (l.map f) := by
  rw [← boolsD_bools (l.map f), List.map_map]
  rfl
theorem atI_of {A : Type} {xs : List A} {i : Int} {n : Nat} {v : A} (h0 : i = (n : Int)) (h : xs[n]? = some v) : L2.atI xs i = some v := by
  rw [h0]
  exact L2.atI_nat h
section
variable {a b c d : D}
@[simp] theorem at2_0 : L2.atI [a, b] 0 = some a := rfl
@[simp] theorem at2_1 : L2.atI [a, b] 1 = some b := rfl
@[simp] theorem at3_0 : L2.atI [a, b, c] 0 = some a := rfl
@[simp] theorem at3_1 : L2.atI [a, b, c] 1 = some b := rfl
@[simp] theorem at3_2 : L2.atI [a, b, c] 2 = some c := rfl
end
-- equality of results, by data
mutual
def beqD : D -> D -> Bool
  | .none, y => match y with
    | .none => true
    | _ => false
  | .bool a, y => match y with
    | .bool b => a == b
    | _ => false
  | .int a, y => match y with
    | .int b => decide (a = b)
    | _ => false
  | .str a, y => match y with
    | .str b => decide (a = b)
    | _ => false
  | .list a, y => match y with
    | .list b => beqL a b
    | _ => false
  | .tuple a, y => match y with
    | .tuple b => beqL a b
    | _ => false
  | .dict _, _ => false
def beqL : List D -> List D -> Bool
  | [], y => match y with
    | [] => true
    | _ => false
  | a :: r, y => match y with
    | b :: t => beqD a b && beqL r t
    | [] => false
end
mutual
theorem beqD_eq : ∀ {a b : D}, beqD a b = true -> a = b
  | .none, b, h => by cases b <;> first | rfl | cases h
  | .bool a, b, h => by
    cases b <;> first | cases h | skip
    rename_i b
    have h : (a == b) = true := h
    rw [eq_of_beq h]
  | .int a, b, h => by
    cases b <;> first | cases h | skip
    rename_i b
    have h : decide (a = b) = true := h
    rw [of_decide_eq_true h]
  | .str a, b, h => by
    cases b <;> first | cases h | skip
    rename_i b
    have h : decide (a = b) = true := h
    rw [of_decide_eq_true h]
  | .list a, b, h => by
    cases b <;> first | cases h | skip
    rename_i b
    have h : beqL a b = true := h
    rw [beqL_eq h]
  | .tuple a, b, h => by
    cases b <;> first | cases h | skip
    rename_i b
    have h : beqL a b = true := h
    rw [beqL_eq h]
  | .dict a, b, h => by cases b <;> cases h
theorem beqL_eq : ∀ {a b : List D}, beqL a b = true -> a = b
  | [], b, h => by cases b <;> first | rfl | cases h
  | a :: r, b, h => by
    cases b with
    | nil => cases h
    | cons c t =>
      have h : (beqD a c && beqL r t) = true := h
      rw [Bool.and_eq_true] at h
      rw [beqD_eq h.1, beqL_eq h.2]
end
def beqO (x : Out D) (d : D) : Bool := match x with
  | .ok y => beqD y d
  | _ => false
theorem beqO_eq {x : Out D} {d : D} (h : beqO x d = true) : x = .ok d := by
  cases x with
  | ok y => rw [beqD_eq (show beqD y d = true from h)]
  | exn c => cases h
  | bad => cases h
/-! ### a lesser promise -/
open L2 in
theorem Fok.below {P : Program} {w : World} {K : PySem.W.Frag} {mg : Str → Option Value} {base : Heap} {k : Nat} {f : Str} {n : Nat} {s1 s2 : PF} (h : Fok P w K mg base k (.p f n s1)) (le : ∀ a d, s2 a = .ok d -> s1 a = .ok d) : Fok P w K mg base k (.p f n s2) := by
  obtain ⟨fa, fd, ps, h1, h2, h3, h4⟩ := h
  exact ⟨fa, fd, ps, h1, h2, h3, h4.imp fun vs H Q E q => by
    obtain ⟨q1, B, ds, d, q2, q3, q4, q5⟩ := q
    exact ⟨q1, B, ds, d, q2, q3, le _ _ q4, q5⟩⟩
/-! ### loops -/
theorem forA_run {A B G : Type} {f : A -> D} {body : D -> En -> Out Res} {env : B -> G -> En} {step : B -> A -> B} : ∀ {l : List A}, (∀ b g a, a ∈ l -> ∃ g', body (f a) (env b g) = .ok (.nx (env (step b a) g'))) -> ∀ b g, ∃ g', forA body (l.map f) (env b g) = .ok (.nx (env (l.foldl step b) g'))
  | [], _, b, g => ⟨g, rfl⟩
  | a :: l, h, b, g => by
    obtain ⟨g1, e1⟩ := h b g a List.mem_cons_self
    obtain ⟨g2, e2⟩ := forA_run (fun b g x hx => h b g x (List.mem_cons_of_mem _ hx)) (step b a) g1
    refine ⟨g2, ?_⟩
    rw [List.map_cons, forA_cons, e1]
    exact e2
/-- a loop that looks for its answer -/
theorem forA_find {A G : Type} {f : A -> D} {body : D -> En -> Out Res} {env : G -> En} {ret : A -> Option D} : ∀ {l : List A}, (∀ g a, a ∈ l -> (∃ d r, ret a = some d ∧ body (f a) (env g) = .ok (.rt d r)) ∨ (ret a = none ∧ ∃ g', body (f a) (env g) = .ok (.nx (env g')))) ->
    ∀ g, (∃ d r, l.findSome? ret = some d ∧ forA body (l.map f) (env g) = .ok (.rt d r)) ∨ (l.findSome? ret = none ∧ ∃ g', forA body (l.map f) (env g) = .ok (.nx (env g')))
  | [], _, g => .inr ⟨rfl, g, rfl⟩
  | a :: l, h, g => by
    rw [List.map_cons]
    simp only [forA_cons]
    rcases h g a List.mem_cons_self with ⟨d, r, e1, e2⟩ | ⟨e1, g1, e2⟩
    · refine .inl ⟨d, r, ?_, ?_⟩
      · rw [List.findSome?_cons, e1]
      · rw [e2]; rfl
    · rcases forA_find (fun g x hx => h g x (List.mem_cons_of_mem _ hx)) g1 with ⟨d, r, e3, e4⟩ | ⟨e3, g2, e4⟩
      · refine .inl ⟨d, r, ?_, ?_⟩
        · rw [List.findSome?_cons, e1]; exact e3
        · rw [e2]; exact e4
      · refine .inr ⟨?_, g2, ?_⟩
        · rw [List.findSome?_cons, e1]; exact e3
        · rw [e2]; exact e4
/-- a run that gives an answer, or goes on with r -/
def Ans (x : Out Res) (o : Option D) (r : En) : Prop := match o with
  | some d => ∃ r', x = .ok (.rt d r')
  | none => x = .ok (.nx r)
theorem Ans.nx {x : Out Res} {r : En} (h : x = .ok (.nx r)) : Ans x none r := h
theorem Ans.rt {x : Out Res} {r r' : En} {d : D} (h : x = .ok (.rt d r')) : Ans x (some d) r := ⟨r', h⟩
theorem forA_ans {A : Type} {f : A -> D} {body : D -> En -> Out Res} {r : En} {ret : A -> Option D} : ∀ {l : List A}, (∀ a ∈ l, Ans (body (f a) r) (ret a) r) -> Ans (forA body (l.map f) r) (l.findSome? ret) r
  | [], _ => rfl
  | a :: l, h => by
    have h1 := h a List.mem_cons_self
    have h2 := forA_ans fun x hx => h x (List.mem_cons_of_mem _ hx)
    rw [List.map_cons, forA_cons, List.findSome?_cons]
    cases e : ret a with
    | some d =>
      rw [e] at h1
      obtain ⟨r', h1⟩ := h1
      exact ⟨r', by rw [h1]; rfl⟩
    | none =>
      rw [e] at h1
      have h1 : body (f a) r = .ok (.nx r) := h1
      rw [h1]
      exact h2
theorem loop_ans {A : Type} {f : A -> D} {tg : Tg} {body : List S} {r : En} (ret : A -> Option D) {l : List A} (h : ∀ a ∈ l, Ans ((bindT tg (f a) r).bnd fun r2 => runs body r2) (ret a) r) : Ans (loopA tg body (l.map f) r) (l.findSome? ret) r := forA_ans h
theorem Ans.seq {x : Out Res} {o o2 : Option D} {r r2 : En} {k : En -> Out Res} (h : Ans x o r) (h2 : o = none -> Ans (k r) o2 r2) : Ans (x.bnd fun a => thn a k) (o.or o2) r2 := by
  cases o with
  | some d =>
    obtain ⟨r', h⟩ := h
    exact ⟨r', by rw [h]; rfl⟩
  | none =>
    have h : x = .ok (.nx r) := h
    rw [h]
    exact h2 rfl
theorem Ans.out {x : Out Res} {o : Option D} {r : En} (h : Ans x o r) : x.bnd outR = .ok (o.getD .none) := by
  cases o with
  | some d =>
    obtain ⟨r', h⟩ := h
    rw [h]; rfl
  | none =>
    have h : x = .ok (.nx r) := h
    rw [h]; rfl
/-- a search, then the rest of the def -/
theorem Ans.fin {x : Out Res} {o : Option D} {r : En} {k : En -> Out Res} {d : D} (h : Ans x o r) (h2 : (k r).bnd outR = .ok d) : (x.bnd fun a => thn a k).bnd outR = .ok (o.getD d) := by
  cases o with
  | some d =>
    obtain ⟨r', h⟩ := h
    rw [h]; rfl
  | none =>
    have h : x = .ok (.nx r) := h
    rw [h]
    exact h2
theorem loop_st {A B : Type} {f : A -> D} {tg : Tg} {body : List S} (env : B -> En) (step : B -> A -> B) : ∀ {l : List A} (b : B), (∀ b, ∀ a ∈ l, ((bindT tg (f a) (env b)).bnd fun r2 => runs body r2) = .ok (.nx (env (step b a)))) -> loopA tg body (l.map f) (env b) = .ok (.nx (env (l.foldl step b)))
  | [], b, _ => rfl
  | a :: l, b, h => by
    rw [List.map_cons, loopA_cons, h b a List.mem_cons_self]
    exact loop_st env step (step b a) fun b x hx => h b x (List.mem_cons_of_mem _ hx)
/-- a loop with a condition that is kept; what is done stands ahead -/
theorem loop_inv0 {A : Type} {f : A -> D} {tg : Tg} {body : List S} (I : List A -> En -> Prop) (l0 : List A) (hs : ∀ dn a tl r, l0 = dn ++ a :: tl -> I dn r -> ∃ r', ((bindT tg (f a) r).bnd fun r2 => runs body r2) = .ok (.nx r') ∧ I (dn ++ [a]) r') : ∀ (l dn : List A) {r : En}, l0 = dn ++ l -> I dn r -> ∃ r', loopA tg body (l.map f) r = .ok (.nx r') ∧ I l0 r'
  | [], dn, r, hl, h => ⟨r, rfl, by rw [hl]; simpa using h⟩
  | a :: l, dn, r, hl, h => by
    obtain ⟨r1, e1, h1⟩ := hs dn a l r hl h
    obtain ⟨r2, e2, h2⟩ := loop_inv0 I l0 hs l (dn ++ [a]) (by rw [hl]; simp) h1
    refine ⟨r2, ?_, h2⟩
    rw [List.map_cons, loopA_cons, e1]
    exact e2
theorem loop_inv {A : Type} {f : A -> D} {tg : Tg} {body : List S} (I : List A -> En -> Prop) {l : List A} {r : En} (h : I [] r) (hs : ∀ dn a tl r, l = dn ++ a :: tl -> I dn r -> ∃ r', ((bindT tg (f a) r).bnd fun r2 => runs body r2) = .ok (.nx r') ∧ I (dn ++ [a]) r') : ∃ r', loopA tg body (l.map f) r = .ok (.nx r') ∧ I l r' := loop_inv0 I l hs l [] rfl h
/-- a comprehension with a condition that is kept -/
theorem lc_inv0 {A B : Type} {turn : D -> En -> Out (List D × En)} {f : A -> D} {g : B -> D} (I : List A -> List B -> En -> Prop) (l0 : List A) (hs : ∀ pre a tl dn r, l0 = pre ++ a :: tl -> dn.length = pre.length -> I pre dn r -> ∃ b r', turn (f a) r = .ok ([g b], r') ∧ I (pre ++ [a]) (dn ++ [b]) r') : ∀ (l pre : List A) (dn : List B) {r : En}, l0 = pre ++ l -> dn.length = pre.length -> I pre dn r -> ∃ bs r', lcA turn (l.map f) r = .ok (bs.map g, r') ∧ bs.length = l.length ∧ I l0 (dn ++ bs) r'
  | [], pre, dn, r, hl, hd, h => ⟨[], r, rfl, rfl, by rw [hl]; simpa using h⟩
  | a :: l, pre, dn, r, hl, hd, h => by
    obtain ⟨b, r1, e1, h1⟩ := hs pre a l dn r hl hd h
    obtain ⟨bs, r2, e2, hl2, h2⟩ := lc_inv0 I l0 hs l (pre ++ [a]) (dn ++ [b]) (by rw [hl]; simp) (by simp [hd]) h1
    refine ⟨b :: bs, r2, ?_, by simp [hl2], by simpa using h2⟩
    rw [List.map_cons]
    show (turn (f a) r).bnd _ = _
    rw [e1]
    show (lcA turn (l.map f) r1).bnd _ = _
    rw [e2]
    rfl
theorem lc_inv {A B : Type} {turn : D -> En -> Out (List D × En)} {f : A -> D} {g : B -> D} (I : List A -> List B -> En -> Prop) {l : List A} {r : En} (h : I [] [] r) (hs : ∀ pre a tl dn r, l = pre ++ a :: tl -> dn.length = pre.length -> I pre dn r -> ∃ b r', turn (f a) r = .ok ([g b], r') ∧ I (pre ++ [a]) (dn ++ [b]) r') : ∃ bs r', lcA turn (l.map f) r = .ok (bs.map g, r') ∧ bs.length = l.length ∧ I l bs r' := by
  obtain ⟨bs, r', h1, h2, h3⟩ := lc_inv0 I l hs l [] [] rfl rfl h
  exact ⟨bs, r', h1, h2, h3⟩
/-- a slot of no matter -/
def og (o : Option D) : Option Rv := o.map Rv.d
@[simp] theorem og_some (d : D) : og (some d) = some (.d d) := rfl
@[simp] theorem og_none : og none = none := rfl
@[simp] theorem freeAt_og {o : Option D} {r : En} : freeAt (og o :: r) 0 = true := by cases o <;> rfl
@[simp] theorem isDat_og {o : Option D} {r : En} : isDat (og o :: r) 0 = true := by cases o <;> rfl
theorem mulOk_s {i j : Int} (h1 : -1000000 < j) (h2 : j < 1000000) : mulOk i j = true := by
  unfold mulOk
  rw [ab_of (i := j) (by omega) (by omega), Bool.or_true]
theorem mulOk_l {i j : Int} (h1 : -1000000 < i) (h2 : i < 1000000) : mulOk i j = true := by
  unfold mulOk
  rw [ab_of (i := i) (by omega) (by omega), Bool.true_or]
theorem mul_s {i j : Int} (h1 : -1000000 < j) (h2 : j < 1000000) : binD .mul (.int i) (.int j) = .ok (.int (i * j)) := by
  rw [mul_i, mulOk_s h1 h2]
  rfl
theorem mul_sl {i j : Int} (h1 : -1000000 < i) (h2 : i < 1000000) : binD .mul (.int i) (.int j) = .ok (.int (i * j)) := by
  rw [mul_i, mulOk_l h1 h2]
  rfl
theorem cut_take {A : Type} (xs : List A) (n : Nat) : cut xs none (some (n : Int)) = xs.take n := by
  unfold cut
  rw [HT.sIx_none, HT.sIx_nat]
  simp [List.take_eq_take_iff]
theorem cut_drop {A : Type} (xs : List A) (n : Nat) : cut xs (some (n : Int)) none = xs.drop n := by
  unfold cut
  rw [HT.sIx_none, HT.sIx_nat]
  by_cases h : n ≤ xs.length
  · rw [Nat.min_eq_left h]
    exact List.take_of_length_le (by simp)
  · rw [Nat.min_eq_right (by omega), List.drop_of_length_le (by omega : xs.length ≤ n)]
    simp
end Sb

set_option Elab.async false
set_option linter.all false
set_option maxRecDepth 100000
set_option maxHeartbeats 1000000
/-! SbO: one tactic that runs the evaluator; searches; equal data. -/
namespace Sb
open PySem
@[simp] theorem okPair_xy {x y : Rv} : okPair x y = true := rfl
@[simp] theorem iota_eq (n : Nat) : iota 0 n = (List.range n).map fun (i : Nat) => PyData.int (i : Int) := by
  unfold iota
  simp
@[simp] theorem toNat_succ (n : Nat) : ((n : Int) + 1).toNat = n + 1 := by omega
theorem rngOk_n {n : Nat} (h : n ≤ 1000000) : rngOk (n : Int) = true := ab_of (by omega) (by omega)
theorem rngOk_s {n : Nat} (h : n < 1000000) : rngOk ((n : Int) + 1) = true := ab_of (by omega) (by omega)
theorem rngOk_i {i : Int} (h1 : -1000000 ≤ i) (h2 : i ≤ 1000000) : rngOk i = true := ab_of (by omega) (by omega)
def mp {A : Type} (e : A -> D) (o : Option A) : Option D := o.map e
theorem fin_find {A B : Type} {f : A -> D} {e : B -> D} {tg : Tg} {body : List S} {r : En} {k : En -> Out Res} {d : D} (ret : A -> Option B) {l : List A} (h : ∀ a ∈ l, Ans ((bindT tg (f a) r).bnd fun r2 => runs body r2) (mp e (ret a)) r) (h2 : (k r).bnd outR = .ok d) : ((loopA tg body (l.map f) r).bnd fun a => thn a k).bnd outR = .ok ((mp e (l.findSome? ret)).getD d) := by
  have h1 := loop_ans (fun a => mp e (ret a)) h
  have e1 : (l.findSome? fun a => mp e (ret a)) = mp e (l.findSome? ret) := by
    unfold mp
    rw [List.map_findSome?]; rfl
  rw [e1] at h1
  exact h1.fin h2
theorem seq_find {A B : Type} {f : A -> D} {e : B -> D} {tg : Tg} {body : List S} {r r2 : En} {k : En -> Out Res} (ret : A -> Option B) {l : List A} (h : ∀ a ∈ l, Ans ((bindT tg (f a) r).bnd fun r2 => runs body r2) (mp e (ret a)) r) (h2 : k r = .ok (.nx r2)) : Ans ((loopA tg body (l.map f) r).bnd fun a => thn a k) (mp e (l.findSome? ret)) r2 := by
  have h1 := loop_ans (fun a => mp e (ret a)) h
  have e1 : (l.findSome? fun a => mp e (ret a)) = mp e (l.findSome? ret) := by
    unfold mp
    rw [List.map_findSome?]; rfl
  rw [e1] at h1
  have h3 := h1.seq (o2 := none) (r2 := r2) fun _ => h2
  rw [Option.or_none] at h3
  exact h3
/-! ### clean data -/
mutual
def cleanD : D -> Bool
  | .none => true
  | .bool _ => false
  | .int _ => true
  | .str s => (PyData.str s).canLay0
  | .list l => cleanL l
  | .tuple l => cleanL l
  | .dict _ => false
def cleanL : List D -> Bool
  | [] => true
  | x :: r => cleanD x && cleanL r
end
mutual
theorem eqv_cl : ∀ {a b : D}, cleanD a = true -> cleanD b = true -> (PyData.eqv a b = true ↔ a = b)
  | .none, b, _, _ => by cases b <;> simp [PyData.eqv]
  | .bool _, _, h, _ => by cases h
  | .int i, b, _, hb => by cases b <;> first | (simp [PyData.eqv]; done) | cases hb
  | .str i, b, _, hb => by cases b <;> simp [PyData.eqv]
  | .list xs, b, ha, hb => by
    cases b with
    | list ys => simp only [PyData.eqv, PyData.list.injEq]; exact eqv_cls ha hb
    | _ => simp [PyData.eqv]
  | .tuple xs, b, ha, hb => by
    cases b with
    | tuple ys => simp only [PyData.eqv, PyData.tuple.injEq]; exact eqv_cls ha hb
    | _ => simp [PyData.eqv]
  | .dict _, _, h, _ => by cases h
theorem eqv_cls : ∀ {a b : List D}, cleanL a = true -> cleanL b = true -> (PyData.eqvAll a b = true ↔ a = b)
  | [], [], _, _ => by simp [PyData.eqvAll]
  | [], _ :: _, _, _ => by simp [PyData.eqvAll]
  | _ :: _, [], _, _ => by simp [PyData.eqvAll]
  | x :: xs, y :: ys, ha, hb => by
    simp only [cleanL, Bool.and_eq_true] at ha hb
    simp only [PyData.eqvAll, Bool.and_eq_true, List.cons.injEq]
    rw [eqv_cl ha.1 hb.1, eqv_cls ha.2 hb.2]
end
mutual
theorem cl_lay : ∀ {a : D}, cleanD a = true -> a.canLay0 = true
  | .none, _ => rfl
  | .bool _, h => by cases h
  | .int i, _ => rfl
  | .str i, h => h
  | .list xs, h => by simp only [PyData.canLay0]; exact cls_lay h
  | .tuple xs, h => by simp only [PyData.canLay0]; exact cls_lay h
  | .dict _, h => by cases h
theorem cls_lay : ∀ {a : List D}, cleanL a = true -> PyData.canLayAll0 a = true
  | [], _ => rfl
  | x :: xs, h => by
    simp only [cleanL, Bool.and_eq_true] at h
    simp only [PyData.canLayAll0, Bool.and_eq_true]
    exact ⟨cl_lay h.1, cls_lay h.2⟩
end
/-- clean data of some depth -/
def Cd (n : Nat) (d : D) : Prop := cleanD d = true ∧ d.depth ≤ n
theorem Cd.mono {n m : Nat} {d : D} (h : Cd n d) (hn : n ≤ m) : Cd m d := ⟨h.1, Nat.le_trans h.2 hn⟩
theorem Cd.shaped {n : Nat} {d : D} (h : Cd n d) (hn : n ≤ 64) : SeqAt.shaped d = true := by
  unfold SeqAt.shaped
  rw [cl_lay h.1, decide_eq_true (Nat.le_trans h.2 hn)]
  rfl
theorem csI (i : Int) : Cd 1 (.int i) := ⟨rfl, by simp [PyData.depth]⟩
theorem csN : Cd 1 .none := ⟨rfl, by simp [PyData.depth]⟩
theorem csS {s : Str} (h : (PyData.str s).canLay0 = true) : Cd 1 (.str s) := ⟨h, by simp [PyData.depth]⟩
theorem cl_all : ∀ {xs : List D}, (∀ x ∈ xs, cleanD x = true) -> cleanL xs = true
  | [], _ => rfl
  | x :: r, h => by
    simp only [cleanL, Bool.and_eq_true]
    exact ⟨h x List.mem_cons_self, cl_all fun y hy => h y (List.mem_cons_of_mem _ hy)⟩
theorem dp_all {n : Nat} : ∀ {xs : List D}, (∀ x ∈ xs, x.depth ≤ n) -> PyData.depthAll xs ≤ n
  | [], _ => by simp [PyData.depthAll]
  | x :: r, h => by
    simp only [PyData.depthAll]
    exact Nat.max_le.mpr ⟨h x List.mem_cons_self, dp_all fun y hy => h y (List.mem_cons_of_mem _ hy)⟩
theorem csL {n : Nat} {xs : List D} (h : ∀ x ∈ xs, Cd n x) : Cd (n + 1) (.list xs) := by
  refine ⟨cl_all fun x hx => (h x hx).1, ?_⟩
  have := dp_all fun x hx => (h x hx).2
  simp only [PyData.depth]; omega
theorem csT {n : Nat} {xs : List D} (h : ∀ x ∈ xs, Cd n x) : Cd (n + 1) (.tuple xs) := by
  refine ⟨cl_all fun x hx => (h x hx).1, ?_⟩
  have := dp_all fun x hx => (h x hx).2
  simp only [PyData.depth]; omega
theorem csT1 {n : Nat} {a : D} (ha : Cd n a) : Cd (n + 1) (.tuple [a]) := csT fun x hx => by
  simp only [List.mem_cons, List.not_mem_nil, or_false] at hx; subst hx; exact ha
theorem csT2 {n : Nat} {a b : D} (ha : Cd n a) (hb : Cd n b) : Cd (n + 1) (.tuple [a, b]) := csT fun x hx => by
  simp only [List.mem_cons, List.not_mem_nil, or_false] at hx; rcases hx with rfl | rfl <;> assumption
theorem csT3 {n : Nat} {a b c : D} (ha : Cd n a) (hb : Cd n b) (hc : Cd n c) : Cd (n + 1) (.tuple [a, b, c]) := csT fun x hx => by
  simp only [List.mem_cons, List.not_mem_nil, or_false] at hx; rcases hx with rfl | rfl | rfl <;> assumption
theorem csT4 {n : Nat} {a b c d : D} (ha : Cd n a) (hb : Cd n b) (hc : Cd n c) (hd : Cd n d) : Cd (n + 1) (.tuple [a, b, c, d]) := csT fun x hx => by
  simp only [List.mem_cons, List.not_mem_nil, or_false] at hx; rcases hx with rfl | rfl | rfl | rfl <;> assumption
theorem eqD_same {n : Nat} {a : D} (h : Cd n a) (hn : n ≤ 64) : eqD a a = .ok true := by
  rw [eq_sh (h.shaped hn) (h.shaped hn), (eqv_cl h.1 h.1).mpr rfl]
theorem eqD_diff {n m : Nat} {a b : D} (ha : Cd n a) (hb : Cd m b) (hn : n ≤ 64) (hm : m ≤ 64) (h : a ≠ b) : eqD a b = .ok false := by
  rw [eq_sh (ha.shaped hn) (hb.shaped hm)]
  cases e : PyData.eqv a b with
  | false => rfl
  | true => exact absurd ((eqv_cl ha.1 hb.1).mp e) h
theorem eqD_dec {A : Type} [DecidableEq A] {n : Nat} (e : A -> D) (inj : ∀ a b, e a = e b -> a = b) (cs : ∀ a, Cd n (e a)) (hn : n ≤ 64) (a b : A) : eqD (e a) (e b) = .ok (decide (a = b)) := by
  by_cases h : a = b
  · subst h
    rw [eqD_same (cs a) hn, decide_eq_true rfl]
  · rw [eqD_diff (cs a) (cs b) hn hn fun q => h (inj a b q), decide_eq_false h]
/-- data or None -/
def oD {A : Type} (e : A -> D) : Option A -> D
  | none => .none
  | some a => e a
@[simp] theorem oD_none {A : Type} (e : A -> D) : oD e none = .none := rfl
@[simp] theorem oD_some {A : Type} (e : A -> D) (a : A) : oD e (some a) = e a := rfl
theorem shaped_bool (b : Bool) : SeqAt.shaped (.bool b) = true := by
  cases b <;> rfl
@[simp] theorem eq_bb (a b : Bool) : eqD (.bool a) (.bool b) = .ok (a == b) := by
  rw [eq_sh (shaped_bool a) (shaped_bool b)]
  simp [PyData.eqv]
theorem oD_eq {A : Type} (e : A -> D) (o : Option A) : (mp e o).getD .none = oD e o := by cases o <;> rfl
theorem csO {A : Type} {n : Nat} {e : A -> D} (h : ∀ a, Cd (n + 1) (e a)) (o : Option A) : Cd (n + 1) (oD e o) := by
  cases o with
  | none => exact csN.mono (by omega)
  | some a => exact h a
theorem isNone_oD {A : Type} {e : A -> D} (h : ∀ a, isNone (e a) = false) (o : Option A) : isNone (oD e o) = o.isNone := by
  cases o with
  | none => rfl
  | some a => exact h a
theorem runs_app (a b : List S) : ∀ r : En, runs (a ++ b) r = (runs a r).bnd fun x => thn x (runs b) := by
  induction a with
  | nil => intro r; rfl
  | cons s a ih =>
    intro r
    rw [List.cons_append, runs_cons, runs_cons]
    cases run s r with
    | ok x =>
      cases x with
      | nx r2 => exact ih r2
      | rt d r2 => rfl
    | exn c => rfl
    | bad => rfl
/-- a piece of a body, then the rest -/
theorem runs_cut {b : List S} {r r2 : En} (n : Nat) (h : runs (b.take n) r = .ok (.nx r2)) : runs b r = runs (b.drop n) r2 := by
  have e : runs b r = runs (b.take n ++ b.drop n) r := by rw [List.take_append_drop]
  rw [e, runs_app, h]
  rfl
end Sb

set_option Elab.async false
set_option linter.all false
set_option maxRecDepth 100000
set_option maxHeartbeats 4000000
/-! SbP: what never raises. -/
namespace Sb
open PySem PySem.Spec PyProof.Rows L2
def Nx {A : Type} (x : Out A) : Prop := ∀ c, x ≠ .exn c
theorem nx_ok {A : Type} (a : A) : Nx (Out.ok a) := fun c h => by cases h
theorem nx_bad {A : Type} : Nx (Out.bad : Out A) := fun c h => by cases h
theorem nx_bnd {A B : Type} {x : Out A} {f : A -> Out B} (h : Nx x) (h2 : ∀ a, Nx (f a)) : Nx (x.bnd f) := by
  cases x with
  | ok a => exact h2 a
  | exn c => exact absurd rfl (h c)
  | bad => exact nx_bad
theorem nx_chk {A : Type} {b : Bool} {x : Out A} (h : Nx x) : Nx (chk b x) := by
  cases b with
  | true => exact h
  | false => exact nx_bad
theorem nx_ofO {A : Type} (o : Option A) : Nx (ofO o) := by
  cases o with
  | none => exact nx_bad
  | some a => exact nx_ok a
/-- where an exception comes from -/
theorem exn_inv {A B : Type} {x : Out A} {f : A -> Out B} {c : Str} (h : x.bnd f = .exn c) : x = .exn c ∨ ∃ a, x = .ok a ∧ f a = .exn c := by
  cases x with
  | ok a => exact .inr ⟨a, rfl, h⟩
  | exn d => exact .inl (by cases h; rfl)
  | bad => cases h
theorem nx_eqD (a b : D) : Nx (eqD a b) := by
  unfold eqD
  split
  · exact nx_ok _
  · exact nx_ok _
  · exact nx_chk (nx_ok _)
theorem nx_binD (op : Bop) (a b : D) : Nx (binD op a b) := by
  unfold binD
  split <;> first | exact nx_ok _ | exact nx_bad | exact nx_chk (nx_ok _)
theorem nx_cmpD (op : Cop) (a b : D) : Nx (cmpD op a b) := by
  unfold cmpD
  split <;> first | exact nx_ok _ | exact nx_bad | exact nx_chk (nx_ok _) | exact nx_bnd (nx_eqD _ _) fun _ => nx_ok _
theorem nx_itemsD (a : D) : Nx (itemsD a) := by
  cases a <;> first | exact nx_ok _ | exact nx_bad
theorem nx_ixD (a i : D) : Nx (ixD a i) := by
  unfold ixD
  split <;> first | exact nx_ofO _ | exact nx_bad
theorem nx_slD (a : D) (lo hi : Option Int) : Nx (slD a lo hi) := by
  unfold slD
  split <;> first | exact nx_ok _ | exact nx_bad | exact nx_chk (nx_ok _)
theorem nx_primD (p : Prim) (l : List D) : Nx (primD p l) := by
  unfold primD
  split <;> first | exact nx_ok _ | exact nx_bad | exact nx_chk (nx_ok _) | exact nx_bnd (nx_ofO _) fun _ => nx_ok _ | exact nx_bnd (nx_ofO _) fun _ => nx_chk (nx_ok _) | exact nx_bnd (nx_ofO _) fun _ => nx_bnd (nx_ofO _) fun _ => nx_ok _
theorem nx_opD (o : Op) (l : List D) : Nx (opD o l) := by
  unfold opD
  split <;> first | exact nx_primD _ _ | exact nx_ok _ | exact nx_bad | exact nx_chk (nx_ok _) | exact nx_bnd (nx_ofO _) fun _ => nx_chk (nx_ok _)
theorem nx_methD (m : Meth) (a b : D) : Nx (methD m a b) := by
  unfold methD
  split
  · exact nx_chk (nx_bnd (nx_ofO _) fun _ => nx_ok _)
  · split
    · exact nx_bnd (nx_ofO _) fun _ => nx_chk (nx_ok _)
    · exact nx_bad
  · exact nx_chk (nx_ok _)
  · exact nx_bad
theorem nx_getD (r : En) (i : Nat) : Nx (getD r i) := by
  unfold getD
  split <;> first | exact nx_ok _ | exact nx_bad
theorem nx_cellOf (r : En) (i : Nat) : Nx (cellOf r i) := by
  unfold cellOf
  split <;> first | exact nx_ok _ | exact nx_bad
theorem nx_dictOf (r : En) (i : Nat) : Nx (dictOf r i) := by
  unfold dictOf
  split <;> first | exact nx_ok _ | exact nx_bad
theorem nx_nictOf (r : En) (i : Nat) : Nx (nictOf r i) := by
  unfold nictOf
  split <;> first | exact nx_ok _ | exact nx_bad
theorem nx_setD (r : En) (i : Nat) (x : Rv) : Nx (setD r i x) := nx_chk (nx_ok _)
mutual
theorem nx_bindT : ∀ (t : Tg) (x : D) (r : En), Nx (bindT t x r)
  | .v i, x, r => nx_setD _ _ _
  | .t l, x, r => by
    unfold bindT
    split
    · exact nx_bindTs l _ r
    · exact nx_bad
theorem nx_bindTs : ∀ (l : List Tg) (xs : List D) (r : En), Nx (bindTs l xs r)
  | [], xs, r => by
    unfold bindTs
    split
    · exact nx_ok _
    · exact nx_bad
  | t :: l, xs, r => by
    unfold bindTs
    split
    · exact nx_bnd (nx_bindT t _ r) fun r2 => nx_bindTs l _ r2
    · exact nx_bad
end
theorem nx_lcA {turn : D -> En -> Out (List D × En)} (h : ∀ x r, Nx (turn x r)) : ∀ (l : List D) (r : En), Nx (lcA turn l r)
  | [], r => nx_ok _
  | x :: xs, r => by
    unfold lcA
    exact nx_bnd (h x r) fun p => nx_bnd (nx_lcA h xs p.2) fun q => nx_ok _
/-- what a called def never does -/
def QCl : Cl -> Prop
  | .p _ _ sem => ∀ ds, Nx (sem ds)
  | .s _ _ sem => ∀ ds t, Nx (sem ds t)
  | .m _ _ sem => ∀ ds, Nx (sem ds)
def Qs (l : List Cl) : Prop := ∀ c ∈ l, QCl c
theorem Qs.l {a b : List Cl} (h : Qs (a ++ b)) : Qs a := fun c hc => h c (List.mem_append_left _ hc)
theorem Qs.r {a b : List Cl} (h : Qs (a ++ b)) : Qs b := fun c hc => h c (List.mem_append_right _ hc)
theorem Qs.hd {c : Cl} {b : List Cl} (h : Qs (c :: b)) : QCl c := h c List.mem_cons_self
theorem Qs.tl {c : Cl} {b : List Cl} (h : Qs (c :: b)) : Qs b := fun x hx => h x (List.mem_cons_of_mem _ hx)
theorem atI_mem {A : Type} {l : List A} {i : Int} {x : A} (h : L2.atI l i = some x) : x ∈ l := by
  unfold L2.atI at h
  cases q : L2.ixN l.length i with
  | none => rw [q] at h; cases h
  | some j =>
    rw [q] at h
    exact List.mem_of_getElem? h
mutual
theorem nx_den : ∀ (e : E) (r : En), Qs (clE e) -> Nx (den e r)
  | .k d, r, c => by unfold den; exact nx_ok _
  | .v i, r, c => by unfold den; exact nx_bnd (nx_getD _ _) fun _ => nx_ok _
  | .bin op a b, r, c => by
    unfold clE at c
    unfold den
    exact nx_bnd (nx_den a r c.l) fun p => nx_bnd (nx_den b _ c.r) fun q => nx_bnd (nx_binD _ _ _) fun _ => nx_ok _
  | .neg a, r, c => by
    unfold clE at c
    unfold den
    refine nx_bnd (nx_den a r c) fun p => ?_
    split <;> first | exact nx_ok _ | exact nx_bad
  | .cmp op a b, r, c => by
    unfold clE at c
    unfold den
    exact nx_bnd (nx_den a r c.l) fun p => nx_bnd (nx_den b _ c.r) fun q => nx_bnd (nx_cmpD _ _ _) fun _ => nx_ok _
  | .chain op op2 a b d, r, c => by
    unfold clE at c
    unfold den
    refine nx_bnd (nx_den a r c.l.l) fun p => nx_bnd (nx_den b _ c.l.r) fun q => nx_bnd (nx_cmpD _ _ _) fun x => ?_
    split
    · exact nx_bnd (nx_den d _ c.r) fun s => nx_bnd (nx_cmpD _ _ _) fun _ => nx_ok _
    · exact nx_ok _
    · exact nx_bad
  | .band a b, r, c => by
    unfold clE at c
    unfold den
    refine nx_bnd (nx_den a r c.l) fun p => ?_
    split
    · exact nx_den b _ c.r
    · exact nx_ok _
    · exact nx_bad
  | .bor a b, r, c => by
    unfold clE at c
    unfold den
    refine nx_bnd (nx_den a r c.l) fun p => ?_
    split
    · exact nx_ok _
    · exact nx_den b _ c.r
    · exact nx_bad
  | .bnot a, r, c => by
    unfold clE at c
    unfold den
    refine nx_bnd (nx_den a r c) fun p => ?_
    split <;> first | exact nx_ok _ | exact nx_bad
  | .ite d a b, r, c => by
    unfold clE at c
    unfold den
    refine nx_bnd (nx_den d r c.l.l) fun p => ?_
    split
    · exact nx_den a _ c.l.r
    · exact nx_den b _ c.r
    · exact nx_bad
  | .tup l, r, c => by
    unfold clE at c
    unfold den
    exact nx_bnd (nx_denL l r c) fun p => nx_chk (nx_ok _)
  | .lst l, r, c => by
    unfold clE at c
    unfold den
    exact nx_bnd (nx_denL l r c) fun p => nx_chk (nx_ok _)
  | .ix a i, r, c => by
    unfold clE at c
    unfold den
    exact nx_bnd (nx_den a r c.l) fun p => nx_bnd (nx_den i _ c.r) fun q => nx_bnd (nx_ixD _ _) fun _ => nx_ok _
  | .cix s i, r, c => by
    unfold clE at c
    unfold den
    exact nx_bnd (nx_cellOf _ _) fun _ => nx_bnd (nx_den i r c) fun q => nx_bnd (nx_cellOf _ _) fun _ => nx_bnd (nx_ixD _ _) fun _ => nx_ok _
  | .dix s i, r, c => by
    unfold clE at c
    unfold den
    exact nx_bnd (nx_dictOf _ _) fun _ => nx_bnd (nx_den i r c) fun q => nx_bnd (nx_dictOf _ _) fun _ => nx_bnd (nx_ofO _) fun _ => nx_bnd (nx_ofO _) fun _ => nx_ok _
  | .nix s i, r, c => by
    unfold clE at c
    unfold den
    exact nx_bnd (nx_nictOf _ _) fun _ => nx_bnd (nx_den i r c) fun q => nx_bnd (nx_nictOf _ _) fun _ => nx_bnd (nx_ofO _) fun _ => nx_bnd (nx_ofO _) fun _ => nx_ok _
  | .dgt s i x, r, c => by
    unfold clE at c
    unfold den
    exact nx_bnd (nx_dictOf _ _) fun _ => nx_bnd (nx_den i r c.l) fun q => nx_bnd (nx_den x _ c.r) fun t => nx_bnd (nx_dictOf _ _) fun _ => nx_bnd (nx_ofO _) fun _ => nx_ok _
  | .sl a lo hi, r, c => by
    unfold clE at c
    unfold den
    exact nx_bnd (nx_den a r c.l.l) fun p => nx_bnd (nx_denO lo _ c.l.r) fun q => nx_bnd (nx_denO hi _ c.r) fun s => nx_bnd (nx_slD _ _ _) fun _ => nx_ok _
  | .prim p l, r, c => by
    unfold clE at c
    unfold den
    exact nx_bnd (nx_denL l r c) fun p => nx_bnd (nx_primD _ _) fun _ => nx_ok _
  | .meth m a b, r, c => by
    unfold clE at c
    unfold den
    exact nx_bnd (nx_den a r c.l) fun p => nx_bnd (nx_den b _ c.r) fun q => nx_bnd (nx_methD _ _ _) fun _ => nx_ok _
  | .isi t a, r, c => by
    unfold clE at c
    unfold den
    exact nx_bnd (nx_den a r c) fun p => nx_ok _
  | .lens a, r, c => by
    unfold clE at c
    unfold den
    exact nx_bnd (nx_den a r c) fun p => nx_bnd (nx_primD _ _) fun _ => nx_ok _
  | .op o l, r, c => by
    unfold clE at c
    unfold den
    exact nx_bnd (nx_denL l r c) fun p => nx_bnd (nx_opD _ _) fun _ => nx_ok _
  | .rng a b, r, c => by
    unfold clE at c
    unfold den
    refine nx_bnd (nx_den a r c.l) fun p => nx_bnd (nx_den b _ c.r) fun q => ?_
    split
    · exact nx_chk (nx_ok _)
    · exact nx_bad
  | .call f sem l, r, c => by
    unfold clE at c
    unfold den
    exact nx_bnd (nx_denL l r c.tl) fun p => nx_bnd (c.hd _) fun _ => nx_ok _
  | .callT fs i l, r, c => by
    unfold clE at c
    unfold den
    refine nx_bnd (nx_den i r c.r.l) fun p => nx_bnd (nx_ofO _) fun k => ?_
    cases q : L2.atI fs k with
    | none => exact nx_bad
    | some f =>
      rw [ofO_some, bnd_ok]
      refine nx_bnd (nx_denL l _ c.r.r) fun q2 => nx_bnd ?_ fun _ => nx_ok _
      exact c.l (Cl.p f.1 l.length f.2) (List.mem_map.mpr ⟨f, atI_mem q, rfl⟩) _
  | .callS f sem a s l, r, c => by
    unfold clE at c
    unfold den
    exact nx_bnd (nx_den a r c.tl.l) fun p => nx_bnd (nx_cellOf _ _) fun _ => nx_bnd (nx_denL l _ c.tl.r) fun q => nx_bnd (nx_cellOf _ _) fun _ => nx_bnd (c.hd _ _) fun _ => nx_ok _
  | .lc own tg it cond e, r, c => by
    unfold clE at c
    unfold den
    refine nx_bnd (nx_items it r c.l.l) fun p => nx_chk (nx_bnd (nx_lcA (fun x r1 => ?_) _ _) fun q => nx_chk (nx_ok _))
    refine nx_bnd (nx_bindT _ _ _) fun r2 => nx_bnd (nx_denC cond r2 c.l.r) fun b => ?_
    split
    · exact nx_bnd (nx_den e _ c.r) fun y => nx_ok _
    · exact nx_ok _
  | .lc2 own vs1 tg it tg1 it1 e, r, c => by
    unfold clE at c
    unfold den
    refine nx_bnd (nx_items it r c.l.l) fun p => nx_chk (nx_bnd (nx_lcA (fun x r1 => ?_) _ _) fun q => nx_chk (nx_ok _))
    refine nx_bnd (nx_bindT _ _ _) fun r2 => nx_bnd (nx_items it1 r2 c.l.r) fun p1 => nx_chk (nx_bnd (nx_lcA (fun x1 r3 => ?_) _ _) fun q1 => nx_ok _)
    exact nx_bnd (nx_bindT _ _ _) fun r4 => nx_bnd (nx_den e _ c.r) fun y => nx_ok _
theorem nx_denL : ∀ (l : List E) (r : En), Qs (clL l) -> Nx (denL l r)
  | [], r, c => by unfold denL; exact nx_ok _
  | e :: l, r, c => by
    unfold clL at c
    unfold denL
    exact nx_bnd (nx_den e r c.l) fun p => nx_bnd (nx_denL l _ c.r) fun q => nx_ok _
theorem nx_denO : ∀ (o : Option E) (r : En), Qs (clO o) -> Nx (denO o r)
  | none, r, c => by unfold denO; exact nx_ok _
  | some e, r, c => by
    unfold clO at c
    unfold denO
    refine nx_bnd (nx_den e r c) fun p => ?_
    split <;> first | exact nx_ok _ | exact nx_bad
theorem nx_denC : ∀ (o : Option E) (r : En), Qs (clO o) -> Nx (denC o r)
  | none, r, c => by unfold denC; exact nx_ok _
  | some e, r, c => by
    unfold clO at c
    unfold denC
    refine nx_bnd (nx_den e r c) fun p => ?_
    split <;> first | exact nx_ok _ | exact nx_bad
theorem nx_items : ∀ (it : Src) (r : En), Qs (clI it) -> Nx (items it r)
  | .seq e, r, c => by
    unfold clI at c
    unfold items
    exact nx_bnd (nx_den e r c) fun p => nx_bnd (nx_itemsD _) fun _ => nx_ok _
  | .rng e, r, c => by
    unfold clI at c
    unfold items
    refine nx_bnd (nx_den e r c) fun p => ?_
    split
    · exact nx_chk (nx_ok _)
    · exact nx_bad
  | .rng2 a b, r, c => by
    unfold clI at c
    unfold items
    refine nx_bnd (nx_den a r c.l) fun p => nx_bnd (nx_den b _ c.r) fun q => ?_
    split
    · exact nx_chk (nx_ok _)
    · exact nx_bad
  | .enum e, r, c => by
    unfold clI at c
    unfold items
    exact nx_bnd (nx_den e r c) fun p => nx_bnd (nx_itemsD _) fun _ => nx_ok _
  | .zip a b, r, c => by
    unfold clI at c
    unfold items
    exact nx_bnd (nx_den a r c.l) fun p => nx_bnd (nx_den b _ c.r) fun q => nx_bnd (nx_itemsD _) fun _ => nx_bnd (nx_itemsD _) fun _ => nx_ok _
end
theorem nx_itemsL (a : D) : Nx (itemsL a) := by
  cases a <;> first | exact nx_ok _ | exact nx_bad
theorem nx_denG (g : Gv) (r : En) (c : Qs (clG g)) : Nx (denG g r) := by
  cases g with
  | e e => exact nx_bnd (nx_den e r c) fun _ => nx_ok _
  | nil => exact nx_ok _
  | dnil => exact nx_ok _
  | nnil => exact nx_ok _
  | dlit kvs => exact nx_chk (nx_ok _)
  | rep a n =>
    dsimp only [clG] at c
    unfold denG
    refine nx_bnd (nx_den a r c.l) fun p => nx_bnd (nx_den n _ c.r) fun q => ?_
    split
    · exact nx_chk (nx_ok _)
    · exact nx_bad
  | lst l =>
    dsimp only [clG] at c
    unfold denG
    exact nx_bnd (nx_denL l r c) fun p => nx_chk (nx_ok _)
  | cat a b =>
    dsimp only [clG] at c
    unfold denG
    exact nx_bnd (nx_den a r c.l) fun p => nx_bnd (nx_den b _ c.r) fun q => nx_bnd (nx_itemsL _) fun _ => nx_bnd (nx_itemsL _) fun _ => nx_chk (nx_ok _)
  | lcn own tg it cond e =>
    dsimp only [clG] at c
    unfold denG
    exact nx_bnd (nx_den (.lc own tg it cond e) r (by unfold clE; exact c)) fun p => nx_bnd (nx_itemsL _) fun _ => nx_ok _
  | mk f sem l =>
    dsimp only [clG] at c
    unfold denG
    exact nx_bnd (nx_denL l r c.tl) fun p => nx_bnd (c.hd _) fun _ => nx_ok _
theorem nx_setCell (r : En) (s : Nat) (i x : D) : Nx (setCell r s i x) := by
  unfold setCell
  refine nx_bnd (nx_cellOf _ _) fun l => ?_
  split
  · exact nx_bnd (nx_ofO _) fun _ => nx_ok _
  · exact nx_bad
theorem nx_forA {body : D -> En -> Out Res} (h : ∀ x r, Nx (body x r)) : ∀ (l : List D) (r : En), Nx (forA body l r)
  | [], r => nx_ok _
  | x :: xs, r => by
    unfold forA
    refine nx_bnd (h x r) fun a => ?_
    cases a with
    | nx r2 => exact nx_forA h xs r2
    | rt d r2 => exact nx_ok _
theorem nx_whA {c : En -> Out (Bool × En)} {body : En -> Out Res} (hc : ∀ r, Nx (c r)) (h : ∀ r, Nx (body r)) : ∀ (n : Nat) (r : En), Nx (whA c body n r)
  | 0, r => nx_bad
  | n + 1, r => by
    unfold whA
    refine nx_bnd (hc r) fun p => ?_
    split
    · refine nx_bnd (h _) fun a => ?_
      cases a with
      | nx r2 => exact nx_whA hc h n r2
      | rt d r2 => exact nx_ok _
    · exact nx_ok _
mutual
/-- no raise in it -/
def noR : S -> Bool
  | .ife _ a b => noRs a && noRs b
  | .loop _ _ a => noRs a
  | .wh _ _ a => noRs a
  | .raise _ => false
  | .retT _ _ _ _ => false
  | _ => true
def noRs : List S -> Bool
  | [] => true
  | s :: l => noR s && noRs l
end
mutual
theorem nx_run : ∀ (s : S) (r : En), noR s = true -> Qs (clS s) -> Nx (run s r)
  | .set i g, r, n, c => by
    unfold clS at c
    unfold run
    exact nx_bnd (nx_denG g r c) fun p => nx_bnd (nx_setD _ _ _) fun _ => nx_ok _
  | .setT tg e, r, n, c => by
    unfold clS at c
    unfold run
    exact nx_bnd (nx_den e r c) fun p => nx_bnd (nx_bindT _ _ _) fun _ => nx_ok _
  | .set2 i j g h, r, n, c => by
    unfold clS at c
    unfold run
    exact nx_bnd (nx_denG g r c.l) fun p => nx_bnd (nx_denG h _ c.r) fun q => nx_chk (nx_bnd (nx_setD _ _ _) fun _ => nx_bnd (nx_setD _ _ _) fun _ => nx_ok _)
  | .set3 i j l e f g, r, n, c => by
    unfold clS at c
    unfold run
    exact nx_bnd (nx_den e r c.l.l) fun p => nx_bnd (nx_den f _ c.l.r) fun q => nx_bnd (nx_den g _ c.r) fun t => nx_chk (nx_bnd (nx_setD _ _ _) fun _ => nx_bnd (nx_setD _ _ _) fun _ => nx_bnd (nx_setD _ _ _) fun _ => nx_ok _)
  | .setix s i e, r, n, c => by
    unfold clS at c
    unfold run
    exact nx_bnd (nx_den e r c.r) fun p => nx_bnd (nx_cellOf _ _) fun _ => nx_bnd (nx_den i _ c.l) fun q => nx_bnd (nx_setCell _ _ _ _) fun _ => nx_ok _
  | .setix2 s t i j e f, r, n, c => by
    unfold clS at c
    unfold run
    exact nx_bnd (nx_den e r c.l.r) fun p => nx_bnd (nx_den f _ c.r) fun q => nx_bnd (nx_cellOf _ _) fun _ => nx_bnd (nx_den i _ c.l.l.l) fun a => nx_bnd (nx_setCell _ _ _ _) fun r2 => nx_bnd (nx_cellOf _ _) fun _ => nx_bnd (nx_den j _ c.l.l.r) fun b => nx_bnd (nx_setCell _ _ _ _) fun _ => nx_ok _
  | .setdx s i e, r, n, c => by
    unfold clS at c
    unfold run
    exact nx_bnd (nx_den e r c.r) fun p => nx_bnd (nx_dictOf _ _) fun _ => nx_bnd (nx_den i _ c.l) fun q => nx_bnd (nx_dictOf _ _) fun _ => nx_bnd (nx_ofO _) fun _ => nx_chk (nx_ok _)
  | .setnx s i e, r, n, c => by
    unfold clS at c
    unfold run
    exact nx_bnd (nx_den e r c.r) fun p => nx_bnd (nx_nictOf _ _) fun _ => nx_bnd (nx_den i _ c.l) fun q => nx_bnd (nx_nictOf _ _) fun _ => nx_bnd (nx_ofO _) fun _ => nx_chk (nx_ok _)
  | .app s e, r, n, c => by
    unfold clS at c
    unfold run
    exact nx_bnd (nx_cellOf _ _) fun _ => nx_bnd (nx_den e r c) fun p => nx_bnd (nx_cellOf _ _) fun _ => nx_chk (nx_ok _)
  | .ex e, r, n, c => by
    unfold clS at c
    unfold run
    exact nx_bnd (nx_den e r c) fun p => nx_ok _
  | .ife e a b, r, n, c => by
    unfold clS at c
    unfold noR at n
    simp only [Bool.and_eq_true] at n
    unfold run
    refine nx_bnd (nx_denC (some e) r c.l.l) fun p => ?_
    split
    · exact nx_runs a _ n.1 c.l.r
    · exact nx_runs b _ n.2 c.r
  | .loop tg it body, r, n, c => by
    unfold clS at c
    unfold noR at n
    unfold run
    exact nx_bnd (nx_items it r c.l) fun p => nx_forA (fun x r1 => nx_bnd (nx_bindT _ _ _) fun r2 => nx_runs body r2 n c.r) _ _
  | .wh k e body, r, n, c => by
    unfold clS at c
    unfold noR at n
    unfold run
    exact nx_whA (fun r1 => nx_denC (some e) r1 c.l) (fun r1 => nx_runs body r1 n c.r) _ _
  | .ret e, r, n, c => by
    unfold clS at c
    unfold run
    exact nx_bnd (nx_den e r c) fun p => nx_ok _
  | .fz i, r, n, c => by
    unfold run
    split <;> first | exact nx_ok _ | exact nx_bad
  | .drop i, r, n, c => by
    unfold run
    split <;> first | exact nx_ok _ | exact nx_bad
  | .raise x, r, n, c => by
    unfold noR at n
    cases n
  | .retT _ _ _ _, r, n, c => by
    unfold noR at n
    cases n
theorem nx_runs : ∀ (l : List S) (r : En), noRs l = true -> Qs (clSs l) -> Nx (runs l r)
  | [], r, n, c => by unfold runs; exact nx_ok _
  | s :: l, r, n, c => by
    unfold clSs at c
    unfold noRs at n
    simp only [Bool.and_eq_true] at n
    unfold runs
    refine nx_bnd (nx_run s r n.1 c.l) fun a => ?_
    cases a with
    | nx r2 => exact nx_runs l r2 n.2 c.r
    | rt d r2 => exact nx_ok _
end
/-- a def without a raise, whose callees raise nothing -/
theorem nx_mkP {n m : Nat} {body : List S} (h : noRs body = true) (c : Qs (clSs body)) (ds : List D) : Nx (mkP n m body ds) := by
  unfold mkP
  refine nx_chk (nx_bnd (nx_runs body _ h c) fun a => ?_)
  cases a with
  | nx r => exact nx_ok _
  | rt d r => exact nx_ok _
theorem qs_nil : Qs [] := fun c hc => by simp at hc
theorem qs_p {f : Str} {k : Nat} {sem : PF} {l : List Cl} (h : ∀ ds, Nx (sem ds)) (t : Qs l) : Qs (Cl.p f k sem :: l) := fun x hx => by
  rcases List.mem_cons.mp hx with e | e
  · rw [e]; exact h
  · exact t x e
end Sb

set_option Elab.async false
set_option linter.all false
set_option maxRecDepth 100000
set_option maxHeartbeats 4000000
/-! SbQ: runs that end in an exception. -/
namespace Sb
open PySem PySem.Spec PyProof.Rows L2
/-- an exception class of the program, without an own __init__ -/
structure Xcl (K : PySem.W.Frag) (mg : Str → Option Value) (c : Str) (C : Addr) : Prop where
  g : mg c = some (.ref C)
  x : PySem.W.excIn K C HandSPX.veTail "ValueError.__new__" = true
  k : PySem.W.keepIn K (.ref C) = true
  b : PySem.W.subIn K (.ref C) (.type "BaseException") = some true
  t : PySem.W.typeIn K (.ref C) = some (.type "type")
theorem PSx.nox {X : Cx} {st : Stmt} {t : TS} (h : PS X.nox st t) : PS X st t := ⟨fun pins s σ H D I hw => wpAny_mono (h.run pins s σ H D (I.wish _) hw) (fun _ _ q => SP.unwish q) (fun _ _ z => False.elim z)⟩
theorem PAx.nox {X : Cx} {es : List Expr} {t : TA} (h : PA X.nox es t) : PA X es t := ⟨fun pos pins s σ H Q I hw => wpAny_mono (h.run pos pins s σ H Q (I.wish _) hw) (fun _ _ ⟨v, H', I', r, q⟩ => ⟨v, H', Inv.unwish I', r, q⟩) (fun _ _ z => False.elim z)⟩
def tXs (mg : Str → Option Value) (W : WX) (l : List S) : TS := fun _ σ H => ∃ B0 I0 H0 r c C, Sx B0 I0 H0 r σ H ∧ runs l r = .exn c ∧ mg c = some (.ref C) ∧ ∀ σ' H1, Go I0 H0 H1 -> W (.ref C) none σ' H1
def tX (mg : Str → Option Value) (W : WX) (s : S) : TS := fun _ σ H => ∃ B0 I0 H0 r c C, Sx B0 I0 H0 r σ H ∧ run s r = .exn c ∧ mg c = some (.ref C) ∧ ∀ σ' H1, Go I0 H0 H1 -> W (.ref C) none σ' H1
def tXe (mg : Str → Option Value) (W : WX) (e : E) : TE := fun σ H _ => ∃ B0 r c C, Rel B0 r σ H ∧ den e r = .exn c ∧ mg c = some (.ref C) ∧ ∀ H1, Go (own r σ) H H1 -> W (.ref C) none σ H1
/-- a def's promise of its exceptions -/
def spX (mg : Str → Option Value) (n : Nat) (sem : PF) : Sp := fun vs H _ E => vs.length = n ∧ ∃ (B : Addr -> Prop) (ds : List D) (c : Str) (C : Addr), Trk B H ∧ DnL B H vs ds ∧ sem ds = .exn c ∧ mg c = some (.ref C) ∧ ∀ H1, Same H H1 -> E (.ref C) none H1
def FokX (P : Program) (w : World) (K : PySem.W.Frag) (mg : Str → Option Value) (base : Heap) (k : Nat) : Cl -> Prop
  | .p f n sem => ∃ (fa : Addr) (fd : FuncData) (ps : List Str), mg f = some (.ref fa) ∧ PySem.W.keepIn K (.ref fa) = true ∧ Binds K fd ps [] ∧ FnOk P w K mg base (L2.CX P w) k fa fd ps (spX mg n sem)
  | _ => False
theorem FokX.mono {P : Program} {w : World} {K : PySem.W.Frag} {mg : Str → Option Value} {base : Heap} {j k : Nat} {c : Cl} (h : FokX P w K mg base j c) (l : j ≤ k) : FokX P w K mg base k c := by
  cases c with
  | p f n sem =>
    obtain ⟨fa, fd, ps, h1, h2, h3, h4⟩ := h
    exact ⟨fa, fd, ps, h1, h2, h3, h4.mono l⟩
  | s f n sem => exact h
  | m f n sem => exact h
section
variable {X : Cx} {W : WX} {pos : Pos}
theorem x_quietE {e : E} {pe : Expr} (q : Qs (clE e)) : PE X pe (tXe X.mg W e) := ⟨fun pins s σ H Q I ⟨B0, r, c, C, rel, hd, _⟩ => absurd hd (nx_den e r q c)⟩
theorem x_quiet {l : List S} {es : List Stmt} (n : noRs l = true) (q : Qs (clSs l)) : PSs X es (tXs X.mg W l) := ⟨fun pins s σ H D I ⟨B0, I0, H0, r, c, C, sx, hd, _⟩ => absurd hd (nx_runs l r n q c)⟩
theorem x_quiet1 {s : S} {st : Stmt} (n : noR s = true) (q : Qs (clS s)) : PS X st (tX X.mg W s) := ⟨fun pins s0 σ H D I ⟨B0, I0, H0, r, c, C, sx, hd, _⟩ => absurd hd (nx_run s r n q c)⟩
theorem x_nil {es : List Stmt} : PSs X es (tXs X.mg W []) := x_quiet rfl (by unfold clSs; exact qs_nil)
theorem x_cons {s : S} {l : List S} {st : Stmt} {es : List Stmt} (hn : PS X st (tS s)) (hx : PS X st (tX X.mg W s)) (h2 : PSs X es (tXs X.mg W l)) : PSs X (st :: es) (tXs X.mg W (s :: l)) := by
  refine ⟨fun pins s0 σ H D I ⟨B0, I0, H0, r, c, C, sx, hd, hm, hw⟩ => ?_⟩
  have hd : (run s r).bnd _ = .exn c := hd
  rcases exn_inv hd with z | ⟨a, e1, z⟩
  · exact (pss_cons hx pss_never).run pins s0 σ H D I ⟨B0, I0, H0, r, c, C, sx, z, hm, hw⟩
  · cases a with
    | nx r2 => exact (pss_cons hn h2).run pins s0 σ H D I ⟨B0, I0, H0, r, _, sx, e1, fun σ1 H1 sx2 _ => ⟨B0, I0, H0, r2, c, C, sx2, z, hm, hw⟩⟩
    | rt d r2 => cases z
theorem x_ex {e : E} {pe : Expr} (he : PE X pe (tXe X.mg W e)) (hs : swapsWith pe none pos.line X.env = pure false) : PS X (.Expr pe pos) (tX X.mg W (.ex e)) := PS.of (ps_expr he hs) fun D σ H ⟨B0, I0, H0, r, c, C, sx, hd, hm, hw⟩ => by
  rcases exn_inv (show (den e r).bnd _ = .exn c from hd) with z | ⟨a, _, z⟩
  · exact ⟨B0, r, c, C, sx.rel, z, hm, fun H1 g => hw σ H1 (sx.gox g)⟩
  · cases z
theorem x_ret {e : E} {pe : Expr} (he : PE X pe (tXe X.mg W e)) : PS X (.Return (some pe) pos) (tX X.mg W (.ret e)) := PS.of (ps_ret he) fun D σ H ⟨B0, I0, H0, r, c, C, sx, hd, hm, hw⟩ => by
  rcases exn_inv (show (den e r).bnd _ = .exn c from hd) with z | ⟨a, _, z⟩
  · exact ⟨B0, r, c, C, sx.rel, z, hm, fun H1 g => hw σ H1 (sx.gox g)⟩
  · cases z
theorem x_if {e : E} {pe : Expr} {l l2 : List S} {es es2 : List Stmt} (q : Qs (clE e)) (hc : PT X pe (tT e)) (h1 : PSs X es (tXs X.mg W l)) (h2 : PSs X es2 (tXs X.mg W l2)) : PS X (.If pe es es2 pos) (tX X.mg W (.ife e l l2)) := PS.of (ps_if hc h1 h2) fun D σ H ⟨B0, I0, H0, r, c, C, sx, hd, hm, hw⟩ => by
  rcases exn_inv (show (denC (some e) r).bnd _ = .exn c from hd) with z | ⟨a, e1, z⟩
  · exact absurd z (nx_denC (some e) r (by unfold clO; exact q) c)
  · obtain ⟨b, r1⟩ := a
    refine ⟨B0, r, b, r1, sx.rel, denC_of e1, fun H1 ex => ?_⟩
    cases b with
    | true => exact iteT ⟨B0, I0, H0, r1, c, C, sx.ex ex, z, hm, hw⟩
    | false => exact iteF ⟨B0, I0, H0, r1, c, C, sx.ex ex, z, hm, hw⟩
theorem x_raise {cn x m : Str} {j : Nat} {p p2 pos2 : Pos} {C : Addr} (hc : X.calm = true) (tk : Takes X W) (xc : Xcl X.K X.mg cn C) (hg : Gl X cn) (hd : (cn == ("__debug__" : Str)) = false) :
    PS X (.Raise (some (.Call (.Name cn p) [.Constant (.str m) j p2] [] pos2)) none pos) (tX X.mg W (.raise cn)) := PS.of (ps_raise hc tk (pmk_own PySem.F.excBase_ValueError xc.x xc.g xc.k (raises_own xc.b xc.t) hg hd)) fun D σ H ⟨B0, I0, H0, r, c, C2, sx, hd, hm, hw⟩ => by
  cases hd
  have : C = C2 := by
    have := xc.g.symm.trans hm
    cases this
    rfl
  subst this
  exact hw σ H sx.go
theorem x_call {f : Str} {sem : PF} {l : List E} {p2 : Pos} {e : Expr} {es : List Expr} {k : Nat} (F : FokX X.prog X.w X.K X.mg X.base k (.p f l.length sem)) (hr : Room k X.A) (hg : Gl X f) (hd : (f == ("__debug__" : Str)) = false) (ha : PA X (e :: es) (tA l)) (hp : ∀ x ∈ e :: es, plainX x = true) (q : Qs (clL l)) (tk : Takes X W) :
    PE X (.Call (.Name f p2) (e :: es) [] pos) (tXe X.mg W (.call f sem l)) := by
  obtain ⟨fa, fd, ps, h1, h2, h3, h4⟩ := F
  refine PE.of (pe_callS h4 hr hg h1 h2 h3 (fun σ => passAt tk σ) ha hd (star_plain (hp e List.mem_cons_self) es X.env) (back_any pos X.env fun x hx => hp x (List.mem_cons_of_mem _ hx))) fun σ H Q ⟨B0, r, c, C, rel, hden, hm, hw⟩ => ?_
  rcases exn_inv (show (denL l r).bnd _ = .exn c from hden) with z | ⟨a, e1, z⟩
  · exact absurd z (nx_denL l r q c)
  · rcases exn_inv z with z | ⟨_, _, z⟩
    · refine ⟨B0, r, a.1, a.2, rel, e1, fun vs H1 ex dn => ?_⟩
      refine ⟨?_, _, a.1, c, C, ex.rel.trkB, dn, z, hm, fun H2 hs => hw H2 (ex.go.trans (Go.ofSame hs))⟩
      rw [dn.length]
      exact denL_len e1
    · cases z
theorem x_ite {d a b : E} {pc pa pb : Expr} (q : Qs (clE d)) (hc : PT X pc (tT d)) (ha : PE X pa (tXe X.mg W a)) (hb : PE X pb (tXe X.mg W b)) : PE X (.IfExp pc pa pb pos) (tXe X.mg W (.ite d a b)) := PE.of (pe_ifExp hc ha hb) fun σ H Q ⟨B0, r, c, C, rel, hden, hm, hw⟩ => by
  rcases exn_inv (show (den d r).bnd _ = .exn c from hden) with z | ⟨p, e1, z⟩
  · exact absurd z (nx_den d r q c)
  · obtain ⟨p1, p2⟩ := p
    simp only at z
    split at z
    · exact ⟨B0, r, true, p2, rel, e1, fun H1 ex => iteT ⟨B0, p2, c, C, ex.rel, z, hm, fun H2 g => hw H2 (ex.go.trans (by rw [← own_shp ex.shp]; exact g))⟩⟩
    · exact ⟨B0, r, false, p2, rel, e1, fun H1 ex => iteF ⟨B0, p2, c, C, ex.rel, z, hm, fun H2 g => hw H2 (ex.go.trans (by rw [← own_shp ex.shp]; exact g))⟩⟩
    · cases z
end
theorem fs_paX {X : Cx} {N : List Str} {sc : Scope} {sb : Str -> Bool} {k n : Nat} (g : Gd X N sc sb k) : ∀ {fs : List (Str × PF)} {es : List Expr}, fsM sc fs es = true -> (∀ f ∈ fs, FokX X.prog X.w X.K X.mg X.base k (.p f.1 n f.2)) ->
    ∃ fas : List Addr, fas.length = fs.length ∧ PA X es (tFs fas) ∧ ∀ (j : Nat) f, fs[j]? = some f -> ∃ fa fd ps, fas[j]? = some fa ∧ PySem.W.keepIn X.K (.ref fa) = true ∧ Binds X.K fd ps [] ∧ FnOk X.prog X.w X.K X.mg X.base (L2.CX X.prog X.w) k fa fd ps (spX X.mg n f.2)
  | [], es, h, _ => by
    unfold fsM at h
    split at h
    · exact ⟨[], rfl, pa_nil, fun j f e => by simp at e⟩
    · cases h
  | f :: fs, es, h, hF => by
    unfold fsM at h
    split at h
    · rename_i x px es
      simp only [Bool.and_eq_true, decide_eq_true_eq] at h
      obtain ⟨⟨⟨rfl, h1⟩, h2⟩, h3⟩ := h
      obtain ⟨fas, hl, hpa, hj⟩ := fs_paX g h3 fun z hz => hF z (List.mem_cons_of_mem _ hz)
      obtain ⟨fa, fd, ps, c1, c2, c3, c4⟩ := hF f List.mem_cons_self
      refine ⟨fa :: fas, by simp [hl], ?_, ?_⟩
      · exact pa_cons (te := L2.tC (.ref fa)) (t := tFs fas) (pe_glob (g.gl h1) c1 rfl (okN_d h2).1) hpa (star_plain (e := .Name f.1 px) rfl es X.env)
      · intro j z e
        cases j with
        | zero =>
          simp at e
          subst e
          exact ⟨fa, fd, ps, rfl, c2, c3, c4⟩
        | succ j => exact hj j z (by simpa using e)
    · cases h
/-- one of several defs is called, and raises; the def's place is hfun's -/
theorem x_callAt {X : Cx} {W : WX} {k : Nat} {pos : Pos} {es : List Expr} {fo fi e : Expr} {p9 : Pos} {l : List E} {B0 : Addr -> Prop} {r r1 : En} {c : Str} {C : Addr} {sem : PF} {fa : Addr} {fd : FuncData} {ps : List Str} {pins : List (Addr × Obj)} {s : Shared} {σ : L2.St} {H : Hp} {P : Value -> Shared -> Prop}
    (hr : Room k X.A) (c2 : PySem.W.keepIn X.K (.ref fa) = true) (c3 : Binds X.K fd ps []) (c4 : FnOk X.prog X.w X.K X.mg X.base (L2.CX X.prog X.w) k fa fd ps (spX X.mg l.length sem)) (tk : Takes X W)
    (hfun : wpAny (model X.prog X.w) X.A (eval (.Subscript fo fi p9) X.env) (EP X pins σ fun v H1 => v = .ref fa ∧ Ex B0 r r1 σ H H1) X.xe s)
    (ha : PA X (e :: es) (tA l)) (hp : ∀ x ∈ e :: es, plainX x = true) {ds : List D} {r2 : En} (hds : denL l r1 = .ok (ds, r2)) (hsem : sem ds = .exn c) (hm : X.mg c = some (.ref C)) (hw : ∀ H1, Go (own r σ) H H1 -> W (.ref C) none σ H1) :
    wpAny (model X.prog X.w) X.A (eval (.Call (.Subscript fo fi p9) (e :: es) [] pos) X.env) P X.xe s := by
  refine Call_ (L2.thn hfun fun u s1 ⟨v, H1, I1, rv, ev, ex⟩ => ?_)
  subst ev
  cases rv
  refine PySem.W.callWith_K (h₀ := X.base) I1.ok.mod.kin c2 (L2.thn (ha.run pos pins s1 σ H1 (fun vs H2 => spX X.mg l.length sem vs H2 (fun _ _ => False) (WE W σ)) I1 ?args) fun us s2 ⟨vs, H2, I2, rr, qq⟩ => ⟨I2.kIn, ?_⟩) (star_plain (hp e List.mem_cons_self) es X.env) (back_any pos X.env fun x hx => hp x (List.mem_cons_of_mem _ hx))
  case args =>
    refine ⟨B0, r1, ds, r2, ex.rel, hds, fun vs H2 ex2 dn => ?_⟩
    refine ⟨?_, _, ds, c, C, ex2.rel.trkB, dn, hsem, hm, fun H3 hs => hw H3 ((ex.trans ex2).go.trans (Go.ofSame hs))⟩
    rw [dn.length]
    exact denL_len hds
  exact wpAny_mono (run_fnS c4 hr c3 (passAt tk σ) I2 rr qq) (fun _ _ ⟨_, _, _, _, z⟩ => z.elim) fun _ _ z => z
theorem x_callT {X : Cx} {W : WX} {N : List Str} {sc : Scope} {sb : Str -> Bool} {k : Nat} {pos p1 p2 : Pos} {x1 : Nat} {fx es : List Expr} {ie e : Expr} {fs : List (Str × PF)} {i : E} {l : List E} (g : Gd X N sc sb k) (m : fsM sc fs fx = true) (hF : ∀ f ∈ fs, FokX X.prog X.w X.K X.mg X.base k (.p f.1 l.length f.2))
    (hi : PE X ie (tE i)) (hix : PlainIx ie) (ha : PA X (e :: es) (tA l)) (hp : ∀ x ∈ e :: es, plainX x = true) (hfs : fs.length ≤ 1000) (qi : Qs (clE i)) (ql : Qs (clL l)) (tk : Takes X W) : PE X (.Call (.Subscript (.Tuple fx x1 p1) ie p2) (e :: es) [] pos) (tXe X.mg W (.callT fs i l)) := by
  obtain ⟨fas, hl, hpa, hj⟩ := fs_paX (n := l.length) g m hF
  refine ⟨fun pins s σ H Q I ⟨B0, r, c, C, rel, hden, hm, hw⟩ => ?_⟩
  rcases exn_inv (show (den i r).bnd _ = .exn c from hden) with z | ⟨q1, h1, z⟩
  · exact absurd z (nx_den i r qi c)
  rcases exn_inv z with z | ⟨kk, h2, z⟩
  · exact absurd z (nx_ofO _ c)
  rcases exn_inv z with z | ⟨f, h3, z⟩
  · exact absurd z (nx_ofO _ c)
  rcases exn_inv z with z | ⟨q2, h4, z⟩
  · exact absurd z (nx_denL l _ ql c)
  rcases exn_inv z with h5 | ⟨_, _, z⟩
  rotate_left
  · cases z
  have h3 : (L2.ixN fs.length kk).bind (fun j => fs[j]?) = some f := ofO_inv h3
  obtain ⟨j2, qj, h3⟩ : ∃ j2, L2.ixN fs.length kk = some j2 ∧ fs[j2]? = some f := by
    cases q : L2.ixN fs.length kk with
    | none => rw [q] at h3; cases h3
    | some j2 => rw [q] at h3; exact ⟨j2, rfl, h3⟩
  obtain ⟨fa, fd, ps, c1, c2, c3, c4⟩ := hj j2 f h3
  have hfa : L2.atI (fas.map V.ref) kk = some (V.ref fa) := by
    unfold L2.atI
    rw [List.length_map, hl, qj]
    show (fas.map V.ref)[j2]? = _
    rw [List.getElem?_map, c1]
    rfl
  have hfun := pe_ix (pos := p2) (ix_tup (X := X)) (pe_tup (x1 := x1) (pos := p1) hpa) hi hix
  refine x_callAt (r1 := q1.2) g.room c2 c3 c4 tk (hfun.run pins s σ H (fun v H1 => v = .ref fa ∧ Ex B0 r q1.2 σ H H1) I ?_) ha hp h4 h5 hm hw
  refine ⟨by rw [List.length_map, hl, sizeLine_eq]; omega, fun p hp => ?_⟩
  have ex0 := Ex.ofSame rel (same_new (o := .tup (fas.map V.ref)) hp)
  refine ⟨B0, r, q1.1, q1.2, ex0.rel, h1, fun w H2 ex2 dn2 => ?_⟩
  have ew := intK_dn (ofO_inv h2) dn2
  subst ew
  have nl : ¬ own r σ p := fun z => rel.ownB z hp
  have hl2 : H2 p = some (.tup (fas.map V.ref)) := ex2.go.keep _ _ nl upd_same
  exact ⟨p, _, kk, _, rfl, rfl, .inl (.inl hl2), hfa, rfl, ex0.trans ex2⟩
end Sb

set_option Elab.async false
set_option linter.all false
set_option maxRecDepth 100000
set_option maxHeartbeats 4000000
/-! SbR: defs that may raise. -/
namespace Sb
open PySem PySem.Spec PyProof.Rows L2
/-- some callee may raise -/
def anyX (nm : List Str) (l : List Cl) : Bool := l.any fun c => nm.contains c.name
def fE (nm : List Str) : E -> Bool
  | .call _ _ l => !anyX nm (clL l) && !l.isEmpty
  | .callT fs i l => !anyX nm (clE i) && !anyX nm (clL l) && fs.all fun f => nm.contains f.1
  | .ite c a b => !anyX nm (clE c) && fE nm a && fE nm b
  | e => !anyX nm (clE e)
def raiseB (xn : List Str) (sc : Scope) (c : Str) : Stmt -> Bool
  | .Raise (some (.Call (.Name x _) [.Constant (.str _) _ _] [] _)) none _ => decide (x = c) && xn.contains c && glB sc x && okN x
  | _ => false
def ghost : S -> Bool
  | .fz _ => true
  | .drop _ => true
  | _ => false
/-- x = (f, g, ..); return x[i](..) -/
def retTB (N : List Str) (sc : Scope) (sb : Str -> Bool) (nm : List Str) (i : Nat) (fs : List (Str × PF)) (ix : E) (l : List E) : List Stmt -> Bool
  | [.Assign [.Name x _] (.Tuple fx _ _) _, .Return (some (.Call (.Subscript (.Name y _) ie _) (e :: es) [] _)) _] => slB N i x && sb x && decide (y = x) && visB sc x && okN x && fsM sc fs fx && decide (fs.length ≤ 1000) && mE N sc ix ie && mEs N sc l (e :: es) && !anyX nm (clE ix) && !anyX nm (clL l) && fs.all fun f => nm.contains f.1
  | _ => false
def retS : S -> Bool
  | .retT _ _ _ _ => true
  | _ => false
mutual
def fS (N : List Str) (sb : Str -> Bool) (nm xn : List Str) (sc : Scope) : S -> Stmt -> Bool
  | .raise c, st => raiseB xn sc c st
  | .ife c a b, st => match st with
    | .If _ es es2 _ => !anyX nm (clE c) && fSs N sb nm xn sc a es && fSs N sb nm xn sc b es2
    | _ => false
  | .ex e, _ => fE nm e
  | .ret e, _ => fE nm e
  | s, _ => !anyX nm (clS s) && noR s
def fSs (N : List Str) (sb : Str -> Bool) (nm xn : List Str) (sc : Scope) : List S -> List Stmt -> Bool
  | [], _ => true
  | s :: l, es => (noRs (s :: l) && !anyX nm (clSs (s :: l))) || (match s with
    | .retT i fs ix q => retTB N sc sb nm i fs ix q es
    | _ => false) || (!ghost s && !retS s && match es with
    | st :: r => fS N sb nm xn sc s st && fSs N sb nm xn sc l r
    | [] => false)
end
/-- what is known of the callees: those that may raise, those that don't -/
structure Cx2 (X : Cx) (k : Nat) (nm : List Str) (l : List Cl) : Prop where
  f : Cs X k l
  x : ∀ c ∈ l, nm.contains c.name = true -> FokX X.prog X.w X.K X.mg X.base k c
  q : ∀ c ∈ l, nm.contains c.name = false -> QCl c
section
variable {X : Cx} {k : Nat} {nm : List Str}
theorem Cx2.sub {a b : List Cl} (h : Cx2 X k nm b) (s : ∀ c ∈ a, c ∈ b) : Cx2 X k nm a := ⟨fun c hc => h.f c (s c hc), fun c hc => h.x c (s c hc), fun c hc => h.q c (s c hc)⟩
theorem Cx2.l {a b : List Cl} (h : Cx2 X k nm (a ++ b)) : Cx2 X k nm a := h.sub fun c hc => List.mem_append_left _ hc
theorem Cx2.r {a b : List Cl} (h : Cx2 X k nm (a ++ b)) : Cx2 X k nm b := h.sub fun c hc => List.mem_append_right _ hc
theorem Cx2.qs {a : List Cl} (h : Cx2 X k nm a) (n : anyX nm a = false) : Qs a := fun c hc => by
  refine h.q c hc ?_
  cases e : nm.contains c.name with
  | false => rfl
  | true =>
    have : anyX nm a = true := List.any_eq_true.mpr ⟨c, hc, e⟩
    rw [n] at this
    cases this
end
theorem Gd.unnox {X : Cx} {N : List Str} {sc : Scope} {sb : Str -> Bool} {k : Nat} (g : Gd X.nox N sc sb k) (po : PassesOwn (model X.prog X.w) X.A X.env X.xe) : Gd X N sc sb k := ⟨g.scope, g.names, g.nd, g.calm, g.room, g.blt, po, g.kind, g.sto⟩
section
variable {X : Cx} {W : WX} {N : List Str} {sc : Scope} {sb : Str -> Bool} {k : Nat} {nm xn : List Str}
theorem xe_den (g : Gd X.nox N sc sb k) (po : PassesOwn (model X.prog X.w) X.A X.env X.xe) (tk : Takes X W) : ∀ (e : E) (pe : Expr), mE N sc e pe = true -> fE nm e = true -> Cx2 X k nm (clE e) -> PE X pe (tXe X.mg W e)
  | .call f sem l, pe, m, h, c => by
    unfold mE at m
    unfold fE at h
    simp only [Bool.and_eq_true, Bool.not_eq_true'] at h
    split at m
    · rename_i fx p2 es pos
      simp only [Bool.and_eq_true, decide_eq_true_eq] at m
      obtain ⟨⟨⟨mf, m1⟩, m2⟩, m3⟩ := m
      subst mf
      cases q : nm.contains fx with
      | false =>
        refine x_quietE (c.qs ?_)
        unfold clE
        show (nm.contains (Cl.p fx l.length sem).name || anyX nm (clL l)) = false
        rw [h.1, Bool.or_false]
        exact q
      | true =>
        unfold clE at c
        have F := c.x _ List.mem_cons_self q
        have c2 : Cx2 X k nm (clL l) := c.sub fun z hz => List.mem_cons_of_mem _ hz
        cases es with
        | nil =>
          cases l with
          | nil => cases h.2
          | cons _ _ => simp [mEs] at m3
        | cons e es => exact x_call F g.room (g.gl m1) (okN_d m2).1 (PAx.nox (pa_den l _ g m3 c2.f)) (mEs_plain m3) (c2.qs h.1) tk
    · cases m
  | .callT fs i l, pe, m, h, c => by
    unfold mE at m
    unfold fE at h
    simp only [Bool.and_eq_true, Bool.not_eq_true'] at h
    split at m
    · simp only [Bool.and_eq_true] at m
      obtain ⟨⟨⟨m0, m1⟩, m2⟩, m3⟩ := m
      unfold clE at c
      simp only [decide_eq_true_eq] at m0
      refine x_callT (g.unnox po) m1 (fun f hf => c.l.x _ (List.mem_map.mpr ⟨f, hf, rfl⟩) ?_) (PE.nox (ex_den i _ g m2 c.r.l.f).1) (ix_plain (mE_plain m2)) (PAx.nox (pa_den l _ g m3 c.r.r.f)) (mEs_plain m3) m0 (c.r.l.qs h.1.1) (c.r.r.qs h.1.2) tk
      exact List.all_eq_true.mp h.2 f hf
    · cases m
  | .ite d a b, pe, m, h, c => by
    unfold mE at m
    unfold fE at h
    simp only [Bool.and_eq_true, Bool.not_eq_true'] at h
    split at m
    · simp only [Bool.and_eq_true] at m
      unfold clE at c
      exact x_ite (c.l.l.qs h.1.1) (PT.nox (ex_den d _ g m.1.1 c.l.l.f).2) (xe_den g po tk a _ m.1.2 h.1.2 c.l.r) (xe_den g po tk b _ m.2 h.2 c.r)
    · cases m
  | .k _, pe, m, h, c => x_quietE (c.qs (by simpa [fE] using h))
  | .v _, pe, m, h, c => x_quietE (c.qs (by simpa [fE] using h))
  | .bin _ _ _, pe, m, h, c => x_quietE (c.qs (by simpa [fE] using h))
  | .neg _, pe, m, h, c => x_quietE (c.qs (by simpa [fE] using h))
  | .cmp _ _ _, pe, m, h, c => x_quietE (c.qs (by simpa [fE] using h))
  | .chain _ _ _ _ _, pe, m, h, c => x_quietE (c.qs (by simpa [fE] using h))
  | .band _ _, pe, m, h, c => x_quietE (c.qs (by simpa [fE] using h))
  | .bor _ _, pe, m, h, c => x_quietE (c.qs (by simpa [fE] using h))
  | .bnot _, pe, m, h, c => x_quietE (c.qs (by simpa [fE] using h))
  | .tup _, pe, m, h, c => x_quietE (c.qs (by simpa [fE] using h))
  | .lst _, pe, m, h, c => x_quietE (c.qs (by simpa [fE] using h))
  | .ix _ _, pe, m, h, c => x_quietE (c.qs (by simpa [fE] using h))
  | .cix _ _, pe, m, h, c => x_quietE (c.qs (by simpa [fE] using h))
  | .dgt _ _ _, pe, m, h, c => x_quietE (c.qs (by simpa [fE] using h))
  | .dix _ _, pe, m, h, c => x_quietE (c.qs (by simpa [fE] using h))
  | .nix _ _, pe, m, h, c => x_quietE (c.qs (by simpa [fE] using h))
  | .sl _ _ _, pe, m, h, c => x_quietE (c.qs (by simpa [fE] using h))
  | .prim _ _, pe, m, h, c => x_quietE (c.qs (by simpa [fE] using h))
  | .meth _ _ _, pe, m, h, c => x_quietE (c.qs (by simpa [fE] using h))
  | .isi _ _, pe, m, h, c => x_quietE (c.qs (by simpa [fE] using h))
  | .lens _, pe, m, h, c => x_quietE (c.qs (by simpa [fE] using h))
  | .op _ _, pe, m, h, c => x_quietE (c.qs (by simpa [fE] using h))
  | .rng _ _, pe, m, h, c => x_quietE (c.qs (by simpa [fE] using h))
  | .callS _ _ _ _ _, pe, m, h, c => x_quietE (c.qs (by simpa [fE] using h))
  | .lc _ _ _ _ _, pe, m, h, c => x_quietE (c.qs (by simpa [fE] using h))
  | .lc2 _ _ _ _ _ _ _, pe, m, h, c => x_quietE (c.qs (by simpa [fE] using h))
theorem own_ign {r : En} {σ : L2.St} {i : Nat} {v : Option V} (hi : r[i]? = some none) : own r (σ.set i v) = own r σ := by
  funext a
  apply propext
  constructor
  · rintro ⟨j, h1, h2⟩
    have hj : i ≠ j := fun z => by
      subst z
      rw [hi] at h1
      exact h1 rfl
    rw [List.getElem?_set_ne hj] at h2
    exact ⟨j, h1, h2⟩
  · rintro ⟨j, h1, h2⟩
    have hj : i ≠ j := fun z => by
      subst z
      rw [hi] at h1
      exact h1 rfl
    exact ⟨j, h1, by rw [List.getElem?_set_ne hj]; exact h2⟩
theorem Rel.ign {B0 : Addr -> Prop} {r : En} {σ : L2.St} {H : Hp} {i : Nat} {v : Option V} (h : Rel B0 r σ H) (hi : r[i]? = some none) : Rel B0 r (σ.set i v) H := by
  have ne : ∀ {j : Nat} {x : Rv}, r[j]? = some (some x) -> i ≠ j := fun e z => by
    subst z
    rw [hi] at e
    cases e
  have ne2 : ∀ {j : Nat}, kd r[j]? ≠ 0 -> i ≠ j := fun e z => by
    subst z
    rw [hi] at e
    exact e rfl
  refine ⟨by rw [List.length_set]; exact h.len, fun j x e => ?_, fun j k a h1 h2 e1 e2 => ?_, h.trk⟩
  · obtain ⟨w, e1, e2⟩ := h.at' j x e
    refine ⟨w, by rw [List.getElem?_set_ne (ne e)]; exact e1, ?_⟩
    have : Bf B0 r (σ.set i v) = Bf B0 r σ := by
      unfold Bf
      rw [own_ign hi]
    rw [this]
    exact e2
  · rw [List.getElem?_set_ne (ne2 h1)] at e1
    rw [List.getElem?_set_ne (ne2 h2)] at e2
    exact h.inj j k a h1 h2 e1 e2
theorem x_retTB {i : Nat} {fs : List (Str × PF)} {ix : E} {l : List E} {es : List Stmt} {rest : List S} (g : Gd X.nox N sc sb k) (po : PassesOwn (model X.prog X.w) X.A X.env X.xe) (tk : Takes X W) (h : retTB N sc sb nm i fs ix l es = true) (c : Cx2 X k nm (fs.map (fun f => Cl.p f.1 l.length f.2) ++ (clE ix ++ clL l))) : PSs X es (tXs X.mg W (.retT i fs ix l :: rest)) := by
  unfold retTB at h
  split at h
  · rename_i x px fx k9 tp ap y py ie sp e es cp rp
    simp only [Bool.and_eq_true, decide_eq_true_eq, Bool.not_eq_true'] at h
    obtain ⟨⟨⟨⟨⟨⟨⟨⟨⟨⟨⟨m1, m2⟩, rfl⟩, m4⟩, m5⟩, m6⟩, m7⟩, m8⟩, m9⟩, m10⟩, m11⟩, m12⟩ := h
    have g2 := g.unnox po
    obtain ⟨fas, hl, hpa, hj⟩ := fs_paX (n := l.length) g2 m6 fun f hf => c.l.x _ (List.mem_map.mpr ⟨f, hf, rfl⟩) (List.all_eq_true.mp m12 f hf)
    have o := okN_d m5
    have ha := PAx.nox (pa_den l _ g m9 c.r.r.f)
    have hi := PE.nox (ex_den ix _ g m8 c.r.l.f).1
    refine ⟨fun pins s σ H D I ⟨B0, I0, H0, r, cn, C, sx, hd, hm, hw⟩ => ?_⟩
    have hrun : run (.retT i fs ix l) r = .exn cn := by
      rcases exn_inv (show (run (.retT i fs ix l) r).bnd _ = .exn cn from hd) with z | ⟨a, z, _⟩
      · exact z
      · exact absurd z run_retT_ne
    obtain ⟨hri, hden⟩ : r[i]? = some none ∧ den (.callT fs ix l) r = .exn cn := by
      unfold run at hrun
      split at hrun
      · rename_i z
        refine ⟨z, ?_⟩
        split at hrun
        · rename_i z2
          cases hrun
          exact z2
        · cases hrun
      · cases hrun
    rcases exn_inv (show (den ix r).bnd _ = .exn cn from hden) with z | ⟨q1, h1, z⟩
    · exact absurd z (nx_den ix r (c.r.l.qs m10) cn)
    rcases exn_inv z with z | ⟨kk, h2, z⟩
    · exact absurd z (nx_ofO _ cn)
    rcases exn_inv z with z | ⟨f, h3, z⟩
    · exact absurd z (nx_ofO _ cn)
    rcases exn_inv z with z | ⟨q2, h4, z⟩
    · exact absurd z (nx_denL l _ (c.r.r.qs m11) cn)
    rcases exn_inv z with h5 | ⟨_, _, z⟩
    rotate_left
    · cases z
    have h3 : (L2.ixN fs.length kk).bind (fun j => fs[j]?) = some f := ofO_inv h3
    obtain ⟨j2, qj, h3⟩ : ∃ j2, L2.ixN fs.length kk = some j2 ∧ fs[j2]? = some f := by
      cases q : L2.ixN fs.length kk with
      | none => rw [q] at h3; cases h3
      | some j2 => rw [q] at h3; exact ⟨j2, rfl, h3⟩
    obtain ⟨fa, fd, ps, c1, c2, c3, c4⟩ := hj j2 f h3
    have hfa : L2.atI (fas.map V.ref) kk = some (V.ref fa) := by
      unfold L2.atI
      rw [List.length_map, hl, qj]
      show (fas.map V.ref)[j2]? = _
      rw [List.getElem?_map, c1]
      rfl
    have st1 : PS X (.Assign [.Name y px] (.Tuple fx k9 tp) ap) _ := ps_set g2.ndX (g2.sl m1) (g2.sto _ m2).1 (pe_tup (x1 := k9) (pos := tp) hpa) (sw_not rfl _ _ _) (g2.sto _ m2).2
    have hfun := pe_ix (pos := sp) (ix_tup (X := X)) (pe_var (pos := py) (g2.sl m1) (g2.vis m4) o.1 o.2.1) hi (ix_plain (mE_plain m8))
    have st2 : PE X (.Call (.Subscript (.Name y py) ie sp) (e :: es) [] cp) (fun σ1 H1 _ => ∃ p, H p = none ∧ σ1 = σ.set i (some (.ref p)) ∧ H1 = upd H p (.tup (fas.map V.ref))) := by
      refine ⟨fun pins2 s2 σ1 H1 Q I2 ⟨p, hp, e1, e2⟩ => ?_⟩
      subst e1 e2
      have li : i < σ.length := by rw [← sx.rel.len]; exact (List.getElem?_eq_some_iff.mp hri).1
      have sm := same_new (o := .tup (fas.map V.ref)) hp
      have rel1 : Rel B0 r (σ.set i (some (.ref p))) (upd H p (.tup (fas.map V.ref))) := (sx.rel.same sm).ign hri
      have sx1 : Sx B0 I0 H0 r (σ.set i (some (.ref p))) (upd H p (.tup (fas.map V.ref))) := ⟨rel1, (sx.same sm).go, fun j a hk hs => sx.own (by rw [← own_ign (v := some (.ref p)) hri]; exact ⟨j, hk, hs⟩)⟩
      refine x_callAt (B0 := B0) (r := r) (r1 := q1.2) g2.room c2 c3 c4 tk (hfun.run pins2 s2 _ _ (fun v H2 => v = .ref fa ∧ Ex B0 r q1.2 (σ.set i (some (.ref p))) (upd H p (.tup (fas.map V.ref))) H2) I2 ?_) ha (mEs_plain m9) h4 h5 hm fun H2 gg => hw _ H2 (sx1.gox gg)
      refine ⟨.ref p, by rw [List.getElem?_set_self li], B0, r, q1.1, q1.2, rel1, h1, fun w H2 ex2 dn2 => ?_⟩
      have ew := intK_dn (ofO_inv h2) dn2
      subst ew
      have nl : ¬ own r (σ.set i (some (.ref p))) p := fun z => by
        rw [own_ign hri] at z
        exact sx.rel.ownB z hp
      have hl2 : H2 p = some (.tup (fas.map V.ref)) := ex2.go.keep _ _ nl upd_same
      exact ⟨p, _, kk, _, rfl, rfl, .inl (.inl hl2), hfa, rfl, ex2⟩
    exact (pss_cons st1 (pss_one (ps_ret st2))).run pins s σ H D I ⟨by rw [List.length_map, hl, sizeLine_eq]; omega, fun p hp => ⟨p, hp, rfl, rfl⟩⟩
  · cases h
theorem x_off {s : S} {st : Stmt} (h : (!anyX nm (clS s) && noR s) = true) (c : Cx2 X k nm (clS s)) : PS X st (tX X.mg W s) := by
  simp only [Bool.and_eq_true, Bool.not_eq_true'] at h
  exact x_quiet1 h.2 (c.qs h.1)
mutual
theorem xs1_den (g : Gd X.nox N sc sb k) (po : PassesOwn (model X.prog X.w) X.A X.env X.xe) (tk : Takes X W) (xc : ∀ c, xn.contains c = true -> ∃ C, Xcl X.K X.mg c C) : ∀ (s : S) (st : Stmt), mS N sc sb s st = true -> fS N sb nm xn sc s st = true -> Cx2 X k nm (clS s) -> PS X st (tX X.mg W s)
  | .raise cn, st, m, h, c => by
    unfold fS raiseB at h
    split at h
    · simp only [Bool.and_eq_true, decide_eq_true_eq] at h
      obtain ⟨⟨⟨rfl, h1⟩, h2⟩, h3⟩ := h
      obtain ⟨C, xcl⟩ := xc _ h1
      exact x_raise (x := "") g.calm tk xcl (g.gl h2) (okN_d h3).1
    · cases h
  | .ife d a b, st, m, h, c => by
    unfold mS at m
    unfold clS at c
    split at m
    · rename_i pc es es2 pos
      unfold fS at h
      simp only [Bool.and_eq_true, Bool.not_eq_true'] at m h
      exact x_if (c.l.l.qs h.1.1) (PT.nox (ex_den d _ g m.1.1 c.l.l.f).2) (xss_den g po tk xc a _ m.1.2 h.1.2 c.l.r) (xss_den g po tk xc b _ m.2 h.2 c.r)
    · cases m
  | .ex e, st, m, h, c => by
    unfold mS at m
    unfold clS at c
    split at m
    · unfold fS at h
      simp only [Bool.and_eq_true, Bool.not_eq_true'] at m
      exact x_ex (xe_den g po tk e _ m.1 h c) (sw_not m.2 _ _ _)
    · cases m
  | .ret e, st, m, h, c => by
    unfold mS at m
    unfold clS at c
    split at m
    · unfold fS at h
      exact x_ret (xe_den g po tk e _ m h c)
    · cases m
  | .set _ _, st, m, h, c => x_off (by unfold fS at h; exact h) c
  | .setT _ _, st, m, h, c => x_off (by unfold fS at h; exact h) c
  | .set2 _ _ _ _, st, m, h, c => x_off (by unfold fS at h; exact h) c
  | .set3 _ _ _ _ _ _, st, m, h, c => x_off (by unfold fS at h; exact h) c
  | .setix _ _ _, st, m, h, c => x_off (by unfold fS at h; exact h) c
  | .setix2 _ _ _ _ _ _, st, m, h, c => x_off (by unfold fS at h; exact h) c
  | .setdx _ _ _, st, m, h, c => x_off (by unfold fS at h; exact h) c
  | .setnx _ _ _, st, m, h, c => x_off (by unfold fS at h; exact h) c
  | .app _ _, st, m, h, c => x_off (by unfold fS at h; exact h) c
  | .loop _ _ _, st, m, h, c => x_off (by unfold fS at h; exact h) c
  | .wh _ _ _, st, m, h, c => x_off (by unfold fS at h; exact h) c
  | .fz _, st, m, h, c => x_off (by unfold fS at h; exact h) c
  | .drop _, st, m, h, c => x_off (by unfold fS at h; exact h) c
  | .retT _ _ _ _, st, m, h, c => x_off (by unfold fS at h; exact h) c
theorem xss_den (g : Gd X.nox N sc sb k) (po : PassesOwn (model X.prog X.w) X.A X.env X.xe) (tk : Takes X W) (xc : ∀ c, xn.contains c = true -> ∃ C, Xcl X.K X.mg c C) : ∀ (l : List S) (es : List Stmt), mSs N sc sb l es = true -> fSs N sb nm xn sc l es = true -> Cx2 X k nm (clSs l) -> PSs X es (tXs X.mg W l)
  | [], es, m, h, c => x_nil
  | s :: l, es, m, h, c => by
    unfold fSs at h
    rw [Bool.or_eq_true, Bool.or_eq_true] at h
    rcases h with (h | h) | h
    · simp only [Bool.and_eq_true, Bool.not_eq_true'] at h
      exact x_quiet h.1 (c.qs h.2)
    · split at h
      · unfold clSs clS at c
        exact x_retTB g po tk h c.l
      · cases h
    · simp only [Bool.and_eq_true, Bool.not_eq_true'] at h
      obtain ⟨⟨hg, hgt⟩, h⟩ := h
      cases es with
      | nil => cases h
      | cons st r =>
        have m' : (mS N sc sb s st && mSs N sc sb l r) = true := by
          unfold mSs at m
          split at m
          · cases hg
          · cases hg
          · cases hgt
          · exact m
        simp only [Bool.and_eq_true] at m' h
        unfold clSs at c
        exact x_cons (PSx.nox (st_den g s st m'.1 c.l.f)) (xs1_den g po tk xc s st m'.1 h.1 c.l) (xss_den g po tk xc l r m'.2 h.2 c.r)
end
end
section
variable {P : Program} {w : World} {K : PySem.W.Frag} {mg : Str → Option Value} {base : Heap}
theorem gd_startX {CX : CXT} {N ps : List Str} {st : Stmt} {x : Str} {f : Addr} {cdv : Value} {A : Around} {outer : List Env} {s : Shared} {H : Hp} {E : XK} {k : Nat} (S : FnScope N ps (defScope st)) (hr : Room k (A.deeper (envOfC x (defScope st) s.heap.objs.size f cdv))) (blt : ∀ x ∈ bltN, mg x = none) :
    Gd (cxOf CX P w K mg base N x (defScope st) f cdv A outer s H E).nox N (defScope st) (sbOf (defScope st)) k where
  scope := rfl
  names := rfl
  nd := S.nd
  calm := rfl
  room := hr
  blt := blt
  po := PassesOwn.never
  kind := S.kind
  sto := fun y hy => by
    refine ⟨?_, .inl rfl⟩
    unfold sbOf at hy
    split at hy
    · rename_i e; exact .inl e
    · rename_i e; exact .inr e
    · cases hy
theorem fnok_x {x : Str} {st : Stmt} {f : Addr} {fd : FuncData} {N ps : List Str} {k n m : Nat} {body : List Sb.S} {nm xn : List Str} (F : Fun K x x st f fd) (S : FnScope N ps (defScope st)) (hn : ps.length = n) (hN : N.length = m)
    (ma : mSs N (defScope st) (sbOf (defScope st)) body (defBody st) = true) (mx : fSs N (sbOf (defScope st)) nm xn (defScope st) body (defBody st) = true) (cs : ∀ c ∈ clSs body, Fok P w K mg base k c) (cx : ∀ c ∈ clSs body, nm.contains c.name = true -> FokX P w K mg base k c) (cq : ∀ c ∈ clSs body, nm.contains c.name = false -> QCl c)
    (xc : ∀ c, xn.contains c = true -> ∃ C, Xcl K mg c C) (blt : ∀ x ∈ bltN, mg x = none) : FnOk P w K mg base (L2.CX P w) (k + 1) f fd ps (spX mg n (mkP n m body)) := by
  refine F.okX S (fun vs H Q E h => ?_) fun cdv A outer s H vs Q E hr h => ?_
  · rw [hn]; exact h.1
  · obtain ⟨hl, B, ds, c, C, ht, hd, hs, hmc, hq⟩ := h
    have gd := gd_startX (P := P) (w := w) (K := K) (base := base) (outer := outer) (H := H) (E := E) (CX := L2.CX P w) S hr blt
    have tk : Takes (cxOf (L2.CX P w) P w K mg base N x (defScope st) f cdv A outer s H E) (fun cls d _ H => E cls d H) := takes_of rfl rfl rfl rfl
    have po := passes_of (X := cxOf (L2.CX P w) P w K mg base N x (defScope st) f cdv A outer s H E) rfl
    refine ⟨_, xss_den gd po tk xc body _ ma mx ⟨cs, cx, cq⟩, ?_⟩
    have hle : n ≤ m := by
      have := congrArg List.length S.pre
      rw [List.length_take] at this
      omega
    have rel := rel_start (N := N) ht hd hl hN hle
    have same : ∀ {H1 : Hp}, Go (fun _ => False) H H1 -> Same H H1 := fun g a o e => g.keep a o id e
    have h1 : runs body (entry ds (m - n)) = .exn c := by
      unfold mkP at hs
      cases q : decide (ds.length = n) with
      | false => rw [q] at hs; cases hs
      | true =>
        rw [q, chk_true] at hs
        rcases exn_inv hs with z | ⟨a, _, z⟩
        · exact z
        · cases a <;> cases z
    exact ⟨B, fun _ => False, H, _, c, C, ⟨rel, Go.refl _ _, fun i a h => absurd (entry_kd _ _ _) h⟩, h1, hmc, fun σ' H1 g => hq H1 (same g)⟩
theorem fok_x {x : Str} {st : Stmt} {f : Addr} {fd : FuncData} {N ps : List Str} {k n m : Nat} {body : List Sb.S} {nm xn : List Str} (F : Fun K x x st f fd) (b : Binds K fd ps []) (hm : mg x = some (.ref f)) (S : FnScope N ps (defScope st)) (hn : ps.length = n) (hN : N.length = m)
    (ma : mSs N (defScope st) (sbOf (defScope st)) body (defBody st) = true) (mx : fSs N (sbOf (defScope st)) nm xn (defScope st) body (defBody st) = true) (cs : ∀ c ∈ clSs body, Fok P w K mg base k c) (cx : ∀ c ∈ clSs body, nm.contains c.name = true -> FokX P w K mg base k c) (cq : ∀ c ∈ clSs body, nm.contains c.name = false -> QCl c)
    (xc : ∀ c, xn.contains c = true -> ∃ C, Xcl K mg c C) (blt : ∀ x ∈ bltN, mg x = none) : FokX P w K mg base (k + 1) (.p x n (mkP n m body)) := ⟨f, fd, ps, hm, F.kp, b, fnok_x F S hn hN ma mx cs cx cq xc blt⟩
variable {h : Heap}
theorem fokX (X : K.In h) (G : h.Ns mainGlobals mg) {x : Str} {st : Stmt} {N ps : List Str} {k n m : Nat} {body : List Sb.S} {nm xn : List Str} (d : DefAt K x st) (hb : BindH x st ps) (S : C8.scC N ps (defScope st) = true) (hn : ps.length = n) (hN : N.length = m)
    (ma : mSs N (defScope st) (sbOf (defScope st)) body (defBody st) = true) (mx : fSs N (sbOf (defScope st)) nm xn (defScope st) body (defBody st) = true) (blt : ∀ x ∈ bltN, mg x = none) (xc : ∀ c, xn.contains c = true -> ∃ C, Xcl K mg c C) (cs : ∀ c ∈ clSs body, Fok P w K mg base k c) (cx : ∀ c ∈ clSs body, nm.contains c.name = true -> FokX P w K mg base k c) (cq : ∀ c ∈ clSs body, nm.contains c.name = false -> QCl c) : FokX P w K mg base (k + 1) (.p x n (mkP n m body)) := by
  obtain ⟨f, fd, a, F⟩ := d.ex
  exact fok_x F (F.binds hb) (PySem.W.mg_of X G a) (scB S) hn hN ma mx cs cx cq xc blt
end
end Sb

set_option Elab.async false
set_option linter.all false
set_option maxRecDepth 100000
set_option maxHeartbeats 4000000
/-! SbS: an exception that is caught, and kept. -/
namespace Sb
open PySem PySem.Spec PyProof.Rows L2
/-- an exception object of the class cls at a -/
def ExC (cls : Value) (a : Addr) : HO := .ext fun h => ∃ (oe : Obj) (vs : Array Value), h.get? a = some oe ∧ Zc cls none oe ∧ oe.data = .fields vs
theorem exC_ok {P : Program} {w : World} {H : Hp} {h : Heap} {a : Addr} {cls : Value} {oe : Obj} {vs : Array Value} (e : h.get? a = some oe) (z : Zc cls none oe) (d : oe.data = .fields vs) : ObjOk P w H h a (ExC cls a) :=
  ⟨⟨oe, vs, e, z, d⟩, ⟨oe, e⟩, fun _ _ ⟨o, v, q, r⟩ k => ⟨o, v, k o q, r⟩⟩
/-- an object that stands, and is tracked from now on -/
theorem inv_track {X : Cx} {pins : List (Addr × Obj)} {σ : L2.St} {H : Hp} {s : Shared} {a : Addr} {o : HO} (I : Inv X pins σ H s) (hn : H a = none) (h0 : X.s_0.heap.get? a = none) (nL : a ≠ X.env.locals) (nC : ∀ x c, X.env.cells.lookup x = some c → c ≠ a) (nP : ∀ p ∈ X.pn ++ pins, p.1 ≠ a)
    (new : ObjOk X.prog X.w (upd H a o) s.heap a o) : Inv X pins σ (upd H a o) s where
  ok := I.ok
  os := I.os
  bare := I.bare
  base := {
    keep := I.base.keep
    slot := I.base.slot
    free := fun b u q n hx => by
      rw [upd_ne (fun z => by rw [z, h0] at q; cases q)]
      exact I.base.free b u q n hx
    there := I.base.there
    tups := fun b xs q => by
      have := I.base.tups b xs q
      rw [upd_ne (ne_of_none this hn)]
      exact this
    frzs := fun b u xs q => by
      have := I.base.frzs b u xs q
      rw [upd_ne (ne_of_none this hn)]
      exact this
    tbls := fun b ps q => by
      obtain ⟨more, this⟩ := I.base.tbls b ps q
      exact ⟨more, by rw [upd_ne (ne_of_none this hn)]; exact this⟩ }
  loc := I.loc
  cell := I.cell
  free := by rw [upd_ne (Ne.symm nL)]; exact I.free
  freeC := fun x c e => by rw [upd_ne (nC x c e)]; exact I.freeC x c e
  pin := fun p hp => by
    obtain ⟨e, n, r⟩ := I.pin p hp
    exact ⟨e, by rw [upd_ne (nP p hp)]; exact n, r⟩
  hok := fun b u e => by
    by_cases hb : b = a
    · subst hb
      rw [upd_same] at e
      cases e
      exact new
    · rw [upd_ne hb] at e
      exact (I.hok b u e).stay (fun _ _ _ q => q) (fun c q => by rw [upd_ne (ne_of_none q hn)]; exact q) (fun c xs q => by rw [upd_ne (ne_of_none q hn)]; exact q)
  len := I.len
/-- what the clause 'except x as n: y = n' wishes of an exception of the body -/
def wKeep (K : PySem.W.Frag) (c : Value) (i j : Nat) (D : Ends) : WX := fun cls d σ H =>
  PySem.W.exmOne K cls c = some true ∧ d = none ∧ ∀ a, H a = none -> D.nx (((σ.set i (some (.ref a))).set j (some (.ref a))).set i none) (upd H a (ExC cls a))
theorem ps_try_keep {X : Cx} {x n y : Str} {C : Addr} {i j : Nat} {body : List Stmt} {np npos py pv ap pos : Pos} {tb : WX → TS} (hs : X.stack = X.env :: X.outer) (hf : X.env.frame = some X.env.locals) (hex : X.ex = []) (hN : X.N.Nodup) (hi : X.N[i]? = some n) (hj : X.N[j]? = some y)
    (hln : X.env.kindOf n = some .local) (hly : X.env.kindOf y = some .local) (hg : Gl X x) (hdx : (x == ("__debug__" : Str)) = false) (hmx : X.mg x = some (.ref C)) (dn : (n == ("__debug__" : Str)) = false) (dn2 : (n == ("__classdict__" : Str)) = false)
    (hb : ∀ (W : WX) (pn : List (Addr × Obj)) (xe : Value → Shared → Prop), Takes (X.tr pn xe) W → PassesOwn (model X.prog X.w) X.A X.env xe → PSs (X.tr pn xe) body (tb W)) (hsw : ∀ (a : Addr) pn, swapsWith (.Name n pv) (some (.Name y py)) ap.line (X.suite a pn).env = pure false) :
    PS X (.Try body [.ExceptHandler (some (.Name x np)) (some n) [.Assign [.Name y py] (.Name n pv) ap] npos] [] [] pos) (fun D σ H => tb (wKeep X.K (.ref C) i j D) D σ H) := by
  refine ⟨fun ps0 s0 σ0 H0 D I0 rd => ?_⟩
  have okX := I0.ok
  have fr0 : X.A.frames = some (X.env :: X.outer) := by rw [okX.frames, hs]
  refine wpAny_Try_except ?_
  refine wpAny_mono ((hb (wKeep X.K (.ref C) i j D) (X.pn ++ ps0) (fun e t => wpAny (model X.prog X.w) X.A (noteFrame e X.env) (fun _ t2 => wpAny (model X.prog X.w) X.A (setFlight e none) (fun _ t3 => wpAny (model X.prog X.w) X.A (handleBy e X.env [.ExceptHandler (some (.Name x np)) (some n) [.Assign [.Name y py] (.Name n pv) ap] npos]) (SP X ps0 D) X.xe t3) X.xe t2) X.xe t) (fun u t xx => ?_) PassesOwn.looking).run [] s0 σ0 H0 D (I0.toTry _) rd) (fun f t hsp => ?_) (fun e t he => he)
  · obtain ⟨a, B, sI, ps2, σ, H, cls, d, rfl, J1, nb, up, sky, na, os, ag, hm, rfl, hq⟩ := xx
    have J : Inv X ps0 σ H sI := J1.ofTry okX
    have sk2 : Sky B (X.env :: X.outer) a (Zc cls none) X.env.locals t.heap := by rw [← hs]; exact sky
    show wpAny (model X.prog X.w) X.A (noteFrame (.ref a) X.env) _ _ _
    refine Sky.land Zc.steady fr0 hf sk2 fun h3 fl3 up3 => ?_
    have J3 : Inv X ps0 σ H { t with heap := h3 } := J.landed nb fl3.1 (up.trans up3) os ag
    obtain ⟨oe3, vs3, he3, hz3, hd3⟩ := fl3.there
    have nfr : a ∉ frs (X.env :: X.outer) := fun hmm => by
      obtain ⟨_, o1, e1, nf1⟩ := fl3.2.2.1.mem hmm
      rw [he3] at e1
      cases e1
      exact nf1 _ hd3
    have nL : a ≠ X.env.locals := fun z => nfr (List.mem_filterMap.mpr ⟨X.env, List.mem_cons_self, by rw [hf, z]⟩)
    have nF : a ∉ X.fs := fun hmm => by
      obtain ⟨v, hv, q⟩ := List.mem_filterMap.mp hmm
      exact nfr (List.mem_filterMap.mpr ⟨v, List.mem_cons_of_mem _ hv, q⟩)
    have hBn : B.get? a = none := fl3.2.1
    have hIn : sI.heap.get? a = none := by
      cases q : sI.heap.get? a with
      | none => rfl
      | some o =>
        have := nb a o q (by rw [hs]; exact nfr)
        rw [hBn] at this
        cases this
    have h0n : X.s_0.heap.get? a = none := by
      cases q : X.s_0.heap.get? a with
      | none => rfl
      | some o =>
        obtain ⟨o2, z⟩ := J.base.there a o q (by rw [hex]; exact fun z => nomatch z)
        rw [hIn] at z
        cases z
    have nPn : ∀ p ∈ X.pn ++ ps0, p.1 ≠ a := fun p hp z => by
      have := (J.pin p hp).1
      rw [z, hIn] at this
      cases this
    have nCl : ∀ x c, X.env.cells.lookup x = some c → c ≠ a := fun x c e z => by
      obtain ⟨v, o, ho, _⟩ := J.cell x c e
      rw [z, hIn] at ho
      cases ho
    have S3 := J3.suite he3 hd3 na nL nF
    refine wpAny_handleBy_cons (codeAny_handlers_test ?_) (by intro q; cases q)
    have lty : PySem.W.Looks (model X.prog X.w) h3 (typeOf (.ref a)) cls := fun _ _ _ _ k q => wpAny_typeOf_ref (k _ _ he3) (by rw [hz3.1]; exact q)
    have lmt := PySem.W.exm_one (M := model X.prog X.w) J3.kIn lty hm
    refine ld_glob (X := X.suite a ((a, oe3) :: (X.pn ++ ps0))) S3 hg hmx (lmt.here ?_) hdx
    refine codeAny_handlers_suite_as ?_
    refine HandSPX.lands_againZ fl3 fun h4 fl4 up4 => ?_
    have J4 : Inv X ps0 σ H { t with heap := h4 } := J.landed nb fl4.1 ((up.trans up3).trans up4) os ag
    obtain ⟨oe4, vs4, he4, hz4, hd4⟩ := fl4.there
    have S4 := J4.suite he4 hd4 na nL nF
    refine store_ok (X := X.suite a ((a, oe4) :: (X.pn ++ ps0))) (v := .ref a) S4 hN hi (.inl hln) rfl (fun s5 S5 => ?_) (.inr hln)
    have li : i < σ.length := by rw [J.len]; exact (List.getElem?_eq_some_iff.mp hi).1
    have one : PSs (X.suite a ((a, oe4) :: (X.pn ++ ps0))) [.Assign [.Name y py] (.Name n pv) ap] (tAsg (tVar i) (gName j)) := pss_one (ps_set (X := X.suite a ((a, oe4) :: (X.pn ++ ps0))) hN hj (.inl hly) (pe_var hi (.inl hln) dn dn2) (hsw a _) (.inr hly))
    refine wpAny_mono (one.run [] s5 _ H { nx := fun σ6 H6 => σ6 = (σ.set i (some (.ref a))).set j (some (.ref a)) ∧ H6 = H, rt := fun _ _ => False, bk := fun _ _ => False, ct := fun _ _ => False } S5 ⟨.ref a, by rw [List.getElem?_set_self li], rfl, rfl⟩) (fun f s6 hsp => ?_) (fun _ _ z => False.elim z)
    cases f with
    | next =>
      obtain ⟨σ6, H6, S6, e6, e7⟩ := hsp
      rw [e6, e7] at S6
      refine gone_ok (X := X.suite a ((a, oe4) :: (X.pn ++ ps0))) S6 hN hi hln fun s7 S7 => ?_
      obtain ⟨p1, p2, _⟩ := S7.pin (a, oe4) (List.mem_append.mpr (.inl List.mem_cons_self))
      have J7 : Inv X ps0 _ H s7 := S7.unsuite okX
      exact ⟨_, _, inv_track J7 na h0n nL nCl nPn (exC_ok p1 hz4 hd4), hq a na⟩
    | brk => obtain ⟨_, _, _, z⟩ := hsp; exact z.elim
    | cont => obtain ⟨_, _, _, z⟩ := hsp; exact z.elim
    | ret u => obtain ⟨_, _, _, _, _, z⟩ := hsp; exact z.elim
  · cases f with
    | next =>
      obtain ⟨σ1, H1, J1, q⟩ := hsp
      exact wpAny_execs_nil ⟨σ1, H1, J1.ofTry okX, q⟩
    | brk =>
      obtain ⟨σ1, H1, J1, q⟩ := hsp
      exact ⟨σ1, H1, J1.ofTry okX, q⟩
    | cont =>
      obtain ⟨σ1, H1, J1, q⟩ := hsp
      exact ⟨σ1, H1, J1.ofTry okX, q⟩
    | ret u =>
      obtain ⟨v, σ1, H1, J1, r, q⟩ := hsp
      exact ⟨v, σ1, H1, J1.ofTry okX, r, q⟩
/-! ### isinstance of such an object -/
def rIsX (K : PySem.W.Frag) : List V → Hp → VK → Prop := fun xs H Q => ∃ (a Dc : Addr) (c : V) (cv : Value) (b : Bool), xs = [.ref a, c] ∧ H a = some (ExC (.ref Dc) a) ∧ ExcC K Dc ∧ (∀ u, RelV c u → u = cv) ∧ PySem.W.kitOne K (.ref Dc) cv = some b ∧ Q (.bl b) H
theorem call_isX {X : Cx} : CallR X (.builtin "isinstance") (rIsX X.K) := by
  intro pins s σ H xs us Q I r h
  obtain ⟨a, Dc, c, cv, b, rfl, ha, C, hcv, e, q⟩ := h
  cases r with
  | cons rx rr =>
    cases rr with
    | cons rt rr =>
      cases rr
      cases rx
      have ec := hcv _ rt
      subst ec
      obtain ⟨⟨oe, vs, hget, hz, hv⟩, _, _⟩ := I.hok a _ ha
      have J : PySem.W.InstAt s.heap a oe Dc none := by
        obtain ⟨oc, od, oda, osl⟩ := oe
        obtain ⟨h1, h2⟩ := hz
        dsimp only at h1 h2 hv
        subst h1 h2 hv
        exact ⟨hget, rfl, rfl, trivial⟩
      exact PySem.W.kia_one (PySem.W.handS_kitx_exc C.hg C.hk C.hs C.hd C.ha C.hn C.ht C.hm) I.kIn J e (fun z => nomatch z) fun tk => ⟨.bl b, H, I.kept (t' := tk) fun _ _ z => z, rfl, q⟩
end Sb

set_option Elab.async false
set_option linter.all false
set_option maxRecDepth 100000
set_option maxHeartbeats 4000000
/-! SbT: the law's own defs that call, catch and name. -/
namespace Sb
open PySem PySem.Spec PyProof.Rows L2
def xn12 : List Str := ["InvalidRule", "InvalidBids", "InvalidBidder", "InvalidRest", "InvalidValue", "InvalidNumber", "InvalidOrder", "InvalidWhich", "InvalidText", "Unlike", "TooMany", "NothingToUndo"]
/-- what the module says of the exception classes -/
structure Xall (K : PySem.W.Frag) (mg : Str → Option Value) : Prop where
  cl : ∀ c, xn12.contains c = true -> ∃ C, Xcl K mg c C ∧ ExcC K C ∧ PySem.W.kitOne K (.ref C) (.type "ValueError") = some true
  bid : ∃ B, mg "BidError" = some (.ref B) ∧ ∀ c C, xn12.contains c = true -> mg c = some (.ref C) -> PySem.W.exmOne K (.ref C) (.ref B) = some true
  kit : ∀ c c' C C', xn12.contains c = true -> xn12.contains c' = true -> mg c = some (.ref C) -> mg c' = some (.ref C') -> PySem.W.kitOne K (.ref C) (.ref C') = some (decide (c' = c))
  ve : mg "ValueError" = none
def isxB (sc : Scope) (c : Str) : Expr -> Bool
  | .Call (.Name f _) [.Name v _, .Name x _] [] _ => decide (f = "isinstance") && decide (v = "caught") && decide (x = c) && glB sc "isinstance" && glB sc c && okN c
  | _ => false
section
variable {X : Cx} {N : List Str} {sc : Scope} {sb : Str -> Bool} {k : Nat}
/-- isinstance(caught, c), caught in slot 0 -/
def tIsx (K : PySem.W.Frag) (cv : Value) : TE := fun σ H Q => ∃ (a Dc : Addr) (b : Bool), σ[0]? = some (some (.ref a)) ∧ H a = some (ExC (.ref Dc) a) ∧ ExcC K Dc ∧ PySem.W.kitOne K (.ref Dc) cv = some b ∧ Q (.bl b) H
theorem p_isx {c : Str} {C : Addr} {pe : Expr} (g : Gd X N sc sb k) (hN : N[0]? = some ("caught" : Str)) (hv : visB sc "caught" = true) (m : isxB sc c pe = true) (hc : X.mg c = some (.ref C)) : PE X pe (tIsx X.K (.ref C)) := by
  unfold isxB at m
  split at m
  · simp only [Bool.and_eq_true, decide_eq_true_eq] at m
    obtain ⟨⟨⟨⟨⟨rfl, rfl⟩, rfl⟩, m4⟩, m5⟩, m6⟩ := m
    have hN' : X.N[0]? = some ("caught" : Str) := by rw [g.names]; exact hN
    refine PE.of (pe_callB call_isX (g.gl m4) (g.blt _ (by decide +kernel)) (by decide +kernel) (pa_cons (pe_var hN' (g.vis hv)) (pa_cons (pe_glob (v := .ref C) (g.gl m5) hc rfl (okN_d m6).1) pa_nil))) fun σ H Q ⟨a, Dc, b, h1, h2, h3, h4, q⟩ => ?_
    exact ⟨_, h1, a, Dc, _, .ref C, b, rfl, h2, h3, fun u hu => by cases hu; rfl, h4, q⟩
  · cases m
theorem p_isv {pe : Expr} (g : Gd X N sc sb k) (hN : N[0]? = some ("caught" : Str)) (hv : visB sc "caught" = true) (m : isxB sc "ValueError" pe = true) (hc : X.mg "ValueError" = none) : PE X pe (tIsx X.K (.type "ValueError")) := by
  unfold isxB at m
  split at m
  · simp only [Bool.and_eq_true, decide_eq_true_eq] at m
    obtain ⟨⟨⟨⟨⟨rfl, rfl⟩, rfl⟩, m4⟩, m5⟩, m6⟩ := m
    have hN' : X.N[0]? = some ("caught" : Str) := by rw [g.names]; exact hN
    refine PE.of (pe_callB call_isX (g.gl m4) (g.blt _ (by decide +kernel)) (by decide +kernel) (pa_cons (pe_var hN' (g.vis hv)) (pa_cons (pe_bltn (v := .ty "ValueError") (g.gl m5) hc (by decide +kernel) rfl (by decide) (by decide)) pa_nil))) fun σ H Q ⟨a, Dc, b, h1, h2, h3, h4, q⟩ => ?_
    exact ⟨_, h1, a, Dc, _, .type "ValueError", b, rfl, h2, h3, fun u hu => by cases hu; rfl, h4, q⟩
  · cases m
theorem isx_val {sc : Scope} {c : Str} {pe : Expr} (m : isxB sc c pe = true) : plainX pe = true ∧ valX pe = true := by
  cases pe <;> first | exact ⟨rfl, rfl⟩ | (simp [isxB] at m)
/-- where the def stands: caught is the exception of class Dc at a, found is a new list of these truths -/
structure Nm (K : PySem.W.Frag) (H0 : Hp) (a Dc : Addr) (l : List Bool) (σ : L2.St) (H : Hp) : Prop where
  len : σ.length = 2
  c : σ[0]? = some (some (.ref a))
  h : H a = some (ExC (.ref Dc) a)
  f : ∃ q, σ[1]? = some (some (.ref q)) ∧ H q = some (.lst (l.map V.bl)) ∧ H0 q = none
  s : Same H0 H
def listB (sc : Scope) (c1 c2 : Str) : Expr -> Bool
  | .List [e1, e2] _ => isxB sc c1 e1 && isxB sc c2 e2
  | _ => false
def fstB (sc : Scope) (c1 c2 : Str) : Stmt -> Bool
  | .Assign [.Name x _] pe _ => decide (x = "found") && listB sc c1 c2 pe
  | _ => false
def addB (sc : Scope) (c1 c2 : Str) : Stmt -> Bool
  | .Assign [.Name x _] (.BinOp (.Name y _) o pe _) _ => decide (x = "found") && decide (y = "found") && decide (o = .Add) && listB sc c1 c2 pe
  | _ => false
/-- two truths -/
def tTwo (K : PySem.W.Frag) (C1 C2 : Addr) : TE := fun σ H Q => ∃ (a Dc : Addr) (b1 b2 : Bool), σ[0]? = some (some (.ref a)) ∧ H a = some (ExC (.ref Dc) a) ∧ ExcC K Dc ∧ PySem.W.kitOne K (.ref Dc) (.ref C1) = some b1 ∧ PySem.W.kitOne K (.ref Dc) (.ref C2) = some b2 ∧ ∀ p, H p = none -> Q (.ref p) (upd H p (.lst [.bl b1, .bl b2]))
theorem p_two {c1 c2 : Str} {C1 C2 : Addr} {pe : Expr} (g : Gd X N sc sb k) (hN : N[0]? = some ("caught" : Str)) (hv : visB sc "caught" = true) (m : listB sc c1 c2 pe = true) (h1 : X.mg c1 = some (.ref C1)) (h2 : X.mg c2 = some (.ref C2)) : PE X pe (tTwo X.K C1 C2) := by
  unfold listB at m
  split at m
  · simp only [Bool.and_eq_true] at m
    refine PE.of (pe_lst (pa_cons (p_isx g hN hv m.1 h1) (pa_cons (p_isx g hN hv m.2 h2) pa_nil (star_plain (isx_val m.2).1 _ _)) (star_plain (isx_val m.1).1 _ _))) fun σ H Q ⟨a, Dc, b1, b2, a1, a2, a3, a4, a5, q⟩ => ?_
    exact ⟨a, Dc, b1, a1, a2, a3, a4, a, Dc, b2, a1, a2, a3, a5, by show 2 ≤ sizeLine; rw [sizeLine_eq]; omega, q⟩
  · cases m
theorem two_val {sc : Scope} {c1 c2 : Str} {pe : Expr} (m : listB sc c1 c2 pe = true) : plainX pe = true ∧ compX pe = false := by
  cases pe <;> first | exact ⟨rfl, rfl⟩ | (simp [listB] at m)
def tStep (K : PySem.W.Frag) (H0 : Hp) (a Dc : Addr) (l2 : List Bool) : TS := fun D σ H => ∃ l : List Bool, Nm K H0 a Dc l σ H ∧ l.length ≤ 20 ∧ ∀ σ' H', Nm K H0 a Dc (l ++ l2) σ' H' -> D.nx σ' H'
theorem p_add {c1 c2 : Str} {C1 C2 : Addr} {st : Stmt} {H0 : Hp} {a Dc : Addr} {b1 b2 : Bool} (g : Gd X N sc sb k) (hN : N = (["caught", "found"] : List Str)) (hv : visB sc "caught" = true) (hv2 : visB sc "found" = true) (hs : sb "found" = true) (m : addB sc c1 c2 st = true) (h1 : X.mg c1 = some (.ref C1)) (h2 : X.mg c2 = some (.ref C2))
    (ec : ExcC X.K Dc) (k1 : PySem.W.kitOne X.K (.ref Dc) (.ref C1) = some b1) (k2 : PySem.W.kitOne X.K (.ref Dc) (.ref C2) = some b2) : PS X st (tStep X.K H0 a Dc [b1, b2]) := by
  unfold addB at m
  split at m
  · simp only [Bool.and_eq_true, decide_eq_true_eq] at m
    obtain ⟨⟨⟨rfl, rfl⟩, rfl⟩, m4⟩ := m
    have hN0 : N[0]? = some ("caught" : Str) := by rw [hN]; rfl
    have hN1 : X.N[1]? = some ("found" : Str) := by rw [g.names, hN]; rfl
    refine PS.of (ps_set g.ndX hN1 (g.sto _ hs).1 (pe_op op_cat (pe_var hN1 (g.vis hv2)) (p_two g hN0 hv m4 h1 h2)) (sw_not rfl _ _ _) (g.sto _ hs).2) fun D σ H ⟨l, nm, hl, q⟩ => ?_
    obtain ⟨f, f1, f2, f3⟩ := nm.f
    refine ⟨_, f1, a, Dc, b1, b2, nm.c, nm.h, ec, k1, k2, fun p hp => ?_⟩
    have s1 := same_new (o := .lst [V.bl b1, V.bl b2]) hp
    refine ⟨f, p, _, _, rfl, rfl, s1 _ _ f2, upd_same, by rw [List.length_map, sizeLine_eq]; simp; omega, fun p2 hp2 => ?_⟩
    have s2 := same_new (o := .lst (l.map V.bl ++ [V.bl b1, V.bl b2])) hp2
    have sA := nm.s.trans (s1.trans s2)
    refine q _ _ ⟨by rw [List.length_set]; exact nm.len, ?_, (s1.trans s2) _ _ nm.h, ⟨p2, ?_, ?_, ?_⟩, sA⟩
    · rw [List.getElem?_set_ne (by omega)]; exact nm.c
    · rw [List.getElem?_set_self (by rw [nm.len]; omega)]
    · rw [upd_same, List.map_append]; rfl
    · cases z : H0 p2 with
      | none => rfl
      | some o =>
        have := (nm.s.trans s1) _ _ z
        rw [this] at hp2
        cases hp2
  · cases m
theorem p_fst {c1 c2 : Str} {C1 C2 : Addr} {st : Stmt} {H0 : Hp} {a Dc : Addr} {b1 b2 : Bool} (g : Gd X N sc sb k) (hN : N = (["caught", "found"] : List Str)) (hv : visB sc "caught" = true) (hs : sb "found" = true) (m : fstB sc c1 c2 st = true) (h1 : X.mg c1 = some (.ref C1)) (h2 : X.mg c2 = some (.ref C2))
    (ec : ExcC X.K Dc) (k1 : PySem.W.kitOne X.K (.ref Dc) (.ref C1) = some b1) (k2 : PySem.W.kitOne X.K (.ref Dc) (.ref C2) = some b2) : PS X st (fun D σ H => σ.length = 2 ∧ σ[0]? = some (some (.ref a)) ∧ H0 = H ∧ H a = some (ExC (.ref Dc) a) ∧ ∀ σ' H', Nm X.K H0 a Dc [b1, b2] σ' H' -> D.nx σ' H') := by
  unfold fstB at m
  split at m
  · simp only [Bool.and_eq_true, decide_eq_true_eq] at m
    obtain ⟨rfl, m4⟩ := m
    have hN0 : N[0]? = some ("caught" : Str) := by rw [hN]; rfl
    have hN1 : X.N[1]? = some ("found" : Str) := by rw [g.names, hN]; rfl
    refine PS.of (ps_set g.ndX hN1 (g.sto _ hs).1 (p_two g hN0 hv m4 h1 h2) (sw_not (two_val m4).2 _ _ _) (g.sto _ hs).2) fun D σ H ⟨hl, hc, e0, hh, q⟩ => ?_
    subst e0
    refine ⟨a, Dc, b1, b2, hc, hh, ec, k1, k2, fun p hp => ?_⟩
    have s1 := same_new (o := .lst [V.bl b1, V.bl b2]) hp
    refine q _ _ ⟨by rw [List.length_set]; exact hl, ?_, s1 _ _ hh, ⟨p, ?_, upd_same, hp⟩, s1⟩
    · rw [List.getElem?_set_ne (by omega)]; exact hc
    · rw [List.getElem?_set_self (by omega)]
  · cases m
end
end Sb

set_option Elab.async false
set_option linter.all false
set_option maxRecDepth 100000
set_option maxHeartbeats 4000000
/-! SbU: the promises of the law's defs that call, catch and name. -/
namespace Sb
open PySem PySem.Spec PyProof.Rows L2
def retE : E := .ite (.cmp .eq (.meth .lcount (.v 1) (.k (.bool true))) (.k (.int 1))) (.meth .lindex (.v 1) (.k (.bool true))) (.neg (.k (.int 1)))
def truths (c : Str) : List Bool := xn12.map fun x => decide (x = c)
theorem x12 {P : Str -> Prop} (h : P "InvalidRule" ∧ P "InvalidBids" ∧ P "InvalidBidder" ∧ P "InvalidRest" ∧ P "InvalidValue" ∧ P "InvalidNumber" ∧ P "InvalidOrder" ∧ P "InvalidWhich" ∧ P "InvalidText" ∧ P "Unlike" ∧ P "TooMany" ∧ P "NothingToUndo") {c : Str} (hc : xn12.contains c = true) : P c := by
  obtain ⟨h1, h2, h3, h4, h5, h6, h7, h8, h9, h10, h11, h12⟩ := h
  simp only [xn12, List.contains_cons, List.contains_nil, Bool.or_false, Bool.or_eq_true, beq_iff_eq] at hc
  rcases hc with e | e | e | e | e | e | e | e | e | e | e | e <;> rw [e] <;> assumption
theorem bool_shaped (b : Bool) : SeqAt.shaped (.bool b) = true := by cases b <;> rfl
theorem bools_shaped (l : List Bool) : SeqAt.shaped (.list (l.map PyData.bool)) = true := by
  have h1 : ∀ l : List Bool, PyData.canLayAll0 (l.map PyData.bool) = true := fun l => by
    induction l with
    | nil => rfl
    | cons b l ih =>
      simp only [List.map_cons, PyData.canLayAll0, Bool.and_eq_true]
      exact ⟨rfl, ih⟩
  have h2 : PyData.depthAll (l.map PyData.bool) ≤ 1 := dp_all fun x hx => by
    obtain ⟨b, _, rfl⟩ := List.mem_map.mp hx
    simp [PyData.depth]
  unfold SeqAt.shaped
  rw [show (PyData.list (l.map PyData.bool)).canLay0 = true from h1 l, decide_eq_true (by simp only [PyData.depth]; omega)]
  rfl
theorem ret_eval {c : Str} (hc : xn12.contains c = true) : run (.ret retE) [none, some (.d (.list ((truths c).map PyData.bool)))] = .ok (.rt (.int ((xn12.idxOf c : Nat) : Int)) [none, some (.d (.list ((truths c).map PyData.bool)))]) := by
  have d1 : depthOk (.list ((truths c).map PyData.bool)) (.bool true) = true := by
    unfold depthOk
    rw [bools_shaped, bool_shaped]
    rfl
  have e1 : ((truths c).map PyData.bool).countP (fun y => PyData.eqv y (.bool true)) = 1 := by
    refine x12 (P := fun c => ((truths c).map PyData.bool).countP (fun y => PyData.eqv y (.bool true)) = 1) ?_ hc
    refine ⟨?_, ?_, ?_, ?_, ?_, ?_, ?_, ?_, ?_, ?_, ?_, ?_⟩ <;> decide +kernel
  have e2 : indexOf (.bool true) ((truths c).map PyData.bool) = some (xn12.idxOf c) := by
    refine x12 (P := fun c => indexOf (.bool true) ((truths c).map PyData.bool) = some (xn12.idxOf c)) ?_ hc
    refine ⟨?_, ?_, ?_, ?_, ?_, ?_, ?_, ?_, ?_, ?_, ?_, ?_⟩ <;> decide +kernel
  have m1 : methD .lcount (.list ((truths c).map PyData.bool)) (.bool true) = .ok (.int 1) := by
    rw [lcount_e, d1, chk_true, e1]
    rfl
  have m2 : methD .lindex (.list ((truths c).map PyData.bool)) (.bool true) = .ok (.int ((xn12.idxOf c : Nat) : Int)) := by
    rw [lindex_e, d1, chk_true, e2]
    rfl
  simp -implicitDefEqProofs [retE, m1, m2, -lindex_e, -lcount_e]
def nameB (sc : Scope) : List Stmt -> Bool
  | [.If (.UnaryOp u e0 _) _ [] _, s1, s2, s3, s4, s5, s6, .Return (some pe) _] => decide (u = .Not) && isxB sc "ValueError" e0 && fstB sc "InvalidRule" "InvalidBids" s1 && addB sc "InvalidBidder" "InvalidRest" s2 && addB sc "InvalidValue" "InvalidNumber" s3 && addB sc "InvalidOrder" "InvalidWhich" s4 && addB sc "InvalidText" "Unlike" s5 && addB sc "TooMany" "NothingToUndo" s6 &&
      mE ["caught", "found"] sc retE pe && visB sc "caught" && visB sc "found" && sbOf sc "found"
  | _ => false
def spN (mg : Str → Option Value) : Sp := fun vs H Q _ => ∃ (a : Addr) (c : Str) (C : Addr), vs = [.ref a] ∧ xn12.contains c = true ∧ mg c = some (.ref C) ∧ H a = some (ExC (.ref C) a) ∧ ∀ H1, Same H H1 -> Q (.int ((xn12.idxOf c : Nat) : Int)) H1
section
variable {P : Program} {w : World} {K : PySem.W.Frag} {mg : Str → Option Value} {base : Heap}
theorem name_fn {x : Str} {st : Stmt} {f : Addr} {fd : FuncData} {k : Nat} (F : Fun K x x st f fd) (S : FnScope ["caught", "found"] ["caught"] (defScope st)) (ma : nameB (defScope st) (defBody st) = true) (xa : Xall K mg) (blt : ∀ x ∈ bltN, mg x = none) : FnOk P w K mg base CX0 (k + 1) f fd ["caught"] (spN mg) := by
  refine F.ok S (fun vs H Q E h => ?_) fun cdv A outer s H vs Q E hr h => ?_
  · obtain ⟨a, c, C, rfl, _⟩ := h
    rfl
  · obtain ⟨a, c, C, rfl, hc, hmc, ha, hq⟩ := h
    have gd := gd_start (P := P) (w := w) (K := K) (base := base) (outer := outer) (H := H) (E := E) S hr blt
    unfold nameB at ma
    split at ma
    · rename_i heq
      simp only [Bool.and_eq_true, decide_eq_true_eq] at ma
      obtain ⟨⟨⟨⟨⟨⟨⟨⟨⟨⟨⟨rfl, m0⟩, m1⟩, m2⟩, m3⟩, m4⟩, m5⟩, m6⟩, m7⟩, m8⟩, m9⟩, m10⟩ := ma
      rw [heq]
      obtain ⟨C', xc, ec', kv'⟩ := xa.cl c hc
      have eC : C' = C := by
        have := xc.g.symm.trans hmc
        cases this
        rfl
      rw [eC] at ec' kv'
      have all : ∀ d : Str, xn12.contains d = true -> ∃ D, mg d = some (.ref D) ∧ PySem.W.kitOne K (.ref C) (.ref D) = some (decide (d = c)) := fun d hd => by
        obtain ⟨D, xd, _⟩ := xa.cl d hd
        exact ⟨D, xd.g, xa.kit c d C D hc hd hmc xd.g⟩
      obtain ⟨C1, g1, k1⟩ := all "InvalidRule" (by decide +kernel)
      obtain ⟨C2, g2, k2⟩ := all "InvalidBids" (by decide +kernel)
      obtain ⟨C3, g3, k3⟩ := all "InvalidBidder" (by decide +kernel)
      obtain ⟨C4, g4, k4⟩ := all "InvalidRest" (by decide +kernel)
      obtain ⟨C5, g5, k5⟩ := all "InvalidValue" (by decide +kernel)
      obtain ⟨C6, g6, k6⟩ := all "InvalidNumber" (by decide +kernel)
      obtain ⟨C7, g7, k7⟩ := all "InvalidOrder" (by decide +kernel)
      obtain ⟨C8, g8, k8⟩ := all "InvalidWhich" (by decide +kernel)
      obtain ⟨C9, g9, k9⟩ := all "InvalidText" (by decide +kernel)
      obtain ⟨C10, g10, k10⟩ := all "Unlike" (by decide +kernel)
      obtain ⟨C11, g11, k11⟩ := all "TooMany" (by decide +kernel)
      obtain ⟨C12, g12, k12⟩ := all "NothingToUndo" (by decide +kernel)
      have hN : (["caught", "found"] : List Str) = (["caught", "found"] : List Str) := rfl
      have iv := isx_val m0
      refine ⟨_, pss_cons (ps_if (pt_not (pt_val (p_isv gd rfl m8 m0 xa.ve) (fun w => val_plain iv.2 _ w))) pss_never pss_nil)
        (pss_cons (p_fst (H0 := H) (a := a) gd hN m8 m10 m1 g1 g2 ec' k1 k2)
        (pss_cons (p_add (H0 := H) (a := a) gd hN m8 m9 m10 m2 g3 g4 ec' k3 k4)
        (pss_cons (p_add (H0 := H) (a := a) gd hN m8 m9 m10 m3 g5 g6 ec' k5 k6)
        (pss_cons (p_add (H0 := H) (a := a) gd hN m8 m9 m10 m4 g7 g8 ec' k7 k8)
        (pss_cons (p_add (H0 := H) (a := a) gd hN m8 m9 m10 m5 g9 g10 ec' k9 k10)
        (pss_cons (p_add (H0 := H) (a := a) gd hN m8 m9 m10 m6 g11 g12 ec' k11 k12)
        (pss_one (s_ret (ex_den retE _ gd m7 (fun z hz => by simp [retE, clE, clL] at hz)).1)))))))), ?_⟩
      refine ⟨a, C, true, rfl, ha, ec', kv', true, rfl, iteF ?_⟩
      refine ⟨rfl, rfl, rfl, ha, fun σ1 H1 n1 => ⟨_, n1, by simp, fun σ2 H2 n2 => ⟨_, n2, by simp, fun σ3 H3 n3 => ⟨_, n3, by simp, fun σ4 H4 n4 => ⟨_, n4, by simp, fun σ5 H5 n5 => ⟨_, n5, by simp, fun σ6 H6 n6 => ?_⟩⟩⟩⟩⟩⟩
      obtain ⟨q, f1, f2, f3⟩ := n6.f
      have lt : ([decide ("InvalidRule" = c), decide ("InvalidBids" = c)] ++ [decide ("InvalidBidder" = c), decide ("InvalidRest" = c)] ++ [decide ("InvalidValue" = c), decide ("InvalidNumber" = c)] ++ [decide ("InvalidOrder" = c), decide ("InvalidWhich" = c)] ++ [decide ("InvalidText" = c), decide ("Unlike" = c)] ++ [decide ("TooMany" = c), decide ("NothingToUndo" = c)] : List Bool) = truths c := rfl
      rw [lt] at f2
      have rel : Rel (fun _ => False) [none, some (.d (.list ((truths c).map PyData.bool)))] σ6 H6 := by
        have no : ∀ z, ¬ own [none, some (.d (.list ((truths c).map PyData.bool)))] σ6 z := fun z ⟨i, h1, _⟩ => by
          rcases i with _ | _ | i
          · exact h1 rfl
          · exact h1 rfl
          · exact h1 rfl
        refine ⟨by rw [n6.len]; rfl, fun i y e => ?_, fun i j z h1 => ?_, fun z hz => hz.elim⟩
        · rcases i with _ | _ | i
          · cases e
          · cases e
            refine ⟨_, f1, .lst (.inl f2) (fun z => z.elim id (no q)) ?_⟩
            have : ∀ l : List Bool, DnL (Bf (fun _ => False) [none, some (.d (.list ((truths c).map PyData.bool)))] σ6) H6 (l.map V.bl) (l.map PyData.bool) := fun l => by
              induction l with
              | nil => exact .nil
              | cons b l ih => exact .cons (.bl b) ih
            exact this _
          · cases e
        · exfalso
          rcases i with _ | _ | i
          · exact h1 rfl
          · exact h1 rfl
          · exact h1 rfl
      refine ⟨fun _ => False, fun _ => False, H, _, _, ⟨rel, Go.ofSame n6.s, fun i z h1 => ?_⟩, ret_eval hc, ?_⟩
      · exfalso
        rcases i with _ | _ | i
        · exact h1 rfl
        · exact h1 rfl
        · exact h1 rfl
      · intro v σ7 H7 sx _ dn
        cases dn
        exact hq H7 fun z o e => sx.go.keep z o id e
    · cases ma
end
end Sb

set_option Elab.async false
set_option linter.all false
set_option maxRecDepth 100000
set_option maxHeartbeats 4000000
/-! SbUa: the promise of _law_outcome. -/
namespace Sb
open PySem PySem.Spec PyProof.Rows L2
def outB (sc : Scope) : List Stmt -> Bool
  | [.Assign [.Name a1 _] (.Constant .none _ _) _, .Assign [.Name a2 _] (.Constant .none _ _) _,
     .Try [.Assign [.Name a3 _] (.Call (.Name f _) [.Name v1 _, .Name v2 _] [] _) _] [.ExceptHandler (some (.Name b _)) (some er) [.Assign [.Name a4 _] (.Name a5 _) _] _] [] [] _,
     .If (.Compare (.Name a6 _) [op] [.Constant .none _ _] _) [.Return (some (.Tuple [.Constant (.str s1) _ _, .Name a7 _] _ _)) _] [] _,
     .Return (some (.Tuple [.Constant (.str s2) _ _, .Call (.Name nf _) [.Name a8 _] [] _] _ _)) _] =>
      decide (a1 = "caught") && decide (a2 = "result") && decide (a3 = "result") && decide (f = "_law_call") && decide (v1 = "way") && decide (v2 = "arguments") && decide (b = "BidError") && decide (er = "error") && decide (a4 = "caught") && decide (a5 = "error") && decide (a6 = "caught") && decide (op = .Is) && decide (s1 = "returned") && decide (a7 = "result") && decide (s2 = "raised") && decide (nf = "_law_name") && decide (a8 = "caught") &&
      lcl sc "caught" && lcl sc "result" && lcl sc "error" && lcl sc "way" && lcl sc "arguments" && glB sc "_law_call" && glB sc "BidError" && glB sc "_law_name"
  | _ => false
abbrev nO : List Str := ["way", "arguments", "caught", "result", "error"]
def spO (mg : Str → Option Value) (sp : Sp) : Sp := fun vs H Q _ => vs.length = 2 ∧ sp vs H (fun v H1 => NT H1 [.str "returned", v] Q) (fun cls d H1 => d = none ∧ ∃ c C, cls = .ref C ∧ xn12.contains c = true ∧ mg c = some (.ref C) ∧ ∀ H2, Same H1 H2 -> NT H2 [.str "raised", .int ((xn12.idxOf c : Nat) : Int)] Q)
section
variable {P : Program} {w : World} {K : PySem.W.Frag} {mg : Str → Option Value} {base : Heap}
theorem out_fn {x : Str} {st : Stmt} {f : Addr} {fd : FuncData} {k : Nat} {sp : Sp} {fc fn : Addr} {fdc fdn : FuncData} {psc psn : List Str} (F : Fun K x x st f fd) (S : FnScope nO ["way", "arguments"] (defScope st)) (ma : outB (defScope st) (defBody st) = true) (xa : Xall K mg)
    (mono : ∀ vs H Q E Q2 E2, sp vs H Q E -> (∀ v H1, Q v H1 -> Q2 v H1) -> (∀ c d H1, E c d H1 -> E2 c d H1) -> sp vs H Q2 E2)
    (gc : mg "_law_call" = some (.ref fc)) (kc : PySem.W.keepIn K (.ref fc) = true) (bc : Binds K fdc psc []) (FC : FnOk P w K mg base (L2.CX P w) k fc fdc psc sp)
    (gn : mg "_law_name" = some (.ref fn)) (kn : PySem.W.keepIn K (.ref fn) = true) (bn : Binds K fdn psn []) (FN : FnOk P w K mg base CX0 k fn fdn psn (spN mg)) (blt : ∀ x ∈ bltN, mg x = none) : FnOk P w K mg base CX0 (k + 1) f fd ["way", "arguments"] (spO mg sp) := by
  refine F.ok S (fun vs H Q E h => h.1) fun cdv A outer s H vs Q E hr h => ?_
  obtain ⟨hl, hsp⟩ := h
  have gd := gd_start (P := P) (w := w) (K := K) (base := base) (outer := outer) (H := H) (E := E) S hr blt
  unfold outB at ma
  split at ma
  · rename_i heq
    simp only [lcl, Bool.and_eq_true, decide_eq_true_eq] at ma
    obtain ⟨⟨⟨⟨⟨⟨⟨⟨⟨⟨⟨⟨⟨⟨⟨⟨⟨⟨⟨⟨⟨⟨⟨⟨rfl, rfl⟩, rfl⟩, rfl⟩, rfl⟩, rfl⟩, rfl⟩, rfl⟩, rfl⟩, rfl⟩, rfl⟩, rfl⟩, rfl⟩, rfl⟩, rfl⟩, rfl⟩, rfl⟩, l1⟩, l2⟩, l3⟩, l4⟩, l5⟩, q1⟩, q2⟩, q3⟩ := ma
    rw [heq]
    obtain ⟨B, gB, eB⟩ := xa.bid
    obtain ⟨v1, v2, rfl⟩ : ∃ v1 v2, vs = [v1, v2] := by
      match vs, hl with
      | [a, b], _ => exact ⟨a, b, rfl⟩
    have nd := gd.ndX
    refine ⟨_, pss_cons (ps_set (i := 2) nd rfl (.inl l1) pe_non (sw_not rfl _ _ _) (.inr l1))
      (pss_cons (ps_set (i := 3) nd rfl (.inl l2) pe_non (sw_not rfl _ _ _) (.inr l2))
      (pss_cons (ps_try_keep (i := 4) (j := 2) (tb := fun W => tAsg (tCallS sp (WE W) (tCons (tVar 0) (tCons (tVar 1) tNil))) (gName 3)) rfl rfl rfl nd rfl rfl l3 l1 (gd.gl q2) (by decide) gB (by decide) (by decide)
          (fun W pn xe tk _ => pss_one (ps_set (i := 3) nd rfl (.inl l2) (pe_callS FC hr (gd.gl q1) gc kc bc (fun σ => passAt tk σ) (pa_cons (pe_var rfl (.inl l4)) (pa_cons (pe_var rfl (.inl l5)) pa_nil))) (sw_not rfl _ _ _) (.inr l2)))
          (fun a pn => sw_not rfl _ _ _))
      (pss_cons (ps_if (pt_cmpR op_isN (pe_var (i := 2) rfl (.inl l1)) pe_non rfl) (pss_one (ps_ret (pe_tupF (pa_cons pe_str (pa_cons (pe_var (i := 3) rfl (.inl l2)) pa_nil))))) pss_nil)
      (pss_one (ps_ret (pe_tupF (pa_cons pe_str (pa_cons (pe_call FN hr (gd.gl q3) gn kn bn .nil pass0 (pa_cons (pe_var (i := 2) rfl (.inl l1)) pa_nil)) pa_nil)))))))), ?_⟩
    refine ⟨v1, rfl, v2, rfl, mono _ _ _ _ _ _ hsp (fun v H1 hv => ?_) (fun cls d H1 hx => ?_)⟩
    · refine ⟨.non, rfl, rfl, true, rfl, iteT ?_⟩
      exact ⟨v, rfl, by show 2 ≤ sizeLine; rw [sizeLine_eq]; omega, hv⟩
    · obtain ⟨rfl, c, C, rfl, hc, hmc, hq⟩ := hx
      refine ⟨eB c C hc hmc, rfl, fun a ha => ?_⟩
      refine ⟨.ref a, rfl, rfl, false, rfl, iteF ?_⟩
      refine ⟨.ref a, rfl, a, c, C, rfl, hc, hmc, upd_same, fun H2 hs => ⟨by show 2 ≤ sizeLine; rw [sizeLine_eq]; omega, hq H2 ((same_new ha).trans hs)⟩⟩
  · cases ma
theorem fn_nox {k : Nat} {f : Addr} {fd : FuncData} {ps : List Str} {sp : Sp} {CX : CXT} (h : FnOk P w K mg base CX0 k f fd ps sp) : FnOk P w K mg base CX k f fd ps sp := ⟨h.len, fun A outer s H args us vs Q E hr he hb hv hs => codeAny_mono (h.run A outer s H args us vs Q E hr he hb hv hs) fun r s' q => by
  cases r with
  | error e => exact q.elim
  | ok fl => cases fl <;> exact q⟩
theorem fn_or {CX : CXT} {k : Nat} {f : Addr} {fd : FuncData} {ps : List Str} {sp sp2 : Sp} (h : FnOk P w K mg base CX k f fd ps sp) (h2 : FnOk P w K mg base CX k f fd ps sp2) : FnOk P w K mg base CX k f fd ps (fun vs H Q E => sp vs H Q E ∨ sp2 vs H Q E) :=
  ⟨fun vs H Q E q => q.elim (h.len vs H Q E) (h2.len vs H Q E), fun A outer s H args us vs Q E hr he hb hv hs => hs.elim (h.run A outer s H args us vs Q E hr he hb hv) (h2.run A outer s H args us vs Q E hr he hb hv)⟩
/-- what _law_outcome gives -/
def semO (sem : PF) : PF := fun ds => match sem ds with
  | .ok d => .ok (.tuple [.str "returned", d])
  | .exn c => chk (xn12.contains c) (.ok (.tuple [.str "raised", .int ((xn12.idxOf c : Nat) : Int)]))
  | .bad => .bad
/-- both promises of a def that may raise -/
def FokB (P : Program) (w : World) (K : PySem.W.Frag) (mg : Str → Option Value) (base : Heap) (k : Nat) (x : Str) (n : Nat) (sem : PF) : Prop :=
  ∃ (fa : Addr) (fd : FuncData) (ps : List Str), mg x = some (.ref fa) ∧ PySem.W.keepIn K (.ref fa) = true ∧ Binds K fd ps [] ∧ FnOk P w K mg base CX0 k fa fd ps (spP n sem) ∧ FnOk P w K mg base (L2.CX P w) k fa fd ps (spX mg n sem)
variable {h : Heap}
theorem fokB (X : K.In h) (G : h.Ns mainGlobals mg) {x : Str} {st : Stmt} {N ps : List Str} {k n m : Nat} {body : List Sb.S} {nm xn : List Str} (d : DefAt K x st) (hb : BindH x st ps) (S : C8.scC N ps (defScope st) = true) (hn : ps.length = n) (hN : N.length = m)
    (ma : mSs N (defScope st) (sbOf (defScope st)) body (defBody st) = true) (mx : fSs N (sbOf (defScope st)) nm xn (defScope st) body (defBody st) = true) (blt : ∀ x ∈ bltN, mg x = none) (xc : ∀ c, xn.contains c = true -> ∃ C, Xcl K mg c C) (cs : ∀ c ∈ clSs body, Fok P w K mg base k c) (cx : ∀ c ∈ clSs body, nm.contains c.name = true -> FokX P w K mg base k c) (cq : ∀ c ∈ clSs body, nm.contains c.name = false -> QCl c) : FokB P w K mg base (k + 1) x n (mkP n m body) := by
  obtain ⟨f, fd, a, F⟩ := d.ex
  obtain ⟨fx, fdx, psx, x1, x2, x3, x4⟩ := fok_x F (F.binds hb) (PySem.W.mg_of X G a) (scB S) hn hN ma mx cs cx cq xc blt
  exact ⟨f, fd, ps, PySem.W.mg_of X G a, F.kp, F.binds hb, fnok_p F (scB S) hn hN ma cs blt, fnok_x F (scB S) hn hN ma mx cs cx cq xc blt⟩
theorem FokB.p {k n : Nat} {x : Str} {sem : PF} (h : FokB P w K mg base k x n sem) : Fok P w K mg base k (.p x n sem) := by
  obtain ⟨fa, fd, ps, h1, h2, h3, h4, h5⟩ := h
  exact ⟨fa, fd, ps, h1, h2, h3, h4⟩
theorem FokB.x {k n : Nat} {x : Str} {sem : PF} (h : FokB P w K mg base k x n sem) : FokX P w K mg base k (.p x n sem) := by
  obtain ⟨fa, fd, ps, h1, h2, h3, h4, h5⟩ := h
  exact ⟨fa, fd, ps, h1, h2, h3, h5⟩
theorem fokO (X : K.In h) (G : h.Ns mainGlobals mg) {x : Str} {st stn : Stmt} {k : Nat} {sem : PF} (d : DefAt K x st) (hb : BindH x st ["way", "arguments"]) (S : C8.scC nO ["way", "arguments"] (defScope st) = true) (ma : outB (defScope st) (defBody st) = true) (dn : DefAt K "_law_name" stn) (hbn : BindH "_law_name" stn ["caught"]) (Sn : C8.scC ["caught", "found"] ["caught"] (defScope stn) = true) (man : nameB (defScope stn) (defBody stn) = true)
    (xa : Xall K mg) (blt : ∀ x ∈ bltN, mg x = none) (hk : 1 ≤ k) (FC : FokB P w K mg base k "_law_call" 2 sem) : Fok P w K mg base (k + 1) (.p x 2 (semO sem)) := by
  obtain ⟨f, fd, a, F⟩ := d.ex
  obtain ⟨fn, fdn, an, Fn⟩ := dn.ex
  obtain ⟨fa, fda, psa, c1, c2, c3, c4, c5⟩ := FC
  have FN : FnOk P w K mg base CX0 k fn fdn ["caught"] (spN mg) := (name_fn (k := 0) Fn (scB Sn) man xa blt).mono hk
  refine ⟨f, fd, _, PySem.W.mg_of X G a, F.kp, F.binds hb, (out_fn F (scB S) ma xa (fun vs H Q E Q2 E2 h hQ hE => ?_) c1 c2 c3 (fn_or (fn_nox c4) c5) (PySem.W.mg_of X G an) Fn.kp (Fn.binds hbn) FN blt).imp fun vs H Q E h => ?_⟩
  · rcases h with h | h
    · obtain ⟨h1, B, ds, d, ht, hd, hs, hq⟩ := h
      exact .inl ⟨h1, B, ds, d, ht, hd, hs, fun v H1 s1 dn => hQ v H1 (hq v H1 s1 dn)⟩
    · obtain ⟨h1, B, ds, c, C, ht, hd, hs, hmc, hq⟩ := h
      exact .inr ⟨h1, B, ds, c, C, ht, hd, hs, hmc, fun H1 z => hE _ _ _ (hq H1 z)⟩
  · obtain ⟨h1, B, ds, d, ht, hd, hs, hq⟩ := h
    refine ⟨h1, ?_⟩
    unfold semO at hs
    cases q : sem ds with
    | bad => rw [q] at hs; cases hs
    | ok d0 =>
      rw [q] at hs
      cases hs
      refine .inl ⟨h1, B, ds, d0, ht, hd, q, fun v H1 s1 dn => ?_⟩
      have rv : RV B H1 (.tuple [.str "returned", d0]) Q := fun v2 H2 s2 dn2 => hq v2 H2 (s1.trans s2) dn2
      exact rv.newT (fun z hz => (Go.ofSame (O := fun _ => False) s1).live z (ht z hz)) (.cons (.str _) (.cons dn .nil))
    | exn c =>
      rw [q] at hs
      obtain ⟨hc, hs⟩ := chk_inv hs
      cases hs
      obtain ⟨C, xcl, _⟩ := xa.cl c hc
      refine .inr ⟨h1, B, ds, c, C, ht, hd, q, xcl.g, fun H1 s1 => ⟨rfl, c, C, rfl, hc, xcl.g, fun H2 s2 => ?_⟩⟩
      have rv : RV B H2 (.tuple [.str "raised", .int ((xn12.idxOf c : Nat) : Int)]) Q := fun v2 H3 s3 dn2 => hq v2 H3 ((s1.trans s2).trans s3) dn2
      exact rv.newT (fun z hz => (Go.ofSame (O := fun _ => False) (s1.trans s2)).live z (ht z hz)) (.cons (.str _) (.cons (.int _) .nil))
end
end Sb

set_option Elab.async false
set_option linter.all false
set_option maxRecDepth 100000
set_option maxHeartbeats 4000000
/-! SbUb: the exception classes, by a look at the written part. -/
namespace Sb
open PySem PySem.Spec PyProof.Rows L2
def refAt (K : PySem.W.Frag) (c : Str) : Option Addr := match PySem.W.nsIn K mainGlobals c with
  | some (some (.ref C)) => some C
  | _ => none
def clsB (K : PySem.W.Frag) (C : Addr) : Bool :=
  PySem.W.excIn K C HandSPX.veTail "ValueError.__new__" && PySem.W.keepIn K (.ref C) && (PySem.W.subIn K (.ref C) (.type "BaseException") == some true) && (PySem.W.typeIn K (.ref C) == some (.type "type")) &&
  (PySem.W.findIn K (.ref C) "__getattribute__" == some (some (.builtin "BaseException.__getattribute__"))) && (PySem.W.findIn K (.ref C) "__getattr__" == some none) && PySem.W.hasDictIn K C && (PySem.W.findIn K (.ref C) "__class__" == some (some (.builtin "object.__class__"))) &&
  (PySem.W.specialIn K (.builtin "object.__class__") "__get__" == some (some (.builtin "getset_descriptor.__get__"))) && (PySem.W.takesIn K (.builtin "object.__class__") == some true) && (PySem.W.mroIn K C (.type "object") == some true) && (PySem.W.kitOne K (.ref C) (.type "ValueError") == some true)
def xallB (K : PySem.W.Frag) : Bool := xn12.all (fun c => match refAt K c with
    | some C => clsB K C && (match refAt K "BidError" with
      | some B => PySem.W.exmOne K (.ref C) (.ref B) == some true
      | none => false) && xn12.all (fun c' => match refAt K c' with
      | some C' => PySem.W.kitOne K (.ref C) (.ref C') == some (decide (c' = c))
      | none => false)
    | none => false) && (refAt K "BidError").isSome && (PySem.W.nsIn K mainGlobals "ValueError" == some none)
theorem refAt_ns {K : PySem.W.Frag} {c : Str} {C : Addr} (h : refAt K c = some C) : PySem.W.nsIn K mainGlobals c = some (some (.ref C)) := by
  unfold refAt at h
  split at h
  · rename_i e
    cases h
    exact e
  · cases h
theorem xall_of {K : PySem.W.Frag} {h : Heap} {mg : Str → Option Value} (X : K.In h) (G : h.Ns mainGlobals mg) (b : xallB K = true) : Xall K mg := by
  unfold xallB at b
  simp only [Bool.and_eq_true, beq_iff_eq] at b
  obtain ⟨⟨b1, b2⟩, b3⟩ := b
  have one : ∀ c, xn12.contains c = true -> ∃ C, refAt K c = some C ∧ clsB K C = true ∧ (∃ B, refAt K "BidError" = some B ∧ PySem.W.exmOne K (.ref C) (.ref B) = some true) ∧ ∀ c' C', xn12.contains c' = true -> refAt K c' = some C' -> PySem.W.kitOne K (.ref C) (.ref C') = some (decide (c' = c)) := fun c hc => by
    have hm : c ∈ xn12 := by simpa using hc
    have := List.all_eq_true.mp b1 c hm
    split at this
    · rename_i C e
      simp only [Bool.and_eq_true] at this
      obtain ⟨⟨t1, t2⟩, t3⟩ := this
      refine ⟨C, e, t1, ?_, fun c' C' hc' e' => ?_⟩
      · split at t2
        · rename_i B eB
          exact ⟨B, eB, beq_iff_eq.mp t2⟩
        · cases t2
      · have := List.all_eq_true.mp t3 c' (by simpa using hc')
        rw [e'] at this
        exact beq_iff_eq.mp this
    · cases this
  have at_ : ∀ {c : Str} {C : Addr}, refAt K c = some C -> mg c = some (.ref C) := fun e => PySem.W.mg_of X G (refAt_ns e)
  refine ⟨fun c hc => ?_, ?_, fun c c' C C' hc hc' g g' => ?_, PySem.W.mg_none_of X G b3⟩
  · obtain ⟨C, e, t, _⟩ := one c hc
    unfold clsB at t
    simp only [Bool.and_eq_true, beq_iff_eq] at t
    obtain ⟨⟨⟨⟨⟨⟨⟨⟨⟨⟨⟨t1, t2⟩, t3⟩, t4⟩, t5⟩, t6⟩, t7⟩, t8⟩, t9⟩, t10⟩, t11⟩, t12⟩ := t
    exact ⟨C, ⟨at_ e, t1, t2, t3, t4⟩, ⟨t5, t6, t3, t7, t8, t9, t10, t11⟩, t12⟩
  · obtain ⟨B, eB⟩ := Option.isSome_iff_exists.mp b2
    refine ⟨B, at_ eB, fun c C hc g => ?_⟩
    obtain ⟨C2, e, _, ⟨B2, eB2, t⟩, _⟩ := one c hc
    rw [eB] at eB2
    cases eB2
    have := (at_ e).symm.trans g
    cases this
    exact t
  · obtain ⟨C2, e, _, _, t⟩ := one c hc
    obtain ⟨C3, e3, _⟩ := one c' hc'
    have h1 := (at_ e).symm.trans g
    have h2 := (at_ e3).symm.trans g'
    cases h1
    cases h2
    exact t c' _ hc' e3
/-! ### the callees of a def that may raise -/
structure Cb (P : Program) (w : World) (K : PySem.W.Frag) (mg : Str → Option Value) (base : Heap) (k : Nat) (nm : List Str) (l : List Cl) : Prop where
  x : ∀ c ∈ l, nm.contains c.name = true -> FokX P w K mg base k c
  q : ∀ c ∈ l, nm.contains c.name = false -> QCl c
section
variable {P : Program} {w : World} {K : PySem.W.Frag} {mg : Str → Option Value} {base : Heap} {k : Nat} {nm : List Str}
theorem cb_nil : Cb P w K mg base k nm [] := ⟨fun c hc => by simp at hc, fun c hc => by simp at hc⟩
theorem cb_x {j : Nat} {c : Cl} {l : List Cl} (h : FokX P w K mg base j c) (hj : j ≤ k) (hn : nm.contains c.name = true) (t : Cb P w K mg base k nm l) : Cb P w K mg base k nm (c :: l) := ⟨fun z hz hc => by
  rcases List.mem_cons.mp hz with e | e
  · rw [e]; exact h.mono hj
  · exact t.x z e hc, fun z hz hc => by
  rcases List.mem_cons.mp hz with e | e
  · rw [e, hn] at hc; cases hc
  · exact t.q z e hc⟩
theorem cb_q {c : Cl} {l : List Cl} (h : QCl c) (hn : nm.contains c.name = false) (t : Cb P w K mg base k nm l) : Cb P w K mg base k nm (c :: l) := ⟨fun z hz hc => by
  rcases List.mem_cons.mp hz with e | e
  · rw [e, hn] at hc; cases hc
  · exact t.x z e hc, fun z hz hc => by
  rcases List.mem_cons.mp hz with e | e
  · rw [e]; exact h
  · exact t.q z e hc⟩
variable {h : Heap}
theorem fokXb (X : K.In h) (G : h.Ns mainGlobals mg) {x : Str} {st : Stmt} {N ps : List Str} {n m : Nat} {body : List Sb.S} (d : DefAt K x st) (hb : BindH x st ps) (S : C8.scC N ps (defScope st) = true) (hn : ps.length = n) (hN : N.length = m)
    (ma : mSs N (defScope st) (sbOf (defScope st)) body (defBody st) = true) (mx : fSs N (sbOf (defScope st)) nm xn12 (defScope st) body (defBody st) = true) (blt : ∀ x ∈ bltN, mg x = none) (xa : Xall K mg) (cs : ∀ c ∈ clSs body, Fok P w K mg base k c) (cb : Cb P w K mg base k nm (clSs body)) : FokX P w K mg base (k + 1) (.p x n (mkP n m body)) :=
  fokX X G d hb S hn hN ma mx blt (fun c hc => (xa.cl c hc).imp fun _ z => z.1) cs cb.x cb.q
theorem fokBb (X : K.In h) (G : h.Ns mainGlobals mg) {x : Str} {st : Stmt} {N ps : List Str} {n m : Nat} {body : List Sb.S} (d : DefAt K x st) (hb : BindH x st ps) (S : C8.scC N ps (defScope st) = true) (hn : ps.length = n) (hN : N.length = m)
    (ma : mSs N (defScope st) (sbOf (defScope st)) body (defBody st) = true) (mx : fSs N (sbOf (defScope st)) nm xn12 (defScope st) body (defBody st) = true) (blt : ∀ x ∈ bltN, mg x = none) (xa : Xall K mg) (cs : ∀ c ∈ clSs body, Fok P w K mg base k c) (cb : Cb P w K mg base k nm (clSs body)) : FokB P w K mg base (k + 1) x n (mkP n m body) :=
  fokB X G d hb S hn hN ma mx blt (fun c hc => (xa.cl c hc).imp fun _ z => z.1) cs cb.x cb.q
end
end Sb

set_option Elab.async false
set_option linter.all false
set_option maxRecDepth 100000
set_option maxHeartbeats 4000000
/-! SbNu: number_of, which asks the module's text DIGITS. -/
namespace Sb
open PySem PySem.Spec PyProof.Rows L2
def DIG : Str := "0123456789"
def occ (w : Str) : List Nat := Builtin.Str.occurrences DIG w 0 DIG.length 1
def numT (w : Str) : Int := if w.length = 1 then (match occ w with
  | i :: _ => (i : Int)
  | [] => -1) else -1
def numF : PF := fun ds => match ds with
  | [.str w] => chk (small w.length) (.ok (.int (numT w)))
  | _ => .bad
theorem nx_numF (ds : List D) : Nx (numF ds) := by
  unfold numF
  split
  · exact nx_chk (nx_ok _)
  · exact nx_bad
def digB (K : PySem.W.Frag) : Bool := match PySem.W.nsIn K mainGlobals "DIGITS" with
  | some (some (.str z _)) => decide (z = DIG)
  | _ => false
theorem dig_of {K : PySem.W.Frag} {h : Heap} {mg : Str → Option Value} (X : K.In h) (G : h.Ns mainGlobals mg) (b : digB K = true) : ∃ t, mg "DIGITS" = some (.str DIG t) := by
  unfold digB at b
  split at b
  · rename_i z t e
    have := of_decide_eq_true b
    subst this
    exact ⟨t, PySem.W.mg_of X G e⟩
  · cases b
def lenE : E := .cmp .eq (.prim .len [.v 0]) (.k (.int 1))
def numB (sc : Scope) : List Stmt -> Bool
  | [.Return (some (.IfExp (.BoolOp op [c1, .Compare (.Name y _) [o] [.Name dn _] _] _) (.Call (.Attribute (.Name d2 _) n ap) [.Name y2 _] [] cp) e3 _)) _] =>
    decide (op = .And) && mE ["word"] sc lenE c1 && decide (y = "word") && decide (o = .In) && decide (dn = "DIGITS") && decide (d2 = "DIGITS") && decide (n = "index") && decide (y2 = "word") && (ap.endLine == cp.line) && mE ["word"] sc (.neg (.k (.int 1))) e3 && visB sc "word" && glB sc "DIGITS"
  | _ => false
section
variable {X : Cx}
theorem op_inS : OpR X (compareOp .In) (fun x y H Q => ∃ a b, x = .str b ∧ y = .str a ∧ Q (.bl !(Builtin.Str.occurrences a b 0 a.length 1).isEmpty) H) := fun pins s σ H x y v u Q I r1 r2 h => by
  obtain ⟨a, b, rfl, rfl, q⟩ := h
  obtain ⟨t1, e1⟩ := (show ∃ t, v = Value.str b t from r1)
  obtain ⟨t2, e2⟩ := (show ∃ t, u = Value.str a t from r2)
  subst e1
  subst e2
  exact in_str ⟨.bl _, H, I, rfl, q⟩
end
section
variable {P : Program} {w : World} {K : PySem.W.Frag} {mg : Str → Option Value} {base : Heap}
theorem num_fn {x : Str} {st : Stmt} {f : Addr} {fd : FuncData} {k : Nat} (F : Fun K x x st f fd) (S : FnScope ["word"] ["word"] (defScope st)) (ma : numB (defScope st) (defBody st) = true) (dg : ∃ t, mg "DIGITS" = some (.str DIG t)) (blt : ∀ x ∈ bltN, mg x = none) : FnOk P w K mg base CX0 (k + 1) f fd ["word"] (spP 1 numF) := by
  refine F.ok S (fun vs H Q E h => h.1) fun cdv A outer s H vs Q E hr h => ?_
  obtain ⟨hl, B, ds, d, ht, hd, hs, hq⟩ := h
  have gd := gd_start (P := P) (w := w) (K := K) (base := base) (outer := outer) (H := H) (E := E) S hr blt
  unfold numB at ma
  split at ma
  · rename_i heq
    simp only [Bool.and_eq_true, decide_eq_true_eq] at ma
    obtain ⟨⟨⟨⟨⟨⟨⟨⟨⟨⟨⟨rfl, m1⟩, rfl⟩, rfl⟩, rfl⟩, rfl⟩, rfl⟩, rfl⟩, m2⟩, m3⟩, m4⟩, m5⟩ := ma
    rw [heq]
    obtain ⟨tg, hg⟩ := dg
    have vW := fun (p : Pos) => pe_var (pos := p) (X := (cxOf CX0 P w K mg base ["word"] x (defScope st) f cdv A outer s H E).nox) (i := 0) (x := "word") rfl (gd.vis m4)
    have vD := fun (p : Pos) => pe_glob (pos := p) (X := (cxOf CX0 P w K mg base ["word"] x (defScope st) f cdv A outer s H E).nox) (v := .str DIG) (gd.gl m5) hg ⟨tg, rfl⟩
    refine ⟨_, pss_one (ps_ret (pe_ifExp (PW.pt (pw_and (ex_den lenE _ gd m1 (fun z hz => by simp [lenE, clE, clL] at hz)).2 (pw_and1 (pt_cmpR op_inS (vW _) (vD _) rfl)))) (pe_m1 PySem.F.slot_str_index PySem.F.type_str_index mt_sindex (vD _) (vW _) rfl rfl m2) (ex_den (.neg (.k (.int 1))) _ gd m3 (fun z hz => by simp [clE] at hz)).1)), ?_⟩
    obtain ⟨z, hz, rfl, rfl⟩ : ∃ z, small z.length = true ∧ ds = [.str z] ∧ d = .int (numT z) := by
      unfold numF at hs
      split at hs
      · rename_i z
        obtain ⟨a, b⟩ := chk_inv hs
        cases b
        exact ⟨z, a, rfl, rfl⟩
      · cases hs
    have rel := rel_start (N := ["word"]) ht hd hl rfl (Nat.le_refl 1)
    have ev : vs = [.str z] := by
      cases hd with
      | cons a b => cases b; cases a; rfl
    subst ev
    have dl : den lenE (entry [PyData.str z] 0) = .ok (.bool (decide ((z.length : Int) = 1)), entry [PyData.str z] 0) := by
      have pl : primD .len [.str z] = .ok (.int (z.length : Int)) := by
        show chk (small z.length) _ = _
        rw [hz]
        rfl
      simp -implicitDefEqProofs [lenE, entry, pl]
    have dm : den (.neg (.k (.int 1))) (entry [PyData.str z] 0) = .ok (.int (-1), entry [PyData.str z] 0) := rfl
    have same : ∀ {r : En} {H1 : Hp}, Ex B (entry [PyData.str z] 0) r (L2.start ["word"] [V.str z]) H H1 -> Same H H1 := fun ex a o e => ex.go.keep a o (fun ⟨i, h, _⟩ => absurd (entry_kd _ _ _) h) e
    have last : numT z = -1 -> ∀ {H1 : Hp}, Ex B (entry [PyData.str z] 0) (entry [PyData.str z] 0) (L2.start ["word"] [V.str z]) H H1 -> tE (.neg (.k (.int 1))) (L2.start ["word"] [V.str z]) H1 Q := fun hn H1 ex =>
      ⟨B, _, _, _, ex.rel, dm, fun v H2 ex2 dn => hq v H2 (same (ex.trans ex2)) (by rw [hn]; exact dn.mono (fun a z => .inl (.inl z)) fun _ _ _ e => e)⟩
    refine ⟨B, _, _, _, rel, dl, fun H1 ex => ?_⟩
    by_cases h1 : z.length = 1
    · rw [decide_eq_true (by omega)]
      refine iteT ⟨.str z, rfl, DIG, z, rfl, rfl, _, rfl, ?_⟩
      cases q : occ z with
      | nil =>
        have q' : Builtin.Str.occurrences DIG z 0 DIG.length 1 = [] := q
        rw [q']
        refine iteF (last ?_ ex)
        unfold numT
        rw [if_pos h1, q]
      | cons i rest =>
        have q' : Builtin.Str.occurrences DIG z 0 DIG.length 1 = i :: rest := q
        rw [q']
        refine iteT ⟨⟨DIG, rfl⟩, .str z, rfl, DIG, z, i, rest, rfl, rfl, q', ?_⟩
        refine hq _ _ (same ex) ?_
        have : numT z = (i : Int) := by unfold numT; rw [if_pos h1, q]
        rw [this]
        exact .int _
    · rw [decide_eq_false (by omega)]
      refine iteF (iteF (last ?_ ex))
      unfold numT
      rw [if_neg h1]
  · cases ma
theorem fokNu {h : Heap} (X : K.In h) (G : h.Ns mainGlobals mg) {x : Str} {st : Stmt} {k : Nat} (d : DefAt K x st) (hb : BindH x st ["word"]) (S : C8.scC ["word"] ["word"] (defScope st) = true) (ma : numB (defScope st) (defBody st) = true) (blt : ∀ x ∈ bltN, mg x = none) (dg : digB K = true) : Fok P w K mg base (k + 1) (.p x 1 numF) := by
  obtain ⟨f, fd, a, F⟩ := d.ex
  exact ⟨f, fd, ["word"], PySem.W.mg_of X G a, F.kp, F.binds hb, num_fn F (scB S) ma (dig_of X G dg) blt⟩
end
end Sb

set_option Elab.async false
set_option linter.all false
set_option maxRecDepth 100000
set_option maxHeartbeats 4000000
/-! SbRp: text.replace(..) behind a stored text (a token is out then). -/
namespace Sb
open PySem PySem.Spec PyProof.Rows L2 CwR
section
variable {X : Cx} {pos : Pos}
theorem PETw {e : Expr} {t t' : TE} (h : PET X e t) (w : ∀ σ H Q, t' σ H Q -> t σ H Q) : PET X e t' := fun pins s σ H Q h0 I q => h pins s σ H Q h0 I (w _ _ _ q)
theorem PATw {e : List Expr} {t t' : TA} (h : PAT X e t) (w : ∀ σ H Q, t' σ H Q -> t σ H Q) : PAT X e t' := fun pos pins s σ H Q h0 I q => h pos pins s σ H Q h0 I (w _ _ _ q)
theorem PSTw {e : Stmt} {t t' : TS} (h : PST X e t) (w : ∀ D σ H, t' D σ H -> t D σ H) : PST X e t' := fun pins s σ H D h0 I q => h pins s σ H D h0 I (w _ _ _ q)
theorem PSsTw {e : List Stmt} {t t' : TS} (h : PSsT X e t) (w : ∀ D σ H, t' D σ H -> t D σ H) : PSsT X e t' := fun pins s σ H D h0 I q => h pins s σ H D h0 I (w _ _ _ q)
variable {pa pb : Expr} {a b : E} {es : List Expr} {l : List E}
theorem kt_repl {y z : Str} {j k : Nat} {c0 c1 ap : Pos} (ha : PE X pa (tE a)) (h0 : noCall0 pa = true) (hyz : (y == z) = false) (hl : (ap.endLine == pos.line) = true) :
    PET X (.Call (.Attribute pa "replace" ap) [.Constant (.str y) j c0, .Constant (.str z) k c1] [] pos) (tE (.op (.repl y z) [a])) :=
  PETw (pet_replC ha hyz rfl (base_plain h0 _ _ _) hl) fun σ H Q ⟨B0, r, d, r1, rel, hden, q⟩ => by
    obtain ⟨p3, h3, hden⟩ := bnd_inv hden
    obtain ⟨x, h2, hden⟩ := bnd_inv hden
    cases hden
    obtain ⟨p4, h4, h3⟩ := bnd_inv h3
    cases h3
    obtain ⟨d0, r1⟩ := p4
    refine ⟨B0, r, d0, r1, rel, h4, fun v H1 ex dn => ?_⟩
    cases d0 with
    | str w =>
      obtain ⟨e3, h2⟩ := chk_inv h2
      cases h2
      cases dn
      simp only [Bool.and_eq_true, decide_eq_true_eq] at e3
      exact ⟨w, rfl, e3.1, q _ H1 ex (.str _)⟩
    | _ => cases h2
theorem kt_nil : PAT X [] (tA []) := PATw pat_nil fun σ H Q ⟨B0, r, d, r1, rel, hden, q⟩ => by
  cases hden
  exact q _ _ (Ex.refl rel) .nil
theorem kt_cons (ha : PET X pa (tE a)) (hr : PAT X es (tA l)) (hs : starEach (pa :: es) X.env = (false, eval pa X.env) :: starEach es X.env) : PAT X (pa :: es) (tA (a :: l)) :=
  PATw (pat_cons ha hr hs) fun σ H Q ⟨B0, r, d, r1, rel, hden, q⟩ => by
    obtain ⟨p1, h1, hden⟩ := bnd_inv hden
    obtain ⟨p2, h2, hden⟩ := bnd_inv hden
    cases hden
    exact ⟨B0, r, p1.1, p1.2, rel, h1, fun v H1 ex dn => ⟨B0, p1.2, p2.1, p2.2, ex.rel, h2, fun vs H2 ex2 dn2 => q _ _ (ex.trans ex2) (.cons (ex2.dn dn) dn2)⟩⟩
theorem kt_lst (h : PAT X es (tA l)) : PET X (.List es pos) (tE (.lst l)) :=
  PETw (pet_lst h) fun σ H Q ⟨B0, r, d, r1, rel, hden, q⟩ => by
    obtain ⟨p1, h1, hden⟩ := bnd_inv hden
    obtain ⟨hs, hden⟩ := chk_inv hden
    cases hden
    refine ⟨B0, r, p1.1, p1.2, rel, h1, fun vs H1 ex dn => ⟨by rw [dn.length]; exact small_ok hs, ?_⟩⟩
    have rv : RV (Bf B0 p1.2 σ) H1 (.list p1.1) Q := fun v H2 hs dn2 => q v H2 (ex.trans (Ex.ofSame ex.rel hs)) dn2
    exact rv.newL ex.rel.trkB dn
theorem kt_bin {op : Bop} (ha : PET X pa (tE a)) (hb : PET X pb (tE b)) : PET X (.BinOp pa (toOp op) pb pos) (tE (.bin op a b)) :=
  PETw (pet_op (bin_ok op) ha hb) fun σ H Q ⟨B0, r, d, r1, rel, hden, q⟩ => by
    obtain ⟨p1, h1, hden⟩ := bnd_inv hden
    obtain ⟨p2, h2, hden⟩ := bnd_inv hden
    obtain ⟨x, h3, hden⟩ := bnd_inv hden
    cases hden
    exact op_of rel h1 h2 h3 q
theorem st_set {i : Nat} {x : Str} {e : E} {p2 : Pos} (hN : X.N.Nodup) (hi : X.N[i]? = some x) (hx : Loc X.env.scope x) (he : PET X pa (tE e)) (hs : swapsWith pa (some (.Name x p2)) pos.line X.env = pure false) (hf : X.fn x = true ∨ X.env.scope.names.lookup x = some .local) :
    PST X (.Assign [.Name x p2] pa pos) (tS (.set i (.e e))) := by
  have hg : PET X pa (tGv (.e e)) := PETw he fun σ H Q ⟨B0, r, x, r1, rel, hd, q⟩ => by
    obtain ⟨p, h1, hd⟩ := bnd_inv hd
    cases hd
    exact ⟨B0, r, p.1, p.2, rel, h1, fun v H1 ex dn => q v H1 ⟨ex, dn⟩⟩
  intro pins s σ H D h0 I h
  refine wpAny_Assign_Name (L2.thn (hg pins s σ H _ h0 I (setr_of h)) fun v s1 ⟨y, H1, I1, r1, q1⟩ => ?_) hs
  exact store_ok I1 hN hi hx r1 (fun s2 I2 => ⟨_, H1, I2, q1⟩) hf
theorem st_cons {s : S} {sl : List S} {st : Stmt} {sts : List Stmt} (h1 : PST X st (tS s)) (h2 : PSsT X sts (tSs sl)) : PSsT X (st :: sts) (tSs (s :: sl)) := PSsTw (psst_cons h1 h2) fun D σ H ⟨B0, I0, H0, r, res, sx, hr, q⟩ => by
  obtain ⟨x, e1, hr⟩ := bnd_inv (show (run s r).bnd _ = _ from hr)
  refine ⟨B0, I0, H0, r, x, sx, e1, ?_⟩
  cases x with
  | nx r2 => exact fun σ1 H1 sx2 c => ⟨B0, I0, H0, r2, res, sx2, hr, q.from c⟩
  | rt d r2 =>
    cases hr
    exact fun v σ1 H1 sx2 c dn => q v σ1 H1 sx2 c dn
end
/-- a part: plain, or a replaced text -/
def mR (N : List Str) (sc : Scope) (e : E) (pe : Expr) : Bool := match e with
  | .op (.repl y z) [a] => match pe with
    | .Call (.Attribute o n ap) [.Constant (.str y2) _ _, .Constant (.str z2) _ _] [] cp => decide (n = "replace") && decide (y2 = y) && decide (z2 = z) && !(y == z) && (ap.endLine == cp.line) && noCall0 o && mE N sc a o
    | _ => false
  | e => mE N sc e pe
def mRs (N : List Str) (sc : Scope) : List E -> List Expr -> Bool
  | [], [] => true
  | e :: l, pe :: ps => mR N sc e pe && mRs N sc l ps
  | _, _ => false
/-- x = a + [parts] -/
def mQ (N : List Str) (sc : Scope) (sb : Str -> Bool) (s : S) (st : Stmt) : Bool := match s with
  | .set i (.e (.bin .add a (.lst l))) => match st with
    | .Assign [.Name x _] (.BinOp pa .Add (.List es _) _) _ => slB N i x && sb x && mE N sc a pa && mRs N sc l es
    | _ => false
  | _ => false
def mTl (N : List Str) (sc : Scope) (sb : Str -> Bool) : List S -> List Stmt -> Bool
  | [], [] => true
  | s :: l, st :: sts => (mS N sc sb s st || mQ N sc sb s st) && mTl N sc sb l sts
  | _, _ => false
/-- the body, up to its first stored text as it is, then as behind a token -/
def mTop (N : List Str) (sc : Scope) (sb : Str -> Bool) : List S -> List Stmt -> Bool
  | [], _ => false
  | s :: l, es => match s with
    | .fz _ => mTop N sc sb l es
    | .drop _ => mTop N sc sb l es
    | .set i (.e (.k (.str c))) => match es with
      | .Assign [.Name x _] (.Constant (.str c2) _ _) _ :: r => slB N i x && sb x && decide (c2 = c) && mTl N sc sb l r
      | _ => false
    | s => match es with
      | st :: r => mS N sc sb s st && mTop N sc sb l r
      | [] => false
section
variable {N : List Str} {X : Cx} {sc : Scope} {sb : Str -> Bool} {k : Nat} (gd : Gd X N sc sb k)
include gd
theorem q_el {e : E} {pe : Expr} (m : mR N sc e pe = true) (c : Cs X k (clE e)) : PET X pe (tE e) ∧ plainX pe = true := by
  unfold mR at m
  split at m
  · split at m
    · simp only [Bool.and_eq_true, decide_eq_true_eq, Bool.not_eq_true'] at m
      obtain ⟨⟨⟨⟨⟨⟨rfl, rfl⟩, rfl⟩, m1⟩, m2⟩, m3⟩, m4⟩ := m
      unfold clE clL at c
      exact ⟨kt_repl (ex_den _ _ gd m4 c.l).1 m3 m1 m2, rfl⟩
    · cases m
  · exact ⟨PET.of (ex_den e _ gd m c).1, mE_plain m⟩
theorem q_els : ∀ (l : List E) (ps : List Expr), mRs N sc l ps = true -> Cs X k (clL l) -> PAT X ps (tA l)
  | [], [], _, _ => kt_nil
  | [], _ :: _, m, _ => by cases m
  | _ :: _, [], m, _ => by cases m
  | e :: l, pe :: ps, m, c => by
    unfold mRs at m
    simp only [Bool.and_eq_true] at m
    unfold clL at c
    have h := q_el gd m.1 c.l
    exact kt_cons h.1 (q_els l ps m.2 c.r) (star_plain h.2 _ _)
theorem q_st {s : S} {st : Stmt} (m : mQ N sc sb s st = true) (c : Cs X k (clS s)) : PST X st (tS s) := by
  unfold mQ at m
  split at m
  · split at m
    · simp only [Bool.and_eq_true] at m
      obtain ⟨⟨⟨m1, m2⟩, m3⟩, m4⟩ := m
      unfold clS clG clE at c
      exact st_set gd.ndX (gd.sl m1) (gd.sto _ m2).1 (kt_bin (op := .add) (PET.of (ex_den _ _ gd m3 c.l).1) (kt_lst (q_els gd _ _ m4 (by have := c.r; unfold clE at this; exact this)))) (sw_not rfl _ _ _) (gd.sto _ m2).2
    · cases m
  · cases m
theorem t_den : ∀ (l : List S) (sts : List Stmt), mTl N sc sb l sts = true -> Cs X k (clSs l) -> PSsT X sts (tSs l)
  | [], [], _, _ => PSsT.of s_nil
  | [], _ :: _, m, _ => by cases m
  | _ :: _, [], m, _ => by cases m
  | s :: l, st :: sts, m, c => by
    unfold mTl at m
    simp only [Bool.and_eq_true, Bool.or_eq_true] at m
    unfold clSs at c
    refine st_cons ?_ (t_den l sts m.2 c.r)
    rcases m.1 with z | z
    · exact PST.of (st_den gd s st z c.l)
    · exact q_st gd z c.l
theorem top_den : ∀ (l : List S) (es : List Stmt), mTop N sc sb l es = true -> Cs X k (clSs l) -> PSs X es (tSs l)
  | [], es, m, c => by cases m
  | s :: l, es, m, c => by
    unfold clSs at c
    unfold mTop at m
    split at m
    · exact s_fz (top_den l _ m c.r)
    · exact s_drop (top_den l _ m c.r)
    · split at m
      · simp only [Bool.and_eq_true, decide_eq_true_eq] at m
        obtain ⟨⟨⟨m1, m2⟩, rfl⟩, m4⟩ := m
        refine PSs.of (pss_str gd.ndX (gd.sl m1) (gd.sto _ m2).1 (t_den gd l _ m4 c.r) (sw_not rfl _ _ _) (gd.sto _ m2).2) fun D σ H h => ?_
        obtain ⟨B0, I0, H0, r, res, sx, hr, q⟩ := h
        obtain ⟨x, e1, hr⟩ := bnd_inv (show (run _ r).bnd _ = _ from hr)
        have h2 := setr_of (D := { D with nx := tSs l D }) (σ := σ) (H := H) ⟨B0, I0, H0, r, x, sx, e1, by
          cases x with
          | nx r2 => exact fun σ1 H1 sx2 c => ⟨B0, I0, H0, r2, res, sx2, hr, q.from c⟩
          | rt d r2 =>
            cases hr
            exact fun v σ1 H1 sx2 c dn => q v σ1 H1 sx2 c dn⟩
        obtain ⟨B1, r1, y, r3, rel, hd, q2⟩ := h2
        cases hd
        exact q2 _ _ ⟨Ex.refl rel, .str _⟩
      · cases m
    · split at m
      · simp only [Bool.and_eq_true] at m
        exact s_cons (st_den gd s _ m.1 c.l) (top_den l _ m.2 c.r)
      · cases m
end
section
variable {P : Program} {w : World} {K : PySem.W.Frag} {mg : Str → Option Value} {base : Heap} {h : Heap}
theorem fnok_t {x : Str} {st : Stmt} {f : Addr} {fd : FuncData} {N ps : List Str} {k n m : Nat} {body : List Sb.S} (F : Fun K x x st f fd) (S : FnScope N ps (defScope st)) (hn : ps.length = n) (hN : N.length = m)
    (ma : mTop N (defScope st) (sbOf (defScope st)) body (defBody st) = true) (cs : ∀ c ∈ clSs body, Fok P w K mg base k c) (blt : ∀ x ∈ bltN, mg x = none) : FnOk P w K mg base CX0 (k + 1) f fd ps (spP n (mkP n m body)) := by
  refine F.ok S (fun vs H Q E h => ?_) fun cdv A outer s H vs Q E hr h => ?_
  · rw [hn]; exact h.1
  · obtain ⟨hl, B, ds, d, ht, hd, hs, hq⟩ := h
    have gd := gd_start (P := P) (w := w) (K := K) (base := base) (outer := outer) (H := H) (E := E) S hr blt
    refine ⟨_, top_den gd body _ ma cs, ?_⟩
    have hle : n ≤ m := by
      have := congrArg List.length S.pre
      rw [List.length_take] at this
      omega
    obtain ⟨hc, hs⟩ := chk_inv hs
    obtain ⟨res, h1, h2⟩ := bnd_inv hs
    have rel := rel_start (N := N) ht hd hl hN hle
    refine ⟨B, fun _ => False, H, _, res, ⟨rel, Go.refl _ _, fun i a h => absurd (entry_kd _ _ _) h⟩, h1, ?_⟩
    have same : ∀ {H1 : Hp}, Go (fun _ => False) H H1 -> Same H H1 := fun g a o e => g.keep a o id e
    cases res with
    | nx r =>
      cases h2
      exact fun σ1 H1 sx _ => hq _ _ (same sx.go) .non
    | rt d' r =>
      cases h2
      exact fun v σ1 H1 sx _ dn => hq _ _ (same sx.go) (dn.mono (fun a z => .inl (.inl z)) fun _ _ _ e => e)
theorem law_atT (X : K.In h) (G : h.Ns mainGlobals mg) {fa : Addr} (hfa : mg "law" = some (.ref fa)) {st : Stmt} {N : List Str} {k m : Nat} {body : List Sb.S} (d : DefAt K "law" st)
    (hb : ∀ (kV doc pm : Value) (an : Option Addr) (cdv ct : Value) (s : Shared) (v : Value), BindsTo s (PySem.W.fnOf "law" "law" (defArgs st) (defBody st) (defScope st) .none kV doc pm an cdv ct) ⟨[v], []⟩ [("script", v)])
    (S : C8.scC N ["script"] (defScope st) = true) (hN : N.length = m) (ma : mTop N (defScope st) (sbOf (defScope st)) body (defBody st) = true) (blt : ∀ x ∈ bltN, mg x = none)
    (cs : ∀ base : Heap, ∀ c ∈ clSs body, Fok P w K mg base k c) :
    ∃ fd : FuncData, (∀ (s : Shared) (v : Value), BindsTo s fd ⟨[v], []⟩ [("script", v)]) ∧ ∀ base : Heap, K.In base → base.Ns mainGlobals mg → FnOk P w K mg base CX0 (k + 1) fa fd ["script"] (spP 1 (mkP 1 m body)) := by
  obtain ⟨f, fd, a, F⟩ := d.ex
  have e := hfa.symm.trans (PySem.W.mg_of X G a)
  cases e
  have F2 := F
  obtain ⟨oc, od, kV, doc, pm, an, cdv, ct, osl, rfl, lk, hcd⟩ := F2.ex
  refine ⟨_, hb kV doc pm an cdv ct, fun base _ _ => ?_⟩
  exact fnok_t F (scB S) rfl hN ma (cs base) blt
end
end Sb

set_option Elab.async false
set_option linter.all false
set_option maxRecDepth 100000
set_option maxHeartbeats 4000000
/-! Pg: the defs of the program and of the laws, in the own language (printed by mkpg.py). -/
namespace Pg
open PySem PySem.Spec PyProof.Rows L2 Sb
def N_is_between : List Str := ["value", "low", "high"]
def b_is_between : List S := [
  .ret (.band (.isi .int (.v 0)) (.band (.bnot (.isi .bool (.v 0))) (.chain .le .le (.v 1) (.v 0) (.v 2))))]
def f_is_between : PF := mkP 3 3 b_is_between
def N_all_bids : List Str := ["bidders", "top", "found", "bidder", "row", "bid"]
def b_all_bids : List S := [
  .set 2 (.e (.lst [.tup []])),
  .loop (.v 3) (.rng (.v 0)) [
    .set 2 (.e (.lc2 [("row", 4), ("bid", 5)] [5] (.v 4) (.seq (.v 2)) (.v 5) (.rng (.bin .add (.v 1) (.k (.int 1)))) (.bin .add (.v 4) (.tup [.v 5])))),
    .drop 3],
  .ret (.v 2)]
def f_all_bids : PF := mkP 2 6 b_all_bids
def N_are_bids : List Str := ["bidders", "top", "value", "bid"]
def b_are_bids : List S := [
  .ret (.band (.isi .tuple (.v 2)) (.band (.cmp .eq (.prim .len [.v 2]) (.v 0)) (.prim .all [.lc [("bid", 3)] (.v 3) (.seq (.v 2)) none (.call "is_between" f_is_between [.v 3, .k (.int 0), .v 1])])))]
def f_are_bids : PF := mkP 3 4 b_are_bids
def N_is_outcome : List Str := ["bidders", "value"]
def b_is_outcome : List S := [
  .ife (.bor (.bnot (.isi .tuple (.v 1))) (.bor (.cmp .ne (.prim .len [.v 1]) (.k (.int 2))) (.bnot (.call "are_bids" f_are_bids [.v 0, .k (.int 9), .ix (.v 1) (.k (.int 1))])))) [
    .ret (.k (.bool false))] [],
  .ret (.bor (.cmp .isn (.ix (.v 1) (.k (.int 0))) (.k .none)) (.call "is_between" f_is_between [.ix (.v 1) (.k (.int 0)), .k (.int 0), .bin .sub (.v 0) (.k (.int 1))]))]
def f_is_outcome : PF := mkP 2 2 b_is_outcome
def N_is_rule : List Str := ["value", "bidders", "top", "outcomes", "one"]
def b_is_rule : List S := [
  .ife (.bor (.bnot (.isi .tuple (.v 0))) (.bor (.cmp .ne (.prim .len [.v 0]) (.k (.int 3))) (.bnot (.call "is_between" f_is_between [.ix (.v 0) (.k (.int 0)), .k (.int 2), .k (.int 3)])))) [
    .ret (.k (.bool false))] [],
  .setT (.t [.v 1, .v 2, .v 3]) (.v 0),
  .ife (.bor (.bnot (.call "is_between" f_is_between [.v 2, .k (.int 1), .k (.int 4)])) (.bor (.bnot (.isi .tuple (.v 3))) (.cmp .ne (.prim .len [.v 3]) (.prim .len [.call "all_bids" f_all_bids [.v 1, .v 2]])))) [
    .ret (.k (.bool false))] [],
  .ret (.prim .all [.lc [("one", 4)] (.v 4) (.seq (.v 3)) none (.call "is_outcome" f_is_outcome [.v 1, .v 4])])]
def f_is_rule : PF := mkP 1 5 b_is_rule
def N_check_rule : List Str := ["value"]
def b_check_rule : List S := [
  .ife (.bnot (.call "is_rule" f_is_rule [.v 0])) [
    .raise "InvalidRule"] []]
def f_check_rule : PF := mkP 1 1 b_check_rule
def N_check_bidder : List Str := ["rule", "bidder"]
def b_check_bidder : List S := [
  .ife (.bnot (.call "is_between" f_is_between [.v 1, .k (.int 0), .bin .sub (.ix (.v 0) (.k (.int 0))) (.k (.int 1))])) [
    .raise "InvalidBidder"] []]
def f_check_bidder : PF := mkP 2 2 b_check_bidder
def N_check_bids : List Str := ["rule", "bids"]
def b_check_bids : List S := [
  .ife (.bnot (.call "are_bids" f_are_bids [.ix (.v 0) (.k (.int 0)), .ix (.v 0) (.k (.int 1)), .v 1])) [
    .raise "InvalidBids"] []]
def f_check_bids : PF := mkP 2 2 b_check_bids
def N_check_value : List Str := ["rule", "value"]
def b_check_value : List S := [
  .ife (.bnot (.call "is_between" f_is_between [.v 1, .k (.int 0), .ix (.v 0) (.k (.int 1))])) [
    .raise "InvalidValue"] []]
def f_check_value : PF := mkP 2 2 b_check_value
def N_check_rest : List Str := ["rule", "rest"]
def b_check_rest : List S := [
  .ife (.bnot (.call "are_bids" f_are_bids [.bin .sub (.ix (.v 0) (.k (.int 0))) (.k (.int 1)), .ix (.v 0) (.k (.int 1)), .v 1])) [
    .raise "InvalidRest"] []]
def f_check_rest : PF := mkP 2 2 b_check_rest
def N_outcome_of : List Str := ["rule", "bids", "place", "bid"]
def b_outcome_of : List S := [
  .set 2 (.e (.k (.int 0))),
  .loop (.v 3) (.seq (.v 1)) [
    .set 2 (.e (.bin .add (.bin .mul (.v 2) (.bin .add (.ix (.v 0) (.k (.int 1))) (.k (.int 1)))) (.v 3))),
    .drop 3],
  .ret (.ix (.ix (.v 0) (.k (.int 2))) (.v 2))]
def f_outcome_of : PF := mkP 2 4 b_outcome_of
def N_outcome : List Str := ["rule", "bids"]
def b_outcome : List S := [
  .ex (.call "check_rule" f_check_rule [.v 0]),
  .ex (.call "check_bids" f_check_bids [.v 0, .v 1]),
  .ret (.call "outcome_of" f_outcome_of [.v 0, .v 1])]
def f_outcome : PF := mkP 2 2 b_outcome
def N_gain_of : List Str := ["rule", "bidder", "value", "bids", "winner", "payments"]
def b_gain_of : List S := [
  .setT (.t [.v 4, .v 5]) (.call "outcome_of" f_outcome_of [.v 0, .v 3]),
  .ret (.bin .sub (.ite (.cmp .eq (.v 4) (.v 1)) (.v 2) (.k (.int 0))) (.ix (.v 5) (.v 1)))]
def f_gain_of : PF := mkP 4 6 b_gain_of
def N_gain : List Str := ["rule", "bidder", "value", "bids"]
def b_gain : List S := [
  .ex (.call "check_rule" f_check_rule [.v 0]),
  .ex (.call "check_bidder" f_check_bidder [.v 0, .v 1]),
  .ex (.call "check_value" f_check_value [.v 0, .v 2]),
  .ex (.call "check_bids" f_check_bids [.v 0, .v 3]),
  .ret (.call "gain_of" f_gain_of [.v 0, .v 1, .v 2, .v 3])]
def f_gain : PF := mkP 4 4 b_gain
def N_with_bid : List Str := ["rest", "bidder", "bid"]
def b_with_bid : List S := [
  .ret (.bin .add (.bin .add (.sl (.v 0) none (some (.v 1))) (.tup [.v 2])) (.sl (.v 0) (some (.v 1)) none))]
def f_with_bid : PF := mkP 3 3 b_with_bid
def N_rest_of : List Str := ["bids", "bidder"]
def b_rest_of : List S := [
  .ret (.bin .add (.sl (.v 0) none (some (.v 1))) (.sl (.v 0) (some (.bin .add (.v 1) (.k (.int 1)))) none))]
def f_rest_of : PF := mkP 2 2 b_rest_of
def N_moved : List Str := ["bids", "bidder", "bid"]
def b_moved : List S := [
  .ret (.bin .add (.bin .add (.sl (.v 0) none (some (.v 1))) (.tup [.v 2])) (.sl (.v 0) (some (.bin .add (.v 1) (.k (.int 1)))) none))]
def f_moved : PF := mkP 3 3 b_moved
def N_check_sizes : List Str := ["bidders", "top", "reserve"]
def b_check_sizes : List S := [
  .ife (.bor (.bnot (.call "is_between" f_is_between [.v 0, .k (.int 2), .k (.int 3)])) (.bor (.bnot (.call "is_between" f_is_between [.v 1, .k (.int 1), .k (.int 4)])) (.bnot (.call "is_between" f_is_between [.v 2, .k (.int 0), .v 1])))) [
    .raise "InvalidNumber"] []]
def f_check_sizes : PF := mkP 3 3 b_check_sizes
def N_made : List Str := ["bidders", "top", "outcomes"]
def b_made : List S := [
  .ret (.tup [.v 0, .v 1, .prim .tuple [.v 2]])]
def f_made : PF := mkP 3 3 b_made
def N_paying : List Str := ["bidders", "winner", "amount", "bidder"]
def b_paying : List S := [
  .ret (.tup [.v 1, .prim .tuple [.lc [("bidder", 3)] (.v 3) (.rng (.v 0)) none (.ite (.cmp .eq (.v 3) (.v 1)) (.v 2) (.k (.int 0)))]])]
def f_paying : PF := mkP 3 4 b_paying
def N_highest : List Str := ["bids", "reserve"]
def b_highest : List S := [
  .ret (.ite (.cmp .ge (.prim .max1 [.v 0]) (.v 1)) (.meth .tindex (.v 0) (.prim .max1 [.v 0])) (.k .none))]
def f_highest : PF := mkP 2 2 b_highest
def N_first_price : List Str := ["bidders", "top", "reserve", "bids"]
def b_first_price : List S := [
  .ex (.call "check_sizes" f_check_sizes [.v 0, .v 1, .v 2]),
  .ret (.call "made" f_made [.v 0, .v 1, .lc [("bids", 3)] (.v 3) (.seq (.call "all_bids" f_all_bids [.v 0, .v 1])) none (.call "paying" f_paying [.v 0, .call "highest" f_highest [.v 3, .v 2], .prim .max1 [.v 3]])])]
def f_first_price : PF := mkP 3 4 b_first_price
def N_second_price : List Str := ["bidders", "top", "reserve", "found", "bids", "others"]
def b_second_price : List S := [
  .ex (.call "check_sizes" f_check_sizes [.v 0, .v 1, .v 2]),
  .set 3 .nil,
  .loop (.v 4) (.seq (.call "all_bids" f_all_bids [.v 0, .v 1])) [
    .set 5 (.e (.call "rest_of" f_rest_of [.v 4, .meth .tindex (.v 4) (.prim .max1 [.v 4])])),
    .app 3 (.call "paying" f_paying [.v 0, .call "highest" f_highest [.v 4, .v 2], .prim .max1 [.bin .add (.v 5) (.tup [.v 2])]]),
    .drop 4,
    .drop 5],
  .fz 3,
  .ret (.call "made" f_made [.v 0, .v 1, .v 3])]
def f_second_price : PF := mkP 3 6 b_second_price
def N_all_pay : List Str := ["bidders", "top", "reserve", "bids"]
def b_all_pay : List S := [
  .ex (.call "check_sizes" f_check_sizes [.v 0, .v 1, .v 2]),
  .ret (.call "made" f_made [.v 0, .v 1, .lc [("bids", 3)] (.v 3) (.seq (.call "all_bids" f_all_bids [.v 0, .v 1])) none (.tup [.call "highest" f_highest [.v 3, .v 2], .v 3])])]
def f_all_pay : PF := mkP 3 4 b_all_pay
def N_posted : List Str := ["bidders", "top", "reserve", "found", "bids", "some", "bidder", "bid"]
def b_posted : List S := [
  .ex (.call "check_sizes" f_check_sizes [.v 0, .v 1, .v 2]),
  .set 3 .nil,
  .loop (.v 4) (.seq (.call "all_bids" f_all_bids [.v 0, .v 1])) [
    .set 5 (.e (.lc [("bidder", 6), ("bid", 7)] (.t [.v 6, .v 7]) (.enum (.v 4)) (some (.cmp .ge (.v 7) (.v 2))) (.v 6))),
    .app 3 (.call "paying" f_paying [.v 0, .ite (.cmp .ne (.v 5) (.lst [])) (.ix (.v 5) (.k (.int 0))) (.k .none), .v 2]),
    .drop 4,
    .drop 5],
  .fz 3,
  .ret (.call "made" f_made [.v 0, .v 1, .v 3])]
def f_posted : PF := mkP 3 8 b_posted
def N_renamed : List Str := ["rule", "order", "found", "bids", "later", "winner", "payments", "bidder", "place"]
def b_renamed : List S := [
  .ex (.call "check_rule" f_check_rule [.v 0]),
  .ife (.bor (.bnot (.call "are_bids" f_are_bids [.ix (.v 0) (.k (.int 0)), .bin .sub (.ix (.v 0) (.k (.int 0))) (.k (.int 1)), .v 1])) (.cmp .lt (.lens (.v 1)) (.ix (.v 0) (.k (.int 0))))) [
    .raise "InvalidOrder"] [],
  .set 2 .nil,
  .loop (.v 3) (.seq (.call "all_bids" f_all_bids [.ix (.v 0) (.k (.int 0)), .ix (.v 0) (.k (.int 1))])) [
    .setT (.t [.v 5, .v 6]) (.call "outcome_of" f_outcome_of [.v 0, .prim .tuple [.lc [("place", 8)] (.v 8) (.seq (.v 1)) none (.ix (.v 3) (.v 8))]]),
    .set 4 (.e (.prim .tuple [.lc [("bidder", 7)] (.v 7) (.rng (.ix (.v 0) (.k (.int 0)))) none (.ix (.v 6) (.meth .tindex (.v 1) (.v 7)))])),
    .app 2 (.tup [.ite (.cmp .nisn (.v 5) (.k .none)) (.ix (.v 1) (.v 5)) (.k .none), .v 4]),
    .drop 3,
    .drop 4,
    .drop 5,
    .drop 6],
  .fz 2,
  .ret (.call "made" f_made [.ix (.v 0) (.k (.int 0)), .ix (.v 0) (.k (.int 1)), .v 2])]
def f_renamed : PF := mkP 2 9 b_renamed
def N_found_lie : List Str := ["rule", "bidder", "bids", "truth", "lie"]
def b_found_lie : List S := [
  .loop (.v 1) (.rng (.ix (.v 0) (.k (.int 0)))) [
    .loop (.v 2) (.seq (.call "all_bids" f_all_bids [.ix (.v 0) (.k (.int 0)), .ix (.v 0) (.k (.int 1))])) [
      .set 3 (.e (.call "gain_of" f_gain_of [.v 0, .v 1, .ix (.v 2) (.v 1), .v 2])),
      .loop (.v 4) (.rng (.bin .add (.ix (.v 0) (.k (.int 1))) (.k (.int 1)))) [
        .ife (.cmp .gt (.call "gain_of" f_gain_of [.v 0, .v 1, .ix (.v 2) (.v 1), .call "moved" f_moved [.v 2, .v 1, .v 4]]) (.v 3)) [
          .ret (.tup [.v 1, .v 2, .v 4])] [],
        .drop 4],
      .drop 2,
      .drop 3],
    .drop 1],
  .ret (.k .none)]
def f_found_lie : PF := mkP 1 5 b_found_lie
def N_first_lie : List Str := ["rule"]
def b_first_lie : List S := [
  .ex (.call "check_rule" f_check_rule [.v 0]),
  .ret (.call "found_lie" f_found_lie [.v 0])]
def f_first_lie : PF := mkP 1 1 b_first_lie
def N_is_truthful : List Str := ["rule"]
def b_is_truthful : List S := [
  .ex (.call "check_rule" f_check_rule [.v 0]),
  .ret (.cmp .isn (.call "found_lie" f_found_lie [.v 0]) (.k .none))]
def f_is_truthful : PF := mkP 1 1 b_is_truthful
def N_is_broken : List Str := ["rule", "bidder", "rest", "wins", "losses", "bid", "winner", "payments", "pay"]
def b_is_broken : List S := [
  .set2 3 4 .nil .nil,
  .loop (.v 5) (.rng (.bin .add (.ix (.v 0) (.k (.int 1))) (.k (.int 1)))) [
    .setT (.t [.v 6, .v 7]) (.call "outcome_of" f_outcome_of [.v 0, .call "with_bid" f_with_bid [.v 2, .v 1, .v 5]]),
    .ife (.cmp .eq (.v 6) (.v 1)) [
      .app 3 (.tup [.v 5, .ix (.v 7) (.v 1)])] [
      .app 4 (.tup [.v 5, .ix (.v 7) (.v 1)])],
    .drop 5,
    .drop 6,
    .drop 7],
  .fz 4,
  .fz 3,
  .ife (.bor (.cmp .gt (.lens (.lc [("bid", 5), ("pay", 8)] (.t [.v 5, .v 8]) (.seq (.v 3)) none (.v 8))) (.k (.int 1))) (.cmp .gt (.lens (.lc [("bid", 5), ("pay", 8)] (.t [.v 5, .v 8]) (.seq (.v 4)) none (.v 8))) (.k (.int 1)))) [
    .ret (.k (.bool true))] [],
  .ife (.bor (.cmp .eq (.v 3) (.lst [])) (.cmp .eq (.v 4) (.lst []))) [
    .ret (.k (.bool false))] [],
  .ife (.cmp .lt (.ix (.ix (.v 3) (.k (.int 0))) (.k (.int 0))) (.ix (.ix (.v 4) (.neg (.k (.int 1)))) (.k (.int 0)))) [
    .ret (.k (.bool true))] [],
  .ret (.bnot (.chain .le .le (.bin .sub (.ix (.ix (.v 3) (.k (.int 0))) (.k (.int 0))) (.k (.int 1))) (.bin .sub (.ix (.ix (.v 3) (.k (.int 0))) (.k (.int 1))) (.ix (.ix (.v 4) (.k (.int 0))) (.k (.int 1)))) (.ix (.ix (.v 3) (.k (.int 0))) (.k (.int 0)))))]
def f_is_broken : PF := mkP 3 9 b_is_broken
def N_first_break : List Str := ["rule", "bidder", "rest"]
def b_first_break : List S := [
  .ex (.call "check_rule" f_check_rule [.v 0]),
  .loop (.v 1) (.rng (.ix (.v 0) (.k (.int 0)))) [
    .loop (.v 2) (.seq (.call "all_bids" f_all_bids [.bin .sub (.ix (.v 0) (.k (.int 0))) (.k (.int 1)), .ix (.v 0) (.k (.int 1))])) [
      .ife (.call "is_broken" f_is_broken [.v 0, .v 1, .v 2]) [
        .ret (.tup [.v 1, .v 2])] [],
      .drop 2],
    .drop 1],
  .ret (.k .none)]
def f_first_break : PF := mkP 1 3 b_first_break
def N_first_loss : List Str := ["rule", "bidder", "bids"]
def b_first_loss : List S := [
  .ex (.call "check_rule" f_check_rule [.v 0]),
  .loop (.v 1) (.rng (.ix (.v 0) (.k (.int 0)))) [
    .loop (.v 2) (.seq (.call "all_bids" f_all_bids [.ix (.v 0) (.k (.int 0)), .ix (.v 0) (.k (.int 1))])) [
      .ife (.cmp .lt (.call "gain_of" f_gain_of [.v 0, .v 1, .ix (.v 2) (.v 1), .v 2]) (.k (.int 0))) [
        .ret (.tup [.v 1, .v 2])] [],
      .drop 2],
    .drop 1],
  .ret (.k .none)]
def f_first_loss : PF := mkP 1 3 b_first_loss
def N_do_both_gain : List Str := ["rule", "one", "other", "bids", "lies", "later", "bidder"]
def b_do_both_gain : List S := [
  .set 5 (.e (.call "moved" f_moved [.call "moved" f_moved [.v 3, .v 1, .ix (.v 4) (.k (.int 0))], .v 2, .ix (.v 4) (.k (.int 1))])),
  .loop (.v 6) (.seq (.tup [.v 1, .v 2])) [
    .ife (.cmp .le (.call "gain_of" f_gain_of [.v 0, .v 6, .ix (.v 3) (.v 6), .v 5]) (.call "gain_of" f_gain_of [.v 0, .v 6, .ix (.v 3) (.v 6), .v 3])) [
      .ret (.k (.bool false))] [],
    .drop 6],
  .ret (.k (.bool true))]
def f_do_both_gain : PF := mkP 5 7 b_do_both_gain
def N_joint_lie : List Str := ["rule", "one", "other", "bids", "lies"]
def b_joint_lie : List S := [
  .ex (.call "check_rule" f_check_rule [.v 0]),
  .loop (.v 1) (.rng (.ix (.v 0) (.k (.int 0)))) [
    .loop (.v 2) (.rng2 (.bin .add (.v 1) (.k (.int 1))) (.ix (.v 0) (.k (.int 0)))) [
      .loop (.v 3) (.seq (.call "all_bids" f_all_bids [.ix (.v 0) (.k (.int 0)), .ix (.v 0) (.k (.int 1))])) [
        .loop (.v 4) (.seq (.call "all_bids" f_all_bids [.k (.int 2), .ix (.v 0) (.k (.int 1))])) [
          .ife (.call "do_both_gain" f_do_both_gain [.v 0, .v 1, .v 2, .v 3, .v 4]) [
            .ret (.tup [.v 1, .v 2, .v 3, .v 4])] [],
          .drop 4],
        .drop 3],
      .drop 2],
    .drop 1],
  .ret (.k .none)]
def f_joint_lie : PF := mkP 1 5 b_joint_lie
def N_winning : List Str := ["rule", "bidder", "rest", "bid"]
def b_winning : List S := [
  .ret (.lc [("bid", 3)] (.v 3) (.rng (.bin .add (.ix (.v 0) (.k (.int 1))) (.k (.int 1)))) (some (.cmp .eq (.ix (.call "outcome_of" f_outcome_of [.v 0, .call "with_bid" f_with_bid [.v 2, .v 1, .v 3]]) (.k (.int 0))) (.v 1))) (.v 3))]
def f_winning : PF := mkP 3 4 b_winning
def N_does_rise : List Str := ["rule", "bidder", "rest", "some"]
def b_does_rise : List S := [
  .loop (.v 1) (.rng (.ix (.v 0) (.k (.int 0)))) [
    .loop (.v 2) (.seq (.call "all_bids" f_all_bids [.bin .sub (.ix (.v 0) (.k (.int 0))) (.k (.int 1)), .ix (.v 0) (.k (.int 1))])) [
      .set 3 (.e (.call "winning" f_winning [.v 0, .v 1, .v 2])),
      .ife (.band (.cmp .ne (.v 3) (.lst [])) (.cmp .ne (.prim .len [.v 3]) (.bin .sub (.bin .add (.ix (.v 0) (.k (.int 1))) (.k (.int 1))) (.ix (.v 3) (.k (.int 0)))))) [
        .ret (.k (.bool false))] [],
      .drop 2,
      .drop 3],
    .drop 1],
  .ret (.k (.bool true))]
def f_does_rise : PF := mkP 1 4 b_does_rise
def N_is_rising : List Str := ["rule"]
def b_is_rising : List S := [
  .ex (.call "check_rule" f_check_rule [.v 0]),
  .ret (.call "does_rise" f_does_rise [.v 0])]
def f_is_rising : PF := mkP 1 1 b_is_rising
def N_least_winning : List Str := ["rule", "bidder", "rest", "some"]
def b_least_winning : List S := [
  .ex (.call "check_rule" f_check_rule [.v 0]),
  .ex (.call "check_bidder" f_check_bidder [.v 0, .v 1]),
  .ex (.call "check_rest" f_check_rest [.v 0, .v 2]),
  .set 3 (.e (.call "winning" f_winning [.v 0, .v 1, .v 2])),
  .ret (.ite (.cmp .ne (.v 3) (.lst [])) (.ix (.v 3) (.k (.int 0))) (.k .none))]
def f_least_winning : PF := mkP 3 4 b_least_winning
def N_priced : List Str := ["rule", "which", "found", "bids", "winner", "amount"]
def b_priced : List S := [
  .ex (.call "check_rule" f_check_rule [.v 0]),
  .ife (.bor (.bnot (.isi .str (.v 1))) (.cmp .notin (.v 1) (.tup [.k (.str "least"), .k (.str "most")]))) [
    .raise "InvalidWhich"] [],
  .ife (.bnot (.call "does_rise" f_does_rise [.v 0])) [
    .ret (.k .none)] [],
  .set 2 .nil,
  .loop (.v 3) (.seq (.call "all_bids" f_all_bids [.ix (.v 0) (.k (.int 0)), .ix (.v 0) (.k (.int 1))])) [
    .set2 4 5 (.e (.ix (.call "outcome_of" f_outcome_of [.v 0, .v 3]) (.k (.int 0)))) (.e (.k (.int 0))),
    .ife (.cmp .nisn (.v 4) (.k .none)) [
      .set 5 (.e (.ix (.call "winning" f_winning [.v 0, .v 4, .call "rest_of" f_rest_of [.v 3, .v 4]]) (.k (.int 0))))] [],
    .app 2 (.call "paying" f_paying [.ix (.v 0) (.k (.int 0)), .v 4, .ite (.cmp .eq (.v 1) (.k (.str "most"))) (.v 5) (.prim .max2 [.k (.int 0), .bin .sub (.v 5) (.k (.int 1))])]),
    .drop 3,
    .drop 4,
    .drop 5],
  .fz 2,
  .ret (.call "made" f_made [.ix (.v 0) (.k (.int 0)), .ix (.v 0) (.k (.int 1)), .v 2])]
def f_priced : PF := mkP 2 6 b_priced
def N_all_incomes : List Str := ["rule", "winner", "payments"]
def b_all_incomes : List S := [
  .ret (.lc [("winner", 1), ("payments", 2)] (.t [.v 1, .v 2]) (.seq (.ix (.v 0) (.k (.int 2)))) none (.prim .sum [.v 2]))]
def f_all_incomes : PF := mkP 1 3 b_all_incomes
def N_incomes : List Str := ["rule", "some"]
def b_incomes : List S := [
  .ex (.call "check_rule" f_check_rule [.v 0]),
  .set 1 (.e (.call "all_incomes" f_all_incomes [.v 0])),
  .ret (.tup [.prim .min1 [.v 1], .prim .max1 [.v 1]])]
def f_incomes : PF := mkP 1 2 b_incomes
def N_first_waste : List Str := ["rule", "bids", "winner", "payments"]
def b_first_waste : List S := [
  .ex (.call "check_rule" f_check_rule [.v 0]),
  .loop (.t [.v 1, .t [.v 2, .v 3]]) (.zip (.call "all_bids" f_all_bids [.ix (.v 0) (.k (.int 0)), .ix (.v 0) (.k (.int 1))]) (.ix (.v 0) (.k (.int 2)))) [
    .ife (.bor (.cmp .isn (.v 2) (.k .none)) (.cmp .lt (.ix (.v 1) (.v 2)) (.prim .max1 [.v 1]))) [
      .ret (.v 1)] [],
    .drop 1,
    .drop 2,
    .drop 3],
  .ret (.k .none)]
def f_first_waste : PF := mkP 1 4 b_first_waste
def N_more_income : List Str := ["one", "other", "gaps", "first", "second"]
def b_more_income : List S := [
  .ex (.call "check_rule" f_check_rule [.v 0]),
  .ex (.call "check_rule" f_check_rule [.v 1]),
  .ife (.cmp .ne (.sl (.v 0) none (some (.k (.int 2)))) (.sl (.v 1) none (some (.k (.int 2))))) [
    .raise "Unlike"] [],
  .set 2 (.e (.lc [("first", 3), ("second", 4)] (.t [.v 3, .v 4]) (.zip (.call "all_incomes" f_all_incomes [.v 0]) (.call "all_incomes" f_all_incomes [.v 1])) none (.bin .sub (.v 3) (.v 4)))),
  .ife (.band (.cmp .eq (.prim .min1 [.v 2]) (.k (.int 0))) (.cmp .eq (.prim .max1 [.v 2]) (.k (.int 0)))) [
    .ret (.k (.str "equal"))] [],
  .ife (.cmp .ge (.prim .min1 [.v 2]) (.k (.int 0))) [
    .ret (.k (.str "one"))] [],
  .ret (.ite (.cmp .le (.prim .max1 [.v 2]) (.k (.int 0))) (.k (.str "other")) (.k (.str "neither")))]
def f_more_income : PF := mkP 2 5 b_more_income
def N_is_still : List Str := ["rule", "values", "bids", "bidder", "value", "now", "bid"]
def b_is_still : List S := [
  .loop (.t [.v 3, .v 4]) (.enum (.v 1)) [
    .set 5 (.e (.call "gain_of" f_gain_of [.v 0, .v 3, .v 4, .v 2])),
    .loop (.v 6) (.rng (.bin .add (.ix (.v 0) (.k (.int 1))) (.k (.int 1)))) [
      .ife (.cmp .gt (.call "gain_of" f_gain_of [.v 0, .v 3, .v 4, .call "moved" f_moved [.v 2, .v 3, .v 6]]) (.v 5)) [
        .ret (.k (.bool false))] [],
      .drop 6],
    .drop 3,
    .drop 4,
    .drop 5],
  .ret (.k (.bool true))]
def f_is_still : PF := mkP 3 7 b_is_still
def N_check_values : List Str := ["rule", "values"]
def b_check_values : List S := [
  .ex (.call "check_rule" f_check_rule [.v 0]),
  .ex (.call "check_bids" f_check_bids [.v 0, .v 1])]
def f_check_values : PF := mkP 2 2 b_check_values
def N_is_calm : List Str := ["rule", "values", "value"]
def b_is_calm : List S := [
  .ex (.call "check_values" f_check_values [.v 0, .v 1]),
  .ret (.band (.call "are_bids" f_are_bids [.ix (.v 0) (.k (.int 0)), .ix (.v 0) (.k (.int 1)), .v 2]) (.call "is_still" f_is_still [.v 0, .v 1, .v 2]))]
def f_is_calm : PF := mkP 3 3 b_is_calm
def N_calm : List Str := ["rule", "values", "bids"]
def b_calm : List S := [
  .ex (.call "check_values" f_check_values [.v 0, .v 1]),
  .ret (.prim .tuple [.lc [("bids", 2)] (.v 2) (.seq (.call "all_bids" f_all_bids [.ix (.v 0) (.k (.int 0)), .ix (.v 0) (.k (.int 1))])) (some (.call "is_still" f_is_still [.v 0, .v 1, .v 2])) (.v 2)])]
def f_calm : PF := mkP 2 3 b_calm
def N_best_bids : List Str := ["rule", "bidder", "value", "rest", "gains", "bid", "one"]
def b_best_bids : List S := [
  .ex (.call "check_rule" f_check_rule [.v 0]),
  .ex (.call "check_bidder" f_check_bidder [.v 0, .v 1]),
  .ex (.call "check_value" f_check_value [.v 0, .v 2]),
  .ex (.call "check_rest" f_check_rest [.v 0, .v 3]),
  .set 4 (.e (.lc [("bid", 5)] (.v 5) (.rng (.bin .add (.ix (.v 0) (.k (.int 1))) (.k (.int 1)))) none (.call "gain_of" f_gain_of [.v 0, .v 1, .v 2, .call "with_bid" f_with_bid [.v 3, .v 1, .v 5]]))),
  .ret (.prim .tuple [.lc [("bid", 5), ("one", 6)] (.t [.v 5, .v 6]) (.enum (.v 4)) (some (.cmp .eq (.v 6) (.prim .max1 [.v 4]))) (.v 5)])]
def f_best_bids : PF := mkP 4 7 b_best_bids
def N_rests_left : List Str := ["left", "bidder", "found", "number", "some", "row", "bid"]
def b_rests_left : List S := [
  .set 2 (.e (.lst [.tup []])),
  .loop (.t [.v 3, .v 4]) (.enum (.v 0)) [
    .ife (.cmp .ne (.v 3) (.v 1)) [
      .set 2 (.e (.lc2 [("row", 5), ("bid", 6)] [6] (.v 5) (.seq (.v 2)) (.v 6) (.seq (.v 4)) (.bin .add (.v 5) (.tup [.v 6]))))] [],
    .drop 3,
    .drop 4],
  .ret (.v 2)]
def f_rests_left : PF := mkP 2 7 b_rests_left
def N_unbeaten : List Str := ["rule", "bidder", "value", "left", "rows", "rests", "bid", "rest", "found", "better", "other", "gaps", "x", "y"]
def b_unbeaten : List S := [
  .set2 4 5 .dnil (.e (.call "rests_left" f_rests_left [.v 3, .v 1])),
  .loop (.v 6) (.seq (.ix (.v 3) (.v 1))) [
    .setdx 4 (.v 6) (.lc [("rest", 7)] (.v 7) (.seq (.v 5)) none (.call "gain_of" f_gain_of [.v 0, .v 1, .v 2, .call "with_bid" f_with_bid [.v 7, .v 1, .v 6]])),
    .drop 6],
  .set 8 .nil,
  .loop (.v 6) (.seq (.ix (.v 3) (.v 1))) [
    .set 9 .nil,
    .loop (.v 10) (.seq (.ix (.v 3) (.v 1))) [
      .set 11 (.e (.lc [("x", 12), ("y", 13)] (.t [.v 12, .v 13]) (.zip (.dix 4 (.v 6)) (.dix 4 (.v 10))) none (.bin .sub (.v 13) (.v 12)))),
      .app 9 (.band (.cmp .ge (.prim .min1 [.v 11]) (.k (.int 0))) (.cmp .gt (.prim .max1 [.v 11]) (.k (.int 0)))),
      .drop 10,
      .drop 11],
    .fz 9,
    .ife (.bnot (.prim .any [.v 9])) [
      .app 8 (.v 6)] [],
    .drop 6,
    .drop 9],
  .fz 8,
  .ret (.prim .tuple [.v 8])]
def f_unbeaten : PF := mkP 4 14 b_unbeaten
def N_kept : List Str := ["rule", "values", "left", "later", "bidder", "value"]
def b_kept : List S := [
  .ex (.call "check_values" f_check_values [.v 0, .v 1]),
  .set 2 (.e (.bin .mul (.tup [.prim .tuple [.rng (.k (.int 0)) (.bin .add (.ix (.v 0) (.k (.int 1))) (.k (.int 1)))]]) (.ix (.v 0) (.k (.int 0))))),
  .set 3 (.e (.tup [])),
  .wh 100000 (.cmp .ne (.v 3) (.v 2)) [
    .ife (.cmp .ne (.v 3) (.tup [])) [
      .set 2 (.e (.v 3))] [],
    .set 3 (.e (.prim .tuple [.lc [("bidder", 4), ("value", 5)] (.t [.v 4, .v 5]) (.enum (.v 1)) none (.call "unbeaten" f_unbeaten [.v 0, .v 4, .v 5, .v 2])]))],
  .ret (.v 2)]
def f_kept : PF := mkP 2 6 b_kept
def N__law_draw : List Str := ["script", "town", "limit", "at", "left", "number"]
def b__law_draw : List S := [
  .setix 1 (.k (.int 0)) (.bin .add (.cix 1 (.k (.int 0))) (.k (.int 1))),
  .ife (.cmp .eq (.v 0) (.lst [])) [
    .ret (.bin .mod (.bin .fdiv (.bin .mul (.bin .mul (.cix 1 (.k (.int 0))) (.cix 1 (.k (.int 0)))) (.k (.int 7))) (.k (.int 3))) (.v 2))] [],
  .set 3 (.e (.bin .mod (.cix 1 (.k (.int 0))) (.prim .len [.v 0]))),
  .set 4 (.e (.cix 1 (.bin .add (.k (.int 1)) (.v 3)))),
  .ife (.band (.cmp .ge (.ix (.v 0) (.v 3)) (.bin .pow (.k (.int 10)) (.k (.int 18)))) (.cmp .gt (.v 4) (.k (.int 0)))) [
    .setix 1 (.bin .add (.k (.int 1)) (.v 3)) (.bin .fdiv (.v 4) (.v 2)),
    .ret (.bin .mod (.v 4) (.v 2))] [],
  .set 5 (.e (.bin .mod (.bin .add (.ix (.v 0) (.v 3)) (.bin .mul (.k (.int 104729)) (.cix 1 (.k (.int 0))))) (.k (.int 4294967291)))),
  .set 5 (.e (.bin .mod (.bin .pow (.v 5) (.k (.int 5))) (.k (.int 4294967279)))),
  .ret (.bin .mod (.bin .fdiv (.bin .mod (.bin .add (.bin .mul (.bin .fdiv (.v 5) (.k (.int 64))) (.k (.int 69621))) (.v 5)) (.k (.int 4294967231))) (.k (.int 8))) (.v 2))]
def f__law_draw : SF := mkS 3 6 b__law_draw
def N__law_pick : List Str := ["script", "town", "choices"]
def b__law_pick : List S := [
  .ret (.ix (.v 2) (.callS "_law_draw" f__law_draw (.v 0) 1 [.prim .len [.v 2]]))]
def f__law_pick : SF := mkS 3 3 b__law_pick
def N__law_raises : List Str := ["name", "names"]
def b__law_raises : List S := [
  .set 1 (.e (.lst [.k (.str "rule"), .k (.str "bids"), .k (.str "bidder"), .k (.str "rest"), .k (.str "value"), .k (.str "number"), .k (.str "order")])),
  .set 1 (.e (.bin .add (.v 1) (.lst [.k (.str "which"), .k (.str "text"), .k (.str "unlike"), .k (.str "many"), .k (.str "undo")]))),
  .ret (.tup [.k (.str "raised"), .meth .lindex (.v 1) (.v 0)])]
def f__law_raises : PF := mkP 1 2 b__law_raises
def N__law_rows : List Str := ["bidders", "top", "found", "bidder", "later", "row", "bid"]
def b__law_rows : List S := [
  .set 2 (.e (.lst [.tup []])),
  .loop (.v 3) (.rng (.v 0)) [
    .set 4 (.e (.lst [])),
    .loop (.v 5) (.seq (.v 2)) [
      .set 4 (.e (.bin .add (.v 4) (.lc [("bid", 6)] (.v 6) (.rng (.bin .add (.v 1) (.k (.int 1)))) none (.bin .add (.v 5) (.tup [.v 6]))))),
      .drop 5],
    .set 2 (.e (.v 4)),
    .drop 3,
    .drop 4],
  .ret (.v 2)]
def f__law_rows : PF := mkP 2 7 b__law_rows
def N__law_sizes : List Str := ["script", "town"]
def b__law_sizes : List S := [
  .ret (.callS "_law_pick" f__law_pick (.v 0) 1 [.lst [.tup [.k (.int 2), .k (.int 1)], .tup [.k (.int 2), .k (.int 2)], .tup [.k (.int 2), .k (.int 2)], .tup [.k (.int 2), .k (.int 3)], .tup [.k (.int 3), .k (.int 1)], .tup [.k (.int 3), .k (.int 2)], .tup [.k (.int 2), .k (.int 4)]]])]
def f__law_sizes : SF := mkS 2 2 b__law_sizes
def N__law_drawn : List Str := ["script", "town", "bidders", "top", "rows", "some", "k", "pays", "bidder", "bids"]
def b__law_drawn : List S := [
  .set2 4 5 .nil .nil,
  .loop (.v 6) (.rng (.bin .add (.k (.int 1)) (.callS "_law_draw" f__law_draw (.v 0) 1 [.k (.int 5)]))) [
    .set 7 (.e (.prim .tuple [.lc [("bidder", 8)] (.v 8) (.rng (.v 2)) none (.callS "_law_pick" f__law_pick (.v 0) 1 [.lst [.k (.int 0), .k (.int 0), .k (.int 1), .k (.int 2), .k (.int 9)]])])),
    .app 5 (.tup [.callS "_law_pick" f__law_pick (.v 0) 1 [.bin .add (.lst [.k .none]) (.rng (.k (.int 0)) (.v 2))], .v 7]),
    .drop 6,
    .drop 7],
  .fz 5,
  .loop (.v 9) (.seq (.call "_law_rows" f__law_rows [.v 2, .v 3])) [
    .app 4 (.callS "_law_pick" f__law_pick (.v 0) 1 [.v 5]),
    .drop 9],
  .fz 4,
  .ret (.tup [.v 2, .v 3, .prim .tuple [.v 4]])]
def f__law_drawn : SF := mkS 4 10 b__law_drawn
def N__law_climbing : List Str := ["script", "town", "bidders", "top", "leads", "bidder", "least", "way", "rows", "bids", "sums", "winner", "price", "amount", "bid", "lead", "k"]
def b__law_climbing : List S := [
  .set 4 (.e (.lc [("bidder", 5)] (.v 5) (.rng (.v 2)) none (.callS "_law_draw" f__law_draw (.v 0) 1 [.bin .add (.v 3) (.k (.int 1))]))),
  .set2 6 7 (.e (.callS "_law_draw" f__law_draw (.v 0) 1 [.bin .add (.v 3) (.k (.int 2))])) (.e (.callS "_law_draw" f__law_draw (.v 0) 1 [.k (.int 5)])),
  .set 8 .nil,
  .loop (.v 9) (.seq (.call "_law_rows" f__law_rows [.v 2, .v 3])) [
    .set 10 (.e (.lc [("bid", 14), ("lead", 15)] (.t [.v 14, .v 15]) (.zip (.v 9) (.v 4)) none (.bin .add (.v 14) (.v 15)))),
    .set 11 (.e (.meth .lindex (.v 10) (.prim .max1 [.v 10]))),
    .ife (.cmp .lt (.ix (.v 10) (.v 11)) (.bin .add (.v 6) (.prim .min1 [.v 4]))) [
      .app 8 (.tup [.k .none, .bin .mul (.tup [.k (.int 0)]) (.v 2)])] [
      .set 12 (.e (.prim .max1 [.bin .add (.lst [.k (.int 0)]) (.lc [("k", 16)] (.v 16) (.rng (.v 2)) (some (.cmp .ne (.v 16) (.v 11))) (.bin .sub (.bin .add (.ix (.v 10) (.v 16)) (.prim .int [.cmp .lt (.v 16) (.v 11)])) (.ix (.v 4) (.v 11))))])),
      .set 12 (.e (.prim .max2 [.v 12, .bin .sub (.bin .add (.v 6) (.prim .min1 [.v 4])) (.ix (.v 4) (.v 11))])),
      .set 13 (.e (.ix (.tup [.v 12, .prim .max2 [.k (.int 0), .bin .sub (.v 12) (.k (.int 1))], .ix (.v 9) (.v 11), .bin .fdiv (.v 12) (.k (.int 2)), .bin .add (.v 12) (.k (.int 1))]) (.v 7))),
      .app 8 (.tup [.v 11, .prim .tuple [.lc [("k", 16)] (.v 16) (.rng (.v 2)) none (.bin .mul (.prim .min2 [.k (.int 9), .v 13]) (.prim .int [.cmp .eq (.v 16) (.v 11)]))]])],
    .drop 9,
    .drop 10,
    .drop 11,
    .drop 12,
    .drop 13],
  .fz 8,
  .ret (.tup [.v 2, .v 3, .prim .tuple [.v 8]])]
def f__law_climbing : SF := mkS 4 17 b__law_climbing
def N__law_known : List Str := ["script", "town", "bidders", "top", "way", "reserve", "rows", "bids", "best", "winner", "others", "amount", "pays", "some", "k"]
def b__law_known : List S := [
  .set2 4 5 (.e (.callS "_law_draw" f__law_draw (.v 0) 1 [.k (.int 4)])) (.e (.callS "_law_draw" f__law_draw (.v 0) 1 [.bin .add (.v 3) (.k (.int 1))])),
  .set 6 .nil,
  .loop (.v 7) (.seq (.call "_law_rows" f__law_rows [.v 2, .v 3])) [
    .set 8 (.e (.prim .max1 [.v 7])),
    .set 9 (.e (.ite (.cmp .ge (.v 8) (.v 5)) (.meth .tindex (.v 7) (.v 8)) (.k .none))),
    .set 10 (.e (.lc [("k", 14)] (.v 14) (.rng (.v 2)) (some (.cmp .ne (.v 14) (.meth .tindex (.v 7) (.v 8)))) (.ix (.v 7) (.v 14)))),
    .set 11 (.e (.ix (.tup [.v 8, .prim .max1 [.bin .add (.v 10) (.lst [.v 5])], .v 8, .v 5]) (.v 4))),
    .ife (.cmp .eq (.v 4) (.k (.int 3))) [
      .set 13 (.e (.lc [("k", 14)] (.v 14) (.rng (.v 2)) (some (.cmp .ge (.ix (.v 7) (.v 14)) (.v 5))) (.v 14))),
      .set 9 (.e (.ite (.cmp .ne (.v 13) (.lst [])) (.ix (.v 13) (.k (.int 0))) (.k .none)))] [],
    .set 12 (.e (.prim .tuple [.lc [("k", 14)] (.v 14) (.rng (.v 2)) none (.bin .mul (.v 11) (.prim .int [.cmp .eq (.v 14) (.v 9)]))])),
    .app 6 (.tup [.v 9, .ite (.cmp .eq (.v 4) (.k (.int 2))) (.v 7) (.v 12)]),
    .drop 7,
    .drop 8,
    .drop 9,
    .drop 10,
    .drop 11,
    .drop 12,
    .drop 13],
  .fz 6,
  .ret (.tup [.ix (.tup [.k (.str "first"), .k (.str "second"), .k (.str "all"), .k (.str "posted")]) (.v 4), .v 5, .tup [.v 2, .v 3, .prim .tuple [.v 6]]])]
def f__law_known : SF := mkS 4 15 b__law_known
def N__law_rule : List Str := ["script", "town", "bidders", "top", "way"]
def b__law_rule : List S := [
  .setT (.t [.v 2, .v 3]) (.callS "_law_sizes" f__law_sizes (.v 0) 1 []),
  .set 4 (.e (.callS "_law_draw" f__law_draw (.v 0) 1 [.k (.int 4)])),
  .ife (.cmp .eq (.v 4) (.k (.int 0))) [
    .ret (.callS "_law_drawn" f__law_drawn (.v 0) 1 [.v 2, .v 3])] [],
  .ife (.cmp .lt (.v 4) (.k (.int 3))) [
    .ret (.callS "_law_climbing" f__law_climbing (.v 0) 1 [.v 2, .v 3])] [],
  .ret (.ix (.callS "_law_known" f__law_known (.v 0) 1 [.v 2, .v 3]) (.k (.int 2)))]
def f__law_rule : SF := mkS 2 5 b__law_rule
def N__law_bads : List Str := ["fine", "zeros", "bads", "odd", "one"]
def b__law_bads : List S := [
  .set2 0 1 (.e (.tup [.k (.int 0), .tup [.k (.int 0), .k (.int 0)]])) (.e (.tup [.k .none, .tup [.k (.int 0), .k (.int 0)]])),
  .set 2 (.e (.lst [.k .none, .k (.int 5), .tup [], .tup [.k (.int 2), .k (.int 1)], .tup [.k (.int 2), .k (.int 1), .tup []], .tup [.k (.int 2), .k (.int 1), .bin .mul (.tup [.v 0]) (.k (.int 3))], .tup [.k (.int 2), .k (.int 1), .bin .mul (.tup [.v 0]) (.k (.int 5))], .tup [.k (.int 2), .k (.int 1), .bin .mul (.lst [.v 0]) (.k (.int 4))]])),
  .set 2 (.e (.bin .add (.v 2) (.lst [.tup [.k (.int 1), .k (.int 1), .bin .mul (.tup [.tup [.k (.int 0), .tup [.k (.int 0)]]]) (.k (.int 2))], .tup [.k (.int 4), .k (.int 1), .bin .mul (.tup [.tup [.k (.int 0), .bin .mul (.tup [.k (.int 0)]) (.k (.int 4))]]) (.k (.int 16))], .tup [.k (.int 2), .k (.int 0), .tup [.v 0]], .tup [.k (.int 2), .k (.int 5), .bin .mul (.tup [.v 0]) (.k (.int 36))]]))),
  .set 2 (.e (.bin .add (.v 2) (.lst [.tup [.k (.bool true), .k (.int 1), .bin .mul (.tup [.v 0]) (.k (.int 2))], .tup [.k (.int 2), .k (.bool true), .bin .mul (.tup [.v 0]) (.k (.int 4))], .lst [.k (.int 2), .k (.int 1), .bin .mul (.tup [.v 0]) (.k (.int 4))], .tup [.k (.int 2), .k (.int 1), .bin .mul (.tup [.v 0]) (.k (.int 4)), .k (.int 0)]]))),
  .set 3 (.e (.lst [.tup [.k (.int 2), .tup [.k (.int 0), .k (.int 0)]], .tup [.neg (.k (.int 1)), .tup [.k (.int 0), .k (.int 0)]], .tup [.k (.bool true), .tup [.k (.int 0), .k (.int 0)]], .tup [.k (.str "0"), .tup [.k (.int 0), .k (.int 0)]], .tup [.k (.int 0), .tup [.k (.int 0)]], .tup [.k (.int 0), .tup [.k (.int 0), .k (.int 0), .k (.int 0)]], .tup [.k (.int 0), .tup [.k (.int 0), .k (.int 10)]]])),
  .set 3 (.e (.bin .add (.v 3) (.lst [.tup [.k (.int 0), .tup [.k (.int 0), .neg (.k (.int 1))]], .tup [.k (.int 0), .lst [.k (.int 0), .k (.int 0)]], .tup [.k (.int 0), .tup [.k (.int 0), .k .none]], .lst [.k (.int 0), .tup [.k (.int 0), .k (.int 0)]], .tup [.k (.int 0)], .tup [.k (.int 0), .tup [.k (.int 0), .k (.int 0)], .k (.int 0)], .k .none, .tup [.k (.int 0), .tup [.k (.bool true), .k (.int 0)]]]))),
  .ret (.bin .add (.v 2) (.lc [("one", 4)] (.v 4) (.seq (.v 3)) none (.tup [.k (.int 2), .k (.int 1), .tup [.v 0, .v 1, .v 4, .v 0]])))]
def f__law_bads : PF := mkP 0 5 b__law_bads
def N__law_at : List Str := ["rule", "bids"]
def b__law_at : List S := [
  .ret (.ix (.ix (.v 0) (.k (.int 2))) (.meth .lindex (.call "_law_rows" f__law_rows [.ix (.v 0) (.k (.int 0)), .ix (.v 0) (.k (.int 1))]) (.v 1)))]
def f__law_at : PF := mkP 2 2 b__law_at
def N__law_gain : List Str := ["rule", "bidder", "value", "bids", "winner", "pays"]
def b__law_gain : List S := [
  .setT (.t [.v 4, .v 5]) (.call "_law_at" f__law_at [.v 0, .v 3]),
  .ret (.bin .sub (.bin .mul (.v 2) (.prim .int [.cmp .eq (.v 4) (.v 1)])) (.ix (.v 5) (.v 1)))]
def f__law_gain : PF := mkP 4 6 b__law_gain
def N__law_with : List Str := ["bids", "bidder", "bid"]
def b__law_with : List S := [
  .ret (.bin .add (.bin .add (.sl (.v 0) none (some (.v 1))) (.tup [.v 2])) (.sl (.v 0) (some (.bin .add (.v 1) (.k (.int 1)))) none))]
def f__law_with : PF := mkP 3 3 b__law_with
def N__law_is_whole : List Str := ["rule", "bidder", "rest", "rows", "bid", "winner", "pays", "wins", "k", "losses", "some", "gap"]
def b__law_is_whole : List S := [
  .set 3 .nil,
  .loop (.v 4) (.rng (.bin .add (.ix (.v 0) (.k (.int 1))) (.k (.int 1)))) [
    .setT (.t [.v 5, .v 6]) (.call "_law_at" f__law_at [.v 0, .bin .add (.bin .add (.sl (.v 2) none (some (.v 1))) (.tup [.v 4])) (.sl (.v 2) (some (.v 1)) none)]),
    .app 3 (.tup [.cmp .eq (.v 5) (.v 1), .ix (.v 6) (.v 1)]),
    .drop 4,
    .drop 5,
    .drop 6],
  .fz 3,
  .set 7 (.e (.lc [("k", 8)] (.v 8) (.rng (.prim .len [.v 3])) (some (.ix (.ix (.v 3) (.v 8)) (.k (.int 0)))) (.v 8))),
  .set 9 (.e (.lc [("k", 8)] (.v 8) (.rng (.prim .len [.v 3])) (some (.bnot (.ix (.ix (.v 3) (.v 8)) (.k (.int 0))))) (.v 8))),
  .loop (.v 10) (.seq (.tup [.v 7, .v 9])) [
    .ife (.cmp .ne (.lc [("k", 8)] (.v 8) (.seq (.v 10)) (some (.cmp .ne (.ix (.ix (.v 3) (.v 8)) (.k (.int 1))) (.ix (.ix (.v 3) (.ix (.v 10) (.k (.int 0)))) (.k (.int 1))))) (.v 8)) (.lst [])) [
      .ret (.k (.bool false))] [],
    .drop 10],
  .ife (.bor (.cmp .eq (.v 7) (.lst [])) (.cmp .eq (.v 9) (.lst []))) [
    .ret (.k (.bool true))] [],
  .set 11 (.e (.bin .sub (.ix (.ix (.v 3) (.ix (.v 7) (.k (.int 0)))) (.k (.int 1))) (.ix (.ix (.v 3) (.ix (.v 9) (.k (.int 0)))) (.k (.int 1))))),
  .ret (.band (.cmp .lt (.prim .max1 [.v 9]) (.prim .min1 [.v 7])) (.cmp .isin (.v 11) (.tup [.prim .min1 [.v 7], .bin .sub (.prim .min1 [.v 7]) (.k (.int 1))])))]
def f__law_is_whole : PF := mkP 3 12 b__law_is_whole
def N__law_first_lies : List Str := ["rule", "one", "other", "bids", "table", "bidder", "lies", "later"]
def b__law_first_lies : List S := [
  .set 4 (.e (.lc [("bidder", 5)] (.v 5) (.seq (.tup [.v 1, .v 2])) none (.call "_law_gain" f__law_gain [.v 0, .v 5, .ix (.v 3) (.v 5), .v 3]))),
  .loop (.v 6) (.seq (.call "_law_rows" f__law_rows [.k (.int 2), .ix (.v 0) (.k (.int 1))])) [
    .set 7 (.e (.call "_law_with" f__law_with [.call "_law_with" f__law_with [.v 3, .v 1, .ix (.v 6) (.k (.int 0))], .v 2, .ix (.v 6) (.k (.int 1))])),
    .ife (.cmp .gt (.call "_law_gain" f__law_gain [.v 0, .v 1, .ix (.v 3) (.v 1), .v 7]) (.ix (.v 4) (.k (.int 0)))) [
      .ife (.cmp .gt (.call "_law_gain" f__law_gain [.v 0, .v 2, .ix (.v 3) (.v 2), .v 7]) (.ix (.v 4) (.k (.int 1)))) [
        .ret (.v 6)] []] [],
    .drop 6,
    .drop 7],
  .ret (.k .none)]
def f__law_first_lies : PF := mkP 4 8 b__law_first_lies
def N__law_moved_to : List Str := ["order", "some", "found", "k"]
def b__law_moved_to : List S := [
  .set 2 (.rep (.k (.int 0)) (.prim .len [.v 1])),
  .loop (.v 3) (.rng (.prim .len [.v 1])) [
    .setix 2 (.ix (.v 0) (.v 3)) (.ix (.v 1) (.v 3)),
    .drop 3],
  .fz 2,
  .ret (.prim .tuple [.v 2])]
def f__law_moved_to : PF := mkP 2 4 b__law_moved_to
def N__law_rests : List Str := ["left", "bidder", "found", "number", "later", "row", "bid"]
def b__law_rests : List S := [
  .set 2 (.e (.lst [.tup []])),
  .loop (.v 3) (.rng (.prim .len [.v 0])) [
    .ife (.cmp .ne (.v 3) (.v 1)) [
      .set 4 (.e (.lst [])),
      .loop (.v 5) (.seq (.v 2)) [
        .set 4 (.e (.bin .add (.v 4) (.lc [("bid", 6)] (.v 6) (.seq (.ix (.v 0) (.v 3))) none (.bin .add (.v 5) (.tup [.v 6]))))),
        .drop 5],
      .set 2 (.e (.v 4))] [],
    .drop 3,
    .drop 4],
  .ret (.v 2)]
def f__law_rests : PF := mkP 2 7 b__law_rests
def N__law_is_beaten : List Str := ["rule", "bidder", "value", "left", "bid", "other", "gaps", "rest", "one"]
def b__law_is_beaten : List S := [
  .loop (.v 5) (.seq (.ix (.v 3) (.v 1))) [
    .set 6 .nil,
    .loop (.v 7) (.seq (.call "_law_rests" f__law_rests [.v 3, .v 1])) [
      .set 8 (.e (.call "_law_gain" f__law_gain [.v 0, .v 1, .v 2, .bin .add (.bin .add (.sl (.v 7) none (some (.v 1))) (.tup [.v 4])) (.sl (.v 7) (some (.v 1)) none)])),
      .app 6 (.bin .sub (.call "_law_gain" f__law_gain [.v 0, .v 1, .v 2, .bin .add (.bin .add (.sl (.v 7) none (some (.v 1))) (.tup [.v 5])) (.sl (.v 7) (some (.v 1)) none)]) (.v 8)),
      .drop 7,
      .drop 8],
    .fz 6,
    .ife (.band (.cmp .ge (.prim .min1 [.v 6]) (.k (.int 0))) (.cmp .gt (.prim .max1 [.v 6]) (.k (.int 0)))) [
      .ret (.k (.bool true))] [],
    .drop 5,
    .drop 6],
  .ret (.k (.bool false))]
def f__law_is_beaten : PF := mkP 5 9 b__law_is_beaten
def N_outcome_text : List Str := ["one", "winner", "amount"]
def b_outcome_text : List S := [
  .set 1 (.e (.ite (.cmp .isn (.ix (.v 0) (.k (.int 0))) (.k .none)) (.k (.str "-")) (.op .str1 [.ix (.v 0) (.k (.int 0))]))),
  .ret (.bin .add (.bin .add (.v 1) (.k (.str ":"))) (.op (.join ",") [.lc [("amount", 2)] (.v 2) (.seq (.ix (.v 0) (.k (.int 1)))) none (.op .str1 [.v 2])]))]
def f_outcome_text : PF := mkP 1 3 b_outcome_text
def N_rule_text : List Str := ["rule", "one"]
def b_rule_text : List S := [
  .ret (.op (.join " ") [.bin .add (.lst [.op .str1 [.ix (.v 0) (.k (.int 0))], .op .str1 [.ix (.v 0) (.k (.int 1))]]) (.lc [("one", 1)] (.v 1) (.seq (.ix (.v 0) (.k (.int 2)))) none (.call "outcome_text" f_outcome_text [.v 1]))])]
def f_rule_text : PF := mkP 1 2 b_rule_text
def N_format_rule : List Str := ["rule"]
def b_format_rule : List S := [
  .ex (.call "check_rule" f_check_rule [.v 0]),
  .ret (.call "rule_text" f_rule_text [.v 0])]
def f_format_rule : PF := mkP 1 1 b_format_rule
def N_read_outcome : List Str := ["word", "parts", "winner", "amount"]
def b_read_outcome : List S := [
  .set 1 (.e (.op (.split ":") [.v 0])),
  .set 2 (.e (.ite (.cmp .eq (.ix (.v 1) (.k (.int 0))) (.k (.str "-"))) (.k .none) (.call "number_of" numF [.ix (.v 1) (.k (.int 0))]))),
  .ret (.tup [.v 2, .prim .tuple [.lc [("amount", 3)] (.v 3) (.seq (.op (.split ",") [.ix (.v 1) (.neg (.k (.int 1)))])) none (.call "number_of" numF [.v 3])]])]
def f_read_outcome : PF := mkP 1 4 b_read_outcome
def N_parse_rule : List Str := ["text", "words", "sizes", "word", "found"]
def b_parse_rule : List S := [
  .ife (.bnot (.isi .str (.v 0))) [
    .raise "InvalidText"] [],
  .set 1 (.e (.op (.split " ") [.v 0])),
  .set 2 (.e (.prim .tuple [.lc [("word", 3)] (.v 3) (.seq (.sl (.v 1) none (some (.k (.int 2))))) none (.call "number_of" numF [.v 3])])),
  .set 4 (.e (.bin .add (.v 2) (.tup [.prim .tuple [.lc [("word", 3)] (.v 3) (.seq (.sl (.v 1) (some (.k (.int 2))) none)) none (.call "read_outcome" f_read_outcome [.v 3])]]))),
  .ife (.bor (.bnot (.call "is_rule" f_is_rule [.v 4])) (.cmp .ne (.call "rule_text" f_rule_text [.v 4]) (.v 0))) [
    .raise "InvalidText"] [],
  .ret (.v 4)]
def f_parse_rule : PF := mkP 1 5 b_parse_rule
def N__law_line : List Str := ["rule", "words", "winner", "pays", "front", "amount"]
def b__law_line : List S := [
  .set 1 (.lst [.op .str1 [.ix (.v 0) (.k (.int 0))], .op .str1 [.ix (.v 0) (.k (.int 1))]]),
  .loop (.t [.v 2, .v 3]) (.seq (.ix (.v 0) (.k (.int 2)))) [
    .set 4 (.e (.ite (.cmp .isn (.v 2) (.k .none)) (.k (.str "-")) (.op .str1 [.v 2]))),
    .app 1 (.bin .add (.bin .add (.v 4) (.k (.str ":"))) (.op (.join ",") [.lc [("amount", 5)] (.v 5) (.seq (.v 3)) none (.op .str1 [.v 5])])),
    .drop 2,
    .drop 3,
    .drop 4],
  .fz 1,
  .ret (.op (.join " ") [.v 1])]
def f__law_line : PF := mkP 1 6 b__law_line
def N__law_results : List Str := ["rule", "values", "rows"]
def b__law_results : List S := [
  .set 2 (.e (.lst [.call "first_lie" f_first_lie [.v 0], .call "is_truthful" f_is_truthful [.v 0], .call "first_break" f_first_break [.v 0], .call "first_loss" f_first_loss [.v 0], .call "joint_lie" f_joint_lie [.v 0], .call "is_rising" f_is_rising [.v 0]])),
  .set 2 (.e (.bin .add (.v 2) (.lst [.call "priced" f_priced [.v 0, .k (.str "most")], .call "incomes" f_incomes [.v 0], .call "first_waste" f_first_waste [.v 0], .call "calm" f_calm [.v 0, .v 1], .call "kept" f_kept [.v 0, .v 1]]))),
  .ret (.bin .add (.v 2) (.lst [.call "format_rule" f_format_rule [.v 0], .call "best_bids" f_best_bids [.v 0, .k (.int 0), .ix (.v 1) (.k (.int 0)), .sl (.v 1) (some (.k (.int 1))) none], .call "more_income" f_more_income [.v 0, .v 0]]))]
def f__law_results : PF := mkP 2 3 b__law_results
def N__law_gains : List Str := ["rule", "values", "bid"]
def b__law_gains : List S := [
  .ret (.lc [("bid", 2)] (.v 2) (.rng (.bin .add (.ix (.v 0) (.k (.int 1))) (.k (.int 1)))) none (.call "gain" f_gain [.v 0, .k (.int 0), .ix (.v 1) (.k (.int 0)), .bin .add (.tup [.v 2]) (.sl (.v 1) (some (.k (.int 1))) none)]))]
def f__law_gains : PF := mkP 2 3 b__law_gains
end Pg

set_option Elab.async false
set_option linter.all false
set_option maxRecDepth 100000
set_option maxHeartbeats 1000000
/-! PgR: typed data, the rows. -/
namespace Pg
open PySem Sb
/-! ### typed data -/
def tN (l : List Nat) : D := .tuple (l.map fun (x : Nat) => PyData.int (x : Int))
abbrev Oc := Option Nat × List Nat
def wD : Option Nat -> D
  | none => .none
  | some i => .int (i : Int)
def eO (o : Oc) : D := .tuple [wD o.1, tN o.2]
structure Rl where
  b : Nat
  t : Nat
  os : List Oc
def eR (R : Rl) : D := .tuple [.int (R.b : Int), .int (R.t : Int), .tuple (R.os.map eO)]
def rowsN : Nat -> Nat -> List (List Nat)
  | 0, _ => [[]]
  | n + 1, t => (rowsN n t).flatMap fun row => (List.range (t + 1)).map fun x => row ++ [x]
def VB (b t : Nat) (l : List Nat) : Prop := l.length = b ∧ ∀ x ∈ l, x ≤ t
def OcOk (b : Nat) (o : Oc) : Prop := o.2.length = b ∧ (∀ p ∈ o.2, p ≤ 9) ∧ ∀ w, o.1 = some w -> w < b
structure WF (R : Rl) : Prop where
  b2 : 2 ≤ R.b
  b3 : R.b ≤ 3
  t1 : 1 ≤ R.t
  t4 : R.t ≤ 4
  sz : R.b = 2 ∨ R.t ≤ 2
  len : R.os.length = (R.t + 1) ^ R.b
  ocs : ∀ o ∈ R.os, OcOk R.b o
def place (t : Nat) (l : List Nat) : Nat := l.foldl (fun p x => p * (t + 1) + x) 0
def out (R : Rl) (l : List Nat) : Oc := (R.os[place R.t l]?).getD (none, [])
theorem place_lt {t : Nat} : ∀ {l : List Nat} (p m : Nat), p < m -> (∀ x ∈ l, x ≤ t) -> l.foldl (fun p x => p * (t + 1) + x) p < m * (t + 1) ^ l.length
  | [], p, m, h, _ => by simpa using h
  | x :: l, p, m, h, hx => by
    have h1 : p * (t + 1) + x < m * (t + 1) := by
      have := hx x List.mem_cons_self
      have h2 : (p + 1) * (t + 1) ≤ m * (t + 1) := Nat.mul_le_mul_right _ h
      rw [Nat.add_mul, Nat.one_mul] at h2
      omega
    have := place_lt (l := l) _ _ h1 fun y hy => hx y (List.mem_cons_of_mem _ hy)
    rw [List.length_cons, Nat.pow_succ, Nat.mul_comm ((t + 1) ^ l.length), ← Nat.mul_assoc]
    exact this
theorem VB.place {b t : Nat} {l : List Nat} (h : VB b t l) : place t l < (t + 1) ^ b := by
  have := place_lt (t := t) (l := l) 0 1 (by omega) h.2
  rw [Nat.one_mul, h.1] at this
  exact this
theorem WF.out {R : Rl} (h : WF R) {l : List Nat} (hl : VB R.b R.t l) : R.os[place R.t l]? = some (out R l) ∧ OcOk R.b (out R l) := by
  have hp : Pg.place R.t l < R.os.length := by rw [h.len]; exact hl.place
  have e : R.os[Pg.place R.t l]? = some R.os[Pg.place R.t l] := List.getElem?_eq_getElem hp
  have : Pg.out R l = R.os[Pg.place R.t l] := by unfold Pg.out; rw [e]; rfl
  rw [this]
  exact ⟨e, h.ocs _ (List.getElem_mem hp)⟩
theorem all_bids_ok : ∀ b t : Nat, 1 ≤ b -> b ≤ 3 -> 1 ≤ t -> t ≤ 4 -> (b ≤ 2 ∨ t ≤ 2) -> f_all_bids [.int (b : Int), .int (t : Int)] = .ok (.list ((rowsN b t).map tN))
  | 1, 1, _, _, _, _, _ => beqO_eq (by decide +kernel)
  | 1, 2, _, _, _, _, _ => beqO_eq (by decide +kernel)
  | 1, 3, _, _, _, _, _ => beqO_eq (by decide +kernel)
  | 1, 4, _, _, _, _, _ => beqO_eq (by decide +kernel)
  | 2, 1, _, _, _, _, _ => beqO_eq (by decide +kernel)
  | 2, 2, _, _, _, _, _ => beqO_eq (by decide +kernel)
  | 2, 3, _, _, _, _, _ => beqO_eq (by decide +kernel)
  | 2, 4, _, _, _, _, _ => beqO_eq (by decide +kernel)
  | 3, 1, _, _, _, _, _ => beqO_eq (by decide +kernel)
  | 3, 2, _, _, _, _, _ => beqO_eq (by decide +kernel)
  | 3, 3, _, _, _, _, h => absurd h (by omega)
  | 3, 4, _, _, _, _, h => absurd h (by omega)
  | 0, _, h, _, _, _, _ => absurd h (by omega)
  | n + 4, _, _, h, _, _, _ => absurd h (by omega)
  | _, 0, _, _, h, _, _ => absurd h (by omega)
  | _, n + 5, _, _, _, h, _ => absurd h (by omega)
end Pg

set_option Elab.async false
set_option linter.all false
set_option maxRecDepth 100000
set_option maxHeartbeats 1000000
/-! PgA: what the defs compute, first part. -/
namespace Pg
open PySem Sb
/-! ### the defs -/
theorem is_between_int (v lo hi : Int) : f_is_between [.int v, .int lo, .int hi] = .ok (.bool (decide (lo ≤ v) && decide (v ≤ hi))) := by
  rw [pf (f := f_is_between) rfl _ [some (.d (.int v)), some (.d (.int lo)), some (.d (.int hi))] rfl rfl]
  by_cases h : lo ≤ v <;> simp [b_is_between, h]
theorem are_bids_t (b t : Int) (l : List Nat) (hl : l.length ≤ 1000) : f_are_bids [.int b, .int t, tN l] = .ok (.bool (decide ((l.length : Int) = b) && l.all fun x => decide ((x : Int) ≤ t))) := by
  rw [pf (f := f_are_bids) rfl _ [some (.d (.int b)), some (.d (.int t)), some (.d (tN l)), none] rfl rfl]
  by_cases h : (l.length : Int) = b
  · simp [b_are_bids, tN, h]
    rw [lcA_map (g := fun (x : Nat) => .bool (decide ((x : Int) ≤ t)))]
    · simp [small_of (show l.length + 1 ≤ 16777216 by omega), boolsD_map]
    · intro a ha
      rw [lcTurn_eq]
      simp [is_between_int]
  · simp [b_are_bids, tN, h]
theorem is_outcome_ok {b : Nat} {o : Oc} (h : OcOk b o) (hb : b ≤ 1000) : f_is_outcome [.int (b : Int), eO o] = .ok (.bool true) := by
  rw [pf (f := f_is_outcome) rfl _ [some (.d (.int (b : Int))), some (.d (eO o))] rfl rfl]
  obtain ⟨w, p⟩ := o
  obtain ⟨h1, h2, h3⟩ := h
  simp only at h1 h2 h3
  have e : (p.all fun x => decide ((x : Int) ≤ 9)) = true := by
    rw [List.all_eq_true]
    intro x hx
    have := h2 x hx
    exact decide_eq_true (by omega)
  have ea : f_are_bids [.int (b : Int), .int 9, tN p] = .ok (.bool true) := by
    rw [are_bids_t _ _ _ (by omega), e, h1]
    simp
  cases w with
  | none => simp [b_is_outcome, eO, ea, wD]
  | some w =>
    have := h3 w rfl
    have e2 : (decide ((0 : Int) ≤ (w : Int)) && decide ((w : Int) ≤ (b : Int) - 1)) = true := by
      rw [Bool.and_eq_true]
      exact ⟨decide_eq_true (by omega), decide_eq_true (by omega)⟩
    simp [b_is_outcome, eO, ea, wD, is_between_int]
    omega
theorem rowsN_len (t : Nat) : ∀ b, (rowsN b t).length = (t + 1) ^ b
  | 0 => rfl
  | b + 1 => by
    rw [rowsN, List.length_flatMap]
    simp [rowsN_len t b, Nat.pow_succ, List.map_const']
theorem pow_small {b t : Nat} (hb : b ≤ 3) (ht : t ≤ 4) : (t + 1) ^ b ≤ 125 := by
  calc (t + 1) ^ b ≤ 5 ^ b := Nat.pow_le_pow_left (by omega) _
    _ ≤ 5 ^ 3 := Nat.pow_le_pow_right (by omega) hb
theorem is_rule_ok {R : Rl} (h : WF R) : f_is_rule [eR R] = .ok (.bool true) := by
  rw [pf (f := f_is_rule) rfl _ [some (.d (eR R)), none, none, none, none] rfl rfl]
  obtain ⟨h1, h2, h3, h4, hz, h5, h6⟩ := h
  have q1 : f_is_between [.int (R.b : Int), .int 2, .int 3] = .ok (.bool true) := by
    rw [is_between_int, decide_eq_true (by omega), decide_eq_true (by omega)]; rfl
  have q2 : f_is_between [.int (R.t : Int), .int 1, .int 4] = .ok (.bool true) := by
    rw [is_between_int, decide_eq_true (by omega), decide_eq_true (by omega)]; rfl
  have q3 := all_bids_ok R.b R.t (by omega) h2 h3 h4 (by omega)
  have hs := pow_small h2 h4
  simp [b_is_rule, eR, q1, q2, q3, rowsN_len, h5]
  rw [lcA_map (g := fun _ => .bool true)]
  · simp [h5, small_of (show (R.t + 1) ^ R.b + 1 ≤ 16777216 by omega), boolsD_map (fun _ => true)]
  · intro a ha
    rw [lcTurn_eq]
    simp [is_outcome_ok (h6 a ha) (by omega)]
theorem check_rule_ok {R : Rl} (h : WF R) : f_check_rule [eR R] = .ok .none := by
  rw [pf (f := f_check_rule) rfl _ [some (.d (eR R))] rfl rfl]
  simp [b_check_rule, is_rule_ok h]
theorem check_bidder_ok {R : Rl} {i : Nat} (h : i < R.b) : f_check_bidder [eR R, .int (i : Int)] = .ok .none := by
  rw [pf (f := f_check_bidder) rfl _ [some (.d (eR R)), some (.d (.int (i : Int)))] rfl rfl]
  have q : f_is_between [.int (i : Int), .int 0, .int ((R.b : Int) - 1)] = .ok (.bool true) := by
    rw [is_between_int, decide_eq_true (by omega), decide_eq_true (by omega)]; rfl
  simp [b_check_bidder, eR, q]
theorem check_value_ok {R : Rl} {i : Nat} (h : i ≤ R.t) : f_check_value [eR R, .int (i : Int)] = .ok .none := by
  rw [pf (f := f_check_value) rfl _ [some (.d (eR R)), some (.d (.int (i : Int)))] rfl rfl]
  have q : f_is_between [.int (i : Int), .int 0, .int (R.t : Int)] = .ok (.bool true) := by
    rw [is_between_int, decide_eq_true (by omega), decide_eq_true (by omega)]; rfl
  simp [b_check_value, eR, q]
theorem are_bids_ok {b t : Nat} {l : List Nat} (hb : b ≤ 1000) (h : VB b t l) : f_are_bids [.int (b : Int), .int (t : Int), tN l] = .ok (.bool true) := by
  have e : (l.all fun x => decide ((x : Int) ≤ (t : Int))) = true := by
    rw [List.all_eq_true]
    intro x hx
    have := h.2 x hx
    exact decide_eq_true (by omega)
  rw [are_bids_t _ _ _ (by rw [h.1]; exact hb), e, h.1]
  simp
theorem check_bids_ok {R : Rl} {l : List Nat} (w : WF R) (h : VB R.b R.t l) : f_check_bids [eR R, tN l] = .ok .none := by
  rw [pf (f := f_check_bids) rfl _ [some (.d (eR R)), some (.d (tN l))] rfl rfl]
  have := w.b3
  simp [b_check_bids, eR, are_bids_ok (show R.b ≤ 1000 by omega) h]
theorem check_rest_ok {R : Rl} {l : List Nat} (w : WF R) (h : VB (R.b - 1) R.t l) : f_check_rest [eR R, tN l] = .ok .none := by
  rw [pf (f := f_check_rest) rfl _ [some (.d (eR R)), some (.d (tN l))] rfl rfl]
  have := w.b3
  have := w.b2
  have e : ((R.b : Int) - 1) = ((R.b - 1 : Nat) : Int) := by omega
  simp [b_check_rest, eR, e, are_bids_ok (show R.b - 1 ≤ 1000 by omega) h]
theorem outcome_of_raw {x : D} {os : List D} {t : Nat} {l : List Nat} {o : D} (ht : t ≤ 1000) (h : os[place t l]? = some o) : f_outcome_of [.tuple [x, .int (t : Int), .tuple os], tN l] = .ok o := by
  rw [pf (f := f_outcome_of) rfl _ [some (.d (.tuple [x, .int (t : Int), .tuple os])), some (.d (tN l)), none, none] rfl rfl]
  have e2 : L2.atI os ((l.foldl (fun p x => p * (t + 1) + x) 0 : Nat) : Int) = some o := atI_of rfl h
  have e1 : itemsD (tN l) = .ok (l.map fun (x : Nat) => PyData.int (x : Int)) := rfl
  simp -implicitDefEqProofs [b_outcome_of, e1]
  have key := loop_st (f := fun (x : Nat) => PyData.int (x : Int)) (tg := .v 3) (body := [.set 2 (.e (.bin .add (.bin .mul (.v 2) (.bin .add (.ix (.v 0) (.k (.int 1))) (.k (.int 1)))) (.v 3))), .drop 3])
    (fun (p : Nat) => [some (.d (.tuple [x, .int (t : Int), .tuple os])), some (.d (tN l)), some (.d (.int (p : Int))), none]) (fun p x => p * (t + 1) + x) (l := l) 0 fun b a _ => by
      have hm := mul_s (i := (b : Int)) (j := (t : Int) + 1) (by omega) (by omega)
      simp -implicitDefEqProofs [hm]
  rw [show ((0 : Nat) : Int) = 0 from rfl] at key
  rw [key]
  simp -implicitDefEqProofs [e2]
theorem outcome_of_at {R : Rl} {l : List Nat} {o : Oc} (ht : R.t ≤ 1000) (h : R.os[place R.t l]? = some o) : f_outcome_of [eR R, tN l] = .ok (eO o) := outcome_of_raw ht (by rw [List.getElem?_map, h]; rfl)
theorem outcome_of_ok {R : Rl} (w : WF R) {l : List Nat} (h : VB R.b R.t l) : f_outcome_of [eR R, tN l] = .ok (eO (out R l)) := outcome_of_at (by have := w.t4; omega) (w.out h).1
theorem outcome_ok {R : Rl} (w : WF R) {l : List Nat} (h : VB R.b R.t l) : f_outcome [eR R, tN l] = .ok (eO (out R l)) := by
  rw [pf (f := f_outcome) rfl _ [some (.d (eR R)), some (.d (tN l))] rfl rfl]
  simp [b_outcome, check_rule_ok w, check_bids_ok w h, outcome_of_ok w h]
theorem sh_none : SeqAt.shaped .none = true := by decide +kernel
theorem sh_int (i : Int) : SeqAt.shaped (.int i) = true := by
  simp [SeqAt.shaped, PyData.canLay0, PyData.depth]
theorem eq_w (w : Option Nat) (i : Nat) : eqD (wD w) (.int (i : Int)) = .ok (decide (w = some i)) := by
  cases w with
  | none =>
    rw [wD, eq_sh sh_none (sh_int _)]
    simp [PyData.eqv]
  | some j =>
    simp only [wD, eq_ii]
    congr 1
    exact decide_eq_decide.mpr ⟨fun h => by rw [Int.ofNat_inj.mp h], fun h => by cases h; rfl⟩
def gainT (R : Rl) (i v : Nat) (l : List Nat) : Int := (if (out R l).1 = some i then (v : Int) else 0) - (((out R l).2[i]?).getD 0 : Nat)
theorem tN_at {l : List Nat} {i : Nat} (h : i < l.length) : L2.atI (l.map fun (x : Nat) => PyData.int (x : Int)) (i : Int) = some (.int ((l[i]?).getD 0 : Nat)) :=
  atI_of rfl (by rw [List.getElem?_map, List.getElem?_eq_getElem h]; rfl)
theorem gain_of_ok {R : Rl} (w : WF R) {i v : Nat} {l : List Nat} (hi : i < R.b) (h : VB R.b R.t l) : f_gain_of [eR R, .int (i : Int), .int (v : Int), tN l] = .ok (.int (gainT R i v l)) := by
  rw [pf (f := f_gain_of) rfl _ [some (.d (eR R)), some (.d (.int (i : Int))), some (.d (.int (v : Int))), some (.d (tN l)), none, none] rfl rfl]
  have ho := (w.out h).2.1
  have e := tN_at (l := (out R l).2) (i := i) (by rw [ho]; exact hi)
  have ho2 := outcome_of_ok w h
  by_cases z : (out R l).1 = some i
  · have e3 := eq_w (out R l).1 i
    rw [z] at e3
    simp [b_gain_of, ho2]
    simp [eO, e3, z]
    simp [tN, e, gainT, z]
  · have e3 := eq_w (out R l).1 i
    simp [b_gain_of, ho2]
    simp [eO, e3, z]
    simp [tN, e, gainT, z]
theorem gain_ok {R : Rl} (w : WF R) {i v : Nat} {l : List Nat} (hi : i < R.b) (hv : v ≤ R.t) (h : VB R.b R.t l) : f_gain [eR R, .int (i : Int), .int (v : Int), tN l] = .ok (.int (gainT R i v l)) := by
  rw [pf (f := f_gain) rfl _ [some (.d (eR R)), some (.d (.int (i : Int))), some (.d (.int (v : Int))), some (.d (tN l))] rfl rfl]
  simp [b_gain, check_rule_ok w, check_bidder_ok hi, check_value_ok hv, check_bids_ok w h, gain_of_ok w hi h]
end Pg

set_option Elab.async false
set_option linter.all false
set_option maxRecDepth 100000
set_option maxHeartbeats 1000000
/-! PgD: shapes of data; the draws. -/
namespace Pg
open PySem Sb
def Sh (n : Nat) (d : D) : Prop := d.canLay0 = true ∧ d.depth ≤ n
theorem Sh.shaped {n : Nat} {d : D} (h : Sh n d) (hn : n ≤ 64) : SeqAt.shaped d = true := by
  unfold SeqAt.shaped
  rw [h.1, decide_eq_true (Nat.le_trans h.2 hn)]
  rfl
theorem Sh.mono {n m : Nat} {d : D} (h : Sh n d) (hn : n ≤ m) : Sh m d := ⟨h.1, Nat.le_trans h.2 hn⟩
theorem shI (i : Int) : Sh 1 (.int i) := ⟨rfl, by simp [PyData.depth]⟩
theorem shN : Sh 1 .none := ⟨rfl, by simp [PyData.depth]⟩
theorem shB (b : Bool) : Sh 1 (.bool b) := ⟨rfl, by simp [PyData.depth]⟩
theorem lay_all : ∀ {xs : List D}, (∀ x ∈ xs, x.canLay0 = true) -> PyData.canLayAll0 xs = true
  | [], _ => rfl
  | x :: r, h => by
    simp only [PyData.canLayAll0, Bool.and_eq_true]
    exact ⟨h x List.mem_cons_self, lay_all fun y hy => h y (List.mem_cons_of_mem _ hy)⟩
theorem depth_all {n : Nat} : ∀ {xs : List D}, (∀ x ∈ xs, x.depth ≤ n) -> PyData.depthAll xs ≤ n
  | [], _ => by simp [PyData.depthAll]
  | x :: r, h => by
    simp only [PyData.depthAll]
    exact Nat.max_le.mpr ⟨h x List.mem_cons_self, depth_all fun y hy => h y (List.mem_cons_of_mem _ hy)⟩
theorem shL {n : Nat} {xs : List D} (h : ∀ x ∈ xs, Sh n x) : Sh (n + 1) (.list xs) := by
  refine ⟨?_, ?_⟩
  · simp only [PyData.canLay0]; exact lay_all fun x hx => (h x hx).1
  · have := depth_all fun x hx => (h x hx).2
    simp only [PyData.depth]; omega
theorem shT {n : Nat} {xs : List D} (h : ∀ x ∈ xs, Sh n x) : Sh (n + 1) (.tuple xs) := by
  refine ⟨?_, ?_⟩
  · simp only [PyData.canLay0]; exact lay_all fun x hx => (h x hx).1
  · have := depth_all fun x hx => (h x hx).2
    simp only [PyData.depth]; omega
theorem shIs (l : List Int) : Sh 2 (.list (l.map .int)) := shL fun x hx => by
  obtain ⟨i, _, rfl⟩ := List.mem_map.mp hx
  exact shI i
/-! ### a def with a lent list -/
def outS (a : Res) : Out (D × List D) := match a with
  | .rt d r => (cellOf r 1).bnd fun t2 => .ok (d, t2)
  | .nx r => (cellOf r 1).bnd fun t2 => .ok (.none, t2)
@[simp] theorem outS_rt (d : D) (r : En) : outS (.rt d r) = (cellOf r 1).bnd fun t2 => .ok (d, t2) := rfl
theorem sf {f : SF} {n m : Nat} {body : List S} (hf : f = mkS n m body) (x : D) (args : List D) (t : List D) (r : En) (h : args.length + 2 = n) (hr : some (Rv.d x) :: some (Rv.c t) :: args.map (fun x => some (Rv.d x)) ++ List.replicate (m - n) none = r) : f (x :: args) t = (runs body r).bnd outS := by
  rw [hf]
  unfold mkS
  rw [decide_eq_true (show (x :: args).length + 1 = n by simpa using h)]
  rw [chk_true, ← hr]
  rfl
theorem at_0 {A : Type} {x : A} {r : List A} : L2.atI (x :: r) 0 = some x := atI_of (n := 0) rfl rfl
theorem ixN_of {n : Nat} {i : Int} {j : Nat} (h : i = (j : Int)) (hj : j < n) : L2.ixN n i = some j := by
  unfold L2.ixN
  rw [if_pos (by omega), if_pos (by omega), h, Int.toNat_natCast]
@[simp] theorem setCell_i {r : En} {s : Nat} {k : Int} {x : D} : setCell r s (.int k) x = (cellOf r s).bnd fun l => (ofO (L2.ixN l.length k)).bnd fun j => .ok (recell r s (l.set j x)) := rfl
@[simp] theorem sm0 : small 0 = true := rfl
@[simp] theorem sm1 : small 1 = true := rfl
@[simp] theorem sm2 : small 2 = true := rfl
@[simp] theorem sm3 : small 3 = true := rfl
@[simp] theorem sm4 : small 4 = true := rfl
@[simp] theorem sm5 : small 5 = true := rfl
@[simp] theorem sm6 : small 6 = true := rfl
@[simp] theorem sm7 : small 7 = true := rfl
@[simp] theorem sm8 : small 8 = true := rfl
@[simp] theorem sm9 : small 9 = true := rfl
@[simp] theorem sm10 : small 10 = true := rfl
@[simp] theorem sm11 : small 11 = true := rfl
@[simp] theorem sm12 : small 12 = true := rfl
/-- the town: how many draws, what is left of the script -/
def tw (c : Nat) (rs : List Int) : List D := .int (c : Int) :: rs.map .int
theorem draw_ok (ns rs : List Int) (c L : Nat) (hr : rs.length = ns.length) (hc : c < 100000) (h1 : 1 ≤ L) (h2 : L ≤ 1000000) :
    ∃ (v : Nat) (rs' : List Int), v < L ∧ rs'.length = ns.length ∧ f__law_draw [.list (ns.map .int), .int (L : Int)] (tw c rs) = .ok (.int (v : Int), tw (c + 1) rs') := by
  rw [sf (f := f__law_draw) rfl _ [.int (L : Int)] (tw c rs) [some (.d (.list (ns.map .int))), some (.c (tw c rs)), some (.d (.int (L : Int))), none, none, none] rfl rfl]
  have hL : (0 : Int) < (L : Int) := by omega
  have hLd : decide ((0 : Int) < (L : Int)) = true := decide_eq_true hL
  have hLn : 0 < L := h1
  have hLa : ab (L : Int) 1073741823 = true := ab_of (by omega) (by omega)
  have modL : ∀ x : Int, ∃ v : Nat, v < L ∧ x % (L : Int) = (v : Int) := fun x => by
    have a1 := Int.emod_nonneg x (show (L : Int) ≠ 0 by omega)
    have a2 := Int.emod_lt_of_pos x hL
    exact ⟨(x % (L : Int)).toNat, by omega, by omega⟩
  have i0 : L2.ixN (rs.length + 1) 0 = some 0 := ixN_of (j := 0) rfl (by omega)
  cases ns with
  | nil =>
    obtain ⟨v, hv, ev⟩ := modL (((c + 1 : Nat) : Int) * ((c + 1 : Nat) : Int) * 7 / 3)
    refine ⟨v, rs, hv, hr, ?_⟩
    have e0 : eqD (.list []) (.list []) = .ok true := by rw [eq_sh (by decide +kernel) (by decide +kernel)]; simp [PyData.eqv, PyData.eqvAll]
    have m1 := mul_s (i := (c : Int) + 1) (j := (c : Int) + 1) (by omega) (by omega)
    have m2 := mul_s (i := ((c : Int) + 1) * ((c : Int) + 1)) (j := 7) (by omega) (by omega)
    have a3 : ab 3 1073741823 = true := by decide
    have ev' : ((c : Int) + 1) * ((c : Int) + 1) * 7 / 3 % (L : Int) = (v : Int) := by rw [← ev]; simp
    simp [b__law_draw, tw, at_0, i0, e0, m1, m2, a3, hLd, hLn, ev']
  | cons n0 ns =>
    have hlen : rs.length = ns.length + 1 := by simpa using hr
    let a := (c + 1) % (ns.length + 1)
    have ha : a < ns.length + 1 := Nat.mod_lt _ (by omega)
    have ea : ((c : Int) + 1) % ((ns.length : Int) + 1) = (a : Int) := by
      show _ = (((c + 1) % (ns.length + 1) : Nat) : Int)
      simp
    have e0 : eqD (.list ((n0 :: ns).map .int)) (.list []) = .ok false := by
      rw [eq_sh ((shIs _).shaped (by omega)) (by decide +kernel)]
      simp [PyData.eqv, PyData.eqvAll]
    simp only [List.map_cons] at e0
    have hlp : decide ((0 : Int) < (ns.length : Int) + 1) = true := decide_eq_true (by omega)
    obtain ⟨x, hx⟩ : ∃ x, (n0 :: ns)[a]? = some x := ⟨_, List.getElem?_eq_getElem (by simpa using ha)⟩
    obtain ⟨y, hy⟩ : ∃ y, rs[a]? = some y := ⟨_, List.getElem?_eq_getElem (by omega)⟩
    have ax : L2.atI (PyData.int n0 :: ns.map .int) (a : Int) = some (.int x) := by
      refine atI_of rfl ?_
      rw [← List.map_cons (f := PyData.int), List.getElem?_map, hx]
      rfl
    have ay : ∀ z : D, L2.atI (z :: rs.map .int) (1 + (a : Int)) = some (.int y) := fun z => by
      refine atI_of (n := a + 1) (by omega) ?_
      rw [List.getElem?_cons_succ, List.getElem?_map, hy]
      rfl
    have iy : L2.ixN (rs.length + 1) (1 + (a : Int)) = some (a + 1) := ixN_of (by omega) (by omega)
    have p1 : ab 18 1000000 = true := by decide
    have p2 : ab 10 18446744073709551615 = true := by decide
    have p3 : ab 5 1000000 = true := by decide
    have p4 : ab 64 1073741823 = true := by decide
    have p5 : ab 8 1073741823 = true := by decide
    have m1 := mul_sl (i := 104729) (j := (c : Int) + 1) (by omega) (by omega)
    by_cases hb : (1000000000000000000 : Int) ≤ x ∧ 0 < y
    · obtain ⟨v, hv, ev⟩ := modL y
      refine ⟨v, rs.set a (y / (L : Int)), hv, by simpa using hlen, ?_⟩
      simp [b__law_draw, tw, at_0, i0, e0, hLd, hLn, hlp, ea, ax, ay, iy, p1, p2, hb.1, hb.2, hLa, ev, List.map_set]
    · let z := (x + 104729 * ((c : Int) + 1)) % 4294967291
      have hz1 : 0 ≤ z := Int.emod_nonneg _ (by decide)
      have hz2 : z < 4294967291 := Int.emod_lt_of_pos _ (by decide)
      have hz : ab z 18446744073709551615 = true := ab_of (by omega) (by omega)
      let u := z ^ 5 % 4294967279
      have m2 := mul_s (i := u / 64) (j := 69621) (by omega) (by omega)
      obtain ⟨v, hv, ev⟩ := modL ((u / 64 * 69621 + u) % 4294967231 / 8)
      refine ⟨v, rs, hv, by simpa using hlen, ?_⟩
      have ez : (x + 104729 * ((c : Int) + 1)) % 4294967291 = z := rfl
      have eu : z ^ 5 % 4294967279 = u := rfl
      by_cases hb1 : (1000000000000000000 : Int) ≤ x
      · have hy0 : ¬ 0 < y := fun q => hb ⟨hb1, q⟩
        simp [b__law_draw, tw, at_0, i0, e0, hLd, hLn, hlp, ea, ax, ay, iy, p1, p2, p3, p4, p5, hb1, hy0, m1, ez, hz, eu, m2, ev]
      · simp [b__law_draw, tw, at_0, i0, e0, hLd, hLn, hlp, ea, ax, ay, iy, p1, p2, p3, p4, p5, hb1, m1, ez, hz, eu, m2, ev]
theorem pick_ok (ns rs : List Int) (c : Nat) (xs : List D) (hr : rs.length = ns.length) (hc : c < 100000) (h1 : xs ≠ []) (h2 : xs.length ≤ 1000) :
    ∃ (x : D) (rs' : List Int), x ∈ xs ∧ rs'.length = ns.length ∧ f__law_pick [.list (ns.map .int), .list xs] (tw c rs) = .ok (x, tw (c + 1) rs') := by
  rw [sf (f := f__law_pick) rfl _ [.list xs] (tw c rs) [some (.d (.list (ns.map .int))), some (.c (tw c rs)), some (.d (.list xs))] rfl rfl]
  have hp : 1 ≤ xs.length := by
    cases xs with
    | nil => exact absurd rfl h1
    | cons _ _ => simp
  obtain ⟨v, rs', hv, hr', e⟩ := draw_ok ns rs c xs.length hr hc hp (by omega)
  have ex : xs[v]? = some xs[v] := List.getElem?_eq_getElem hv
  refine ⟨xs[v], rs', List.getElem_mem hv, hr', ?_⟩
  have ai : L2.atI xs (v : Int) = some xs[v] := atI_of rfl ex
  simp [b__law_pick, e, ai]
def szs : List (Nat × Nat) := [(2, 1), (2, 2), (2, 2), (2, 3), (3, 1), (3, 2), (2, 4)]
theorem sizes_ok (ns rs : List Int) (c : Nat) (hr : rs.length = ns.length) (hc : c < 100000) :
    ∃ (b t : Nat) (rs' : List Int), (b, t) ∈ szs ∧ rs'.length = ns.length ∧ f__law_sizes [.list (ns.map .int)] (tw c rs) = .ok (.tuple [.int (b : Int), .int (t : Int)], tw (c + 1) rs') := by
  rw [sf (f := f__law_sizes) rfl _ [] (tw c rs) [some (.d (.list (ns.map .int))), some (.c (tw c rs))] rfl rfl]
  obtain ⟨x, rs', hx, hr', e⟩ := pick_ok ns rs c (szs.map fun p => .tuple [.int (p.1 : Int), .int (p.2 : Int)]) hr hc (by simp [szs]) (by simp [szs])
  obtain ⟨⟨b, t⟩, hp, rfl⟩ := List.mem_map.mp hx
  refine ⟨b, t, rs', hp, hr', ?_⟩
  simp [szs] at e
  simp [b__law_sizes, e]
end Pg

set_option Elab.async false
set_option linter.all false
set_option maxRecDepth 100000
set_option maxHeartbeats 1000000
/-! PgB: rows, places, what the laws' own defs give. -/
namespace Pg
open PySem Sb
theorem mem_rows {t : Nat} : ∀ {n : Nat} {l : List Nat}, l ∈ rowsN n t ↔ VB n t l
  | 0, l => by
    constructor
    · intro h
      have : l = [] := by simpa [rowsN] using h
      subst this
      exact ⟨rfl, fun x hx => by simp at hx⟩
    · intro h
      have : l = [] := List.eq_nil_of_length_eq_zero h.1
      subst this
      simp [rowsN]
  | n + 1, l => by
    constructor
    · intro h
      simp only [rowsN, List.mem_flatMap, List.mem_map, List.mem_range] at h
      obtain ⟨row, h1, x, h2, rfl⟩ := h
      have := mem_rows.mp h1
      refine ⟨by simp [this.1], fun y hy => ?_⟩
      rcases List.mem_append.mp hy with hy | hy
      · exact this.2 y hy
      · have : y = x := by simpa using hy
        omega
    · intro h
      have hne : l ≠ [] := fun z => by
        have := h.1
        rw [z] at this
        simp at this
      simp only [rowsN, List.mem_flatMap, List.mem_map, List.mem_range]
      refine ⟨l.dropLast, mem_rows.mpr ⟨by simp [h.1], fun y hy => h.2 y (List.dropLast_subset l hy)⟩, l.getLast hne, ?_, List.dropLast_concat_getLast hne⟩
      have := h.2 _ (List.getLast_mem hne)
      omega
theorem rows_ok : ∀ b t : Nat, 1 ≤ b -> b ≤ 3 -> 1 ≤ t -> t ≤ 4 -> (b ≤ 2 ∨ t ≤ 2) -> f__law_rows [.int (b : Int), .int (t : Int)] = .ok (.list ((rowsN b t).map tN))
  | 1, 1, _, _, _, _, _ => beqO_eq (by decide +kernel)
  | 1, 2, _, _, _, _, _ => beqO_eq (by decide +kernel)
  | 1, 3, _, _, _, _, _ => beqO_eq (by decide +kernel)
  | 1, 4, _, _, _, _, _ => beqO_eq (by decide +kernel)
  | 2, 1, _, _, _, _, _ => beqO_eq (by decide +kernel)
  | 2, 2, _, _, _, _, _ => beqO_eq (by decide +kernel)
  | 2, 3, _, _, _, _, _ => beqO_eq (by decide +kernel)
  | 2, 4, _, _, _, _, _ => beqO_eq (by decide +kernel)
  | 3, 1, _, _, _, _, _ => beqO_eq (by decide +kernel)
  | 3, 2, _, _, _, _, _ => beqO_eq (by decide +kernel)
  | 3, 3, _, _, _, _, h => absurd h (by omega)
  | 3, 4, _, _, _, _, h => absurd h (by omega)
  | 0, _, h, _, _, _, _ => absurd h (by omega)
  | n + 4, _, _, h, _, _, _ => absurd h (by omega)
  | _, 0, _, _, h, _, _ => absurd h (by omega)
  | _, n + 5, _, _, _, h, _ => absurd h (by omega)
/-- a row stands at its place -/
def idxB (b t : Nat) : Bool := (rowsN b t).all fun l => decide (indexOf (tN l) ((rowsN b t).map tN) = some (place t l))
theorem idx_ok : ∀ b t : Nat, 2 ≤ b -> b ≤ 3 -> 1 ≤ t -> t ≤ 4 -> (b = 2 ∨ t ≤ 2) -> idxB b t = true
  | 2, 1, _, _, _, _, _ => by decide +kernel
  | 2, 2, _, _, _, _, _ => by decide +kernel
  | 2, 3, _, _, _, _, _ => by decide +kernel
  | 2, 4, _, _, _, _, _ => by decide +kernel
  | 3, 1, _, _, _, _, _ => by decide +kernel
  | 3, 2, _, _, _, _, _ => by decide +kernel
  | 3, 3, _, _, _, _, h => absurd h (by omega)
  | 3, 4, _, _, _, _, h => absurd h (by omega)
  | 0, _, h, _, _, _, _ => absurd h (by omega)
  | 1, _, h, _, _, _, _ => absurd h (by omega)
  | n + 4, _, _, h, _, _, _ => absurd h (by omega)
  | _, 0, _, _, h, _, _ => absurd h (by omega)
  | _, n + 5, _, _, _, h, _ => absurd h (by omega)
theorem shTN (l : List Nat) : Sh 2 (tN l) := shT fun x hx => by
  obtain ⟨i, _, rfl⟩ := List.mem_map.mp hx
  exact shI _
theorem law_at_ok {R : Rl} (w : WF R) {l : List Nat} (h : VB R.b R.t l) : f__law_at [eR R, tN l] = .ok (eO (out R l)) := by
  rw [pf (f := f__law_at) rfl _ [some (.d (eR R)), some (.d (tN l))] rfl rfl]
  have e1 := rows_ok R.b R.t (by have := w.b2; omega) w.b3 w.t1 w.t4 (by have := w.sz; omega)
  have e2 := List.all_eq_true.mp (idx_ok R.b R.t w.b2 w.b3 w.t1 w.t4 w.sz) l (mem_rows.mpr h)
  have e2 := of_decide_eq_true e2
  have e3 : L2.atI (R.os.map eO) ((place R.t l : Nat) : Int) = some (eO (out R l)) := atI_of rfl (by rw [List.getElem?_map, (w.out h).1]; rfl)
  have e4 : depthOk (.list ((rowsN R.b R.t).map tN)) (tN l) = true := by
    unfold depthOk
    rw [(shL (n := 2) fun x hx => by obtain ⟨i, _, rfl⟩ := List.mem_map.mp hx; exact shTN i).shaped (by omega), (shTN l).shaped (by omega)]
    rfl
  simp [b__law_at, eR, e1, e4, e2, e3]
theorem law_gain_ok {R : Rl} (w : WF R) {i v : Nat} {l : List Nat} (hi : i < R.b) (hv : v ≤ 1000) (h : VB R.b R.t l) : f__law_gain [eR R, .int (i : Int), .int (v : Int), tN l] = .ok (.int (gainT R i v l)) := by
  rw [pf (f := f__law_gain) rfl _ [some (.d (eR R)), some (.d (.int (i : Int))), some (.d (.int (v : Int))), some (.d (tN l)), none, none] rfl rfl]
  have ho := (w.out h).2.1
  have e := tN_at (l := (out R l).2) (i := i) (by rw [ho]; exact hi)
  have ho2 := law_at_ok w h
  have e3 := eq_w (out R l).1 i
  have m := fun b : Bool => mul_sl (i := (v : Int)) (j := b2i b) (by omega) (by omega)
  by_cases z : (out R l).1 = some i
  · rw [z] at e3
    have m1 := m true
    simp [b__law_gain, ho2]
    simp [eO, e3, z, m1]
    simp [tN, e, gainT, z, b2i]
  · have m1 := m false
    simp [b__law_gain, ho2]
    simp [eO, e3, z, m1]
    simp [tN, e, gainT, z, b2i]
theorem tN_len (l : List Nat) : (l.map fun (x : Nat) => PyData.int (x : Int)).length = l.length := by simp
/-- bids with another bid in a place -/
theorem moved_ok {l : List Nat} {i x : Nat} (hi : i < l.length) (hl : l.length ≤ 1000) : f_moved [tN l, .int (i : Int), .int (x : Int)] = .ok (tN (l.set i x)) := by
  rw [pf (f := f_moved) rfl _ [some (.d (tN l)), some (.d (.int (i : Int))), some (.d (.int (x : Int)))] rfl rfl]
  have c1 := cut_take (l.map fun (x : Nat) => PyData.int (x : Int)) i
  have c2 : cut (l.map fun (x : Nat) => PyData.int (x : Int)) (some ((i : Int) + 1)) none = (l.map fun (x : Nat) => PyData.int (x : Int)).drop (i + 1) := cut_drop _ (i + 1)
  have s1 : small (min i l.length + 1) = true := small_of (by omega)
  have s2 : small (min i l.length + 1 + (l.length - (i + 1))) = true := small_of (by omega)
  have e : l.set i x = l.take i ++ x :: l.drop (i + 1) := by
    rw [List.set_eq_take_append_cons_drop, if_pos hi]
  simp [b_moved, tN, c1, c2, e, s1, s2]
theorem law_with_ok {l : List Nat} {i x : Nat} (hi : i < l.length) (hl : l.length ≤ 1000) : f__law_with [tN l, .int (i : Int), .int (x : Int)] = .ok (tN (l.set i x)) := moved_ok hi hl
theorem with_bid_ok {l : List Nat} {i x : Nat} (hi : i ≤ l.length) (hl : l.length ≤ 1000) : f_with_bid [tN l, .int (i : Int), .int (x : Int)] = .ok (tN (l.take i ++ x :: l.drop i)) := by
  rw [pf (f := f_with_bid) rfl _ [some (.d (tN l)), some (.d (.int (i : Int))), some (.d (.int (x : Int)))] rfl rfl]
  have c1 := cut_take (l.map fun (x : Nat) => PyData.int (x : Int)) i
  have c2 := cut_drop (l.map fun (x : Nat) => PyData.int (x : Int)) i
  have s1 : small (min i l.length + 1) = true := small_of (by omega)
  have s2 : small (min i l.length + 1 + (l.length - i)) = true := small_of (by omega)
  simp [b_with_bid, tN, c1, c2, s1, s2]
theorem rest_of_ok {l : List Nat} {i : Nat} (hi : i < l.length) (hl : l.length ≤ 1000) : f_rest_of [tN l, .int (i : Int)] = .ok (tN (l.take i ++ l.drop (i + 1))) := by
  rw [pf (f := f_rest_of) rfl _ [some (.d (tN l)), some (.d (.int (i : Int)))] rfl rfl]
  have c1 := cut_take (l.map fun (x : Nat) => PyData.int (x : Int)) i
  have c2 : cut (l.map fun (x : Nat) => PyData.int (x : Int)) (some ((i : Int) + 1)) none = (l.map fun (x : Nat) => PyData.int (x : Int)).drop (i + 1) := cut_drop _ (i + 1)
  have s1 : small (min i l.length + (l.length - (i + 1))) = true := small_of (by omega)
  simp [b_rest_of, tN, c1, c2, s1]
theorem VB.set {b t : Nat} {l : List Nat} (h : VB b t l) {i x : Nat} (hx : x ≤ t) : VB b t (l.set i x) := ⟨by rw [List.length_set]; exact h.1, fun y hy => by
  rcases List.mem_or_eq_of_mem_set hy with z | z
  · exact h.2 y z
  · omega⟩
end Pg

set_option Elab.async false
set_option linter.all false
set_option maxRecDepth 100000
set_option maxHeartbeats 1000000
/-! PgC: the searches of the program. -/
namespace Pg
open PySem Sb
def vAt (l : List Nat) (i : Nat) : Nat := (l[i]?).getD 0
theorem ix_tN {l : List Nat} {i : Nat} (h : i < l.length) : ixD (tN l) (.int (i : Int)) = .ok (.int (vAt l i : Nat)) := by
  show ofO (L2.atI _ _) = _
  rw [tN_at h]
  rfl
@[simp] theorem ix_eR0 {R : Rl} : ixD (eR R) (.int 0) = .ok (.int (R.b : Int)) := rfl
@[simp] theorem ix_eR1 {R : Rl} : ixD (eR R) (.int 1) = .ok (.int (R.t : Int)) := rfl
@[simp] theorem ix_eR2 {R : Rl} : ixD (eR R) (.int 2) = .ok (.tuple (R.os.map eO)) := rfl
@[simp] theorem ix_eO0 {o : Oc} : ixD (eO o) (.int 0) = .ok (wD o.1) := rfl
@[simp] theorem ix_eO1 {o : Oc} : ixD (eO o) (.int 1) = .ok (tN o.2) := rfl
@[simp] theorem bind_eO {o : Oc} {s t : Tg} {r : En} : bindT (.t [s, t]) (eO o) r = bindTs [s, t] [wD o.1, tN o.2] r := rfl
theorem WF.rb {R : Rl} (w : WF R) : rngOk (R.b : Int) = true := rngOk_n (by have := w.b3; omega)
theorem WF.rt {R : Rl} (w : WF R) : rngOk ((R.t : Int) + 1) = true := rngOk_s (by have := w.t4; omega)
theorem WF.rows {R : Rl} (w : WF R) : f_all_bids [.int (R.b : Int), .int (R.t : Int)] = .ok (.list ((rowsN R.b R.t).map tN)) := all_bids_ok R.b R.t (by have := w.b2; omega) w.b3 w.t1 w.t4 (by have := w.sz; omega)
theorem WF.rows1 {R : Rl} (w : WF R) : f_all_bids [.int ((R.b : Int) - 1), .int (R.t : Int)] = .ok (.list ((rowsN (R.b - 1) R.t).map tN)) := by
  have h2 := w.b2
  have h3 := w.b3
  rw [show ((R.b : Int) - 1) = ((R.b - 1 : Nat) : Int) by omega]
  exact all_bids_ok (R.b - 1) R.t (by omega) (by omega) w.t1 w.t4 (by omega)
theorem WF.rows2 {R : Rl} (w : WF R) : f_all_bids [.int 2, .int (R.t : Int)] = .ok (.list ((rowsN 2 R.t).map tN)) := all_bids_ok 2 R.t (by omega) (by omega) w.t1 w.t4 (by omega)
theorem VB.at {b t : Nat} {l : List Nat} (h : VB b t l) {i : Nat} (hi : i < b) : i < l.length := by rw [h.1]; exact hi
theorem VB.vAt_le {b t : Nat} {l : List Nat} (h : VB b t l) (i : Nat) : vAt l i ≤ t := by
  unfold vAt
  by_cases hi : i < l.length
  · rw [List.getElem?_eq_getElem hi]; exact h.2 _ (List.getElem_mem hi)
  · rw [List.getElem?_eq_none (by omega)]; simp
/-! ### lies -/
def lieT (R : Rl) (i : Nat) (l : List Nat) (x : Nat) : Option (Nat × List Nat × Nat) := if gainT R i (vAt l i) l < gainT R i (vAt l i) (l.set i x) then some (i, l, x) else none
def lieF (R : Rl) : Option (Nat × List Nat × Nat) := (List.range R.b).findSome? fun i => (rowsN R.b R.t).findSome? fun l => (List.range (R.t + 1)).findSome? fun x => lieT R i l x
def eLie (p : Nat × List Nat × Nat) : D := .tuple [.int (p.1 : Int), tN p.2.1, .int (p.2.2 : Int)]
theorem found_lie_ok {R : Rl} (w : WF R) : f_found_lie [eR R] = .ok (oD eLie (lieF R)) := by
  rw [pf (f := f_found_lie) rfl _ [some (.d (eR R)), none, none, none, none] rfl rfl]
  have hb := w.b3
  simp -implicitDefEqProofs [b_found_lie, w.rb]
  refine (fin_find (e := eLie) (d := .none) (fun i => (rowsN R.b R.t).findSome? fun l => (List.range (R.t + 1)).findSome? fun x => lieT R i l x) ?_ ?_).trans (by rw [oD_eq]; rfl)
  · intro i hi
    rw [List.mem_range] at hi
    simp -implicitDefEqProofs [w.rows]
    refine seq_find (e := eLie) (fun l => (List.range (R.t + 1)).findSome? fun x => lieT R i l x) ?_ ?_
    · intro l hl
      rw [mem_rows] at hl
      have il := hl.at hi
      simp -implicitDefEqProofs [w.rt, ix_tN il, gain_of_ok w hi hl]
      refine seq_find (e := eLie) (fun x => lieT R i l x) ?_ ?_
      · intro x hx
        rw [List.mem_range] at hx
        have e1 := moved_ok (x := x) il (by rw [hl.1]; omega)
        have e2 := gain_of_ok w (v := vAt l i) hi (hl.set (i := i) (show x ≤ R.t by omega))
        unfold lieT
        by_cases h : gainT R i (vAt l i) l < gainT R i (vAt l i) (l.set i x)
        · rw [if_pos h]
          refine Ans.rt (r' := [some (.d (eR R)), some (.d (.int (i : Int))), some (.d (tN l)), some (.d (.int (gainT R i (vAt l i) l))), some (.d (.int (x : Int)))]) ?_
          simp -implicitDefEqProofs [ix_tN il, e1, e2, h, eLie]
        · rw [if_neg h]
          refine Ans.nx ?_
          simp -implicitDefEqProofs [ix_tN il, e1, e2, h]
      · simp -implicitDefEqProofs
    · simp -implicitDefEqProofs
  · simp -implicitDefEqProofs
theorem first_lie_ok {R : Rl} (w : WF R) : f_first_lie [eR R] = .ok (oD eLie (lieF R)) := by
  rw [pf (f := f_first_lie) rfl _ [some (.d (eR R))] rfl rfl]
  simp [b_first_lie, check_rule_ok w, found_lie_ok w]
theorem is_truthful_ok {R : Rl} (w : WF R) : f_is_truthful [eR R] = .ok (.bool (lieF R).isNone) := by
  rw [pf (f := f_is_truthful) rfl _ [some (.d (eR R))] rfl rfl]
  simp [b_is_truthful, check_rule_ok w, found_lie_ok w, isNone_oD (e := eLie) (fun _ => rfl)]
/-! ### losses -/
def lossT (R : Rl) (i : Nat) (l : List Nat) : Option (Nat × List Nat) := if gainT R i (vAt l i) l < 0 then some (i, l) else none
def lossF (R : Rl) : Option (Nat × List Nat) := (List.range R.b).findSome? fun i => (rowsN R.b R.t).findSome? fun l => lossT R i l
def eIL (p : Nat × List Nat) : D := .tuple [.int (p.1 : Int), tN p.2]
theorem first_loss_ok {R : Rl} (w : WF R) : f_first_loss [eR R] = .ok (oD eIL (lossF R)) := by
  rw [pf (f := f_first_loss) rfl _ [some (.d (eR R)), none, none] rfl rfl]
  simp -implicitDefEqProofs [b_first_loss, w.rb, check_rule_ok w]
  refine (fin_find (e := eIL) (d := .none) (fun i => (rowsN R.b R.t).findSome? fun l => lossT R i l) ?_ ?_).trans (by rw [oD_eq]; rfl)
  · intro i hi
    rw [List.mem_range] at hi
    simp -implicitDefEqProofs [w.rows]
    refine seq_find (e := eIL) (fun l => lossT R i l) ?_ ?_
    · intro l hl
      rw [mem_rows] at hl
      have il := hl.at hi
      have e2 := gain_of_ok w (v := vAt l i) hi hl
      unfold lossT
      by_cases h : gainT R i (vAt l i) l < 0
      · rw [if_pos h]
        refine Ans.rt (r' := [some (.d (eR R)), some (.d (.int (i : Int))), some (.d (tN l))]) ?_
        simp -implicitDefEqProofs [ix_tN il, e2, h, eIL]
      · rw [if_neg h]
        refine Ans.nx ?_
        simp -implicitDefEqProofs [ix_tN il, e2, h]
    · simp -implicitDefEqProofs
  · simp -implicitDefEqProofs
/-! ### joint lies -/
def late (i j : Nat) (l : List Nat) (z : List Nat) : List Nat := (l.set i (vAt z 0)).set j (vAt z 1)
def bothT (R : Rl) (i j : Nat) (l z : List Nat) : Bool := decide (gainT R i (vAt l i) l < gainT R i (vAt l i) (late i j l z)) && decide (gainT R j (vAt l j) l < gainT R j (vAt l j) (late i j l z))
def jointT (R : Rl) (i j : Nat) (l z : List Nat) : Option (Nat × Nat × List Nat × List Nat) := if bothT R i j l z then some (i, j, l, z) else none
def jointF (R : Rl) : Option (Nat × Nat × List Nat × List Nat) := (List.range R.b).findSome? fun i => ((List.range (R.b - (i + 1))).map fun k => i + 1 + k).findSome? fun j => (rowsN R.b R.t).findSome? fun l => (rowsN 2 R.t).findSome? fun z => jointT R i j l z
def eJoint (p : Nat × Nat × List Nat × List Nat) : D := .tuple [.int (p.1 : Int), .int (p.2.1 : Int), tN p.2.2.1, tN p.2.2.2]
theorem do_both_gain_ok {R : Rl} (w : WF R) {i j : Nat} (hi : i < R.b) (hj : j < R.b) {l z : List Nat} (hl : VB R.b R.t l) (hz : VB 2 R.t z) : f_do_both_gain [eR R, .int (i : Int), .int (j : Int), tN l, tN z] = .ok (.bool (bothT R i j l z)) := by
  rw [pf (f := f_do_both_gain) rfl _ [some (.d (eR R)), some (.d (.int (i : Int))), some (.d (.int (j : Int))), some (.d (tN l)), some (.d (tN z)), none, none] rfl rfl]
  have hb := w.b3
  have z0 : ixD (tN z) (.int 0) = .ok (.int (vAt z 0 : Nat)) := ix_tN (hz.at (i := 0) (by omega))
  have z1 : ixD (tN z) (.int 1) = .ok (.int (vAt z 1 : Nat)) := ix_tN (hz.at (i := 1) (by omega))
  have v1 := hl.set (i := i) (hz.vAt_le 0)
  have v2 := v1.set (i := j) (hz.vAt_le 1)
  have e1 := moved_ok (x := vAt z 0) (hl.at hi) (by rw [hl.1]; omega)
  have e2 := moved_ok (x := vAt z 1) (v1.at hj) (by rw [v1.1]; omega)
  have gi := gain_of_ok w (v := vAt l i) hi hl
  have gj := gain_of_ok w (v := vAt l j) hj hl
  have gi2 := gain_of_ok w (v := vAt l i) hi v2
  have gj2 := gain_of_ok w (v := vAt l j) hj v2
  unfold bothT late
  by_cases h1 : gainT R i (vAt l i) l < gainT R i (vAt l i) ((l.set i (vAt z 0)).set j (vAt z 1))
  · have h1' : ¬ gainT R i (vAt l i) ((l.set i (vAt z 0)).set j (vAt z 1)) ≤ gainT R i (vAt l i) l := by omega
    by_cases h2 : gainT R j (vAt l j) l < gainT R j (vAt l j) ((l.set i (vAt z 0)).set j (vAt z 1))
    · have h2' : ¬ gainT R j (vAt l j) ((l.set i (vAt z 0)).set j (vAt z 1)) ≤ gainT R j (vAt l j) l := by omega
      simp -implicitDefEqProofs only [h1, h2]
      simp -implicitDefEqProofs [b_do_both_gain, z0, z1, e1, e2, loopA_cons, loopA_nil, ix_tN (hl.at hi), ix_tN (hl.at hj), gi, gj, gi2, gj2, h1', h2', -Int.not_le]
    · have h2' : gainT R j (vAt l j) ((l.set i (vAt z 0)).set j (vAt z 1)) ≤ gainT R j (vAt l j) l := by omega
      simp -implicitDefEqProofs only [h1, h2]
      simp -implicitDefEqProofs [b_do_both_gain, z0, z1, e1, e2, loopA_cons, loopA_nil, ix_tN (hl.at hi), ix_tN (hl.at hj), gi, gj, gi2, gj2, h1', h2', -Int.not_le]
  · have h1' : gainT R i (vAt l i) ((l.set i (vAt z 0)).set j (vAt z 1)) ≤ gainT R i (vAt l i) l := by omega
    simp -implicitDefEqProofs only [h1]
    simp -implicitDefEqProofs [b_do_both_gain, z0, z1, e1, e2, loopA_cons, loopA_nil, ix_tN (hl.at hi), ix_tN (hl.at hj), gi, gj, gi2, gj2, h1', -Int.not_le]
theorem iota2 (i b : Nat) : iota ((i : Int) + 1) ((b : Int) - ((i : Int) + 1)).toNat = ((List.range (b - (i + 1))).map fun k => i + 1 + k).map fun (j : Nat) => PyData.int (j : Int) := by
  unfold iota
  rw [show ((b : Int) - ((i : Int) + 1)).toNat = b - (i + 1) by omega, List.map_map]
  refine List.map_congr_left fun k _ => ?_
  simp
theorem joint_lie_ok {R : Rl} (w : WF R) : f_joint_lie [eR R] = .ok (oD eJoint (jointF R)) := by
  rw [pf (f := f_joint_lie) rfl _ [some (.d (eR R)), none, none, none, none] rfl rfl]
  have hb := w.b3
  simp -implicitDefEqProofs [b_joint_lie, w.rb, check_rule_ok w]
  refine (fin_find (e := eJoint) (d := .none) (fun i => ((List.range (R.b - (i + 1))).map fun k => i + 1 + k).findSome? fun j => (rowsN R.b R.t).findSome? fun l => (rowsN 2 R.t).findSome? fun z => jointT R i j l z) ?_ ?_).trans (by rw [oD_eq]; rfl)
  · intro i hi
    rw [List.mem_range] at hi
    simp -implicitDefEqProofs [w.rb, rngOk_s (show i < 1000000 by omega), iota2, -List.map_map]
    refine seq_find (e := eJoint) (fun j => (rowsN R.b R.t).findSome? fun l => (rowsN 2 R.t).findSome? fun z => jointT R i j l z) ?_ ?_
    · intro j hj
      have hj : j < R.b := by
        obtain ⟨k, hk, rfl⟩ := List.mem_map.mp hj
        rw [List.mem_range] at hk
        omega
      simp -implicitDefEqProofs [w.rows]
      refine seq_find (e := eJoint) (fun l => (rowsN 2 R.t).findSome? fun z => jointT R i j l z) ?_ ?_
      · intro l hl
        rw [mem_rows] at hl
        simp -implicitDefEqProofs [w.rows2]
        refine seq_find (e := eJoint) (fun z => jointT R i j l z) ?_ ?_
        · intro z hz
          rw [mem_rows] at hz
          have e1 := do_both_gain_ok w hi hj hl hz
          unfold jointT
          cases h : bothT R i j l z with
          | true =>
            rw [if_pos rfl]
            refine Ans.rt (r' := [some (.d (eR R)), some (.d (.int (i : Int))), some (.d (.int (j : Int))), some (.d (tN l)), some (.d (tN z))]) ?_
            simp -implicitDefEqProofs [e1, h, eJoint]
          | false =>
            rw [if_neg (by simp)]
            refine Ans.nx ?_
            simp -implicitDefEqProofs [e1, h]
        · simp -implicitDefEqProofs
      · simp -implicitDefEqProofs
    · simp -implicitDefEqProofs
  · simp -implicitDefEqProofs
end Pg

set_option Elab.async false
set_option linter.all false
set_option maxRecDepth 100000
set_option maxHeartbeats 1000000
/-! PgL: the rules that the laws draw. -/
namespace Pg
open PySem Sb
def lN (l : List Nat) : D := .list (l.map fun (x : Nat) => PyData.int (x : Int))
theorem foldl_app {A B : Type} (f : A -> B) : ∀ (l : List A) (s : List B), l.foldl (fun s a => s ++ [f a]) s = s ++ l.map f
  | [], s => by simp
  | a :: l, s => by simp [foldl_app f l]
/-! ### greatest, least, first place -/
def mxN : List Nat -> Nat
  | [] => 0
  | x :: r => r.foldl max x
def mnN : List Nat -> Nat
  | [] => 0
  | x :: r => r.foldl min x
theorem fmax_cast : ∀ (r : List Nat) (x : Nat), (r.map fun (x : Nat) => (x : Int)).foldl max (x : Int) = ((r.foldl max x : Nat) : Int)
  | [], x => rfl
  | y :: r, x => by
    rw [List.map_cons, List.foldl_cons, List.foldl_cons, ← fmax_cast r (max x y)]
    congr 1
    omega
theorem fmin_cast : ∀ (r : List Nat) (x : Nat), (r.map fun (x : Nat) => (x : Int)).foldl min (x : Int) = ((r.foldl min x : Nat) : Int)
  | [], x => rfl
  | y :: r, x => by
    rw [List.map_cons, List.foldl_cons, List.foldl_cons, ← fmin_cast r (min x y)]
    congr 1
    omega
theorem maxI_nat {l : List Nat} (h : l ≠ []) : maxI (l.map fun (x : Nat) => (x : Int)) = some (mxN l : Int) := by
  cases l with
  | nil => exact absurd rfl h
  | cons x r => exact congrArg some (fmax_cast r x)
theorem minI_nat {l : List Nat} (h : l ≠ []) : minI (l.map fun (x : Nat) => (x : Int)) = some (mnN l : Int) := by
  cases l with
  | nil => exact absurd rfl h
  | cons x r => exact congrArg some (fmin_cast r x)
theorem intsD_nat (l : List Nat) : intsD (l.map fun (x : Nat) => PyData.int (x : Int)) = some (l.map fun (x : Nat) => (x : Int)) := intsD_map _ _
theorem max1_tN {l : List Nat} (h : l ≠ []) : primD .max1 [tN l] = .ok (.int (mxN l : Int)) := by
  show (ofO (intsD _)).bnd _ = _
  rw [intsD_nat]
  show (ofO (maxI _)).bnd _ = _
  rw [maxI_nat h]
  rfl
theorem max1_lN {l : List Nat} (h : l ≠ []) : primD .max1 [lN l] = .ok (.int (mxN l : Int)) := max1_tN h
theorem min1_tN {l : List Nat} (h : l ≠ []) : primD .min1 [tN l] = .ok (.int (mnN l : Int)) := by
  show (ofO (intsD _)).bnd _ = _
  rw [intsD_nat]
  show (ofO (minI _)).bnd _ = _
  rw [minI_nat h]
  rfl
theorem min1_lN {l : List Nat} (h : l ≠ []) : primD .min1 [lN l] = .ok (.int (mnN l : Int)) := min1_tN h
theorem fmax_mem : ∀ (r : List Nat) (x : Nat), r.foldl max x ∈ x :: r
  | [], x => by simp
  | y :: r, x => by
    rw [List.foldl_cons]
    have := fmax_mem r (max x y)
    rcases List.mem_cons.mp this with h | h
    · rw [h]
      by_cases q : x ≤ y
      · rw [Nat.max_eq_right q]; simp
      · rw [Nat.max_eq_left (by omega)]; simp
    · exact List.mem_cons_of_mem _ (List.mem_cons_of_mem _ h)
theorem fmax_ge : ∀ (r : List Nat) (x y : Nat), y ∈ x :: r -> y ≤ r.foldl max x
  | [], x, y, h => by simp at h; simp [h]
  | z :: r, x, y, h => by
    rw [List.foldl_cons]
    rcases List.mem_cons.mp h with h | h
    · have := fmax_ge r (max x z) (max x z) List.mem_cons_self
      omega
    · rcases List.mem_cons.mp h with h | h
      · have := fmax_ge r (max x z) (max x z) List.mem_cons_self
        omega
      · exact fmax_ge r (max x z) y (List.mem_cons_of_mem _ h)
theorem mx_mem {l : List Nat} (h : l ≠ []) : mxN l ∈ l := by
  cases l with
  | nil => exact absurd rfl h
  | cons x r => exact fmax_mem r x
theorem mx_ge {l : List Nat} {y : Nat} (h : y ∈ l) : y ≤ mxN l := by
  cases l with
  | nil => simp at h
  | cons x r => exact fmax_ge r x y h
theorem fmin_mem : ∀ (r : List Nat) (x : Nat), r.foldl min x ∈ x :: r
  | [], x => by simp
  | y :: r, x => by
    rw [List.foldl_cons]
    have := fmin_mem r (min x y)
    rcases List.mem_cons.mp this with h | h
    · rw [h]
      by_cases q : x ≤ y
      · rw [Nat.min_eq_left q]; simp
      · rw [Nat.min_eq_right (by omega)]; simp
    · exact List.mem_cons_of_mem _ (List.mem_cons_of_mem _ h)
theorem fmin_le : ∀ (r : List Nat) (x y : Nat), y ∈ x :: r -> r.foldl min x ≤ y
  | [], x, y, h => by simp at h; simp [h]
  | z :: r, x, y, h => by
    rw [List.foldl_cons]
    rcases List.mem_cons.mp h with h | h
    · have := fmin_le r (min x z) (min x z) List.mem_cons_self
      omega
    · rcases List.mem_cons.mp h with h | h
      · have := fmin_le r (min x z) (min x z) List.mem_cons_self
        omega
      · exact fmin_le r (min x z) y (List.mem_cons_of_mem _ h)
theorem mn_mem {l : List Nat} (h : l ≠ []) : mnN l ∈ l := by
  cases l with
  | nil => exact absurd rfl h
  | cons x r => exact fmin_mem r x
theorem mn_le {l : List Nat} {y : Nat} (h : y ∈ l) : mnN l ≤ y := by
  cases l with
  | nil => simp at h
  | cons x r => exact fmin_le r x y h
theorem contains_nat {l : List Nat} {x : Nat} (h : x ∈ l) : (l.map fun (x : Nat) => (x : Int)).contains (x : Int) = true := by
  rw [List.contains_iff_mem]
  exact List.mem_map.mpr ⟨x, h, rfl⟩
theorem idxOf_nat : ∀ (l : List Nat) (x : Nat), (l.map fun (x : Nat) => (x : Int)).idxOf (x : Int) = l.idxOf x
  | [], x => rfl
  | y :: l, x => by
    rw [List.map_cons, List.idxOf_cons, List.idxOf_cons, idxOf_nat l x]
    have : ((y : Int) == (x : Int)) = (y == x) := by
      by_cases h : y = x
      · subst h; simp
      · have h1 : (y : Int) ≠ (x : Int) := by omega
        rw [beq_eq_false_iff_ne.mpr h, beq_eq_false_iff_ne.mpr h1]
    rw [this]
theorem tindex_tN {l : List Nat} {x : Nat} (h : x ∈ l) : methD .tindex (tN l) (.int (x : Int)) = .ok (.int (l.idxOf x : Nat)) := by
  show (ofO (intsD _)).bnd _ = _
  rw [intsD_nat]
  show chk _ _ = _
  rw [contains_nat h, idxOf_nat]
  rfl
theorem indexOf_nat : ∀ {l : List Nat} {x : Nat}, x ∈ l -> indexOf (.int (x : Int)) (l.map fun (x : Nat) => PyData.int (x : Int)) = some (l.idxOf x)
  | [], x, h => by simp at h
  | y :: l, x, h => by
    rw [List.map_cons, List.idxOf_cons]
    unfold indexOf
    by_cases e : y = x
    · subst e; simp [PyData.eqv]
    · have e1 : ¬ (y : Int) = (x : Int) := by omega
      have h2 : x ∈ l := by
        rcases List.mem_cons.mp h with q | q
        · exact absurd q.symm e
        · exact q
      rw [indexOf_nat h2]
      have e2 : (y == x) = false := beq_eq_false_iff_ne.mpr e
      simp [PyData.eqv, e1, e2]
theorem csTN (l : List Nat) : Cd 2 (tN l) := csT fun x hx => by
  obtain ⟨i, _, rfl⟩ := List.mem_map.mp hx
  exact csI _
theorem csLN (l : List Nat) : Cd 2 (lN l) := csL fun x hx => by
  obtain ⟨i, _, rfl⟩ := List.mem_map.mp hx
  exact csI _
theorem lindex_lN {l : List Nat} {x : Nat} (h : x ∈ l) : methD .lindex (lN l) (.int (x : Int)) = .ok (.int (l.idxOf x : Nat)) := by
  show chk (depthOk _ _) ((ofO (indexOf _ _)).bnd _) = _
  have : depthOk (lN l) (.int (x : Int)) = true := by
    unfold depthOk
    rw [(csLN l).shaped (by omega), (csI _).shaped (by omega)]
    rfl
  show chk (depthOk (lN l) (.int (x : Int))) _ = _
  rw [this, indexOf_nat h]
  rfl
/-! ### picks -/
theorem pickT {A : Type} (e : A -> D) (ns rs : List Int) (c : Nat) (xs : List A) (hr : rs.length = ns.length) (hc : c < 100000) (h1 : xs ≠ []) (h2 : xs.length ≤ 1000) :
    ∃ (x : A) (rs' : List Int), x ∈ xs ∧ rs'.length = ns.length ∧ f__law_pick [.list (ns.map .int), .list (xs.map e)] (tw c rs) = .ok (e x, tw (c + 1) rs') := by
  obtain ⟨x, rs', hx, hr', e1⟩ := pick_ok ns rs c (xs.map e) hr hc (by simpa using h1) (by simpa using h2)
  obtain ⟨a, ha, rfl⟩ := List.mem_map.mp hx
  exact ⟨a, rs', ha, hr', e1⟩
theorem szs_ok {b t : Nat} (h : (b, t) ∈ szs) : 2 ≤ b ∧ b ≤ 3 ∧ 1 ≤ t ∧ t ≤ 4 ∧ (b = 2 ∨ t ≤ 2) := by
  simp only [szs, List.mem_cons, Prod.mk.injEq, List.not_mem_nil, or_false] at h
  omega
/-! ### a drawn rule -/
theorem drawn_ok (ns rs : List Int) (c b t : Nat) (hr : rs.length = ns.length) (hc : c < 90000) (hbt : (b, t) ∈ szs) :
    ∃ (R : Rl) (c' : Nat) (rs' : List Int), WF R ∧ R.b = b ∧ R.t = t ∧ c' ≤ c + 200 ∧ rs'.length = ns.length ∧ f__law_drawn [.list (ns.map .int), .int (b : Int), .int (t : Int)] (tw c rs) = .ok (eR R, tw c' rs') := by
  rw [sf (f := f__law_drawn) rfl _ [.int (b : Int), .int (t : Int)] (tw c rs) [some (.d (.list (ns.map .int))), some (.c (tw c rs)), some (.d (.int (b : Int))), some (.d (.int (t : Int))), none, none, none, none, none, none] rfl rfl]
  obtain ⟨b2, b3, t1, t4, hz⟩ := szs_ok hbt
  obtain ⟨v, rs1, hv, hr1, e1⟩ := draw_ok ns rs c 5 hr (by omega) (by omega) (by omega)
  have e1' : f__law_draw [.list (ns.map .int), .int 5] (tw c rs) = .ok (.int (v : Int), tw (c + 1) rs1) := e1
  have c1 : (1 : Int) + (v : Int) = ((v + 1 : Nat) : Int) := by omega
  have r1 : rngOk ((v + 1 : Nat) : Int) = true := rngOk_n (by omega)
  have rb : rngOk (b : Int) = true := rngOk_n (by omega)
  have er := rows_ok b t (by omega) b3 t1 t4 (by omega)
  obtain ⟨r2, e2, ocs, c2, rs2, rfl, h21, h22, h23, h24⟩ := loop_inv (f := fun (i : Nat) => PyData.int (i : Int)) (tg := .v 6) (body := [
    .set 7 (.e (.prim .tuple [.lc [("bidder", 8)] (.v 8) (.rng (.v 2)) none (.callS "_law_pick" f__law_pick (.v 0) 1 [.lst [.k (.int 0), .k (.int 0), .k (.int 1), .k (.int 2), .k (.int 9)]])])),
    .app 5 (.tup [.callS "_law_pick" f__law_pick (.v 0) 1 [.bin .add (.lst [.k .none]) (.rng (.k (.int 0)) (.v 2))], .v 7]),
    .drop 6,
    .drop 7]) (l := List.range (v + 1))
    (fun dn r => ∃ (ocs : List Oc) (c2 : Nat) (rs2 : List Int), r = [some (.d (.list (ns.map .int))), some (.c (tw c2 rs2)), some (.d (.int (b : Int))), some (.d (.int (t : Int))), some (.o []), some (.o (ocs.map eO)), none, none, none, none] ∧ (∀ o ∈ ocs, OcOk b o) ∧ ocs.length = dn.length ∧ c2 ≤ c + 1 + 10 * dn.length ∧ rs2.length = ns.length) (r := [some (.d (.list (ns.map .int))), some (.c (tw (c + 1) rs1)), some (.d (.int (b : Int))), some (.d (.int (t : Int))), some (.o []), some (.o []), none, none, none, none])
    ⟨[], c + 1, rs1, rfl, by simp, rfl, by simp, hr1⟩ (by
      rintro dn a tl r hl ⟨ocs, c2, rs2, rfl, h21, h22, h23, h24⟩
      have hd : dn.length ≤ 5 := by
        have := congrArg List.length hl
        simp at this
        omega
      obtain ⟨ps, r3, e3, hp, c3, rs3, rfl, h31, h32, h33⟩ := lc_inv (turn := lcTurn [8] (.v 8) none (.callS "_law_pick" f__law_pick (.v 0) 1 [.lst [.k (.int 0), .k (.int 0), .k (.int 1), .k (.int 2), .k (.int 9)]])) (f := fun (i : Nat) => PyData.int (i : Int)) (g := fun (i : Nat) => PyData.int (i : Int)) (l := List.range b)
        (fun pre dn r => ∃ (c3 : Nat) (rs3 : List Int), r = [some (.d (.list (ns.map .int))), some (.c (tw c3 rs3)), some (.d (.int (b : Int))), some (.d (.int (t : Int))), some (.o []), some (.o (ocs.map eO)), some (.d (.int (a : Int))), none, none, none] ∧ (∀ p ∈ dn, p ≤ 9) ∧ c3 ≤ c2 + pre.length ∧ rs3.length = ns.length)
        (r := [some (.d (.list (ns.map .int))), some (.c (tw c2 rs2)), some (.d (.int (b : Int))), some (.d (.int (t : Int))), some (.o []), some (.o (ocs.map eO)), some (.d (.int (a : Int))), none, none, none]) ⟨c2, rs2, rfl, by simp, by simp, h24⟩ (by
          rintro pre k tl qs r hl2 hq ⟨c3, rs3, rfl, h31, h32, h33⟩
          have hpre : pre.length ≤ 3 := by
            have := congrArg List.length hl2
            simp at this
            omega
          obtain ⟨y, rs4, hy, hr4, e4⟩ := pickT (fun (i : Nat) => PyData.int (i : Int)) ns rs3 c3 [0, 0, 1, 2, 9] h33 (by omega) (by simp) (by simp)
          simp at e4
          refine ⟨y, [some (.d (.list (ns.map .int))), some (.c (tw (c3 + 1) rs4)), some (.d (.int (b : Int))), some (.d (.int (t : Int))), some (.o []), some (.o (ocs.map eO)), some (.d (.int (a : Int))), none, none, none], ?_, c3 + 1, rs4, rfl, ?_, ?_, hr4⟩
          · rw [lcTurn_eq]
            simp -implicitDefEqProofs [e4]
          · intro p hp
            rcases List.mem_append.mp hp with h | h
            · exact h31 p h
            · simp at h hy; omega
          · simp; omega)
      have hpl : ps.length = b := by rw [hp]; simp
      simp at h32
      obtain ⟨y, rs4, hy, hr4, e4⟩ := pickT wD ns rs3 c3 (none :: (List.range b).map some) h33 (by omega) (by simp) (by simp; omega)
      have e4' : f__law_pick [.list (ns.map .int), .list (.none :: (List.range b).map fun (i : Nat) => PyData.int (i : Int))] (tw c3 rs3) = .ok (wD y, tw (c3 + 1) rs4) := by
        rw [← e4, List.map_cons, List.map_map]
        rfl
      have s1 : small (1 + b) = true := small_of (by omega)
      have s2 : small (b + 1) = true := small_of (by omega)
      have s3 : small (ocs.length + 1) = true := small_of (by omega)
      have rz : rngOk 0 = true := by decide
      refine ⟨[some (.d (.list (ns.map .int))), some (.c (tw (c3 + 1) rs4)), some (.d (.int (b : Int))), some (.d (.int (t : Int))), some (.o []), some (.o ((ocs ++ [(y, ps)]).map eO)), none, none, none, none], ?_, ocs ++ [(y, ps)], c3 + 1, rs4, rfl, ?_, ?_, ?_, hr4⟩
      · simp -implicitDefEqProofs [rb, e3, hpl, s2, rz, s1, e4', s3]
        rfl
      · intro o ho
        rcases List.mem_append.mp ho with h | h
        · exact h21 o h
        · simp at h
          subst h
          refine ⟨hpl, h31, fun w hw => ?_⟩
          have hw : y = some w := hw
          subst hw
          simpa using hy
      · simp [h22]
      · simp; omega)
  simp at h22 h23
  have hne : ocs ≠ [] := fun z => by rw [z] at h22; simp at h22
  obtain ⟨r5, e5, os, c5, rs5, rfl, h51, h52, h53, h54⟩ := loop_inv (f := tN) (tg := .v 9) (body := [.app 4 (.callS "_law_pick" f__law_pick (.v 0) 1 [.v 5]), .drop 9]) (l := rowsN b t)
    (fun dn r => ∃ (os : List Oc) (c2 : Nat) (rs2 : List Int), r = [some (.d (.list (ns.map .int))), some (.c (tw c2 rs2)), some (.d (.int (b : Int))), some (.d (.int (t : Int))), some (.o (os.map eO)), some (.d (.list (ocs.map eO))), none, none, none, none] ∧ (∀ o ∈ os, OcOk b o) ∧ os.length = dn.length ∧ c2 ≤ c + 60 + dn.length ∧ rs2.length = ns.length) (r := [some (.d (.list (ns.map .int))), some (.c (tw c2 rs2)), some (.d (.int (b : Int))), some (.d (.int (t : Int))), some (.o []), some (.d (.list (ocs.map eO))), none, none, none, none])
    ⟨[], c2, rs2, rfl, by simp, rfl, by simp; omega, h24⟩ (by
      rintro dn a tl r hl ⟨os, c5, rs5, rfl, h51, h52, h53, h54⟩
      have hd : dn.length ≤ 125 := by
        have := congrArg List.length hl
        rw [rowsN_len] at this
        simp at this
        have := pow_small b3 t4
        omega
      obtain ⟨y, rs6, hy, hr6, e6⟩ := pickT eO ns rs5 c5 ocs h54 (by omega) hne (by omega)
      have s3 : small (os.length + 1) = true := small_of (by omega)
      refine ⟨[some (.d (.list (ns.map .int))), some (.c (tw (c5 + 1) rs6)), some (.d (.int (b : Int))), some (.d (.int (t : Int))), some (.o ((os ++ [y]).map eO)), some (.d (.list (ocs.map eO))), none, none, none, none], ?_, os ++ [y], c5 + 1, rs6, rfl, ?_, ?_, ?_, hr6⟩
      · simp -implicitDefEqProofs [e6, s3]
      · intro o ho
        rcases List.mem_append.mp ho with h | h
        · exact h51 o h
        · simp at h
          subst h
          exact h21 _ hy
      · simp [h52]
      · simp; omega)
  have hlen := rowsN_len t b
  have hps := pow_small b3 t4
  refine ⟨⟨b, t, os⟩, c5, rs5, ⟨b2, b3, t1, t4, hz, ?_, h51⟩, rfl, rfl, ?_, h54, ?_⟩
  · show os.length = _
    rw [h52, hlen]
  · rw [hlen] at h53; omega
  · simp -implicitDefEqProofs [b__law_drawn, e1', c1, r1, -Int.natCast_add]
    rw [e2]
    simp -implicitDefEqProofs [er]
    rw [e5]
    simp -implicitDefEqProofs [eR]
end Pg

set_option Elab.async false
set_option linter.all false
set_option maxRecDepth 100000
set_option maxHeartbeats 1000000
/-! PgK: climbing rules, known rules. -/
namespace Pg
open PySem Sb
@[simp] theorem itemsD_tN (l : List Nat) : itemsD (tN l) = .ok (l.map fun (x : Nat) => PyData.int (x : Int)) := rfl
@[simp] theorem itemsD_lN (l : List Nat) : itemsD (lN l) = .ok (l.map fun (x : Nat) => PyData.int (x : Int)) := rfl
theorem ix_lN {l : List Nat} {i : Nat} (h : i < l.length) : ixD (lN l) (.int (i : Int)) = .ok (.int (vAt l i : Nat)) := by
  show ofO (L2.atI _ _) = _
  rw [tN_at h]
  rfl
theorem zipL_map {A B : Type} (f : A -> D) (g : B -> D) : ∀ (l : List A) (m : List B), zipL (l.map f) (m.map g) = (l.zip m).map fun p => .tuple [f p.1, g p.2]
  | [], m => by simp [zipL]
  | a :: l, [] => by simp [zipL]
  | a :: l, b :: m => by simp [zipL, zipL_map f g l m]
def addL (l m : List Nat) : List Nat := (l.zip m).map fun p => p.1 + p.2
theorem addL_len {l m : List Nat} (h : l.length = m.length) : (addL l m).length = l.length := by simp [addL, h]
theorem addL_at {l m : List Nat} (h : l.length = m.length) {i : Nat} (hi : i < l.length) : vAt (addL l m) i = vAt l i + vAt m i := by
  unfold vAt addL
  rw [List.getElem?_map, List.getElem?_eq_getElem hi, List.getElem?_eq_getElem (show i < m.length by omega), List.getElem?_eq_getElem (show i < (l.zip m).length by simp; omega)]
  simp
theorem idxOf_lt' {l : List Nat} {x : Nat} (h : x ∈ l) : l.idxOf x < l.length := List.idxOf_lt_length_of_mem h
theorem vAt_idxOf {l : List Nat} {x : Nat} (h : x ∈ l) : vAt l (l.idxOf x) = x := by
  unfold vAt
  rw [List.getElem?_eq_getElem (idxOf_lt' h)]
  simp
def clW (leads : List Nat) (least : Nat) (l : List Nat) : Option Nat := if mxN (addL l leads) < least + mnN leads then none else some ((addL l leads).idxOf (mxN (addL l leads)))
def clB : List S := [
    .set 10 (.e (.lc [("bid", 14), ("lead", 15)] (.t [.v 14, .v 15]) (.zip (.v 9) (.v 4)) none (.bin .add (.v 14) (.v 15)))),
    .set 11 (.e (.meth .lindex (.v 10) (.prim .max1 [.v 10]))),
    .ife (.cmp .lt (.ix (.v 10) (.v 11)) (.bin .add (.v 6) (.prim .min1 [.v 4]))) [
      .app 8 (.tup [.k .none, .bin .mul (.tup [.k (.int 0)]) (.v 2)])] [
      .set 12 (.e (.prim .max1 [.bin .add (.lst [.k (.int 0)]) (.lc [("k", 16)] (.v 16) (.rng (.v 2)) (some (.cmp .ne (.v 16) (.v 11))) (.bin .sub (.bin .add (.ix (.v 10) (.v 16)) (.prim .int [.cmp .lt (.v 16) (.v 11)])) (.ix (.v 4) (.v 11))))])),
      .set 12 (.e (.prim .max2 [.v 12, .bin .sub (.bin .add (.v 6) (.prim .min1 [.v 4])) (.ix (.v 4) (.v 11))])),
      .set 13 (.e (.ix (.tup [.v 12, .prim .max2 [.k (.int 0), .bin .sub (.v 12) (.k (.int 1))], .ix (.v 9) (.v 11), .bin .fdiv (.v 12) (.k (.int 2)), .bin .add (.v 12) (.k (.int 1))]) (.v 7))),
      .app 8 (.tup [.v 11, .prim .tuple [.lc [("k", 16)] (.v 16) (.rng (.v 2)) none (.bin .mul (.prim .min2 [.k (.int 9), .v 13]) (.prim .int [.cmp .eq (.v 16) (.v 11)]))]])],
    .drop 9,
    .drop 10,
    .drop 11,
    .drop 12,
    .drop 13]
def clE (sc : D) (tn : List D) (b t : Nat) (leads : List Nat) (least way : Nat) (os : List Oc) : En := [some (.d sc), some (.c tn), some (.d (.int (b : Int))), some (.d (.int (t : Int))), some (.d (lN leads)), none, some (.d (.int (least : Int))), some (.d (.int (way : Int))), some (.o (os.map eO)), none, none, none, none, none, none, none, none]
/-! rows -/
theorem fmaxI_ge : ∀ (r : List Int) (x : Int), x ≤ r.foldl max x
  | [], x => by simp
  | z :: r, x => by
    rw [List.foldl_cons]
    have := fmaxI_ge r (max x z)
    omega
theorem climb_row (sc : D) (tn : List D) {b t : Nat} (hbt : (b, t) ∈ szs) {leads : List Nat} (hl : leads.length = b) {least way : Nat} (hw : way < 5) (os : List Oc) (ho : os.length ≤ 1000) {l : List Nat} (hv : VB b t l) :
    ∃ o : Oc, OcOk b o ∧ o.1 = clW leads least l ∧ ((bindT (.v 9) (tN l) (clE sc tn b t leads least way os)).bnd fun r2 => runs clB r2) = .ok (.nx (clE sc tn b t leads least way (os ++ [o]))) := by
  obtain ⟨b2, b3, t1, t4, hz⟩ := szs_ok hbt
  have h1 := hv.1
  have hsl : (addL l leads).length = b := by rw [addL_len (by omega)]; exact h1
  have hne : addL l leads ≠ [] := fun z => by rw [z] at hsl; simp at hsl; omega
  have hne2 : leads ≠ [] := fun z => by rw [z] at hl; simp at hl; omega
  have hm := mx_mem hne
  have hW := idxOf_lt' hm
  rw [hsl] at hW
  let W := (addL l leads).idxOf (mxN (addL l leads))
  have hWb : W < b := hW
  have i1 := max1_lN hne
  have i2 : methD .lindex (lN (addL l leads)) (.int (mxN (addL l leads) : Nat)) = .ok (.int (W : Nat)) := lindex_lN hm
  have i3 : ixD (lN (addL l leads)) (.int (W : Nat)) = .ok (.int (mxN (addL l leads) : Nat)) := by
    rw [ix_lN (by omega), vAt_idxOf hm]
  have i4 := min1_lN hne2
  have s2 : small (b + 1) = true := small_of (by omega)
  have s3 : small (os.length + 1) = true := small_of (by omega)
  have lcz : lcA (lcTurn [14, 15] (.t [.v 14, .v 15]) none (.bin .add (.v 14) (.v 15))) ((l.zip leads).map fun p => PyData.tuple [.int (p.1 : Int), .int (p.2 : Int)]) [some (.d sc), some (.c tn), some (.d (.int (b : Int))), some (.d (.int (t : Int))), some (.d (lN leads)), none, some (.d (.int (least : Int))), some (.d (.int (way : Int))), some (.o (os.map eO)), some (.d (tN l)), none, none, none, none, none, none, none]
      = .ok ((l.zip leads).map (fun p => PyData.int ((p.1 : Int) + (p.2 : Int))), [some (.d sc), some (.c tn), some (.d (.int (b : Int))), some (.d (.int (t : Int))), some (.d (lN leads)), none, some (.d (.int (least : Int))), some (.d (.int (way : Int))), some (.o (os.map eO)), some (.d (tN l)), none, none, none, none, none, none, none]) := by
    refine lcA_map fun p _ => ?_
    rw [lcTurn_eq]
    simp -implicitDefEqProofs
  have lce : PyData.list ((l.zip leads).map (fun p => PyData.int ((p.1 : Int) + (p.2 : Int)))) = lN (addL l leads) := by
    unfold lN addL
    rw [List.map_map]
    rfl
  have hzl : (l.zip leads).length = b := by simp; omega
  have hmb : min l.length leads.length = b := by omega
  by_cases hc : mxN (addL l leads) < least + mnN leads
  · have hc' : ((mxN (addL l leads) : Nat) : Int) < (least : Int) + (mnN leads : Nat) := by omega
    refine ⟨(none, List.replicate b 0), ⟨by simp, ?_, by simp⟩, by simp [clW, hc], ?_⟩
    · intro p hp
      simp at hp
      omega
    · have ab1 : ab (b : Int) 1000 = true := ab_of (by omega) (by omega)
      have bb2 : (2 : Int) ≤ (b : Int) := by omega
      have er : rep b [PyData.int 0] = (List.replicate b 0).map fun (x : Nat) => PyData.int (x : Int) := by
        unfold rep
        simp
      simp -implicitDefEqProofs [clB, clE, zipL_map, lcz, hzl, hmb, s2, lce, i1, i2, i3, i4, hc', ab1, bb2, er, s3]
      simp [eO, wD, tN]
  · have hc' : ¬ ((mxN (addL l leads) : Nat) : Int) < (least : Int) + (mnN leads : Nat) := by omega
    have hcw : clW leads least l = some W := by unfold clW; rw [if_neg hc]
    let q : List Int := ((List.range b).filter fun (k : Nat) => !decide ((k : Int) = (W : Int))).map fun k => (vAt (addL l leads) k : Int) + b2i (decide ((k : Int) < (W : Int))) - (vAt leads W : Int)
    let P1 : Int := q.foldl max 0
    have hP1 : 0 ≤ P1 := fmaxI_ge q 0
    let X : Int := (least : Int) + (mnN leads : Nat) - (vAt leads W : Int)
    let P2 : Int := if X > P1 then X else P1
    have hP2 : 0 ≤ P2 := by
      show 0 ≤ if X > P1 then X else P1
      split <;> omega
    have lq : ∀ a1 a2 : Option Rv, lcA (lcTurn [16] (.v 16) (some (.cmp .ne (.v 16) (.v 11))) (.bin .sub (.bin .add (.ix (.v 10) (.v 16)) (.prim .int [.cmp .lt (.v 16) (.v 11)])) (.ix (.v 4) (.v 11)))) ((List.range b).map fun (k : Nat) => PyData.int (k : Int)) [some (.d sc), some (.c tn), some (.d (.int (b : Int))), some (.d (.int (t : Int))), some (.d (lN leads)), none, some (.d (.int (least : Int))), some (.d (.int (way : Int))), some (.o (os.map eO)), some (.d (tN l)), some (.d (lN (addL l leads))), some (.d (.int (W : Int))), a1, a2, none, none, none]
      = .ok (((List.range b).filter fun (k : Nat) => !decide ((k : Int) = (W : Int))).map (fun k => PyData.int ((vAt (addL l leads) k : Int) + b2i (decide ((k : Int) < (W : Int))) - (vAt leads W : Int))), [some (.d sc), some (.c tn), some (.d (.int (b : Int))), some (.d (.int (t : Int))), some (.d (lN leads)), none, some (.d (.int (least : Int))), some (.d (.int (way : Int))), some (.o (os.map eO)), some (.d (tN l)), some (.d (lN (addL l leads))), some (.d (.int (W : Int))), a1, a2, none, none, none]) := fun a1 a2 => by
      refine lcA_filter fun k hk => ?_
      rw [List.mem_range] at hk
      rw [lcTurn_eq]
      have j1 := ix_lN (l := addL l leads) (i := k) (by omega)
      have j2 := ix_lN (l := leads) (i := W) (by omega)
      by_cases e : (k : Int) = (W : Int)
      · simp -implicitDefEqProofs [e]
      · simp -implicitDefEqProofs [e, j1, j2]
    have lqe : ((List.range b).filter fun (k : Nat) => !decide ((k : Int) = (W : Int))).map (fun k => PyData.int ((vAt (addL l leads) k : Int) + b2i (decide ((k : Int) < (W : Int))) - (vAt leads W : Int))) = q.map .int := by
      show _ = (((List.range b).filter fun (k : Nat) => !decide ((k : Int) = (W : Int))).map fun k => (vAt (addL l leads) k : Int) + b2i (decide ((k : Int) < (W : Int))) - (vAt leads W : Int)).map PyData.int
      rw [List.map_map]
      rfl
    rw [lqe] at lq
    have hql : q.length ≤ b := by
      show ((((List.range b).filter fun (k : Nat) => !decide ((k : Int) = (W : Int))).map fun k => (vAt (addL l leads) k : Int) + b2i (decide ((k : Int) < (W : Int))) - (vAt leads W : Int))).length ≤ b
      rw [List.length_map]
      exact Nat.le_trans (List.length_filter_le _ _) (by simp)
    have sq : small (q.length + 1) = true := small_of (by omega)
    have sq2 : small (1 + q.length) = true := small_of (by omega)
    have eq1 : intsD (PyData.int 0 :: q.map .int) = some (0 :: q) := intsD_ints (0 :: q)
    have eq2 : maxI (0 :: q) = some P1 := rfl
    have rb : rngOk (b : Int) = true := rngOk_n (by omega)
    have j2 := ix_lN (l := leads) (i := W) (by omega)
    have j3 := ix_tN (l := l) (i := W) (by omega)
    have a2 : ab 2 1073741823 = true := by decide
    obtain ⟨A, hA, eA⟩ : ∃ A : Int, 0 ≤ A ∧ L2.atI [PyData.int P2, PyData.int (if 1 < P2 then P2 - 1 else 0), PyData.int (vAt l W : Nat), PyData.int (P2 / 2), PyData.int (P2 + 1)] (way : Int) = some (PyData.int A) := by
      match way, hw with
      | 0, _ => exact ⟨_, hP2, rfl⟩
      | 1, _ => exact ⟨_, by split <;> omega, rfl⟩
      | 2, _ => exact ⟨_, by omega, rfl⟩
      | 3, _ => exact ⟨_, by omega, rfl⟩
      | 4, _ => exact ⟨_, by omega, rfl⟩
    let A9 : Int := if A < 9 then A else 9
    have hA9 : 0 ≤ A9 ∧ A9 ≤ 9 := by
      show 0 ≤ (if A < 9 then A else 9) ∧ (if A < 9 then A else 9) ≤ 9
      split <;> omega
    have lm : lcA (lcTurn [16] (.v 16) none (.bin .mul (.prim .min2 [.k (.int 9), .v 13]) (.prim .int [.cmp .eq (.v 16) (.v 11)]))) ((List.range b).map fun (k : Nat) => PyData.int (k : Int)) [some (.d sc), some (.c tn), some (.d (.int (b : Int))), some (.d (.int (t : Int))), some (.d (lN leads)), none, some (.d (.int (least : Int))), some (.d (.int (way : Int))), some (.o (os.map eO)), some (.d (tN l)), some (.d (lN (addL l leads))), some (.d (.int (W : Int))), some (.d (.int P2)), some (.d (.int A)), none, none, none]
      = .ok ((List.range b).map (fun (k : Nat) => PyData.int ((if k = W then A9.toNat else 0 : Nat) : Int)), [some (.d sc), some (.c tn), some (.d (.int (b : Int))), some (.d (.int (t : Int))), some (.d (lN leads)), none, some (.d (.int (least : Int))), some (.d (.int (way : Int))), some (.o (os.map eO)), some (.d (tN l)), some (.d (lN (addL l leads))), some (.d (.int (W : Int))), some (.d (.int P2)), some (.d (.int A)), none, none, none]) := by
      refine lcA_map fun k hk => ?_
      rw [lcTurn_eq]
      have m1 := mul_s (i := if A < 9 then A else 9) (j := b2i (decide ((k : Int) = (W : Int)))) (by unfold b2i; split <;> omega) (by unfold b2i; split <;> omega)
      simp -implicitDefEqProofs [m1]
      by_cases e : k = W
      · subst e
        simp [b2i]
        show A9 = max A9 0
        omega
      · have e1 : ¬ (k : Int) = (W : Int) := by omega
        simp [b2i, e, e1]
    refine ⟨(some W, (List.range b).map fun k => if k = W then A9.toNat else 0), ⟨by simp, ?_, ?_⟩, hcw.symm, ?_⟩
    · intro p hp
      obtain ⟨k, _, rfl⟩ := List.mem_map.mp hp
      show (if k = W then A9.toNat else 0) ≤ 9
      split <;> omega
    · intro w hw
      cases hw
      exact hWb
    · have eX : (if P1 < (least : Int) + (mnN leads : Nat) - (vAt leads W : Int) then (least : Int) + (mnN leads : Nat) - (vAt leads W : Int) else P1) = P2 := rfl
      simp -implicitDefEqProofs [clB, clE, zipL_map, lcz, hzl, hmb, s2, lce, i1, i2, i3, i4, hc', -Int.not_lt]
      simp -implicitDefEqProofs [rb, lq, sq, sq2, eq1, eq2, j2, j3, a2, i4, eX, eA, lm, s2, s3]
      simp [eO, wD, tN]
theorem climbing_ok (ns rs : List Int) (c b t : Nat) (hr : rs.length = ns.length) (hc : c < 90000) (hbt : (b, t) ∈ szs) :
    ∃ (R : Rl) (leads : List Nat) (least : Nat) (c' : Nat) (rs' : List Int), WF R ∧ R.b = b ∧ R.t = t ∧ leads.length = b ∧ R.os.map Prod.fst = (rowsN b t).map (clW leads least) ∧ c' ≤ c + 200 ∧ rs'.length = ns.length ∧ f__law_climbing [.list (ns.map .int), .int (b : Int), .int (t : Int)] (tw c rs) = .ok (eR R, tw c' rs') := by
  rw [sf (f := f__law_climbing) rfl _ [.int (b : Int), .int (t : Int)] (tw c rs) [some (.d (.list (ns.map .int))), some (.c (tw c rs)), some (.d (.int (b : Int))), some (.d (.int (t : Int))), none, none, none, none, none, none, none, none, none, none, none, none, none] rfl rfl]
  obtain ⟨b2, b3, t1, t4, hz⟩ := szs_ok hbt
  have rb : rngOk (b : Int) = true := rngOk_n (by omega)
  have er := rows_ok b t (by omega) b3 t1 t4 (by omega)
  obtain ⟨leads, r3, e3, hp, c3, rs3, rfl, h32, h33⟩ := lc_inv (turn := lcTurn [5] (.v 5) none (.callS "_law_draw" f__law_draw (.v 0) 1 [.bin .add (.v 3) (.k (.int 1))])) (f := fun (i : Nat) => PyData.int (i : Int)) (g := fun (i : Nat) => PyData.int (i : Int)) (l := List.range b)
        (fun pre dn r => ∃ (c3 : Nat) (rs3 : List Int), r = [some (.d (.list (ns.map .int))), some (.c (tw c3 rs3)), some (.d (.int (b : Int))), some (.d (.int (t : Int))), none, none, none, none, none, none, none, none, none, none, none, none, none] ∧ c3 ≤ c + pre.length ∧ rs3.length = ns.length)
        (r := [some (.d (.list (ns.map .int))), some (.c (tw c rs)), some (.d (.int (b : Int))), some (.d (.int (t : Int))), none, none, none, none, none, none, none, none, none, none, none, none, none]) ⟨c, rs, rfl, by simp, hr⟩ (by
          rintro pre k tl qs r hl2 hq ⟨c3, rs3, rfl, h32, h33⟩
          have hpre : pre.length ≤ 3 := by
            have := congrArg List.length hl2
            simp at this
            omega
          obtain ⟨y, rs4, hy, hr4, e4⟩ := draw_ok ns rs3 c3 (t + 1) h33 (by omega) (by omega) (by omega)
          have e4' : f__law_draw [.list (ns.map .int), .int ((t : Int) + 1)] (tw c3 rs3) = .ok (.int (y : Int), tw (c3 + 1) rs4) := by
            rw [← e4]; simp
          refine ⟨y, [some (.d (.list (ns.map .int))), some (.c (tw (c3 + 1) rs4)), some (.d (.int (b : Int))), some (.d (.int (t : Int))), none, none, none, none, none, none, none, none, none, none, none, none, none], ?_, c3 + 1, rs4, rfl, ?_, hr4⟩
          · rw [lcTurn_eq]
            simp -implicitDefEqProofs [e4']
          · simp; omega)
  simp at h32 hp
  obtain ⟨least, rs4, hy, hr4, e4⟩ := draw_ok ns rs3 c3 (t + 2) h33 (by omega) (by omega) (by omega)
  have e4' : f__law_draw [.list (ns.map .int), .int ((t : Int) + 2)] (tw c3 rs3) = .ok (.int (least : Int), tw (c3 + 1) rs4) := by
    rw [← e4]; simp
  obtain ⟨way, rs5, hway, hr5, e5⟩ := draw_ok ns rs4 (c3 + 1) 5 hr4 (by omega) (by omega) (by omega)
  have e5' : f__law_draw [.list (ns.map .int), .int 5] (tw (c3 + 1) rs4) = .ok (.int (way : Int), tw (c3 + 2) rs5) := e5
  obtain ⟨r6, e6, os, rfl, h61, h62⟩ := loop_inv (f := tN) (tg := .v 9) (body := clB) (l := rowsN b t)
    (fun dn r => ∃ (os : List Oc), r = clE (.list (ns.map .int)) (tw (c3 + 2) rs5) b t leads least way os ∧ (∀ o ∈ os, OcOk b o) ∧ os.map Prod.fst = dn.map (clW leads least)) (r := clE (.list (ns.map .int)) (tw (c3 + 2) rs5) b t leads least way [])
    ⟨[], rfl, by simp, by simp⟩ (by
      rintro dn a tl r hl ⟨os, rfl, h61, h62⟩
      have hd : dn.length ≤ 125 := by
        have := congrArg List.length hl
        rw [rowsN_len] at this
        simp at this
        have := pow_small b3 t4
        omega
      have hol : os.length = dn.length := by simpa using congrArg List.length h62
      have ha : VB b t a := mem_rows.mp (by rw [hl]; simp)
      obtain ⟨o, ho1, ho2, ho3⟩ := climb_row (.list (ns.map .int)) (tw (c3 + 2) rs5) hbt hp (least := least) hway os (by omega) ha
      refine ⟨_, ho3, os ++ [o], rfl, ?_, ?_⟩
      · intro x hx
        rcases List.mem_append.mp hx with h | h
        · exact h61 x h
        · simp at h; rw [h]; exact ho1
      · simp [h62, ho2])
  have hol : os.length = (t + 1) ^ b := by
    have := congrArg List.length h62
    simpa [rowsN_len] using this
  refine ⟨⟨b, t, os⟩, leads, least, c3 + 2, rs5, ⟨b2, b3, t1, t4, hz, hol, h61⟩, rfl, rfl, hp, h62, by omega, hr5, ?_⟩
  have s2 : small (b + 1) = true := small_of (by omega)
  simp -implicitDefEqProofs [b__law_climbing, rb, e3, hp, s2, e4', e5', er]
  unfold clE clB lN at e6
  rw [List.map_nil] at e6
  rw [e6]
  simp -implicitDefEqProofs [eR]
/-! ### known rules -/
def knB : List S := [
    .set 8 (.e (.prim .max1 [.v 7])),
    .set 9 (.e (.ite (.cmp .ge (.v 8) (.v 5)) (.meth .tindex (.v 7) (.v 8)) (.k .none))),
    .set 10 (.e (.lc [("k", 14)] (.v 14) (.rng (.v 2)) (some (.cmp .ne (.v 14) (.meth .tindex (.v 7) (.v 8)))) (.ix (.v 7) (.v 14)))),
    .set 11 (.e (.ix (.tup [.v 8, .prim .max1 [.bin .add (.v 10) (.lst [.v 5])], .v 8, .v 5]) (.v 4))),
    .ife (.cmp .eq (.v 4) (.k (.int 3))) [
      .set 13 (.e (.lc [("k", 14)] (.v 14) (.rng (.v 2)) (some (.cmp .ge (.ix (.v 7) (.v 14)) (.v 5))) (.v 14))),
      .set 9 (.e (.ite (.cmp .ne (.v 13) (.lst [])) (.ix (.v 13) (.k (.int 0))) (.k .none)))] [],
    .set 12 (.e (.prim .tuple [.lc [("k", 14)] (.v 14) (.rng (.v 2)) none (.bin .mul (.v 11) (.prim .int [.cmp .eq (.v 14) (.v 9)]))])),
    .app 6 (.tup [.v 9, .ite (.cmp .eq (.v 4) (.k (.int 2))) (.v 7) (.v 12)]),
    .drop 7,
    .drop 8,
    .drop 9,
    .drop 10,
    .drop 11,
    .drop 12,
    .drop 13]
def knE (sc : D) (tn : List D) (b t way rv : Nat) (os : List Oc) : En := [some (.d sc), some (.c tn), some (.d (.int (b : Int))), some (.d (.int (t : Int))), some (.d (.int (way : Int))), some (.d (.int (rv : Int))), some (.o (os.map eO)), none, none, none, none, none, none, none, none]
/-- who wins, what is paid -/
def hiT (rv : Nat) (l : List Nat) : Option Nat := if rv ≤ mxN l then some (l.idxOf (mxN l)) else none
def othT (b : Nat) (l : List Nat) : List Nat := ((List.range b).filter fun k => !decide (k = l.idxOf (mxN l))).map (vAt l)
def postT (b rv : Nat) (l : List Nat) : Option Nat := ((List.range b).filter fun k => decide (rv ≤ vAt l k)).head?
def payT (b : Nat) (w : Option Nat) (a : Nat) : Oc := (w, (List.range b).map fun k => if w = some k then a else 0)
def knT (b way rv : Nat) (l : List Nat) : Oc := match way with
  | 0 => payT b (hiT rv l) (mxN l)
  | 1 => payT b (hiT rv l) (mxN (othT b l ++ [rv]))
  | 2 => (hiT rv l, l)
  | _ => payT b (postT b rv l) rv
theorem eq_iw (w : Option Nat) (k : Nat) : eqD (.int (k : Int)) (wD w) = .ok (decide (w = some k)) := by
  cases w with
  | none =>
    rw [wD, eq_sh (sh_int _) sh_none]
    simp [PyData.eqv]
  | some j =>
    simp only [wD, eq_ii]
    congr 1
    exact decide_eq_decide.mpr ⟨fun h => by rw [Int.ofNat_inj.mp h], fun h => by cases h; rfl⟩
theorem eq_lN_nil (l : List Nat) : eqD (lN l) (.list []) = .ok l.isEmpty := by
  cases l with
  | nil => exact eqD_same (csLN []) (by omega)
  | cons x r => exact eqD_diff (csLN (x :: r)) (csLN []) (by omega) (by omega) (by simp [lN])
theorem pay_tN (b : Nat) (w : Option Nat) (a : Nat) : PyData.tuple ((List.range b).map fun (k : Nat) => PyData.int (if w = some k then (a : Int) else 0)) = tN (payT b w a).2 := by
  simp only [payT, tN, List.map_map]
  congr 1
  refine List.map_congr_left fun k _ => ?_
  simp only [Function.comp]
  split <;> rfl
theorem kn_tail (sc : D) (tn : List D) {b t way rv : Nat} (hb : b ≤ 1000) (os : List Oc) (ho : os.length ≤ 1000) (l : List Nat) (x8 x10 : D) (x13 : Option D) (w : Option Nat) (a : Nat) (ha : a ≤ 1000) :
    runs (knB.drop 5) [some (.d sc), some (.c tn), some (.d (.int (b : Int))), some (.d (.int (t : Int))), some (.d (.int (way : Int))), some (.d (.int (rv : Int))), some (.o (os.map eO)), some (.d (tN l)), some (.d x8), some (.d (wD w)), some (.d x10), some (.d (.int (a : Int))), none, og x13, none]
    = .ok (.nx (knE sc tn b t way rv (os ++ [if way = 2 then (w, l) else payT b w a]))) := by
  have rb : rngOk (b : Int) = true := rngOk_n (by omega)
  have s2 : small (b + 1) = true := small_of (by omega)
  have s3 : small (os.length + 1) = true := small_of (by omega)
  have dg : ∀ r : En, dropOk (og x13 :: r) 0 = true := fun r => by cases x13 <;> rfl
  have lm : lcA (lcTurn [14] (.v 14) none (.bin .mul (.v 11) (.prim .int [.cmp .eq (.v 14) (.v 9)]))) ((List.range b).map fun (k : Nat) => PyData.int (k : Int)) [some (.d sc), some (.c tn), some (.d (.int (b : Int))), some (.d (.int (t : Int))), some (.d (.int (way : Int))), some (.d (.int (rv : Int))), some (.o (os.map eO)), some (.d (tN l)), some (.d x8), some (.d (wD w)), some (.d x10), some (.d (.int (a : Int))), none, og x13, none]
      = .ok ((List.range b).map (fun (k : Nat) => PyData.int (if w = some k then (a : Int) else 0)), [some (.d sc), some (.c tn), some (.d (.int (b : Int))), some (.d (.int (t : Int))), some (.d (.int (way : Int))), some (.d (.int (rv : Int))), some (.o (os.map eO)), some (.d (tN l)), some (.d x8), some (.d (wD w)), some (.d x10), some (.d (.int (a : Int))), none, og x13, none]) := by
    refine lcA_map fun k hk => ?_
    rw [lcTurn_eq]
    have m1 := mul_s (i := (a : Int)) (j := b2i (decide (w = some k))) (by unfold b2i; split <;> omega) (by unfold b2i; split <;> omega)
    simp -implicitDefEqProofs [eq_iw, m1]
    by_cases e : w = some k
    · simp [b2i, e]
    · simp [b2i, e]
  by_cases hw : way = 2
  · have hw' : ((way : Int) = 2) ↔ True := by simp [hw]
    simp -implicitDefEqProofs [knB, rb, lm, s2, s3, dg, knE, hw']
    simp [hw, eO]
  · have hw' : ((way : Int) = 2) ↔ False := by simp; omega
    simp -implicitDefEqProofs [knB, rb, lm, s2, s3, dg, knE, hw, hw', pay_tN]
    simp [eO, payT]
def knA (b way rv : Nat) (l : List Nat) : Nat := match way with
  | 0 => mxN l
  | 1 => mxN (othT b l ++ [rv])
  | 2 => mxN l
  | _ => rv
theorem knA_le {b t rv : Nat} {l : List Nat} (hv : VB b t l) (hne : l ≠ []) (hrv : rv ≤ t) (ht : t ≤ 4) (way : Nat) : knA b way rv l ≤ 4 := by
  have hM : mxN l ≤ t := hv.2 _ (mx_mem hne)
  have h3 : mxN (othT b l ++ [rv]) ≤ 4 := by
    have := mx_mem (l := othT b l ++ [rv]) (by simp)
    rcases List.mem_append.mp this with h | h
    · obtain ⟨k, _, hk⟩ := List.mem_map.mp h
      have := hv.vAt_le k
      omega
    · simp at h; omega
  unfold knA
  split <;> omega
theorem knA_at (b rv : Nat) (l : List Nat) : ∀ {way : Nat}, way < 4 -> L2.atI [PyData.int (mxN l : Int), PyData.int (mxN (othT b l ++ [rv]) : Int), PyData.int (mxN l : Int), PyData.int (rv : Int)] (way : Int) = some (PyData.int (knA b way rv l : Int))
  | 0, _ => rfl
  | 1, _ => rfl
  | 2, _ => rfl
  | 3, _ => rfl
theorem knT_hi (b rv : Nat) (l : List Nat) : ∀ {way : Nat}, way < 4 -> way ≠ 3 -> knT b way rv l = if way = 2 then (hiT rv l, l) else payT b (hiT rv l) (knA b way rv l)
  | 0, _, _ => rfl
  | 1, _, _ => rfl
  | 2, _, _ => rfl
  | 3, _, h => absurd rfl h
theorem kn_row (sc : D) (tn : List D) {b t way rv : Nat} (hbt : (b, t) ∈ szs) (hw : way < 4) (hrv : rv ≤ t) (os : List Oc) (ho : os.length ≤ 1000) {l : List Nat} (hv : VB b t l) :
    ((bindT (.v 7) (tN l) (knE sc tn b t way rv os)).bnd fun r2 => runs knB r2) = .ok (.nx (knE sc tn b t way rv (os ++ [knT b way rv l]))) := by
  obtain ⟨b2, b3, t1, t4, hz⟩ := szs_ok hbt
  have h1 := hv.1
  have hne : l ≠ [] := fun z => by rw [z] at h1; simp at h1; omega
  have hm := mx_mem hne
  have i1 := max1_tN hne
  have i2 := tindex_tN hm
  have rb : rngOk (b : Int) = true := rngOk_n (by omega)
  have e0 : knB = knB.take 4 ++ (knB.drop 4) := rfl
  let x9 : D := wD (hiT rv l)
  have hM : mxN l ≤ t := hv.2 _ hm
  have lo : ∀ x9 : Option Rv, lcA (lcTurn [14] (.v 14) (some (.cmp .ne (.v 14) (.meth .tindex (.v 7) (.v 8)))) (.ix (.v 7) (.v 14))) ((List.range b).map fun (k : Nat) => PyData.int (k : Int)) [some (.d sc), some (.c tn), some (.d (.int (b : Int))), some (.d (.int (t : Int))), some (.d (.int (way : Int))), some (.d (.int (rv : Int))), some (.o (os.map eO)), some (.d (tN l)), some (.d (.int (mxN l : Int))), x9, none, none, none, none, none]
      = .ok (((List.range b).filter fun k => !decide (k = l.idxOf (mxN l))).map (fun (k : Nat) => PyData.int (vAt l k : Int)), [some (.d sc), some (.c tn), some (.d (.int (b : Int))), some (.d (.int (t : Int))), some (.d (.int (way : Int))), some (.d (.int (rv : Int))), some (.o (os.map eO)), some (.d (tN l)), some (.d (.int (mxN l : Int))), x9, none, none, none, none, none]) := fun x9 => by
    refine lcA_filter fun k hk => ?_
    rw [List.mem_range] at hk
    rw [lcTurn_eq]
    have j1 := ix_tN (l := l) (i := k) (by omega)
    by_cases e : k = l.idxOf (mxN l)
    · have e1 : ((k : Int) = ((l.idxOf (mxN l) : Nat) : Int)) ↔ True := by simp; omega
      have e2 : (k = l.idxOf (mxN l)) ↔ True := by simp; omega
      simp -implicitDefEqProofs [e1, e2, i2]
    · have e1 : ((k : Int) = ((l.idxOf (mxN l) : Nat) : Int)) ↔ False := by simp; omega
      simp -implicitDefEqProofs [e, e1, i2, j1]
  have loe : PyData.list (((List.range b).filter fun k => !decide (k = l.idxOf (mxN l))).map (fun (k : Nat) => PyData.int (vAt l k : Int))) = lN (othT b l) := by
    unfold lN othT
    rw [List.map_map]
    rfl
  have hol : (othT b l).length ≤ b := by
    unfold othT
    rw [List.length_map]
    exact Nat.le_trans (List.length_filter_le _ _) (by simp)
  have holf : ((List.range b).filter fun k => !decide (k = l.idxOf (mxN l))).length ≤ b := Nat.le_trans (List.length_filter_le _ _) (by simp)
  have so : small (((List.range b).filter fun k => !decide (k = l.idxOf (mxN l))).length + 1) = true := small_of (by omega)
  have so2 : small ((othT b l).length + 1) = true := small_of (by omega)
  let a : Nat := knA b way rv l
  have ha := knA_le hv hne hrv t4 way
  have ea := knA_at b rv l hw
  have im : primD .max1 [.list ((othT b l).map (fun (x : Nat) => PyData.int (x : Int)) ++ [PyData.int (rv : Int)])] = .ok (.int (mxN (othT b l ++ [rv]) : Int)) := by
    rw [← max1_lN (l := othT b l ++ [rv]) (by simp)]
    unfold lN
    rw [List.map_append]
    rfl
  have ladd : binD .add (lN (othT b l)) (.list [.int (rv : Int)]) = .ok (.list ((othT b l).map (fun (x : Nat) => PyData.int (x : Int)) ++ [PyData.int (rv : Int)])) := by
    unfold lN
    rw [add_l]
    simp [so2]
  have head : runs (knB.take 4) [some (.d sc), some (.c tn), some (.d (.int (b : Int))), some (.d (.int (t : Int))), some (.d (.int (way : Int))), some (.d (.int (rv : Int))), some (.o (os.map eO)), some (.d (tN l)), none, none, none, none, none, none, none]
      = .ok (.nx [some (.d sc), some (.c tn), some (.d (.int (b : Int))), some (.d (.int (t : Int))), some (.d (.int (way : Int))), some (.d (.int (rv : Int))), some (.o (os.map eO)), some (.d (tN l)), some (.d (.int (mxN l : Int))), some (.d (wD (hiT rv l))), some (.d (lN (othT b l))), some (.d (.int (a : Int))), none, none, none]) := by
    by_cases hc : rv ≤ mxN l
    · have hc' : ((rv : Int) ≤ ((mxN l : Nat) : Int)) ↔ True := by simp; omega
      have hh : hiT rv l = some (l.idxOf (mxN l)) := by unfold hiT; rw [if_pos hc]
      simp -implicitDefEqProofs [knB, i1, i2, hc', -Int.ofNat_le, lo, loe, rb, so, ladd, im, -max1_l, ea]
      rw [hh]
      exact ⟨rfl, rfl⟩
    · have hc' : ((rv : Int) ≤ ((mxN l : Nat) : Int)) ↔ False := by simp; omega
      have hh : hiT rv l = none := by unfold hiT; rw [if_neg hc]
      simp -implicitDefEqProofs [knB, i1, i2, hc', -Int.ofNat_le, lo, loe, rb, so, ladd, im, -max1_l, ea]
      rw [hh]
      exact ⟨rfl, rfl⟩
  show ((bindT (.v 7) (tN l) [some (.d sc), some (.c tn), some (.d (.int (b : Int))), some (.d (.int (t : Int))), some (.d (.int (way : Int))), some (.d (.int (rv : Int))), some (.o (os.map eO)), none, none, none, none, none, none, none, none]).bnd fun r2 => runs knB r2) = _
  simp -implicitDefEqProofs only [bindT_v, setD_eq, freeAt_s, freeAt_0n, chk_true, bnd_ok, List.set_cons_succ, List.set_cons_zero]
  rw [runs_cut 4 head]
  have hk3 : way ≠ 3 -> knT b way rv l = if way = 2 then (hiT rv l, l) else payT b (hiT rv l) a := knT_hi b rv l hw
  have ha' : a ≤ 1000 := Nat.le_trans ha (by omega)
  by_cases w3 : way = 3
  · have w3' : ((way : Int) = 3) ↔ True := by simp; omega
    have lp : lcA (lcTurn [14] (.v 14) (some (.cmp .ge (.ix (.v 7) (.v 14)) (.v 5))) (.v 14)) ((List.range b).map fun (k : Nat) => PyData.int (k : Int)) [some (.d sc), some (.c tn), some (.d (.int (b : Int))), some (.d (.int (t : Int))), some (.d (.int (way : Int))), some (.d (.int (rv : Int))), some (.o (os.map eO)), some (.d (tN l)), some (.d (.int (mxN l : Int))), some (.d (wD (hiT rv l))), some (.d (lN (othT b l))), some (.d (.int (a : Int))), none, none, none]
      = .ok (((List.range b).filter fun k => decide (rv ≤ vAt l k)).map (fun (k : Nat) => PyData.int (k : Int)), [some (.d sc), some (.c tn), some (.d (.int (b : Int))), some (.d (.int (t : Int))), some (.d (.int (way : Int))), some (.d (.int (rv : Int))), some (.o (os.map eO)), some (.d (tN l)), some (.d (.int (mxN l : Int))), some (.d (wD (hiT rv l))), some (.d (lN (othT b l))), some (.d (.int (a : Int))), none, none, none]) := by
      refine lcA_filter fun k hk => ?_
      rw [List.mem_range] at hk
      rw [lcTurn_eq]
      have j1 := ix_tN (l := l) (i := k) (by omega)
      by_cases e : rv ≤ vAt l k
      · simp -implicitDefEqProofs [j1, e]
      · simp -implicitDefEqProofs [j1, e]
    have lpe : PyData.list (((List.range b).filter fun k => decide (rv ≤ vAt l k)).map (fun (k : Nat) => PyData.int (k : Int))) = lN ((List.range b).filter fun k => decide (rv ≤ vAt l k)) := rfl
    have hpl : ((List.range b).filter fun k => decide (rv ≤ vAt l k)).length ≤ b := Nat.le_trans (List.length_filter_le _ _) (by simp)
    have sp : small (((List.range b).filter fun k => decide (rv ≤ vAt l k)).length + 1) = true := small_of (by omega)
    have eT : knT b way rv l = if way = 2 then (postT b rv l, l) else payT b (postT b rv l) a := by
      subst w3
      rfl
    have mid : runs ((knB.drop 4).take 1) [some (.d sc), some (.c tn), some (.d (.int (b : Int))), some (.d (.int (t : Int))), some (.d (.int (way : Int))), some (.d (.int (rv : Int))), some (.o (os.map eO)), some (.d (tN l)), some (.d (.int (mxN l : Int))), some (.d (wD (hiT rv l))), some (.d (lN (othT b l))), some (.d (.int (a : Int))), none, none, none]
      = .ok (.nx [some (.d sc), some (.c tn), some (.d (.int (b : Int))), some (.d (.int (t : Int))), some (.d (.int (way : Int))), some (.d (.int (rv : Int))), some (.o (os.map eO)), some (.d (tN l)), some (.d (.int (mxN l : Int))), some (.d (wD (postT b rv l))), some (.d (lN (othT b l))), some (.d (.int (a : Int))), none, og (some (lN ((List.range b).filter fun k => decide (rv ≤ vAt l k)))), none]) := by
      cases q : (List.range b).filter fun k => decide (rv ≤ vAt l k) with
      | nil =>
        have hh : postT b rv l = none := by unfold postT; rw [q]; rfl
        rw [q] at lp
        have z : eqD (.list []) (.list []) = .ok true := eq_lN_nil []
        simp -implicitDefEqProofs [knB, w3', rb, lp, hh, z]
        exact ⟨rfl, rfl⟩
      | cons y r =>
        have hh : postT b rv l = some y := by unfold postT; rw [q]; rfl
        rw [q] at lp sp
        have z := eq_lN_nil (y :: r)
        have zi : ixD (lN (y :: r)) (.int 0) = .ok (.int (y : Int)) := ix_lN (l := y :: r) (i := 0) (by simp)
        have sp' : small (r.length + 1 + 1) = true := sp
        simp -implicitDefEqProofs [lN] at z zi
        simp -implicitDefEqProofs [knB, w3', rb, lp, hh, sp', z, zi]
        exact ⟨rfl, rfl⟩
    rw [runs_cut 1 mid, List.drop_drop, eT]
    exact kn_tail sc tn (by omega) os ho l _ _ _ _ a ha'
  · have w3' : ((way : Int) = 3) ↔ False := by simp; omega
    have mid : runs ((knB.drop 4).take 1) [some (.d sc), some (.c tn), some (.d (.int (b : Int))), some (.d (.int (t : Int))), some (.d (.int (way : Int))), some (.d (.int (rv : Int))), some (.o (os.map eO)), some (.d (tN l)), some (.d (.int (mxN l : Int))), some (.d (wD (hiT rv l))), some (.d (lN (othT b l))), some (.d (.int (a : Int))), none, none, none]
      = .ok (.nx [some (.d sc), some (.c tn), some (.d (.int (b : Int))), some (.d (.int (t : Int))), some (.d (.int (way : Int))), some (.d (.int (rv : Int))), some (.o (os.map eO)), some (.d (tN l)), some (.d (.int (mxN l : Int))), some (.d (wD (hiT rv l))), some (.d (lN (othT b l))), some (.d (.int (a : Int))), none, og none, none]) := by
      simp -implicitDefEqProofs [knB, w3']
    rw [runs_cut 1 mid, List.drop_drop, hk3 w3]
    exact kn_tail sc tn (by omega) os ho l _ _ _ _ a ha'
end Pg

set_option Elab.async false
set_option linter.all false
set_option maxRecDepth 100000
set_option maxHeartbeats 1000000
/-! PgQ: known rules, any rule. -/
namespace Pg
open PySem Sb
theorem payT_ok {b : Nat} {w : Option Nat} {a : Nat} (ha : a ≤ 9) (hw : ∀ k, w = some k -> k < b) : OcOk b (payT b w a) := by
  refine ⟨by simp [payT], ?_, hw⟩
  intro p hp
  obtain ⟨k, _, rfl⟩ := List.mem_map.mp hp
  show (if w = some k then a else 0) ≤ 9
  split <;> omega
theorem hiT_lt {rv : Nat} {l : List Nat} (hne : l ≠ []) {k : Nat} (h : hiT rv l = some k) : k < l.length := by
  unfold hiT at h
  split at h
  · cases h
    exact idxOf_lt' (mx_mem hne)
  · cases h
theorem postT_lt {b rv : Nat} {l : List Nat} {k : Nat} (h : postT b rv l = some k) : k < b := by
  unfold postT at h
  have := List.mem_of_mem_head? (Option.mem_def.mpr h)
  rw [List.mem_filter] at this
  simpa using this.1
theorem knT_ok {b t way rv : Nat} (hbt : (b, t) ∈ szs) (hw : way < 4) (hrv : rv ≤ t) {l : List Nat} (hv : VB b t l) : OcOk b (knT b way rv l) := by
  obtain ⟨b2, b3, t1, t4, hz⟩ := szs_ok hbt
  have h1 := hv.1
  have hne : l ≠ [] := fun z => by rw [z] at h1; simp at h1; omega
  by_cases w3 : way = 3
  · subst w3
    exact payT_ok (by omega) fun k hk => postT_lt hk
  · rw [knT_hi b rv l hw w3]
    split
    · exact ⟨h1, fun p hp => by have := hv.2 p hp; omega, fun k hk => by have := hiT_lt hne hk; omega⟩
    · exact payT_ok (by have := knA_le hv hne hrv t4 way; omega) fun k hk => by have := hiT_lt hne hk; omega
def nmK : Nat -> Str
  | 0 => "first"
  | 1 => "second"
  | 2 => "all"
  | _ => "posted"
def knR (b t way rv : Nat) : Rl := ⟨b, t, (rowsN b t).map (knT b way rv)⟩
theorem knR_wf {b t way rv : Nat} (hbt : (b, t) ∈ szs) (hw : way < 4) (hrv : rv ≤ t) : WF (knR b t way rv) := by
  obtain ⟨b2, b3, t1, t4, hz⟩ := szs_ok hbt
  refine ⟨b2, b3, t1, t4, hz, by simp [knR, rowsN_len], ?_⟩
  intro o ho
  obtain ⟨l, hl, rfl⟩ := List.mem_map.mp ho
  exact knT_ok hbt hw hrv (mem_rows.mp hl)
theorem nm_at : ∀ {way : Nat}, way < 4 -> L2.atI [PyData.str "first", PyData.str "second", PyData.str "all", PyData.str "posted"] (way : Int) = some (PyData.str (nmK way))
  | 0, _ => rfl
  | 1, _ => rfl
  | 2, _ => rfl
  | 3, _ => rfl
theorem known_ok (ns rs : List Int) (c b t : Nat) (hr : rs.length = ns.length) (hc : c < 90000) (hbt : (b, t) ∈ szs) :
    ∃ (way rv : Nat) (rs' : List Int), way < 4 ∧ rv ≤ t ∧ rs'.length = ns.length ∧ f__law_known [.list (ns.map .int), .int (b : Int), .int (t : Int)] (tw c rs) = .ok (.tuple [.str (nmK way), .int (rv : Int), eR (knR b t way rv)], tw (c + 2) rs') := by
  rw [sf (f := f__law_known) rfl _ [.int (b : Int), .int (t : Int)] (tw c rs) [some (.d (.list (ns.map .int))), some (.c (tw c rs)), some (.d (.int (b : Int))), some (.d (.int (t : Int))), none, none, none, none, none, none, none, none, none, none, none] rfl rfl]
  obtain ⟨b2, b3, t1, t4, hz⟩ := szs_ok hbt
  have er := rows_ok b t (by omega) b3 t1 t4 (by omega)
  obtain ⟨way, rs4, hway, hr4, e4⟩ := draw_ok ns rs c 4 hr (by omega) (by omega) (by omega)
  have e4' : f__law_draw [.list (ns.map .int), .int 4] (tw c rs) = .ok (.int (way : Int), tw (c + 1) rs4) := e4
  obtain ⟨rv, rs5, hrv, hr5, e5⟩ := draw_ok ns rs4 (c + 1) (t + 1) hr4 (by omega) (by omega) (by omega)
  have e5' : f__law_draw [.list (ns.map .int), .int ((t : Int) + 1)] (tw (c + 1) rs4) = .ok (.int (rv : Int), tw (c + 2) rs5) := by
    rw [← e5]; simp
  obtain ⟨r6, e6, rfl⟩ := loop_inv (f := tN) (tg := .v 7) (body := knB) (l := rowsN b t)
    (fun dn r => r = knE (.list (ns.map .int)) (tw (c + 2) rs5) b t way rv (dn.map (knT b way rv))) (r := knE (.list (ns.map .int)) (tw (c + 2) rs5) b t way rv [])
    rfl (by
      rintro dn a tl r hl rfl
      have hd : dn.length ≤ 125 := by
        have := congrArg List.length hl
        rw [rowsN_len] at this
        simp at this
        have := pow_small b3 t4
        omega
      have ha : VB b t a := mem_rows.mp (by rw [hl]; simp)
      refine ⟨_, kn_row (.list (ns.map .int)) (tw (c + 2) rs5) hbt hway (by omega) (dn.map (knT b way rv)) (by simp; omega) ha, ?_⟩
      simp)
  refine ⟨way, rv, rs5, hway, by omega, hr5, ?_⟩
  simp -implicitDefEqProofs [b__law_known, e4', e5', er]
  unfold knE knB at e6
  rw [List.map_nil] at e6
  rw [e6]
  simp -implicitDefEqProofs [eR, nm_at hway, knR]
theorem rule_ok (ns rs : List Int) (c : Nat) (hr : rs.length = ns.length) (hc : c < 80000) :
    ∃ (R : Rl) (c' : Nat) (rs' : List Int), WF R ∧ (R.b, R.t) ∈ szs ∧ c' ≤ c + 300 ∧ rs'.length = ns.length ∧ f__law_rule [.list (ns.map .int)] (tw c rs) = .ok (eR R, tw c' rs') := by
  rw [sf (f := f__law_rule) rfl _ [] (tw c rs) [some (.d (.list (ns.map .int))), some (.c (tw c rs)), none, none, none] rfl rfl]
  obtain ⟨b, t, rs1, hbt, hr1, e1⟩ := sizes_ok ns rs c hr (by omega)
  obtain ⟨way, rs2, hway, hr2, e2⟩ := draw_ok ns rs1 (c + 1) 4 hr1 (by omega) (by omega) (by omega)
  have e2' : f__law_draw [.list (ns.map .int), .int 4] (tw (c + 1) rs1) = .ok (.int (way : Int), tw (c + 2) rs2) := e2
  by_cases w0 : way = 0
  · obtain ⟨R, c', rs', hW, hb, ht, hc', hr', e⟩ := drawn_ok ns rs2 (c + 2) b t hr2 (by omega) hbt
    refine ⟨R, c', rs', hW, by rw [hb, ht]; exact hbt, by omega, hr', ?_⟩
    simp -implicitDefEqProofs [b__law_rule, e1, e2', w0, e]
  · by_cases w3 : way < 3
    · obtain ⟨R, leads, least, c', rs', hW, hb, ht, hl, hos, hc', hr', e⟩ := climbing_ok ns rs2 (c + 2) b t hr2 (by omega) hbt
      refine ⟨R, c', rs', hW, by rw [hb, ht]; exact hbt, by omega, hr', ?_⟩
      have w3' : (way : Int) < 3 := by omega
      simp -implicitDefEqProofs [b__law_rule, e1, e2', w0, w3', e]
    · obtain ⟨w, rv, rs', hw, hrv, hr', e⟩ := known_ok ns rs2 (c + 2) b t hr2 (by omega) hbt
      refine ⟨knR b t w rv, c + 4, rs', knR_wf hbt hw hrv, hbt, by omega, hr', ?_⟩
      have w3' : ¬ (way : Int) < 3 := by omega
      simp -implicitDefEqProofs [b__law_rule, e1, e2', w0, w3', e, -Int.not_lt]
theorem town_ok (ns : List Int) (h : ns.length ≤ 63) : townF [.list (ns.map .int)] = .ok (tw 0 ns) := by
  show chk (small (1 + (ns.map PyData.int).length)) _ = _
  rw [small_of (show 1 + (ns.map PyData.int).length ≤ 16777216 by simp; omega)]
  rfl
end Pg

set_option Elab.async false
set_option linter.all false
set_option maxRecDepth 100000
set_option maxHeartbeats 1000000
/-! PgT: the program's own known rules. -/
namespace Pg
open PySem Sb
def insB (l : List Nat) (i x : Nat) : List Nat := l.take i ++ x :: l.drop i
def delB (l : List Nat) (i : Nat) : List Nat := l.take i ++ l.drop (i + 1)
theorem check_sizes_ok {b t rv : Nat} (hbt : (b, t) ∈ szs) (hrv : rv ≤ t) : f_check_sizes [.int (b : Int), .int (t : Int), .int (rv : Int)] = .ok .none := by
  obtain ⟨b2, b3, t1, t4, hz⟩ := szs_ok hbt
  rw [pf (f := f_check_sizes) rfl _ [some (.d (.int (b : Int))), some (.d (.int (t : Int))), some (.d (.int (rv : Int)))] rfl rfl]
  have q1 : f_is_between [.int (b : Int), .int 2, .int 3] = .ok (.bool true) := by
    rw [is_between_int, decide_eq_true (by omega), decide_eq_true (by omega)]; rfl
  have q2 : f_is_between [.int (t : Int), .int 1, .int 4] = .ok (.bool true) := by
    rw [is_between_int, decide_eq_true (by omega), decide_eq_true (by omega)]; rfl
  have q3 : f_is_between [.int (rv : Int), .int 0, .int (t : Int)] = .ok (.bool true) := by
    rw [is_between_int, decide_eq_true (by omega), decide_eq_true (by omega)]; rfl
  simp [b_check_sizes, q1, q2, q3]
theorem made_ok (x y : D) (os : List D) : f_made [x, y, .list os] = .ok (.tuple [x, y, .tuple os]) := by
  rw [pf (f := f_made) rfl _ [some (.d x), some (.d y), some (.d (.list os))] rfl rfl]
  simp [b_made]
theorem paying_ok {b : Nat} (hb : b ≤ 1000) (w : Option Nat) (a : Nat) : f_paying [.int (b : Int), wD w, .int (a : Int)] = .ok (eO (payT b w a)) := by
  rw [pf (f := f_paying) rfl _ [some (.d (.int (b : Int))), some (.d (wD w)), some (.d (.int (a : Int))), none] rfl rfl]
  have rb : rngOk (b : Int) = true := rngOk_n (by omega)
  have s2 : small (b + 1) = true := small_of (by omega)
  have lm : lcA (lcTurn [3] (.v 3) none (.ite (.cmp .eq (.v 3) (.v 1)) (.v 2) (.k (.int 0)))) ((List.range b).map fun (k : Nat) => PyData.int (k : Int)) [some (.d (.int (b : Int))), some (.d (wD w)), some (.d (.int (a : Int))), none]
      = .ok ((List.range b).map (fun (k : Nat) => PyData.int (if w = some k then (a : Int) else 0)), [some (.d (.int (b : Int))), some (.d (wD w)), some (.d (.int (a : Int))), none]) := by
    refine lcA_map fun k hk => ?_
    rw [lcTurn_eq]
    by_cases e : w = some k
    · have e1 := eq_iw w k
      rw [e] at e1
      simp -implicitDefEqProofs [e1, e]
    · simp -implicitDefEqProofs [eq_iw, e]
  simp -implicitDefEqProofs [b_paying, rb, lm, s2, pay_tN]
  rfl
theorem highest_ok {l : List Nat} (hne : l ≠ []) (rv : Nat) : f_highest [tN l, .int (rv : Int)] = .ok (wD (hiT rv l)) := by
  rw [pf (f := f_highest) rfl _ [some (.d (tN l)), some (.d (.int (rv : Int)))] rfl rfl]
  have i1 := max1_tN hne
  have i2 := tindex_tN (mx_mem hne)
  unfold hiT
  by_cases hc : rv ≤ mxN l
  · rw [if_pos hc]
    simp -implicitDefEqProofs [b_highest, i1, i2, hc]
    rfl
  · rw [if_neg hc]
    simp -implicitDefEqProofs [b_highest, i1, i2, hc]
    rfl
theorem rowsS {b t : Nat} (hbt : (b, t) ∈ szs) : f_all_bids [.int (b : Int), .int (t : Int)] = .ok (.list ((rowsN b t).map tN)) := by
  obtain ⟨b2, b3, t1, t4, hz⟩ := szs_ok hbt
  exact all_bids_ok b t (by omega) b3 t1 t4 (by omega)
theorem VB.ne {b t : Nat} {l : List Nat} (h : VB b t l) (hb : 1 ≤ b) : l ≠ [] := fun z => by
  have := h.1
  rw [z] at this
  simp at this
  omega
theorem first_price_ok {b t rv : Nat} (hbt : (b, t) ∈ szs) (hrv : rv ≤ t) : f_first_price [.int (b : Int), .int (t : Int), .int (rv : Int)] = .ok (eR (knR b t 0 rv)) := by
  obtain ⟨b2, b3, t1, t4, hz⟩ := szs_ok hbt
  rw [pf (f := f_first_price) rfl _ [some (.d (.int (b : Int))), some (.d (.int (t : Int))), some (.d (.int (rv : Int))), none] rfl rfl]
  have s2 : small ((rowsN b t).length + 1) = true := small_of (by rw [rowsN_len]; have := pow_small b3 t4; omega)
  have lm : lcA (lcTurn [3] (.v 3) none (.call "paying" f_paying [.v 0, .call "highest" f_highest [.v 3, .v 2], .prim .max1 [.v 3]])) ((rowsN b t).map tN) [some (.d (.int (b : Int))), some (.d (.int (t : Int))), some (.d (.int (rv : Int))), none]
      = .ok ((rowsN b t).map (fun l => eO (knT b 0 rv l)), [some (.d (.int (b : Int))), some (.d (.int (t : Int))), some (.d (.int (rv : Int))), none]) := by
    refine lcA_map fun l hl => ?_
    have hv := mem_rows.mp hl
    have hne := hv.ne (by omega)
    rw [lcTurn_eq]
    simp -implicitDefEqProofs [highest_ok hne, max1_tN hne, paying_ok (show b ≤ 1000 by omega)]
    rfl
  simp -implicitDefEqProofs [b_first_price, check_sizes_ok hbt hrv, rowsS hbt, lm, s2, made_ok]
  simp [eR, knR]
theorem all_pay_ok {b t rv : Nat} (hbt : (b, t) ∈ szs) (hrv : rv ≤ t) : f_all_pay [.int (b : Int), .int (t : Int), .int (rv : Int)] = .ok (eR (knR b t 2 rv)) := by
  obtain ⟨b2, b3, t1, t4, hz⟩ := szs_ok hbt
  rw [pf (f := f_all_pay) rfl _ [some (.d (.int (b : Int))), some (.d (.int (t : Int))), some (.d (.int (rv : Int))), none] rfl rfl]
  have s2 : small ((rowsN b t).length + 1) = true := small_of (by rw [rowsN_len]; have := pow_small b3 t4; omega)
  have lm : lcA (lcTurn [3] (.v 3) none (.tup [.call "highest" f_highest [.v 3, .v 2], .v 3])) ((rowsN b t).map tN) [some (.d (.int (b : Int))), some (.d (.int (t : Int))), some (.d (.int (rv : Int))), none]
      = .ok ((rowsN b t).map (fun l => eO (knT b 2 rv l)), [some (.d (.int (b : Int))), some (.d (.int (t : Int))), some (.d (.int (rv : Int))), none]) := by
    refine lcA_map fun l hl => ?_
    have hv := mem_rows.mp hl
    have hne := hv.ne (by omega)
    rw [lcTurn_eq]
    simp -implicitDefEqProofs [highest_ok hne]
    rfl
  simp -implicitDefEqProofs [b_all_pay, check_sizes_ok hbt hrv, rowsS hbt, lm, s2, made_ok]
  simp [eR, knR]
/-- the others' bids, by two ways -/
theorem oth_del (l : List Nat) (i : Nat) (hi : i < l.length) : ((List.range l.length).filter fun k => !decide (k = i)).map (vAt l) = delB l i := by
  unfold delB
  have e1 : List.range l.length = List.range i ++ (i :: (List.range (l.length - (i + 1))).map (fun k => i + 1 + k)) := by
    have h0 : ∀ m, List.range (i + (1 + m)) = List.range i ++ (i :: (List.range m).map (fun k => i + 1 + k)) := fun m => by
      rw [List.range_add, List.range_add]
      simp [List.range_succ, Nat.add_assoc]
    have h1 : i + (1 + (l.length - (i + 1))) = l.length := by omega
    have := h0 (l.length - (i + 1))
    rw [h1] at this
    exact this
  rw [e1, List.filter_append, List.filter_cons, if_neg (by simp), List.map_append]
  congr 1
  · rw [List.filter_eq_self.mpr (by
      intro k hk
      rw [List.mem_range] at hk
      simp; omega)]
    refine List.ext_getElem (by simp; omega) fun n h1 h2 => ?_
    simp at h1
    simp [vAt, List.getElem?_eq_getElem (show n < l.length by omega)]
  · rw [List.filter_eq_self.mpr (by
      intro k hk
      obtain ⟨j, _, rfl⟩ := List.mem_map.mp hk
      simp; omega)]
    refine List.ext_getElem (by simp) fun n h1 h2 => ?_
    simp at h1
    simp [vAt, List.getElem?_eq_getElem (show i + 1 + n < l.length by omega)]
theorem rest_del {l : List Nat} {i : Nat} (hi : i < l.length) (hl : l.length ≤ 1000) : f_rest_of [tN l, .int (i : Int)] = .ok (tN (delB l i)) := rest_of_ok hi hl
theorem second_price_ok {b t rv : Nat} (hbt : (b, t) ∈ szs) (hrv : rv ≤ t) : f_second_price [.int (b : Int), .int (t : Int), .int (rv : Int)] = .ok (eR (knR b t 1 rv)) := by
  obtain ⟨b2, b3, t1, t4, hz⟩ := szs_ok hbt
  rw [pf (f := f_second_price) rfl _ [some (.d (.int (b : Int))), some (.d (.int (t : Int))), some (.d (.int (rv : Int))), none, none, none] rfl rfl]
  obtain ⟨r6, e6, rfl⟩ := loop_inv (f := tN) (tg := .v 4) (body := [
    .set 5 (.e (.call "rest_of" f_rest_of [.v 4, .meth .tindex (.v 4) (.prim .max1 [.v 4])])),
    .app 3 (.call "paying" f_paying [.v 0, .call "highest" f_highest [.v 4, .v 2], .prim .max1 [.bin .add (.v 5) (.tup [.v 2])]]),
    .drop 4,
    .drop 5]) (l := rowsN b t)
    (fun dn r => r = [some (.d (.int (b : Int))), some (.d (.int (t : Int))), some (.d (.int (rv : Int))), some (.o (dn.map fun l => eO (knT b 1 rv l))), none, none]) (r := [some (.d (.int (b : Int))), some (.d (.int (t : Int))), some (.d (.int (rv : Int))), some (.o []), none, none])
    rfl (by
      rintro dn l tl r hl rfl
      have hd : dn.length ≤ 125 := by
        have := congrArg List.length hl
        rw [rowsN_len] at this
        simp at this
        have := pow_small b3 t4
        omega
      have hv : VB b t l := mem_rows.mp (by rw [hl]; simp)
      have hne := hv.ne (by omega)
      have hm := mx_mem hne
      have hi := idxOf_lt' hm
      have h1 := hv.1
      have e1 := rest_del hi (by omega)
      have ed : delB l (l.idxOf (mxN l)) = othT b l := by rw [← oth_del l _ hi, h1]; rfl
      rw [ed] at e1
      have hol : (othT b l).length ≤ b := by
        unfold othT
        rw [List.length_map]
        exact Nat.le_trans (List.length_filter_le _ _) (by simp)
      have so2 : small ((othT b l).length + 1) = true := small_of (by omega)
      have sd : small (dn.length + 1) = true := small_of (by omega)
      have ladd : binD .add (tN (othT b l)) (.tuple [.int (rv : Int)]) = .ok (tN (othT b l ++ [rv])) := by
        unfold tN
        rw [add_t]
        simp [so2]
      have im := max1_tN (l := othT b l ++ [rv]) (by simp)
      refine ⟨[some (.d (.int (b : Int))), some (.d (.int (t : Int))), some (.d (.int (rv : Int))), some (.o ((dn ++ [l]).map fun l => eO (knT b 1 rv l))), none, none], ?_, rfl⟩
      simp -implicitDefEqProofs [max1_tN hne, tindex_tN hm, e1, highest_ok hne, ladd, im, paying_ok (show b ≤ 1000 by omega), sd]
      rfl)
  simp -implicitDefEqProofs [b_second_price, check_sizes_ok hbt hrv, rowsS hbt]
  rw [e6]
  simp -implicitDefEqProofs [made_ok]
  simp [eR, knR]
theorem enumL_map {A : Type} (f : A -> D) : ∀ (l : List A) (n : Nat), enumL n (l.map f) = (l.zipIdx n).map fun p => .tuple [.int (p.2 : Int), f p.1]
  | [], n => rfl
  | a :: l, n => by simp [enumL, enumL_map f l (n + 1), List.zipIdx_cons]
theorem zipIdx_range (l : List Nat) : l.zipIdx = (List.range l.length).map fun k => (vAt l k, k) := by
  refine List.ext_getElem (by simp) fun n h1 h2 => ?_
  simp at h1
  simp [vAt, List.getElem?_eq_getElem h1]
/-- what enumerate gives of bids -/
theorem enum_tN (l : List Nat) : enumL 0 (l.map fun (x : Nat) => PyData.int (x : Int)) = (List.range l.length).map fun (k : Nat) => PyData.tuple [.int (k : Int), .int (vAt l k : Int)] := by
  rw [enumL_map, zipIdx_range, List.map_map]
  rfl
theorem posted_ok {b t rv : Nat} (hbt : (b, t) ∈ szs) (hrv : rv ≤ t) : f_posted [.int (b : Int), .int (t : Int), .int (rv : Int)] = .ok (eR (knR b t 3 rv)) := by
  obtain ⟨b2, b3, t1, t4, hz⟩ := szs_ok hbt
  rw [pf (f := f_posted) rfl _ [some (.d (.int (b : Int))), some (.d (.int (t : Int))), some (.d (.int (rv : Int))), none, none, none, none, none] rfl rfl]
  obtain ⟨r6, e6, rfl⟩ := loop_inv (f := tN) (tg := .v 4) (body := [
    .set 5 (.e (.lc [("bidder", 6), ("bid", 7)] (.t [.v 6, .v 7]) (.enum (.v 4)) (some (.cmp .ge (.v 7) (.v 2))) (.v 6))),
    .app 3 (.call "paying" f_paying [.v 0, .ite (.cmp .ne (.v 5) (.lst [])) (.ix (.v 5) (.k (.int 0))) (.k .none), .v 2]),
    .drop 4,
    .drop 5]) (l := rowsN b t)
    (fun dn r => r = [some (.d (.int (b : Int))), some (.d (.int (t : Int))), some (.d (.int (rv : Int))), some (.o (dn.map fun l => eO (knT b 3 rv l))), none, none, none, none]) (r := [some (.d (.int (b : Int))), some (.d (.int (t : Int))), some (.d (.int (rv : Int))), some (.o []), none, none, none, none])
    rfl (by
      rintro dn l tl r hl rfl
      have hd : dn.length ≤ 125 := by
        have := congrArg List.length hl
        rw [rowsN_len] at this
        simp at this
        have := pow_small b3 t4
        omega
      have hv : VB b t l := mem_rows.mp (by rw [hl]; simp)
      have h1 := hv.1
      have sd : small (dn.length + 1) = true := small_of (by omega)
      have en := enum_tN l
      rw [h1] at en
      have lp : lcA (lcTurn [6, 7] (.t [.v 6, .v 7]) (some (.cmp .ge (.v 7) (.v 2))) (.v 6)) ((List.range b).map fun (k : Nat) => PyData.tuple [.int (k : Int), .int (vAt l k : Int)]) [some (.d (.int (b : Int))), some (.d (.int (t : Int))), some (.d (.int (rv : Int))), some (.o (dn.map fun l => eO (knT b 3 rv l))), some (.d (tN l)), none, none, none]
        = .ok (((List.range b).filter fun k => decide (rv ≤ vAt l k)).map (fun (k : Nat) => PyData.int (k : Int)), [some (.d (.int (b : Int))), some (.d (.int (t : Int))), some (.d (.int (rv : Int))), some (.o (dn.map fun l => eO (knT b 3 rv l))), some (.d (tN l)), none, none, none]) := by
        refine lcA_filter fun k hk => ?_
        rw [lcTurn_eq]
        by_cases e : rv ≤ vAt l k
        · simp -implicitDefEqProofs [e]
        · simp -implicitDefEqProofs [e]
      have hpl : ((List.range b).filter fun k => decide (rv ≤ vAt l k)).length ≤ b := Nat.le_trans (List.length_filter_le _ _) (by simp)
      have sp : small (((List.range b).filter fun k => decide (rv ≤ vAt l k)).length + 1) = true := small_of (by omega)
      refine ⟨[some (.d (.int (b : Int))), some (.d (.int (t : Int))), some (.d (.int (rv : Int))), some (.o ((dn ++ [l]).map fun l => eO (knT b 3 rv l))), none, none, none, none], ?_, rfl⟩
      have pk := paying_ok (show b ≤ 1000 by omega) (postT b rv l) rv
      have hk : knT b 3 rv l = payT b (postT b rv l) rv := rfl
      cases q : (List.range b).filter fun k => decide (rv ≤ vAt l k) with
      | nil =>
        have hh : postT b rv l = none := by unfold postT; rw [q]; rfl
        rw [q] at lp
        rw [hh] at pk hk
        have z : eqD (.list []) (.list []) = .ok true := eq_lN_nil []
        have pk : f_paying [.int (b : Int), .none, .int (rv : Int)] = _ := pk
        simp -implicitDefEqProofs [en, lp, z, pk, sd, hk]
      | cons y r =>
        have hh : postT b rv l = some y := by unfold postT; rw [q]; rfl
        rw [q] at lp sp
        rw [hh] at pk hk
        have z := eq_lN_nil (y :: r)
        have zi : ixD (lN (y :: r)) (.int 0) = .ok (.int (y : Int)) := ix_lN (l := y :: r) (i := 0) (by simp)
        have sp' : small (r.length + 1 + 1) = true := sp
        have pk : f_paying [.int (b : Int), .int (y : Int), .int (rv : Int)] = _ := pk
        simp -implicitDefEqProofs [lN] at z zi
        simp -implicitDefEqProofs [en, lp, sp', z, zi, pk, sd, hk])
  simp -implicitDefEqProofs [b_posted, check_sizes_ok hbt hrv, rowsS hbt]
  rw [e6]
  simp -implicitDefEqProofs [made_ok]
  simp [eR, knR]
end Pg

set_option Elab.async false
set_option linter.all false
set_option maxRecDepth 100000
set_option maxHeartbeats 1000000
/-! PgF: winners, breaks, prices. -/
namespace Sb
theorem bnd_to {A B : Type} {x : Out A} {f : A -> Out B} {a : A} {y : Out B} (h : x = .ok a) (h2 : f a = y) : x.bnd f = y := by
  rw [h]; exact h2
theorem bnd_to2 {A B C : Type} {x : Out A} {f : A -> Out B} {g : B -> Out C} {a : A} {y : Out C} (h : x = .ok a) (h2 : (f a).bnd g = y) : (x.bnd f).bnd g = y := by
  rw [h]; exact h2
theorem bnd_to3 {A B C D : Type} {x : Out A} {f : A -> Out B} {g : B -> Out C} {k : C -> Out D} {a : A} {y : Out D} (h : x = .ok a) (h2 : ((f a).bnd g).bnd k = y) : ((x.bnd f).bnd g).bnd k = y := by
  rw [h]; exact h2
theorem bnd_assoc {A B C : Type} (x : Out A) (f : A -> Out B) (g : B -> Out C) : (x.bnd f).bnd g = x.bnd fun a => (f a).bnd g := by
  cases x <;> rfl
/-- a loop that appends one item each turn -/
theorem loop_app {A : Type} {f : A -> D} {tg : Tg} {body : List S} (env : List D -> En) (g : A -> D) {l : List A} (hl : l.length ≤ 100000) (h : ∀ (dn : List D) a, dn.length ≤ 100000 -> a ∈ l -> ((bindT tg (f a) (env dn)).bnd fun r2 => runs body r2) = .ok (.nx (env (dn ++ [g a])))) : loopA tg body (l.map f) (env []) = .ok (.nx (env (l.map g))) := by
  obtain ⟨r, e, rfl⟩ := loop_inv (f := f) (tg := tg) (body := body) (l := l) (fun dn r => r = env (dn.map g)) (r := env []) rfl (by
    rintro dn a tl r hl2 rfl
    have h1 := congrArg List.length hl2
    simp at h1
    refine ⟨_, h (dn.map g) a (by simp; omega) (by rw [hl2]; simp), by simp⟩)
  exact e
/-- a search for a fault -/
theorem find_all {A B : Type} (p : A -> Bool) (d : B) : ∀ l : List A, (l.findSome? fun a => bif p a then none else some d) = bif l.all p then none else some d
  | [] => rfl
  | a :: l => by
    rw [List.findSome?_cons, List.all_cons]
    cases h : p a with
    | true => simpa using find_all p d l
    | false => rfl
theorem fin_all {A : Type} {f : A -> D} {tg : Tg} {body : List S} {r : En} {k : En -> Out Res} {d d2 : D} (p : A -> Bool) {l : List A} (h : ∀ a ∈ l, Ans ((bindT tg (f a) r).bnd fun r2 => runs body r2) (bif p a then none else some d) r) (h2 : (k r).bnd outR = .ok d2) : ((loopA tg body (l.map f) r).bnd fun a => thn a k).bnd outR = .ok (bif l.all p then d2 else d) := by
  have h1 := loop_ans (fun a => bif p a then none else some d) h
  rw [find_all] at h1
  rw [h1.fin h2]
  cases l.all p <;> rfl
theorem seq_all {A : Type} {f : A -> D} {tg : Tg} {body : List S} {r r2 : En} {k : En -> Out Res} {d : D} (p : A -> Bool) {l : List A} (h : ∀ a ∈ l, Ans ((bindT tg (f a) r).bnd fun r2 => runs body r2) (bif p a then none else some d) r) (h2 : k r = .ok (.nx r2)) : Ans ((loopA tg body (l.map f) r).bnd fun a => thn a k) (bif l.all p then none else some d) r2 := by
  have h1 := loop_ans (fun a => bif p a then none else some d) h
  rw [find_all] at h1
  have h3 := h1.seq (o2 := none) (r2 := r2) fun _ => h2
  rw [Option.or_none] at h3
  exact h3
end Sb
namespace Pg
open PySem Sb
theorem set_self' {l : List Nat} {i : Nat} (h : i < l.length) : l.set i (vAt l i) = l := by
  unfold vAt
  rw [List.getElem?_eq_getElem h]
  simp
theorem insB_len {l : List Nat} {i x : Nat} (hi : i ≤ l.length) : (insB l i x).length = l.length + 1 := by
  unfold insB
  simp
  omega
theorem VB.ins {b t : Nat} {l : List Nat} (h : VB (b - 1) t l) {i x : Nat} (hi : i < b) (hx : x ≤ t) : VB b t (insB l i x) := by
  refine ⟨by rw [insB_len (by rw [h.1]; omega), h.1]; omega, fun y hy => ?_⟩
  unfold insB at hy
  rcases List.mem_append.mp hy with z | z
  · exact h.2 y (List.mem_of_mem_take z)
  · rcases List.mem_cons.mp z with z | z
    · omega
    · exact h.2 y (List.mem_of_mem_drop z)
theorem VB.del {b t : Nat} {l : List Nat} (h : VB b t l) {i : Nat} (hi : i < b) : VB (b - 1) t (delB l i) := by
  have h1 := h.1
  refine ⟨by unfold delB; simp; omega, fun y hy => ?_⟩
  unfold delB at hy
  rcases List.mem_append.mp hy with z | z
  · exact h.2 y (List.mem_of_mem_take z)
  · exact h.2 y (List.mem_of_mem_drop z)
theorem ins_del {l : List Nat} {i x : Nat} (hi : i < l.length) : insB (delB l i) i x = l.set i x := by
  unfold insB delB
  rw [List.set_eq_take_append_cons_drop, if_pos hi]
  have : (l.take i).length = i := by simp; omega
  rw [List.take_append_of_le_length (by omega), List.drop_append_of_le_length (by omega), List.take_take, Nat.min_self]
  simp
theorem with_bid_ins {l : List Nat} {i x : Nat} (hi : i ≤ l.length) (hl : l.length ≤ 1000) : f_with_bid [tN l, .int (i : Int), .int (x : Int)] = .ok (tN (insB l i x)) := with_bid_ok hi hl
/-! ### winners -/
def winT (R : Rl) (i : Nat) (l : List Nat) : List Nat := (List.range (R.t + 1)).filter fun x => decide ((out R (insB l i x)).1 = some i)
theorem winning_ok {R : Rl} (w : WF R) {i : Nat} (hi : i < R.b) {l : List Nat} (hl : VB (R.b - 1) R.t l) : f_winning [eR R, .int (i : Int), tN l] = .ok (lN (winT R i l)) := by
  rw [pf (f := f_winning) rfl _ [some (.d (eR R)), some (.d (.int (i : Int))), some (.d (tN l)), none] rfl rfl]
  have hb := w.b3
  have h4 := w.t4
  have lm : lcA (lcTurn [3] (.v 3) (some (.cmp .eq (.ix (.call "outcome_of" f_outcome_of [.v 0, .call "with_bid" f_with_bid [.v 2, .v 1, .v 3]]) (.k (.int 0))) (.v 1))) (.v 3)) ((List.range (R.t + 1)).map fun (k : Nat) => PyData.int (k : Int)) [some (.d (eR R)), some (.d (.int (i : Int))), some (.d (tN l)), none]
      = .ok (((List.range (R.t + 1)).filter fun x => decide ((out R (insB l i x)).1 = some i)).map (fun (k : Nat) => PyData.int (k : Int)), [some (.d (eR R)), some (.d (.int (i : Int))), some (.d (tN l)), none]) := by
    refine lcA_filter fun x hx => ?_
    rw [List.mem_range] at hx
    rw [lcTurn_eq]
    have e1 := with_bid_ins (x := x) (show i ≤ l.length by rw [hl.1]; omega) (by rw [hl.1]; omega)
    have e2 := outcome_of_ok w (hl.ins hi (show x ≤ R.t by omega))
    have e3 := eq_w (out R (insB l i x)).1 i
    by_cases e : (out R (insB l i x)).1 = some i
    · rw [e] at e3
      simp -implicitDefEqProofs [e1, e2, e3, e]
    · simp -implicitDefEqProofs [e1, e2, e3, e]
  have hpl : ((List.range (R.t + 1)).filter fun x => decide ((out R (insB l i x)).1 = some i)).length ≤ R.t + 1 := Nat.le_trans (List.length_filter_le _ _) (by simp)
  have sp : small (((List.range (R.t + 1)).filter fun x => decide ((out R (insB l i x)).1 = some i)).length + 1) = true := small_of (by omega)
  simp -implicitDefEqProofs [b_winning, w.rt, lm, sp]
  rfl
theorem winT_le {R : Rl} {i : Nat} {l : List Nat} {x : Nat} (h : x ∈ winT R i l) : x ≤ R.t := by
  unfold winT at h
  rw [List.mem_filter, List.mem_range] at h
  omega
/-- at a place the winners are rising -/
def riseAt (R : Rl) (i : Nat) (l : List Nat) : Bool := match winT R i l with
  | [] => true
  | x :: r => decide (r.length + 1 + x = R.t + 1)
def riseT (R : Rl) : Bool := (List.range R.b).all fun i => (rowsN (R.b - 1) R.t).all fun l => riseAt R i l
theorem does_rise_ok {R : Rl} (w : WF R) : f_does_rise [eR R] = .ok (.bool (riseT R)) := by
  rw [pf (f := f_does_rise) rfl _ [some (.d (eR R)), none, none, none] rfl rfl]
  simp -implicitDefEqProofs [b_does_rise, w.rb]
  refine (Sb.fin_all (d := .bool false) (d2 := .bool true) (fun i => (rowsN (R.b - 1) R.t).all fun l => riseAt R i l) ?_ ?_).trans ?_
  · intro i hi
    rw [List.mem_range] at hi
    simp -implicitDefEqProofs [w.rows1]
    refine seq_all (fun l => riseAt R i l) ?_ ?_
    · intro l hl
      have hv := mem_rows.mp hl
      have e1 := winning_ok w hi hv
      unfold riseAt
      cases q : winT R i l with
      | nil =>
        rw [q] at e1
        have z : eqD (lN []) (.list []) = .ok true := eq_lN_nil []
        refine Ans.nx ?_
        simp -implicitDefEqProofs [e1, z]
      | cons x r =>
        rw [q] at e1
        have z : eqD (lN (x :: r)) (.list []) = .ok false := eq_lN_nil (x :: r)
        have zi : ixD (lN (x :: r)) (.int 0) = .ok (.int (x : Int)) := ix_lN (l := x :: r) (i := 0) (by simp)
        have zl : primD .len [lN (x :: r)] = .ok (.int ((r.length + 1 : Nat) : Int)) := by
          unfold lN
          rw [len_l]
          simp
        by_cases h : r.length + 1 + x = R.t + 1
        · have h' : ((r.length : Int) + 1 = (R.t : Int) + 1 - (x : Int)) ↔ True := by simp; omega
          have h2 : (fun x_1 : Bool => x_1) (decide (r.length + 1 + x = R.t + 1)) = true := by simp [h]
          simp only [h, decide_true, cond_true]
          refine Ans.nx ?_
          simp -implicitDefEqProofs [e1, z, zi, zl, h']
        · have h' : ((r.length : Int) + 1 = (R.t : Int) + 1 - (x : Int)) ↔ False := by simp; omega
          simp only [h, decide_false, cond_false]
          refine Ans.rt (r' := [some (.d (eR R)), some (.d (.int (i : Int))), some (.d (tN l)), some (.d (lN (x :: r)))]) ?_
          simp -implicitDefEqProofs [e1, z, zi, zl, h']
    · simp -implicitDefEqProofs
  · simp -implicitDefEqProofs
  · show _ = Out.ok (PyData.bool ((List.range R.b).all fun i => (rowsN (R.b - 1) R.t).all fun l => riseAt R i l))
    cases (List.range R.b).all fun i => (rowsN (R.b - 1) R.t).all fun l => riseAt R i l <;> rfl
theorem is_rising_ok {R : Rl} (w : WF R) : f_is_rising [eR R] = .ok (.bool (riseT R)) := by
  rw [pf (f := f_is_rising) rfl _ [some (.d (eR R))] rfl rfl]
  simp [b_is_rising, check_rule_ok w, does_rise_ok w]
theorem least_winning_ok {R : Rl} (w : WF R) {i : Nat} (hi : i < R.b) {l : List Nat} (hl : VB (R.b - 1) R.t l) : f_least_winning [eR R, .int (i : Int), tN l] = .ok (wD (winT R i l).head?) := by
  rw [pf (f := f_least_winning) rfl _ [some (.d (eR R)), some (.d (.int (i : Int))), some (.d (tN l)), none] rfl rfl]
  have e1 := winning_ok w hi hl
  cases q : winT R i l with
  | nil =>
    rw [q] at e1
    have z : eqD (lN []) (.list []) = .ok true := eq_lN_nil []
    simp -implicitDefEqProofs [b_least_winning, check_rule_ok w, check_bidder_ok hi, check_rest_ok w hl, e1, z]
    rfl
  | cons x r =>
    rw [q] at e1
    have z : eqD (lN (x :: r)) (.list []) = .ok false := eq_lN_nil (x :: r)
    have zi : ixD (lN (x :: r)) (.int 0) = .ok (.int (x : Int)) := ix_lN (l := x :: r) (i := 0) (by simp)
    simp -implicitDefEqProofs [b_least_winning, check_rule_ok w, check_bidder_ok hi, check_rest_ok w hl, e1, z, zi]
    rfl
/-! ### prices -/
def amT (R : Rl) (l : List Nat) : Nat := match (out R l).1 with
  | none => 0
  | some k => ((winT R k (delB l k)).head?).getD 0
def prT (R : Rl) (most : Bool) (l : List Nat) : Oc := payT R.b (out R l).1 (bif most then amT R l else amT R l - 1)
def prR (R : Rl) (most : Bool) : Rl := ⟨R.b, R.t, (rowsN R.b R.t).map (prT R most)⟩
def whD : Bool -> D
  | true => .str "most"
  | false => .str "least"
theorem own_wins {R : Rl} {l : List Nat} (hv : VB R.b R.t l) {k : Nat} (hk : k < R.b) (h : (out R l).1 = some k) : vAt l k ∈ winT R k (delB l k) := by
  unfold winT
  rw [List.mem_filter, List.mem_range, ins_del (hv.at hk), set_self' (hv.at hk)]
  have := hv.vAt_le k
  exact ⟨by omega, by simpa using h⟩
theorem amT_le {R : Rl} (w : WF R) {l : List Nat} : amT R l ≤ R.t := by
  unfold amT
  split
  · omega
  · rename_i k _
    cases q : (winT R k (delB l k)).head? with
    | none => simp
    | some x => exact winT_le (List.mem_of_mem_head? (Option.mem_def.mpr q))
theorem prR_wf {R : Rl} (w : WF R) (most : Bool) : WF (prR R most) := by
  refine ⟨w.b2, w.b3, w.t1, w.t4, w.sz, by simp [prR, rowsN_len], ?_⟩
  intro o ho
  obtain ⟨l, hl, rfl⟩ := List.mem_map.mp ho
  have hv := mem_rows.mp hl
  refine payT_ok ?_ fun k hk => (w.out hv).2.2.2 k hk
  have := amT_le w (l := l)
  have := w.t4
  cases most <;> simp <;> omega
theorem wh_in (most : Bool) : cmpD .notin (whD most) (.tuple [.str "least", .str "most"]) = .ok (.bool false) := by
  have h1 : depthOk (whD most) (.tuple [.str "least", .str "most"]) = true := by cases most <;> decide +kernel
  have h2 : ([PyData.str "least", PyData.str "most"].any fun z => PyData.eqv z (whD most)) = true := by cases most <;> decide +kernel
  rw [cmp_ninT, h1, h2]
  rfl
theorem wh_str (most : Bool) : isiD .str (whD most) = true := by cases most <;> rfl
theorem wh_eq (most : Bool) : eqD (whD most) (.str "most") = .ok most := by
  rw [eq_sh (by cases most <;> decide +kernel) (by decide +kernel)]
  exact congrArg Out.ok (by cases most <;> decide +kernel)
theorem priced_ok {R : Rl} (w : WF R) (most : Bool) : f_priced [eR R, whD most] = .ok (oD eR (if riseT R then some (prR R most) else none)) := by
  rw [pf (f := f_priced) rfl _ [some (.d (eR R)), some (.d (whD most)), none, none, none, none] rfl rfl]
  have h3 := w.b3
  have h4 := w.t4
  by_cases h : riseT R = true
  · simp -implicitDefEqProofs [b_priced, check_rule_ok w, -cmp_ninT, wh_in, wh_str, does_rise_ok w, h, w.rows]
    have hN : (rowsN R.b R.t).length ≤ 100000 := by rw [rowsN_len]; have := pow_small h3 h4; omega
    refine bnd_to2 (loop_app (fun (os : List D) => [some (.d (eR R)), some (.d (whD most)), some (.o os), none, none, none]) (fun l => eO (prT R most l)) hN ?_) ?_
    · intro os l hos hl
      have hv := mem_rows.mp hl
      have s3 : small (os.length + 1) = true := small_of (by omega)
      have e1 := outcome_of_ok w hv
      have oo := (w.out hv).2.2.2
      have pk := paying_ok (show R.b ≤ 1000 by omega) (out R l).1 (bif most then amT R l else amT R l - 1)
      have pt : prT R most l = payT R.b (out R l).1 (bif most then amT R l else amT R l - 1) := rfl
      have mx : ∀ a : Nat, (if (a : Int) - 1 > 0 then (a : Int) - 1 else 0) = ((a - 1 : Nat) : Int) := fun a => by split <;> omega
      have mx' : ∀ a : Nat, (if 1 < (a : Int) then (a : Int) - 1 else 0) = ((a - 1 : Nat) : Int) := fun a => by split <;> omega
      cases q : (out R l).1 with
      | none =>
        have ha : amT R l = 0 := by unfold amT; rw [q]
        rw [q, ha] at pk
        have pk : f_paying [.int (R.b : Int), .none, .int 0] = .ok (eO (prT R most l)) := by
          rw [pt, q, ha, ← pk]
          cases most <;> rfl
        cases most <;> simp -implicitDefEqProofs [e1, q, wD, wh_eq, s3, pk]
      | some k =>
        have hk : k < R.b := oo k q
        have e2 := rest_del (hv.at hk) (by rw [hv.1]; omega)
        have e3 := winning_ok w hk (hv.del hk)
        have e4 := own_wins hv hk q
        cases q2 : winT R k (delB l k) with
        | nil => rw [q2] at e4; simp at e4
        | cons x r =>
          have ha : amT R l = x := by unfold amT; rw [q]; simp [q2]
          rw [q2] at e3
          have zi : ixD (lN (x :: r)) (.int 0) = .ok (.int (x : Int)) := ix_lN (l := x :: r) (i := 0) (by simp)
          rw [q, ha] at pk
          rw [q, ha] at pt
          rw [← pt] at pk
          have e5 := wh_eq most
          cases most with
          | true =>
            have pk : f_paying [.int (R.b : Int), .int (k : Int), .int (x : Int)] = _ := pk
            simp -implicitDefEqProofs [e1, q, wD, e2, e3, zi, e5, pk, s3]
          | false =>
            have pk : f_paying [.int (R.b : Int), .int (k : Int), .int ((x - 1 : Nat) : Int)] = _ := pk
            simp -implicitDefEqProofs [e1, q, wD, e2, e3, zi, e5, mx', pk, s3]
    · simp -implicitDefEqProofs [made_ok, eR, prR]
  · have h : riseT R = false := by simpa using h
    simp -implicitDefEqProofs [b_priced, check_rule_ok w, -cmp_ninT, wh_in, wh_str, does_rise_ok w, h]
end Pg

set_option Elab.async false
set_option linter.all false
set_option maxRecDepth 100000
set_option maxHeartbeats 1000000
/-! PgG: small things that several laws need. -/
namespace Pg
open PySem Sb
theorem foldl_or {A B : Type} (f : A -> Option B) : ∀ (l : List A) (s : Option B), l.foldl (fun s a => s.or (f a)) s = s.or (l.findSome? f)
  | [], s => by simp
  | a :: l, s => by
    rw [List.foldl_cons, foldl_or f l, List.findSome?_cons]
    cases s <;> cases f a <;> simp
theorem foldl_pair {A B C : Type} (f : B -> A -> B) (g : C -> A -> C) : ∀ (l : List A) (x : B) (y : C), l.foldl (fun s a => (f s.1 a, g s.2 a)) (x, y) = (l.foldl f x, l.foldl g y)
  | [], x, y => rfl
  | a :: l, x, y => by simp [foldl_pair f g l]
theorem csLie (p : Nat × List Nat × Nat) : Cd 3 (eLie p) := csT3 ((csI _).mono (by omega)) (csTN _) ((csI _).mono (by omega))
theorem csIL (p : Nat × List Nat) : Cd 3 (eIL p) := csT2 ((csI _).mono (by omega)) (csTN _)
theorem csJoint (p : Nat × Nat × List Nat × List Nat) : Cd 3 (eJoint p) := csT4 ((csI _).mono (by omega)) ((csI _).mono (by omega)) (csTN _) (csTN _)
theorem lieF_some {R : Rl} {i : Nat} {l : List Nat} {x : Nat} (h : lieF R = some (i, l, x)) : i < R.b ∧ VB R.b R.t l ∧ x ≤ R.t ∧ gainT R i (vAt l i) l < gainT R i (vAt l i) (l.set i x) := by
  unfold lieF at h
  obtain ⟨i', hi, h⟩ := List.exists_of_findSome?_eq_some h
  obtain ⟨l', hl, h⟩ := List.exists_of_findSome?_eq_some h
  obtain ⟨x', hx, h⟩ := List.exists_of_findSome?_eq_some h
  unfold lieT at h
  split at h
  · rename_i hg
    cases h
    rw [List.mem_range] at hi hx
    exact ⟨hi, mem_rows.mp hl, by omega, hg⟩
  · cases h
theorem set_self {l : List Nat} {i : Nat} (h : i < l.length) : l.set i (vAt l i) = l := set_self' h
theorem WF.lrows {R : Rl} (w : WF R) : f__law_rows [.int (R.b : Int), .int (R.t : Int)] = .ok (.list ((rowsN R.b R.t).map tN)) := rows_ok R.b R.t (by have := w.b2; omega) w.b3 w.t1 w.t4 (by have := w.sz; omega)
theorem WF.lrows1 {R : Rl} (w : WF R) : f__law_rows [.int ((R.b : Int) - 1), .int (R.t : Int)] = .ok (.list ((rowsN (R.b - 1) R.t).map tN)) := by
  have h2 := w.b2
  have h3 := w.b3
  rw [show ((R.b : Int) - 1) = ((R.b - 1 : Nat) : Int) by omega]
  exact rows_ok (R.b - 1) R.t (by omega) (by omega) w.t1 w.t4 (by omega)
theorem WF.lrows2 {R : Rl} (w : WF R) : f__law_rows [.int 2, .int (R.t : Int)] = .ok (.list ((rowsN 2 R.t).map tN)) := rows_ok 2 R.t (by omega) (by omega) w.t1 w.t4 (by omega)
theorem WF.lgain {R : Rl} (w : WF R) {i v : Nat} {l : List Nat} (hi : i < R.b) (hv : v ≤ R.t) (h : VB R.b R.t l) : f__law_gain [eR R, .int (i : Int), .int (v : Int), tN l] = .ok (.int (gainT R i v l)) := law_gain_ok w hi (by have := w.t4; omega) h
/-- a rule with one outcome throughout -/
def oneR (b t : Nat) (o : Oc) : Rl := ⟨b, t, List.replicate ((t + 1) ^ b) o⟩
theorem oneR_wf {b t : Nat} (hbt : (b, t) ∈ szs) {o : Oc} (ho : OcOk b o) : WF (oneR b t o) := by
  obtain ⟨b2, b3, t1, t4, hz⟩ := szs_ok hbt
  refine ⟨b2, b3, t1, t4, hz, by simp [oneR], ?_⟩
  intro p hp
  have := List.eq_of_mem_replicate hp
  rw [this]
  exact ho
theorem rep_one {A : Type} (n : Nat) (x : A) : rep n [x] = List.replicate n x := by
  unfold rep
  induction n with
  | zero => rfl
  | succ n ih => rw [List.replicate_succ, List.flatten_cons, ih]; rfl
theorem eR_one (b t : Nat) (o : Oc) : eR (oneR b t o) = .tuple [.int (b : Int), .int (t : Int), .tuple (List.replicate ((t + 1) ^ b) (eO o))] := by
  simp [eR, oneR]
def ocB (b : Nat) (o : Oc) : Bool := decide (o.2.length = b) && o.2.all (fun p => Nat.ble p 9) && (match o.1 with
  | none => true
  | some w => Nat.blt w b)
theorem ocB_ok {b : Nat} {o : Oc} (h : ocB b o = true) : OcOk b o := by
  unfold ocB at h
  simp only [Bool.and_eq_true, decide_eq_true_eq, List.all_eq_true] at h
  obtain ⟨⟨h1, h2⟩, h3⟩ := h
  refine ⟨h1, fun p hp => Nat.le_of_ble_eq_true (h2 p hp), fun w hw => ?_⟩
  rw [hw] at h3
  exact Nat.le_of_ble_eq_true h3
def wfB (R : Rl) : Bool := Nat.ble 2 R.b && Nat.ble R.b 3 && Nat.ble 1 R.t && Nat.ble R.t 4 && (Nat.beq R.b 2 || Nat.ble R.t 2) && Nat.beq R.os.length ((R.t + 1) ^ R.b) && R.os.all (ocB R.b)
theorem wfB_ok {R : Rl} (h : wfB R = true) : WF R := by
  unfold wfB at h
  simp only [Bool.and_eq_true, List.all_eq_true, Bool.or_eq_true] at h
  obtain ⟨⟨⟨⟨⟨⟨h1, h2⟩, h3⟩, h4⟩, h5⟩, h6⟩, h7⟩ := h
  exact ⟨Nat.le_of_ble_eq_true h1, Nat.le_of_ble_eq_true h2, Nat.le_of_ble_eq_true h3, Nat.le_of_ble_eq_true h4, h5.imp Nat.eq_of_beq_eq_true Nat.le_of_ble_eq_true, Nat.eq_of_beq_eq_true h6, fun o ho => ocB_ok (h7 o ho)⟩
/-! ### greatest of whole numbers -/
def mxI : List Int -> Int
  | [] => 0
  | x :: r => r.foldl max x
theorem fmaxI_mem : ∀ (r : List Int) (x : Int), r.foldl max x ∈ x :: r
  | [], x => by simp
  | y :: r, x => by
    rw [List.foldl_cons]
    have := fmaxI_mem r (max x y)
    rcases List.mem_cons.mp this with h | h
    · rw [h]
      by_cases q : x ≤ y
      · rw [Int.max_eq_right q]; simp
      · rw [Int.max_eq_left (by omega)]; simp
    · exact List.mem_cons_of_mem _ (List.mem_cons_of_mem _ h)
theorem fmaxI_all : ∀ (r : List Int) (x y : Int), y ∈ x :: r -> y ≤ r.foldl max x
  | [], x, y, h => by simp at h; simp [h]
  | z :: r, x, y, h => by
    rw [List.foldl_cons]
    rcases List.mem_cons.mp h with h | h
    · have := fmaxI_all r (max x z) (max x z) List.mem_cons_self
      omega
    · rcases List.mem_cons.mp h with h | h
      · have := fmaxI_all r (max x z) (max x z) List.mem_cons_self
        omega
      · exact fmaxI_all r (max x z) y (List.mem_cons_of_mem _ h)
theorem mxI_mem {l : List Int} (h : l ≠ []) : mxI l ∈ l := by
  cases l with
  | nil => exact absurd rfl h
  | cons x r => exact fmaxI_mem r x
theorem mxI_ge {l : List Int} {y : Int} (h : y ∈ l) : y ≤ mxI l := by
  cases l with
  | nil => simp at h
  | cons x r => exact fmaxI_all r x y h
def mnI : List Int -> Int
  | [] => 0
  | x :: r => r.foldl min x
theorem fminI_mem : ∀ (r : List Int) (x : Int), r.foldl min x ∈ x :: r
  | [], x => by simp
  | y :: r, x => by
    rw [List.foldl_cons]
    have := fminI_mem r (min x y)
    rcases List.mem_cons.mp this with h | h
    · rw [h]
      by_cases q : x ≤ y
      · rw [Int.min_eq_left q]; simp
      · rw [Int.min_eq_right (by omega)]; simp
    · exact List.mem_cons_of_mem _ (List.mem_cons_of_mem _ h)
theorem fminI_all : ∀ (r : List Int) (x y : Int), y ∈ x :: r -> r.foldl min x ≤ y
  | [], x, y, h => by simp at h; simp [h]
  | z :: r, x, y, h => by
    rw [List.foldl_cons]
    rcases List.mem_cons.mp h with h | h
    · have := fminI_all r (min x z) (min x z) List.mem_cons_self
      omega
    · rcases List.mem_cons.mp h with h | h
      · have := fminI_all r (min x z) (min x z) List.mem_cons_self
        omega
      · exact fminI_all r (min x z) y (List.mem_cons_of_mem _ h)
theorem mnI_mem {l : List Int} (h : l ≠ []) : mnI l ∈ l := by
  cases l with
  | nil => exact absurd rfl h
  | cons x r => exact fminI_mem r x
theorem mnI_le {l : List Int} {y : Int} (h : y ∈ l) : mnI l ≤ y := by
  cases l with
  | nil => simp at h
  | cons x r => exact fminI_all r x y h
def lI (l : List Int) : D := .list (l.map .int)
theorem max1_lI {l : List Int} (h : l ≠ []) : primD .max1 [lI l] = .ok (.int (mxI l)) := by
  show (ofO (intsD _)).bnd _ = _
  rw [intsD_ints]
  cases l with
  | nil => exact absurd rfl h
  | cons x r => rfl
theorem min1_lI {l : List Int} (h : l ≠ []) : primD .min1 [lI l] = .ok (.int (mnI l)) := by
  show (ofO (intsD _)).bnd _ = _
  rw [intsD_ints]
  cases l with
  | nil => exact absurd rfl h
  | cons x r => rfl
theorem ix_lI {l : List Int} {i : Nat} {v : Int} (h : l[i]? = some v) : ixD (lI l) (.int (i : Int)) = .ok (.int v) := by
  show ofO (L2.atI _ _) = _
  rw [atI_of (n := i) rfl (v := PyData.int v) (by rw [List.getElem?_map, h]; rfl)]
  rfl
end Pg

set_option Elab.async false
set_option linter.all false
set_option maxRecDepth 100000
set_option maxHeartbeats 4000000
/-! PgTa: texts of rules. -/
namespace Pg
open PySem Sb
def dg (d : Nat) : Str := Str.ofString (toString ((d : Nat) : Int))
def ocS (o : Oc) : Str := (match o.1 with
  | none => ("-" : Str)
  | some k => dg k) ++ ":" ++ Txt.join "," (o.2.map dg)
def lnS (R : Rl) : Str := Txt.join " " (dg R.b :: dg R.t :: R.os.map ocS)
theorem num_dg {d : Nat} (h : d ≤ 9) : numT (dg d) = (d : Int) := by
  have all : (List.range 10).all (fun d => decide (numT (dg d) = (d : Int))) = true := by decide +kernel
  exact of_decide_eq_true (List.all_eq_true.mp all d (List.mem_range.mpr (by omega)))
theorem tl_dg {d : Nat} (h : d ≤ 9) : TL.tl (dg d) = [48 + d] := by
  unfold dg
  rw [TL.tl_num, TL.numL_lt (by omega)]
theorem num_range (w : Str) : -1 ≤ numT w := by
  unfold numT
  split
  · split
    · omega
    · omega
  · omega
theorem tl_ap (a b : Str) : TL.tl (a ++ b) = TL.tl a ++ TL.tl b := TL.tl_append a b
theorem split_line {ps : List Str} (hne : ps ≠ []) (h : ∀ p ∈ ps, 32 ∉ TL.tl p) : Txt.split (Txt.join " " ps) " " = ps := TL.split_join (s := 32) (S := []) (by decide +kernel) (by decide +kernel) hne h
theorem split_comma {ps : List Str} (hne : ps ≠ []) (h : ∀ p ∈ ps, 44 ∉ TL.tl p) : Txt.split (Txt.join "," ps) "," = ps := TL.split_join (s := 44) (S := []) (by decide +kernel) (by decide +kernel) hne h
theorem split_colon {ps : List Str} (hne : ps ≠ []) (h : ∀ p ∈ ps, 58 ∉ TL.tl p) : Txt.split (Txt.join ":" ps) ":" = ps := TL.split_join (s := 58) (S := []) (by decide +kernel) (by decide +kernel) hne h
theorem dg_free {d s : Nat} (h : d ≤ 9) (hs : s < 48 ∨ 57 < s) : s ∉ TL.tl (dg d) := by
  rw [tl_dg h]
  simp
  omega
end Pg

set_option Elab.async false
set_option linter.all false
set_option maxRecDepth 100000
set_option maxHeartbeats 4000000
/-! PgTb: the defs that write texts. -/
namespace Pg
open PySem Sb
/-- a rule of any size that is_rule takes -/
structure Wp (R : Rl) : Prop where
  b2 : 2 ≤ R.b
  b3 : R.b ≤ 3
  t1 : 1 ≤ R.t
  t4 : R.t ≤ 4
  len : R.os.length = (R.t + 1) ^ R.b
  ocs : ∀ o ∈ R.os, OcOk R.b o
theorem WF.wp {R : Rl} (h : WF R) : Wp R := ⟨h.b2, h.b3, h.t1, h.t4, h.len, h.ocs⟩
theorem Wp.len_le {R : Rl} (h : Wp R) : R.os.length ≤ 125 := by
  rw [h.len]
  exact pow_small h.b3 h.t4
theorem str1_dg {d : Nat} (h : d ≤ 1000) : opD .str1 [.int (d : Int)] = .ok (.str (dg d)) := by
  show chk (ab _ _) _ = _
  rw [ab_of (by omega) (by omega)]
  rfl
theorem strs_map (ps : List Str) : strsD (ps.map .str) = some ps := by
  induction ps with
  | nil => rfl
  | cons p ps ih => rw [List.map_cons, strsD, ih]; rfl
theorem join_ok {sep : Str} {ps : List Str} (h : small ((ps.map (·.length)).sum + ps.length * sep.length) = true) : opD (.join sep) [.list (ps.map .str)] = .ok (.str (Txt.join sep ps)) := by
  show (ofO (strsD _)).bnd _ = _
  rw [strs_map, ofO_some, bnd_ok, h]
  rfl
theorem len_dg {d : Nat} (h : d ≤ 9) : (dg d).length = 1 := by
  rw [TL.len_tl, tl_dg h]
  rfl
theorem sum_le {l : List Str} {n : Nat} (h : ∀ x ∈ l, x.length ≤ n) : (l.map (·.length)).sum ≤ l.length * n := by
  induction l with
  | nil => simp
  | cons x l ih =>
    have h1 := h x (by simp)
    have h2 := ih fun y hy => h y (by simp [hy])
    rw [List.map_cons, List.sum_cons, List.length_cons, Nat.add_mul]
    omega
theorem len_join (sep : Str) (ps : List Str) {n : Nat} (h : ∀ x ∈ ps, x.length ≤ n) : (Txt.join sep ps).length ≤ ps.length * (n + sep.length) := by
  cases ps with
  | nil => exact Nat.zero_le _
  | cons a l =>
    rw [TL.join_eq, PyProof.Rows.len_join_cons]
    have h1 := sum_le h
    have h2 : l.length * sep.length ≤ (a :: l).length * sep.length := Nat.mul_le_mul_right _ (by simp)
    rw [Nat.mul_add]
    omega
theorem c1_len : ((",":Str)).length = 1 := by decide +kernel
theorem c2_len : ((":":Str)).length = 1 := by decide +kernel
theorem c3_len : (("-":Str)).length = 1 := by decide +kernel
theorem c4_len : ((" ":Str)).length = 1 := by decide +kernel
theorem app_len (x y : Str) : (x ++ y).length = x.length + y.length := by
  rw [TL.len_tl, TL.tl_append, List.length_append, ← TL.len_tl, ← TL.len_tl]
def wS (w : Option Nat) : Str := match w with
  | none => ("-" : Str)
  | some k => dg k
theorem ocS_eq (o : Oc) : ocS o = wS o.1 ++ ":" ++ Txt.join "," (o.2.map dg) := rfl
theorem wS_len {w : Option Nat} (h : ∀ k, w = some k -> k ≤ 9) : (wS w).length = 1 := by
  cases w with
  | none => exact c3_len
  | some k => exact len_dg (h k rfl)
theorem pays_len {l : List Nat} (h : ∀ x ∈ l, x ≤ 9) : (Txt.join "," (l.map dg)).length ≤ 2 * l.length := by
  have := len_join "," (l.map dg) (n := 1) fun x hx => by
    obtain ⟨d, hd, rfl⟩ := List.mem_map.mp hx
    rw [len_dg (h d hd)]
    exact Nat.le_refl _
  rw [List.length_map, c1_len] at this
  omega
theorem ocS_len {b : Nat} (hb : b ≤ 3) {o : Oc} (h : OcOk b o) : (ocS o).length ≤ 8 := by
  obtain ⟨h1, h2, h3⟩ := h
  have a := pays_len h2
  rw [ocS_eq, app_len, app_len, wS_len (fun k hk => by have := h3 k hk; omega), c2_len]
  omega
theorem pays_ok {l : List Nat} (h : ∀ x ∈ l, x ≤ 9) (hl : l.length ≤ 1000) : opD (.join ",") [.list (l.map fun (x : Nat) => PyData.str (dg x))] = .ok (.str (Txt.join "," (l.map dg))) := by
  have s := sum_le (l := l.map dg) (n := 1) fun x hx => by
    obtain ⟨d, hd, rfl⟩ := List.mem_map.mp hx
    rw [len_dg (h d hd)]
    exact Nat.le_refl _
  have := join_ok (sep := ",") (ps := l.map dg) (small_of (by
    rw [c1_len]
    simp only [List.length_map] at s ⊢
    omega))
  rw [List.map_map] at this
  exact this
theorem outcome_text_ok {b : Nat} (hb : b ≤ 3) {o : Oc} (h : OcOk b o) : f_outcome_text [eO o] = .ok (.str (ocS o)) := by
  obtain ⟨w, p⟩ := o
  obtain ⟨h1, h2, h3⟩ := h
  simp only at h1 h2 h3
  rw [pf (f := f_outcome_text) rfl _ [some (.d (.tuple [wD w, tN p])), none, none] rfl rfl]
  have hw : ∀ k, w = some k -> k ≤ 9 := fun k hk => by have := h3 k hk; omega
  have lm : lcA (lcTurn [2] (.v 2) none (.op .str1 [.v 2])) (p.map fun (x : Nat) => PyData.int (x : Int)) [some (.d (.tuple [wD w, tN p])), some (.d (.str (wS w))), none] = .ok (p.map (fun (x : Nat) => PyData.str (dg x)), [some (.d (.tuple [wD w, tN p])), some (.d (.str (wS w))), none]) := by
    refine lcA_map fun x hx => ?_
    rw [lcTurn_eq]
    simp -implicitDefEqProofs [str1_dg (show x ≤ 1000 by have := h2 x hx; omega)]
  have jn := pays_ok h2 (by omega)
  have pl := pays_len h2
  have s1 : small ((wS w).length + (":":Str).length) = true := small_of (by rw [wS_len hw, c2_len]; omega)
  have s2 : small ((wS w ++ ":").length + (Txt.join "," (p.map dg)).length) = true := small_of (by rw [app_len, wS_len hw, c2_len]; omega)
  have s3 : small (p.length + 1) = true := small_of (by omega)
  have e1 : itemsD (tN p) = .ok (p.map fun (x : Nat) => PyData.int (x : Int)) := rfl
  have st1 : runs (b_outcome_text.take 1) [some (.d (.tuple [wD w, tN p])), none, none] = .ok (.nx [some (.d (.tuple [wD w, tN p])), some (.d (.str (wS w))), none]) := by
    cases w with
    | none => simp -implicitDefEqProofs [b_outcome_text, wD, wS]
    | some k => simp -implicitDefEqProofs [b_outcome_text, wD, wS, str1_dg (show k ≤ 1000 by have := hw k rfl; omega)]
  rw [runs_cut 1 st1]
  simp -implicitDefEqProofs [b_outcome_text, s1, e1, lm, s3, jn, s2]
  rfl
theorem ocs_ok {R : Rl} (h : Wp R) : opD (.join " ") [.list (.str (dg R.b) :: .str (dg R.t) :: R.os.map fun o => PyData.str (ocS o))] = .ok (.str (lnS R)) := by
  have b3 := h.b3
  have t4 := h.t4
  have s := sum_le (l := dg R.b :: dg R.t :: R.os.map ocS) (n := 8) fun x hx => by
    rcases List.mem_cons.mp hx with e | hx
    · rw [e, len_dg (by omega)]; omega
    rcases List.mem_cons.mp hx with e | hx
    · rw [e, len_dg (by omega)]; omega
    obtain ⟨o, ho, rfl⟩ := List.mem_map.mp hx
    exact ocS_len b3 (h.ocs o ho)
  have hl := h.len_le
  have := join_ok (sep := " ") (ps := dg R.b :: dg R.t :: R.os.map ocS) (small_of (by
    rw [c4_len]
    simp only [List.length_cons, List.length_map] at s ⊢
    omega))
  simp only [List.map_cons, List.map_map] at this
  exact this
theorem lnS_len {R : Rl} (h : Wp R) : (lnS R).length ≤ 2000 := by
  have b3 := h.b3
  have t4 := h.t4
  have hl := h.len_le
  have := len_join " " (dg R.b :: dg R.t :: R.os.map ocS) (n := 8) fun x hx => by
    rcases List.mem_cons.mp hx with e | hx
    · rw [e, len_dg (by omega)]; omega
    rcases List.mem_cons.mp hx with e | hx
    · rw [e, len_dg (by omega)]; omega
    obtain ⟨o, ho, rfl⟩ := List.mem_map.mp hx
    exact ocS_len b3 (h.ocs o ho)
  rw [c4_len] at this
  simp only [List.length_cons, List.length_map] at this
  show (Txt.join " " _).length ≤ _
  omega
theorem rule_text_ok {R : Rl} (h : Wp R) : f_rule_text [eR R] = .ok (.str (lnS R)) := by
  rw [pf (f := f_rule_text) rfl _ [some (.d (eR R)), none] rfl rfl]
  have b3 := h.b3
  have t4 := h.t4
  have hl := h.len_le
  have lm : lcA (lcTurn [1] (.v 1) none (.call "outcome_text" f_outcome_text [.v 1])) (R.os.map eO) [some (.d (eR R)), none] = .ok (R.os.map (fun o => PyData.str (ocS o)), [some (.d (eR R)), none]) := by
    refine lcA_map fun o ho => ?_
    rw [lcTurn_eq]
    simp -implicitDefEqProofs [outcome_text_ok b3 (h.ocs o ho)]
  have s1 : small (R.os.length + 1) = true := small_of (by omega)
  have s2 : small (2 + R.os.length) = true := small_of (by omega)
  have jn := ocs_ok h
  unfold eR at lm ⊢
  simp -implicitDefEqProofs [b_rule_text, str1_dg (show R.b ≤ 1000 by omega), str1_dg (show R.t ≤ 1000 by omega), lm, s1, s2, jn]
theorem format_rule_ok {R : Rl} (h : WF R) : f_format_rule [eR R] = .ok (.str (lnS R)) := by
  rw [pf (f := f_format_rule) rfl _ [some (.d (eR R))] rfl rfl]
  simp -implicitDefEqProofs [b_format_rule, check_rule_ok h, rule_text_ok h.wp]
theorem law_line_ok {R : Rl} (h : Wp R) : f__law_line [eR R] = .ok (.str (lnS R)) := by
  rw [pf (f := f__law_line) rfl _ [some (.d (eR R)), none, none, none, none, none] rfl rfl]
  have b3 := h.b3
  have t4 := h.t4
  have hl := h.len_le
  have lm : loopA (.t [.v 2, .v 3]) [
    .set 4 (.e (.ite (.cmp .isn (.v 2) (.k .none)) (.k (.str "-")) (.op .str1 [.v 2]))),
    .app 1 (.bin .add (.bin .add (.v 4) (.k (.str ":"))) (.op (.join ",") [.lc [("amount", 5)] (.v 5) (.seq (.v 3)) none (.op .str1 [.v 5])])),
    .drop 2,
    .drop 3,
    .drop 4] (R.os.map eO) [some (.d (eR R)), some (.o [.str (dg R.b), .str (dg R.t)]), none, none, none, none] = .ok (.nx [some (.d (eR R)), some (.o (.str (dg R.b) :: .str (dg R.t) :: R.os.map fun o => PyData.str (ocS o))), none, none, none, none]) := by
    obtain ⟨r', e, h'⟩ := loop_inv (f := eO) (tg := .t [.v 2, .v 3]) (l := R.os) (body := [
      .set 4 (.e (.ite (.cmp .isn (.v 2) (.k .none)) (.k (.str "-")) (.op .str1 [.v 2]))),
      .app 1 (.bin .add (.bin .add (.v 4) (.k (.str ":"))) (.op (.join ",") [.lc [("amount", 5)] (.v 5) (.seq (.v 3)) none (.op .str1 [.v 5])])),
      .drop 2,
      .drop 3,
      .drop 4]) (fun dn r => r = [some (.d (eR R)), some (.o (.str (dg R.b) :: .str (dg R.t) :: dn.map fun o => PyData.str (ocS o))), none, none, none, none])
      (r := [some (.d (eR R)), some (.o [.str (dg R.b), .str (dg R.t)]), none, none, none, none]) rfl (by
        rintro dn o tl r hl2 rfl
        have ho : o ∈ R.os := by rw [hl2]; simp
        have hd : dn.length ≤ 125 := by
          have := congrArg List.length hl2
          simp at this
          omega
        obtain ⟨w, p⟩ := o
        obtain ⟨h1, h2, h3⟩ := h.ocs _ ho
        simp only at h1 h2 h3
        have hw : ∀ k, w = some k -> k ≤ 9 := fun k hk => by have := h3 k hk; omega
        have lm : lcA (lcTurn [5] (.v 5) none (.op .str1 [.v 5])) (p.map fun (x : Nat) => PyData.int (x : Int)) [some (.d (eR R)), some (.o (.str (dg R.b) :: .str (dg R.t) :: dn.map fun o => PyData.str (ocS o))), some (.d (wD w)), some (.d (tN p)), some (.d (.str (wS w))), none]
          = .ok (p.map (fun (x : Nat) => PyData.str (dg x)), [some (.d (eR R)), some (.o (.str (dg R.b) :: .str (dg R.t) :: dn.map fun o => PyData.str (ocS o))), some (.d (wD w)), some (.d (tN p)), some (.d (.str (wS w))), none]) := by
          refine lcA_map fun x hx => ?_
          rw [lcTurn_eq]
          simp -implicitDefEqProofs [str1_dg (show x ≤ 1000 by have := h2 x hx; omega)]
        have jn := pays_ok h2 (by omega)
        have pl := pays_len h2
        have s1 : small ((wS w).length + (":":Str).length) = true := small_of (by rw [wS_len hw, c2_len]; omega)
        have s2 : small ((wS w ++ ":").length + (Txt.join "," (p.map dg)).length) = true := small_of (by rw [app_len, wS_len hw, c2_len]; omega)
        have s3 : small (p.length + 1) = true := small_of (by omega)
        have s4 : small (dn.length + 1 + 1 + 1) = true := small_of (by omega)
        have e1 : itemsD (tN p) = .ok (p.map fun (x : Nat) => PyData.int (x : Int)) := rfl
        have st1 : run (.set 4 (.e (.ite (.cmp .isn (.v 2) (.k .none)) (.k (.str "-")) (.op .str1 [.v 2])))) [some (.d (eR R)), some (.o (.str (dg R.b) :: .str (dg R.t) :: dn.map fun o => PyData.str (ocS o))), some (.d (wD w)), some (.d (tN p)), none, none] = .ok (.nx [some (.d (eR R)), some (.o (.str (dg R.b) :: .str (dg R.t) :: dn.map fun o => PyData.str (ocS o))), some (.d (wD w)), some (.d (tN p)), some (.d (.str (wS w))), none]) := by
          cases w with
          | none => simp -implicitDefEqProofs [wD, wS]
          | some k => simp -implicitDefEqProofs [wD, wS, str1_dg (show k ≤ 1000 by have := hw k rfl; omega)]
        refine ⟨_, ?_, rfl⟩
        show (bindT _ (PyData.tuple [wD w, tN p]) _).bnd _ = _
        simp -implicitDefEqProofs only [bindT_t, bindTs_cons, bindT_v, bindTs_nil, setD_eq, freeAt_s, freeAt_0n, chk_true, bnd_ok, List.set_cons_succ, List.set_cons_zero]
        rw [runs_cons, st1]
        simp -implicitDefEqProofs [s1, e1, lm, s3, jn, s2, s4]
        rfl)
    rw [e, h']
  have jn := ocs_ok h
  unfold eR at lm ⊢
  simp -implicitDefEqProofs [b__law_line, str1_dg (show R.b ≤ 1000 by omega), str1_dg (show R.t ≤ 1000 by omega), lm, jn]
end Pg

set_option Elab.async false
set_option linter.all false
set_option maxRecDepth 100000
set_option maxHeartbeats 4000000
/-! PgTc: is_rule on all that is parsed. -/
namespace Pg
open PySem Sb
theorem all_bids33 : f_all_bids [.int 3, .int 3] = .ok (.list ((rowsN 3 3).map tN)) := beqO_eq (by decide +kernel)
theorem all_bids34 : f_all_bids [.int 3, .int 4] = .ok (.list ((rowsN 3 4).map tN)) := beqO_eq (by decide +kernel)
theorem all_bids_any {b t : Nat} (h1 : 2 ≤ b) (h2 : b ≤ 3) (h3 : 1 ≤ t) (h4 : t ≤ 4) : f_all_bids [.int (b : Int), .int (t : Int)] = .ok (.list ((rowsN b t).map tN)) := by
  by_cases h : b ≤ 2 ∨ t ≤ 2
  · exact all_bids_ok b t (by omega) h2 h3 h4 h
  · have hb : b = 3 := by omega
    have ht : t = 3 ∨ t = 4 := by omega
    subst hb
    rcases ht with rfl | rfl
    · exact all_bids33
    · exact all_bids34
theorem is_rule_wp {R : Rl} (h : Wp R) : f_is_rule [eR R] = .ok (.bool true) := by
  rw [pf (f := f_is_rule) rfl _ [some (.d (eR R)), none, none, none, none] rfl rfl]
  obtain ⟨h1, h2, h3, h4, h5, h6⟩ := h
  have q1 : f_is_between [.int (R.b : Int), .int 2, .int 3] = .ok (.bool true) := by
    rw [is_between_int, decide_eq_true (by omega), decide_eq_true (by omega)]; rfl
  have q2 : f_is_between [.int (R.t : Int), .int 1, .int 4] = .ok (.bool true) := by
    rw [is_between_int, decide_eq_true (by omega), decide_eq_true (by omega)]; rfl
  have q3 := all_bids_any h1 h2 h3 h4
  have hs := pow_small h2 h4
  simp [b_is_rule, eR, q1, q2, q3, rowsN_len, h5]
  rw [lcA_map (g := fun _ => .bool true)]
  · simp [h5, small_of (show (R.t + 1) ^ R.b + 1 ≤ 16777216 by omega), boolsD_map (fun _ => true)]
  · intro a ha
    rw [lcTurn_eq]
    simp [is_outcome_ok (h6 a ha) (by omega)]
/-! ### what is parsed, rule or not -/
abbrev Po := Option Int × List Int
def wI : Option Int -> D
  | none => .none
  | some i => .int i
def ePo (o : Po) : D := .tuple [wI o.1, .tuple (o.2.map .int)]
def okPo (b : Int) (o : Po) : Bool := (decide ((o.2.length : Int) = b) && o.2.all fun x => decide (0 ≤ x) && decide (x ≤ 9)) && match o.1 with
  | none => true
  | some w => decide (0 ≤ w) && decide (w ≤ b - 1)
theorem are_bids_i (b t : Int) (l : List Int) (hl : l.length ≤ 1000000) : f_are_bids [.int b, .int t, .tuple (l.map .int)] = .ok (.bool (decide ((l.length : Int) = b) && l.all fun x => decide (0 ≤ x) && decide (x ≤ t))) := by
  rw [pf (f := f_are_bids) rfl _ [some (.d (.int b)), some (.d (.int t)), some (.d (.tuple (l.map .int))), none] rfl rfl]
  by_cases h : (l.length : Int) = b
  · simp [b_are_bids, h]
    rw [lcA_map (g := fun (x : Int) => .bool (decide (0 ≤ x) && decide (x ≤ t)))]
    · simp [small_of (show l.length + 1 ≤ 16777216 by omega), boolsD_map]
    · intro a ha
      rw [lcTurn_eq]
      simp [is_between_int]
  · simp [b_are_bids, h]
theorem is_outcome_any (b : Int) {o : Po} (hl : o.2.length ≤ 1000000) : f_is_outcome [.int b, ePo o] = .ok (.bool (okPo b o)) := by
  obtain ⟨w, p⟩ := o
  rw [pf (f := f_is_outcome) rfl _ [some (.d (.int b)), some (.d (.tuple [wI w, .tuple (p.map .int)]))] rfl rfl]
  have ea := are_bids_i b 9 p hl
  unfold okPo
  cases q : (decide ((p.length : Int) = b) && p.all fun x => decide (0 ≤ x) && decide (x ≤ 9)) with
  | false =>
    rw [q] at ea
    simp [b_is_outcome, ea]
  | true =>
    rw [q] at ea
    cases w with
    | none => simp [b_is_outcome, ea, wI]
    | some w => simp [b_is_outcome, ea, wI, is_between_int]
def fnd (n m : Int) (os : List Po) : D := .tuple [.int n, .int m, .tuple (os.map ePo)]
def okRl (n m : Int) (os : List Po) : Bool := (decide (2 ≤ n) && decide (n ≤ 3)) && ((decide (1 ≤ m) && decide (m ≤ 4)) && (decide (os.length = (m.toNat + 1) ^ n.toNat) && os.all (okPo n)))
theorem is_rule_any (n m : Int) {os : List Po} (hl : os.length ≤ 1000000) (ho : ∀ o ∈ os, o.2.length ≤ 1000000) : f_is_rule [fnd n m os] = .ok (.bool (okRl n m os)) := by
  rw [pf (f := f_is_rule) rfl _ [some (.d (fnd n m os)), none, none, none, none] rfl rfl]
  unfold okRl
  have e1 := is_between_int n 2 3
  have e2 := is_between_int m 1 4
  cases q1 : (decide (2 ≤ n) && decide (n ≤ 3)) with
  | false =>
    rw [q1] at e1
    simp [b_is_rule, fnd, e1]
  | true =>
    rw [q1] at e1
    cases q2 : (decide (1 ≤ m) && decide (m ≤ 4)) with
    | false =>
      rw [q2] at e2
      simp [b_is_rule, fnd, e1, e2]
    | true =>
      rw [q2] at e2
      simp only [Bool.and_eq_true, decide_eq_true_eq] at q1 q2
      have en : n = ((n.toNat : Nat) : Int) := by omega
      have em : m = ((m.toNat : Nat) : Int) := by omega
      have q3 := all_bids_any (b := n.toNat) (t := m.toNat) (by omega) (by omega) (by omega) (by omega)
      rw [← en, ← em] at q3
      have rl : (rowsN n.toNat m.toNat).length = (m.toNat + 1) ^ n.toNat := rowsN_len _ _
      by_cases q4 : os.length = (m.toNat + 1) ^ n.toNat
      · have q5 : ((os.length : Nat) : Int) = (((m.toNat + 1) ^ n.toNat : Nat) : Int) := by rw [q4]
        have lm : lcA (lcTurn [4] (.v 4) none (.call "is_outcome" f_is_outcome [.v 1, .v 4])) (os.map ePo) [some (.d (fnd n m os)), some (.d (.int n)), some (.d (.int m)), some (.d (.tuple (os.map ePo))), none] = .ok (os.map (fun o => PyData.bool (okPo n o)), [some (.d (fnd n m os)), some (.d (.int n)), some (.d (.int m)), some (.d (.tuple (os.map ePo))), none]) := by
          refine lcA_map fun o h => ?_
          rw [lcTurn_eq]
          simp -implicitDefEqProofs [is_outcome_any n (ho o h)]
        have s1 : small (os.length + 1) = true := small_of (by omega)
        unfold fnd at lm ⊢
        simp -implicitDefEqProofs [b_is_rule, e1, e2, q3, rl, q4, -Int.natCast_pow]
        rw [q4] at s1
        simp -implicitDefEqProofs [lm, s1, q4, boolsD_map]
      · have q5 : ¬ ((os.length : Nat) : Int) = (((m.toNat + 1) ^ n.toNat : Nat) : Int) := by omega
        simp -implicitDefEqProofs [b_is_rule, fnd, e1, e2, q3, rl, q4, q5, -Int.natCast_pow]
/-- what is_rule takes is a rule -/
theorem okRl_rule {n m : Int} {os : List Po} (h : okRl n m os = true) : ∃ R : Rl, Wp R ∧ eR R = fnd n m os := by
  unfold okRl at h
  simp only [Bool.and_eq_true, decide_eq_true_eq] at h
  obtain ⟨⟨h1, h2⟩, ⟨h3, h4⟩, h5, h6⟩ := h
  have en : ((n.toNat : Nat) : Int) = n := by omega
  have em : ((m.toNat : Nat) : Int) = m := by omega
  have one : ∀ o ∈ os, OcOk n.toNat (o.1.map Int.toNat, o.2.map Int.toNat) ∧ eO (o.1.map Int.toNat, o.2.map Int.toNat) = ePo o := fun o ho => by
    have := List.all_eq_true.mp h6 o ho
    obtain ⟨w, p⟩ := o
    unfold okPo at this
    simp only [Bool.and_eq_true, decide_eq_true_eq, List.all_eq_true] at this
    obtain ⟨⟨a1, a2⟩, a3⟩ := this
    refine ⟨⟨by simp only [List.length_map]; omega, fun x hx => ?_, fun k hk => ?_⟩, ?_⟩
    · obtain ⟨y, hy, rfl⟩ := List.mem_map.mp hx
      have := a2 y hy
      omega
    · cases w with
      | none => cases hk
      | some w =>
        cases hk
        simp only [Bool.and_eq_true, decide_eq_true_eq] at a3
        omega
    · unfold eO ePo
      have e2 : tN (p.map Int.toNat) = .tuple (p.map .int) := by
        unfold tN
        rw [List.map_map]
        congr 1
        refine List.map_congr_left fun y hy => ?_
        have := a2 y hy
        show PyData.int ((y.toNat : Nat) : Int) = _
        congr 1
        omega
      have e1 : wD (w.map Int.toNat) = wI w := by
        cases w with
        | none => rfl
        | some w =>
          simp only [Bool.and_eq_true, decide_eq_true_eq] at a3
          show PyData.int ((w.toNat : Nat) : Int) = PyData.int w
          congr 1
          omega
      show PyData.tuple [wD (w.map Int.toNat), tN (p.map Int.toNat)] = _
      rw [e1, e2]
  refine ⟨⟨n.toNat, m.toNat, os.map fun o => (o.1.map Int.toNat, o.2.map Int.toNat)⟩, ⟨by show 2 ≤ n.toNat; omega, by show n.toNat ≤ 3; omega, by show 1 ≤ m.toNat; omega, by show m.toNat ≤ 4; omega, by simp only [List.length_map]; exact h5, fun o ho => ?_⟩, ?_⟩
  · obtain ⟨q, hq, rfl⟩ := List.mem_map.mp ho
    exact (one q hq).1
  · unfold eR fnd
    simp only [en, em, List.map_map]
    have e : List.map (eO ∘ fun o : Po => (Option.map Int.toNat o.1, List.map Int.toNat o.2)) os = List.map ePo os := List.map_congr_left fun o ho => (one o ho).2
    rw [e]
end Pg

set_option Elab.async false
set_option linter.all false
set_option maxRecDepth 100000
set_option maxHeartbeats 4000000
/-! PgTd: the defs that read texts. -/
namespace Pg
open PySem Sb
theorem strOk_iff {x : Str} : PyData.strOk x = true ↔ ∀ c ∈ TL.tl x, c < 0x110000 := by
  unfold PyData.strOk TL.tl
  rw [← Array.all_toList, List.all_eq_true]
  simp
/-- a text of at most n signs -/
def Tx (n : Nat) (z : Str) : Prop := PyData.strOk z = true ∧ z.length ≤ n
theorem joinL_mem {S : List Nat} : ∀ {ps : List (List Nat)} {p : List Nat} {c : Nat}, p ∈ ps -> c ∈ p -> c ∈ TL.joinL S ps
  | [], _, _, h, _ => by simp at h
  | [q], p, c, h, hc => by
    rw [List.mem_singleton.mp h] at hc
    exact hc
  | q :: q2 :: r, p, c, h, hc => by
    show c ∈ q ++ (S ++ TL.joinL S (q2 :: r))
    rcases List.mem_cons.mp h with e | e
    · rw [e] at hc
      exact List.mem_append_left _ hc
    · exact List.mem_append_right _ (List.mem_append_right _ (joinL_mem e hc))
theorem joinL_of {S : List Nat} : ∀ {ps : List (List Nat)} {c : Nat}, c ∈ TL.joinL S ps -> c ∈ S ∨ ∃ p ∈ ps, c ∈ p
  | [], _, h => by cases h
  | [q], c, h => .inr ⟨q, by simp, h⟩
  | q :: q2 :: r, c, h => by
    have h : c ∈ q ++ (S ++ TL.joinL S (q2 :: r)) := h
    rcases List.mem_append.mp h with h | h
    · exact .inr ⟨q, by simp, h⟩
    rcases List.mem_append.mp h with h | h
    · exact .inl h
    · rcases joinL_of h with h | ⟨p, hp, h⟩
      · exact .inl h
      · exact .inr ⟨p, by simp at hp ⊢; right; exact hp, h⟩
theorem split_tx {n : Nat} {z sep p : Str} (h : Tx n z) (hp : p ∈ Txt.split z sep) : Tx n p := by
  refine ⟨strOk_iff.mpr fun c hc => ?_, Nat.le_trans (PyProof.Rows.part_short hp) h.2⟩
  refine strOk_iff.mp h.1 c ?_
  have e := StrLaws.join_split z sep
  rw [← e, TL.tl_join]
  exact joinL_mem (List.mem_map.mpr ⟨p, hp, rfl⟩) hc
theorem eqS {n m : Nat} {a b : Str} (ha : Tx n a) (hb : Tx m b) : eqD (.str a) (.str b) = .ok (decide (a = b)) := by
  by_cases h : a = b
  · subst h
    rw [eqD_same (csS ha.1) (by omega), decide_eq_true rfl]
  · rw [eqD_diff (csS ha.1) (csS hb.1) (by omega) (by omega) (by intro z; cases z; exact h rfl), decide_eq_false h]
theorem num_ok {n : Nat} (hn : n ≤ 1000000) {w : Str} (h : Tx n w) : numF [.str w] = .ok (.int (numT w)) := by
  show chk (small w.length) _ = _
  rw [small_of (by have := h.2; omega)]
  rfl
theorem split_ok {n : Nat} (hn : n ≤ 1000000) {z sep : Str} (h : Tx n z) (hs : sep.length = 1) : opD (.split sep) [.str z] = .ok (.list ((Txt.split z sep).map .str)) := by
  show chk (!(sep.length == 0) && small (z.length + 2)) _ = _
  rw [hs, small_of (by have := h.2; omega)]
  rfl
theorem dash_tx : Tx 1 ("-" : Str) := ⟨by decide +kernel, by rw [c3_len]; omega⟩
def rdO (z : Str) : Po := (if (Txt.split z ":").headD "" = ("-" : Str) then none else some (numT ((Txt.split z ":").headD "")), (Txt.split ((Txt.split z ":").getLastD "") ",").map numT)
theorem split_ne (z sep : Str) : Txt.split z sep ≠ [] := fun e => by
  have := PyProof.Rows.split_pos z sep
  rw [e] at this
  simp at this
theorem hd_at {A : Type} (f : Str -> A) {l : List Str} (h : l ≠ []) : L2.atI (l.map f) 0 = some (f (l.headD "")) := by
  cases l with
  | nil => exact absurd rfl h
  | cons a l => exact atI_of (n := 0) rfl rfl
theorem last_some {l : List Str} (h : l ≠ []) : l.getLast? = some (l.getLastD "") := by
  cases l with
  | nil => exact absurd rfl h
  | cons a l => rw [List.getLastD_eq_getLast?, List.getLast?_cons]; rfl
theorem last_mem {l : List Str} (h : l ≠ []) : l.getLastD "" ∈ l := List.mem_of_getLast? (last_some h)
theorem last_at {A : Type} (f : Str -> A) {l : List Str} (h : l ≠ []) : L2.atI (l.map f) (-1) = some (f (l.getLastD "")) := by
  have hp : 0 < l.length := List.length_pos_iff.mpr h
  unfold L2.atI L2.ixN
  simp only [List.length_map]
  rw [if_neg (by omega), if_pos (by omega)]
  show (l.map f)[((l.length : Int) + -1).toNat]? = _
  rw [show ((l.length : Int) + -1).toNat = l.length - 1 by omega, List.getElem?_map, ← List.getLast?_eq_getElem?, last_some h]
  rfl
theorem read_ok {n : Nat} (hn : n ≤ 1000000) {z : Str} (h : Tx n z) : f_read_outcome [.str z] = .ok (ePo (rdO z)) := by
  rw [pf (f := f_read_outcome) rfl _ [some (.d (.str z)), none, none, none] rfl rfl]
  have hne := split_ne z ":"
  have sp := split_ok hn h c2_len
  have hh : (Txt.split z ":").headD "" ∈ Txt.split z ":" := by
    cases q : Txt.split z ":" with
    | nil => exact absurd q hne
    | cons a l => simp
  have hl : (Txt.split z ":").getLastD "" ∈ Txt.split z ":" := last_mem hne
  have th := split_tx h hh
  have tl := split_tx h hl
  have a0 := hd_at PyData.str hne
  have a1 := last_at PyData.str hne
  have q := eqS th dash_tx
  have sp2 := split_ok hn tl c1_len
  unfold rdO ePo
  generalize Txt.split z ":" = ps at *
  generalize ps.headD "" = hd at *
  generalize ps.getLastD "" = la at *
  obtain ⟨wv, hw⟩ : ∃ wv, wv = wI (if hd = ("-" : Str) then none else some (numT hd)) := ⟨_, rfl⟩
  have lm : lcA (lcTurn [3] (.v 3) none (.call "number_of" numF [.v 3])) ((Txt.split la ",").map .str) [some (.d (.str z)), some (.d (.list (ps.map .str))), some (.d wv), none] = .ok ((Txt.split la ",").map (fun w => PyData.int (numT w)), [some (.d (.str z)), some (.d (.list (ps.map .str))), some (.d wv), none]) := by
    refine lcA_map fun w hw => ?_
    rw [lcTurn_eq]
    simp -implicitDefEqProofs [num_ok hn (split_tx tl hw)]
  have s1 : small ((Txt.split la ",").length + 1) = true := small_of (by
    have := PyProof.Rows.split_le la ","
    have := tl.2
    omega)
  have st1 : runs (b_read_outcome.take 2) [some (.d (.str z)), none, none, none] = .ok (.nx [some (.d (.str z)), some (.d (.list (ps.map .str))), some (.d wv), none]) := by
    by_cases e : hd = ("-" : Str)
    · rw [decide_eq_true e] at q
      rw [if_pos e] at hw
      simp -implicitDefEqProofs [b_read_outcome, sp, a0, q, hw, wI]
    · rw [decide_eq_false e] at q
      rw [if_neg e] at hw
      simp -implicitDefEqProofs [b_read_outcome, sp, a0, q, hw, wI, num_ok hn th]
  rw [runs_cut 2 st1]
  simp -implicitDefEqProofs [b_read_outcome, den_neg, a1, sp2, lm, s1]
  rw [hw]
theorem is_rule_two (x y : D) : f_is_rule [.tuple [x, y]] = .ok (.bool false) := by
  rw [pf (f := f_is_rule) rfl _ [some (.d (.tuple [x, y])), none, none, none, none] rfl rfl]
  simp [b_is_rule]
theorem parse_not {d : D} (h : isiD .str d = false) : f_parse_rule [d] = .exn "InvalidText" := by
  rw [pf (f := f_parse_rule) rfl _ [some (.d d), none, none, none, none] rfl rfl]
  simp [b_parse_rule, h]
theorem parse_pre {n : Nat} (hn : n ≤ 100000) {z : Str} (h : Tx n z) : f_parse_rule [.str z] = (runs (b_parse_rule.drop 4) [some (.d (.str z)), some (.d (.list ((Txt.split z " ").map .str))), some (.d (.tuple (((Txt.split z " ").take 2).map fun w => PyData.int (numT w)))), none, some (.d (.tuple ((((Txt.split z " ").take 2).map fun w => PyData.int (numT w)) ++ [.tuple ((((Txt.split z " ").drop 2).map rdO).map ePo)])))]).bnd outR := by
  rw [pf (f := f_parse_rule) rfl _ [some (.d (.str z)), none, none, none, none] rfl rfl]
  have sp := split_ok (by omega) h c4_len
  have sl := PyProof.Rows.split_le z " "
  have hz := h.2
  have tx : ∀ p ∈ Txt.split z " ", Tx n p := fun p hp => split_tx h hp
  generalize Txt.split z " " = ws at *
  have c1 : cut (ws.map PyData.str) none (some 2) = (ws.take 2).map .str := by rw [List.map_take]; exact cut_take _ 2
  have c2 : cut (ws.map PyData.str) (some 2) none = (ws.drop 2).map .str := by rw [List.map_drop]; exact cut_drop _ 2
  have lm1 : lcA (lcTurn [3] (.v 3) none (.call "number_of" numF [.v 3])) ((ws.take 2).map .str) [some (.d (.str z)), some (.d (.list (ws.map .str))), none, none, none] = .ok ((ws.take 2).map (fun w => PyData.int (numT w)), [some (.d (.str z)), some (.d (.list (ws.map .str))), none, none, none]) := by
    refine lcA_map fun w hw => ?_
    rw [lcTurn_eq]
    simp -implicitDefEqProofs [num_ok (by omega) (tx w (List.mem_of_mem_take hw))]
  have lm2 : lcA (lcTurn [3] (.v 3) none (.call "read_outcome" f_read_outcome [.v 3])) ((ws.drop 2).map .str) [some (.d (.str z)), some (.d (.list (ws.map .str))), some (.d (.tuple ((ws.take 2).map fun w => PyData.int (numT w)))), none, none] = .ok ((ws.drop 2).map (fun w => ePo (rdO w)), [some (.d (.str z)), some (.d (.list (ws.map .str))), some (.d (.tuple ((ws.take 2).map fun w => PyData.int (numT w)))), none, none]) := by
    refine lcA_map fun w hw => ?_
    rw [lcTurn_eq]
    simp -implicitDefEqProofs [read_ok (by omega) (tx w (List.mem_of_mem_drop hw))]
  have l1 : (ws.take 2).length ≤ 2 := List.length_take_le _ _
  have l2 : (ws.drop 2).length ≤ ws.length := by rw [List.length_drop]; omega
  have s1 : small ((ws.take 2).length + 1) = true := small_of (by omega)
  have s2 : small ((ws.drop 2).length + 1) = true := small_of (by omega)
  have s3 : small (((ws.take 2).map fun w => PyData.int (numT w)).length + 1) = true := small_of (by rw [List.length_map]; omega)
  have e4 : b_parse_rule = b_parse_rule.take 4 ++ b_parse_rule.drop 4 := rfl
  have st : runs (b_parse_rule.take 4) [some (.d (.str z)), none, none, none, none] = .ok (.nx [some (.d (.str z)), some (.d (.list (ws.map .str))), some (.d (.tuple ((ws.take 2).map fun w => PyData.int (numT w)))), none, some (.d (.tuple (((ws.take 2).map fun w => PyData.int (numT w)) ++ [.tuple (((ws.drop 2).map rdO).map ePo)])))]) := by
    have r1 : ∀ x : D × En, x = (PyData.list ((ws.take 2).map fun w => PyData.int (numT w)), [some (.d (.str z)), some (.d (.list (ws.map .str))), none, none, none]) -> True := fun _ _ => trivial
    rw [List.map_map]
    simp -implicitDefEqProofs only [b_parse_rule, List.take_succ_cons, List.take_zero, runs_cons, runs_nil, run_ife, run_set, denG_e, den_bnot, den_isi, den_v, getD_0, getD_s, bnd_ok, isi_strstr, boo_true, boo_false, thn_nx, den_op, denL_cons, denL_nil, sp, setD_eq, freeAt_s, freeAt_0n, freeAt_0d, chk_true, List.set_cons_succ, List.set_cons_zero, den_prim, den_lc, items_seq, den_sl, denO_none, denO_some, den_k, intO_int, sl_l, c1, itemsD_list, List.map_cons, List.map_nil, noCell_cons, noCell_nil, isDat_s, isDat_n, Bool.and_true, wipeE_cons, wipeE_nil, lm1, List.length_map, s1, backE_cons, backE_nil, List.getElem?_cons_succ, List.getElem?_cons_zero, Option.getD_some, tuple_l, den_bin, c2, lm2, s2, den_tup, List.length_singleton, sm1, add_t, List.length_cons, List.length_nil, Nat.zero_add, s3]
    rfl
  rw [runs_cut 4 st]
theorem parse_one {n : Nat} (hn : n ≤ 100000) {z : Str} (h : Tx n z) {a : Str} (e : Txt.split z " " = [a]) : f_parse_rule [.str z] = .exn "InvalidText" := by
  rw [parse_pre hn h, e]
  simp -implicitDefEqProofs [b_parse_rule, is_rule_two]
theorem parse_two {n : Nat} (hn : n ≤ 100000) {z : Str} (h : Tx n z) {a b : Str} {r : List Str} (e : Txt.split z " " = a :: b :: r) : (okRl (numT a) (numT b) (r.map rdO) = false -> f_parse_rule [.str z] = .exn "InvalidText") ∧
    ∀ R, Wp R -> eR R = fnd (numT a) (numT b) (r.map rdO) -> PyData.strOk (lnS R) = true -> okRl (numT a) (numT b) (r.map rdO) = true -> f_parse_rule [.str z] = if lnS R = z then .ok (eR R) else .exn "InvalidText" := by
  have sl := PyProof.Rows.split_le z " "
  have hz := h.2
  have tx : ∀ p ∈ Txt.split z " ", Tx n p := fun p hp => split_tx h hp
  rw [e] at tx sl
  have ir := is_rule_any (numT a) (numT b) (os := r.map rdO) (by simp only [List.length_map]; simp only [List.length_cons] at sl; omega) (fun o ho => by
    obtain ⟨w, hw, rfl⟩ := List.mem_map.mp ho
    unfold rdO
    simp only [List.length_map]
    have hl : (Txt.split w ":").getLastD "" ∈ Txt.split w ":" := last_mem (split_ne w ":")
    have t1 := split_tx (tx w (by simp [hw])) hl
    have := PyProof.Rows.split_le ((Txt.split w ":").getLastD "") ","
    have := t1.2
    omega)
  rw [parse_pre hn h, e]
  constructor
  · intro hf
    rw [hf] at ir
    unfold fnd at ir
    simp only [List.map_map] at ir
    simp -implicitDefEqProofs [b_parse_rule]
    simp -implicitDefEqProofs [ir]
  · intro R hR eRf hs ho
    rw [ho] at ir
    have rt := rule_text_ok hR
    rw [eRf] at rt
    have q := eqS (n := 2000) ⟨hs, lnS_len hR⟩ h
    rw [eRf]
    unfold fnd at ir rt ⊢
    simp only [List.map_map] at ir rt
    simp only [List.map_map]
    by_cases z1 : lnS R = z
    · rw [decide_eq_true z1] at q
      rw [if_pos z1]
      simp -implicitDefEqProofs [b_parse_rule]
      simp -implicitDefEqProofs [ir, rt, q]
    · rw [decide_eq_false z1] at q
      rw [if_neg z1]
      simp -implicitDefEqProofs [b_parse_rule]
      simp -implicitDefEqProofs [ir, rt, q]
theorem dg_ok {d : Nat} (h : d ≤ 9) : PyData.strOk (dg d) = true := strOk_iff.mpr fun c hc => by
  rw [tl_dg h] at hc
  simp at hc
  omega
theorem join_strOk {sep : Str} {ps : List Str} (hs : PyData.strOk sep = true) (h : ∀ p ∈ ps, PyData.strOk p = true) : PyData.strOk (Txt.join sep ps) = true := strOk_iff.mpr fun c hc => by
  rw [TL.join_eq, TL.tl_join] at hc
  rcases joinL_of hc with hc | ⟨p, hp, hc⟩
  · exact strOk_iff.mp hs c hc
  · obtain ⟨q, hq, rfl⟩ := List.mem_map.mp hp
    exact strOk_iff.mp (h q hq) c hc
theorem app_strOk {a b : Str} (ha : PyData.strOk a = true) (hb : PyData.strOk b = true) : PyData.strOk (a ++ b) = true := strOk_iff.mpr fun c hc => by
  rw [TL.tl_append] at hc
  rcases List.mem_append.mp hc with hc | hc
  · exact strOk_iff.mp ha c hc
  · exact strOk_iff.mp hb c hc
theorem ocS_ok {b : Nat} (hb : b ≤ 3) {o : Oc} (h : OcOk b o) : PyData.strOk (ocS o) = true := by
  obtain ⟨h1, h2, h3⟩ := h
  rw [ocS_eq]
  refine app_strOk (app_strOk ?_ (by decide +kernel)) (join_strOk (by decide +kernel) fun p hp => ?_)
  · cases q : o.1 with
    | none => exact dash_tx.1
    | some k => exact dg_ok (by have := h3 k q; omega)
  · obtain ⟨d, hd, rfl⟩ := List.mem_map.mp hp
    exact dg_ok (h2 d hd)
theorem lnS_tx {R : Rl} (h : Wp R) : Tx 2000 (lnS R) := by
  refine ⟨join_strOk (by decide +kernel) fun p hp => ?_, lnS_len h⟩
  have b3 := h.b3
  have t4 := h.t4
  rcases List.mem_cons.mp hp with e | hp
  · rw [e]; exact dg_ok (by omega)
  rcases List.mem_cons.mp hp with e | hp
  · rw [e]; exact dg_ok (by omega)
  obtain ⟨o, ho, rfl⟩ := List.mem_map.mp hp
  exact ocS_ok b3 (h.ocs o ho)
/-- a text is refused, or it is the text of what is read -/
theorem parse_any {n : Nat} (hn : n ≤ 100000) {z : Str} (h : Tx n z) : f_parse_rule [.str z] = .exn "InvalidText" ∨ ∃ R, Wp R ∧ f_parse_rule [.str z] = .ok (eR R) ∧ lnS R = z := by
  cases e : Txt.split z " " with
  | nil => exact absurd e (split_ne z " ")
  | cons a l =>
    cases l with
    | nil => exact .inl (parse_one hn h e)
    | cons b r =>
      obtain ⟨p1, p2⟩ := parse_two hn h e
      cases q : okRl (numT a) (numT b) (r.map rdO) with
      | false => exact .inl (p1 q)
      | true =>
        obtain ⟨R, w, eRf⟩ := okRl_rule q
        have := p2 R w eRf (lnS_tx w).1 q
        by_cases z1 : lnS R = z
        · rw [if_pos z1] at this
          exact .inr ⟨R, w, this, z1⟩
        · rw [if_neg z1] at this
          exact .inl this
theorem wS_free {w : Option Nat} (h : ∀ k, w = some k -> k ≤ 9) {s : Nat} (hs : s < 45 ∨ (45 < s ∧ s < 48) ∨ 57 < s) : s ∉ TL.tl (wS w) := by
  cases w with
  | none =>
    have : TL.tl ("-" : Str) = [45] := by decide +kernel
    show s ∉ TL.tl ("-" : Str)
    rw [this]
    simp
    omega
  | some k => exact dg_free (h k rfl) (by omega)
theorem pays_free {l : List Nat} (h : ∀ x ∈ l, x ≤ 9) {s : Nat} (hs : s ≠ 44) (hs2 : s < 48 ∨ 57 < s) : s ∉ TL.tl (Txt.join "," (l.map dg)) := fun hc => by
  rw [TL.join_eq, TL.tl_join] at hc
  have e : TL.tl ("," : Str) = [44] := by decide +kernel
  rcases joinL_of hc with hc | ⟨p, hp, hc⟩
  · rw [e] at hc
    simp at hc
    exact hs hc
  · rw [List.map_map] at hp
    obtain ⟨d, hd, rfl⟩ := List.mem_map.mp hp
    exact dg_free (h d hd) hs2 hc
theorem ocS_free {b : Nat} (hb : b ≤ 3) {o : Oc} (h : OcOk b o) : 32 ∉ TL.tl (ocS o) := by
  obtain ⟨h1, h2, h3⟩ := h
  rw [ocS_eq, TL.tl_append, TL.tl_append]
  have e : TL.tl (":" : Str) = [58] := by decide +kernel
  rw [e]
  intro hc
  rcases List.mem_append.mp hc with hc | hc
  · rcases List.mem_append.mp hc with hc | hc
    · exact wS_free (fun k hk => by have := h3 k hk; omega) (by omega) hc
    · simp at hc
  · exact pays_free h2 (by omega) (by omega) hc
theorem rdO_ocS {b : Nat} (hb : b ≤ 3) (hb1 : 1 ≤ b) {o : Oc} (h : OcOk b o) : rdO (ocS o) = (o.1.map fun (k : Nat) => (k : Int), o.2.map fun (x : Nat) => (x : Int)) := by
  obtain ⟨h1, h2, h3⟩ := h
  have hw : ∀ k, o.1 = some k -> k ≤ 9 := fun k hk => by have := h3 k hk; omega
  have e : ocS o = Txt.join ":" [wS o.1, Txt.join "," (o.2.map dg)] := rfl
  have sp : Txt.split (ocS o) ":" = [wS o.1, Txt.join "," (o.2.map dg)] := by
    rw [e]
    refine split_colon (by simp) fun p hp => ?_
    rcases List.mem_cons.mp hp with e | hp
    · rw [e]; exact wS_free hw (by omega)
    · rw [List.mem_singleton.mp hp]; exact pays_free h2 (by omega) (by omega)
  have ne : o.2.map dg ≠ [] := fun z => by
    have := congrArg List.length z
    simp at this
    rw [this] at h1
    simp at h1
    omega
  have sp2 : Txt.split (Txt.join "," (o.2.map dg)) "," = o.2.map dg := split_comma ne fun p hp => by
    obtain ⟨d, hd, rfl⟩ := List.mem_map.mp hp
    exact dg_free (h2 d hd) (by omega)
  unfold rdO
  rw [sp]
  show (if wS o.1 = ("-" : Str) then none else some (numT (wS o.1)), (Txt.split (Txt.join "," (o.2.map dg)) ",").map numT) = _
  rw [sp2, List.map_map]
  congr 1
  · cases q : o.1 with
    | none => rfl
    | some k =>
      have hk := hw k q
      show (if dg k = ("-" : Str) then none else some (numT (dg k))) = _
      rw [if_neg, num_dg hk]
      · rfl
      · intro z
        have := congrArg TL.tl z
        rw [tl_dg hk, show TL.tl ("-" : Str) = [45] by decide +kernel] at this
        simp at this
        omega
  · exact List.map_congr_left fun x hx => num_dg (h2 x hx)
theorem parse_line {R : Rl} (h : Wp R) : f_parse_rule [.str (lnS R)] = .ok (eR R) := by
  have b3 := h.b3
  have t4 := h.t4
  have b2 := h.b2
  have t1 := h.t1
  have e : Txt.split (lnS R) " " = dg R.b :: dg R.t :: R.os.map ocS := split_line (by simp) fun p hp => by
    rcases List.mem_cons.mp hp with e | hp
    · rw [e]; exact dg_free (by omega) (by omega)
    rcases List.mem_cons.mp hp with e | hp
    · rw [e]; exact dg_free (by omega) (by omega)
    obtain ⟨o, ho, rfl⟩ := List.mem_map.mp hp
    exact ocS_free b3 (h.ocs o ho)
  obtain ⟨_, p2⟩ := parse_two (n := 2000) (by omega) (lnS_tx h) e
  have er : (R.os.map ocS).map rdO = R.os.map fun o => (o.1.map (fun (k : Nat) => (k : Int)), o.2.map fun (x : Nat) => (x : Int)) := by
    rw [List.map_map]
    exact List.map_congr_left fun o ho => rdO_ocS b3 (by omega) (h.ocs o ho)
  rw [er, num_dg (show R.b ≤ 9 by omega), num_dg (show R.t ≤ 9 by omega)] at p2
  have ef : eR R = fnd (R.b : Int) (R.t : Int) (R.os.map fun o => (o.1.map (fun (k : Nat) => (k : Int)), o.2.map fun (x : Nat) => (x : Int))) := by
    unfold eR fnd
    rw [List.map_map]
    have e2 : List.map eO R.os = List.map (ePo ∘ fun o : Oc => (o.1.map (fun (k : Nat) => (k : Int)), o.2.map fun (x : Nat) => (x : Int))) R.os := by
      refine List.map_congr_left fun o ho => ?_
      obtain ⟨w, p⟩ := o
      show PyData.tuple [wD w, tN p] = PyData.tuple [wI _, .tuple _]
      rw [List.map_map]
      cases w <;> rfl
    rw [e2]
  have ok : okRl (R.b : Int) (R.t : Int) (R.os.map fun o => (o.1.map (fun (k : Nat) => (k : Int)), o.2.map fun (x : Nat) => (x : Int))) = true := by
    unfold okRl
    simp only [Bool.and_eq_true, decide_eq_true_eq, List.length_map, List.all_eq_true]
    refine ⟨⟨by omega, by omega⟩, ⟨by omega, by omega⟩, by simpa using h.len, fun o ho => ?_⟩
    obtain ⟨q, hq, rfl⟩ := List.mem_map.mp ho
    obtain ⟨a1, a2, a3⟩ := h.ocs q hq
    obtain ⟨w, p⟩ := q
    unfold okPo
    simp only at a1 a2 a3
    simp only [Bool.and_eq_true, decide_eq_true_eq, List.length_map, List.all_eq_true]
    refine ⟨⟨by omega, fun x hx => ?_⟩, ?_⟩
    · obtain ⟨y, hy, rfl⟩ := List.mem_map.mp hx
      have := a2 y hy
      omega
    · cases w with
      | none => rfl
      | some w =>
        have := a3 w rfl
        simp only [Option.map_some, Bool.and_eq_true, decide_eq_true_eq]
        omega
  rw [p2 R h ef (lnS_tx h).1 ok, if_pos rfl]
end Pg

set_option Elab.async false
set_option linter.all false
set_option maxRecDepth 100000
set_option maxHeartbeats 4000000
namespace K52
open PySem PySem.Spec PyProof.Rows L2 Sb
def N__law_call : List Str := ["way", "arguments"]
def b__law_call : List S := [
  .ret (.call "parse_rule" Pg.f_parse_rule [.v 1])]
def f__law_call : PF := mkP 2 2 b__law_call
def N_law : List Str := ["script", "town", "rule", "line", "k", "at", "sign", "other", "told", "fine", "bads", "bad"]
def b_law : List S := [
  .set 1 (.mk "_law_town" townF [.v 0]),
  .set 2 (.e (.callS "_law_rule" Pg.f__law_rule (.v 0) 1 [])),
  .set 3 (.e (.call "_law_line" Pg.f__law_line [.v 2])),
  .ife (.bor (.cmp .ne (.call "format_rule" Pg.f_format_rule [.v 2]) (.v 3)) (.cmp .ne (.call "_law_outcome" (semO f__law_call) [.k (.int 0), .v 3]) (.tup [.k (.str "returned"), .v 2]))) [
    .ret (.k (.bool false))] [],
  .loop (.v 4) (.rng (.k (.int 8))) [
    .set 5 (.e (.callS "_law_draw" Pg.f__law_draw (.v 0) 1 [.bin .add (.prim .len [.v 3]) (.k (.int 1))])),
    .set 6 (.e (.callS "_law_pick" Pg.f__law_pick (.v 0) 1 [.bin .add (.op .chars [.k (.str "0123459:,- ")]) (.lst [.k (.str " 0:0,0"), .k (.str "")])])),
    .set 7 (.e (.bin .add (.bin .add (.sl (.v 3) none (some (.v 5))) (.v 6)) (.sl (.v 3) (some (.bin .add (.v 5) (.callS "_law_draw" Pg.f__law_draw (.v 0) 1 [.k (.int 2)]))) none))),
    .set 8 (.e (.call "_law_outcome" (semO f__law_call) [.k (.int 0), .v 7])),
    .ife (.cmp .eq (.ix (.v 8) (.k (.int 0))) (.k (.str "returned"))) [
      .ife (.bor (.cmp .nisb (.call "is_rule" Pg.f_is_rule [.ix (.v 8) (.k (.int 1))]) (.k (.bool true))) (.cmp .ne (.call "_law_line" Pg.f__law_line [.ix (.v 8) (.k (.int 1))]) (.v 7))) [
        .ret (.k (.bool false))] []] [
      .ife (.bor (.cmp .ne (.v 8) (.call "_law_raises" Pg.f__law_raises [.k (.str "text")])) (.cmp .eq (.v 7) (.v 3))) [
        .ret (.k (.bool false))] []],
    .drop 4,
    .drop 5,
    .drop 6,
    .drop 7,
    .drop 8],
  .set 9 (.e (.k (.str "2 1 -:0,0 1:0,1 0:1,0 0:1,0"))),
  .set 10 (.e (.lst [.k .none, .k (.int 5), .k (.str ""), .k (.str " "), .k (.str "2"), .k (.str "2 1"), .k (.str "2 1 0:0,0"), .v 2, .lst [.v 3], .k (.bool true), .bin .add (.v 3) (.k (.str " ")), .bin .add (.k (.str " ")) (.v 3), .bin .add (.v 9) (.k (.str " 0:0,0"))])),
  .set 10 (.e (.bin .add (.v 10) (.lst [.op (.repl "-" "") [.v 9], .op (.repl "-" "+") [.v 9], .op (.repl "," ".") [.v 9], .op (.repl "2 1" "2 01") [.v 9]]))),
  .set 10 (.e (.bin .add (.v 10) (.lst [.op (.repl "1:0,1" "2:0,1") [.v 9], .op (.repl "0,1" "0,10") [.v 9], .op (.repl " 0:1,0" "") [.v 9], .sl (.v 9) none (some (.neg (.k (.int 1))))]))),
  .ife (.cmp .ne (.lc [("bad", 11)] (.v 11) (.seq (.v 10)) (some (.cmp .ne (.call "_law_outcome" (semO f__law_call) [.k (.int 0), .v 11]) (.call "_law_raises" Pg.f__law_raises [.k (.str "text")]))) (.v 11)) (.lst [])) [
    .ret (.k (.bool false))] [],
  .ret (.cmp .eq (.call "_law_outcome" (semO f__law_call) [.k (.int 0), .v 9]) (.tup [.k (.str "returned"), .call "first_price" Pg.f_first_price [.k (.int 2), .k (.int 1), .k (.int 1)]]))]
def f_law : PF := mkP 1 12 b_law
end K52

set_option Elab.async false
set_option linter.all false
set_option maxRecDepth 100000
set_option maxHeartbeats 4000000
/-! K52c: the law in plain terms. -/
namespace K52
open PySem Sb Pg
theorem csO' (o : Oc) : Cd 3 (eO o) := csT2 (by
  cases o.1 with
  | none => exact csN.mono (by omega)
  | some k => exact (csI _).mono (by omega)) (csTN _)
theorem csR (R : Rl) : Cd 5 (eR R) := csT3 ((csI _).mono (by omega)) ((csI _).mono (by omega)) (csT fun x hx => by
  obtain ⟨o, _, rfl⟩ := List.mem_map.mp hx
  exact csO' o)
def fine : Str := "2 1 -:0,0 1:0,1 0:1,0 0:1,0"
theorem rp0 : opD (.repl "-" "") [.str fine] = .ok (.str "2 1 :0,0 1:0,1 0:1,0 0:1,0") := beqO_eq (by decide +kernel)
theorem rp1 : opD (.repl "-" "+") [.str fine] = .ok (.str "2 1 +:0,0 1:0,1 0:1,0 0:1,0") := beqO_eq (by decide +kernel)
theorem rp2 : opD (.repl "," ".") [.str fine] = .ok (.str "2 1 -:0.0 1:0.1 0:1.0 0:1.0") := beqO_eq (by decide +kernel)
theorem rp3 : opD (.repl "2 1" "2 01") [.str fine] = .ok (.str "2 01 -:0,0 1:0,1 0:1,0 0:1,0") := beqO_eq (by decide +kernel)
theorem rp4 : opD (.repl "1:0,1" "2:0,1") [.str fine] = .ok (.str "2 1 -:0,0 2:0,1 0:1,0 0:1,0") := beqO_eq (by decide +kernel)
theorem rp5 : opD (.repl "0,1" "0,10") [.str fine] = .ok (.str "2 1 -:0,0 1:0,10 0:1,0 0:1,0") := beqO_eq (by decide +kernel)
theorem rp6 : opD (.repl " 0:1,0" "") [.str fine] = .ok (.str "2 1 -:0,0 1:0,1") := beqO_eq (by decide +kernel)
theorem sl9 : slD (.str fine) none (some (-1)) = .ok (.str "2 1 -:0,0 1:0,1 0:1,0 0:1,") := beqO_eq (by decide +kernel)
theorem ad9 : binD .add (.str fine) (.str " 0:0,0") = .ok (.str "2 1 -:0,0 1:0,1 0:1,0 0:1,0 0:0,0") := beqO_eq (by decide +kernel)
def isX : Out D -> Bool
  | .exn c => decide (c = "InvalidText")
  | _ => false
theorem isX_eq {x : Out D} (h : isX x = true) : x = .exn "InvalidText" := by
  cases x with
  | exn c => rw [of_decide_eq_true h]
  | ok d => cases h
  | bad => cases h
def conc : List Str := ["", " ", "2", "2 1", "2 1 0:0,0", "2 1 -:0,0 1:0,1 0:1,0 0:1,0 0:0,0", "2 1 :0,0 1:0,1 0:1,0 0:1,0", "2 1 +:0,0 1:0,1 0:1,0 0:1,0", "2 1 -:0.0 1:0.1 0:1.0 0:1.0", "2 01 -:0,0 1:0,1 0:1,0 0:1,0", "2 1 -:0,0 2:0,1 0:1,0 0:1,0", "2 1 -:0,0 1:0,10 0:1,0 0:1,0", "2 1 -:0,0 1:0,1", "2 1 -:0,0 1:0,1 0:1,0 0:1,"]
theorem conc_ok : conc.all (fun z => isX (f_parse_rule [.str z])) = true := by decide +kernel
def rs8 : D := .tuple [.str "raised", .int 8]
theorem raises_ok : f__law_raises [.str "text"] = .ok rs8 := beqO_eq (by decide +kernel)
theorem call_eq (x d : D) : f__law_call [x, d] = f_parse_rule [d] := by
  rw [pf (f := f__law_call) rfl _ [some (.d x), some (.d d)] rfl rfl]
  simp -implicitDefEqProofs [b__law_call]
  cases f_parse_rule [d] <;> rfl
theorem out_ok {x d v : D} (h : f_parse_rule [d] = .ok v) : semO f__law_call [x, d] = .ok (.tuple [.str "returned", v]) := by
  unfold semO
  rw [call_eq, h]
theorem out_ex {x d : D} (h : f_parse_rule [d] = .exn "InvalidText") : semO f__law_call [x, d] = .ok rs8 := by
  unfold semO
  rw [call_eq, h]
  rfl
theorem words_free {R : Rl} (h : Wp R) : ∀ p ∈ dg R.b :: dg R.t :: R.os.map ocS, 32 ∉ TL.tl p ∧ p.length ≠ 0 := fun p hp => by
  have b3 := h.b3
  have t4 := h.t4
  rcases List.mem_cons.mp hp with e | hp
  · rw [e]; exact ⟨dg_free (by omega) (by omega), by rw [len_dg (by omega)]; omega⟩
  rcases List.mem_cons.mp hp with e | hp
  · rw [e]; exact ⟨dg_free (by omega) (by omega), by rw [len_dg (by omega)]; omega⟩
  obtain ⟨o, ho, rfl⟩ := List.mem_map.mp hp
  refine ⟨ocS_free b3 (h.ocs o ho), ?_⟩
  rw [ocS_eq, app_len, app_len, c2_len]
  omega
theorem joinL_snoc {S : List Nat} : ∀ {ps : List (List Nat)}, ps ≠ [] -> TL.joinL S (ps ++ [[]]) = TL.joinL S ps ++ S
  | [], h => absurd rfl h
  | [p], _ => by show p ++ (S ++ []) = p ++ S; rw [List.append_nil]
  | p :: q :: r, _ => by
    show p ++ (S ++ TL.joinL S (q :: r ++ [[]])) = p ++ (S ++ TL.joinL S (q :: r)) ++ S
    rw [joinL_snoc (by simp)]
    simp
theorem tl_empty : TL.tl ("" : Str) = [] := by decide +kernel
theorem split_behind {R : Rl} (h : Wp R) : Txt.split (lnS R ++ " ") " " = (dg R.b :: dg R.t :: R.os.map ocS) ++ [("" : Str)] := by
  have e : lnS R ++ " " = Txt.join " " ((dg R.b :: dg R.t :: R.os.map ocS) ++ [("" : Str)]) := by
    refine TL.ext_tl ?_
    show TL.tl (Txt.join " " _ ++ " ") = _
    rw [TL.tl_append, TL.join_eq, TL.join_eq, TL.tl_join, TL.tl_join, List.map_append, List.map_singleton, tl_empty, joinL_snoc (by simp)]
  rw [e]
  refine split_line (by simp) fun p hp => ?_
  rcases List.mem_append.mp hp with hp | hp
  · exact (words_free h p hp).1
  · rw [List.mem_singleton.mp hp, tl_empty]; simp
theorem split_ahead {R : Rl} (h : Wp R) : Txt.split (" " ++ lnS R) " " = ("" : Str) :: dg R.b :: dg R.t :: R.os.map ocS := by
  have e : " " ++ lnS R = Txt.join " " (("" : Str) :: dg R.b :: dg R.t :: R.os.map ocS) := by
    refine TL.ext_tl ?_
    show TL.tl (" " ++ Txt.join " " _) = _
    rw [TL.tl_append, TL.join_eq, TL.join_eq, TL.tl_join, TL.tl_join]
    simp only [List.map_cons, tl_empty]
    rfl
  rw [e]
  refine split_line (by simp) fun p hp => ?_
  rcases List.mem_cons.mp hp with e | hp
  · rw [e, tl_empty]; simp
  · exact (words_free h p hp).1
theorem split_of {R : Rl} (h : Wp R) : Txt.split (lnS R) " " = dg R.b :: dg R.t :: R.os.map ocS := split_line (by simp) fun p hp => (words_free h p hp).1
theorem empty_len : ("" : Str).length = 0 := by decide +kernel
theorem sp_tx : Tx 1 (" " : Str) := ⟨by decide +kernel, by rw [c4_len]; omega⟩
theorem app_tx {n m : Nat} {a b : Str} (ha : Tx n a) (hb : Tx m b) : Tx (n + m) (a ++ b) := ⟨app_strOk ha.1 hb.1, by
  rw [app_len]
  have := ha.2
  have := hb.2
  omega⟩
theorem behind_x {R : Rl} (h : Wp R) : f_parse_rule [.str (lnS R ++ " ")] = .exn "InvalidText" := by
  rcases parse_any (n := 2001) (by omega) (app_tx (lnS_tx h) sp_tx) with e | ⟨R2, w, _, e⟩
  · exact e
  · have s1 := split_behind h
    rw [← e, split_of w] at s1
    have : ("" : Str) ∈ dg R2.b :: dg R2.t :: R2.os.map ocS := by rw [s1]; simp
    exact absurd empty_len (words_free w _ this).2
theorem ahead_x {R : Rl} (h : Wp R) : f_parse_rule [.str (" " ++ lnS R)] = .exn "InvalidText" := by
  rcases parse_any (n := 2001) (by omega) (show Tx 2001 _ from by
    have := app_tx sp_tx (lnS_tx h)
    exact this) with e | ⟨R2, w, _, e⟩
  · exact e
  · have s1 := split_ahead h
    rw [← e, split_of w] at s1
    have : ("" : Str) ∈ dg R2.b :: dg R2.t :: R2.os.map ocS := by rw [s1]; simp
    exact absurd empty_len (words_free w _ this).2
theorem slice_tx {n : Nat} {z : Str} (h : Tx n z) (lo hi : Option Int) : Tx n (Txt.slice z lo hi) := by
  refine ⟨strOk_iff.mpr fun c hc => ?_, Nat.le_trans (Txt.slice_le z lo hi) h.2⟩
  unfold Txt.slice at hc
  split at hc
  · exact strOk_iff.mp h.1 c hc
  · have hc : c ∈ List.filterMap (fun i => z.cps[i]?) _ := hc
    obtain ⟨i, _, e⟩ := List.mem_filterMap.mp hc
    refine strOk_iff.mp h.1 c ?_
    exact Array.mem_toList_iff.mpr (Array.mem_of_getElem? e)
def sgs : List Str := ["0", "1", "2", "3", "4", "5", "9", ":", ",", "-", " ", " 0:0,0", ""]
def chD : List D := [.str "0", .str "1", .str "2", .str "3", .str "4", .str "5", .str "9", .str ":", .str ",", .str "-", .str " "]
theorem chars_ok : opD .chars [.str "0123459:,- "] = .ok (.list chD) := beqO_eq (by decide +kernel)
theorem sgs_tx : ∀ z ∈ sgs, Tx 6 z := fun z hz => by
  have : sgs.all (fun z => PyData.strOk z && decide (z.length ≤ 6)) = true := by decide +kernel
  have := List.all_eq_true.mp this z hz
  simp only [Bool.and_eq_true, decide_eq_true_eq] at this
  exact this
def ev (sc : D) (tn : List D) (R : Rl) : En := [some (.d sc), some (.o tn), some (.d (eR R)), some (.d (.str (lnS R))), none, none, none, none, none, none, none, none]
theorem ret_tx : Tx 8 ("returned" : Str) := ⟨by decide +kernel, by decide +kernel⟩
theorem rai_tx : Tx 8 ("raised" : Str) := ⟨by decide +kernel, by decide +kernel⟩
theorem eq_rr : eqD (.str "returned") (.str "returned") = .ok true := by rw [eqS ret_tx ret_tx, decide_eq_true rfl]
theorem eq_rx : eqD (.str "raised") (.str "returned") = .ok false := by rw [eqS rai_tx ret_tx, decide_eq_false (by decide +kernel)]
theorem cs8 : Cd 2 rs8 := csT2 (csS rai_tx.1) (csI _)
theorem eq_88 : eqD rs8 rs8 = .ok true := eqD_same cs8 (by omega)
theorem csRet (R : Rl) : Cd 6 (.tuple [.str "returned", eR R]) := csT2 ((csS ret_tx.1).mono (by omega)) (csR R)
theorem len_s {n : Nat} {z : Str} (h : Tx n z) (hn : n ≤ 100000) : primD .len [.str z] = .ok (.int z.length) := by
  show chk (small z.length) _ = _
  rw [small_of (by have := h.2; omega)]
  rfl
theorem sl_s {n : Nat} {z : Str} (h : Tx n z) (hn : n ≤ 100000) (lo hi : Option Int) : slD (.str z) lo hi = .ok (.str (Txt.slice z lo hi)) := by
  show chk (small z.length) _ = _
  rw [small_of (by have := h.2; omega)]
  rfl
theorem ad_s {n m : Nat} {a b : Str} (ha : Tx n a) (hb : Tx m b) (hn : n ≤ 100000) (hm : m ≤ 100000) : binD .add (.str a) (.str b) = .ok (.str (a ++ b)) := by
  rw [add_s, small_of (by have := ha.2; have := hb.2; omega)]
  rfl
def bodyB : List S := [
    .set 5 (.e (.callS "_law_draw" Pg.f__law_draw (.v 0) 1 [.bin .add (.prim .len [.v 3]) (.k (.int 1))])),
    .set 6 (.e (.callS "_law_pick" Pg.f__law_pick (.v 0) 1 [.bin .add (.op .chars [.k (.str "0123459:,- ")]) (.lst [.k (.str " 0:0,0"), .k (.str "")])])),
    .set 7 (.e (.bin .add (.bin .add (.sl (.v 3) none (some (.v 5))) (.v 6)) (.sl (.v 3) (some (.bin .add (.v 5) (.callS "_law_draw" Pg.f__law_draw (.v 0) 1 [.k (.int 2)]))) none))),
    .set 8 (.e (.call "_law_outcome" (semO f__law_call) [.k (.int 0), .v 7])),
    .ife (.cmp .eq (.ix (.v 8) (.k (.int 0))) (.k (.str "returned"))) [
      .ife (.bor (.cmp .nisb (.call "is_rule" Pg.f_is_rule [.ix (.v 8) (.k (.int 1))]) (.k (.bool true))) (.cmp .ne (.call "_law_line" Pg.f__law_line [.ix (.v 8) (.k (.int 1))]) (.v 7))) [
        .ret (.k (.bool false))] []] [
      .ife (.bor (.cmp .ne (.v 8) (.call "_law_raises" Pg.f__law_raises [.k (.str "text")])) (.cmp .eq (.v 7) (.v 3))) [
        .ret (.k (.bool false))] []],
    .drop 4,
    .drop 5,
    .drop 6,
    .drop 7,
    .drop 8]
theorem turn_ok {R : Rl} (w : WF R) (ns rs : List Int) (c k : Nat) (hr : rs.length = ns.length) (hc : c < 90000) : ∃ rs', rs'.length = ns.length ∧ ((bindT (.v 4) (.int (k : Int)) (ev (.list (ns.map .int)) (tw c rs) R)).bnd fun r2 => runs bodyB r2) = .ok (.nx (ev (.list (ns.map .int)) (tw (c + 3) rs') R)) := by
  have lt := lnS_tx w.wp
  have ll := lt.2
  obtain ⟨at_, rs1, ha, hr1, e1⟩ := draw_ok ns rs c ((lnS R).length + 1) hr (by omega) (by omega) (by omega)
  have e1' : f__law_draw [.list (ns.map .int), .int (((lnS R).length : Int) + 1)] (tw c rs) = .ok (.int (at_ : Int), tw (c + 1) rs1) := by
    rw [← e1]; simp
  obtain ⟨x, rs2, hx, hr2, e2⟩ := pick_ok ns rs1 (c + 1) (sgs.map .str) hr1 (by omega) (by simp [sgs]) (by simp [sgs])
  obtain ⟨sg, hsg, rfl⟩ := List.mem_map.mp hx
  have st := sgs_tx sg hsg
  obtain ⟨dd, rs3, hd, hr3, e3⟩ := draw_ok ns rs2 (c + 1 + 1) 2 hr2 (by omega) (by omega) (by omega)
  have e3' : f__law_draw [.list (ns.map .int), .int 2] (tw (c + 1 + 1) rs2) = .ok (.int (dd : Int), tw (c + 1 + 1 + 1) rs3) := e3
  have cl : binD .add (.list chD) (.list [.str " 0:0,0", .str ""]) = .ok (.list (sgs.map .str)) := rfl
  have t1 := slice_tx lt none (some (at_ : Int))
  have t2 := slice_tx lt (some ((at_ : Int) + (dd : Int))) none
  have a1 := ad_s t1 st (by omega) (by omega)
  have a2 := ad_s (app_tx t1 st) t2 (by omega) (by omega)
  have to := app_tx (app_tx t1 st) t2
  refine ⟨rs3, hr3, ?_⟩
  generalize ho : Txt.slice (lnS R) none (some (at_ : Int)) ++ sg ++ Txt.slice (lnS R) (some ((at_ : Int) + (dd : Int))) none = other at *
  have step : ((bindT (.v 4) (.int (k : Int)) (ev (.list (ns.map .int)) (tw c rs) R)).bnd fun r2 => runs bodyB r2) = runs (bodyB.drop 3) [some (.d (.list (ns.map .int))), some (.o (tw (c + 1 + 1 + 1) rs3)), some (.d (eR R)), some (.d (.str (lnS R))), some (.d (.int (k : Int))), some (.d (.int (at_ : Int))), some (.d (.str sg)), some (.d (.str other)), none, none, none, none] := by
    have bd : ((bindT (.v 4) (.int (k : Int)) (ev (.list (ns.map .int)) (tw c rs) R)).bnd fun r2 => runs bodyB r2) = runs bodyB [some (.d (.list (ns.map .int))), some (.o (tw c rs)), some (.d (eR R)), some (.d (.str (lnS R))), some (.d (.int (k : Int))), none, none, none, none, none, none, none] := by
      simp -implicitDefEqProofs [ev]
    rw [bd]
    refine runs_cut 3 ?_
    simp -implicitDefEqProofs [bodyB, len_s lt, e1', chars_ok, cl, -add_l, e2, sl_s lt, a1, e3', a2, -add_s]
  rw [step]
  rcases parse_any (by omega) to with e | ⟨R2, w2, e, e5⟩
  · have ne : other ≠ lnS R := fun z => by
      rw [z, parse_line w.wp] at e
      cases e
    have q := eqS to lt
    rw [decide_eq_false ne] at q
    have oe := out_ex (x := .int 0) e
    unfold rs8 at oe
    have e88 := eq_88
    have ra := raises_ok
    unfold rs8 at e88 ra
    simp -implicitDefEqProofs [bodyB, oe, eq_rx, ra, e88, q, ev]
  · have oe := out_ok (x := .int 0) e
    have q := eqS (lnS_tx w2) to
    rw [decide_eq_true e5] at q
    simp -implicitDefEqProofs [bodyB, oe, eq_rr, is_rule_wp w2, law_line_ok w2, q, ev]
def bdR (R : Rl) : List D := [.none, .int 5, .str "", .str " ", .str "2", .str "2 1", .str "2 1 0:0,0", eR R, .list [.str (lnS R)], .bool true, .str (lnS R ++ " "), .str (" " ++ lnS R), .str "2 1 -:0,0 1:0,1 0:1,0 0:1,0 0:0,0", .str "2 1 :0,0 1:0,1 0:1,0 0:1,0", .str "2 1 +:0,0 1:0,1 0:1,0 0:1,0", .str "2 1 -:0.0 1:0.1 0:1.0 0:1.0", .str "2 01 -:0,0 1:0,1 0:1,0 0:1,0", .str "2 1 -:0,0 2:0,1 0:1,0 0:1,0", .str "2 1 -:0,0 1:0,10 0:1,0 0:1,0", .str "2 1 -:0,0 1:0,1", .str "2 1 -:0,0 1:0,1 0:1,0 0:1,"]
theorem bd_ok {R : Rl} (h : Wp R) : ∀ d ∈ bdR R, f_parse_rule [d] = .exn "InvalidText" := fun d hd => by
  have cc : ∀ z ∈ conc, f_parse_rule [.str z] = .exn "InvalidText" := fun z hz => isX_eq (List.all_eq_true.mp conc_ok z hz)
  unfold bdR at hd
  simp only [List.mem_cons, List.not_mem_nil, or_false] at hd
  rcases hd with rfl | rfl | rfl | rfl | rfl | rfl | rfl | rfl | rfl | rfl | rfl | rfl | rfl | rfl | rfl | rfl | rfl | rfl | rfl | rfl | rfl
  · exact parse_not rfl
  · exact parse_not rfl
  · exact cc _ (.head _)
  · exact cc _ (.tail _ (.head _))
  · exact cc _ (.tail _ (.tail _ (.head _)))
  · exact cc _ (.tail _ (.tail _ (.tail _ (.head _))))
  · exact cc _ (.tail _ (.tail _ (.tail _ (.tail _ (.head _)))))
  · exact parse_not rfl
  · exact parse_not rfl
  · exact parse_not rfl
  · exact behind_x h
  · exact ahead_x h
  · exact cc _ (.tail _ (.tail _ (.tail _ (.tail _ (.tail _ (.head _))))))
  · exact cc _ (.tail _ (.tail _ (.tail _ (.tail _ (.tail _ (.tail _ (.head _)))))))
  · exact cc _ (.tail _ (.tail _ (.tail _ (.tail _ (.tail _ (.tail _ (.tail _ (.head _))))))))
  · exact cc _ (.tail _ (.tail _ (.tail _ (.tail _ (.tail _ (.tail _ (.tail _ (.tail _ (.head _)))))))))
  · exact cc _ (.tail _ (.tail _ (.tail _ (.tail _ (.tail _ (.tail _ (.tail _ (.tail _ (.tail _ (.head _))))))))))
  · exact cc _ (.tail _ (.tail _ (.tail _ (.tail _ (.tail _ (.tail _ (.tail _ (.tail _ (.tail _ (.tail _ (.head _)))))))))))
  · exact cc _ (.tail _ (.tail _ (.tail _ (.tail _ (.tail _ (.tail _ (.tail _ (.tail _ (.tail _ (.tail _ (.tail _ (.head _))))))))))))
  · exact cc _ (.tail _ (.tail _ (.tail _ (.tail _ (.tail _ (.tail _ (.tail _ (.tail _ (.tail _ (.tail _ (.tail _ (.tail _ (.head _)))))))))))))
  · exact cc _ (.tail _ (.tail _ (.tail _ (.tail _ (.tail _ (.tail _ (.tail _ (.tail _ (.tail _ (.tail _ (.tail _ (.tail _ (.tail _ (.head _))))))))))))))
def fineD : D := .tuple [.int 2, .int 1, .tuple [.tuple [.none, .tuple [.int 0, .int 0]], .tuple [.int 1, .tuple [.int 0, .int 1]], .tuple [.int 0, .tuple [.int 1, .int 0]], .tuple [.int 0, .tuple [.int 1, .int 0]]]]
theorem fine_p : f_parse_rule [.str fine] = .ok fineD := beqO_eq (by decide +kernel)
theorem fine_f : f_first_price [.int 2, .int 1, .int 1] = .ok fineD := beqO_eq (by decide +kernel)
theorem eq_ff : eqD (.tuple [.str "returned", fineD]) (.tuple [.str "returned", fineD]) = .ok true := eqD_same (n := 10) ⟨by decide +kernel, by decide +kernel⟩ (by omega)
theorem law_true (ns : List Int) (hl : ns.length ≤ 63) : f_law [.list (ns.map PyData.int)] = .ok (.bool true) := by
  rw [pf (f := f_law) rfl _ [some (.d (.list (ns.map .int))), none, none, none, none, none, none, none, none, none, none, none] rfl rfl]
  obtain ⟨R, c, rs, w, hR, hc, hr, e1⟩ := rule_ok ns ns 0 rfl (by omega)
  have lt := lnS_tx w.wp
  have q1 := eqS lt lt
  rw [decide_eq_true rfl] at q1
  have q2 := eqD_same (csRet R) (by omega)
  have st1 : runs (b_law.take 4) [some (.d (.list (ns.map .int))), none, none, none, none, none, none, none, none, none, none, none] = .ok (.nx (ev (.list (ns.map .int)) (tw c rs) R)) := by
    simp -implicitDefEqProofs [b_law, ev, town_ok ns hl, e1, law_line_ok w.wp, format_rule_ok w, q1, out_ok (x := .int 0) (parse_line w.wp), q2]
  rw [runs_cut 4 st1]
  obtain ⟨r2, e2, c2, rs2, rfl, hc2, hr2⟩ := loop_inv (f := fun (k : Nat) => PyData.int (k : Int)) (tg := .v 4) (l := List.range 8) (body := bodyB)
    (fun dn r => ∃ (c2 : Nat) (rs2 : List Int), r = ev (.list (ns.map .int)) (tw c2 rs2) R ∧ c2 ≤ c + 3 * dn.length ∧ rs2.length = ns.length)
    (r := ev (.list (ns.map .int)) (tw c rs) R) ⟨c, rs, rfl, by simp, hr⟩ (by
      rintro dn k tl r hl2 ⟨c2, rs2, rfl, hc2, hr2⟩
      have hd : dn.length ≤ 8 := by
        have := congrArg List.length hl2
        simp at this
        omega
      obtain ⟨rs3, hr3, e3⟩ := turn_ok w ns rs2 c2 k hr2 (by omega)
      exact ⟨_, e3, c2 + 3, rs3, rfl, by simp; omega, hr3⟩)
  have st2 : runs ((b_law.drop 4).take 1) (ev (.list (ns.map .int)) (tw c rs) R) = .ok (.nx (ev (.list (ns.map .int)) (tw c2 rs2) R)) := by
    unfold ev bodyB at e2
    simp -implicitDefEqProofs [b_law, ev, show rngOk 8 = true from rfl]
    rw [e2]
    simp -implicitDefEqProofs
  rw [runs_cut 1 st2, List.drop_drop]
  have a1 := ad_s lt sp_tx (by omega) (by omega)
  have a2 := ad_s sp_tx lt (by omega) (by omega)
  have lm : lcA (lcTurn [11] (.v 11) (some (.cmp .ne (.call "_law_outcome" (semO f__law_call) [.k (.int 0), .v 11]) (.call "_law_raises" Pg.f__law_raises [.k (.str "text")]))) (.v 11)) (bdR R) [some (.d (.list (ns.map .int))), some (.o (tw c2 rs2)), some (.d (eR R)), some (.d (.str (lnS R))), none, none, none, none, none, some (.d (.str fine)), some (.d (.list (bdR R))), none]
      = .ok ([], [some (.d (.list (ns.map .int))), some (.o (tw c2 rs2)), some (.d (eR R)), some (.d (.str (lnS R))), none, none, none, none, none, some (.d (.str fine)), some (.d (.list (bdR R))), none]) := by
    have := lcA_filter (A := D) (f := fun d => d) (g := fun d => d) (p := fun _ => false) (l := bdR R) (turn := lcTurn [11] (.v 11) (some (.cmp .ne (.call "_law_outcome" (semO f__law_call) [.k (.int 0), .v 11]) (.call "_law_raises" Pg.f__law_raises [.k (.str "text")]))) (.v 11)) (r := [some (.d (.list (ns.map .int))), some (.o (tw c2 rs2)), some (.d (eR R)), some (.d (.str (lnS R))), none, none, none, none, none, some (.d (.str fine)), some (.d (.list (bdR R))), none]) (fun d hd => by
        rw [lcTurn_eq]
        simp -implicitDefEqProofs [out_ex (x := .int 0) (bd_ok w.wp d hd), raises_ok, eq_88])
    rw [List.map_id'] at this
    rw [this]
    simp
  have nil : eqD (.list []) (.list []) = .ok true := eqD_same (n := 1) ⟨rfl, by decide +kernel⟩ (by omega)
  have st3 : runs ((b_law.drop 5).take 4) (ev (.list (ns.map .int)) (tw c2 rs2) R) = .ok (.nx [some (.d (.list (ns.map .int))), some (.o (tw c2 rs2)), some (.d (eR R)), some (.d (.str (lnS R))), none, none, none, none, none, some (.d (.str fine)), some (.d (.list (bdR R))), none]) := by
    have f0 : (PyData.str "2 1 -:0,0 1:0,1 0:1,0 0:1,0" : D) = .str fine := rfl
    simp -implicitDefEqProofs [b_law, ev, f0, a1, a2, ad9, rp0, rp1, rp2, rp3, rp4, rp5, rp6, sl9, den_neg, -add_s, bdR, show small 13 = true from rfl, show small 17 = true from rfl, show small 21 = true from rfl]
  have e9 : b_law.drop (4 + 1) = b_law.drop 5 := rfl
  rw [e9, runs_cut 4 st3, List.drop_drop]
  simp -implicitDefEqProofs [b_law, lm, nil, out_ok (x := .int 0) fine_p, fine_f, eq_ff]
end K52

set_option Elab.async false
set_option linter.all false
set_option maxRecDepth 100000
set_option maxHeartbeats 4000000
namespace K52
open PySem PySem.Spec PyProof.Rows L2 Sb
def topS (i : Nat) : Stmt := PySem.Challenge.pw_sealedbids_k52_whole_texts.main.body.getD i (.Pass ⟨0, 0, 0, 0⟩)
theorem sc__law_town : C8.scC ["script"] ["script"] (defScope (topS 35)) = true := by decide +kernel
theorem ma__law_town : (townB (defBody (topS 35)) && visB (defScope (topS 35)) "script" && glB (defScope (topS 35)) "list") = true := by decide +kernel
theorem bi__law_town : BindH "_law_town" (topS 35) ["script"] := fun _ _ _ _ _ _ us hl => match us, hl with | [_], _ => rfl
theorem sc__law_draw : C8.scC Pg.N__law_draw ["script", "town", "limit"] (defScope (topS 36)) = true := by decide +kernel
theorem ma__law_draw : mSs Pg.N__law_draw (defScope (topS 36)) (sbOf (defScope (topS 36))) Pg.b__law_draw (defBody (topS 36)) = true := by decide +kernel
theorem bi__law_draw : BindH "_law_draw" (topS 36) ["script", "town", "limit"] := fun _ _ _ _ _ _ us hl => match us, hl with | [_, _, _], _ => rfl
theorem sc__law_pick : C8.scC Pg.N__law_pick ["script", "town", "choices"] (defScope (topS 37)) = true := by decide +kernel
theorem ma__law_pick : mSs Pg.N__law_pick (defScope (topS 37)) (sbOf (defScope (topS 37))) Pg.b__law_pick (defBody (topS 37)) = true := by decide +kernel
theorem bi__law_pick : BindH "_law_pick" (topS 37) ["script", "town", "choices"] := fun _ _ _ _ _ _ us hl => match us, hl with | [_, _, _], _ => rfl
theorem sc__law_sizes : C8.scC Pg.N__law_sizes ["script", "town"] (defScope (topS 42)) = true := by decide +kernel
theorem ma__law_sizes : mSs Pg.N__law_sizes (defScope (topS 42)) (sbOf (defScope (topS 42))) Pg.b__law_sizes (defBody (topS 42)) = true := by decide +kernel
theorem bi__law_sizes : BindH "_law_sizes" (topS 42) ["script", "town"] := fun _ _ _ _ _ _ us hl => match us, hl with | [_, _], _ => rfl
theorem sc__law_rows : C8.scC Pg.N__law_rows ["bidders", "top"] (defScope (topS 41)) = true := by decide +kernel
theorem ma__law_rows : mSs Pg.N__law_rows (defScope (topS 41)) (sbOf (defScope (topS 41))) Pg.b__law_rows (defBody (topS 41)) = true := by decide +kernel
theorem bi__law_rows : BindH "_law_rows" (topS 41) ["bidders", "top"] := fun _ _ _ _ _ _ us hl => match us, hl with | [_, _], _ => rfl
theorem sc__law_drawn : C8.scC Pg.N__law_drawn ["script", "town", "bidders", "top"] (defScope (topS 43)) = true := by decide +kernel
theorem ma__law_drawn : mSs Pg.N__law_drawn (defScope (topS 43)) (sbOf (defScope (topS 43))) Pg.b__law_drawn (defBody (topS 43)) = true := by decide +kernel
theorem bi__law_drawn : BindH "_law_drawn" (topS 43) ["script", "town", "bidders", "top"] := fun _ _ _ _ _ _ us hl => match us, hl with | [_, _, _, _], _ => rfl
theorem sc__law_climbing : C8.scC Pg.N__law_climbing ["script", "town", "bidders", "top"] (defScope (topS 44)) = true := by decide +kernel
theorem ma__law_climbing : mSs Pg.N__law_climbing (defScope (topS 44)) (sbOf (defScope (topS 44))) Pg.b__law_climbing (defBody (topS 44)) = true := by decide +kernel
theorem bi__law_climbing : BindH "_law_climbing" (topS 44) ["script", "town", "bidders", "top"] := fun _ _ _ _ _ _ us hl => match us, hl with | [_, _, _, _], _ => rfl
theorem sc__law_known : C8.scC Pg.N__law_known ["script", "town", "bidders", "top"] (defScope (topS 45)) = true := by decide +kernel
theorem ma__law_known : mSs Pg.N__law_known (defScope (topS 45)) (sbOf (defScope (topS 45))) Pg.b__law_known (defBody (topS 45)) = true := by decide +kernel
theorem bi__law_known : BindH "_law_known" (topS 45) ["script", "town", "bidders", "top"] := fun _ _ _ _ _ _ us hl => match us, hl with | [_, _, _, _], _ => rfl
theorem sc__law_rule : C8.scC Pg.N__law_rule ["script", "town"] (defScope (topS 46)) = true := by decide +kernel
theorem ma__law_rule : mSs Pg.N__law_rule (defScope (topS 46)) (sbOf (defScope (topS 46))) Pg.b__law_rule (defBody (topS 46)) = true := by decide +kernel
theorem bi__law_rule : BindH "_law_rule" (topS 46) ["script", "town"] := fun _ _ _ _ _ _ us hl => match us, hl with | [_, _], _ => rfl
theorem sc__law_line : C8.scC Pg.N__law_line ["rule"] (defScope (topS 48)) = true := by decide +kernel
theorem ma__law_line : mSs Pg.N__law_line (defScope (topS 48)) (sbOf (defScope (topS 48))) Pg.b__law_line (defBody (topS 48)) = true := by decide +kernel
theorem bi__law_line : BindH "_law_line" (topS 48) ["rule"] := fun _ _ _ _ _ _ us hl => match us, hl with | [_], _ => rfl
theorem sc_is_between : C8.scC Pg.N_is_between ["value", "low", "high"] (defScope (topS 15)) = true := by decide +kernel
theorem ma_is_between : mSs Pg.N_is_between (defScope (topS 15)) (sbOf (defScope (topS 15))) Pg.b_is_between (defBody (topS 15)) = true := by decide +kernel
theorem bi_is_between : BindH "is_between" (topS 15) ["value", "low", "high"] := fun _ _ _ _ _ _ us hl => match us, hl with | [_, _, _], _ => rfl
theorem sc_all_bids : C8.scC Pg.N_all_bids ["bidders", "top"] (defScope (topS 16)) = true := by decide +kernel
theorem ma_all_bids : mSs Pg.N_all_bids (defScope (topS 16)) (sbOf (defScope (topS 16))) Pg.b_all_bids (defBody (topS 16)) = true := by decide +kernel
theorem bi_all_bids : BindH "all_bids" (topS 16) ["bidders", "top"] := fun _ _ _ _ _ _ us hl => match us, hl with | [_, _], _ => rfl
theorem sc_are_bids : C8.scC Pg.N_are_bids ["bidders", "top", "value"] (defScope (topS 17)) = true := by decide +kernel
theorem ma_are_bids : mSs Pg.N_are_bids (defScope (topS 17)) (sbOf (defScope (topS 17))) Pg.b_are_bids (defBody (topS 17)) = true := by decide +kernel
theorem bi_are_bids : BindH "are_bids" (topS 17) ["bidders", "top", "value"] := fun _ _ _ _ _ _ us hl => match us, hl with | [_, _, _], _ => rfl
theorem sc_is_outcome : C8.scC Pg.N_is_outcome ["bidders", "value"] (defScope (topS 18)) = true := by decide +kernel
theorem ma_is_outcome : mSs Pg.N_is_outcome (defScope (topS 18)) (sbOf (defScope (topS 18))) Pg.b_is_outcome (defBody (topS 18)) = true := by decide +kernel
theorem bi_is_outcome : BindH "is_outcome" (topS 18) ["bidders", "value"] := fun _ _ _ _ _ _ us hl => match us, hl with | [_, _], _ => rfl
theorem sc_is_rule : C8.scC Pg.N_is_rule ["value"] (defScope (topS 19)) = true := by decide +kernel
theorem ma_is_rule : mSs Pg.N_is_rule (defScope (topS 19)) (sbOf (defScope (topS 19))) Pg.b_is_rule (defBody (topS 19)) = true := by decide +kernel
theorem bi_is_rule : BindH "is_rule" (topS 19) ["value"] := fun _ _ _ _ _ _ us hl => match us, hl with | [_], _ => rfl
theorem sc_check_rule : C8.scC Pg.N_check_rule ["value"] (defScope (topS 20)) = true := by decide +kernel
theorem ma_check_rule : mSs Pg.N_check_rule (defScope (topS 20)) (sbOf (defScope (topS 20))) Pg.b_check_rule (defBody (topS 20)) = true := by decide +kernel
theorem bi_check_rule : BindH "check_rule" (topS 20) ["value"] := fun _ _ _ _ _ _ us hl => match us, hl with | [_], _ => rfl
theorem sc_outcome_text : C8.scC Pg.N_outcome_text ["one"] (defScope (topS 28)) = true := by decide +kernel
theorem ma_outcome_text : mSs Pg.N_outcome_text (defScope (topS 28)) (sbOf (defScope (topS 28))) Pg.b_outcome_text (defBody (topS 28)) = true := by decide +kernel
theorem bi_outcome_text : BindH "outcome_text" (topS 28) ["one"] := fun _ _ _ _ _ _ us hl => match us, hl with | [_], _ => rfl
theorem sc_rule_text : C8.scC Pg.N_rule_text ["rule"] (defScope (topS 29)) = true := by decide +kernel
theorem ma_rule_text : mSs Pg.N_rule_text (defScope (topS 29)) (sbOf (defScope (topS 29))) Pg.b_rule_text (defBody (topS 29)) = true := by decide +kernel
theorem bi_rule_text : BindH "rule_text" (topS 29) ["rule"] := fun _ _ _ _ _ _ us hl => match us, hl with | [_], _ => rfl
theorem sc_format_rule : C8.scC Pg.N_format_rule ["rule"] (defScope (topS 30)) = true := by decide +kernel
theorem ma_format_rule : mSs Pg.N_format_rule (defScope (topS 30)) (sbOf (defScope (topS 30))) Pg.b_format_rule (defBody (topS 30)) = true := by decide +kernel
theorem bi_format_rule : BindH "format_rule" (topS 30) ["rule"] := fun _ _ _ _ _ _ us hl => match us, hl with | [_], _ => rfl
theorem sc_number_of : C8.scC ["word"] ["word"] (defScope (topS 31)) = true := by decide +kernel
theorem ma_number_of : numB (defScope (topS 31)) (defBody (topS 31)) = true := by decide +kernel
theorem bi_number_of : BindH "number_of" (topS 31) ["word"] := fun _ _ _ _ _ _ us hl => match us, hl with | [_], _ => rfl
theorem sc_read_outcome : C8.scC Pg.N_read_outcome ["word"] (defScope (topS 32)) = true := by decide +kernel
theorem ma_read_outcome : mSs Pg.N_read_outcome (defScope (topS 32)) (sbOf (defScope (topS 32))) Pg.b_read_outcome (defBody (topS 32)) = true := by decide +kernel
theorem bi_read_outcome : BindH "read_outcome" (topS 32) ["word"] := fun _ _ _ _ _ _ us hl => match us, hl with | [_], _ => rfl
theorem sc_parse_rule : C8.scC Pg.N_parse_rule ["text"] (defScope (topS 33)) = true := by decide +kernel
theorem ma_parse_rule : mSs Pg.N_parse_rule (defScope (topS 33)) (sbOf (defScope (topS 33))) Pg.b_parse_rule (defBody (topS 33)) = true := by decide +kernel
theorem bi_parse_rule : BindH "parse_rule" (topS 33) ["text"] := fun _ _ _ _ _ _ us hl => match us, hl with | [_], _ => rfl
theorem sc__law_call : C8.scC N__law_call ["way", "arguments"] (defScope (topS 47)) = true := by decide +kernel
theorem ma__law_call : mSs N__law_call (defScope (topS 47)) (sbOf (defScope (topS 47))) b__law_call (defBody (topS 47)) = true := by decide +kernel
theorem bi__law_call : BindH "_law_call" (topS 47) ["way", "arguments"] := fun _ _ _ _ _ _ us hl => match us, hl with | [_, _], _ => rfl
theorem sc__law_name : C8.scC ["caught", "found"] ["caught"] (defScope (topS 39)) = true := by decide +kernel
theorem ma__law_name : nameB (defScope (topS 39)) (defBody (topS 39)) = true := by decide +kernel
theorem bi__law_name : BindH "_law_name" (topS 39) ["caught"] := fun _ _ _ _ _ _ us hl => match us, hl with | [_], _ => rfl
theorem sc__law_outcome : C8.scC nO ["way", "arguments"] (defScope (topS 38)) = true := by decide +kernel
theorem ma__law_outcome : outB (defScope (topS 38)) (defBody (topS 38)) = true := by decide +kernel
theorem bi__law_outcome : BindH "_law_outcome" (topS 38) ["way", "arguments"] := fun _ _ _ _ _ _ us hl => match us, hl with | [_, _], _ => rfl
theorem sc__law_raises : C8.scC Pg.N__law_raises ["name"] (defScope (topS 40)) = true := by decide +kernel
theorem ma__law_raises : mSs Pg.N__law_raises (defScope (topS 40)) (sbOf (defScope (topS 40))) Pg.b__law_raises (defBody (topS 40)) = true := by decide +kernel
theorem bi__law_raises : BindH "_law_raises" (topS 40) ["name"] := fun _ _ _ _ _ _ us hl => match us, hl with | [_], _ => rfl
theorem sc_check_sizes : C8.scC Pg.N_check_sizes ["bidders", "top", "reserve"] (defScope (topS 21)) = true := by decide +kernel
theorem ma_check_sizes : mSs Pg.N_check_sizes (defScope (topS 21)) (sbOf (defScope (topS 21))) Pg.b_check_sizes (defBody (topS 21)) = true := by decide +kernel
theorem bi_check_sizes : BindH "check_sizes" (topS 21) ["bidders", "top", "reserve"] := fun _ _ _ _ _ _ us hl => match us, hl with | [_, _, _], _ => rfl
theorem sc_made : C8.scC Pg.N_made ["bidders", "top", "outcomes"] (defScope (topS 22)) = true := by decide +kernel
theorem ma_made : mSs Pg.N_made (defScope (topS 22)) (sbOf (defScope (topS 22))) Pg.b_made (defBody (topS 22)) = true := by decide +kernel
theorem bi_made : BindH "made" (topS 22) ["bidders", "top", "outcomes"] := fun _ _ _ _ _ _ us hl => match us, hl with | [_, _, _], _ => rfl
theorem sc_paying : C8.scC Pg.N_paying ["bidders", "winner", "amount"] (defScope (topS 23)) = true := by decide +kernel
theorem ma_paying : mSs Pg.N_paying (defScope (topS 23)) (sbOf (defScope (topS 23))) Pg.b_paying (defBody (topS 23)) = true := by decide +kernel
theorem bi_paying : BindH "paying" (topS 23) ["bidders", "winner", "amount"] := fun _ _ _ _ _ _ us hl => match us, hl with | [_, _, _], _ => rfl
theorem sc_highest : C8.scC Pg.N_highest ["bids", "reserve"] (defScope (topS 24)) = true := by decide +kernel
theorem ma_highest : mSs Pg.N_highest (defScope (topS 24)) (sbOf (defScope (topS 24))) Pg.b_highest (defBody (topS 24)) = true := by decide +kernel
theorem bi_highest : BindH "highest" (topS 24) ["bids", "reserve"] := fun _ _ _ _ _ _ us hl => match us, hl with | [_, _], _ => rfl
theorem sc_first_price : C8.scC Pg.N_first_price ["bidders", "top", "reserve"] (defScope (topS 25)) = true := by decide +kernel
theorem ma_first_price : mSs Pg.N_first_price (defScope (topS 25)) (sbOf (defScope (topS 25))) Pg.b_first_price (defBody (topS 25)) = true := by decide +kernel
theorem bi_first_price : BindH "first_price" (topS 25) ["bidders", "top", "reserve"] := fun _ _ _ _ _ _ us hl => match us, hl with | [_, _, _], _ => rfl
theorem sc_law : C8.scC N_law ["script"] (defScope (topS 49)) = true := by decide +kernel
theorem ma_law : mTop N_law (defScope (topS 49)) (sbOf (defScope (topS 49))) b_law (defBody (topS 49)) = true := by decide +kernel
def nmX : List Str := ["parse_rule", "_law_call"]
theorem nx_number_of : ∀ ds, Nx (numF ds) := nx_numF
theorem nx_read_outcome : ∀ ds, Nx (Pg.f_read_outcome ds) := fun ds => nx_mkP (n := 1) (m := 4) (body := Pg.b_read_outcome) (by decide +kernel) (qs_p nx_number_of (qs_p nx_number_of (qs_nil))) ds
theorem nx_is_between : ∀ ds, Nx (Pg.f_is_between ds) := fun ds => nx_mkP (n := 3) (m := 3) (body := Pg.b_is_between) (by decide +kernel) (qs_nil) ds
theorem nx_all_bids : ∀ ds, Nx (Pg.f_all_bids ds) := fun ds => nx_mkP (n := 2) (m := 6) (body := Pg.b_all_bids) (by decide +kernel) (qs_nil) ds
theorem nx_are_bids : ∀ ds, Nx (Pg.f_are_bids ds) := fun ds => nx_mkP (n := 3) (m := 4) (body := Pg.b_are_bids) (by decide +kernel) (qs_p nx_is_between (qs_nil)) ds
theorem nx_is_outcome : ∀ ds, Nx (Pg.f_is_outcome ds) := fun ds => nx_mkP (n := 2) (m := 2) (body := Pg.b_is_outcome) (by decide +kernel) (qs_p nx_are_bids (qs_p nx_is_between (qs_nil))) ds
theorem nx_is_rule : ∀ ds, Nx (Pg.f_is_rule ds) := fun ds => nx_mkP (n := 1) (m := 5) (body := Pg.b_is_rule) (by decide +kernel) (qs_p nx_is_between (qs_p nx_is_between (qs_p nx_all_bids (qs_p nx_is_outcome (qs_nil))))) ds
theorem nx_outcome_text : ∀ ds, Nx (Pg.f_outcome_text ds) := fun ds => nx_mkP (n := 1) (m := 3) (body := Pg.b_outcome_text) (by decide +kernel) (qs_nil) ds
theorem nx_rule_text : ∀ ds, Nx (Pg.f_rule_text ds) := fun ds => nx_mkP (n := 1) (m := 2) (body := Pg.b_rule_text) (by decide +kernel) (qs_p nx_outcome_text (qs_nil)) ds
theorem mx_parse_rule : fSs Pg.N_parse_rule (sbOf (defScope (topS 33))) nmX xn12 (defScope (topS 33)) Pg.b_parse_rule (defBody (topS 33)) = true := by decide +kernel
theorem mx__law_call : fSs N__law_call (sbOf (defScope (topS 47))) nmX xn12 (defScope (topS 47)) b__law_call (defBody (topS 47)) = true := by decide +kernel
section
variable {P : Program} {w : World} {K : PySem.W.Frag} {mg : Str → Option Value} {h : Heap}
theorem all_fok (X : K.In h) (G : h.Ns mainGlobals mg) {fa : Addr} (hfa : mg "law" = some (.ref fa)) (blt : ∀ x ∈ bltN, mg x = none) (xa : Xall K mg) (dg : digB K = true) (d__law_town : DefAt K "_law_town" (topS 35)) (d__law_draw : DefAt K "_law_draw" (topS 36)) (d__law_pick : DefAt K "_law_pick" (topS 37)) (d__law_sizes : DefAt K "_law_sizes" (topS 42)) (d__law_rows : DefAt K "_law_rows" (topS 41)) (d__law_drawn : DefAt K "_law_drawn" (topS 43)) (d__law_climbing : DefAt K "_law_climbing" (topS 44)) (d__law_known : DefAt K "_law_known" (topS 45)) (d__law_rule : DefAt K "_law_rule" (topS 46)) (d__law_line : DefAt K "_law_line" (topS 48)) (d_is_between : DefAt K "is_between" (topS 15)) (d_all_bids : DefAt K "all_bids" (topS 16)) (d_are_bids : DefAt K "are_bids" (topS 17)) (d_is_outcome : DefAt K "is_outcome" (topS 18)) (d_is_rule : DefAt K "is_rule" (topS 19)) (d_check_rule : DefAt K "check_rule" (topS 20)) (d_outcome_text : DefAt K "outcome_text" (topS 28)) (d_rule_text : DefAt K "rule_text" (topS 29)) (d_format_rule : DefAt K "format_rule" (topS 30)) (d_number_of : DefAt K "number_of" (topS 31)) (d_read_outcome : DefAt K "read_outcome" (topS 32)) (d_parse_rule : DefAt K "parse_rule" (topS 33)) (d__law_call : DefAt K "_law_call" (topS 47)) (d__law_name : DefAt K "_law_name" (topS 39)) (d__law_outcome : DefAt K "_law_outcome" (topS 38)) (d__law_raises : DefAt K "_law_raises" (topS 40)) (d_check_sizes : DefAt K "check_sizes" (topS 21)) (d_made : DefAt K "made" (topS 22)) (d_paying : DefAt K "paying" (topS 23)) (d_highest : DefAt K "highest" (topS 24)) (d_first_price : DefAt K "first_price" (topS 25)) (d_law : DefAt K "law" (topS 49)) :
    ∃ fd : FuncData, (∀ (s : Shared) (v : Value), BindsTo s fd ⟨[v], []⟩ [("script", v)]) ∧ ∀ base : Heap, K.In base → base.Ns mainGlobals mg → FnOk P w K mg base CX0 8 fa fd ["script"] (spP 1 f_law) := by
  have q__law_town : ∀ base : Heap, Fok P w K mg base 1 (.m "_law_town" 1 townF) := fun base => fokM X G d__law_town bi__law_town sc__law_town ma__law_town blt
  have q__law_draw : ∀ base : Heap, Fok P w K mg base 1 (.s "_law_draw" 3 Pg.f__law_draw) := fun base => fokS X G d__law_draw bi__law_draw sc__law_draw rfl rfl ma__law_draw blt (cs_nil)
  have q__law_pick : ∀ base : Heap, Fok P w K mg base 2 (.s "_law_pick" 3 Pg.f__law_pick) := fun base => fokS X G d__law_pick bi__law_pick sc__law_pick rfl rfl ma__law_pick blt (cs_cons (q__law_draw base) (by decide) (cs_nil))
  have q__law_sizes : ∀ base : Heap, Fok P w K mg base 3 (.s "_law_sizes" 2 Pg.f__law_sizes) := fun base => fokS X G d__law_sizes bi__law_sizes sc__law_sizes rfl rfl ma__law_sizes blt (cs_cons (q__law_pick base) (by decide) (cs_nil))
  have q__law_rows : ∀ base : Heap, Fok P w K mg base 1 (.p "_law_rows" 2 Pg.f__law_rows) := fun base => fokP X G d__law_rows bi__law_rows sc__law_rows rfl rfl ma__law_rows blt (cs_nil)
  have q__law_drawn : ∀ base : Heap, Fok P w K mg base 3 (.s "_law_drawn" 4 Pg.f__law_drawn) := fun base => fokS X G d__law_drawn bi__law_drawn sc__law_drawn rfl rfl ma__law_drawn blt (cs_cons (q__law_draw base) (by decide) (cs_cons (q__law_pick base) (by decide) (cs_cons (q__law_pick base) (by decide) (cs_cons (q__law_rows base) (by decide) (cs_cons (q__law_pick base) (by decide) (cs_nil))))))
  have q__law_climbing : ∀ base : Heap, Fok P w K mg base 2 (.s "_law_climbing" 4 Pg.f__law_climbing) := fun base => fokS X G d__law_climbing bi__law_climbing sc__law_climbing rfl rfl ma__law_climbing blt (cs_cons (q__law_draw base) (by decide) (cs_cons (q__law_draw base) (by decide) (cs_cons (q__law_draw base) (by decide) (cs_cons (q__law_rows base) (by decide) (cs_nil)))))
  have q__law_known : ∀ base : Heap, Fok P w K mg base 2 (.s "_law_known" 4 Pg.f__law_known) := fun base => fokS X G d__law_known bi__law_known sc__law_known rfl rfl ma__law_known blt (cs_cons (q__law_draw base) (by decide) (cs_cons (q__law_draw base) (by decide) (cs_cons (q__law_rows base) (by decide) (cs_nil))))
  have q__law_rule : ∀ base : Heap, Fok P w K mg base 4 (.s "_law_rule" 2 Pg.f__law_rule) := fun base => fokS X G d__law_rule bi__law_rule sc__law_rule rfl rfl ma__law_rule blt (cs_cons (q__law_sizes base) (by decide) (cs_cons (q__law_draw base) (by decide) (cs_cons (q__law_drawn base) (by decide) (cs_cons (q__law_climbing base) (by decide) (cs_cons (q__law_known base) (by decide) (cs_nil))))))
  have q__law_line : ∀ base : Heap, Fok P w K mg base 1 (.p "_law_line" 1 Pg.f__law_line) := fun base => fokP X G d__law_line bi__law_line sc__law_line rfl rfl ma__law_line blt (cs_nil)
  have q_is_between : ∀ base : Heap, Fok P w K mg base 1 (.p "is_between" 3 Pg.f_is_between) := fun base => fokP X G d_is_between bi_is_between sc_is_between rfl rfl ma_is_between blt (cs_nil)
  have q_all_bids : ∀ base : Heap, Fok P w K mg base 1 (.p "all_bids" 2 Pg.f_all_bids) := fun base => fokP X G d_all_bids bi_all_bids sc_all_bids rfl rfl ma_all_bids blt (cs_nil)
  have q_are_bids : ∀ base : Heap, Fok P w K mg base 2 (.p "are_bids" 3 Pg.f_are_bids) := fun base => fokP X G d_are_bids bi_are_bids sc_are_bids rfl rfl ma_are_bids blt (cs_cons (q_is_between base) (by decide) (cs_nil))
  have q_is_outcome : ∀ base : Heap, Fok P w K mg base 3 (.p "is_outcome" 2 Pg.f_is_outcome) := fun base => fokP X G d_is_outcome bi_is_outcome sc_is_outcome rfl rfl ma_is_outcome blt (cs_cons (q_are_bids base) (by decide) (cs_cons (q_is_between base) (by decide) (cs_nil)))
  have q_is_rule : ∀ base : Heap, Fok P w K mg base 4 (.p "is_rule" 1 Pg.f_is_rule) := fun base => fokP X G d_is_rule bi_is_rule sc_is_rule rfl rfl ma_is_rule blt (cs_cons (q_is_between base) (by decide) (cs_cons (q_is_between base) (by decide) (cs_cons (q_all_bids base) (by decide) (cs_cons (q_is_outcome base) (by decide) (cs_nil)))))
  have q_check_rule : ∀ base : Heap, Fok P w K mg base 5 (.p "check_rule" 1 Pg.f_check_rule) := fun base => fokP X G d_check_rule bi_check_rule sc_check_rule rfl rfl ma_check_rule blt (cs_cons (q_is_rule base) (by decide) (cs_nil))
  have q_outcome_text : ∀ base : Heap, Fok P w K mg base 1 (.p "outcome_text" 1 Pg.f_outcome_text) := fun base => fokP X G d_outcome_text bi_outcome_text sc_outcome_text rfl rfl ma_outcome_text blt (cs_nil)
  have q_rule_text : ∀ base : Heap, Fok P w K mg base 2 (.p "rule_text" 1 Pg.f_rule_text) := fun base => fokP X G d_rule_text bi_rule_text sc_rule_text rfl rfl ma_rule_text blt (cs_cons (q_outcome_text base) (by decide) (cs_nil))
  have q_format_rule : ∀ base : Heap, Fok P w K mg base 6 (.p "format_rule" 1 Pg.f_format_rule) := fun base => fokP X G d_format_rule bi_format_rule sc_format_rule rfl rfl ma_format_rule blt (cs_cons (q_check_rule base) (by decide) (cs_cons (q_rule_text base) (by decide) (cs_nil)))
  have q_number_of : ∀ base : Heap, Fok P w K mg base 1 (.p "number_of" 1 numF) := fun base => fokNu X G d_number_of bi_number_of sc_number_of ma_number_of blt dg
  have q_read_outcome : ∀ base : Heap, Fok P w K mg base 2 (.p "read_outcome" 1 Pg.f_read_outcome) := fun base => fokP X G d_read_outcome bi_read_outcome sc_read_outcome rfl rfl ma_read_outcome blt (cs_cons (q_number_of base) (by decide) (cs_cons (q_number_of base) (by decide) (cs_nil)))
  have q_parse_rule : ∀ base : Heap, Fok P w K mg base 5 (.p "parse_rule" 1 Pg.f_parse_rule) := fun base => fokP X G d_parse_rule bi_parse_rule sc_parse_rule rfl rfl ma_parse_rule blt (cs_cons (q_number_of base) (by decide) (cs_cons (q_read_outcome base) (by decide) (cs_cons (q_is_rule base) (by decide) (cs_cons (q_rule_text base) (by decide) (cs_nil)))))
  have x_parse_rule : ∀ base : Heap, FokX P w K mg base 5 (.p "parse_rule" 1 Pg.f_parse_rule) := fun base => fokXb X G d_parse_rule bi_parse_rule sc_parse_rule rfl rfl ma_parse_rule mx_parse_rule blt xa (cs_cons (q_number_of base) (by decide) (cs_cons (q_read_outcome base) (by decide) (cs_cons (q_is_rule base) (by decide) (cs_cons (q_rule_text base) (by decide) (cs_nil))))) (cb_q nx_number_of (by decide +kernel) (cb_q nx_read_outcome (by decide +kernel) (cb_q nx_is_rule (by decide +kernel) (cb_q nx_rule_text (by decide +kernel) (cb_nil)))))
  have q__law_call : ∀ base : Heap, Fok P w K mg base 6 (.p "_law_call" 2 f__law_call) := fun base => fokP X G d__law_call bi__law_call sc__law_call rfl rfl ma__law_call blt (cs_cons (q_parse_rule base) (by decide) (cs_nil))
  have b__law_call : ∀ base : Heap, FokB P w K mg base 6 "_law_call" 2 f__law_call := fun base => fokBb X G d__law_call bi__law_call sc__law_call rfl rfl ma__law_call mx__law_call blt xa (cs_cons (q_parse_rule base) (by decide) (cs_nil)) (cb_x (x_parse_rule base) (by decide) (by decide +kernel) (cb_nil))
  have q__law_outcome : ∀ base : Heap, Fok P w K mg base 7 (.p "_law_outcome" 2 (semO f__law_call)) := fun base => fokO X G d__law_outcome bi__law_outcome sc__law_outcome ma__law_outcome d__law_name bi__law_name sc__law_name ma__law_name xa blt (by decide) (b__law_call base)
  have q__law_raises : ∀ base : Heap, Fok P w K mg base 1 (.p "_law_raises" 1 Pg.f__law_raises) := fun base => fokP X G d__law_raises bi__law_raises sc__law_raises rfl rfl ma__law_raises blt (cs_nil)
  have q_check_sizes : ∀ base : Heap, Fok P w K mg base 2 (.p "check_sizes" 3 Pg.f_check_sizes) := fun base => fokP X G d_check_sizes bi_check_sizes sc_check_sizes rfl rfl ma_check_sizes blt (cs_cons (q_is_between base) (by decide) (cs_cons (q_is_between base) (by decide) (cs_cons (q_is_between base) (by decide) (cs_nil))))
  have q_made : ∀ base : Heap, Fok P w K mg base 1 (.p "made" 3 Pg.f_made) := fun base => fokP X G d_made bi_made sc_made rfl rfl ma_made blt (cs_nil)
  have q_paying : ∀ base : Heap, Fok P w K mg base 1 (.p "paying" 3 Pg.f_paying) := fun base => fokP X G d_paying bi_paying sc_paying rfl rfl ma_paying blt (cs_nil)
  have q_highest : ∀ base : Heap, Fok P w K mg base 1 (.p "highest" 2 Pg.f_highest) := fun base => fokP X G d_highest bi_highest sc_highest rfl rfl ma_highest blt (cs_nil)
  have q_first_price : ∀ base : Heap, Fok P w K mg base 3 (.p "first_price" 3 Pg.f_first_price) := fun base => fokP X G d_first_price bi_first_price sc_first_price rfl rfl ma_first_price blt (cs_cons (q_check_sizes base) (by decide) (cs_cons (q_made base) (by decide) (cs_cons (q_all_bids base) (by decide) (cs_cons (q_paying base) (by decide) (cs_cons (q_highest base) (by decide) (cs_nil))))))
  exact law_atT X G hfa d_law (fun _ _ _ _ _ _ s v => .of_eq rfl) sc_law rfl ma_law blt fun base => cs_cons (q__law_town base) (by decide) (cs_cons (q__law_rule base) (by decide) (cs_cons (q__law_line base) (by decide) (cs_cons (q_format_rule base) (by decide) (cs_cons (q__law_outcome base) (by decide) (cs_cons (q__law_draw base) (by decide) (cs_cons (q__law_pick base) (by decide) (cs_cons (q__law_draw base) (by decide) (cs_cons (q__law_outcome base) (by decide) (cs_cons (q_is_rule base) (by decide) (cs_cons (q__law_line base) (by decide) (cs_cons (q__law_raises base) (by decide) (cs_cons (q__law_outcome base) (by decide) (cs_cons (q__law_raises base) (by decide) (cs_cons (q__law_outcome base) (by decide) (cs_cons (q_first_price base) (by decide) (cs_nil))))))))))))))))
end
end K52

set_option Elab.async false
set_option linter.all false
set_option maxRecDepth 100000
set_option maxHeartbeats 4000000
open PySem PySem.W PyProof.Rows
set_option maxHeartbeats 0 in
theorem PySem.Challenge.cw_sealedbids_k52_whole_texts_holds : PySem.Challenge.rw_sealedbids_k52_whole_texts.Holds := by
  w_on; o_law; k_head; (case hw => w_witness2)
  k_fill
  refine L2.walk_of (l := PySem.Challenge.rw_sealedbids_k52_whole_texts) (n := 63) (k := 8) (x := "script") (CX := fun _ => L2.CX0) (sp := fun w => Sb.spP 1 K52.f_law) rfl (by decide) rfl ⟨rfl, by decide, by decide⟩ (fun w h Y => PySem.W.kIn_of Y) ?F ?S (fun _ _ _ _ _ h => h)
  case S =>
    intro w H a ns hl hO hS
    exact Sb.start_law (by rfl) hS (K52.law_true ns hl)
  case F =>
    intro w mg fa h KX G hmg
    refine K52.all_fok KX G hmg ?blt (Sb.xall_of KX G (by kernel_rfl)) (by kernel_rfl) ?d0 ?d1 ?d2 ?d3 ?d4 ?d5 ?d6 ?d7 ?d8 ?d9 ?d10 ?d11 ?d12 ?d13 ?d14 ?d15 ?d16 ?d17 ?d18 ?d19 ?d20 ?d21 ?d22 ?d23 ?d24 ?d25 ?d26 ?d27 ?d28 ?d29 ?d30 ?d31
    case blt =>
      refine Sb.blt_of KX G ?z
      refine ⟨?_, ?_, ?_, ?_, ?_, ?_, ?_, ?_, ?_, ?_, ?_, ?_, ?_, ?_, ?_, ?_, ?_⟩
      all_goals k_is
    case d0 => refine' Sb.defAt_mk ?a ?l ?c ?k; (case a => k_is); (case l => k_is); (case c => k_is); (case k => k_is)
    case d1 => refine' Sb.defAt_mk ?a ?l ?c ?k; (case a => k_is); (case l => k_is); (case c => k_is); (case k => k_is)
    case d2 => refine' Sb.defAt_mk ?a ?l ?c ?k; (case a => k_is); (case l => k_is); (case c => k_is); (case k => k_is)
    case d3 => refine' Sb.defAt_mk ?a ?l ?c ?k; (case a => k_is); (case l => k_is); (case c => k_is); (case k => k_is)
    case d4 => refine' Sb.defAt_mk ?a ?l ?c ?k; (case a => k_is); (case l => k_is); (case c => k_is); (case k => k_is)
    case d5 => refine' Sb.defAt_mk ?a ?l ?c ?k; (case a => k_is); (case l => k_is); (case c => k_is); (case k => k_is)
    case d6 => refine' Sb.defAt_mk ?a ?l ?c ?k; (case a => k_is); (case l => k_is); (case c => k_is); (case k => k_is)
    case d7 => refine' Sb.defAt_mk ?a ?l ?c ?k; (case a => k_is); (case l => k_is); (case c => k_is); (case k => k_is)
    case d8 => refine' Sb.defAt_mk ?a ?l ?c ?k; (case a => k_is); (case l => k_is); (case c => k_is); (case k => k_is)
    case d9 => refine' Sb.defAt_mk ?a ?l ?c ?k; (case a => k_is); (case l => k_is); (case c => k_is); (case k => k_is)
    case d10 => refine' Sb.defAt_mk ?a ?l ?c ?k; (case a => k_is); (case l => k_is); (case c => k_is); (case k => k_is)
    case d11 => refine' Sb.defAt_mk ?a ?l ?c ?k; (case a => k_is); (case l => k_is); (case c => k_is); (case k => k_is)
    case d12 => refine' Sb.defAt_mk ?a ?l ?c ?k; (case a => k_is); (case l => k_is); (case c => k_is); (case k => k_is)
    case d13 => refine' Sb.defAt_mk ?a ?l ?c ?k; (case a => k_is); (case l => k_is); (case c => k_is); (case k => k_is)
    case d14 => refine' Sb.defAt_mk ?a ?l ?c ?k; (case a => k_is); (case l => k_is); (case c => k_is); (case k => k_is)
    case d15 => refine' Sb.defAt_mk ?a ?l ?c ?k; (case a => k_is); (case l => k_is); (case c => k_is); (case k => k_is)
    case d16 => refine' Sb.defAt_mk ?a ?l ?c ?k; (case a => k_is); (case l => k_is); (case c => k_is); (case k => k_is)
    case d17 => refine' Sb.defAt_mk ?a ?l ?c ?k; (case a => k_is); (case l => k_is); (case c => k_is); (case k => k_is)
    case d18 => refine' Sb.defAt_mk ?a ?l ?c ?k; (case a => k_is); (case l => k_is); (case c => k_is); (case k => k_is)
    case d19 => refine' Sb.defAt_mk ?a ?l ?c ?k; (case a => k_is); (case l => k_is); (case c => k_is); (case k => k_is)
    case d20 => refine' Sb.defAt_mk ?a ?l ?c ?k; (case a => k_is); (case l => k_is); (case c => k_is); (case k => k_is)
    case d21 => refine' Sb.defAt_mk ?a ?l ?c ?k; (case a => k_is); (case l => k_is); (case c => k_is); (case k => k_is)
    case d22 => refine' Sb.defAt_mk ?a ?l ?c ?k; (case a => k_is); (case l => k_is); (case c => k_is); (case k => k_is)
    case d23 => refine' Sb.defAt_mk ?a ?l ?c ?k; (case a => k_is); (case l => k_is); (case c => k_is); (case k => k_is)
    case d24 => refine' Sb.defAt_mk ?a ?l ?c ?k; (case a => k_is); (case l => k_is); (case c => k_is); (case k => k_is)
    case d25 => refine' Sb.defAt_mk ?a ?l ?c ?k; (case a => k_is); (case l => k_is); (case c => k_is); (case k => k_is)
    case d26 => refine' Sb.defAt_mk ?a ?l ?c ?k; (case a => k_is); (case l => k_is); (case c => k_is); (case k => k_is)
    case d27 => refine' Sb.defAt_mk ?a ?l ?c ?k; (case a => k_is); (case l => k_is); (case c => k_is); (case k => k_is)
    case d28 => refine' Sb.defAt_mk ?a ?l ?c ?k; (case a => k_is); (case l => k_is); (case c => k_is); (case k => k_is)
    case d29 => refine' Sb.defAt_mk ?a ?l ?c ?k; (case a => k_is); (case l => k_is); (case c => k_is); (case k => k_is)
    case d30 => refine' Sb.defAt_mk ?a ?l ?c ?k; (case a => k_is); (case l => k_is); (case c => k_is); (case k => k_is)
    case d31 => refine' Sb.defAt_mk ?a ?l ?c ?k; (case a => k_is); (case l => k_is); (case c => k_is); (case k => k_is)

