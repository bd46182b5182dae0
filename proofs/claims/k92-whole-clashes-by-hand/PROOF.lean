import PyProof.Rows.All
import Wide.All
import OpenK.AllK
import Wide.FinOn
import HandS.ForMost
import HandS.Codes
import HandS.Flow
import HandS.TupAny
import HandS.IsInst
import HandS.Exc
import HandS.ExcOwn
import HandS.TryOnly
import HandS.WordsExc
import HandS.Style
import HandS.Zip
import KE.DataEq
import KE.SortData
import KE.SortCalls
import HandS.FStr
import HandS.Deep
import HandS.Dict
import HandS.ExcIs
import KE.DataFind
import KE.KDictPairs
import HandS.HeadHook1
import HandS.TupMul
import KE.KxText
import HandS.Text
import HandS.RaiseMore
import HandS.Set
import HandS.Strs
import HandS.More
import HandS.Replace
import HandS.ListItems
import HandS.Conv
import PyProof.CollectStr
import PyProof.TupleOfSeq
import HandS.ReplaceLit
import KE.GoesEnum
import KE.GoesZip
import KE.KDictZip
import HandS.SortKw
import KE.DataMinMax
import ObjForm.LawKit
import HandS.Small
import HandS.CallRecv
import HandS.Words
import HandS.Defaults
import KE.KStateDown
import HandS.Ends
import HandS.Head0
import HandS.Head1
import HandS.Head2
import HandS.HeadEnd
import HandS.HeadHook2
import PySem.Challenge.RW_partworld_k92_whole_clashes_by_hand
import Lean
set_option Elab.async false
set_option linter.all false
set_option maxRecDepth 100000
set_option maxHeartbeats 0
/-! text PwA -/
/-! own data, own small language, its evaluator: no heap here -/
namespace Pw
open PySem

abbrev Tx := List Nat

inductive D where
  | non
  | bl (b : Bool)
  | int (i : Int)
  | str (s : Tx)
  | lst (xs : List D)
  | tup (xs : List D)
  | dct (ks : List D) (vs : List D)
  | exc (c : Tx)
  | loc (l : Nat)
  | ins (c : Tx) (ns : List Tx) (vs : List D)

inductive R (A : Type) where
  | ok (a : A)
  | ex (c : Tx)
  | bad

def R.bind {A B : Type} : R A → (A → R B) → R B
  | .ok a, f => f a
  | .ex c, _ => .ex c
  | .bad, _ => .bad
@[simp] theorem R.ok_bind {A B : Type} (a : A) (f : A → R B) : (R.ok a).bind f = f a := rfl
@[simp] theorem R.ex_bind {A B : Type} (c : Tx) (f : A → R B) : (R.ex c : R A).bind f = .ex c := rfl
@[simp] theorem R.bad_bind {A B : Type} (f : A → R B) : (R.bad : R A).bind f = .bad := rfl
theorem R.bind_ok {A B : Type} {x : R A} {f : A → R B} {b : B} (h : x.bind f = .ok b) : ∃ a, x = .ok a ∧ f a = .ok b := by
  cases x with
  | ok a => exact ⟨a, rfl, h⟩
  | ex c => cases h
  | bad => cases h
theorem R.bind_ex {A B : Type} {x : R A} {f : A → R B} {c : Tx} (h : x.bind f = .ex c) : x = .ex c ∨ ∃ a, x = .ok a ∧ f a = .ex c := by
  cases x with
  | ok a => exact .inr ⟨a, rfl, h⟩
  | ex c' =>
    cases h
    exact .inl rfl
  | bad => cases h

mutual
def D.plain : D → Bool
  | .non | .bl _ | .int _ | .str _ => true
  | .lst xs | .tup xs => D.plainL xs
  | .dct _ _ | .exc _ | .loc _ | .ins _ _ _ => false
def D.plainL : List D → Bool
  | [] => true
  | x :: xs => x.plain && D.plainL xs
end
mutual
def D.dep : D → Nat
  | .lst xs | .tup xs => D.depL xs + 1
  | .non | .bl _ | .int _ | .str _ | .dct _ _ | .exc _ | .loc _ | .ins _ _ _ => 0
def D.depL : List D → Nat
  | [] => 0
  | x :: xs => max x.dep (D.depL xs)
end
mutual
def D.py : D → PyData
  | .non => .none
  | .bl b => .bool b
  | .int i => .int i
  | .str s => .str ⟨s.toArray⟩
  | .lst xs => .list (D.pyL xs)
  | .tup xs => .tuple (D.pyL xs)
  | .dct _ _ | .exc _ | .loc _ | .ins _ _ _ => .none
def D.pyL : List D → List PyData
  | [] => []
  | x :: xs => x.py :: D.pyL xs
end
mutual
def D.eqv : D → D → Bool
  | .non, .non => true
  | .bl a, .bl b => a == b
  | .bl a, .int j => (if a then 1 else 0) == j
  | .int i, .bl b => i == (if b then 1 else 0)
  | .int i, .int j => i == j
  | .str x, .str y => x == y
  | .lst xs, .lst ys => D.eqvL xs ys
  | .tup xs, .tup ys => D.eqvL xs ys
  | _, _ => false
def D.eqvL : List D → List D → Bool
  | [], [] => true
  | x :: xs, y :: ys => x.eqv y && D.eqvL xs ys
  | _, _ => false
end

mutual
/-- no list and no dict in it -/
def D.noC : D → Bool
  | .lst _ | .dct _ _ | .loc _ | .ins _ _ _ => false
  | .tup xs => D.noCL xs
  | .non | .bl _ | .int _ | .str _ | .exc _ => true
def D.noCL : List D → Bool
  | [] => true
  | x :: xs => x.noC && D.noCL xs
end
/-- plain, and not too deep for the machine's comparison -/
def D.flat (d : D) : Bool := d.plain && Nat.ble d.dep 60

def D.truth : D → Bool
  | .non => false
  | .bl b => b
  | .int i => i != 0
  | .str s => !s.isEmpty
  | .lst xs => !xs.isEmpty
  | .tup xs => !xs.isEmpty
  | .dct ks _ => !ks.isEmpty
  | .exc _ => true
  | .loc _ => true
  | .ins _ _ _ => true

/-- what may be asked for its truth -/
def noX : D → R D
  | .exc _ => .bad
  | .dct _ _ => .bad
  | .loc _ => .bad
  | .ins _ _ _ => .bad
  | d => .ok d
/-- tuples of pairs -/
def D.isP2 : D → Bool
  | .tup [_, _] => true
  | _ => false
def prs (ds : List D) : Bool := ds.all D.isP2
def LIM : Nat := 16777216
def smallI (i : Int) : Bool := Nat.blt i.natAbs 18446744073709551616

inductive Op2 where | add | sub | mul | fdiv | mod | pow | band
inductive Cm where | eq | ne | lt | le | gt | ge | isin | notin | is | isnot

def op2 : Op2 → D → D → R D
  | .add, .int i, .int j => .ok (.int (i + j))
  | .add, .str x, .str y => if Nat.ble (x.length + y.length) LIM then .ok (.str (x ++ y)) else .bad
  | .add, .lst x, .lst y => if Nat.ble (x.length + y.length) LIM then .ok (.lst (x ++ y)) else .bad
  | .add, .tup x, .tup y => if Nat.ble (x.length + y.length) LIM then .ok (.tup (x ++ y)) else .bad
  | .sub, .int i, .int j => .ok (.int (i - j))
  | .mul, .int i, .int j => if smallI i || smallI j then .ok (.int (i * j)) else .bad
  | .mul, .str s, .int k => if decide (0 ≤ k) && decide (k ≤ 1000) && Nat.ble s.length 1000 then .ok (.str (List.replicate k.toNat s).flatten) else .bad
  | .mul, .tup xs, .int k => if !xs.isEmpty && decide (2 ≤ k) && decide (k ≤ 1000) && Nat.ble xs.length 1000 && !prs xs then .ok (.tup (List.replicate k.toNat xs).flatten) else .bad
  | .fdiv, .int i, .int j => if decide (0 < j) && decide (j < 1073741824) then .ok (.int (i / j)) else .bad
  | .mod, .int i, .int j => if decide (0 < j) then .ok (.int (i % j)) else .bad
  | .pow, .int i, .int j => if decide (0 ≤ j) && decide (j ≤ 1000) && Nat.blt i.natAbs 18446744073709551616 then .ok (.int (i ^ j.toNat)) else .bad
  | .band, .int i, .int j => .ok (.int (Builtin.bitAnd i j))
  | _, _, _ => .bad

/-- an error's class is of a class -/
def PERR : Tx := [80, 97, 114, 116, 69, 114, 114, 111, 114]
def VERR : Tx := [86, 97, 108, 117, 101, 69, 114, 114, 111, 114]
def subX (c x : Tx) : Bool := decide (c = x) || decide (x = PERR) || decide (x = VERR)
def isX (cs : List Tx) (x : Tx) : D → R Bool
  | .exc c => if cs.contains c then .ok (subX c x) else .bad
  | _ => .bad
/-! ### dicts: keys are numbers and texts -/
def keq : D → D → Bool
  | .int i, .int j => decide (i = j)
  | .str x, .str y => decide (x = y)
  | _, _ => false
def isKey : D → Bool
  | .int _ | .str _ => true
  | _ => false
def dfind (k : D) : List D → List D → Option D
  | k' :: ks, v :: vs => if keq k' k then some v else dfind k ks vs
  | _, _ => none
def dhas (k : D) (ks : List D) : Bool := ks.any fun k' => keq k' k
def dset (k v : D) : List D → List D → List D
  | k' :: ks, x :: vs => (if keq k' k then v else x) :: dset k v ks vs
  | _, _ => []
def dputK (k : D) (ks : List D) : List D := if dhas k ks then ks else ks ++ [k]
def dputV (k v : D) (ks vs : List D) : List D := if dhas k ks then dset k v ks vs else vs ++ [v]
def ddropK (k : D) (ks : List D) : List D := ks.filter fun k' => !keq k' k
def ddropV (k : D) : List D → List D → List D
  | k' :: ks, x :: vs => if keq k' k then ddropV k ks vs else x :: ddropV k ks vs
  | _, _ => []
/-- a dict out of pairs -/
def dmake : List D → List D → List D → Option (List D × List D)
  | ks, vs, [] => some (ks, vs)
  | ks, vs, .tup [k, v] :: r => if isKey k then dmake (dputK k ks) (dputV k v ks vs) r else none
  | _, _, _ => none
def dictR : D → R D
  | .dct ks vs => .ok (.dct ks vs)
  | .lst ps => (match dmake [] [] ps with
    | some (ks, vs) => .ok (.dct ks vs)
    | none => .bad)
  | .tup ps => (match dmake [] [] ps with
    | some (ks, vs) => .ok (.dct ks vs)
    | none => .bad)
  | _ => .bad
def dgetR : D → D → D → R D
  | .dct ks vs, k, z => if isKey k then .ok ((dfind k ks vs).getD z) else .bad
  | _, _, _ => .bad
/-- the pairs of a dict -/
def dpairs : List D → List D → List D
  | k :: ks, v :: vs => .tup [k, v] :: dpairs ks vs
  | _, _ => []
def eqR (a b : D) : R Bool := if a.flat && b.flat then .ok (a.eqv b) else (match a, b with
  | .lst (_ :: _), .lst [] => .ok false
  | _, _ => .bad)
def memR (x : D) (xs : List D) : R Bool := if x.flat && D.plainL xs then .ok (xs.any fun y => y.eqv x) else .bad
def inR : D → D → R Bool
  | .str [c], .str s => .ok (decide (c ∈ s))
  | x, .lst xs => memR x xs
  | x, .tup xs => memR x xs
  | x, .dct ks _ => if isKey x then .ok (dhas x ks) else .bad
  | _, _ => .bad
def D.isNon : D → Bool
  | .non => true
  | _ => false
def isR : D → D → R Bool
  | x, .non => .ok x.isNon
  | .bl a, .bl b => .ok (decide (a = b))
  | _, _ => .bad
def mapR {A B : Type} (f : A → B) (x : R A) : R B := x.bind fun a => .ok (f a)

def cmpB : Cm → D → D → R Bool
  | .eq, a, b => eqR a b
  | .ne, a, b => mapR (!·) (eqR a b)
  | .lt, .int i, .int j => .ok (decide (i < j))
  | .le, .int i, .int j => .ok (decide (i ≤ j))
  | .gt, .int i, .int j => .ok (decide (j < i))
  | .ge, .int i, .int j => .ok (decide (j ≤ i))
  | .isin, a, b => inR a b
  | .notin, a, b => mapR (!·) (inR a b)
  | .is, a, b => isR a b
  | .isnot, a, b => mapR (!·) (isR a b)
  | _, _, _ => .bad

/-- the place of an index, as the layer has it -/
def ixN (n : Nat) (i : Int) : Option Nat := if 0 ≤ i then (if i < n then some i.toNat else none) else if -(n : Int) ≤ i then some (i + n).toNat else none
def atI {A : Type} (xs : List A) (i : Int) : Option A := (ixN xs.length i).bind fun j => xs[j]?
def ofO {A : Type} : Option A → R A
  | some a => .ok a
  | none => .bad
def idxR : D → D → R D
  | .lst xs, .int i => ofO (atI xs i)
  | .tup xs, .int i => ofO (atI xs i)
  | .str s, .int i => mapR (fun c => .str [c]) (ofO (atI s i))
  | .dct ks vs, k => if isKey k then ofO (dfind k ks vs) else .bad
  | _, _ => .bad

def sIx (n d : Nat) : Option Int → Nat
  | none => d
  | some i => if i < 0 then (i + n).toNat else min i.toNat n
def cut {A : Type} (xs : List A) (lo hi : Option Int) : List A := (xs.drop (sIx xs.length 0 lo)).take (sIx xs.length xs.length hi - sIx xs.length 0 lo)
def slR : D → Option Int → Option Int → R D
  | .lst xs, lo, hi => .ok (.lst (cut xs lo hi))
  | .tup xs, lo, hi => .ok (.tup (cut xs lo hi))
  | .str xs, lo, hi => .ok (.str (cut xs lo hi))
  | _, _, _ => .bad

/-- the codes of a list of texts -/
def strs? : List D → Option (List Tx)
  | [] => some []
  | .str s :: r => (strs? r).map (s :: ·)
  | _ :: _ => none
def ints? : List D → Option (List Int)
  | [] => some []
  | .int i :: r => (ints? r).map (i :: ·)
  | _ :: _ => none
def bls? : List D → Option (List Bool)
  | [] => some []
  | .bl b :: r => (bls? r).map (b :: ·)
  | _ :: _ => none

/-- the order of the machine's sort -/
def leD (a b : D) : Bool := PySem.W.dataLe false D.py a b
/-- what can be sorted: alike data, all tuples or none -/
def sortB (xs : List D) : Bool := D.plainL xs && xs.all (fun a => Nat.ble a.dep 60) && xs.all (fun a => xs.all fun b => PySem.W.alike a.py b.py) && (xs.all (fun a => match a with
    | .tup (_ :: _) => true
    | _ => false) || xs.all (fun a => match a with
    | .bl _ | .int _ | .str _ | .lst _ => true
    | _ => false))

/-- texts in rising order, none twice -/
def insT (x : Tx) : List Tx → List Tx
  | [] => [x]
  | y :: r => if x < y then x :: y :: r else if x = y then y :: r else y :: insT x r
def sortT (xs : List Tx) : List Tx := xs.foldr insT []

inductive Pr where
  | len | all | any | list | tuple | sorted | sortedSet | lenSet | isinst (T : String) | ord | int | str | sum | max | min | dict | sortedItems | values | ikeys | rangeL | zipL | zipT | maxD | stp
inductive Mt where
  | join | upper | lower | count
def tx0 (s : Tx) : PySem.Str := ⟨s.toArray⟩

def itemsR : D → R (List D)
  | .lst xs => .ok xs
  | .tup xs => .ok xs
  | .str s => .ok (s.map fun c => .str [c])
  | _ => .bad

def isT (T : String) : D → R Bool
  | .non => .ok (T == "NoneType")
  | .bl _ => .ok (T == "bool" || T == "int")
  | .int _ => .ok (T == "int")
  | .str _ => .ok (T == "str")
  | .lst _ => .ok (T == "list")
  | .tup _ => .ok (T == "tuple")
  | _ => .bad

/-! a sort that computes -/
def mgF {A : Type} (le : A → A → Bool) : Nat → List A → List A → List A
  | 0, xs, ys => xs ++ ys
  | _ + 1, [], ys => ys
  | _ + 1, x :: xs, [] => x :: xs
  | n + 1, x :: xs, y :: ys => if le x y then x :: mgF le n xs (y :: ys) else y :: mgF le n (x :: xs) ys
def msF {A : Type} (le : A → A → Bool) : Nat → List A → List A
  | 0, xs => xs
  | _ + 1, [] => []
  | _ + 1, [a] => [a]
  | n + 1, a :: b :: xs => mgF le (xs.length + 2) (msF le n ((a :: b :: xs).take ((xs.length + 2 + 1) / 2))) (msF le n ((a :: b :: xs).drop ((xs.length + 2 + 1) / 2)))
theorem mgF_eq {A : Type} (le : A → A → Bool) : ∀ (n : Nat) (xs ys : List A), xs.length + ys.length ≤ n → mgF le n xs ys = List.merge xs ys le
  | 0, xs, ys, h => by
    have h1 : xs = [] := List.eq_nil_of_length_eq_zero (by omega)
    have h2 : ys = [] := List.eq_nil_of_length_eq_zero (by omega)
    subst h1 h2
    simp [mgF]
  | n + 1, [], ys, h => by simp [mgF]
  | n + 1, x :: xs, [], h => by simp [mgF]
  | n + 1, x :: xs, y :: ys, h => by
    simp only [List.length_cons] at h
    rw [List.cons_merge_cons]
    show (if le x y then x :: mgF le n xs (y :: ys) else y :: mgF le n (x :: xs) ys) = _
    rw [mgF_eq le n xs (y :: ys) (by simp; omega), mgF_eq le n (x :: xs) ys (by simp; omega)]
theorem msF_eq {A : Type} (le : A → A → Bool) : ∀ (n : Nat) (xs : List A), xs.length ≤ n → msF le n xs = xs.mergeSort le
  | 0, xs, h => by
    have h1 : xs = [] := List.eq_nil_of_length_eq_zero (by omega)
    subst h1
    simp [msF]
  | n + 1, [], h => by simp [msF]
  | n + 1, [a], h => by simp [msF]
  | n + 1, a :: b :: xs, h => by
    simp only [List.length_cons] at h
    show mgF le (xs.length + 2) (msF le n ((a :: b :: xs).take ((xs.length + 2 + 1) / 2))) (msF le n ((a :: b :: xs).drop ((xs.length + 2 + 1) / 2))) = _
    have l1 : ((a :: b :: xs).take ((xs.length + 2 + 1) / 2)).length ≤ n := by rw [List.length_take]; simp; omega
    have l2 : ((a :: b :: xs).drop ((xs.length + 2 + 1) / 2)).length ≤ n := by rw [List.length_drop]; simp; omega
    rw [msF_eq le n _ l1, msF_eq le n _ l2, mgF_eq le]
    · rw [List.mergeSort, List.MergeSort.Internal.splitInTwo_fst, List.MergeSort.Internal.splitInTwo_snd]
      rfl
    · rw [List.length_mergeSort, List.length_mergeSort, List.length_take, List.length_drop]
      simp
      omega
def msD (xs : List D) : List D := msF leD xs.length xs
theorem msD_eq (xs : List D) : msD xs = xs.mergeSort leD := msF_eq leD _ xs (Nat.le_refl _)
/-- two gone through side by side -/
def zipR (x y : D) : R (List D) := (itemsR x).bind fun xs => (itemsR y).bind fun ys => if (xs.zip ys).all (fun p => !(p.1.isP2 && p.2.isP2)) then .ok ((xs.zip ys).map fun p => .tup [p.1, p.2]) else .bad
def prR : Pr → List D → R D
  | .len, [.str s] => .ok (.int s.length)
  | .len, [.lst s] => .ok (.int s.length)
  | .len, [.tup s] => .ok (.int s.length)
  | .len, [.dct ks _] => .ok (.int ks.length)
  | .rangeL, [.int n] => if decide (n ≤ 16777216) && decide (-16777216 ≤ n) then .ok (.lst ((List.range n.toNat).map fun (k : Nat) => .int (k : Int))) else .bad
  | .stp, [.lst xs, .int z] => if z = 1 then .ok (.lst xs) else if z = -1 then .ok (.lst xs.reverse) else .bad
  | .zipL, [x, y] => mapR .lst (zipR x y)
  | .zipT, [x, y] => mapR .tup (zipR x y)
  | .maxD, [.lst xs, .int z] => mapR (fun ns => .int ((ns.max?).getD z)) (ofO (ints? xs))
  | .all, [.lst xs] => mapR (fun bs => .bl (bs.all id)) (ofO (bls? xs))
  | .any, [.lst xs] => mapR (fun bs => .bl (bs.any id)) (ofO (bls? xs))
  | .list, [d] => mapR .lst (itemsR d)
  | .ikeys, [.dct ks _] => .ok (.lst ks)
  | .dict, [d] => dictR d
  | .values, [.dct _ vs] => .ok (.lst vs)
  | .sortedItems, [.dct ks vs] => if sortB (dpairs ks vs) then .ok (.lst ((dpairs ks vs).mergeSort leD)) else .bad
  | .sum, [.lst xs] => mapR (fun ns => .int ns.sum) (ofO (ints? xs))
  | .max, [.lst xs] => (ofO (ints? xs)).bind fun ns => ofO ((ns.max?).map D.int)
  | .min, [.lst xs] => (ofO (ints? xs)).bind fun ns => ofO ((ns.min?).map D.int)
  | .int, [.bl b] => .ok (.int (if b then 1 else 0))
  | .int, [.int i] => .ok (.int i)
  | .tuple, [.lst xs] => .ok (.tup xs)
  | .tuple, [.tup xs] => .ok (.tup xs)
  | .sortedSet, [d] => (itemsR d).bind fun xs => (ofO (strs? xs)).bind fun ss => if Nat.blt ss.length 4000 then .ok (.lst ((sortT ss).map .str)) else .bad
  | .isinst T, [d] => mapR .bl (isT T d)
  | .ord, [.str [c]] => .ok (.int (c : Nat))
  | .str, [.str s] => .ok (.str s)
  | .sorted, [.lst xs] => if sortB xs then .ok (.lst (msD xs)) else .bad
  | .sorted, [.tup xs] => if sortB xs then .ok (.lst (msD xs)) else .bad
  | .sorted, [.str s] => if sortB (s.map fun c => .str [c]) then .ok (.lst (msD (s.map fun c => .str [c]))) else .bad
  | .lenSet, [d] => (itemsR d).bind fun xs => (ofO (strs? xs)).bind fun ss => if Nat.blt ss.length 4000 then .ok (.int (sortT ss).length) else .bad
  | .str, [.int i] => if decide (0 ≤ i) && Nat.blt i.toNat 10000000000 then .ok (.str (PySem.Str.ofString (toString i)).cps.toList) else .bad
  | _, _ => .bad

/-- a part of an f-text -/
def fmtR : D → R Tx
  | .str s => .ok s
  | .int i => if decide (0 ≤ i) && Nat.blt i.toNat 10000000000 then .ok (PySem.Str.ofString (toString i)).cps.toList else .bad
  | _ => .bad
def okRecv : Mt → D → Bool
  | _, .str _ => true
  | _, _ => false
def joinR (s : Tx) (xs : List D) : R D := (ofO (strs? xs)).bind fun ss => if Nat.ble ((ss.map (·.length)).sum + ss.length * s.length) LIM then .ok (.str (TL.joinL s ss)) else .bad
def mtR : Mt → D → List D → R D
  | .join, .str s, [.lst xs] => joinR s xs
  | .join, .str s, [.tup xs] => joinR s xs
  | .upper, .str s, [] => if Nat.ble s.length 5000000 then .ok (.str (PySem.Txt.upper (tx0 s)).cps.toList) else .bad
  | .lower, .str s, [] => if Nat.ble s.length 5000000 then .ok (.str (PySem.Txt.lower (tx0 s)).cps.toList) else .bad
  | .count, .str a, [.str b] => .ok (.int (PySem.Txt.count (tx0 a) (tx0 b)))
  | _, _, _ => .bad

/-- l.count(x), l.index(x), s.index(c) -/
inductive Lm where | cnt | idx
def lmR : Lm → D → D → R D
  | .cnt, .lst xs, y => if y.flat && D.plainL xs then .ok (.int ((xs.countP fun z => z.eqv y : Nat) : Int)) else .bad
  | .idx, .lst xs, y => if y.flat && D.plainL xs && Nat.ble (D.depL xs) 60 then ofO ((xs.findIdx? fun z => z.eqv y).map fun (j : Nat) => D.int (j : Int)) else .bad
  | _, _, _ => .bad
def sidxR : D → D → R D
  | .str s, .str t => (match Builtin.Str.occurrences (tx0 s) (tx0 t) 0 (tx0 s).length 1 with
    | i :: _ => .ok (.int (i : Nat))
    | [] => .bad)
  | _, _ => .bad
/-- one text put for another in a text -/
def replR (y z : Tx) : D → R D
  | .str s => if Nat.ble (s.length + (s.length + 1) * z.length) LIM && Nat.ble (PySem.Txt.replace (tx0 s) (tx0 y) (tx0 z)).cps.toList.length LIM then .ok (.str (PySem.Txt.replace (tx0 s) (tx0 y) (tx0 z)).cps.toList) else .bad
  | _ => .bad
inductive Tg where | nm (i : Nat) | tp (is : List Nat)

mutual
inductive E where
  | var (i : Nat)
  | lit (d : D)
  | glo (x : Str) (d : D)
  | neg (a : E)
  | bin (op : Op2) (a b : E)
  | cmp (op : Cm) (a b : E)
  | cmp2 (o1 o2 : Cm) (a b c : E)
  | not (a : E)
  | and (es : Es)
  | or (es : Es)
  | ite (c a b : E)
  | tup (es : Es)
  | lst (es : Es)
  | idx (a b : E)
  | sl (a : E) (lo hi : Eo)
  | rev (a : E)
  | comp (elt : E) (tg : Tg) (it : Itr) (cond : Eo)
  | call (f : Nat) (es : Es)
  | prim (p : Pr) (es : Es)
  | meth (m : Mt) (o : E) (es : Es)
  | fstr (es : Es)
  | repl (o : E) (y z : Tx)
  | isx (cs : List Tx) (a : E) (x : Tx)
  | dnew
  | dget (o k : E)
  | dget2 (o k z : E)
  | lm (m : Lm) (o a : E)
  | sidx (o a : E)
  | two (m : Bool) (a b : E)
  | pur (a : E)
  | fld (cs : List Tx) (a : E) (f : Tx)
inductive Es where
  | nil
  | cons (e : E) (es : Es)
inductive Eo where
  | none
  | some (e : E)
inductive Itr where
  | seq (e : E)
  | range (e : E)
  | enum (e : E)
  | zip (a b : E)
end

abbrev Sl := List (Option D)
def get (ρ : Sl) (i : Nat) : R D := match ρ[i]? with
  | some (some d) => .ok d
  | _ => .bad
def setAll : List Nat → List D → Sl → Option Sl
  | [], [], ρ => some ρ
  | i :: is, d :: ds, ρ => setAll is ds (ρ.set i (some d))
  | _, _, _ => none
def bindTg : Tg → D → Sl → Option Sl
  | .nm i, d, ρ => some (ρ.set i (some d))
  | .tp is, .tup ds, ρ => setAll is ds ρ
  | .tp _, _, _ => none

/-- what is made of the items, an error or a hole spoils it -/
def compR (f : D → R (Option D)) : List D → R (List D)
  | [] => .ok []
  | x :: xs => match f x with
    | .ok (some y) => (match compR f xs with | .ok ys => .ok (y :: ys) | _ => .bad)
    | .ok none => compR f xs
    | _ => .bad
def intO : R D → R (Option Int)
  | .ok (.int i) => .ok (some i)
  | .ex c => .ex c
  | _ => .bad
def rangeR : D → R (List D)
  | .int n => if decide (n ≤ 16777216) && decide (-16777216 ≤ n) then .ok ((List.range n.toNat).map fun (k : Nat) => .int (k : Int)) else .bad
  | _ => .bad
/-- each with its number -/
def enumD (ds : List D) : List D := ds.mapIdx fun i d => .tup [.int (i : Nat), d]
def enumR : D → R (List D)
  | .lst ds => .ok (enumD ds)
  | .tup ds => .ok (enumD ds)
  | _ => .bad
/-- what is taken out of a list, and what is left -/
def popR (ys : List D) (k : Int) : Option (D × List D) := if Nat.blt k.natAbs 1000000 then (ixN ys.length k).bind fun m => (ys[m]?).map fun y => (y, ys.eraseIdx m) else none
/-- max(a, b), min(a, b) -/
def twoR : Bool → D → D → R D
  | true, .int i, .int j => .ok (.int (if j > i then j else i))
  | false, .int i, .int j => .ok (.int (if j < i then j else i))
  | _, _, _ => .bad
def D.isDct : D → Bool
  | .dct _ _ => true
  | _ => false
def D.isLst : D → Bool
  | .lst _ => true
  | _ => false
def D.isStr : D → Bool
  | .str _ => true
  | _ => false
def negR : D → R D
  | .int i => .ok (.int (-i))
  | _ => .bad

/-- a thing's own -/
def fldR (f : Tx) : List Tx → List D → Option D
  | n :: ns, w :: ws => if n = f then some w else fldR f ns ws
  | _, _ => none
def fldD (cs : List Tx) (f : Tx) : D → R D
  | .ins c ns vs => if cs.contains c then ofO (fldR f ns vs) else .bad
  | _ => .bad
mutual
def evE (c : Nat → List D → R D) : E → Sl → R D
  | .var i, ρ => get ρ i
  | .lit d, _ => .ok d
  | .glo _ d, _ => .ok d
  | .neg a, ρ => (evE c a ρ).bind negR
  | .bin op a b, ρ => (evE c a ρ).bind fun x => (evE c b ρ).bind fun y => op2 op x y
  | .cmp op a b, ρ => (evE c a ρ).bind fun x => (evE c b ρ).bind fun y => mapR .bl (cmpB op x y)
  | .cmp2 o1 o2 a b e, ρ => (evE c a ρ).bind fun x => (evE c b ρ).bind fun y => (cmpB o1 x y).bind fun k => if k then (evE c e ρ).bind fun z => mapR .bl (cmpB o2 y z) else .ok (.bl false)
  | .not a, ρ => ((evE c a ρ).bind noX).bind fun x => .ok (.bl (!x.truth))
  | .and es, ρ => evAnd c es ρ
  | .or es, ρ => evOr c es ρ
  | .ite t a b, ρ => ((evE c t ρ).bind noX).bind fun x => if x.truth then evE c a ρ else evE c b ρ
  | .tup es, ρ => (evEs c es ρ).bind fun ds => .ok (.tup ds)
  | .lst es, ρ => (evEs c es ρ).bind fun ds => .ok (.lst ds)
  | .idx a b, ρ => (evE c a ρ).bind fun x => (evE c b ρ).bind fun y => idxR x y
  | .sl a lo hi, ρ => (evE c a ρ).bind fun x => (evEo c lo ρ).bind fun l => (evEo c hi ρ).bind fun h => slR x l h
  | .rev a, ρ => (evE c a ρ).bind fun x => match x with
    | .lst xs => .ok (.lst xs.reverse)
    | _ => .bad
  | .comp elt tg it cond, ρ => (evI c it ρ).bind fun items => mapR .lst (compR (fun x => match bindTg tg x ρ with
      | none => .bad
      | some ρ' => (evC c cond ρ').bind fun k => if k then mapR some (evE c elt ρ') else .ok none) items)
  | .call f es, ρ => (evEs c es ρ).bind fun ds => c f ds
  | .prim p es, ρ => (evEs c es ρ).bind fun ds => prR p ds
  | .meth m o es, ρ => (evE c o ρ).bind fun x => if okRecv m x then (evEs c es ρ).bind fun ds => mtR m x ds else .bad
  | .fstr es, ρ => mapR .str (evF c es [] ρ)
  | .repl o y z, ρ => (evE c o ρ).bind (replR y z)
  | .isx cs a x, ρ => (evE c a ρ).bind fun d => mapR .bl (isX cs x d)
  | .dnew, _ => .ok (.dct [] [])
  | .dget o k, ρ => (evE c o ρ).bind fun d => if d.isDct then (evE c k ρ).bind fun y => dgetR d y .non else .bad
  | .dget2 o k z, ρ => (evE c o ρ).bind fun d => if d.isDct then (evE c k ρ).bind fun y => (evE c z ρ).bind fun w => dgetR d y w else .bad
  | .lm m o a, ρ => (evE c o ρ).bind fun d => if d.isLst then (evE c a ρ).bind fun y => lmR m d y else .bad
  | .sidx o a, ρ => (evE c o ρ).bind fun d => if d.isStr then (evE c a ρ).bind fun y => sidxR d y else .bad
  | .two m a b, ρ => (evE c a ρ).bind fun x => (evE c b ρ).bind fun y => twoR m x y
  | .pur a, ρ => (evE c a ρ).bind fun d => if d.noC then .ok d else .bad
  | .fld cs a f, ρ => (evE c a ρ).bind (fldD cs f)
def evEs (c : Nat → List D → R D) : Es → Sl → R (List D)
  | .nil, _ => .ok []
  | .cons e es, ρ => (evE c e ρ).bind fun d => (evEs c es ρ).bind fun ds => .ok (d :: ds)
def evF (c : Nat → List D → R D) : Es → Tx → Sl → R Tx
  | .nil, acc, _ => .ok acc
  | .cons e es, acc, ρ => (evE c e ρ).bind fun d => (fmtR d).bind fun t => if Nat.ble (acc.length + t.length) LIM then evF c es (acc ++ t) ρ else .bad
def evAnd (c : Nat → List D → R D) : Es → Sl → R D
  | .nil, _ => .bad
  | .cons e es, ρ => match es with
    | .nil => evE c e ρ
    | .cons _ _ => ((evE c e ρ).bind noX).bind fun x => if x.truth then evAnd c es ρ else .ok x
def evOr (c : Nat → List D → R D) : Es → Sl → R D
  | .nil, _ => .bad
  | .cons e es, ρ => match es with
    | .nil => evE c e ρ
    | .cons _ _ => ((evE c e ρ).bind noX).bind fun x => if x.truth then .ok x else evOr c es ρ
def evEo (c : Nat → List D → R D) : Eo → Sl → R (Option Int)
  | .none, _ => .ok none
  | .some e, ρ => intO (evE c e ρ)
/-- a clause's test -/
def evC (c : Nat → List D → R D) : Eo → Sl → R Bool
  | .none, _ => .ok true
  | .some e, ρ => mapR D.truth ((evE c e ρ).bind noX)
def evI (c : Nat → List D → R D) : Itr → Sl → R (List D)
  | .seq e, ρ => (evE c e ρ).bind itemsR
  | .range e, ρ => (evE c e ρ).bind rangeR
  | .enum e, ρ => (evE c e ρ).bind enumR
  | .zip a b, ρ => (evE c a ρ).bind fun x => (evE c b ρ).bind fun y => zipR x y
end

mutual
inductive S where
  | asg (i : Nat) (e : E)
  | asgT (is : List Nat) (e : E)
  | expr (e : E)
  | ret (e : E)
  | ife (c : E) (a b : Ss)
  | for (tg : Tg) (it : Itr) (body : Ss)
  | whl (fuel : Nat) (c : E) (body : Ss)
  | brk
  | ct
  | pass
  | raise (x : Str) (c : Tx)
  | app (i : Nat) (e : E)
  | ext (i : Nat) (e : E)
  | bad
  | par (i j u v : Nat)
  | appPop (i j : Nat) (e : E)
  | tryK (body : Ss) (ys : List Tx) (x : Tx) (i k : Nat)
  | tryV (body : Ss) (ys : List Tx) (x : Tx) (i : Nat)
  | sput (i : Nat) (k e : E)
  | dpop (i : Nat) (k : E)
  | rem (i : Nat) (e : E)
inductive Ss where
  | nil
  | cons (s : S) (ss : Ss)
end

inductive Fl where
  | nx (ρ : Sl)
  | ret (d : D)
  | brk (ρ : Sl)
  | ct (ρ : Sl)
  | ex (c : Tx) (ρ : Sl)
  | bad

def forL (f : D → Sl → Fl) : List D → Sl → Fl
  | [], ρ => .nx ρ
  | x :: xs, ρ => match f x ρ with
    | .nx ρ' => forL f xs ρ'
    | .ct ρ' => forL f xs ρ'
    | .brk ρ' => .nx ρ'
    | r => r
def whlL (t : Sl → R Bool) (f : Sl → Fl) : Nat → Sl → Fl
  | 0, _ => .bad
  | n + 1, ρ => match t ρ with
    | .ok true => (match f ρ with
      | .nx ρ' => whlL t f n ρ'
      | .ct ρ' => whlL t f n ρ'
      | .brk ρ' => .nx ρ'
      | r => r)
    | .ok false => .nx ρ
    | .ex c => .ex c ρ
    | .bad => .bad
/-- on with a value -/
def thenS {A : Type} (ρ : Sl) : R A → (A → Fl) → Fl
  | .ok a, f => f a
  | .ex c, _ => .ex c ρ
  | .bad, _ => .bad
@[simp] theorem thenS_ok {A : Type} (ρ : Sl) (a : A) (f : A → Fl) : thenS ρ (.ok a) f = f a := rfl
@[simp] theorem thenS_ex {A : Type} (ρ : Sl) (c : Tx) (f : A → Fl) : thenS ρ (.ex c) f = .ex c ρ := rfl
@[simp] theorem thenS_bad {A : Type} (ρ : Sl) (f : A → Fl) : thenS ρ .bad f = .bad := rfl

/-- o[y] = d -/
def putR : D → D → D → Option D
  | .lst xs, .int j, d => (ixN xs.length j).map fun m => .lst (xs.set m d)
  | .dct ks vs, y, d => if isKey y && Nat.blt ks.length LIM then some (.dct (dputK y ks) (dputV y d ks vs)) else none
  | _, _, _ => none

mutual
def evS (c : Nat → List D → R D) : S → Sl → Fl
  | .asg i e, ρ => thenS ρ (evE c e ρ) fun d => .nx (ρ.set i (some d))
  | .asgT is e, ρ => thenS ρ (evE c e ρ) fun d => match bindTg (.tp is) d ρ with
    | some ρ' => .nx ρ'
    | none => .bad
  | .expr e, ρ => thenS ρ (evE c e ρ) fun _ => .nx ρ
  | .ret e, ρ => thenS ρ (evE c e ρ) fun d => .ret d
  | .ife t a b, ρ => thenS ρ ((evE c t ρ).bind noX) fun x => if x.truth then evSs c a ρ else evSs c b ρ
  | .for tg it body, ρ => thenS ρ (evI c it ρ) fun items => forL (fun x ρ' => match bindTg tg x ρ' with
    | some ρ'' => evSs c body ρ''
    | none => .bad) items ρ
  | .whl n t body, ρ => whlL (fun ρ' => mapR D.truth ((evE c t ρ').bind noX)) (evSs c body) n ρ
  | .brk, ρ => .brk ρ
  | .ct, ρ => .ct ρ
  | .pass, ρ => .nx ρ
  | .raise _ x, ρ => .ex x ρ
  | .app i e, ρ => thenS ρ (get ρ i) fun o => match o with
    | .lst xs => thenS ρ (evE c e ρ) fun d => if Nat.blt xs.length LIM then .nx (ρ.set i (some (.lst (xs ++ [d])))) else .bad
    | _ => .bad
  | .ext i e, ρ => thenS ρ (get ρ i) fun o => match o with
    | .lst xs => thenS ρ (evE c e ρ) fun d => match d with
      | .lst ys => if Nat.ble (xs.length + ys.length) LIM then .nx (ρ.set i (some (.lst (xs ++ ys)))) else .bad
      | _ => .bad
    | _ => .bad
  | .bad, _ => .bad
  | .par i j u v, ρ => thenS ρ (get ρ u) fun x => thenS ρ (get ρ v) fun y => .nx ((ρ.set i (some x)).set j (some y))
  | .appPop i j e, ρ => thenS ρ (get ρ i) fun o => thenS ρ (get ρ j) fun o2 => match o, o2 with
    | .lst xs, .lst ys => thenS ρ (evE c e ρ) fun d => match d with
      | .int k => (match popR ys k with
        | some (y, zs) => if Nat.blt xs.length LIM then .nx ((ρ.set j (some (.lst zs))).set i (some (.lst (xs ++ [y])))) else .bad
        | none => .bad)
      | _ => .bad
    | _, _ => .bad
  | .tryK b ys x i k, ρ => (match evSs c b ρ with
    | .ex y ρ' => if ys.contains y then (if subX y x then .nx ((ρ'.set k (some (.exc y))).set i none) else .ex y ρ') else .bad
    | r => r)
  | .tryV b ys x i, ρ => (match evSs c b ρ with
    | .ex y ρ' => if ys.contains y then (if subX y x then thenS ρ' (get ρ' i) .ret else .ex y ρ') else .bad
    | r => r)
  | .sput i k e, ρ => thenS ρ (evE c e ρ) fun d => thenS ρ (get ρ i) fun o => thenS ρ (evE c k ρ) fun y => (match putR o y d with
    | some o' => .nx (ρ.set i (some o'))
    | none => .bad)
  | .dpop i k, ρ => thenS ρ (get ρ i) fun o => (match o with
    | .dct ks vs => thenS ρ (evE c k ρ) fun y => if isKey y && dhas y ks then .nx (ρ.set i (some (.dct (ddropK y ks) (ddropV y ks vs)))) else .bad
    | _ => .bad)
  | .rem i e, ρ => thenS ρ (get ρ i) fun o => (match o with
    | .lst xs => thenS ρ (evE c e ρ) fun y => if y.flat && D.plainL xs then (match xs.findIdx? fun z => z.eqv y with
      | some j => .nx (ρ.set i (some (.lst (xs.eraseIdx j))))
      | none => .bad) else .bad
    | _ => .bad)
def evSs (c : Nat → List D → R D) : Ss → Sl → Fl
  | .nil, ρ => .nx ρ
  | .cons s ss, ρ => match evS c s ρ with
    | .nx ρ' => evSs c ss ρ'
    | r => r
end

/-! ### the second language: things that change stand at places -/
abbrev Om := List D
mutual
/-- no place in it, looking through tuples -/
def D.pl : D → Bool
  | .loc _ => false
  | .tup xs => D.plL xs
  | .non | .bl _ | .int _ | .str _ | .lst _ | .dct _ _ | .exc _ | .ins _ _ _ => true
def D.plL : List D → Bool
  | [] => true
  | x :: xs => x.pl && D.plL xs
end
def mapO (f : D → Option D) : List D → Option (List D)
  | [] => some []
  | x :: xs => match f x with
    | some y => (mapO f xs).map (y :: ·)
    | none => none
/-- what is seen there -/
def snap : Nat → Om → D → Option D
  | 0, _, _ => none
  | k + 1, Ω, d => if d.pl then some d else match d with
    | .loc l => (match Ω[l]? with
      | some (.lst ws) => (mapO (snap k Ω) ws).map .lst
      | some (.dct ks ws) => (mapO (snap k Ω) ws).map (.dct ks)
      | some (.ins c ns ws) => (mapO (snap k Ω) ws).map (.ins c ns)
      | _ => none)
    | .tup ws => (mapO (snap k Ω) ws).map .tup
    | _ => none
mutual
/-- lists, dicts, tuples of what has none -/
def D.own2 : D → Bool
  | .lst xs => D.own2L xs
  | .tup xs => D.own2L xs
  | .dct _ vs => D.own2L vs
  | .non | .bl _ | .int _ | .str _ | .exc _ => true
  | .loc _ | .ins _ _ _ => false
def D.own2L : List D → Bool
  | [] => true
  | x :: xs => x.own2 && D.own2L xs
end
/-- what is handed back: all containers in it stand at places -/
def snapR : Nat → Om → D → Option D
  | 0, _, _ => none
  | k + 1, Ω, d => if d.noC then some d else match d with
    | .loc l => (match Ω[l]? with
      | some (.lst ws) => (mapO (snapR k Ω) ws).map .lst
      | some (.dct ks ws) => (mapO (snapR k Ω) ws).map (.dct ks)
      | _ => none)
    | .tup ws => (mapO (snapR k Ω) ws).map .tup
    | _ => none
def seen (Ω : Om) (ρ : Sl) : Sl := ρ.map fun o => o.bind (snap 8 Ω)
def pures (ρ : Sl) : Sl := ρ.map fun o => o.bind fun d => if d.pl then some d else none
mutual
inductive E2 where
  | pu (e : E)
  | rd (e : E)
  | nw (e : E)
  | vr (i : Nat)
  | at (o k : E2)
  | fl (cs : List Tx) (o : E2) (f : Tx)
  | cl (f : Nat) (es : Es2)
  | mt (cn : Tx) (f : Nat) (m : Tx) (o : E2) (es : Es2)
  | mk (c : Tx) (f : Nat) (es : Es2)
  | tp (es : Es2)
  | ls (es : Es2)
  | cp (op : Cm) (a b : E2)
  | pp (o : E2)
  | nt (a : E2)
  | orr (a b : E2)
inductive Es2 where
  | nil
  | cons (e : E2) (es : Es2)
end
inductive XR (A : Type) where
  | ok (a : A) (Ω : Om)
  | ex (c : Tx) (Ω : Om)
  | bad
def XR.bind {A B : Type} : XR A → (A → Om → XR B) → XR B
  | .ok a Ω, f => f a Ω
  | .ex c Ω, _ => .ex c Ω
  | .bad, _ => .bad
@[simp] theorem XR.ok_bind {A B : Type} (a : A) (Ω : Om) (f : A → Om → XR B) : (XR.ok a Ω).bind f = f a Ω := rfl
@[simp] theorem XR.ex_bind {A B : Type} (c : Tx) (Ω : Om) (f : A → Om → XR B) : (XR.ex c Ω : XR A).bind f = .ex c Ω := rfl
@[simp] theorem XR.bad_bind {A B : Type} (f : A → Om → XR B) : (XR.bad : XR A).bind f = .bad := rfl
def liftR {A : Type} (Ω : Om) : R A → XR A
  | .ok a => .ok a Ω
  | .ex c => .ex c Ω
  | .bad => .bad
@[simp] theorem liftR_ok {A : Type} (Ω : Om) (a : A) : liftR Ω (.ok a) = .ok a Ω := rfl
@[simp] theorem liftR_ex {A : Type} (Ω : Om) (x : Tx) : liftR Ω (.ex x : R A) = .ex x Ω := rfl
@[simp] theorem liftR_bad {A : Type} (Ω : Om) : liftR Ω (.bad : R A) = .bad := rfl
/-- what a def of the second language tells -/
def decX : R D → XR D
  | .ok (.tup [d, .lst Ω]) => .ok d Ω
  | .ok (.tup [.exc x, .lst Ω, .non]) => .ex x Ω
  | _ => .bad
def encX : XR D → R D
  | .ok d Ω => .ok (.tup [d, .lst Ω])
  | .ex x Ω => .ok (.tup [.exc x, .lst Ω, .non])
  | .bad => .bad
@[simp] theorem decX_encX (x : XR D) : decX (encX x) = x := by cases x <;> rfl
def atR (Ω : Om) : D → D → R D
  | .loc l, y => (match Ω[l]?, y with
    | some (.lst ws), .int i => ofO (atI ws i)
    | some (.dct ks ws), y => if isKey y then ofO (dfind y ks ws) else .bad
    | _, _ => .bad)
  | .tup ws, .int i => ofO (atI ws i)
  | _, _ => .bad
def flR (Ω : Om) (cs : List Tx) (f : Tx) : D → R D
  | .loc l => (match Ω[l]? with
    | some (.ins c ns ws) => if cs.contains c then ofO (fldR f ns ws) else .bad
    | _ => .bad)
  | _ => .bad
def newR : R D → Om → XR D
  | .ok (.lst ds), Ω => if D.noCL ds then .ok (.loc Ω.length) (Ω ++ [.lst ds]) else .bad
  | .ok (.dct ks vs), Ω => if D.noCL vs then .ok (.loc Ω.length) (Ω ++ [.dct ks vs]) else .bad
  | .ex x, Ω => .ex x Ω
  | _, _ => .bad
def popR2 (Ω : Om) : D → XR D
  | .loc l => (match Ω[l]? with
    | some (.lst ws) => (match ws.getLast? with
      | some w => .ok w (Ω.set l (.lst ws.dropLast))
      | none => .bad)
    | _ => .bad)
  | _ => .bad
/-- the def of a thing's own class -/
def mtOk (Ω : Om) (cn m : Tx) : D → Bool
  | .loc l => (match Ω[l]? with
    | some (.ins c ns _) => decide (c = cn) && !ns.contains m
    | _ => false)
  | _ => false
def mkR (l : Nat) : XR D → XR D
  | .ok .non Ω => .ok (.loc l) Ω
  | .ex x Ω => .ex x Ω
  | _ => .bad
mutual
def ev2 (c : Nat → List D → R D) : E2 → Sl → Om → XR D
  | .pu e, ρ, Ω => liftR Ω (evE c e (pures ρ))
  | .rd e, ρ, Ω => liftR Ω ((evE c e (seen Ω ρ)).bind fun d => if d.noC then .ok d else .bad)
  | .nw e, ρ, Ω => newR (evE c e (seen Ω ρ)) Ω
  | .vr i, ρ, Ω => liftR Ω (get ρ i)
  | .at o k, ρ, Ω => (ev2 c o ρ Ω).bind fun x Ω1 => (ev2 c k ρ Ω1).bind fun y Ω2 => liftR Ω2 (atR Ω2 x y)
  | .fl cs o f, ρ, Ω => (ev2 c o ρ Ω).bind fun x Ω1 => liftR Ω1 (flR Ω1 cs f x)
  | .cl f es, ρ, Ω => (evs2 c es ρ Ω).bind fun ds Ω1 => decX (c f (.lst Ω1 :: ds))
  | .mt cn f m o es, ρ, Ω => (ev2 c o ρ Ω).bind fun x Ω1 => if mtOk Ω1 cn m x then (evs2 c es ρ Ω1).bind fun ds Ω2 => decX (c f (.lst Ω2 :: x :: ds)) else .bad
  | .mk n f es, ρ, Ω => (evs2 c es ρ Ω).bind fun ds Ω1 => mkR Ω1.length (decX (c f (.lst (Ω1 ++ [.ins n [] []]) :: .loc Ω1.length :: ds)))
  | .tp es, ρ, Ω => (evs2 c es ρ Ω).bind fun ds Ω1 => .ok (.tup ds) Ω1
  | .ls es, ρ, Ω => (evs2 c es ρ Ω).bind fun ds Ω1 => .ok (.loc Ω1.length) (Ω1 ++ [.lst ds])
  | .cp op a b, ρ, Ω => (ev2 c a ρ Ω).bind fun x Ω1 => (ev2 c b ρ Ω1).bind fun y Ω2 => if x.pl && y.pl then liftR Ω2 (mapR .bl (cmpB op x y)) else .bad
  | .pp o, ρ, Ω => (ev2 c o ρ Ω).bind fun x Ω1 => popR2 Ω1 x
  | .nt a, ρ, Ω => (ev2 c a ρ Ω).bind fun x Ω1 => match x with
    | .bl b => .ok (.bl (!b)) Ω1
    | _ => .bad
  | .orr a b, ρ, Ω => (ev2 c a ρ Ω).bind fun x Ω1 => match x with
    | .bl true => .ok (.bl true) Ω1
    | .bl false => ev2 c b ρ Ω1
    | _ => .bad
def evs2 (c : Nat → List D → R D) : Es2 → Sl → Om → XR (List D)
  | .nil, _, Ω => .ok [] Ω
  | .cons e es, ρ, Ω => (ev2 c e ρ Ω).bind fun d Ω1 => (evs2 c es ρ Ω1).bind fun ds Ω2 => .ok (d :: ds) Ω2
end
mutual
inductive S2 where
  | asg (i : Nat) (e : E2)
  | asgT (is : List Nat) (e : E2)
  | ex (e : E2)
  | ret (e : E2)
  | ife (t : E) (a b : Ss2)
  | ifx (t : E2) (a b : Ss2)
  | for (tg : Tg) (it : Itr) (body : Ss2)
  | forR (tg : Tg) (e : E) (body : Ss2)
  | whl (fuel : Nat) (t : E) (body : Ss2)
  | app (o e : E2)
  | put (o k e : E2)
  | fset (cs : List Tx) (o : E2) (f : Tx) (e : E2)
  | whx (fuel : Nat) (t : E2) (body : Ss2)
  | raise (x : Str) (c : Tx)
  | brk
  | ct
  | pass
  | tryK (body : Ss2) (ys : List Tx) (x : Tx) (i k : Nat)
inductive Ss2 where
  | nil
  | cons (s : S2) (ss : Ss2)
end
inductive Fl2 where
  | nx (ρ : Sl) (Ω : Om)
  | ret (d : D) (Ω : Om)
  | brk (ρ : Sl) (Ω : Om)
  | ct (ρ : Sl) (Ω : Om)
  | ex (c : Tx) (ρ : Sl) (Ω : Om)
  | bad
def thenX {A : Type} (ρ : Sl) : XR A → (A → Om → Fl2) → Fl2
  | .ok a Ω, f => f a Ω
  | .ex c Ω, _ => .ex c ρ Ω
  | .bad, _ => .bad
@[simp] theorem thenX_ok {A : Type} (ρ : Sl) (a : A) (Ω : Om) (f : A → Om → Fl2) : thenX ρ (.ok a Ω) f = f a Ω := rfl
@[simp] theorem thenX_ex {A : Type} (ρ : Sl) (c : Tx) (Ω : Om) (f : A → Om → Fl2) : thenX ρ (.ex c Ω) f = .ex c ρ Ω := rfl
@[simp] theorem thenX_bad {A : Type} (ρ : Sl) (f : A → Om → Fl2) : thenX ρ .bad f = .bad := rfl
def forL2 (f : D → Sl → Om → Fl2) : List D → Sl → Om → Fl2
  | [], ρ, Ω => .nx ρ Ω
  | x :: xs, ρ, Ω => match f x ρ Ω with
    | .nx ρ' Ω' => forL2 f xs ρ' Ω'
    | .ct ρ' Ω' => forL2 f xs ρ' Ω'
    | .brk ρ' Ω' => .nx ρ' Ω'
    | r => r
def whlL2 (t : Sl → Om → R Bool) (f : Sl → Om → Fl2) : Nat → Sl → Om → Fl2
  | 0, _, _ => .bad
  | n + 1, ρ, Ω => match t ρ Ω with
    | .ok true => (match f ρ Ω with
      | .nx ρ' Ω' => whlL2 t f n ρ' Ω'
      | .ct ρ' Ω' => whlL2 t f n ρ' Ω'
      | .brk ρ' Ω' => .nx ρ' Ω'
      | r => r)
    | .ok false => .nx ρ Ω
    | .ex c => .ex c ρ Ω
    | .bad => .bad
def whxL2 (t : Sl → Om → XR D) (f : Sl → Om → Fl2) : Nat → Sl → Om → Fl2
  | 0, _, _ => .bad
  | n + 1, ρ, Ω => match t ρ Ω with
    | .ok (.bl true) Ω0 => (match f ρ Ω0 with
      | .nx ρ' Ω' => whxL2 t f n ρ' Ω'
      | .ct ρ' Ω' => whxL2 t f n ρ' Ω'
      | .brk ρ' Ω' => .nx ρ' Ω'
      | r => r)
    | .ok (.bl false) Ω0 => .nx ρ Ω0
    | .ex c Ω0 => .ex c ρ Ω0
    | _ => .bad
def isL2 (Ω : Om) : D → Bool
  | .loc l => (match Ω[l]? with
    | some (.lst _) => true
    | _ => false)
  | _ => false
def appR2 (Ω : Om) : D → D → Option Om
  | .loc l, d => (match Ω[l]? with
    | some (.lst ws) => if Nat.blt ws.length LIM then some (Ω.set l (.lst (ws ++ [d]))) else none
    | _ => none)
  | _, _ => none
def putR2 (Ω : Om) : D → D → D → Option Om
  | .loc l, y, d => (match Ω[l]? with
    | some o => (putR o y d).map fun o' => Ω.set l o'
    | none => none)
  | _, _, _ => none
def putFd (f : Tx) (d : D) : List Tx → List D → List D
  | n :: ns, w :: ws => if n = f then d :: ws else w :: putFd f d ns ws
  | _, _ => [d]
def fsetR2 (Ω : Om) (cs : List Tx) (f : Tx) : D → D → Option Om
  | .loc l, d => (match Ω[l]? with
    | some (.ins c ns ws) => if Nat.blt ns.length 900 && cs.contains c then some (Ω.set l (.ins c (if ns.contains f then ns else ns ++ [f]) (putFd f d ns ws))) else none
    | _ => none)
  | _, _ => none
def nxO (ρ : Sl) : Option Om → Fl2
  | some Ω => .nx ρ Ω
  | none => .bad
@[simp] theorem nxO_some (ρ : Sl) (Ω : Om) : nxO ρ (some Ω) = .nx ρ Ω := rfl
@[simp] theorem nxO_none (ρ : Sl) : nxO ρ none = .bad := rfl
/-- what is gone through: a new list, without containers in it -/
def newL : R D → R (List D)
  | .ok (.lst ds) => if D.noCL ds then .ok ds else .bad
  | .ex x => .ex x
  | _ => .bad
def tstE (c : Nat → List D → R D) (t : E) (ρ : Sl) (Ω : Om) : R Bool := mapR D.truth ((evE c t (seen Ω ρ)).bind noX)
mutual
def evS2 (c : Nat → List D → R D) : S2 → Sl → Om → Fl2
  | .asg i e, ρ, Ω => thenX ρ (ev2 c e ρ Ω) fun d Ω1 => .nx (ρ.set i (some d)) Ω1
  | .asgT is e, ρ, Ω => thenX ρ (ev2 c e ρ Ω) fun d Ω1 => match bindTg (.tp is) d ρ with
    | some ρ' => .nx ρ' Ω1
    | none => .bad
  | .ex e, ρ, Ω => thenX ρ (ev2 c e ρ Ω) fun _ Ω1 => .nx ρ Ω1
  | .ret e, ρ, Ω => thenX ρ (ev2 c e ρ Ω) fun d Ω1 => .ret d Ω1
  | .ife t a b, ρ, Ω => thenX ρ (liftR Ω (tstE c t ρ Ω)) fun k _ => if k then evSs2 c a ρ Ω else evSs2 c b ρ Ω
  | .ifx t a b, ρ, Ω => thenX ρ (ev2 c t ρ Ω) fun d Ω1 => match d with
    | .bl k => if k then evSs2 c a ρ Ω1 else evSs2 c b ρ Ω1
    | _ => .bad
  | .for tg it body, ρ, Ω => thenX ρ (liftR Ω (evI c it (pures ρ))) fun items _ => forL2 (fun x ρ' Ω' => match bindTg tg x ρ' with
    | some ρ'' => evSs2 c body ρ'' Ω'
    | none => .bad) items ρ Ω
  | .forR tg e body, ρ, Ω => thenX ρ (liftR Ω (newL (evE c e (seen Ω ρ)))) fun items _ => forL2 (fun x ρ' Ω' => match bindTg tg x ρ' with
    | some ρ'' => evSs2 c body ρ'' Ω'
    | none => .bad) items ρ Ω
  | .whl n t body, ρ, Ω => whlL2 (tstE c t) (evSs2 c body) n ρ Ω
  | .app o e, ρ, Ω => thenX ρ (ev2 c o ρ Ω) fun x Ω1 => if isL2 Ω1 x then thenX ρ (ev2 c e ρ Ω1) fun d Ω2 => nxO ρ (appR2 Ω2 x d) else .bad
  | .put o k e, ρ, Ω => thenX ρ (ev2 c e ρ Ω) fun d Ω1 => thenX ρ (ev2 c o ρ Ω1) fun x Ω2 => thenX ρ (ev2 c k ρ Ω2) fun y Ω3 => nxO ρ (putR2 Ω3 x y d)
  | .fset cs o f e, ρ, Ω => thenX ρ (ev2 c e ρ Ω) fun d Ω1 => thenX ρ (ev2 c o ρ Ω1) fun x Ω2 => nxO ρ (fsetR2 Ω2 cs f x d)
  | .whx n t body, ρ, Ω => whxL2 (ev2 c t) (evSs2 c body) n ρ Ω
  | .raise _ x, ρ, Ω => .ex x ρ Ω
  | .brk, ρ, Ω => .brk ρ Ω
  | .ct, ρ, Ω => .ct ρ Ω
  | .pass, ρ, Ω => .nx ρ Ω
  | .tryK b ys x i k, ρ, Ω => (match evSs2 c b ρ Ω with
    | .ex y ρ' Ω' => if ys.contains y then (if subX y x then .nx ((ρ'.set k (some (.exc y))).set i none) Ω' else .ex y ρ' Ω') else .bad
    | r => r)
def evSs2 (c : Nat → List D → R D) : Ss2 → Sl → Om → Fl2
  | .nil, ρ, Ω => .nx ρ Ω
  | .cons s ss, ρ, Ω => match evS2 c s ρ Ω with
    | .nx ρ' Ω' => evSs2 c ss ρ' Ω'
    | r => r
end
/-- the end of a def of the second language -/
def finX : Fl2 → XR D
  | .nx _ Ω => .ok .non Ω
  | .ret d Ω => .ok d Ω
  | .ex x _ Ω => .ex x Ω
  | _ => .bad
def finP : XR D → R D
  | .ok d Ω => ofO (snapR 8 Ω d)
  | .ex x _ => .ex x
  | .bad => .bad

/-- a def: how many names, how many parameters, its body, the slots that it changes in place, whether what it hands back is new -/
structure Fn where
  n : Nat
  ps : Nat
  own : List Nat
  fr : Bool
  body : Ss
  two : Option (Bool × Ss2)

/-- called by places -/
def Fn.store (f : Fn) : Bool := match f.two with
  | some (true, _) => true
  | _ => false
def runFn1 (c : Nat → List D → R D) (f : Fn) (ds : List D) : R D :=
  if ds.length = f.ps then
    match evSs c f.body (ds.map some ++ List.replicate (f.n - f.ps) none) with
    | .nx _ => .ok .non
    | .ret d => .ok d
    | .ex x _ => .ex x
    | _ => .bad
  else .bad
/-- all of the second language: by places, and as data -/
def runW (c : Nat → List D → R D) (f : Fn) (b : Ss2) (ds : List D) (Ω : Om) : XR D :=
  if ds.length = f.ps then finX (evSs2 c b (ds.map some ++ List.replicate (f.n - f.ps) none) Ω) else .bad
def runFn (c : Nat → List D → R D) (f : Fn) (ds : List D) : R D :=
  match f.two with
  | none => runFn1 c f ds
  | some (false, b) => finP (runW c f b ds [])
  | some (true, b) => (match ds with
    | .lst Ω :: es => encX (runW c f b es Ω)
    | _ => .bad)
def callN (T : Nat → Option Fn) : Nat → Nat → List D → R D
  | 0, _, _ => .bad
  | n + 1, f, ds => match T f with
    | some fn => runFn (callN T n) fn ds
    | none => .bad
end Pw

/-! text PwB -/
/-! how data stand in the abstract heap -/
namespace Pw
open PySem PySem.Spec PyProof.Rows L2

abbrev tx (s : Tx) : Str := ⟨s.toArray⟩

def tupOb (its : List Value) : Obj := { cls := .type "tuple", data := .seq its.toArray }
/-- a tuple whose object is known to have no dict -/
def KnT (K : PySem.W.Frag) (H : Hp) (a : Addr) (xs : List V) : Prop := (∃ o, H a = some (.frz o (.tup xs)) ∧ o.dict = none) ∨
  ∃ (o : Obj) (its : Array Value) (n : Nat), K.lookup a = some o ∧ o.cls = .type "tuple" ∧ o.dict = none ∧ o.data = .seq its n ∧ its.size ≤ sizeLine ∧ Vals xs its.toList
def SqP (K : PySem.W.Frag) (H : Hp) (ds : List D) (a : Addr) (xs : List V) : Prop := SqT K H a xs ∧ (prs ds = true → KnT K H a xs)
def kD : Key → D
  | .inl i => .int i
  | .inr x => .str x.cps.toList
/-- a caught error of the class named c -/
def exO (K : PySem.W.Frag) (c : Tx) (a : Addr) : HO := .ext fun h => ∃ o vs, h.get? a = some o ∧ o.cls = .ref (He.ga K (tx c)) ∧ o.dict = none ∧ o.data = .fields vs
/-- a list, a dict -/
def Con : HO → Prop
  | .lst _ => True
  | .dK _ => True
  | _ => False
mutual
/-- v stands for d; no list of it is one of Z -/
def Rp (K : PySem.W.Frag) (Z : Addr → Prop) (H : Hp) : D → V → Prop
  | .non, v => v = .non
  | .bl b, v => v = .bl b
  | .int i, v => v = .int i
  | .str s, v => v = .str (tx s) ∧ s.length ≤ sizeLine
  | .lst ds, v => ∃ a xs, v = .ref a ∧ Rd H a (.lst xs) ∧ ¬ Z a ∧ RpL K Z H ds xs
  | .tup ds, v => ∃ a xs, v = .ref a ∧ SqP K H ds a xs ∧ RpL K Z H ds xs
  | .dct ks vs, v => ∃ a kvs, v = .ref a ∧ Rd H a (.dK kvs) ∧ ¬ Z a ∧ ks = kvs.map (fun p => kD p.1) ∧ (∀ t, D.str t ∈ ks → t.length ≤ sizeLine) ∧ RpL K Z H vs (kvs.map fun p => p.2)
  | .exc c, v => ∃ a, v = .ref a ∧ H a = some (exO K c a)
  | .loc _, _ => False
  | .ins c ns vs, v => ∃ a dx fs, v = .ref a ∧ H a = some (.ins (He.ga K (tx c)) dx fs) ∧ ¬ Z a ∧ ns = fs.map (fun p => p.1.cps.toList) ∧ RpL K Z H vs (fs.map fun p => p.2)
def RpL (K : PySem.W.Frag) (Z : Addr → Prop) (H : Hp) : List D → List V → Prop
  | [], xs => xs = []
  | d :: ds, xs => ∃ v vs, xs = v :: vs ∧ Rp K Z H d v ∧ RpL K Z H ds vs
end

/-- as Rp, but the list itself may be one of Z -/
def RpR (K : PySem.W.Frag) (Z : Addr → Prop) (H : Hp) : D → V → Prop
  | .lst ds, v => ∃ a xs, v = .ref a ∧ Rd H a (.lst xs) ∧ RpL K Z H ds xs
  | .non, v => Rp K Z H .non v
  | .bl b, v => Rp K Z H (.bl b) v
  | .int i, v => Rp K Z H (.int i) v
  | .str s, v => Rp K Z H (.str s) v
  | .tup ds, v => Rp K Z H (.tup ds) v
  | .dct ks vs, v => ∃ a kvs, v = .ref a ∧ Rd H a (.dK kvs) ∧ ks = kvs.map (fun p => kD p.1) ∧ (∀ t, D.str t ∈ ks → t.length ≤ sizeLine) ∧ RpL K Z H vs (kvs.map fun p => p.2)
  | .exc c, v => Rp K Z H (.exc c) v
  | .loc l, v => Rp K Z H (.loc l) v
  | .ins c ns vs, v => Rp K Z H (.ins c ns vs) v

section
variable {K : PySem.W.Frag} {Z Z' : Addr → Prop} {H H' : Hp}

theorem Rp.relax {d : D} {v : V} (h : Rp K Z H d v) : RpR K Z H d v := by
  cases d with
  | lst ds =>
    obtain ⟨a, xs, e, r, _, q⟩ := h
    exact ⟨a, xs, e, r, q⟩
  | dct ks vs =>
    obtain ⟨a, xs, e, r, _, q⟩ := h
    exact ⟨a, xs, e, r, q⟩
  | _ => exact h

/-- what stands for data goes from one heap to another -/
structure Mv (K : PySem.W.Frag) (Z Z' : Addr → Prop) (H H' : Hp) : Prop where
  i : ∀ b C dx fs, H b = some (.ins C dx fs) → ¬ Z b → H' b = some (.ins C dx fs) ∧ ¬ Z' b
  t : ∀ b xs, SqT K H b xs → SqT K H' b xs
  n : ∀ b xs, KnT K H b xs → KnT K H' b xs
  l : ∀ b u, Con u → Rd H b u → ¬ Z b → Rd H' b u ∧ ¬ Z' b
  e : ∀ b c, H b = some (exO K c b) → H' b = some (exO K c b)
mutual
theorem Rp.to (m : Mv K Z Z' H H') : ∀ (d : D) (v : V), Rp K Z H d v → Rp K Z' H' d v
  | .non, _, h => h
  | .bl _, _, h => h
  | .int _, _, h => h
  | .str _, _, h => h
  | .lst ds, v, h => by
    obtain ⟨a, xs, e, r, z, q⟩ := h
    obtain ⟨r', z'⟩ := m.l a (.lst xs) trivial r z
    exact ⟨a, xs, e, r', z', RpL.to m ds xs q⟩
  | .tup ds, v, h => by
    obtain ⟨a, xs, e, r, q⟩ := h
    exact ⟨a, xs, e, ⟨m.t a xs r.1, fun z => m.n a xs (r.2 z)⟩, RpL.to m ds xs q⟩
  | .dct ks ds, v, h => by
    obtain ⟨a, kvs, e, r, z, ek, el, q⟩ := h
    obtain ⟨r', z'⟩ := m.l a (.dK kvs) trivial r z
    exact ⟨a, kvs, e, r', z', ek, el, RpL.to m ds _ q⟩
  | .exc c, v, h => by
    obtain ⟨a, e, q⟩ := h
    exact ⟨a, e, m.e a c q⟩
  | .loc _, _, h => h
  | .ins c ns vs, v, h => by
    obtain ⟨a, dx, fs, e, r, z, en, q⟩ := h
    obtain ⟨r', z'⟩ := m.i a _ dx fs r z
    exact ⟨a, dx, fs, e, r', z', en, RpL.to m vs _ q⟩
theorem RpL.to (m : Mv K Z Z' H H') : ∀ (ds : List D) (xs : List V), RpL K Z H ds xs → RpL K Z' H' ds xs
  | [], _, h => h
  | d :: ds, xs, h => by
    obtain ⟨v, vs, e, h1, h2⟩ := h
    exact ⟨v, vs, e, Rp.to m d v h1, RpL.to m ds vs h2⟩
end

theorem rd_same (s : Same H H') {b : Addr} {u : HO} (r : Rd H b u) : Rd H' b u := by
  rcases r with r | ⟨o, r⟩
  · exact .inl (s _ _ r)
  · exact .inr ⟨o, s _ _ r⟩
theorem sqt_same (s : Same H H') {b : Addr} {xs : List V} (r : SqT K H b xs) : SqT K H' b xs := by
  rcases r with r | r
  · exact .inl (rd_same s r)
  · exact .inr r
theorem knt_same (s : Same H H') {b : Addr} {xs : List V} (r : KnT K H b xs) : KnT K H' b xs := by
  rcases r with ⟨o, r, n⟩ | r
  · exact .inl ⟨o, s _ _ r, n⟩
  · exact .inr r
theorem Mv.same (s : Same H H') : Mv K Z Z H H' := ⟨fun _ _ _ _ r z => ⟨s _ _ r, z⟩, fun _ _ r => sqt_same s r, fun _ _ r => knt_same s r, fun _ _ _ r z => ⟨rd_same s r, z⟩, fun _ _ e => s _ _ e⟩
theorem Mv.weak (w : ∀ a, Z' a → Z a) : Mv K Z Z' H H := ⟨fun _ _ _ _ r z => ⟨r, fun q => z (w _ q)⟩, fun _ _ r => r, fun _ _ r => r, fun _ _ _ r z => ⟨r, fun q => z (w _ q)⟩, fun _ _ e => e⟩
theorem Rp.same (s : Same H H') {d : D} {v : V} (h : Rp K Z H d v) : Rp K Z H' d v :=
  Rp.to (Mv.same s) d v h
theorem RpL.same (s : Same H H') {d : List D} {v : List V} (h : RpL K Z H d v) : RpL K Z H' d v :=
  RpL.to (Mv.same s) d v h
theorem Rp.weak (w : ∀ a, Z' a → Z a) {d : D} {v : V} (h : Rp K Z H d v) : Rp K Z' H d v :=
  Rp.to (Mv.weak w) d v h
theorem RpL.weak (w : ∀ a, Z' a → Z a) {d : List D} {v : List V} (h : RpL K Z H d v) : RpL K Z' H d v :=
  RpL.to (Mv.weak w) d v h
theorem RpR.same (s : Same H H') {d : D} {v : V} (h : RpR K Z H d v) : RpR K Z H' d v := by
  cases d with
  | lst ds =>
    obtain ⟨a, xs, e, r, q⟩ := h
    exact ⟨a, xs, e, rd_same s r, q.same s⟩
  | dct ks ds =>
    obtain ⟨a, kvs, e, r, ek, el, q⟩ := h
    exact ⟨a, kvs, e, rd_same s r, ek, el, q.same s⟩
  | _ => exact Rp.same (K := K) (Z := Z) s h

mutual
theorem Rp.noC : ∀ (d : D) (v : V), d.noC = true → Rp K Z H d v → Rp K Z' H d v
  | .non, _, _, h => h
  | .bl _, _, _, h => h
  | .int _, _, _, h => h
  | .str _, _, _, h => h
  | .lst _, _, n, _ => by cases n
  | .dct _ _, _, n, _ => by cases n
  | .tup ds, v, n, h => by
    obtain ⟨a, xs, e, r, q⟩ := h
    exact ⟨a, xs, e, r, RpL.noC ds xs n q⟩
  | .exc c, v, _, h => h
  | .loc _, _, _, h => h
  | .ins _ _ _, _, n, _ => by cases n
theorem RpL.noC : ∀ (ds : List D) (xs : List V), D.noCL ds = true → RpL K Z H ds xs → RpL K Z' H ds xs
  | [], _, _, h => h
  | d :: ds, xs, n, h => by
    have n : (d.noC && D.noCL ds) = true := n
    rw [Bool.and_eq_true] at n
    obtain ⟨v, vs, e, h1, h2⟩ := h
    exact ⟨v, vs, e, Rp.noC d v n.1 h1, RpL.noC ds vs n.2 h2⟩
end
/-! ### lists of values -/
theorem RpL.length : ∀ {ds : List D} {xs : List V}, RpL K Z H ds xs → ds.length = xs.length
  | [], _, h => by
    have h : _ = _ := h
    rw [h]; rfl
  | d :: ds, _, h => by
    obtain ⟨v, vs, e, _, h2⟩ := h
    rw [e, List.length_cons, List.length_cons, RpL.length h2]
theorem RpL.get : ∀ {ds : List D} {xs : List V} {i : Nat} {d : D}, RpL K Z H ds xs → ds[i]? = some d → ∃ v, xs[i]? = some v ∧ Rp K Z H d v
  | [], _, _, _, _, e => by simp at e
  | d :: ds, _, 0, _, h, e => by
    obtain ⟨v, vs, rfl, h1, _⟩ := h
    simp at e
    subst e
    exact ⟨v, rfl, h1⟩
  | d :: ds, _, i + 1, _, h, e => by
    obtain ⟨v, vs, rfl, _, h2⟩ := h
    obtain ⟨u, a, b⟩ := RpL.get (i := i) h2 (by simpa using e)
    exact ⟨u, by simpa using a, b⟩
theorem RpL.back : ∀ {ds : List D} {xs : List V} {i : Nat} {v : V}, RpL K Z H ds xs → xs[i]? = some v → ∃ d, ds[i]? = some d ∧ Rp K Z H d v
  | [], _, _, _, h, e => by
    have h : _ = _ := h
    subst h
    simp at e
  | d :: ds, _, 0, _, h, e => by
    obtain ⟨v, vs, rfl, h1, _⟩ := h
    simp at e
    subst e
    exact ⟨d, rfl, h1⟩
  | d :: ds, _, i + 1, _, h, e => by
    obtain ⟨v, vs, rfl, _, h2⟩ := h
    obtain ⟨u, a, b⟩ := RpL.back (i := i) h2 (by simpa using e)
    exact ⟨u, by simpa using a, b⟩
theorem RpL.append : ∀ {ds es : List D} {xs ys : List V}, RpL K Z H ds xs → RpL K Z H es ys → RpL K Z H (ds ++ es) (xs ++ ys)
  | [], _, _, _, h, g => by
    have h : _ = _ := h
    subst h
    exact g
  | d :: ds, _, _, _, h, g => by
    obtain ⟨v, vs, rfl, h1, h2⟩ := h
    exact ⟨v, _, rfl, h1, RpL.append h2 g⟩
theorem RpL.one {d : D} {v : V} (h : Rp K Z H d v) : RpL K Z H [d] [v] := ⟨v, [], rfl, h, rfl⟩
theorem RpL.take : ∀ {ds : List D} {xs : List V} (n : Nat), RpL K Z H ds xs → RpL K Z H (ds.take n) (xs.take n)
  | [], _, n, h => by
    have h : _ = _ := h
    subst h
    simp [RpL]
  | d :: ds, _, 0, h => by simp [RpL]
  | d :: ds, _, n + 1, h => by
    obtain ⟨v, vs, rfl, h1, h2⟩ := h
    exact ⟨v, _, rfl, h1, RpL.take n h2⟩
theorem RpL.drop : ∀ {ds : List D} {xs : List V} (n : Nat), RpL K Z H ds xs → RpL K Z H (ds.drop n) (xs.drop n)
  | [], _, n, h => by
    have h : _ = _ := h
    subst h
    simp [RpL]
  | d :: ds, _, 0, h => h
  | d :: ds, _, n + 1, h => by
    obtain ⟨v, vs, rfl, h1, h2⟩ := h
    exact RpL.drop n h2
theorem RpL.reverse : ∀ {ds : List D} {xs : List V}, RpL K Z H ds xs → RpL K Z H ds.reverse xs.reverse
  | [], _, h => by
    have h : _ = _ := h
    subst h
    simp [RpL]
  | d :: ds, _, h => by
    obtain ⟨v, vs, rfl, h1, h2⟩ := h
    rw [List.reverse_cons, List.reverse_cons]
    exact RpL.append (RpL.reverse h2) (RpL.one h1)
theorem RpL.nil_iff {ds : List D} {xs : List V} (h : RpL K Z H ds xs) : ds.isEmpty = xs.isEmpty := by
  have e := h.length
  cases ds <;> cases xs <;> simp_all
theorem RpL.strs : ∀ {ds : List D} {xs : List V} {ss : List Tx}, RpL K Z H ds xs → strs? ds = some ss → xs = (ss.map tx).map V.str ∧ ∀ s ∈ ss, s.length ≤ sizeLine
  | [], _, ss, h, e => by
    have h : _ = _ := h
    subst h
    simp [strs?] at e
    subst e
    simp
  | d :: ds, _, ss, h, e => by
    obtain ⟨v, vs, rfl, h1, h2⟩ := h
    cases d with
    | str s =>
      simp only [strs?] at e
      obtain ⟨r, e1, e2⟩ := Option.map_eq_some_iff.mp e
      subst e2
      obtain ⟨q1, q2⟩ := RpL.strs h2 e1
      obtain ⟨z1, z2⟩ := h1
      refine ⟨by rw [z1, q1]; rfl, fun t ht => ?_⟩
      rcases List.mem_cons.mp ht with rfl | ht
      · exact z2
      · exact q2 t ht
    | _ => cases e
theorem RpL.ints : ∀ {ds : List D} {xs : List V} {ss : List Int}, RpL K Z H ds xs → ints? ds = some ss → xs = ss.map V.int
  | [], _, ss, h, e => by
    have h : _ = _ := h
    subst h
    simp [ints?] at e
    subst e
    simp
  | d :: ds, _, ss, h, e => by
    obtain ⟨v, vs, rfl, h1, h2⟩ := h
    cases d with
    | int s =>
      simp only [ints?] at e
      obtain ⟨r, e1, e2⟩ := Option.map_eq_some_iff.mp e
      subst e2
      have h1 : v = _ := h1
      rw [h1, RpL.ints h2 e1]
      rfl
    | _ => cases e
theorem RpL.bls : ∀ {ds : List D} {xs : List V} {ss : List Bool}, RpL K Z H ds xs → bls? ds = some ss → xs = ss.map V.bl
  | [], _, ss, h, e => by
    have h : _ = _ := h
    subst h
    simp [bls?] at e
    subst e
    simp
  | d :: ds, _, ss, h, e => by
    obtain ⟨v, vs, rfl, h1, h2⟩ := h
    cases d with
    | bl s =>
      simp only [bls?] at e
      obtain ⟨r, e1, e2⟩ := Option.map_eq_some_iff.mp e
      subst e2
      have h1 : v = _ := h1
      rw [h1, RpL.bls h2 e1]
      rfl
    | _ => cases e
theorem RpL.of_strs : ∀ (ss : List Tx), (∀ s ∈ ss, s.length ≤ sizeLine) → RpL K Z H (ss.map .str) ((ss.map tx).map V.str)
  | [], _ => rfl
  | s :: ss, h => ⟨_, _, rfl, ⟨rfl, h s List.mem_cons_self⟩, RpL.of_strs ss fun t ht => h t (List.mem_cons_of_mem _ ht)⟩
theorem RpL.of_ints : ∀ (ss : List Int), RpL K Z H (ss.map .int) (ss.map V.int)
  | [] => rfl
  | s :: ss => ⟨_, _, rfl, rfl, RpL.of_ints ss⟩

/-! ### what new objects are -/
theorem same_upd {p : Addr} {o : HO} (n : H p = none) : Same H (upd H p o) := fun b u e => by
  rw [upd_ne (ne_of_none e n)]; exact e
theorem rd_tracked {b : Addr} {u : HO} (r : Rd H b u) : H b ≠ none := by
  rcases r with r | ⟨o, r⟩ <;> rw [r] <;> simp
/-- Z holds changeable things alone -/
def ZOk (Z : Addr → Prop) (H : Hp) : Prop := ∀ a, Z a → Mut (H a)
theorem ZOk.not_none (z : ZOk Z H) {p : Addr} (n : H p = none) : ¬ Z p := fun q => by
  have m := z p q
  rw [n] at m; exact m
theorem mut_same {a : Addr} (s : Same H H') (m : Mut (H a)) : Mut (H' a) := by
  cases e : H a with
  | none => rw [e] at m; exact m.elim
  | some o => rw [s _ _ e]; rw [e] at m; exact m
theorem ZOk.same (z : ZOk Z H) (s : Same H H') : ZOk Z H' := fun a q => mut_same s (z a q)
theorem Rp.new_lst {p : Addr} {ds : List D} {xs : List V} (n : H p = none) (z : ¬ Z p) (h : RpL K Z H ds xs) : Rp K Z (upd H p (.lst xs)) (.lst ds) (.ref p) :=
  ⟨p, xs, rfl, .inl upd_same, z, h.same (same_upd n)⟩
theorem Rp.new_tup {p : Addr} {ds : List D} {xs : List V} (n : H p = none) (hp : prs ds = false) (h : RpL K Z H ds xs) : Rp K Z (upd H p (.tup xs)) (.tup ds) (.ref p) :=
  ⟨p, xs, rfl, ⟨.inl (.inl upd_same), fun z => by rw [hp] at z; cases z⟩, h.same (same_upd n)⟩
theorem Rp.new_known {p : Addr} {ds : List D} {xs : List V} {its : List Value} (n : H p = none) (h : RpL K Z H ds xs) : Rp K Z (upd H p (.frz (tupOb its) (.tup xs))) (.tup ds) (.ref p) :=
  ⟨p, xs, rfl, ⟨.inl (.inr ⟨_, upd_same⟩), fun _ => .inl ⟨_, upd_same, rfl⟩⟩, h.same (same_upd n)⟩
theorem RpR.new_lst {p : Addr} {ds : List D} {xs : List V} (n : H p = none) (h : RpL K Z H ds xs) : RpR K Z (upd H p (.lst xs)) (.lst ds) (.ref p) :=
  ⟨p, xs, rfl, .inl upd_same, h.same (same_upd n)⟩
end

/-! ### data for the machine's own comparisons -/
mutual
theorem py_eqv : ∀ a b : D, a.plain = true → b.plain = true → PyData.eqv a.py b.py = a.eqv b
  | .non, b, _, hb => by cases b <;> first | rfl | (simp [D.plain] at hb)
  | .bl x, b, _, hb => by cases b <;> first | rfl | (simp [D.plain] at hb)
  | .int x, b, _, hb => by cases b <;> first | rfl | (simp [D.plain] at hb)
  | .str x, b, _, hb => by
    cases b with
    | str y =>
      show ((tx x) == (tx y)) = (x == y)
      exact SX.S_beq x y
    | _ => first | rfl | (simp [D.plain] at hb)
  | .lst x, b, ha, hb => by
    cases b with
    | lst y =>
      show PyData.eqvAll (D.pyL x) (D.pyL y) = D.eqvL x y
      exact py_eqvL x y (by simpa [D.plain] using ha) (by simpa [D.plain] using hb)
    | _ => first | rfl | (simp [D.plain] at hb)
  | .tup x, b, ha, hb => by
    cases b with
    | tup y =>
      show PyData.eqvAll (D.pyL x) (D.pyL y) = D.eqvL x y
      exact py_eqvL x y (by simpa [D.plain] using ha) (by simpa [D.plain] using hb)
    | _ => first | rfl | (simp [D.plain] at hb)
  | .dct _ _, _, ha, _ => by simp [D.plain] at ha
  | .exc _, _, ha, _ => by simp [D.plain] at ha
  | .loc _, _, ha, _ => by simp [D.plain] at ha
  | .ins _ _ _, _, ha, _ => by simp [D.plain] at ha
theorem py_eqvL : ∀ a b : List D, D.plainL a = true → D.plainL b = true → PyData.eqvAll (D.pyL a) (D.pyL b) = D.eqvL a b
  | [], [], _, _ => rfl
  | [], _ :: _, _, _ => rfl
  | _ :: _, [], _, _ => rfl
  | x :: xs, y :: ys, ha, hb => by
    simp only [D.plainL, Bool.and_eq_true] at ha hb
    show (PyData.eqv x.py y.py && PyData.eqvAll (D.pyL xs) (D.pyL ys)) = (x.eqv y && D.eqvL xs ys)
    rw [py_eqv x y ha.1 hb.1, py_eqvL xs ys ha.2 hb.2]
end
mutual
theorem py_plain : ∀ a : D, a.plain = true → a.py.plain = true
  | .non, _ => rfl
  | .bl _, _ => rfl
  | .int _, _ => rfl
  | .str _, _ => rfl
  | .lst xs, h => by
    show PyData.plainAll (D.pyL xs) = true
    exact py_plainL xs (by simpa [D.plain] using h)
  | .tup xs, h => by
    show PyData.plainAll (D.pyL xs) = true
    exact py_plainL xs (by simpa [D.plain] using h)
  | .dct _ _, h => by simp [D.plain] at h
  | .exc _, h => by simp [D.plain] at h
  | .loc _, h => by simp [D.plain] at h
  | .ins _ _ _, h => by simp [D.plain] at h
theorem py_plainL : ∀ a : List D, D.plainL a = true → PyData.plainAll (D.pyL a) = true
  | [], _ => rfl
  | x :: xs, h => by
    simp only [D.plainL, Bool.and_eq_true] at h
    show (x.py.plain && PyData.plainAll (D.pyL xs)) = true
    rw [py_plain x h.1, py_plainL xs h.2]; rfl
end
mutual
theorem py_dep : ∀ a : D, a.py.depth = a.dep
  | .non => rfl
  | .bl _ => rfl
  | .int _ => rfl
  | .str _ => rfl
  | .lst xs => by
    show PyData.depthAll (D.pyL xs) + 1 = D.depL xs + 1
    rw [py_depL xs]
  | .tup xs => by
    show PyData.depthAll (D.pyL xs) + 1 = D.depL xs + 1
    rw [py_depL xs]
  | .dct _ _ => rfl
  | .exc _ => rfl
  | .loc _ => rfl
  | .ins _ _ _ => rfl
theorem py_depL : ∀ a : List D, PyData.depthAll (D.pyL a) = D.depL a
  | [] => rfl
  | x :: xs => by
    show max x.py.depth (PyData.depthAll (D.pyL xs)) = max x.dep (D.depL xs)
    rw [py_dep x, py_depL xs]
end
theorem pyL_map : ∀ a : List D, D.pyL a = a.map D.py
  | [] => rfl
  | x :: xs => by rw [List.map_cons, ← pyL_map xs]; rfl
theorem plainL_all : ∀ a : List D, D.plainL a = a.all D.plain
  | [] => rfl
  | x :: xs => by rw [List.all_cons, ← plainL_all xs]; rfl
theorem any_py (x : D) (hx : x.plain = true) : ∀ a : List D, D.plainL a = true → ((D.pyL a).any fun y => PyData.eqv y x.py) = a.any fun y => y.eqv x
  | [], _ => rfl
  | y :: ys, h => by
    simp only [D.plainL, Bool.and_eq_true] at h
    show (PyData.eqv y.py x.py || (D.pyL ys).any fun y => PyData.eqv y x.py) = _
    rw [py_eqv y x h.1 hx, any_py x hx ys h.2]; rfl

section
variable {X : Cx} {pins : List (Addr × Obj)} {σ : L2.St} {H : Hp} {s : Shared} {Z : Addr → Prop}
theorem Inv.rdList (I : Inv X pins σ H s) {a : Addr} {xs : List V} (h : Rd H a (.lst xs)) : ∃ its : List Value, Vals xs its ∧ PlainL s.heap a its.toArray ∧ xs.length ≤ sizeLine := I.list (.inl h)
mutual
theorem Rp.reads (I : Inv X pins σ H s) : ∀ (d : D) (v : V) (u : Value), d.plain = true → RpR X.K Z H d v → RelV v u → ∃ as, Reads s.heap u d.py as
  | .non, _, _, _, h, r => by
    have h : _ = _ := h
    subst h
    cases r
    exact ⟨_, Reads.none⟩
  | .bl b, _, _, _, h, r => by
    have h : _ = _ := h
    subst h
    cases r
    exact ⟨_, Reads.bool b⟩
  | .int i, _, _, _, h, r => by
    have h : _ = _ := h
    subst h
    obtain ⟨t, rfl⟩ := r
    exact ⟨_, Reads.int i t⟩
  | .str x, _, _, _, h, r => by
    obtain ⟨h, _⟩ := h
    subst h
    obtain ⟨t, rfl⟩ := r
    exact ⟨_, Reads.str _ t⟩
  | .lst ds, _, _, p, h, r => by
    obtain ⟨a, xs, e, hq, ha⟩ := h
    subst e
    cases r
    obtain ⟨its, rv, ⟨o, n, ho, hc, _, hd⟩, _⟩ := Inv.rdList I hq
    obtain ⟨as, hr⟩ := RpL.reads I ds xs its (by simpa [D.plain] using p) ha rv
    exact ⟨_, Reads.list ho hc hd hr⟩
  | .tup ds, _, _, p, h, r => by
    obtain ⟨a, xs, e, hq, ha⟩ := h
    subst e
    cases r
    obtain ⟨its, rv, ⟨o, ho, hc, n, hd⟩, _⟩ := I.tuple hq.1
    obtain ⟨as, hr⟩ := RpL.reads I ds xs its (by simpa [D.plain] using p) ha rv
    exact ⟨_, Reads.tuple ho hc hd hr⟩
  | .dct _ _, _, _, p, _, _ => by simp [D.plain] at p
  | .exc _, _, _, p, _, _ => by simp [D.plain] at p
  | .loc _, _, _, p, _, _ => by simp [D.plain] at p
  | .ins _ _ _, _, _, p, _, _ => by simp [D.plain] at p
theorem RpL.reads (I : Inv X pins σ H s) : ∀ (ds : List D) (vs : List V) (us : List Value), D.plainL ds = true → RpL X.K Z H ds vs → Vals vs us → ∃ as, ReadsAll s.heap us (D.pyL ds) as
  | [], _, _, _, h, r => by
    have h : _ = _ := h
    subst h
    cases r
    exact ⟨_, ReadsAll.nil⟩
  | d :: ds, _, _, p, h, r => by
    simp only [D.plainL, Bool.and_eq_true] at p
    obtain ⟨v, vs, e, h1, h2⟩ := h
    subst e
    cases r with
    | cons r1 r2 =>
      obtain ⟨as, q1⟩ := Rp.reads I d _ _ p.1 h1.relax r1
      obtain ⟨bs, q2⟩ := RpL.reads I ds _ _ p.2 h2 r2
      exact ⟨_, ReadsAll.cons q1 q2⟩
end
end
end Pw

/-! text PwT -/
/-! tuples of pairs are laid as known objects: a dict may be made of them -/
namespace Pw
open PySem PySem.Spec PyProof.Rows L2
/-- a new tuple: tracked, or known -/
def NewT (H : Hp) (xs : List V) (Q : VK) : Prop := (∀ p, H p = none → Q (.ref p) (upd H p (.tup xs))) ∨ ∀ p its, H p = none → Q (.ref p) (upd H p (.frz (tupOb its) (.tup xs)))
section
variable {X : Cx} {pins : List (Addr × Obj)} {σ : L2.St} {H : Hp}
theorem laidT {s1 : Shared} (J : Inv X pins σ H s1) {zs : List V} {its : List Value} (r : Vals zs its) (hz : zs.length ≤ sizeLine) {Q : VK} (q : NewT H zs Q) :
    EP X pins σ Q (.ref s1.heap.objs.size) { s1 with heap := s1.heap.push (tupOb its) } := by
  have hf : H s1.heap.objs.size = none := J.hok.fresh (Nat.le_refl _)
  rcases q with q | q
  · exact ⟨.ref _, _, J.laid (t' := s1.toks) (o := .tup zs) (fun _ _ z => Heap.get?_push_of_some _ z) (Nat.le_refl _) ⟨hz, its, r, IsTup.new _ _⟩, rfl, q _ hf⟩
  · exact ⟨.ref _, _, J.laid (t' := s1.toks) (o := .frz (tupOb its) (.tup zs)) (fun _ _ z => Heap.get?_push_of_some _ z) (Nat.le_refl _) ⟨Heap.get?_push_size _ rfl, hz, its, r, IsTup.new _ _⟩, rfl, q _ its hf⟩
end
section
variable {X : Cx} {pos : Pos} {es : List Expr} {t : TA}
def tTupN (t : TA) : TE := fun σ H Q => t σ H fun xs H1 => xs.length ≤ sizeLine ∧ NewT H1 xs Q
theorem pe_tupN {k : Nat} (h : PA X es t) : PE X (.Tuple es k pos) (tTupN t) := by
  refine ⟨fun pins s σ H Q J hq => ?_⟩
  refine wpAny_Tuple_spliced (thn (h.run pos pins s σ H _ J hq) fun us s1 ⟨xs, H1, J1, r, z, q⟩ => ⟨by rw [← r.length]; exact z, ?_⟩)
  exact laidT J1 r z q
theorem call_tupN : CallR X (.type "tuple") (fun xs H Q => ∃ p ys, xs = [.ref p] ∧ ((SqL X.K H p ys ∧ NewT H ys Q) ∨ (SqT X.K H p ys ∧ Q (.ref p) H))) := by
  intro pins s σ H xs us Q J r h
  obtain ⟨p, ys, rfl, h⟩ := h
  obtain ⟨u, rfl, rx⟩ := vals1 r
  cases rx
  rcases h with ⟨hq, q⟩ | ⟨hq, q⟩
  · obtain ⟨its, r1, pl, hz⟩ := J.list hq
    have hl := r1.length
    refine call_tuple_list pl.isList (fun h1 kp => ?_) (by rw [List.size_toArray]; omega)
    exact laidT (J.kept (t' := s.toks) kp : Inv X pins σ H { s with heap := h1 }) r1 hz q
  · obtain ⟨its, _, pl, _⟩ := J.tuple hq
    exact call_tuple_same pl ⟨.ref p, H, J, rfl, q⟩
def rCatN (K : PySem.W.Frag) : R2 := fun x y H Q => ∃ a b xs ys, x = .ref a ∧ y = .ref b ∧ SqT K H a xs ∧ SqT K H b ys ∧ xs.length + ys.length ≤ sizeLine ∧
  (xs = [] → Q (.ref b) H) ∧ (xs ≠ [] → ys = [] → Q (.ref a) H) ∧ (xs ≠ [] → ys ≠ [] → NewT H (xs ++ ys) Q)
theorem op_catN : OpR X (binaryOp .Add) (rCatN X.K) := by
  intro pins s σ H x y v u Q J rx ry h
  obtain ⟨a, b, xs, ys, rfl, rfl, ha, hb, hz, q0, q1, q2⟩ := h
  by_cases hx : xs = []
  · exact op_catA pins s σ H _ _ v u Q J rx ry ⟨a, b, xs, ys, rfl, rfl, ha, hb, hz, q0, q1, fun z => absurd hx z⟩
  · cases rx
    cases ry
    obtain ⟨i1, r1, p1, _⟩ := J.tuple ha
    obtain ⟨i2, r2, p2, _⟩ := J.tuple hb
    refine HT.cat_tup p1 p2 (fun z => hx (r1.nil_iff.mp z)) (fun z => ⟨.ref a, H, J, rfl, q1 hx (r2.nil_iff.mp z)⟩) (fun z => ?_) (by rw [← r1.length, ← r2.length]; exact hz)
    exact laidT J (r1.append r2) (by rw [List.length_append]; exact hz) (q2 hx fun w => z (r2.nil_iff.mpr w))
def rSlN (K : PySem.W.Frag) : V → Option Int → Option Int → Hp → VK → Prop := fun x lo hi H Q => ∃ a xs, x = .ref a ∧ SqT K H a xs ∧
  (HT.sIx xs.length 0 lo = 0 ∧ HT.sIx xs.length xs.length hi = xs.length → Q (.ref a) H) ∧ (¬ (HT.sIx xs.length 0 lo = 0 ∧ HT.sIx xs.length xs.length hi = xs.length) → NewT H (cutV xs lo hi) Q)
theorem sl_tupN : SlR X (rSlN X.K) := by
  intro pins s σ H x v vl vu lo hi sl Q J rx hs pl pu h
  obtain ⟨a, xs, rfl, hx, q1, q2⟩ := h
  by_cases hw : HT.sIx xs.length 0 lo = 0 ∧ HT.sIx xs.length xs.length hi = xs.length
  · exact sl_tupA pins s σ H _ v vl vu lo hi sl Q J rx hs pl pu ⟨a, xs, rfl, hx, q1, fun z => absurd hw z⟩
  · cases rx
    obtain ⟨its, r, ht, hz⟩ := J.tuple hx
    have hl : its.toArray.size = xs.length := by rw [List.size_toArray]; exact r.length.symm
    refine ⟨"tuple", _, PyProof.Rows.slot_tuple_getitem.lookup, ht.typeIs, ?_⟩
    refine HT.getItem_tuple_cut ht hs pl pu (by rw [hl]; exact hw) ?_ (by rw [hl]; exact hz)
    rw [hl]
    exact laidT J ((r.drop (HT.sIx xs.length 0 lo)).take (HT.sIx xs.length xs.length hi - HT.sIx xs.length 0 lo)) (Nat.le_trans (cutV_length xs lo hi) hz) (q2 hw)
end
end Pw

/-! text PwC -/
/-! operators, comparisons, places, cuts: the layer's rules upon data -/
namespace Pw
open PySem PySem.Spec PyProof.Rows L2

abbrev Em : Addr → Prop := fun _ => False
theorem Rp.em {K : PySem.W.Frag} {Z : Addr → Prop} {H : Hp} {d : D} {v : V} (h : Rp K Z H d v) : Rp K Em H d v := h.weak (fun _ z => z.elim)
theorem zok_em {H : Hp} : ZOk Em H := fun _ z => z.elim

/-- what is handed back is new, if it can be changed -/
def Fr (H H' : Hp) : D → V → Prop
  | .lst _, v => ∃ a xs, v = .ref a ∧ H a = none ∧ H' a = some (.lst xs)
  | .dct _ _, v => ∃ a kvs, v = .ref a ∧ H a = none ∧ H' a = some (.dK kvs)
  | _, _ => True

section
variable {X : Cx} {pins : List (Addr × Obj)} {σ : L2.St} {H : Hp} {s : Shared}
theorem Inv.lstR (I : Inv X pins σ H s) {l : Addr} {xs : List V} (h : Rd H l (.lst xs)) :
    xs.length ≤ sizeLine ∧ ∃ (its : List Value) (n : Nat), Vals xs its ∧ xs.length = its.length ∧ s.heap.get? l = some { cls := .type "list", data := .seq its.toArray n } := by
  obtain ⟨z, its, n, r, e⟩ := h.ok I.hok
  exact ⟨z, its, n, r, r.length, e⟩
end

/-- two values in, one out -/
def rB (K : PySem.W.Frag) (f : D → D → R D) (fr : Bool) : R2 := fun x y H Q => ∃ a b d, RpR K Em H a x ∧ RpR K Em H b y ∧ f a b = .ok d ∧
  ∀ v H', Same H H' → (∀ Y, ZOk Y H → RpR K Y H a x → RpR K Y H b y → Rp K Y H' d v) → (fr = true → Fr H H' d v) → Q v H'
/-- two values in, a truth out -/
def rC (K : PySem.W.Frag) (f : D → D → R Bool) : R2 := fun x y H Q => ∃ a b k, RpR K Em H a x ∧ RpR K Em H b y ∧ f a b = .ok k ∧ Q (.bl k) H

def opr : Op2 → Operator
  | .add => .Add | .sub => .Sub | .mul => .Mult | .fdiv => .FloorDiv | .mod => .Mod | .pow => .Pow | .band => .BitAnd
def cmr : Cm → CmpOp
  | .eq => .Eq | .ne => .NotEq | .lt => .Lt | .le => .LtE | .gt => .Gt | .ge => .GtE | .isin => .In | .notin => .NotIn | .is => .Is | .isnot => .IsNot

theorem lim_eq : LIM = sizeLine := by rw [sizeLine_eq]; rfl

section
variable {X : Cx}
theorem cat_lists : OpR X (binaryOp .Add) (fun x y H Q => ∃ l b xs zs, x = .ref l ∧ y = .ref b ∧ Rd H l (.lst xs) ∧ Rd H b (.lst zs) ∧ xs.length + zs.length ≤ sizeLine ∧ ∀ p, H p = none → Q (.ref p) (upd H p (.lst (xs ++ zs)))) := by
  intro pins s σ H x y v u Q I rx ry h
  obtain ⟨l, b, xs, zs, rfl, rfl, hH, hB, hz, q⟩ := h
  cases rx
  cases ry
  obtain ⟨_, js, m, w1, hl, e⟩ := Inv.lstR I hH
  obtain ⟨_, ks, m2, w2, hl2, e2⟩ := Inv.lstR I hB
  refine PySem.P.add_list e e2 ?_ (by rw [List.size_toArray, List.size_toArray]; omega)
  rw [show js.toArray ++ ks.toArray = (js ++ ks).toArray by simp]
  exact ⟨.ref _, _, I.lnew (t' := s.toks) (w1.append w2) (by rw [List.length_append]; omega), rfl, q _ I.fresh⟩

theorem op2_add : OpR X (binaryOp .Add) (rB X.K (op2 .add) true) := by
  intro pins s σ H x y v u Q I rx ry h
  obtain ⟨a, b, d, ha, hb, e, q⟩ := h
  cases a with
  | int i =>
    cases b with
    | int j =>
      cases e
      have ha : x = _ := ha
      have hb : y = _ := hb
      exact op_add pins s σ H x y v u Q I rx ry ⟨i, j, ha, hb, q _ H (Same.refl H) (fun _ _ _ _ => rfl) (fun _ => trivial)⟩
    | _ => cases e
  | str i =>
    cases b with
    | str j =>
      simp only [op2] at e
      split at e
      · rename_i hl
        cases e
        have hl := Nat.le_of_ble_eq_true hl
        rw [lim_eq] at hl
        refine op_add_str pins s σ H x y v u Q I rx ry ⟨tx i, tx j, ha.1, hb.1, ?_, ?_⟩
        · rw [SX.S_len, SX.S_len]; exact hl
        · rw [SX.S_cat]
          exact q _ H (Same.refl H) (fun _ _ _ _ => ⟨rfl, by rw [List.length_append]; exact hl⟩) (fun _ => trivial)
      · cases e
    | _ => cases e
  | lst i =>
    cases b with
    | lst j =>
      simp only [op2] at e
      split at e
      · rename_i hl
        cases e
        have hl := Nat.le_of_ble_eq_true hl
        rw [lim_eq] at hl
        obtain ⟨p, xs, e1, r1, g1⟩ := ha
        obtain ⟨p2, ys, e2, r2, g2⟩ := hb
        refine cat_lists pins s σ H x y v u Q I rx ry ⟨p, p2, xs, ys, e1, e2, r1, r2, by rw [← g1.length, ← g2.length]; exact hl, fun t ht => ?_⟩
        refine q _ _ (same_upd ht) (fun Y zy k1 k2 => ?_) (fun _ => ⟨t, _, rfl, ht, upd_same⟩)
        obtain ⟨p', xs', f1, s1, k1⟩ := k1
        obtain ⟨p2', ys', f2, s2, k2⟩ := k2
        rw [e1] at f1; cases f1
        rw [e2] at f2; cases f2
        have z1 := I.list_inj (.inl r1) (.inl s1)
        have z2 := I.list_inj (.inl r2) (.inl s2)
        subst z1; subst z2
        exact Rp.new_lst ht (zy.not_none ht) (k1.append k2)
      · cases e
    | _ => cases e
  | tup i =>
    cases b with
    | tup j =>
      simp only [op2] at e
      split at e
      · rename_i hl
        cases e
        have hl := Nat.le_of_ble_eq_true hl
        rw [lim_eq] at hl
        obtain ⟨p, xs, e1, r1, g1⟩ := ha
        obtain ⟨p2, ys, e2, r2, g2⟩ := hb
        have back : ∀ Y, RpR X.K Y H (.tup i) x → RpL X.K Y H i xs := fun Y k => by
          obtain ⟨p', xs', f1, s1, k1⟩ := k
          rw [e1] at f1; cases f1
          have z1 := I.tuple_inj r1.1 s1.1
          subst z1
          exact k1
        have back2 : ∀ Y, RpR X.K Y H (.tup j) y → RpL X.K Y H j ys := fun Y k => by
          obtain ⟨p', xs', f1, s1, k1⟩ := k
          rw [e2] at f1; cases f1
          have z1 := I.tuple_inj r2.1 s1.1
          subst z1
          exact k1
        refine op_catN pins s σ H x y v u Q I rx ry ⟨p, p2, xs, ys, e1, e2, r1.1, r2.1, by rw [← g1.length, ← g2.length]; exact hl, fun hx => ?_, fun _ hy => ?_, fun _ _ => ?_⟩
        · refine q _ H (Same.refl H) (fun Y _ k1 k2 => ?_) (fun _ => trivial)
          subst hx
          have := g1.length
          have hi : i = [] := by cases i with
            | nil => rfl
            | cons => simp at this
          subst hi
          rw [List.nil_append, ← e2]
          exact k2
        · refine q _ H (Same.refl H) (fun Y _ k1 k2 => ?_) (fun _ => trivial)
          subst hy
          have := g2.length
          have hi : j = [] := by cases j with
            | nil => rfl
            | cons => simp at this
          subst hi
          rw [List.append_nil, ← e1]
          exact k1
        · cases hp : prs (i ++ j) with
          | false => exact .inl fun t ht => q _ _ (same_upd ht) (fun Y zy k1 k2 => Rp.new_tup ht hp ((back Y k1).append (back2 Y k2))) (fun _ => trivial)
          | true => exact .inr fun t its ht => q _ _ (same_upd ht) (fun Y zy k1 k2 => Rp.new_known ht ((back Y k1).append (back2 Y k2))) (fun _ => trivial)
      · cases e
    | _ => cases e
  | _ => cases e
theorem RpL.rep {K : PySem.W.Frag} {Y : Addr → Prop} {H : Hp} {ds : List D} {vs : List V} (h : RpL K Y H ds vs) : ∀ k : Nat, RpL K Y H (List.replicate k ds).flatten (List.replicate k vs).flatten
  | 0 => rfl
  | k + 1 => by
    rw [List.replicate_succ, List.replicate_succ, List.flatten_cons, List.flatten_cons]
    exact h.append (h.rep k)
theorem prs_rep {xs : List D} (h : prs xs = false) {k : Nat} (hk : 1 ≤ k) : prs (List.replicate k xs).flatten = false := by
  obtain ⟨m, rfl⟩ : ∃ m, k = m + 1 := ⟨k - 1, by omega⟩
  rw [List.replicate_succ, List.flatten_cons]
  unfold prs at h ⊢
  rw [List.all_append, h]
  rfl
theorem fold_rep (t : List Nat) : ∀ (k : Nat) (acc : List Nat), List.foldl (fun x1 x2 => x1 ++ x2) acc.toArray (List.replicate k t.toArray) = (acc ++ (List.replicate k t).flatten).toArray
  | 0, acc => by simp
  | k + 1, acc => by
    rw [List.replicate_succ, List.foldl_cons, List.replicate_succ, List.flatten_cons, ← List.append_assoc, ← fold_rep t k (acc ++ t)]
    simp
theorem flat_len (t : List Nat) (k : Nat) : (List.replicate k t).flatten.length = k * t.length := by
  induction k with
  | zero => simp
  | succ k ih => rw [List.replicate_succ, List.flatten_cons, List.length_append, ih, Nat.succ_mul]; omega
theorem mul_text {X : Cx} {pins : List (Addr × Obj)} {σ : L2.St} {H : Hp} {s : Shared} {t : Tx} {k : Int} {v u : Value} {Q : VK} (I : Inv X pins σ H s) (rx : RelV (.str (tx t)) v) (ry : RelV (.int k) u) (c1 : 0 ≤ k) (c2 : k ≤ 1000) (c3 : t.length ≤ 1000)
    (q : ∀ v' H', Same H H' → (v' = .str (tx (List.replicate k.toNat t).flatten) ∧ (List.replicate k.toNat t).flatten.length ≤ sizeLine) → Q v' H') : wpAny (model X.prog X.w) X.A (binaryOp .Mult v u) (EP X pins σ Q) X.xe s := by
  obtain ⟨t1, rfl⟩ := rx
  obtain ⟨t2, rfl⟩ := ry
  have hlen : (List.replicate k.toNat t).flatten.length ≤ sizeLine := by
    rw [flat_len, sizeLine_eq]
    have h1 : k.toNat ≤ 1000 := by omega
    exact Nat.le_trans (Nat.mul_le_mul h1 c3) (by decide)
  have q := q _ H (Same.refl H) ⟨rfl, hlen⟩
  have hx : (tx t).length = t.length := SX.S_len t
  refine PySem.P.mul_str (by rw [decide_eq_false (by omega), decide_eq_false (by omega)]; rfl) (fun h1 _ => ?_) (fun h1 _ => ?_) ?_
  · rw [hx]
    have : (2 ^ 63 - 1 : Int) / k ≥ 1000 := by
      rw [ge_iff_le, Int.le_ediv_iff_mul_le (by omega)]
      have : 1000 * k ≤ 1000 * 1000 := Int.mul_le_mul_of_nonneg_left c2 (by decide)
      omega
    omega
  · rw [hx]
    have h1 : k.toNat ≤ 1000 := by omega
    have := Nat.mul_le_mul c3 h1
    exact PyProof.Rows.short24 (by omega)
  · split
    · rename_i h
      have hk : k.toNat = 0 := by omega
      rw [hk] at q
      exact ⟨by decide, .str (tx []), H, I.tok _, ⟨_, rfl⟩, q⟩
    · split
      · rename_i h1 h2
        rcases Bool.or_eq_true_iff.mp h2 with h | h
        · have hk : k = 1 := by simpa using h
          subst hk
          have e : (List.replicate (1 : Int).toNat t).flatten = t := by simp
          rw [e] at q
          exact ⟨.str (tx t), H, I, ⟨t1, rfl⟩, q⟩
        · rw [hx] at h
          have ht : t = [] := List.length_eq_zero_iff.mp (by simpa using h)
          subst ht
          have e : (List.replicate k.toNat ([] : Tx)).flatten = [] := List.length_eq_zero_iff.mp (by rw [flat_len]; simp)
          rw [e] at q
          exact ⟨.str (tx []), H, I, ⟨t1, rfl⟩, q⟩
      · have e : (List.replicate k.toNat (tx t).cps).foldl (fun x1 x2 => x1 ++ x2) #[] = (List.replicate k.toNat t).flatten.toArray := by
          have := fold_rep t k.toNat []
          simpa using this
        refine ⟨?_, .str (tx (List.replicate k.toNat t).flatten), H, I.tok _, ⟨s.toks, ?_⟩, q⟩
        · rw [e]
          show (List.replicate k.toNat t).flatten.toArray.size ≤ _
          simpa using hlen
        · rw [e]
theorem small_ok {i : Int} (h : smallI i = true) : -(2 ^ 64) < i ∧ i < 2 ^ 64 := by
  unfold smallI at h
  rw [Nat.blt_eq] at h
  omega
theorem op2_rule (op : Op2) : OpR X (binaryOp (opr op)) (rB X.K (op2 op) true) := by
  cases op with
  | add => exact op2_add
  | sub =>
    intro pins s σ H x y v u Q I rx ry h
    obtain ⟨a, b, d, ha, hb, e, q⟩ := h
    cases a with
    | int i =>
      cases b with
      | int j =>
        cases e
        exact op_sub pins s σ H x y v u Q I rx ry ⟨i, j, ha, hb, q _ H (Same.refl H) (fun _ _ _ _ => rfl) (fun _ => trivial)⟩
      | _ => cases e
    | _ => cases e
  | mul =>
    intro pins s σ H x y v u Q I rx ry h
    obtain ⟨a, b, d, ha, hb, e, q⟩ := h
    cases a with
    | int i =>
      cases b with
      | int j =>
        simp only [op2] at e
        split at e
        · rename_i hc
          cases e
          have hc : CMul i j := by
            rcases Bool.or_eq_true_iff.mp hc with h | h
            · exact .inl (small_ok h)
            · exact .inr (small_ok h)
          exact op_mul pins s σ H x y v u Q I rx ry ⟨i, j, ha, hb, hc, q _ H (Same.refl H) (fun _ _ _ _ => rfl) (fun _ => trivial)⟩
        · cases e
      | _ => cases e
    | str t =>
      cases b with
      | int k =>
        simp only [op2] at e
        split at e
        · rename_i hc
          cases e
          simp only [Bool.and_eq_true, decide_eq_true_eq] at hc
          obtain ⟨⟨c1, c2⟩, c3⟩ := hc
          have c3 : t.length ≤ 1000 := by simpa using c3
          have hb : y = .int k := hb
          subst hb
          have hx : x = .str (tx t) := ha.1
          subst hx
          exact mul_text I rx ry c1 c2 c3 fun v' H' s' hq => q v' H' s' (fun _ _ _ _ => hq) (fun _ => trivial)
        · cases e
      | _ => cases e
    | tup xs =>
      cases b with
      | int k =>
        simp only [op2] at e
        split at e
        · rename_i hc
          cases e
          simp only [Bool.and_eq_true, decide_eq_true_eq, Bool.not_eq_true', List.isEmpty_eq_false_iff] at hc
          obtain ⟨⟨⟨⟨c1, c2⟩, c3⟩, c4⟩, c5⟩ := hc
          have c4 : xs.length ≤ 1000 := by simpa using c4
          obtain ⟨l, ys, e1, r1, g1⟩ := ha
          subst e1
          have hb : y = .int k := hb
          subst hb
          have hl := g1.length
          refine op_repT pins s σ H _ _ v u Q I rx ry ⟨l, k, ys, rfl, rfl, r1.1, fun z => c1 (by subst z; exact List.length_eq_zero_iff.mp hl), c2, c3, by omega, fun p hp => ?_⟩
          refine q _ _ (same_upd hp) (fun Y zy k1 k2 => Rp.new_tup hp (prs_rep c5 (by omega)) ?_) (fun _ => trivial)
          obtain ⟨p2, zs, f, t2, g2⟩ := k1
          cases f
          have z := I.tuple_inj r1.1 t2.1
          subst z
          exact g2.rep _
        · cases e
      | _ => cases e
    | _ => cases e
  | fdiv =>
    intro pins s σ H x y v u Q I rx ry h
    obtain ⟨a, b, d, ha, hb, e, q⟩ := h
    cases a with
    | int i =>
      cases b with
      | int j =>
        simp only [op2] at e
        split at e
        · rename_i hc
          cases e
          simp only [Bool.and_eq_true, decide_eq_true_eq] at hc
          exact op_fdiv pins s σ H x y v u Q I rx ry ⟨i, j, ha, hb, hc, q _ H (Same.refl H) (fun _ _ _ _ => rfl) (fun _ => trivial)⟩
        · cases e
      | _ => cases e
    | _ => cases e
  | mod =>
    intro pins s σ H x y v u Q I rx ry h
    obtain ⟨a, b, d, ha, hb, e, q⟩ := h
    cases a with
    | int i =>
      cases b with
      | int j =>
        simp only [op2] at e
        split at e
        · rename_i hc
          cases e
          simp only [decide_eq_true_eq] at hc
          exact op_mod pins s σ H x y v u Q I rx ry ⟨i, j, ha, hb, hc, q _ H (Same.refl H) (fun _ _ _ _ => rfl) (fun _ => trivial)⟩
        · cases e
      | _ => cases e
    | _ => cases e
  | pow =>
    intro pins s σ H x y v u Q I rx ry h
    obtain ⟨a, b, d, ha, hb, e, q⟩ := h
    cases a with
    | int i =>
      cases b with
      | int j =>
        simp only [op2] at e
        split at e
        · rename_i hc
          cases e
          simp only [Bool.and_eq_true, decide_eq_true_eq, Nat.blt_eq] at hc
          exact op_pow pins s σ H x y v u Q I rx ry ⟨i, j, ha, hb, ⟨hc.1.1, by omega, by omega⟩, q _ H (Same.refl H) (fun _ _ _ _ => rfl) (fun _ => trivial)⟩
        · cases e
      | _ => cases e
    | _ => cases e
  | band =>
    intro pins s σ H x y v u Q I rx ry h
    obtain ⟨a, b, d, ha, hb, e, q⟩ := h
    cases a with
    | int i =>
      cases b with
      | int j =>
        cases e
        exact op_and pins s σ H x y v u Q I rx ry ⟨i, j, ha, hb, q _ H (Same.refl H) (fun _ _ _ _ => rfl) (fun _ => trivial)⟩
      | _ => cases e
    | _ => cases e

/-! ### comparisons -/
theorem flat_ok {d : D} (h : d.flat = true) : d.plain = true ∧ d.dep ≤ 60 := by
  unfold D.flat at h
  simp only [Bool.and_eq_true] at h
  exact ⟨h.1, Nat.le_of_ble_eq_true h.2⟩
theorem nil_len {K : PySem.W.Frag} {H : Hp} {d : D} {ds : List D} {xs ys : List V} {us ws : List Value} (g1 : RpL K Em H (d :: ds) xs) (g2 : RpL K Em H [] ys) (r1 : Vals xs us) (r2 : Vals ys ws) : (us.toArray.size != ws.toArray.size) = true := by
  have h2 : ys = [] := g2
  subst h2
  cases r2
  obtain ⟨v, vs, rfl, _, _⟩ := g1
  cases r1
  rfl
theorem cmp_eq (hu : X.A.units + 100 < cLine) : OpR X (compareOp .Eq) (rC X.K eqR) := by
  intro pins s σ H x y v u Q I rx ry h
  obtain ⟨a, b, k, ha, hb, e, q⟩ := h
  unfold eqR at e
  split at e
  · rename_i hf
    cases e
    simp only [Bool.and_eq_true] at hf
    obtain ⟨p1, d1⟩ := flat_ok hf.1
    obtain ⟨p2, d2⟩ := flat_ok hf.2
    obtain ⟨as, r1⟩ := Rp.reads I a x v p1 ha rx
    obtain ⟨bs, r2⟩ := Rp.reads I b y u p2 hb ry
    refine PySem.SeqAt.eq_plain r1 r2 (py_plain a p1) (py_plain b p2) ?_ ⟨.bl _, H, I, rfl, by rw [py_eqv a b p1 p2]; exact q⟩
    rw [py_dep, py_dep]
    have := Nat.min_le_left a.dep b.dep
    omega
  · split at e
    · cases e
      obtain ⟨p1, xs, e1, r1, g1⟩ := ha
      obtain ⟨p2, ys, e2, r2, g2⟩ := hb
      subst e1 e2
      obtain ⟨its, rv, hl, hz⟩ := I.list (.inl r1)
      obtain ⟨its2, rv2, hl2, hz2⟩ := I.list (.inl r2)
      cases rx
      cases ry
      exact PySem.SeqAt.RcAt.lists_lengths hl.isList hl2.isList (nil_len g1 g2 rv rv2) (by omega) _ _ _ _ ⟨.bl _, H, I, rfl, q⟩
    · cases e
theorem cmp_ne (hu : X.A.units + 100 < cLine) : OpR X (compareOp .NotEq) (rC X.K fun a b => mapR (!·) (eqR a b)) := by
  intro pins s σ H x y v u Q I rx ry h
  obtain ⟨a, b, k, ha, hb, e, q⟩ := h
  cases hf : (a.flat && b.flat) with
  | true =>
    have e : mapR (!·) (eqR a b) = .ok k := e
    unfold eqR at e
    rw [hf] at e
    cases e
    simp only [Bool.and_eq_true] at hf
    obtain ⟨p1, d1⟩ := flat_ok hf.1
    obtain ⟨p2, d2⟩ := flat_ok hf.2
    obtain ⟨as, r1⟩ := Rp.reads I a x v p1 ha rx
    obtain ⟨bs, r2⟩ := Rp.reads I b y u p2 hb ry
    refine PySem.SeqAt.ne_plain r1 r2 (py_plain a p1) (py_plain b p2) ?_ ⟨.bl _, H, I, rfl, by rw [py_eqv a b p1 p2]; exact q⟩
    rw [py_dep, py_dep]
    have := Nat.min_le_left a.dep b.dep
    omega
  | false =>
    have e : mapR (!·) (eqR a b) = .ok k := e
    unfold eqR at e
    rw [hf] at e
    simp only [Bool.false_eq_true, if_false] at e
    split at e
    · cases e
      obtain ⟨p1, xs, e1, r1, g1⟩ := ha
      obtain ⟨p2, ys, e2, r2, g2⟩ := hb
      subst e1 e2
      obtain ⟨its, rv, hl, hz⟩ := I.list (.inl r1)
      obtain ⟨its2, rv2, hl2, hz2⟩ := I.list (.inl r2)
      cases rx
      cases ry
      exact PySem.SeqAt.RcNeAt.lists_lengths hl.isList hl2.isList (nil_len g1 g2 rv rv2) (by omega) _ _ _ _ ⟨.bl _, H, I, rfl, q⟩
    · cases e
end
end Pw

/-! text PwC2 -/
/-! more of the layer's rules upon data: in, is, places, cuts, truth, built-ins -/
namespace Pw
open PySem PySem.Spec PyProof.Rows L2

section
variable {X : Cx} {pins : List (Addr × Obj)} {σ : L2.St} {H : Hp} {s : Shared}
theorem list_of_rpr (I : Inv X pins σ H s) {Y : Addr → Prop} {ds : List D} {x : V} {a : Addr} {xs : List V} (e : x = .ref a) (r : Rd H a (.lst xs)) (k : RpR X.K Y H (.lst ds) x) : RpL X.K Y H ds xs := by
  obtain ⟨p, ys, f, t, g⟩ := k
  rw [e] at f; cases f
  have z := I.list_inj (.inl r) (.inl t)
  subst z
  exact g
theorem tuple_of_rpr (I : Inv X pins σ H s) {Y : Addr → Prop} {ds : List D} {x : V} {a : Addr} {xs : List V} (e : x = .ref a) (r : SqT X.K H a xs) (k : RpR X.K Y H (.tup ds) x) : RpL X.K Y H ds xs := by
  obtain ⟨p, ys, f, t, g⟩ := k
  rw [e] at f; cases f
  have z := I.tuple_inj r t.1
  subst z
  exact g
end

section
variable {X : Cx}
theorem memR_ok {x : D} {xs : List D} {k : Bool} (h : memR x xs = .ok k) : x.plain = true ∧ x.dep ≤ 60 ∧ D.plainL xs = true ∧ k = xs.any fun y => y.eqv x := by
  cases hf : (x.flat && D.plainL xs) with
  | true =>
    unfold memR at h
    rw [hf] at h
    cases h
    simp only [Bool.and_eq_true] at hf
    exact ⟨(flat_ok hf.1).1, (flat_ok hf.1).2, hf.2, rfl⟩
  | false =>
    unfold memR at h
    rw [hf] at h
    cases h
theorem inR_cases {a b : D} {k : Bool} (h : inR a b = .ok k) : (∃ c s, a = .str [c] ∧ b = .str s ∧ k = decide (c ∈ s)) ∨ (∃ xs, b = .lst xs ∧ memR a xs = .ok k) ∨ (∃ xs, b = .tup xs ∧ memR a xs = .ok k) ∨ ∃ ks vs, b = .dct ks vs ∧ isKey a = true ∧ k = dhas a ks := by
  cases b with
  | lst xs =>
    refine .inr (.inl ⟨xs, rfl, ?_⟩)
    cases a with
    | str s =>
      rcases s with _ | ⟨c, _ | ⟨c2, s⟩⟩ <;> exact h
    | _ => exact h
  | tup xs =>
    refine .inr (.inr (.inl ⟨xs, rfl, ?_⟩))
    cases a with
    | str s =>
      rcases s with _ | ⟨c, _ | ⟨c2, s⟩⟩ <;> exact h
    | _ => exact h
  | dct ks vs =>
    refine .inr (.inr (.inr ⟨ks, vs, rfl, ?_⟩))
    have h : (if isKey a then R.ok (dhas a ks) else R.bad) = .ok k := by
      cases a with
      | str s =>
        rcases s with _ | ⟨c, _ | ⟨c2, s⟩⟩ <;> exact h
      | _ => exact h
    split at h
    · rename_i hk
      cases h
      exact ⟨hk, rfl⟩
    · cases h
  | str s =>
    cases a with
    | str t =>
      rcases t with _ | ⟨c, _ | ⟨c2, t⟩⟩
      · cases h
      · cases h
        exact .inl ⟨c, s, rfl, rfl, rfl⟩
      · cases h
    | _ => cases h
  | _ =>
    cases a with
    | str t => rcases t with _ | ⟨c, _ | ⟨c2, t⟩⟩ <;> cases h
    | _ => cases h
/-! ### keys -/
theorem keq_kD (a b : Key) : keq (kD a) (kD b) = decide (a = b) := by
  cases a with
  | inl i =>
    cases b with
    | inl j =>
      show decide (i = j) = _
      by_cases e : i = j
      · subst e; simp
      · rw [decide_eq_false e, decide_eq_false (fun z => e (Sum.inl.inj z))]
    | inr y => rfl
  | inr x =>
    cases b with
    | inl j => rfl
    | inr y =>
      show decide (x.cps.toList = y.cps.toList) = _
      by_cases e : x = y
      · subst e; simp
      · rw [decide_eq_false (fun z => e ?_), decide_eq_false (fun z => e (Sum.inr.inj z))]
        obtain ⟨x⟩ := x
        obtain ⟨y⟩ := y
        exact congrArg _ (Array.toList_inj.mp z)
theorem key_of_d {a : D} (h : isKey a = true) : ∃ k : Key, a = kD k ∧ ∀ {K : PySem.W.Frag} {Y : Addr → Prop} {H : Hp} {x : V}, RpR K Y H a x → x = kV k := by
  cases a with
  | int i => exact ⟨.inl i, rfl, fun r => r⟩
  | str s => exact ⟨.inr (tx s), rfl, fun r => r.1⟩
  | _ => cases h
theorem dfind_ok {K : PySem.W.Frag} {Y : Addr → Prop} {H : Hp} (k : Key) : ∀ {kvs : List (Key × V)} {vs : List D}, RpL K Y H vs (kvs.map fun p => p.2) →
    (∀ d, dfind (kD k) (kvs.map fun p => kD p.1) vs = some d → ∃ v, valV kvs k = some v ∧ Rp K Y H d v) ∧ (dfind (kD k) (kvs.map fun p => kD p.1) vs = none → valV kvs k = none) ∧ dhas (kD k) (kvs.map fun p => kD p.1) = (valV kvs k).isSome
  | [], vs, h => ⟨fun d e => by simp [dfind] at e, fun _ => rfl, rfl⟩
  | p :: kvs, vs, h => by
    cases vs with
    | nil =>
      have h : (p :: kvs).map (fun p => p.2) = [] := h
      simp at h
    | cons d0 vs =>
      obtain ⟨v, ws, e, h1, h2⟩ := h
      cases e
      obtain ⟨i1, i2, i3⟩ := dfind_ok (K := K) (Y := Y) (H := H) k h2
      by_cases hk : p.1 = k
      · have e1 : keq (kD p.1) (kD k) = true := by rw [keq_kD]; exact decide_eq_true hk
        rw [valV_pos hk]
        refine ⟨fun d e => ?_, fun e => ?_, ?_⟩
        · simp only [List.map_cons, dfind, e1, if_true] at e
          cases e
          exact ⟨_, rfl, h1⟩
        · simp only [List.map_cons, dfind, e1, if_true] at e
          cases e
        · simp [dhas, e1]
      · have e1 : keq (kD p.1) (kD k) = false := by rw [keq_kD]; exact decide_eq_false hk
        rw [valV_neg hk]
        refine ⟨fun d e => i1 d ?_, fun e => i2 ?_, ?_⟩
        · simpa only [List.map_cons, dfind, e1, Bool.false_eq_true, if_false] using e
        · simpa only [List.map_cons, dfind, e1, Bool.false_eq_true, if_false] using e
        · rw [← i3]; simp [dhas, e1]
theorem dict_of_rpr {X : Cx} {pins : List (Addr × Obj)} {σ : L2.St} {H : Hp} {s : Shared} (I : Inv X pins σ H s) {Y : Addr → Prop} {ks vs : List D} {x : V} {a : Addr} {kvs : List (Key × V)} (e : x = .ref a) (r : Rd H a (.dK kvs)) (k : RpR X.K Y H (.dct ks vs) x) : RpL X.K Y H vs (kvs.map fun p => p.2) := by
  obtain ⟨p, ys, f, t, _, _, g⟩ := k
  rw [e] at f; cases f
  have z : kvs = ys := by
    rcases r with r | ⟨o, r⟩ <;> rcases t with t | ⟨o', t⟩ <;> (rw [r] at t; cases t; first | done | rfl)
  subst z
  exact g
theorem cmp_in (hu : X.A.units + 100 < cLine) : OpR X (compareOp .In) (rC X.K inR) := by
  intro pins s σ H x y v u Q I rx ry h
  obtain ⟨a, b, k, ha, hb, e, q⟩ := h
  rcases inR_cases e with ⟨c, t, rfl, rfl, rfl⟩ | ⟨xs, rfl, e3⟩ | ⟨xs, rfl, e3⟩ | ⟨ks, vs, rfl, hk, rfl⟩
  · exact op_in_sign pins s σ H x y v u Q I rx ry ⟨c, tx t, ha.1, hb.1, q⟩
  · obtain ⟨p1, d1, p2, rfl⟩ := memR_ok e3
    obtain ⟨as, r1⟩ := Rp.reads I a x v p1 ha rx
    obtain ⟨bs, r2⟩ := Rp.reads I (.lst xs) y u (by simpa [D.plain] using p2) hb ry
    refine PySem.SeqAt.in_list_data r2 r1 (py_plainL xs p2) (py_plain a p1) ?_ ⟨.bl _, H, I, rfl, by rw [any_py a p1 xs p2]; exact q⟩
    rw [py_dep]
    have := Nat.min_le_right (PyData.depthAll (D.pyL xs)) a.dep
    omega
  · obtain ⟨p1, d1, p2, rfl⟩ := memR_ok e3
    obtain ⟨as, r1⟩ := Rp.reads I a x v p1 ha rx
    obtain ⟨bs, r2⟩ := Rp.reads I (.tup xs) y u (by simpa [D.plain] using p2) hb ry
    refine PySem.SeqAt.in_tuple_data r2 r1 (py_plainL xs p2) (py_plain a p1) ?_ ⟨.bl _, H, I, rfl, by rw [any_py a p1 xs p2]; exact q⟩
    rw [py_dep]
    have := Nat.min_le_right (PyData.depthAll (D.pyL xs)) a.dep
    omega
  · obtain ⟨kk, rfl, hx⟩ := key_of_d hk
    have hx := hx ha
    obtain ⟨p, kvs, e1, r, ek, _, g⟩ := hb
    subst e1 ek hx
    cases ry
    obtain ⟨_, _, i3⟩ := dfind_ok kk g
    rw [i3] at q
    exact d_in (by omega) I (.inl ⟨kvs, kk, r, rfl, rfl⟩) rx fun s' I' => ⟨.bl _, H, I', rfl, q⟩
theorem mapR_ok {A B : Type} {f : A → B} {x : R A} {b : B} (h : mapR f x = .ok b) : ∃ a, x = .ok a ∧ b = f a := by
  obtain ⟨a, e, g⟩ := R.bind_ok h
  cases g
  exact ⟨a, e, rfl⟩
theorem cmp_notin (hu : X.A.units + 100 < cLine) : OpR X (compareOp .NotIn) (rC X.K fun a b => mapR (!·) (inR a b)) := by
  intro pins s σ H x y v u Q I rx ry h
  obtain ⟨a, b, k, ha, hb, e, q⟩ := h
  obtain ⟨k', e2, rfl⟩ := mapR_ok e
  rcases inR_cases e2 with ⟨c, t, rfl, rfl, rfl⟩ | ⟨xs, rfl, e3⟩ | ⟨xs, rfl, e3⟩ | ⟨ks, vs, rfl, hk, rfl⟩
  · exact op_notIn_sign pins s σ H x y v u Q I rx ry ⟨c, tx t, ha.1, hb.1, q⟩
  · obtain ⟨p1, d1, p2, rfl⟩ := memR_ok e3
    obtain ⟨as, r1⟩ := Rp.reads I a x v p1 ha rx
    obtain ⟨bs, r2⟩ := Rp.reads I (.lst xs) y u (by simpa [D.plain] using p2) hb ry
    refine PySem.SeqAt.notIn_list_data r2 r1 (py_plainL xs p2) (py_plain a p1) ?_ ⟨.bl _, H, I, rfl, by rw [any_py a p1 xs p2]; exact q⟩
    rw [py_dep]
    have := Nat.min_le_right (PyData.depthAll (D.pyL xs)) a.dep
    omega
  · obtain ⟨p1, d1, p2, rfl⟩ := memR_ok e3
    obtain ⟨as, r1⟩ := Rp.reads I a x v p1 ha rx
    obtain ⟨bs, r2⟩ := Rp.reads I (.tup xs) y u (by simpa [D.plain] using p2) hb ry
    refine PySem.SeqAt.notIn_tuple_data r2 r1 (py_plainL xs p2) (py_plain a p1) ?_ ⟨.bl _, H, I, rfl, by rw [any_py a p1 xs p2]; exact q⟩
    rw [py_dep]
    have := Nat.min_le_right (PyData.depthAll (D.pyL xs)) a.dep
    omega
  · obtain ⟨kk, rfl, hx⟩ := key_of_d hk
    have hx := hx ha
    obtain ⟨p, kvs, e1, r, ek, _, g⟩ := hb
    subst e1 ek hx
    cases ry
    obtain ⟨_, _, i3⟩ := dfind_ok kk g
    rw [i3] at q
    exact d_notIn (by omega) I (.inl ⟨kvs, kk, r, rfl, rfl⟩) rx fun s' I' => ⟨.bl _, H, I', rfl, q⟩
theorem isR_cases {a b : D} {k : Bool} (h : isR a b = .ok k) : (b = .non ∧ k = a.isNon) ∨ ∃ i j, a = .bl i ∧ b = .bl j ∧ k = decide (i = j) := by
  cases b with
  | non =>
    cases a <;> (cases h; exact .inl ⟨rfl, rfl⟩)
  | bl j =>
    cases a with
    | bl i =>
      cases h
      exact .inr ⟨i, j, rfl, rfl, rfl⟩
    | _ => cases h
  | _ => cases a <;> cases h
theorem non_iff {K : PySem.W.Frag} {Z : Addr → Prop} {H : Hp} {a : D} {x : V} (h : RpR K Z H a x) : decide (x = .non) = a.isNon := by
  cases a with
  | non => exact decide_eq_true h
  | bl b => rw [show x = _ from h]; rfl
  | int b => rw [show x = _ from h]; rfl
  | str b => rw [h.1]; rfl
  | lst b => obtain ⟨_, _, e, _⟩ := h; rw [e]; rfl
  | tup b => obtain ⟨_, _, e, _⟩ := h; rw [e]; rfl
  | dct _ _ => obtain ⟨_, _, e, _⟩ := h; rw [e]; rfl
  | exc _ => obtain ⟨_, e, _⟩ := h; rw [e]; rfl
  | loc _ => exact (show False from h).elim
  | ins _ _ _ => obtain ⟨_, _, _, e, _⟩ := h; rw [e]; rfl
theorem cmp_is : OpR X (compareOp .Is) (rC X.K isR) := by
  intro pins s σ H x y v u Q I rx ry h
  obtain ⟨a, b, k, ha, hb, e, q⟩ := h
  rcases isR_cases e with ⟨rfl, rfl⟩ | ⟨i, j, rfl, rfl, rfl⟩
  · exact op_isN pins s σ H x y v u Q I rx ry ⟨hb, by rw [non_iff ha]; exact q⟩
  · exact op_isBl pins s σ H x y v u Q I rx ry ⟨i, j, ha, hb, q⟩
theorem cmp_isnot : OpR X (compareOp .IsNot) (rC X.K fun a b => mapR (!·) (isR a b)) := by
  intro pins s σ H x y v u Q I rx ry h
  obtain ⟨a, b, k, ha, hb, e, q⟩ := h
  obtain ⟨k', e2, rfl⟩ := mapR_ok e
  rcases isR_cases e2 with ⟨rfl, rfl⟩ | ⟨i, j, rfl, rfl, rfl⟩
  · exact op_notN pins s σ H x y v u Q I rx ry ⟨hb, by rw [non_iff ha]; exact q⟩
  · exact op_notBl pins s σ H x y v u Q I rx ry ⟨i, j, ha, hb, q⟩
theorem cmp_int {f : D → D → R Bool} {g : Int → Int → Bool} {o : CmpOp} (hf : ∀ a b k, f a b = .ok k → ∃ i j, a = .int i ∧ b = .int j ∧ k = g i j)
    (ho : OpR X (compareOp o) (rI0 fun i j => .bl (g i j))) : OpR X (compareOp o) (rC X.K f) := by
  intro pins s σ H x y v u Q I rx ry h
  obtain ⟨a, b, k, ha, hb, e, q⟩ := h
  obtain ⟨i, j, rfl, rfl, rfl⟩ := hf a b k e
  exact ho pins s σ H x y v u Q I rx ry ⟨i, j, ha, hb, q⟩
theorem cmp_rule (hu : X.A.units + 100 < cLine) (op : Cm) : OpR X (compareOp (cmr op)) (rC X.K (cmpB op)) := by
  cases op with
  | eq => exact cmp_eq hu
  | ne => exact cmp_ne hu
  | lt => exact cmp_int (f := cmpB .lt) (fun a b k e => by cases a <;> cases b <;> first | (cases e; exact ⟨_, _, rfl, rfl, rfl⟩) | cases e) op_lt
  | le => exact cmp_int (f := cmpB .le) (fun a b k e => by cases a <;> cases b <;> first | (cases e; exact ⟨_, _, rfl, rfl, rfl⟩) | cases e) op_le
  | gt => exact cmp_int (f := cmpB .gt) (fun a b k e => by cases a <;> cases b <;> first | (cases e; exact ⟨_, _, rfl, rfl, rfl⟩) | cases e) op_gt
  | ge => exact cmp_int (f := cmpB .ge) (fun a b k e => by cases a <;> cases b <;> first | (cases e; exact ⟨_, _, rfl, rfl, rfl⟩) | cases e) op_ge
  | isin => exact cmp_in hu
  | notin => exact cmp_notin hu
  | is => exact cmp_is
  | isnot => exact cmp_isnot

/-! ### places -/
theorem atI_eq {A : Type} (xs : List A) (i : Int) : L2.atI xs i = Pw.atI xs i := rfl
theorem RpL.atI {K : PySem.W.Frag} {Z : Addr → Prop} {H : Hp} {ds : List D} {xs : List V} {i : Int} {d : D} (h : RpL K Z H ds xs) (e : Pw.atI ds i = some d) : ∃ v, Pw.atI xs i = some v ∧ Rp K Z H d v := by
  unfold Pw.atI at e ⊢
  rw [← h.length]
  cases q : Pw.ixN ds.length i with
  | none => rw [q] at e; cases e
  | some j =>
    rw [q] at e
    exact h.get e
theorem RpL.atI' {K : PySem.W.Frag} {Z : Addr → Prop} {H : Hp} {ds : List D} {xs : List V} {i : Int} {d : D} {v : V} (h : RpL K Z H ds xs) (e : Pw.atI ds i = some d) (g : Pw.atI xs i = some v) : Rp K Z H d v := by
  obtain ⟨u, a, b⟩ := h.atI e
  rw [g] at a; cases a
  exact b
theorem idx_rule (hu : X.A.units + 100 < cLine) : IxR X (rB X.K idxR false) := by
  intro vl sl pins s σ H x y v u Q I rx ry h hs
  obtain ⟨a, b, d, ha, hb, e, q⟩ := h
  by_cases hda : ∃ ks vs, a = .dct ks vs
  · obtain ⟨ks, vs, rfl⟩ := hda
    have e : (if isKey b then ofO (dfind b ks vs) else R.bad) = .ok d := e
    split at e
    · rename_i hk
      obtain ⟨kk, rfl, hy⟩ := key_of_d hk
      have hy := hy hb
      obtain ⟨p, kvs, e1, r, ek, el, g⟩ := id ha
      subst e1 ek hy
      cases rx
      obtain ⟨i1, i2, _⟩ := dfind_ok kk g
      cases ef : dfind (kD kk) (kvs.map fun p => kD p.1) vs with
      | none => rw [ef] at e; cases e
      | some d0 =>
        rw [ef] at e
        cases e
        obtain ⟨w, hw, rw0⟩ := i1 _ ef
        have G : DGet H p (kV kk) (some w) := .inl ⟨kvs, kk, r, rfl, hw.symm⟩
        refine tail_any (dict_typeIs I G) PySem.F.slot_dict_getitem.lookup (d_getItem (by omega) I G ry fun w' s' I' rw' => ⟨w, H, I', rw', ?_⟩) hs
        refine q w H (Same.refl H) (fun Y _ k1 _ => ?_) (fun z => by cases z)
        have g2 := dict_of_rpr I rfl r k1
        obtain ⟨j1, _, _⟩ := dfind_ok kk g2
        obtain ⟨w2, hw2, rw2⟩ := j1 _ ef
        rw [hw] at hw2
        cases hw2
        exact rw2
    · cases e
  cases b with
  | int i =>
    cases a with
    | lst ds =>
      obtain ⟨p, xs, e1, r1, g1⟩ := ha
      cases e2 : Pw.atI ds i with
      | none =>
        have e : ofO (Pw.atI ds i) = .ok d := e
        rw [e2] at e; cases e
      | some dd =>
        have e : ofO (Pw.atI ds i) = .ok d := e
        rw [e2] at e
        cases e
        obtain ⟨w, hw, rw⟩ := g1.atI e2
        refine ix_list vl sl pins s σ H x y v u Q I rx ry ⟨p, xs, i, w, e1, hb, .inl r1, hw, ?_⟩ hs
        exact q w H (Same.refl H) (fun Y _ k1 _ => (list_of_rpr I e1 r1 k1).atI' e2 hw) (fun z => by cases z)
    | tup ds =>
      obtain ⟨p, xs, e1, r1, g1⟩ := ha
      cases e2 : Pw.atI ds i with
      | none =>
        have e : ofO (Pw.atI ds i) = .ok d := e
        rw [e2] at e; cases e
      | some dd =>
        have e : ofO (Pw.atI ds i) = .ok d := e
        rw [e2] at e
        cases e
        obtain ⟨w, hw, rw⟩ := g1.atI e2
        refine ix_tup vl sl pins s σ H x y v u Q I rx ry ⟨p, xs, i, w, e1, hb, r1.1, hw, ?_⟩ hs
        exact q w H (Same.refl H) (fun Y _ k1 _ => (tuple_of_rpr I e1 r1.1 k1).atI' e2 hw) (fun z => by cases z)
    | str t =>
      cases e2 : Pw.atI t i with
      | none =>
        have e : mapR (fun c => D.str [c]) (ofO (Pw.atI t i)) = .ok d := e
        rw [e2] at e; cases e
      | some c =>
        have e : mapR (fun c => D.str [c]) (ofO (Pw.atI t i)) = .ok d := e
        rw [e2] at e
        cases e
        refine ix_str vl sl pins s σ H x y v u Q I rx ry ⟨tx t, i, c, ha.1, hb, by rw [SX.S_len]; exact ha.2, e2, ?_⟩ hs
        exact q _ H (Same.refl H) (fun Y _ _ _ => ⟨rfl, by show 1 ≤ sizeLine; rw [sizeLine_eq]; decide⟩) (fun z => by cases z)
    | dct ks vs => exact absurd ⟨ks, vs, rfl⟩ hda
    | _ => cases e
  | _ =>
    cases a with
    | dct ks vs => exact absurd ⟨ks, vs, rfl⟩ hda
    | _ => cases e

/-! ### cuts -/
theorem sIx_eq (n d : Nat) (o : Option Int) : HT.sIx n d o = Pw.sIx n d o := by cases o <;> rfl
theorem cutV_eq (xs : List V) (lo hi : Option Int) : L2.cutV xs lo hi = Pw.cut xs lo hi := by
  unfold L2.cutV Pw.cut
  rw [sIx_eq, sIx_eq]
theorem RpL.cut {K : PySem.W.Frag} {Z : Addr → Prop} {H : Hp} {ds : List D} {xs : List V} (h : RpL K Z H ds xs) (lo hi : Option Int) : RpL K Z H (Pw.cut ds lo hi) (Pw.cut xs lo hi) := by
  unfold Pw.cut
  rw [← h.length]
  exact (h.drop _).take _
theorem cut_whole {A : Type} (xs : List A) {lo hi : Option Int} (h1 : Pw.sIx xs.length 0 lo = 0) (h2 : Pw.sIx xs.length xs.length hi = xs.length) : Pw.cut xs lo hi = xs := by
  unfold Pw.cut
  rw [h1, h2]
  simp
theorem cut_le {A : Type} (xs : List A) (lo hi : Option Int) : (Pw.cut xs lo hi).length ≤ xs.length := by
  unfold Pw.cut
  rw [List.length_take, List.length_drop]
  omega
/-- a cut -/
def rS (K : PySem.W.Frag) : V → Option Int → Option Int → Hp → VK → Prop := fun x lo hi H Q => ∃ a d, RpR K Em H a x ∧ slR a lo hi = .ok d ∧
  ∀ v H', Same H H' → (∀ Y, ZOk Y H → RpR K Y H a x → Rp K Y H' d v) → Fr H H' d v → Q v H'
theorem sl_rule : SlR X (rS X.K) := by
  intro pins s σ H x v vl vu lo hi sl Q I rx hs pl pu h
  obtain ⟨a, d, ha, e, q⟩ := h
  cases a with
  | lst ds =>
    cases e
    obtain ⟨p, xs, e1, r1, g1⟩ := ha
    refine sl_list pins s σ H x v vl vu lo hi sl Q I rx hs pl pu ⟨p, xs, e1, .inl r1, fun t ht => ?_⟩
    refine q _ _ (same_upd ht) (fun Y zy k1 => ?_) ⟨t, _, rfl, ht, upd_same⟩
    have k := list_of_rpr I e1 r1 k1
    rw [cutV_eq]
    exact Rp.new_lst ht (zy.not_none ht) (k.cut lo hi)
  | tup ds =>
    cases e
    obtain ⟨p, xs, e1, r1, g1⟩ := ha
    refine sl_tupN pins s σ H x v vl vu lo hi sl Q I rx hs pl pu ⟨p, xs, e1, r1.1, fun hw => ?_, fun _ => ?_⟩
    · refine q _ H (Same.refl H) (fun Y zy k1 => ?_) trivial
      rw [sIx_eq, sIx_eq] at hw
      rw [cut_whole ds (by rw [g1.length]; exact hw.1) (by rw [g1.length]; exact hw.2), ← e1]
      exact k1
    · rw [cutV_eq]
      cases hp : prs (Pw.cut ds lo hi) with
      | false => exact .inl fun t ht => q _ _ (same_upd ht) (fun Y zy k1 => Rp.new_tup ht hp ((tuple_of_rpr I e1 r1.1 k1).cut lo hi)) trivial
      | true => exact .inr fun t its ht => q _ _ (same_upd ht) (fun Y zy k1 => Rp.new_known ht ((tuple_of_rpr I e1 r1.1 k1).cut lo hi)) trivial
  | str t =>
    cases e
    refine sl_str pins s σ H x v vl vu lo hi sl Q I rx hs pl pu ⟨tx t, ha.1, by rw [SX.S_len]; exact ha.2, ?_⟩
    have e2 : cutS (tx t) lo hi = tx (Pw.cut t lo hi) := by
      unfold cutS Pw.cut
      rw [sIx_eq, sIx_eq, SX.S_len]
    rw [e2]
    exact q _ H (Same.refl H) (fun Y _ _ => ⟨rfl, Nat.le_trans (cut_le t lo hi) ha.2⟩) trivial
  | _ => cases e

/-! ### truth -/
theorem tru_rule {K : PySem.W.Frag} {Z : Addr → Prop} {H : Hp} {a : D} {x : V} (h : RpR K Z H a x) (hx : noX a ≠ .bad) : TruV K x H a.truth := by
  cases a with
  | non => rw [show x = _ from h]; rfl
  | bl b => rw [show x = _ from h]; rfl
  | int b => rw [show x = _ from h]; rfl
  | str b =>
    rw [h.1]
    refine ⟨by rw [SX.S_len]; exact h.2, ?_⟩
    show (!b.isEmpty) = (((tx b).length : Int) != 0)
    rw [SX.S_len]
    cases b <;> simp <;> omega
  | lst ds =>
    obtain ⟨a, xs, e, r, g⟩ := h
    rw [e]
    exact .inl ⟨xs, .inl r, by show (!ds.isEmpty) = _; rw [g.nil_iff]⟩
  | tup ds =>
    obtain ⟨a, xs, e, r, g⟩ := h
    rw [e]
    exact .inr (.inl ⟨xs, r.1, by show (!ds.isEmpty) = _; rw [g.nil_iff]⟩)
  | dct _ _ => exact absurd rfl hx
  | exc _ => exact absurd rfl hx
  | loc _ => exact absurd rfl hx
  | ins _ _ _ => exact absurd rfl hx
end
end Pw

/-! text PwP -/
/-! built-ins upon data -/
namespace Pw
open PySem PySem.Spec PyProof.Rows L2

def ArgsR (K : PySem.W.Frag) (Y : Addr → Prop) (H : Hp) : List D → List V → Prop
  | [], xs => xs = []
  | d :: ds, xs => ∃ v vs, xs = v :: vs ∧ RpR K Y H d v ∧ ArgsR K Y H ds vs
theorem ArgsR.one {K : PySem.W.Frag} {Y : Addr → Prop} {H : Hp} {d : D} {xs : List V} (h : ArgsR K Y H [d] xs) : ∃ v, xs = [v] ∧ RpR K Y H d v := by
  obtain ⟨v, vs, e, h1, h2⟩ := h
  have h2 : vs = [] := h2
  subst h2
  exact ⟨v, e, h1⟩
theorem ArgsR.of1 {K : PySem.W.Frag} {Y : Addr → Prop} {H : Hp} {d : D} {v : V} (h : ArgsR K Y H [d] [v]) : RpR K Y H d v := by
  obtain ⟨u, e, h1⟩ := h.one
  cases e
  exact h1

/-- a built-in's call -/
def rP (K : PySem.W.Frag) (f : List D → R D) : List V → Hp → VK → Prop := fun xs H Q => ∃ ds d, ArgsR K Em H ds xs ∧ f ds = .ok d ∧
  ∀ v H', Same H H' → (∀ Y, ZOk Y H → ArgsR K Y H ds xs → Rp K Y H' d v) → Fr H H' d v → Q v H'

section
variable {X : Cx}
theorem pr_len : CallR X (.builtin "len") (rP X.K (prR .len)) := by
  intro pins s σ H xs us Q I r h
  obtain ⟨ds, d, ha, e, q⟩ := h
  match ds, e, ha with
  | [.str t], e, ha =>
    cases e
    obtain ⟨v, rfl, h1⟩ := ha.one
    refine call_len pins s σ H _ us Q I r ⟨v, t.length, rfl, ?_, q _ H (Same.refl H) (fun _ _ _ => rfl) trivial⟩
    rw [h1.1]
    exact ⟨by rw [SX.S_len]; exact h1.2, by rw [SX.S_len]⟩
  | [.lst t], e, ha =>
    cases e
    obtain ⟨v, rfl, p, ys, e1, r1, g1⟩ := ha.one
    subst e1
    exact call_len pins s σ H _ us Q I r ⟨_, t.length, rfl, .inl ⟨ys, .inl r1, g1.length⟩, q _ H (Same.refl H) (fun _ _ _ => rfl) trivial⟩
  | [.tup t], e, ha =>
    cases e
    obtain ⟨v, rfl, p, ys, e1, r1, g1⟩ := ha.one
    subst e1
    exact call_len pins s σ H _ us Q I r ⟨_, t.length, rfl, .inr ⟨ys, r1.1, g1.length⟩, q _ H (Same.refl H) (fun _ _ _ => rfl) trivial⟩
  | [.dct ks vs], e, ha =>
    cases e
    obtain ⟨v, rfl, p, kvs, e1, r1, ek, el, g1⟩ := ha.one
    subst e1 ek
    obtain ⟨u, rfl, rx⟩ := vals1 r
    cases rx
    have q0 := q (.int ((kvs.map fun (p : Key × V) => kD p.1).length : Nat)) H (Same.refl H) (fun _ _ _ => rfl) trivial
    rw [List.length_map] at q0
    exact d_len I r1 fun t s' I' => ⟨.int kvs.length, H, I', ⟨t, rfl⟩, q0⟩
theorem ofO_ok {A : Type} {o : Option A} {a : A} (h : ofO o = .ok a) : o = some a := by
  cases o with
  | none => cases h
  | some b => cases h; rfl
theorem pr_all (hc : X.calm = true) : CallR X (.builtin "all") (rP X.K (prR .all)) := by
  intro pins s σ H xs us Q I r h
  obtain ⟨ds, d, ha, e, q⟩ := h
  match ds, e, ha with
  | [.lst t], e, ha =>
    obtain ⟨bs, e1, rfl⟩ := mapR_ok (f := fun bs : List Bool => D.bl (bs.all id)) e
    obtain ⟨v, rfl, p, ys, e2, r1, g1⟩ := ha.one
    subst e2
    have z := g1.bls (ofO_ok e1)
    subst z
    exact cr_all hc pins s σ H _ us Q I r ⟨p, bs, rfl, .inl r1, q _ H (Same.refl H) (fun _ _ _ => rfl) trivial⟩
theorem pr_any (hc : X.calm = true) : CallR X (.builtin "any") (rP X.K (prR .any)) := by
  intro pins s σ H xs us Q I r h
  obtain ⟨ds, d, ha, e, q⟩ := h
  match ds, e, ha with
  | [.lst t], e, ha =>
    obtain ⟨bs, e1, rfl⟩ := mapR_ok (f := fun bs : List Bool => D.bl (bs.any id)) e
    obtain ⟨v, rfl, p, ys, e2, r1, g1⟩ := ha.one
    subst e2
    have z := g1.bls (ofO_ok e1)
    subst z
    exact cr_any hc pins s σ H _ us Q I r ⟨p, bs, rfl, .inl r1, q _ H (Same.refl H) (fun _ _ _ => rfl) trivial⟩
theorem pr_tuple : CallR X (.type "tuple") (rP X.K (prR .tuple)) := by
  intro pins s σ H xs us Q I r h
  obtain ⟨ds, d, ha, e, q⟩ := h
  match ds, e, ha with
  | [.lst t], e, ha =>
    cases e
    obtain ⟨v, rfl, p, ys, e1, r1, g1⟩ := ha.one
    subst e1
    refine call_tupN pins s σ H _ us Q I r ⟨p, ys, rfl, .inl ⟨.inl r1, ?_⟩⟩
    cases hp : prs t with
    | false => exact .inl fun l hl => q _ _ (same_upd hl) (fun Y zy k => Rp.new_tup hl hp (list_of_rpr I rfl r1 k.of1)) trivial
    | true => exact .inr fun l its hl => q _ _ (same_upd hl) (fun Y zy k => Rp.new_known hl (list_of_rpr I rfl r1 k.of1)) trivial
  | [.tup t], e, ha =>
    cases e
    obtain ⟨v, rfl, p, ys, e1, r1, g1⟩ := ha.one
    subst e1
    refine call_tupN pins s σ H _ us Q I r ⟨p, ys, rfl, .inr ⟨r1.1, ?_⟩⟩
    exact q _ H (Same.refl H) (fun Y zy k => k.of1) trivial
/-- list of a text -/
theorem list_text (hc : X.calm = true) : CallR X (.type "list") (fun xs H Q => ∃ z : Tx, xs = [.str (tx z)] ∧ z.length ≤ sizeLine ∧ ∀ l, H l = none → Q (.ref l) (upd H l (.lst ((z.map fun c => tx [c]).map V.str)))) := by
  intro pins s σ H xs us Q I r h
  obtain ⟨z, rfl, hz, q⟩ := h
  obtain ⟨u, rfl, t, rfl⟩ := vals1 r
  have hsz : (tx z).cps.size = z.length := by simp [tx]
  refine call_list_str (I.ok.hd hc) (tx z) t (fun h' tk acc c hk hS hacc => ?_) (by rw [hsz]; exact hz)
  refine ⟨.ref s.heap.objs.size, upd H s.heap.objs.size (.lst ((z.map fun c => tx [c]).map V.str)), ?_, rfl, q _ I.fresh⟩
  refine I.laid (t' := tk) hk (Nat.le_refl _) ⟨by rw [List.length_map, List.length_map]; exact hz, acc.toList, c, ?_, by simpa using hS⟩
  have hlen : acc.size = z.length := by rw [hacc.1, hsz]
  have hit : ∀ (j : Nat) (v : Value), acc.toList[j]? = some v → ∃ (c : Nat) (u : Tok), z[j]? = some c ∧ v = Value.str (tx [c]) u := fun j v hv => by
    obtain ⟨c, u, hc', rfl⟩ := hacc.2 j v (by rw [← Array.getElem?_toList]; exact hv)
    exact ⟨c, u, by simpa [tx] using hc', rfl⟩
  clear hk hS q hacc hsz hz
  have go : ∀ (zs : List Nat) (vs : List Value), vs.length = zs.length → (∀ (j : Nat) (v : Value), vs[j]? = some v → ∃ (c : Nat) (u : Tok), zs[j]? = some c ∧ v = Value.str (tx [c]) u) → Vals ((zs.map fun c => tx [c]).map V.str) vs := by
    intro zs
    induction zs with
    | nil =>
      intro vs hl _
      have e : vs = [] := List.length_eq_zero_iff.mp hl
      subst e
      exact .nil
    | cons c zs ih =>
      intro vs hl hv
      cases vs with
      | nil => simp at hl
      | cons v vs =>
        obtain ⟨c', u, e1, e2⟩ := hv 0 v rfl
        simp at e1
        subst e1
        exact .cons ⟨u, e2⟩ (ih vs (by simpa using hl) fun j w hw => hv (j + 1) w (by simpa using hw))
  exact go z acc.toList (by simpa using hlen) hit
theorem RpL.signs {K : PySem.W.Frag} {Z : Addr → Prop} {H : Hp} (z : Tx) : RpL K Z H (z.map fun c => D.str [c]) ((z.map fun c => tx [c]).map V.str) := by
  induction z with
  | nil => rfl
  | cons c z ih => exact ⟨_, _, rfl, ⟨rfl, by show 1 ≤ sizeLine; rw [sizeLine_eq]; decide⟩, ih⟩
theorem pr_list (hc : X.calm = true) : CallR X (.type "list") (rP X.K (prR .list)) := by
  intro pins s σ H xs us Q I r h
  obtain ⟨ds, d, ha, e, q⟩ := h
  match ds, e, ha with
  | [a], e, ha =>
    obtain ⟨its, e1, rfl⟩ := mapR_ok (f := D.lst) e
    cases a with
    | lst t =>
      cases e1
      obtain ⟨v, rfl, p, ys, e2, r1, g1⟩ := ha.one
      subst e2
      refine call_list_of pins s σ H _ us Q I r ⟨p, ys, rfl, .inl (.inl r1), fun l hl => ?_⟩
      exact q _ _ (same_upd hl) (fun Y zy k => Rp.new_lst hl (zy.not_none hl) (list_of_rpr I rfl r1 k.of1)) ⟨l, _, rfl, hl, upd_same⟩
    | tup t =>
      cases e1
      obtain ⟨v, rfl, p, ys, e2, r1, g1⟩ := ha.one
      subst e2
      refine call_list_of pins s σ H _ us Q I r ⟨p, ys, rfl, .inr r1.1, fun l hl => ?_⟩
      exact q _ _ (same_upd hl) (fun Y zy k => Rp.new_lst hl (zy.not_none hl) (tuple_of_rpr I rfl r1.1 k.of1)) ⟨l, _, rfl, hl, upd_same⟩
    | str z =>
      cases e1
      obtain ⟨v, rfl, h1⟩ := ha.one
      refine list_text hc pins s σ H _ us Q I r ⟨z, by rw [h1.1], h1.2, fun l hl => ?_⟩
      exact q _ _ (same_upd hl) (fun Y zy k => Rp.new_lst hl (zy.not_none hl) (RpL.signs z)) ⟨l, _, rfl, hl, upd_same⟩
    | _ => cases e1
theorem pr_ord : CallR X (.builtin "ord") (rP X.K (prR .ord)) := by
  intro pins s σ H xs us Q I r h
  obtain ⟨ds, d, ha, e, q⟩ := h
  match ds, e, ha with
  | [.str [c]], e, ha =>
    cases e
    obtain ⟨v, rfl, h1⟩ := ha.one
    refine call_ord pins s σ H _ us Q I r ⟨tx [c], by rw [h1.1], rfl, ?_⟩
    exact q (.int (c : Nat)) H (Same.refl H) (fun _ _ _ => rfl) trivial
theorem pr_str : CallR X (.type "str") (rP X.K (prR .str)) := by
  intro pins s σ H xs us Q I r h
  obtain ⟨ds, d, ha, e, q⟩ := h
  match ds, e, ha with
  | [.str t], e, ha =>
    cases e
    obtain ⟨v, rfl, h1⟩ := ha.one
    refine SkE.call_str_str pins s σ H _ us Q I r ⟨tx t, by rw [h1.1], ?_⟩
    exact q (.str (tx t)) H (Same.refl H) (fun _ _ _ => ⟨rfl, h1.2⟩) trivial
  | [.int i], e, ha =>
    have e : (if decide (0 ≤ i) && Nat.blt i.toNat 10000000000 then R.ok (D.str (PySem.Str.ofString (toString i)).cps.toList) else R.bad) = .ok d := e
    split at e
    · rename_i hs
      cases e
      simp only [Bool.and_eq_true, decide_eq_true_eq, Nat.blt_eq] at hs
      obtain ⟨v, rfl, h1⟩ := ha.one
      have h1 : v = .int i := h1
      subst h1
      have hn : i.natAbs < 2 ^ 64 := by omega
      have hlog : i.natAbs.log2 < 1920 := by
        by_cases h0 : i.natAbs = 0
        · rw [h0]; decide
        · have := (Nat.log2_lt h0).mpr hn
          omega
      refine call_str_int pins s σ H _ us Q I r ⟨i, rfl, hlog, ?_⟩
      refine q (.str (toString i)) H (Same.refl H) (fun _ _ _ => ⟨rfl, ?_⟩) trivial
      have z := toString_length_le hs.1 (k := 10) (by decide) (by omega)
      have z : (PySem.Str.ofString (toString i)).cps.size ≤ 10 := z
      rw [Array.length_toList]
      rw [sizeLine_eq]
      omega
    · cases e
theorem rpl_pairs {K : PySem.W.Frag} {Y : Addr → Prop} {H : Hp} : ∀ {ps : List (D × V)}, (∀ p, p ∈ ps → Rp K Y H p.1 p.2) → RpL K Y H (ps.map (·.1)) (ps.map (·.2))
  | [], _ => rfl
  | p :: ps, h => ⟨_, _, rfl, h p (List.mem_cons_self ..), rpl_pairs fun q hq => h q (List.mem_cons_of_mem _ hq)⟩
theorem rpl_zip {K : PySem.W.Frag} {Y : Addr → Prop} {H : Hp} : ∀ {ds : List D} {vs : List V}, RpL K Y H ds vs → (∀ p, p ∈ ds.zip vs → Rp K Y H p.1 p.2) ∧ (ds.zip vs).map (·.1) = ds ∧ (ds.zip vs).map (·.2) = vs
  | [], vs, h => by
    have h : vs = [] := h
    subst h
    exact ⟨(fun p hp => by cases hp), rfl, rfl⟩
  | d :: ds, vs, h => by
    obtain ⟨v, us, rfl, h1, h2⟩ := h
    obtain ⟨a, b, c⟩ := rpl_zip h2
    refine ⟨fun p hp => ?_, ?_, ?_⟩
    · rcases List.mem_cons.mp hp with e | e
      · rw [e]; exact h1
      · exact a p e
    · show d :: (ds.zip us).map (·.1) = _
      rw [b]
    · show v :: (ds.zip us).map (·.2) = _
      rw [c]
theorem each_zip {h : Heap} {X : Cx} {pins : List (Addr × Obj)} {σ : L2.St} {H : Hp} {s : Shared} (I : Inv X pins σ H s) : ∀ {ds : List D} {vs : List V} {us : List Value}, D.plainL ds = true → RpL X.K Em H ds vs → Vals vs us →
    PySem.W.EachIs (fun (u : Value) (p : D × V) => RelV p.2 u) us (ds.zip vs) ∧ PySem.W.EachIs (fun u (p : D × V) => ∃ as, Reads s.heap u p.1.py as) us (ds.zip vs)
  | [], vs, us, _, h, r => by
    have h : vs = [] := h
    subst h
    cases r
    exact ⟨.nil, .nil⟩
  | d :: ds, vs, us, hp, h, r => by
    simp only [D.plainL, Bool.and_eq_true] at hp
    obtain ⟨v, ws, rfl, h1, h2⟩ := h
    cases r with
    | cons r1 r2 =>
      obtain ⟨a, b⟩ := each_zip (h := h) I hp.2 h2 r2
      exact ⟨.cons r1 a, .cons (Rp.reads I d v _ hp.1 h1.relax r1) b⟩
theorem each_vals : ∀ {us : List Value} {ps : List (D × V)}, PySem.W.EachIs (fun (u : Value) (p : D × V) => RelV p.2 u) us ps → Vals (ps.map (·.2)) us
  | _, _, .nil => .nil
  | _, _, .cons r t => .cons r (each_vals t)
mutual
theorem dep_py : ∀ d : D, d.plain = true → d.py.depth = d.dep
  | .non, _ => by simp [D.py, D.dep, PyData.depth]
  | .bl _, _ => by simp [D.py, D.dep, PyData.depth]
  | .int _, _ => by simp [D.py, D.dep, PyData.depth]
  | .str _, _ => by simp [D.py, D.dep, PyData.depth]
  | .lst xs, h => by simp [D.py, D.dep, PyData.depth, depL_py xs h]
  | .tup xs, h => by simp [D.py, D.dep, PyData.depth, depL_py xs h]
  | .dct _ _, h => by cases h
  | .exc _, h => by cases h
  | .loc _, h => by cases h
  | .ins _ _ _, h => by cases h
theorem depL_py : ∀ d : List D, D.plainL d = true → PyData.depthAll (D.pyL d) = D.depL d
  | [], _ => by simp [D.pyL, D.depL, PyData.depthAll]
  | x :: xs, h => by
    simp only [D.plainL, Bool.and_eq_true] at h
    simp [D.pyL, D.depL, PyData.depthAll, dep_py x h.1, depL_py xs h.2]
end
theorem z1' {A B : Type} {l : List (A × B)} {m : List A} (h : l.map (·.1) = m) : l.map (fun p => p.1) = m := h
theorem plainL_mem' {xs : List D} (h : D.plainL xs = true) : ∀ x, x ∈ xs → x.plain = true := by
  induction xs with
  | nil => intro x hx; cases hx
  | cons y ys ih =>
    have h : (y.plain && D.plainL ys) = true := h
    rw [Bool.and_eq_true] at h
    intro x hx
    rcases List.mem_cons.mp hx with e | e
    · rw [e]; exact h.1
    · exact ih h.2 x e
def prSL : List D → R D
  | [.lst t] => if sortB t then .ok (.lst (t.mergeSort leD)) else .bad
  | _ => .bad
theorem pr_sortedL (hu : X.A.units + 100 < cLine) : CallR X (.builtin "sorted") (rP X.K prSL) := by
  intro pins s σ H xs us Q I r h
  obtain ⟨ds, d, ha, e, q⟩ := h
  match ds, e, ha with
  | [.lst t], e, ha =>
    have e : (if sortB t then R.ok (D.lst (t.mergeSort leD)) else R.bad) = .ok d := e
    split at e
    · rename_i hs
      cases e
      unfold sortB at hs
      simp only [Bool.and_eq_true, Bool.or_eq_true, List.all_eq_true] at hs
      obtain ⟨⟨⟨h1, h2⟩, h3⟩, h4⟩ := hs
      obtain ⟨v, rfl, p, ys, e2, r1, g1⟩ := ha.one
      subst e2
      obtain ⟨its, rv, hl, hz⟩ := I.list (.inl r1)
      rw [Vals.ref1 r]
      obtain ⟨z1, z2, z3⟩ := rpl_zip g1
      obtain ⟨w1, w2⟩ := each_zip (h := s.heap) I h1 g1 rv
      have memd : ∀ b, b ∈ t.zip ys → b.1 ∈ t := fun b hb => (List.of_mem_zip hb).1
      refine PySem.W.sorted_data (β := D × V) (enc := fun p => p.1.py) hl.isList w1 w2 ?_ ?_ ?_ (fun b hb => ?_) fun out ho eo => ?_
      · intro d hd d' hd'
        obtain ⟨b, hb, rfl⟩ := List.mem_map.mp hd
        obtain ⟨b', hb', rfl⟩ := List.mem_map.mp hd'
        exact h3 _ (memd b hb) _ (memd b' hb')
      · rcases h4 with h4 | h4
        · left
          intro d hd
          obtain ⟨b, hb, rfl⟩ := List.mem_map.mp hd
          have q := h4 _ (memd b hb)
          obtain ⟨b1, b2⟩ := b
          cases b1 with
          | tup zs =>
            cases zs with
            | nil => cases q
            | cons a r => exact ⟨_, _, rfl⟩
          | _ => cases q
        · right
          intro d hd
          obtain ⟨b, hb, rfl⟩ := List.mem_map.mp hd
          have q := h4 _ (memd b hb)
          obtain ⟨b1, b2⟩ := b
          cases b1 with
          | bl _ => exact ⟨by simp [D.py], by intro xs; simp [D.py]⟩
          | int _ => exact ⟨by simp [D.py], by intro xs; simp [D.py]⟩
          | str _ => exact ⟨by simp [D.py], by intro xs; simp [D.py]⟩
          | lst _ => exact ⟨by simp [D.py], by intro xs; simp [D.py]⟩
          | _ => cases q
      · have hl2 : (t.zip ys).length = ys.length := by rw [← z3, List.length_map, z3]
        rw [hl2]
        exact hz
      · have hp := plainL_mem' h1 b.1 (memd b hb)
        have hd := h2 b.1 (memd b hb)
        have hd : b.1.dep ≤ 60 := by simpa using hd
        show X.A.units + 2 + b.1.py.depth < cLine
        rw [dep_py b.1 hp]
        omega
      · obtain ⟨ep, he'⟩ := PyProof.Rows.sortedAll_at s.heap its (List.toArray out)
        have em : ((t.zip ys).mergeSort (PySem.W.dataLe false fun p : D × V => p.1.py)).map (·.1) = t.mergeSort leD := by
          have z := List.map_mergeSort (f := fun p : D × V => p.1) (r := PySem.W.dataLe false fun p : D × V => p.1.py) (s := leD) (l := t.zip ys) fun a _ b _ => rfl
          rw [z, z1' z2]
        have rvs := each_vals eo
        have hlen : (((t.zip ys).mergeSort (PySem.W.dataLe false fun p : D × V => p.1.py)).map (·.2)).length ≤ sizeLine := by
          rw [List.length_map, List.length_mergeSort, ← List.length_map (f := (·.2)), z3]
          exact hz
        refine ⟨.ref _, upd H (s.heap.objs.size + 1) (.lst (((t.zip ys).mergeSort (PySem.W.dataLe false fun p : D × V => p.1.py)).map (·.2))), I.laid (t' := s.toks) (fun _ _ => PyProof.Rows.sortedAll_old) (Nat.le_succ _) ⟨hlen, out, ep, rvs, he'⟩, rfl, ?_⟩
        have hfr : H (s.heap.objs.size + 1) = none := I.hok.fresh (Nat.le_succ _)
        refine q _ _ (same_upd hfr) (fun Y zy k => Rp.new_lst hfr (zy.not_none hfr) ?_) ⟨_, _, rfl, hfr, upd_same⟩
        have g2 := list_of_rpr I rfl r1 k.of1
        obtain ⟨y1, _, _⟩ := rpl_zip g2
        rw [← em]
        exact rpl_pairs fun b hb => y1 b ((List.mem_mergeSort).mp hb)
    · cases e
/-- a method's call -/
def rM (K : PySem.W.Frag) (m : Mt) : V → List V → Hp → VK → Prop := fun x xs H Q => ∃ o ds d, RpR K Em H o x ∧ ArgsR K Em H ds xs ∧ mtR m o ds = .ok d ∧
  ∀ v H', Same H H' → (∀ Y, ZOk Y H → Rp K Y H' d v) → Fr H H' d v → Q v H'
def mtId : Mt → String
  | .join => "str.join"
  | .upper => "str.upper"
  | .lower => "str.lower"
  | .count => "str.count"
theorem list_sum_le : ∀ (ss : List Tx), ((ss.map tx).map (·.length)).sum = (ss.map (·.length)).sum
  | [] => rfl
  | s :: r => by
    simp only [List.map_cons, List.sum_cons, list_sum_le r]
    rw [SX.S_len]
theorem joinL_ok (t : Tx) (ss : List Tx) (h : (ss.map (·.length)).sum + ss.length * t.length ≤ LIM) : Txt.join (tx t) (ss.map tx) = tx (TL.joinL t ss) ∧ (TL.joinL t ss).length ≤ sizeLine := by
  have e : Txt.join (tx t) (ss.map tx) = tx (TL.joinL t ss) := SX.join_S t ss
  refine ⟨e, ?_⟩
  have l := StrLaws.join_length_le (tx t) (ss.map tx)
  rw [← StrLaws.glued_eq_join] at l
  have l : (Txt.join (tx t) (ss.map tx)).length ≤ ((ss.map tx).map (·.length)).sum + (ss.map tx).length * (tx t).length := l
  rw [e, list_sum_le, List.length_map, SX.S_len, SX.S_len] at l
  rw [sizeLine_eq]
  exact Nat.le_trans l h
theorem mt_rule (m : Mt) : MtR X (mtId m) (rM X.K m) := by
  intro pins s σ H x xs v us Q I rx rs h
  obtain ⟨o, ds, d, ho, ha, e, q⟩ := h
  cases m with
  | join =>
    have main : ∀ (t : Tx) (zs : List D) (p : Addr) (ys : List V), x = .str (tx t) → xs = [.ref p] → (SqL X.K H p ys ∨ SqT X.K H p ys) → RpL X.K Em H zs ys → joinR t zs = .ok d → wpAny (model X.prog X.w) X.A (call (.builtin "str.join") (v :: us)) (EP X pins σ Q) X.xe s := fun t zs p ys e1 e2 r1 g1 e => by
      obtain ⟨ss, e3, e⟩ := R.bind_ok (show ((ofO (strs? zs)).bind fun ss => if Nat.ble ((ss.map (·.length)).sum + ss.length * t.length) LIM then R.ok (D.str (TL.joinL t ss)) else R.bad) = .ok d from e)
      have e3 := ofO_ok e3
      split at e
      · rename_i hl
        cases e
        have hl : (ss.map (·.length)).sum + ss.length * t.length ≤ LIM := by simpa using hl
        obtain ⟨e4, _⟩ := RpL.strs g1 e3
        subst e4
        obtain ⟨j1, j2⟩ := joinL_ok t ss hl
        have hz : ((ss.map tx).map (·.length)).sum + (ss.map tx).length * (tx t).length ≤ 16777216 := by rw [list_sum_le, List.length_map, SX.S_len]; exact hl
        refine mt_join pins s σ H x xs v us Q I rx rs ⟨tx t, p, ss.map tx, e1, e2, r1, hz, ?_⟩
        rw [j1]
        exact q _ H (Same.refl H) (fun Y _ => ⟨rfl, j2⟩) trivial
      · cases e
    match o, ds, e, ha, ho with
    | .str t, [.lst zs], e, ha, ho =>
      obtain ⟨u, e2, p, ys, e3, r1, g1⟩ := ha.one
      subst e3
      exact main t zs p ys ho.1 e2 (.inl (.inl r1)) g1 e
    | .str t, [.tup zs], e, ha, ho =>
      obtain ⟨u, e2, p, ys, e3, r1, g1⟩ := ha.one
      subst e3
      exact main t zs p ys ho.1 e2 (.inr r1.1) g1 e
  | upper =>
    match o, ds, e, ha, ho with
    | .str t, [], e, ha, ho =>
      have e : (if Nat.ble t.length 5000000 then R.ok (D.str (PySem.Txt.upper (tx0 t)).cps.toList) else R.bad) = .ok d := e
      split at e
      · rename_i hl
        cases e
        have hl : t.length ≤ 5000000 := by simpa using hl
        refine mt_upper pins s σ H x xs v us Q I rx rs ⟨tx t, ho.1, ha, by rw [SX.S_len]; omega, ?_⟩
        refine q _ H (Same.refl H) (fun Y _ => ⟨rfl, ?_⟩) trivial
        have z := PyProof.Rows.len_upper (tx t)
        rw [SX.S_len] at z
        have z : (Txt.upper (tx t)).cps.size ≤ 3 * t.length := z
        rw [Array.length_toList, sizeLine_eq]
        exact Nat.le_trans z (by omega)
      · cases e
  | lower =>
    match o, ds, e, ha, ho with
    | .str t, [], e, ha, ho =>
      have e : (if Nat.ble t.length 5000000 then R.ok (D.str (PySem.Txt.lower (tx0 t)).cps.toList) else R.bad) = .ok d := e
      split at e
      · rename_i hl
        cases e
        have hl : t.length ≤ 5000000 := by simpa using hl
        refine mt_lower pins s σ H x xs v us Q I rx rs ⟨tx t, ho.1, ha, by rw [SX.S_len]; omega, ?_⟩
        refine q _ H (Same.refl H) (fun Y _ => ⟨rfl, ?_⟩) trivial
        have z := PyProof.Rows.len_lower (tx t)
        rw [SX.S_len] at z
        have z : (Txt.lower (tx t)).cps.size ≤ 3 * t.length := z
        rw [Array.length_toList, sizeLine_eq]
        exact Nat.le_trans z (by omega)
      · cases e
  | count =>
    match o, ds, e, ha, ho with
    | .str t, [.str b], e, ha, ho =>
      cases e
      obtain ⟨u, e2, h1⟩ := ha.one
      exact mt_count pins s σ H x xs v us Q I rx rs ⟨tx t, tx b, ho.1, by rw [e2, h1.1], q _ H (Same.refl H) (fun Y _ => rfl) trivial⟩
def tyNames : List String := ["str", "tuple", "int", "bool", "list"]
def tyOfD : D → Option String
  | .non => some "NoneType"
  | .bl _ => some "bool"
  | .int _ => some "int"
  | .str _ => some "str"
  | .lst _ => some "list"
  | .tup _ => some "tuple"
  | _ => none
theorem tyX_of {K : PySem.W.Frag} {Y : Addr → Prop} {H : Hp} {d : D} {v : V} {t : String} (h : RpR K Y H d v) (e : tyOfD d = some t) : TyX K H v (.type t) := by
  cases d with
  | non => cases e; rw [show v = _ from h]; exact .base .non
  | bl b => cases e; rw [show v = _ from h]; exact .base (.bl b)
  | int b => cases e; rw [show v = _ from h]; exact .base (.int b)
  | str b => cases e; rw [h.1]; exact .base (.str _)
  | lst b =>
    cases e
    obtain ⟨a, xs, e1, r, _⟩ := h
    subst e1
    rcases r with r | ⟨o, r⟩
    · exact .base (.lst r)
    · exact .base (.frz r)
  | tup b =>
    cases e
    obtain ⟨a, xs, e1, r, _⟩ := h
    subst e1
    rcases r.1 with (r | ⟨o, r⟩) | ⟨o, its, n, hk, hc, _⟩
    · exact .base (.tup r)
    · exact .fTuple r
    · exact .kTuple hk hc
  | dct _ _ => cases e
  | exc _ => cases e
  | loc _ => cases e
  | ins _ _ _ => cases e
theorem kit_all : (tyNames.all fun T => ["NoneType", "bool", "int", "str", "list", "tuple"].all fun t => kitB t T == some (t == T || (t == "bool" && T == "int"))) = true := by decide +kernel
theorem kit_one {T t : String} (hT : T ∈ tyNames) (ht : t ∈ ["NoneType", "bool", "int", "str", "list", "tuple"]) : kitB t T = some (t == T || (t == "bool" && T == "int")) := by
  have h := List.all_eq_true.mp kit_all T hT
  exact eq_of_beq (List.all_eq_true.mp h t ht)
theorem isT_ok {T : String} (hT : T ∈ tyNames) {d : D} {k : Bool} (e : isT T d = .ok k) : ∃ t, tyOfD d = some t ∧ kitB t T = some k := by
  cases d with
  | non => cases e; exact ⟨_, rfl, by rw [kit_one hT (by simp)]; congr 1; simp [tyNames] at hT; rcases hT with rfl | rfl | rfl | rfl | rfl <;> rfl⟩
  | bl b => cases e; exact ⟨_, rfl, by rw [kit_one hT (by simp)]; congr 1; simp [tyNames] at hT; rcases hT with rfl | rfl | rfl | rfl | rfl <;> rfl⟩
  | int b => cases e; exact ⟨_, rfl, by rw [kit_one hT (by simp)]; congr 1; simp [tyNames] at hT; rcases hT with rfl | rfl | rfl | rfl | rfl <;> rfl⟩
  | str b => cases e; exact ⟨_, rfl, by rw [kit_one hT (by simp)]; congr 1; simp [tyNames] at hT; rcases hT with rfl | rfl | rfl | rfl | rfl <;> rfl⟩
  | lst b => cases e; exact ⟨_, rfl, by rw [kit_one hT (by simp)]; congr 1; simp [tyNames] at hT; rcases hT with rfl | rfl | rfl | rfl | rfl <;> rfl⟩
  | tup b => cases e; exact ⟨_, rfl, by rw [kit_one hT (by simp)]; congr 1; simp [tyNames] at hT; rcases hT with rfl | rfl | rfl | rfl | rfl <;> rfl⟩
  | dct _ _ => cases e
  | exc _ => cases e
  | loc _ => cases e
  | ins _ _ _ => cases e
theorem pr_isinst {T : String} (hT : T ∈ tyNames) : CallR X (.builtin "isinstance") (fun xs H Q => ∃ d v k, xs = [v, .ty T] ∧ RpR X.K Em H d v ∧ isT T d = .ok k ∧ Q (.bl k) H) := by
  intro pins s σ H xs us Q I r h
  obtain ⟨d, v, k, rfl, ha, e, q⟩ := h
  obtain ⟨t, e1, e2⟩ := isT_ok hT e
  exact call_isi pins s σ H _ us Q I r ⟨v, .ty T, .type t, .type T, k, rfl, .ty T, tyX_of ha e1, kit_ty e2, q⟩
end
end Pw

/-! text PwK -/
/-! the check: a text of the row is the text of the small language -/
namespace Pw
open PySem PySem.Spec PyProof.Rows L2

def visB (sc : Scope) (x : Str) : Bool := match sc.names.lookup x with
  | some .local => true
  | some .cell => true
  | some .free => true
  | _ => false
def locB (sc : Scope) (x : Str) : Bool := match sc.names.lookup x with
  | some .local => true
  | some .cell => true
  | _ => false
def gloB (sc : Scope) (x : Str) : Bool := match sc.names.lookup x with
  | some .globalImplicit => true
  | _ => false
def dbgB (x : Str) : Bool := !(x == ("__debug__" : Str)) && !(x == ("__classdict__" : Str)) && !decide (x = ("__name__" : Str))
def litB : D → Expr → Bool
  | .int i, .Constant (.int j) _ _ => decide (i = j)
  | .bl i, .Constant (.bool j) _ _ => i == j
  | .non, .Constant .none _ _ => true
  | .str s, .Constant (.str x) _ _ => decide (s = x.cps.toList) && Nat.ble s.length 10000
  | _, _ => false
def prName : Pr → Option Str
  | .len => some "len"
  | .all => some "all"
  | .any => some "any"
  | .list => some "list"
  | .tuple => some "tuple"
  | .ord => some "ord"
  | .str => some "str"
  | .sorted => some "sorted"
  | .dict => some "dict"
  | .ikeys => some "list"
  | .max => some "max"
  | .min => some "min"
  | .sum => some "sum"
  | .int => some "int"
  | _ => none
def isCst : E → Bool
  | .lit (.str _) => true
  | _ => false
def mtName : Mt → Str
  | .join => "join"
  | .upper => "upper"
  | .lower => "lower"
  | .count => "count"
def isCallE : Expr → Bool
  | .Call (.Name _ _) [] [] _ => true
  | _ => false
def lmName : Lm → Str
  | .cnt => "count"
  | .idx => "index"
def tgIx : Tg → List Nat
  | .nm i => [i]
  | .tp is => is
/-- a name to be stored: its slot -/
def nmB (N : List Str) (sc : Scope) (i : Nat) : Expr → Bool
  | .Name x _ => decide (N[i]? = some x) && locB sc x
  | _ => false
def nmsB (N : List Str) (sc : Scope) : List Nat → List Expr → Bool
  | [], [] => true
  | i :: is, e :: es => nmB N sc i e && nmsB N sc is es
  | _, _ => false
def tgB (N : List Str) (sc : Scope) : Tg → Expr → Bool
  | .nm i, e => nmB N sc i e
  | .tp is, .Tuple es _ _ => nmsB N sc is es
  | .tp _, _ => false
def ownOf (N : List Str) (is : List Nat) : List (Str × Nat) := is.filterMap fun i => (N[i]?).map fun x => (x, i)
def nodupB (is : List Nat) : Bool := decide is.Nodup

mutual
def D.same : D → D → Bool
  | .non, .non => true
  | .bl a, .bl b => a == b
  | .int i, .int j => decide (i = j)
  | .str x, .str y => decide (x = y)
  | .lst xs, .lst ys => D.sameL xs ys
  | .tup xs, .tup ys => D.sameL xs ys
  | _, _ => false
def D.sameL : List D → List D → Bool
  | [], [] => true
  | x :: xs, y :: ys => x.same y && D.sameL xs ys
  | _, _ => false
end
mutual
theorem D.same_eq : ∀ a b : D, D.same a b = true → a = b
  | .non, b, h => by cases b <;> first | rfl | cases h
  | .bl a, b, h => by
    cases b with
    | bl b => exact congrArg D.bl (eq_of_beq h)
    | _ => cases h
  | .int a, b, h => by
    cases b with
    | int b => exact congrArg D.int (of_decide_eq_true h)
    | _ => cases h
  | .str a, b, h => by
    cases b with
    | str b => exact congrArg D.str (of_decide_eq_true h)
    | _ => cases h
  | .lst a, b, h => by
    cases b with
    | lst b => exact congrArg D.lst (D.sameL_eq a b h)
    | _ => cases h
  | .tup a, b, h => by
    cases b with
    | tup b => exact congrArg D.tup (D.sameL_eq a b h)
    | _ => cases h
  | .dct _ _, b, h => by cases b <;> cases h
  | .exc _, b, h => by cases b <;> cases h
  | .loc _, b, h => by cases b <;> cases h
  | .ins _ _ _, b, h => by cases b <;> cases h
theorem D.sameL_eq : ∀ a b : List D, D.sameL a b = true → a = b
  | [], b, h => by
    cases b with
    | nil => rfl
    | cons => cases h
  | x :: xs, b, h => by
    cases b with
    | nil => cases h
    | cons y ys =>
      simp only [D.sameL, Bool.and_eq_true] at h
      rw [D.same_eq x y h.1, D.sameL_eq xs ys h.2]
end
/-- the names of the defs, the module's constants -/
structure Tb where
  nm : Nat → Option Str
  gl : List (Str × D)
  xs : List Tx
  nm2 : Nat → Option Str := fun _ => none
  cs : List (Tx × List Tx) := []
  mt : Nat → Option (Tx × Tx) := fun _ => none
/-- the class c has the field f -/
def clB (tb : Tb) (c f : Tx) : Bool := tb.cs.any fun p => decide (p.1 = c) && p.2.contains f
mutual
def chkE (tb : Tb) (N : List Str) : E → Scope → Expr → Bool
  | .var i, sc, e => (match e with
    | .Name x _ => decide (N[i]? = some x) && visB sc x && dbgB x
    | _ => false)
  | .lit d, _, e => litB d e
  | .glo x d, sc, e => (match e with
    | .Name y _ => decide (x = y) && gloB sc y && dbgB y && tb.gl.any (fun p => decide (p.1 = x) && D.same p.2 d)
    | _ => false)
  | .neg a, sc, e => (match e with
    | .UnaryOp .USub x _ => chkE tb N a sc x
    | _ => false)
  | .bin op a b, sc, e => (match e with
    | .BinOp l o r _ => decide (o = opr op) && chkE tb N a sc l && chkE tb N b sc r
    | _ => false)
  | .cmp op a b, sc, e => (match e with
    | .Compare l [o] [r] _ => decide (o = cmr op) && chkE tb N a sc l && chkE tb N b sc r
    | _ => false)
  | .cmp2 o1 o2 a b d, sc, e => (match e with
    | .Compare l [p1, p2] [r, t] _ => decide (p1 = cmr o1) && decide (p2 = cmr o2) && chkE tb N a sc l && chkE tb N b sc r && chkE tb N d sc t
    | _ => false)
  | .not a, sc, e => (match e with
    | .UnaryOp .Not x _ => chkE tb N a sc x
    | _ => false)
  | .and es, sc, e => (match e with
    | .BoolOp .And xs _ => chkEs tb N es sc xs
    | _ => false)
  | .or es, sc, e => (match e with
    | .BoolOp .Or xs _ => chkEs tb N es sc xs
    | _ => false)
  | .ite t a b, sc, e => (match e with
    | .IfExp x y z _ => chkE tb N t sc x && chkE tb N a sc y && chkE tb N b sc z
    | _ => false)
  | .tup es, sc, e => (match e with
    | .Tuple xs _ _ => chkEs tb N es sc xs && Nat.ble xs.length 10000
    | _ => false)
  | .lst es, sc, e => (match e with
    | .List xs _ => chkEs tb N es sc xs && Nat.ble xs.length 10000
    | _ => false)
  | .idx a b, sc, e => (match e with
    | .Subscript x (.Slice _ _ _ _) _ => false
    | .Subscript x y _ => chkE tb N a sc x && chkE tb N b sc y
    | _ => false)
  | .sl a lo hi, sc, e => (match e with
    | .Subscript x (.Slice l h none _) _ => chkE tb N a sc x && chkEo tb N lo sc l && chkEo tb N hi sc h
    | _ => false)
  | .rev a, sc, e => (match e with
    | .Subscript x (.Slice none none (some (.UnaryOp .USub (.Constant (.int i) _ _) _)) _) _ => decide (i = 1) && chkE tb N a sc x
    | _ => false)
  | .comp elt tg it cond, sc, e => (match e with
    | .ListComp el [⟨tge, ite, ifs, as⟩] scope _ => decide (as = 0) && nodupB (tgIx tg) && blkC N sc scope (ownOf N (tgIx tg)) && decide ((ownOf N (tgIx tg)).map (·.2) = tgIx tg) && tgB N scope tg tge && chkI tb N it sc tge ite && chkC tb N cond (relS scope sc) ifs && chkE tb N elt (relS scope sc) el
    | _ => false)
  | .call f es, sc, e => (match e with
    | .Call (.Name x _) xs [] _ => decide (tb.nm f = some x) && gloB sc x && dbgB x && chkEs tb N es sc xs
    | _ => false)
  | .prim (.isinst T) es, sc, e => (match es, e with
    | .cons a .nil, .Call (.Name x _) [y, .Name t _] [] _ => decide (x = ("isinstance" : Str)) && gloB sc x && decide (t = Str.ofString T) && gloB sc t && tyNames.contains T && chkE tb N a sc y
    | _, _ => false)
  | .prim .sortedSet es, sc, e => (match es, e with
    | .cons a .nil, .Call (.Name x _) [.Call (.Name y _) [z] [] _] [] _ => decide (x = ("sorted" : Str)) && gloB sc x && decide (y = ("set" : Str)) && gloB sc y && chkE tb N a sc z
    | _, _ => false)
  | .prim .lenSet es, sc, e => (match es, e with
    | .cons a .nil, .Call (.Name x _) [.Call (.Name y _) [z] [] _] [] _ => decide (x = ("len" : Str)) && gloB sc x && decide (y = ("set" : Str)) && gloB sc y && chkE tb N a sc z
    | _, _ => false)
  | .prim .rangeL es, sc, e => (match es, e with
    | .cons a .nil, .Call (.Name x _) [.Call (.Name y _) [z] [] _] [] _ => decide (x = ("list" : Str)) && gloB sc x && decide (y = ("range" : Str)) && gloB sc y && chkE tb N a sc z
    | _, _ => false)
  | .prim .zipL es, sc, e => (match es, e with
    | .cons a (.cons b .nil), .Call (.Name x _) [.Call (.Name y _) [z, u] [] _] [] _ => decide (x = ("list" : Str)) && gloB sc x && decide (y = ("zip" : Str)) && gloB sc y && chkE tb N a sc z && chkE tb N b sc u
    | _, _ => false)
  | .prim .zipT es, sc, e => (match es, e with
    | .cons a (.cons b .nil), .Call (.Name x _) [.Call (.Name y _) [z, u] [] _] [] _ => decide (x = ("tuple" : Str)) && gloB sc x && decide (y = ("zip" : Str)) && gloB sc y && chkE tb N a sc z && chkE tb N b sc u
    | _, _ => false)
  | .prim .maxD es, sc, e => (match es, e with
    | .cons a (.cons b .nil), .Call (.Name x _) [y] [⟨some k, z, _⟩] _ => decide (x = ("max" : Str)) && gloB sc x && decide (k = ("default" : Str)) && chkE tb N a sc y && chkE tb N b sc z
    | _, _ => false)
  | .prim .stp es, sc, e => (match es, e with
    | .cons a (.cons b .nil), .Subscript y (.Slice none none (some z) _) _ => chkE tb N a sc y && chkE tb N b sc z
    | _, _ => false)
  | .prim .sortedItems es, sc, e => (match es, e with
    | .cons a .nil, .Call (.Name x _) [.Call (.Attribute z nm apos) [] [] cpos] [] _ => decide (x = ("sorted" : Str)) && gloB sc x && decide (nm = ("items" : Str)) && (apos.endLine == cpos.line) && !isCallE z && chkE tb N a sc z
    | _, _ => false)
  | .prim p es, sc, e => (match es, e with
    | .cons a .nil, .Call (.Name x _) [y] [] _ => decide (prName p = some x) && gloB sc x && chkE tb N a sc y
    | _, _ => false)
  | .meth m o es, sc, e => (match e with
    | .Call (.Attribute x nm apos) xs [] cpos => decide (nm = mtName m) && (apos.endLine == cpos.line) && !isCallE x && Nat.blt xs.length 29 && chkE tb N o sc x && chkEs tb N es sc xs
    | _ => false)
  | .repl o y z, sc, e => (match e with
    | .Call (.Attribute (.Subscript a (.Constant (.int k) j cp) sp) nm apos) [.Constant (.str y') j1 c1, .Constant (.str z') j2 c2] [] cpos => decide (nm = ("replace" : Str)) && decide (y = y'.cps.toList) && decide (z = z'.cps.toList) && !(y' == z') && (apos.endLine == cpos.line) && chkE tb N o sc (.Subscript a (.Constant (.int k) j cp) sp)
    | _ => false)
  | .isx cs a x, sc, e => (match e with
    | .Call (.Name f _) [y, .Name t _] [] _ => decide (f = ("isinstance" : Str)) && gloB sc f && decide (t = tx x) && gloB sc t && dbgB t && (decide (x = VERR) || tb.xs.contains x) && cs.all (fun y => tb.xs.contains y) && chkE tb N a sc y
    | _ => false)
  | .dnew, _, e => (match e with
    | .Dict [] [] _ => true
    | _ => false)
  | .dget o k, sc, e => (match e with
    | .Call (.Attribute x nm apos) [y] [] cpos => decide (nm = ("get" : Str)) && (apos.endLine == cpos.line) && !isCallE x && chkE tb N o sc x && chkE tb N k sc y
    | _ => false)
  | .dget2 o k z, sc, e => (match e with
    | .Call (.Attribute x nm apos) [y, w] [] cpos => decide (nm = ("get" : Str)) && (apos.endLine == cpos.line) && !isCallE x && chkE tb N o sc x && chkE tb N k sc y && chkE tb N z sc w
    | _ => false)
  | .lm m o a, sc, e => (match e with
    | .Call (.Attribute x nm apos) [y] [] cpos => decide (nm = lmName m) && (apos.endLine == cpos.line) && !isCallE x && chkE tb N o sc x && chkE tb N a sc y
    | _ => false)
  | .sidx o a, sc, e => (match e with
    | .Call (.Attribute x nm apos) [y] [] cpos => decide (nm = ("index" : Str)) && (apos.endLine == cpos.line) && !isCallE x && chkE tb N o sc x && chkE tb N a sc y
    | _ => false)
  | .pur a, sc, e => (match e with
    | .Call f xs ks pos => chkE tb N a sc (.Call f xs ks pos)
    | _ => false)
  | .fld cs a f, sc, e => (match e with
    | .Attribute x nm _ => decide (nm = tx f) && !isCallE x && cs.all (fun c => clB tb c f) && chkE tb N a sc x
    | _ => false)
  | .two m a b, sc, e => (match e with
    | .Call (.Name f _) [x, y] [] _ => decide (f = (if m then ("max" : Str) else "min")) && gloB sc f && chkE tb N a sc x && chkE tb N b sc y
    | _ => false)
  | .fstr es, sc, e => (match e with
    | .JoinedStr (v1 :: v2 :: vs) _ => chkF tb N es sc (v1 :: v2 :: vs)
    | _ => false)
def chkF (tb : Tb) (N : List Str) : Es → Scope → List Expr → Bool
  | .nil, _, xs => xs.isEmpty
  | .cons e es, sc, xs => (match xs with
    | .FormattedValue y k none _ :: r => decide (k = -1) && chkE tb N e sc y && chkF tb N es sc r
    | .Constant a b p :: r => isCst e && chkE tb N e sc (.Constant a b p) && chkF tb N es sc r
    | _ => false)
def chkEs (tb : Tb) (N : List Str) : Es → Scope → List Expr → Bool
  | .nil, _, xs => xs.isEmpty
  | .cons e es, sc, xs => (match xs with
    | x :: r => chkE tb N e sc x && chkEs tb N es sc r
    | [] => false)
def chkEo (tb : Tb) (N : List Str) : Eo → Scope → Option Expr → Bool
  | .none, _, o => o.isNone
  | .some e, sc, o => (match o with
    | some x => chkE tb N e sc x
    | none => false)
def chkC (tb : Tb) (N : List Str) : Eo → Scope → List Expr → Bool
  | .none, _, o => o.isEmpty
  | .some e, sc, o => (match o with
    | [x] => chkE tb N e sc x
    | _ => false)
def chkI (tb : Tb) (N : List Str) : Itr → Scope → Expr → Expr → Bool
  | .seq e, sc, tg, x => chkE tb N e sc x
  | .range e, sc, tg, x => (match x with
    | .Call (.Name f _) [y] [] _ => decide (f = ("range" : Str)) && gloB sc f && chkE tb N e sc y
    | _ => false)
  | .zip a b, sc, tg, x => (match tg, x with
    | .Tuple _ _ _, .Call (.Name f _) [y, z] [] _ => decide (f = ("zip" : Str)) && gloB sc f && chkE tb N a sc y && chkE tb N b sc z
    | _, _ => false)
  | .enum e, sc, tg, x => (match tg, x with
    | .Tuple _ _ _, .Call (.Name f _) [y] [] _ => decide (f = ("enumerate" : Str)) && gloB sc f && chkE tb N e sc y
    | _, _ => false)
end
example : chkE { nm := fun _ => none, gl := [], xs := [] } [] (.tup (.cons (.lit (.int 1)) .nil)) { kind := .function, names := [], isGenerator := false, isCoroutine := false } (.Tuple [.Constant (.int 1) 0 ⟨0,0,0,0⟩] 0 ⟨0,0,0,0⟩) = true := by rfl
end Pw

/-! text PwX0 -/
/-! what is promised of an expression, a test, arguments -/
namespace Pw
open PySem PySem.Spec PyProof.Rows L2

structure Ctx where
  P : Program
  w : World
  K : PySem.W.Frag
  mg : Str → Option Value
  base : Heap
  tb : Tb
  fnOf : Nat → Option Fn
  cl : Tx → Value

structure Fx (Γ : Ctx) (n : Nat) (N : List Str) (sc : Scope) (X : Cx) : Prop where
  prog : X.prog = Γ.P
  w : X.w = Γ.w
  K : X.K = Γ.K
  mg : X.mg = Γ.mg
  base : X.base = Γ.base
  eN : X.N = N
  eS : X.env.scope = sc
  calm : X.calm = true
  room : Room (2 * n + 1) X.A
  nd : N.Nodup

/-- the slots but those of ex hold these data; those of O hold lists that may be of Y -/
def SlX (K : PySem.W.Frag) (Y : Addr → Prop) (O ex : List Nat) (H : Hp) (σ : L2.St) (ρ : Sl) : Prop :=
  ρ.length = σ.length ∧ ∀ (i : Nat) (d : D), i ∉ ex → ρ[i]? = some (some d) → ∃ v, σ[i]? = some (some v) ∧ RpR K Y H d v ∧ (i ∉ O → Rp K Y H d v)
abbrev SlG (K : PySem.W.Frag) (Y : Addr → Prop) (O : List Nat) (H : Hp) (σ : L2.St) (ρ : Sl) : Prop := SlX K Y O [] H σ ρ
theorem SlX.at0 {K : PySem.W.Frag} {Y : Addr → Prop} {O : List Nat} {H : Hp} {σ : L2.St} {ρ : Sl} (h : SlG K Y O H σ ρ) (i : Nat) (d : D) (e : ρ[i]? = some (some d)) : ∃ v, σ[i]? = some (some v) ∧ RpR K Y H d v ∧ (i ∉ O → Rp K Y H d v) := h.2 i d (by simp) e
theorem SlX.same {K : PySem.W.Frag} {Y : Addr → Prop} {O ex : List Nat} {H H' : Hp} {σ : L2.St} {ρ : Sl} (h : SlX K Y O ex H σ ρ) (s : Same H H') : SlX K Y O ex H' σ ρ := ⟨h.1, fun i d z e => by
  obtain ⟨v, a, b, g⟩ := h.2 i d z e
  exact ⟨v, a, b.same s, fun z => (g z).same s⟩⟩

mutual
/-- 0: no list of it is of Y; 1: it may be itself one; 2: anything -/
def lv (O : List Nat) : E → Nat
  | .var i => if O.contains i then 1 else 0
  | .lit _ => 0
  | .glo _ _ => 0
  | .neg _ => 0
  | .bin _ a b => if lv O a ≤ 1 ∧ lv O b ≤ 1 then 0 else 2
  | .cmp _ _ _ => 0
  | .cmp2 _ _ _ _ _ => 0
  | .not _ => 0
  | .and es => lvs O es
  | .or es => lvs O es
  | .ite _ a b => max (lv O a) (lv O b)
  | .tup es => if lvs O es = 0 then 0 else 2
  | .lst es => if lvs O es = 0 then 0 else 2
  | .idx a _ => if lv O a ≤ 1 then 0 else 2
  | .sl a _ _ => if lv O a ≤ 1 then 0 else 2
  | .rev a => if lv O a ≤ 1 then 0 else 2
  | .comp elt tg it _ => if lvI O it ≤ 1 ∧ lv (O.filter fun i => !(tgIx tg).contains i) elt = 0 then 0 else 2
  | .call _ es => if lvs O es = 0 then 0 else 2
  | .prim _ es => if lvs O es ≤ 1 then 0 else 2
  | .meth _ o es => if lv O o ≤ 1 ∧ lvs O es ≤ 1 then 0 else 2
  | .fstr _ => 0
  | .repl _ _ _ => 0
  | .isx _ _ _ => 0
  | .dnew => 0
  | .dget o _ => if lv O o ≤ 1 then 0 else 2
  | .dget2 o _ z => if lv O o ≤ 1 ∧ lv O z = 0 then 0 else 2
  | .lm _ _ _ => 0
  | .sidx _ _ => 0
  | .two _ _ _ => 0
  | .pur _ => 0
  | .fld _ a _ => if lv O a ≤ 1 then 0 else 2
def lvs (O : List Nat) : Es → Nat
  | .nil => 0
  | .cons e es => max (lv O e) (lvs O es)
def lvI (O : List Nat) : Itr → Nat
  | .seq e => lv O e
  | .range _ => 0
  | .enum e => lv O e
  | .zip a b => max (lv O a) (lv O b)
end
mutual
theorem lv_nil : ∀ e : E, lv [] e = 0
  | .var i => rfl
  | .lit _ => rfl
  | .glo _ _ => rfl
  | .neg _ => rfl
  | .bin _ a b => by simp [lv, lv_nil a, lv_nil b]
  | .cmp _ _ _ => rfl
  | .cmp2 _ _ _ _ _ => rfl
  | .not _ => rfl
  | .and es => by simp [lv, lvs_nil es]
  | .or es => by simp [lv, lvs_nil es]
  | .ite _ a b => by simp [lv, lv_nil a, lv_nil b]
  | .tup es => by simp [lv, lvs_nil es]
  | .lst es => by simp [lv, lvs_nil es]
  | .idx a _ => by simp [lv, lv_nil a]
  | .sl a _ _ => by simp [lv, lv_nil a]
  | .rev a => by simp [lv, lv_nil a]
  | .comp elt tg it _ => by simp [lv, lv_nil elt, lvI_nil it]
  | .call _ es => by simp [lv, lvs_nil es]
  | .prim _ es => by simp [lv, lvs_nil es]
  | .meth _ o es => by simp [lv, lv_nil o, lvs_nil es]
  | .fstr _ => rfl
  | .repl _ _ _ => rfl
  | .isx _ _ _ => rfl
  | .dnew => rfl
  | .dget o _ => by simp [lv, lv_nil o]
  | .dget2 o _ z => by simp [lv, lv_nil o, lv_nil z]
  | .lm _ _ _ => rfl
  | .sidx _ _ => rfl
  | .two _ _ _ => rfl
  | .pur _ => rfl
  | .fld _ a _ => by simp [lv, lv_nil a]
theorem lvs_nil : ∀ e : Es, lvs [] e = 0
  | .nil => rfl
  | .cons e es => by simp [lvs, lv_nil e, lvs_nil es]
theorem lvI_nil : ∀ e : Itr, lvI [] e = 0
  | .seq e => by simp [lvI, lv_nil e]
  | .range _ => rfl
  | .enum e => by simp [lvI, lv_nil e]
  | .zip a b => by simp [lvI, lv_nil a, lv_nil b]
end

/-- what an expression makes is new, if it can be changed -/
def frE (fo : Nat → Option Fn) : E → Bool
  | .lit _ | .neg _ | .bin _ _ _ | .cmp _ _ _ | .cmp2 _ _ _ _ _ | .not _ | .tup _ | .lst _ | .sl _ _ _ | .rev _ | .comp _ _ _ _ | .prim _ _ | .meth _ _ _ | .fstr _ | .repl _ _ _ | .isx _ _ _ | .dnew | .lm _ _ _ | .sidx _ _ | .two _ _ _ => true
  | .ite _ a b => frE fo a && frE fo b
  | .call f _ => (match fo f with
    | some fn => fn.fr
    | none => false)
  | _ => false

def Lv (K : PySem.W.Frag) (Y : Addr → Prop) (l : Nat) (H : Hp) (d : D) (v : V) : Prop := (l = 0 → Rp K Y H d v) ∧ (l ≤ 1 → RpR K Y H d v)
theorem Lv.of0 {K : PySem.W.Frag} {Y : Addr → Prop} {l : Nat} {H : Hp} {d : D} {v : V} (h : Rp K Y H d v) : Lv K Y l H d v := ⟨fun _ => h, fun _ => h.relax⟩
theorem Lv.same {K : PySem.W.Frag} {Y : Addr → Prop} {l : Nat} {H H' : Hp} {d : D} {v : V} (h : Lv K Y l H d v) (s : Same H H') : Lv K Y l H' d v := ⟨fun z => (h.1 z).same s, fun z => (h.2 z).same s⟩
theorem Lv.mono {K : PySem.W.Frag} {Y : Addr → Prop} {l m : Nat} {H : Hp} {d : D} {v : V} (h : Lv K Y l H d v) (z : l ≤ m) : Lv K Y m H d v := ⟨fun q => h.1 (by omega), fun q => h.2 (by omega)⟩
theorem Lv.if2 {K : PySem.W.Frag} {Y : Addr → Prop} {c : Prop} [Decidable c] {H : Hp} {d : D} {v : V} (h : c → Rp K Y H d v) : Lv K Y (if c then 0 else 2) H d v := by
  by_cases hc : c
  · rw [if_pos hc]; exact .of0 (h hc)
  · rw [if_neg hc]; exact ⟨fun z => absurd z (by decide), fun z => absurd z (by decide)⟩
theorem lv_prim0 {K : PySem.W.Frag} {Y : Addr → Prop} {H : Hp} {v : V} {d : D} (h : ∀ Y, Rp K Y H d v) {l : Nat} : Lv K Y l H d v := .of0 (h Y)

/-- the promise of an expression -/
def spE (Γ : Ctx) (c : Nat → List D → R D) (W : WX) (e : E) : TE := fun σ H Q => ∃ ρ, SlG Γ.K Em [] H σ ρ ∧ match evE c e ρ with
  | .ok d => ∀ v H', Same H H' → (∀ Y O, ZOk Y H → SlG Γ.K Y O H σ ρ → Lv Γ.K Y (lv O e) H' d v) → (frE Γ.fnOf e = true → Fr H H' d v) → Q v H'
  | .ex x => ∀ H', Same H H' → W (Γ.cl x) none σ H'
  | .bad => False
def spT (Γ : Ctx) (c : Nat → List D → R D) (W : WX) (e : E) : TT := fun σ H Q => ∃ ρ, SlG Γ.K Em [] H σ ρ ∧ match (evE c e ρ).bind noX with
  | .ok d => ∀ H', Same H H' → Q d.truth H'
  | .ex x => ∀ H', Same H H' → W (Γ.cl x) none σ H'
  | .bad => False
def LvL (K : PySem.W.Frag) (Y : Addr → Prop) (l : Nat) (H : Hp) (ds : List D) (vs : List V) : Prop := (l = 0 → RpL K Y H ds vs) ∧ (l ≤ 1 → ArgsR K Y H ds vs)
def spA (Γ : Ctx) (c : Nat → List D → R D) (W : WX) (es : Es) : TA := fun σ H Q => ∃ ρ, SlG Γ.K Em [] H σ ρ ∧ match evEs c es ρ with
  | .ok ds => ∀ vs H', Same H H' → (∀ Y O, ZOk Y H → SlG Γ.K Y O H σ ρ → LvL Γ.K Y (lvs O es) H' ds vs) → Q vs H'
  | .ex x => ∀ H', Same H H' → W (Γ.cl x) none σ H'
  | .bad => False
def spO (Γ : Ctx) (c : Nat → List D → R D) (W : WX) (e : Eo) : TO := fun σ H Q => ∃ ρ, SlG Γ.K Em [] H σ ρ ∧ match evEo c e ρ with
  | .ok d => ∀ H', Same H H' → Q d H'
  | .ex x => ∀ H', Same H H' → W (Γ.cl x) none σ H'
  | .bad => False
def spCl (Γ : Ctx) (c : Nat → List D → R D) (W : WX) (e : Eo) : TT := fun σ H Q => ∃ ρ, SlG Γ.K Em [] H σ ρ ∧ match evC c e ρ with
  | .ok d => ∀ H', Same H H' → Q d H'
  | .ex x => ∀ H', Same H H' → W (Γ.cl x) none σ H'
  | .bad => False
def spAn (Γ : Ctx) (c : Nat → List D → R D) (W : WX) (f : (Nat → List D → R D) → Es → Sl → R D) (es : Es) : TE := fun σ H Q => ∃ ρ, SlG Γ.K Em [] H σ ρ ∧ match f c es ρ with
  | .ok d => ∀ v H', Same H H' → (∀ Y O, ZOk Y H → SlG Γ.K Y O H σ ρ → Lv Γ.K Y (lvs O es) H' d v) → Q v H'
  | .ex x => ∀ H', Same H H' → W (Γ.cl x) none σ H'
  | .bad => False
def spAnT (Γ : Ctx) (c : Nat → List D → R D) (W : WX) (f : (Nat → List D → R D) → Es → Sl → R D) (es : Es) : TT := fun σ H Q => ∃ ρ, SlG Γ.K Em [] H σ ρ ∧ match (f c es ρ).bind noX with
  | .ok d => ∀ H', Same H H' → Q d.truth H'
  | .ex x => ∀ H', Same H H' → W (Γ.cl x) none σ H'
  | .bad => False

section
variable {Γ : Ctx} {c : Nat → List D → R D} {W : WX}
/-- give an expression's promise -/
theorem spE.mk {e : E} {σ : L2.St} {H : Hp} {Q : VK} {ρ : Sl} (g : SlG Γ.K Em [] H σ ρ) (hb : evE c e ρ ≠ .bad)
    (hx : ∀ x, evE c e ρ = .ex x → ∀ H', Same H H' → W (Γ.cl x) none σ H')
    (hk : ∀ d, evE c e ρ = .ok d → ∀ v H', Same H H' → (∀ Y O, ZOk Y H → SlG Γ.K Y O H σ ρ → Lv Γ.K Y (lv O e) H' d v) → (frE Γ.fnOf e = true → Fr H H' d v) → Q v H') : spE Γ c W e σ H Q := by
  refine ⟨ρ, g, ?_⟩
  cases q : evE c e ρ with
  | ok d => exact hk d q
  | ex x => exact hx x q
  | bad => exact (hb q).elim
theorem spT.mk {e : E} {σ : L2.St} {H : Hp} {Q : Bool → Hp → Prop} {ρ : Sl} (g : SlG Γ.K Em [] H σ ρ) (hb : (evE c e ρ).bind noX ≠ .bad)
    (hx : ∀ x, (evE c e ρ).bind noX = .ex x → ∀ H', Same H H' → W (Γ.cl x) none σ H')
    (hk : ∀ d, (evE c e ρ).bind noX = .ok d → ∀ H', Same H H' → Q d.truth H') : spT Γ c W e σ H Q := by
  refine ⟨ρ, g, ?_⟩
  cases q : (evE c e ρ).bind noX with
  | ok d => exact hk d q
  | ex x => exact hx x q
  | bad => exact (hb q).elim
theorem noX_ok {r : R D} {d : D} (h : r.bind noX = .ok d) : noX d = .ok d := by
  cases r with
  | ok a => cases a <;> first | (cases h; rfl) | cases h
  | ex x => cases h
  | bad => cases h
theorem noX_cases (d : D) : noX d = .ok d ∨ noX d = .bad := by
  cases d <;> first | exact .inl rfl | exact .inr rfl
theorem spA.mk {es : Es} {σ : L2.St} {H : Hp} {Q : List V → Hp → Prop} {ρ : Sl} (g : SlG Γ.K Em [] H σ ρ) (hb : evEs c es ρ ≠ .bad)
    (hx : ∀ x, evEs c es ρ = .ex x → ∀ H', Same H H' → W (Γ.cl x) none σ H')
    (hk : ∀ ds, evEs c es ρ = .ok ds → ∀ vs H', Same H H' → (∀ Y O, ZOk Y H → SlG Γ.K Y O H σ ρ → LvL Γ.K Y (lvs O es) H' ds vs) → Q vs H') : spA Γ c W es σ H Q := by
  refine ⟨ρ, g, ?_⟩
  cases q : evEs c es ρ with
  | ok d => exact hk d q
  | ex x => exact hx x q
  | bad => exact (hb q).elim
theorem spO.mk {es : Eo} {σ : L2.St} {H : Hp} {Q : Option Int → Hp → Prop} {ρ : Sl} (g : SlG Γ.K Em [] H σ ρ) (hb : evEo c es ρ ≠ .bad)
    (hx : ∀ x, evEo c es ρ = .ex x → ∀ H', Same H H' → W (Γ.cl x) none σ H')
    (hk : ∀ d, evEo c es ρ = .ok d → ∀ H', Same H H' → Q d H') : spO Γ c W es σ H Q := by
  refine ⟨ρ, g, ?_⟩
  cases q : evEo c es ρ with
  | ok d => exact hk d q
  | ex x => exact hx x q
  | bad => exact (hb q).elim
/-- the value at hand, nothing assumed -/
theorem lev_em {e : E} {σ : L2.St} {H H' : Hp} {ρ : Sl} {d : D} {v : V} (g : SlG Γ.K Em [] H σ ρ) (h : ∀ Y O, ZOk Y H → SlG Γ.K Y O H σ ρ → Lv Γ.K Y (lv O e) H' d v) : Rp Γ.K Em H' d v :=
  (h Em [] zok_em g).1 (lv_nil e)
theorem levs_em {e : Es} {σ : L2.St} {H H' : Hp} {ρ : Sl} {d : List D} {v : List V} (g : SlG Γ.K Em [] H σ ρ) (h : ∀ Y O, ZOk Y H → SlG Γ.K Y O H σ ρ → LvL Γ.K Y (lvs O e) H' d v) : RpL Γ.K Em H' d v :=
  (h Em [] zok_em g).1 (lvs_nil e)
theorem RpL.args {K : PySem.W.Frag} {Y : Addr → Prop} {H : Hp} : ∀ {ds : List D} {vs : List V}, RpL K Y H ds vs → ArgsR K Y H ds vs
  | [], _, h => h
  | d :: ds, _, h => by
    obtain ⟨v, vs, e, h1, h2⟩ := h
    exact ⟨v, vs, e, h1.relax, RpL.args h2⟩
end
theorem PE.mono {X : Cx} {e : Expr} {t t' : TE} (h : PE X e t) (m : ∀ σ H Q, t' σ H Q → t σ H Q) : PE X e t' := ⟨fun pins s σ H Q I q => h.run pins s σ H Q I (m σ H Q q)⟩
theorem PT.mono {X : Cx} {e : Expr} {t t' : TT} (h : PT X e t) (m : ∀ σ H Q, t' σ H Q → t σ H Q) : PT X e t' := ⟨fun pins s σ H Q I q => h.run pins s σ H Q I (m σ H Q q)⟩
theorem PW.mono {X : Cx} {e : Expr} {t t' : TT} (h : PW X e t) (m : ∀ σ H Q, t' σ H Q → t σ H Q) : PW X e t' := ⟨fun wh pins s σ H Q I q => h.run wh pins s σ H Q I (m σ H Q q)⟩
theorem PA.mono {X : Cx} {e : List Expr} {t t' : TA} (h : PA X e t) (m : ∀ σ H Q, t' σ H Q → t σ H Q) : PA X e t' := ⟨fun pos pins s σ H Q I q => h.run pos pins s σ H Q I (m σ H Q q)⟩
theorem PO.mono {X : Cx} {e : Option Expr} {t t' : TO} (h : PO X e t) (m : ∀ σ H Q, t' σ H Q → t σ H Q) : PO X e t' := ⟨fun pins s σ H Q I q => h.run pins s σ H Q I (m σ H Q q)⟩
theorem PTs.mono {X : Cx} {e : List Expr} {t t' : TT} (h : PTs X e t) (m : ∀ σ H Q, t' σ H Q → t σ H Q) : PTs X e t' := ⟨fun pins s σ H Q I q => h.run pins s σ H Q I (m σ H Q q)⟩
theorem PI.mono {X : Cx} {tg e : Expr} {t t' : TI} (h : PI X tg e t) (m : ∀ σ H Q, t' σ H Q → t σ H Q) : PI X tg e t' := ⟨fun pins s σ H Q I q => h.run pins s σ H Q I (m σ H Q q)⟩
theorem PS.mono {X : Cx} {e : Stmt} {t t' : TS} (h : PS X e t) (m : ∀ D σ H, t' D σ H → t D σ H) : PS X e t' := ⟨fun pins s σ H D I q => h.run pins s σ H D I (m D σ H q)⟩
theorem PSs.mono {X : Cx} {e : List Stmt} {t t' : TS} (h : PSs X e t) (m : ∀ D σ H, t' D σ H → t D σ H) : PSs X e t' := ⟨fun pins s σ H D I q => h.run pins s σ H D I (m D σ H q)⟩
end Pw

/-! text PwX1 -/
/-! expressions, construct by construct -/
namespace Pw
open PySem PySem.Spec PyProof.Rows L2

section
variable {Γ : Ctx} {c : Nat → List D → R D} {W : WX} {n : Nat} {N : List Str} {sc : Scope} {X : Cx} {pos : Pos}

theorem Fx.units (hf : Fx Γ n N sc X) : X.A.units + 100 < cLine := by have := hf.room.un; omega
theorem vis_of {x : Str} (hf : Fx Γ n N sc X) (h : visB sc x = true) : Vis X.env.scope x := by
  rw [hf.eS]
  unfold visB at h
  split at h
  · exact .inl (by assumption)
  · exact .inr (.inl (by assumption))
  · exact .inr (.inr (by assumption))
  · cases h
theorem glo_of {x : Str} (hf : Fx Γ n N sc X) (h : gloB sc x = true) : Gl X x := by
  show X.env.scope.names.lookup x = _
  rw [hf.eS]
  unfold gloB at h
  split at h
  · assumption
  · cases h
theorem dbg_of {x : Str} (h : dbgB x = true) : (x == ("__debug__" : Str)) = false ∧ (x == ("__classdict__" : Str)) = false ∧ x ≠ "__name__" := by
  unfold dbgB at h
  simp only [Bool.and_eq_true, Bool.not_eq_true', decide_eq_false_iff_not] at h
  exact ⟨h.1.1, h.1.2, h.2⟩

theorem get_ok {ρ : Sl} {i : Nat} {d : D} (h : get ρ i = .ok d) : ρ[i]? = some (some d) := by
  unfold get at h
  split at h
  · cases h
    assumption
  · cases h
theorem get_noex {ρ : Sl} {i : Nat} {x : Tx} : get ρ i ≠ .ex x := by
  unfold get
  split <;> (intro h; cases h)

theorem x_var (hf : Fx Γ n N sc X) {i : Nat} {x : Str} (hN : N[i]? = some x) (hv : visB sc x = true) (hd : dbgB x = true) : PE X (.Name x pos) (spE Γ c W (.var i)) := by
  obtain ⟨d1, d2, d3⟩ := dbg_of hd
  refine PE.mono (pe_var (by rw [hf.eN]; exact hN) (vis_of hf hv) d1 d2) fun σ H Q h => ?_
  obtain ⟨ρ, g, q⟩ := h
  have q : match get ρ i with
    | .ok d => ∀ v H', Same H H' → (∀ Y O, ZOk Y H → SlG Γ.K Y O H σ ρ → Lv Γ.K Y (lv O (.var i)) H' d v) → (frE Γ.fnOf (.var i) = true → Fr H H' d v) → Q v H'
    | .ex x => ∀ H', Same H H' → W (Γ.cl x) none σ H'
    | .bad => False := q
  cases e : get ρ i with
  | ok d =>
    rw [e] at q
    have e := get_ok e
    obtain ⟨v, h1, _, _⟩ := g.at0 i d e
    refine ⟨v, h1, q v H (Same.refl H) (fun Y O zy gy => ?_) (fun z => by cases z)⟩
    obtain ⟨v', h2, r2, r3⟩ := gy.at0 i d e
    rw [h1] at h2
    cases h2
    show Lv _ _ (if O.contains i = true then 1 else 0) _ _ _
    by_cases ho : O.contains i = true
    · rw [if_pos ho]
      exact ⟨fun z => absurd z (by decide), fun _ => r2⟩
    · rw [if_neg ho]
      exact ⟨fun _ => r3 fun z => ho (by simpa using z), fun _ => r2⟩
  | ex x => exact absurd e get_noex
  | bad => rw [e] at q; exact q.elim
theorem x_lit {d : D} {e : Expr} (h : litB d e = true) : PE X e (spE Γ c W (.lit d)) := by
  have key : ∀ {v : V}, (∀ Y H, Rp Γ.K Y H d v) → (∀ H, Fr H H d v) → ∀ σ H Q, spE Γ c W (.lit d) σ H Q → tC v σ H Q := fun {v} hr hfr σ H Q hq => by
    obtain ⟨ρ, g, q⟩ := hq
    exact q v H (Same.refl H) (fun Y O _ _ => .of0 (hr Y H)) (fun _ => hfr H)
  cases d with
  | int i =>
    cases e with
    | Constant k a b =>
      cases k with
      | int j =>
        have e : i = j := of_decide_eq_true h
        subst e
        exact PE.mono pe_int (key (fun _ _ => rfl) (fun _ => trivial))
      | _ => cases h
    | _ => cases h
  | bl i =>
    cases e with
    | Constant k a b =>
      cases k with
      | bool j =>
        have e : i = j := eq_of_beq h
        subst e
        exact PE.mono pe_bl (key (fun _ _ => rfl) (fun _ => trivial))
      | _ => cases h
    | _ => cases h
  | non =>
    cases e with
    | Constant k a b =>
      cases k with
      | none => exact PE.mono pe_non (key (fun _ _ => rfl) (fun _ => trivial))
      | _ => cases h
    | _ => cases h
  | str s =>
    cases e with
    | Constant k a b =>
      cases k with
      | str x =>
        have h : (decide (s = x.cps.toList) && Nat.ble s.length 10000) = true := h
        simp only [Bool.and_eq_true, decide_eq_true_eq] at h
        obtain ⟨rfl, h2⟩ := h
        have h2 := Nat.le_of_ble_eq_true h2
        exact PE.mono pe_str (key (v := .str x) (fun _ _ => ⟨rfl, by rw [sizeLine_eq]; omega⟩) (fun _ => trivial))
      | _ => cases h
    | _ => cases h
  | _ => cases e <;> cases h

/-- two expressions in a row -/
theorem seq2 {a b : E} {A : Type} {f : D → D → R A} {σ : L2.St} {H : Hp} {ρ : Sl} {Rr : V → V → Hp → Prop} (g : SlG Γ.K Em [] H σ ρ)
    (hb : ((evE c a ρ).bind fun x => (evE c b ρ).bind fun y => f x y) ≠ .bad)
    (hx : ∀ x, ((evE c a ρ).bind fun x => (evE c b ρ).bind fun y => f x y) = .ex x → ∀ H', Same H H' → W (Γ.cl x) none σ H')
    (hk : ∀ da db, evE c a ρ = .ok da → evE c b ρ = .ok db → ∀ x y H2, Same H H2 → SlG Γ.K Em [] H2 σ ρ → Rp Γ.K Em H2 da x → Rp Γ.K Em H2 db y →
      (∀ Y O, ZOk Y H → SlG Γ.K Y O H σ ρ → Lv Γ.K Y (lv O a) H2 da x ∧ Lv Γ.K Y (lv O b) H2 db y) → Rr x y H2) :
    spE Γ c W a σ H fun x H1 => spE Γ c W b σ H1 fun y H2 => Rr x y H2 := by
  refine spE.mk g (fun z => hb (by rw [z]; rfl)) (fun x z => hx x (by rw [z]; rfl)) fun da ea x H1 s1 l1 _ => ?_
  rw [ea] at hb hx
  have g1 := g.same s1
  refine spE.mk g1 (fun z => hb (by rw [R.ok_bind, z]; rfl)) (fun y z H' s' => hx y (by rw [R.ok_bind, z]; rfl) H' (s1.trans s')) fun db eb y H2 s2 l2 _ => ?_
  refine hk da db ea eb x y H2 (s1.trans s2) (g1.same s2) ((lev_em g l1).same s2) (lev_em g1 l2) fun Y O zy gy => ?_
  exact ⟨(l1 Y O zy gy).same s2, l2 Y O (zy.same s1) (gy.same s1)⟩

theorem op2_noex {op : Op2} {a b : D} {x : Tx} : op2 op a b ≠ .ex x := by
  intro h
  cases op <;> cases a <;> cases b <;> simp only [op2] at h <;> first | (cases h; done) | (split at h <;> cases h)
theorem x_bin (hf : Fx Γ n N sc X) {op : Op2} {a b : E} {l r : Expr} (ha : PE X l (spE Γ c W a)) (hb : PE X r (spE Γ c W b)) : PE X (.BinOp l (opr op) r pos) (spE Γ c W (.bin op a b)) := by
  refine PE.mono (pe_op (op2_rule op) ha hb) fun σ H Q h => ?_
  obtain ⟨ρ, g, q⟩ := h
  have q : match ((evE c a ρ).bind fun x => (evE c b ρ).bind fun y => op2 op x y) with
    | .ok d => ∀ v H', Same H H' → (∀ Y O, ZOk Y H → SlG Γ.K Y O H σ ρ → Lv Γ.K Y (lv O (.bin op a b)) H' d v) → (true = true → Fr H H' d v) → Q v H'
    | .ex x => ∀ H', Same H H' → W (Γ.cl x) none σ H'
    | .bad => False := q
  refine seq2 (f := op2 op) g (fun z => by rw [z] at q; exact q) (fun x z => by rw [z] at q; exact q) fun da db ea eb x y H2 s2 g2 ra rb lev => ?_
  rw [ea, eb, R.ok_bind, R.ok_bind] at q
  cases eo : op2 op da db with
  | ex t => exact absurd eo op2_noex
  | bad => rw [eo] at q; exact q.elim
  | ok d =>
    rw [eo] at q
    refine ⟨da, db, d, by rw [hf.K]; exact ra.relax, by rw [hf.K]; exact rb.relax, eo, fun v H' s' hr hfr => ?_⟩
    rw [hf.K] at hr
    refine q v H' (s2.trans s') (fun Y O zy gy => ?_) (fun _ => ?_)
    · obtain ⟨la, lb⟩ := lev Y O zy gy
      exact .if2 fun hc => hr Y (zy.same s2) (la.2 hc.1) (lb.2 hc.2)
    · have fr := hfr rfl
      cases d with
      | lst ds =>
        obtain ⟨p, xs, e1, e2, e3⟩ := fr
        exact ⟨p, xs, e1, s2.free e2, e3⟩
      | dct _ _ =>
        obtain ⟨p, xs, e1, e2, e3⟩ := fr
        exact ⟨p, xs, e1, s2.free e2, e3⟩
      | _ => trivial

theorem eqR_noex {a b : D} {x : Tx} : eqR a b ≠ .ex x := by
  unfold eqR
  split
  · intro h; cases h
  · split <;> (intro h; cases h)
theorem memR_noex {a : D} {b : List D} {x : Tx} : memR a b ≠ .ex x := by unfold memR; split <;> (intro h; cases h)
theorem inR_noex {a b : D} {x : Tx} : inR a b ≠ .ex x := by
  intro h
  unfold inR at h
  split at h
  · cases h
  · exact memR_noex h
  · exact memR_noex h
  · split at h <;> cases h
  · cases h
theorem isR_noex {a b : D} {x : Tx} : isR a b ≠ .ex x := by
  intro h
  unfold isR at h
  split at h <;> cases h
theorem mapR_ex {A B : Type} {f : A → B} {r : R A} {x : Tx} (h : mapR f r = .ex x) : r = .ex x := by
  cases r with
  | ok a => cases h
  | ex y => cases h; rfl
  | bad => cases h
theorem cmpB_noex {op : Cm} {a b : D} {x : Tx} : cmpB op a b ≠ .ex x := by
  intro h
  cases op with
  | eq => exact eqR_noex h
  | ne => exact eqR_noex (mapR_ex h)
  | isin => exact inR_noex h
  | notin => exact inR_noex (mapR_ex h)
  | is => exact isR_noex h
  | isnot => exact isR_noex (mapR_ex h)
  | lt => cases a <;> cases b <;> cases h
  | le => cases a <;> cases b <;> cases h
  | gt => cases a <;> cases b <;> cases h
  | ge => cases a <;> cases b <;> cases h
/-- a comparison's promise, whatever is made of it -/
theorem cmp_core (hf : Fx Γ n N sc X) {op : Cm} {a b : E} {σ : L2.St} {H : Hp} {ρ : Sl} {Q : VK} (g : SlG Γ.K Em [] H σ ρ)
    (hb : ((evE c a ρ).bind fun x => (evE c b ρ).bind fun y => cmpB op x y) ≠ .bad)
    (hx : ∀ x, ((evE c a ρ).bind fun x => (evE c b ρ).bind fun y => cmpB op x y) = .ex x → ∀ H', Same H H' → W (Γ.cl x) none σ H')
    (hk : ∀ k, ((evE c a ρ).bind fun x => (evE c b ρ).bind fun y => cmpB op x y) = .ok k → ∀ H', Same H H' → Q (.bl k) H') : tOp (rC X.K (cmpB op)) (spE Γ c W a) (spE Γ c W b) σ H Q := by
  refine seq2 (f := cmpB op) g hb hx fun da db ea eb x y H2 s2 g2 ra rb lev => ?_
  rw [ea, eb, R.ok_bind, R.ok_bind] at hb hk
  cases eo : cmpB op da db with
  | ex t => exact absurd eo cmpB_noex
  | bad => exact (hb eo).elim
  | ok k => exact ⟨da, db, k, by rw [hf.K]; exact ra.relax, by rw [hf.K]; exact rb.relax, eo, hk k eo H2 s2⟩
theorem bind_map {A B C : Type} {r : R A} {f : A → R B} {g : B → C} : (r.bind fun x => mapR g (f x)) = mapR g (r.bind f) := by
  cases r <;> rfl
theorem evE_cmp {op : Cm} {a b : E} {ρ : Sl} : evE c (.cmp op a b) ρ = mapR .bl ((evE c a ρ).bind fun x => (evE c b ρ).bind fun y => cmpB op x y) := by
  show ((evE c a ρ).bind fun x => (evE c b ρ).bind fun y => mapR D.bl (cmpB op x y)) = _
  cases evE c a ρ with
  | ok x => cases evE c b ρ <;> rfl
  | _ => rfl
theorem x_cmp (hf : Fx Γ n N sc X) {op : Cm} {a b : E} {l r : Expr} (ha : PE X l (spE Γ c W a)) (hb : PE X r (spE Γ c W b)) (hm : behindInMarks (cmr op) r = false) :
    PE X (.Compare l [cmr op] [r] pos) (spE Γ c W (.cmp op a b)) := by
  refine PE.mono (pe_cmpR (cmp_rule hf.units op) ha hb hm) fun σ H Q h => ?_
  obtain ⟨ρ, g, q⟩ := h
  rw [evE_cmp] at q
  refine cmp_core hf g (fun z => by rw [z] at q; exact q) (fun x z => by rw [z] at q; exact q) fun k z H' s' => ?_
  rw [z] at q
  exact q (.bl k) H' s' (fun _ _ _ _ => .of0 rfl) (fun _ => trivial)
theorem xt_cmp (hf : Fx Γ n N sc X) {op : Cm} {a b : E} {l r : Expr} (ha : PE X l (spE Γ c W a)) (hb : PE X r (spE Γ c W b)) (hm : behindInMarks (cmr op) r = false) :
    PT X (.Compare l [cmr op] [r] pos) (spT Γ c W (.cmp op a b)) := by
  refine PT.mono (pt_cmpR (cmp_rule hf.units op) ha hb hm) fun σ H Q h => ?_
  obtain ⟨ρ, g, q⟩ := h
  rw [evE_cmp] at q
  refine cmp_core hf g (fun z => by rw [z] at q; exact q) (fun x z => by rw [z] at q; exact q) fun k z H' s' => ?_
  rw [z] at q
  exact ⟨k, rfl, q H' s'⟩
/-- any expression as a test, by its value's truth -/
theorem x_pur {a : E} {e : Expr} (ha : PE X e (spE Γ c W a)) : PE X e (spE Γ c W (.pur a)) := by
  refine PE.mono ha fun σ H Q h => ?_
  obtain ⟨ρ, g, q⟩ := h
  have q : match ((evE c a ρ).bind fun d => if d.noC then R.ok d else .bad) with
    | .ok d => ∀ v H', Same H H' → (∀ Y O, ZOk Y H → SlG Γ.K Y O H σ ρ → Lv Γ.K Y 0 H' d v) → (false = true → Fr H H' d v) → Q v H'
    | .ex x => ∀ H', Same H H' → W (Γ.cl x) none σ H'
    | .bad => False := q
  refine spE.mk g (fun z => by rw [z] at q; exact q) (fun x z => by rw [z] at q; exact q) fun d z v H1 s1 lev _ => ?_
  rw [z, R.ok_bind] at q
  cases hn : d.noC with
  | false => rw [hn] at q; exact q.elim
  | true =>
    rw [hn] at q
    have r := lev_em g lev
    exact q v H1 s1 (fun Y O _ _ => ⟨fun _ => Rp.noC d v hn r, fun _ => (Rp.noC (Z' := Y) d v hn r).relax⟩) (fun z => by cases z)
theorem xt_pur {a : E} {e : Expr} (ha : PT X e (spT Γ c W a)) : PT X e (spT Γ c W (.pur a)) := by
  refine PT.mono ha fun σ H Q h => ?_
  obtain ⟨ρ, g, q⟩ := h
  have q : match (((evE c a ρ).bind fun d => if d.noC then R.ok d else .bad).bind noX) with
    | .ok d => ∀ H', Same H H' → Q d.truth H'
    | .ex x => ∀ H', Same H H' → W (Γ.cl x) none σ H'
    | .bad => False := q
  refine ⟨ρ, g, ?_⟩
  cases z : evE c a ρ with
  | bad => rw [z] at q; exact q
  | ex x => rw [z] at q; exact q
  | ok d =>
    rw [z] at q
    rw [R.ok_bind] at q ⊢
    cases hn : d.noC with
    | false => rw [hn] at q; exact q.elim
    | true =>
      rw [hn] at q
      exact q
theorem xt_val (hf : Fx Γ n N sc X) {a : E} {e : Expr} (h : PE X e (spE Γ c W a)) (he : ∀ whole, isTrue e X.env whole = (do let v ← whole; standAt e.pos; holding [v] (truthy v))) : PT X e (spT Γ c W a) := by
  refine PT.mono (pt_truth h he) fun σ H Q q => ?_
  obtain ⟨ρ, g, q⟩ := q
  refine spE.mk g (fun z => by rw [z] at q; exact q) (fun x z => by rw [z] at q; exact q) fun d z v H' s' lev _ => ?_
  rw [z, R.ok_bind] at q
  rcases noX_cases d with nx | nx
  · rw [nx] at q
    refine ⟨d.truth, ?_, q H' s'⟩
    rw [hf.K]
    exact tru_rule (lev_em g lev).relax (by rw [nx]; intro z; cases z)
  · rw [nx] at q; exact q.elim
theorem x_not (hf : Fx Γ n N sc X) {a : E} {e : Expr} (h : PE X e (spE Γ c W a)) : PE X (.UnaryOp .Not e pos) (spE Γ c W (.not a)) := by
  refine PE.mono (pe_notT h) fun σ H Q q => ?_
  obtain ⟨ρ, g, q⟩ := q
  have q : match (((evE c a ρ).bind noX).bind fun x => .ok (.bl (!x.truth))) with
    | .ok d => ∀ v H', Same H H' → (∀ Y O, ZOk Y H → SlG Γ.K Y O H σ ρ → Lv Γ.K Y (lv O (.not a)) H' d v) → (true = true → Fr H H' d v) → Q v H'
    | .ex x => ∀ H', Same H H' → W (Γ.cl x) none σ H'
    | .bad => False := q
  refine spE.mk g (fun z => by rw [z] at q; exact q) (fun x z => by rw [z] at q; exact q) fun d z v H' s' lev _ => ?_
  rw [z, R.ok_bind] at q
  rcases noX_cases d with nx | nx
  · rw [nx] at q
    refine ⟨d.truth, ?_, q _ H' s' (fun _ _ _ _ => .of0 rfl) (fun _ => trivial)⟩
    rw [hf.K]
    exact tru_rule (lev_em g lev).relax (by rw [nx]; intro z; cases z)
  · rw [nx] at q; exact q.elim
theorem xt_not {a : E} {e : Expr} (h : PT X e (spT Γ c W a)) : PT X (.UnaryOp .Not e pos) (spT Γ c W (.not a)) := by
  refine PT.mono (pt_not h) fun σ H Q q => ?_
  obtain ⟨ρ, g, q⟩ := q
  have q : match ((((evE c a ρ).bind noX).bind fun x => R.ok (D.bl (!x.truth)))).bind noX with
    | .ok d => ∀ H', Same H H' → Q d.truth H'
    | .ex x => ∀ H', Same H H' → W (Γ.cl x) none σ H'
    | .bad => False := q
  refine spT.mk g (fun z => by rw [z] at q; exact q) (fun x z => by rw [z] at q; exact q) fun d z H' s' => ?_
  rw [z] at q
  exact q H' s'
theorem x_neg (hf : Fx Γ n N sc X) {a : E} {e : Expr} (h : PE X e (spE Γ c W a)) : PE X (.UnaryOp .USub e pos) (spE Γ c W (.neg a)) := by
  refine PE.mono (pe_un un_neg h) fun σ H Q q => ?_
  obtain ⟨ρ, g, q⟩ := q
  have q : match (evE c a ρ).bind negR with
    | .ok d => ∀ v H', Same H H' → (∀ Y O, ZOk Y H → SlG Γ.K Y O H σ ρ → Lv Γ.K Y (lv O (.neg a)) H' d v) → (true = true → Fr H H' d v) → Q v H'
    | .ex x => ∀ H', Same H H' → W (Γ.cl x) none σ H'
    | .bad => False := q
  refine spE.mk g (fun z => by rw [z] at q; exact q) (fun x z => by rw [z] at q; exact q) fun d z v H' s' lev _ => ?_
  rw [z, R.ok_bind] at q
  cases d with
  | int i =>
    exact ⟨i, lev_em g lev, q _ H' s' (fun _ _ _ _ => .of0 rfl) (fun _ => trivial)⟩
  | _ => exact q.elim
theorem pt_ite {t a b : Expr} {tt ta tb : TT} (ht : PT X t tt) (ha : PT X a ta) (hb : PT X b tb) : PT X (.IfExp t a b pos) (fun σ H Q => tt σ H fun k H1 => if k = true then ta σ H1 Q else tb σ H1 Q) := by
  refine ⟨fun pins s σ H Q I h => ?_⟩
  show wpAny _ _ (do if ← isTrue t X.env (eval t X.env) then isTrue a X.env (eval a X.env) else isTrue b X.env (eval b X.env)) _ _ _
  refine wpAny_bind (thn (ht.run pins s σ H _ I h) fun k s1 q => ?_)
  obtain ⟨H1, I1, q⟩ := q
  cases k with
  | true => exact ha.run pins s1 σ H1 Q I1 q
  | false => exact hb.run pins s1 σ H1 Q I1 q
theorem x_ite {t a b : E} {x y z : Expr} (ht : PT X x (spT Γ c W t)) (ha : PE X y (spE Γ c W a)) (hb : PE X z (spE Γ c W b)) : PE X (.IfExp x y z pos) (spE Γ c W (.ite t a b)) := by
  refine PE.mono (pe_ifExp ht ha hb) fun σ H Q q => ?_
  obtain ⟨ρ, g, q⟩ := q
  have q : match (((evE c t ρ).bind noX).bind fun x => if x.truth then evE c a ρ else evE c b ρ) with
    | .ok d => ∀ v H', Same H H' → (∀ Y O, ZOk Y H → SlG Γ.K Y O H σ ρ → Lv Γ.K Y (max (lv O a) (lv O b)) H' d v) → ((frE Γ.fnOf a && frE Γ.fnOf b) = true → Fr H H' d v) → Q v H'
    | .ex x => ∀ H', Same H H' → W (Γ.cl x) none σ H'
    | .bad => False := q
  refine spT.mk g (fun z => by rw [z] at q; exact q) (fun x z => by rw [z] at q; exact q) fun d z H' s' => ?_
  rw [z, R.ok_bind] at q
  have fr_of : ∀ {d v H2}, Fr H' H2 d v → Fr H H2 d v := fun {d v H2} fr => by
    cases d with
    | lst ds =>
      obtain ⟨p, xs, e1, e2, e3⟩ := fr
      exact ⟨p, xs, e1, s'.free e2, e3⟩
    | dct _ _ =>
      obtain ⟨p, xs, e1, e2, e3⟩ := fr
      exact ⟨p, xs, e1, s'.free e2, e3⟩
    | _ => trivial
  cases hk : d.truth with
  | true =>
    rw [hk] at q
    refine iteT (spE.mk (g.same s') (fun z => by rw [if_pos rfl, z] at q; exact q) (fun x z H2 s2 => by rw [if_pos rfl, z] at q; exact q H2 (s'.trans s2)) fun d2 z2 v H2 s2 lev fr => ?_)
    rw [if_pos rfl, z2] at q
    exact q v H2 (s'.trans s2) (fun Y O zy gy => (lev Y O (zy.same s') (gy.same s')).mono (Nat.le_max_left _ _)) (fun hh => fr_of (fr (Bool.and_eq_true_iff.mp hh).1))
  | false =>
    rw [hk] at q
    refine iteF (spE.mk (g.same s') (fun z => by rw [if_neg Bool.false_ne_true, z] at q; exact q) (fun x z H2 s2 => by rw [if_neg Bool.false_ne_true, z] at q; exact q H2 (s'.trans s2)) fun d2 z2 v H2 s2 lev fr => ?_)
    rw [if_neg Bool.false_ne_true, z2] at q
    exact q v H2 (s'.trans s2) (fun Y O zy gy => (lev Y O (zy.same s') (gy.same s')).mono (Nat.le_max_right _ _)) (fun hh => fr_of (fr (Bool.and_eq_true_iff.mp hh).2))
theorem xt_ite {t a b : E} {x y z : Expr} (ht : PT X x (spT Γ c W t)) (ha : PT X y (spT Γ c W a)) (hb : PT X z (spT Γ c W b)) : PT X (.IfExp x y z pos) (spT Γ c W (.ite t a b)) := by
  refine PT.mono (pt_ite ht ha hb) fun σ H Q q => ?_
  obtain ⟨ρ, g, q⟩ := q
  have q : match (((evE c t ρ).bind noX).bind fun x => if x.truth then evE c a ρ else evE c b ρ).bind noX with
    | .ok d => ∀ H', Same H H' → Q d.truth H'
    | .ex x => ∀ H', Same H H' → W (Γ.cl x) none σ H'
    | .bad => False := q
  refine spT.mk g (fun z => by rw [z] at q; exact q) (fun x z => by rw [z] at q; exact q) fun d z H' s' => ?_
  rw [z, R.ok_bind] at q
  cases hk : d.truth with
  | true =>
    rw [hk] at q
    refine iteT (spT.mk (g.same s') (fun z => by rw [if_pos rfl, z] at q; exact q) (fun x z H2 s2 => by rw [if_pos rfl, z] at q; exact q H2 (s'.trans s2)) fun d2 z2 H2 s2 => ?_)
    rw [if_pos rfl, z2] at q
    exact q H2 (s'.trans s2)
  | false =>
    rw [hk] at q
    refine iteF (spT.mk (g.same s') (fun z => by rw [if_neg Bool.false_ne_true, z] at q; exact q) (fun x z H2 s2 => by rw [if_neg Bool.false_ne_true, z] at q; exact q H2 (s'.trans s2)) fun d2 z2 H2 s2 => ?_)
    rw [if_neg Bool.false_ne_true, z2] at q
    exact q H2 (s'.trans s2)
end
end Pw

/-! text PwX2 -/
/-! expressions, construct by construct: displays, places, cuts, and, or, chains -/
namespace Pw
open PySem PySem.Spec PyProof.Rows L2

section
variable {Γ : Ctx} {c : Nat → List D → R D} {W : WX} {n : Nat} {N : List Str} {sc : Scope} {X : Cx} {pos : Pos}

theorem fr_back {H H1 H' : Hp} (s : Same H H1) {d : D} {v : V} (fr : Fr H1 H' d v) : Fr H H' d v := by
  cases d with
  | lst ds =>
    obtain ⟨p, xs, e1, e2, e3⟩ := fr
    exact ⟨p, xs, e1, s.free e2, e3⟩
  | dct _ _ =>
    obtain ⟨p, xs, e1, e2, e3⟩ := fr
    exact ⟨p, xs, e1, s.free e2, e3⟩
  | _ => trivial

/-! ### arguments -/
theorem a_nil : PA X [] (spA Γ c W .nil) := by
  refine PA.mono pa_nil fun σ H Q q => ?_
  obtain ⟨ρ, g, q⟩ := q
  exact q [] H (Same.refl H) fun Y O _ _ => ⟨fun _ => rfl, fun _ => rfl⟩
theorem a_cons {a : E} {es : Es} {x : Expr} {xs : List Expr} (ha : PE X x (spE Γ c W a)) (hs : PA X xs (spA Γ c W es)) (st : starEach (x :: xs) X.env = (false, eval x X.env) :: starEach xs X.env) :
    PA X (x :: xs) (spA Γ c W (.cons a es)) := by
  refine PA.mono (pa_cons ha hs st) fun σ H Q q => ?_
  obtain ⟨ρ, g, q⟩ := q
  have q : match ((evE c a ρ).bind fun d => (evEs c es ρ).bind fun ds => R.ok (d :: ds)) with
    | .ok ds => ∀ vs H', Same H H' → (∀ Y O, ZOk Y H → SlG Γ.K Y O H σ ρ → LvL Γ.K Y (max (lv O a) (lvs O es)) H' ds vs) → Q vs H'
    | .ex x => ∀ H', Same H H' → W (Γ.cl x) none σ H'
    | .bad => False := q
  refine spE.mk g (fun z => by rw [z] at q; exact q) (fun x z => by rw [z] at q; exact q) fun d z v H1 s1 lev _ => ?_
  rw [z, R.ok_bind] at q
  refine spA.mk (g.same s1) (fun z => by rw [z] at q; exact q) (fun x z H2 s2 => by rw [z] at q; exact q H2 (s1.trans s2)) fun ds z2 vs H2 s2 levs => ?_
  rw [z2] at q
  refine q (v :: vs) H2 (s1.trans s2) fun Y O zy gy => ?_
  have l1 := (lev Y O zy gy).same s2
  have l2 := levs Y O (zy.same s1) (gy.same s1)
  exact ⟨fun hz => ⟨v, vs, rfl, l1.1 (by omega), l2.1 (by omega)⟩, fun hz => ⟨v, vs, rfl, l1.2 (by omega), l2.2 (by omega)⟩⟩

theorem x_tup (hf : Fx Γ n N sc X) {es : Es} {xs : List Expr} {k : Nat} (hs : PA X xs (spA Γ c W es)) (hl : ∀ ρ ds, evEs c es ρ = .ok ds → ds.length ≤ 10000) : PE X (.Tuple xs k pos) (spE Γ c W (.tup es)) := by
  refine PE.mono (pe_tupN hs) fun σ H Q q => ?_
  obtain ⟨ρ, g, q⟩ := q
  have q : match ((evEs c es ρ).bind fun ds => R.ok (D.tup ds)) with
    | .ok d => ∀ v H', Same H H' → (∀ Y O, ZOk Y H → SlG Γ.K Y O H σ ρ → Lv Γ.K Y (if lvs O es = 0 then 0 else 2) H' d v) → (true = true → Fr H H' d v) → Q v H'
    | .ex x => ∀ H', Same H H' → W (Γ.cl x) none σ H'
    | .bad => False := q
  refine spA.mk g (fun z => by rw [z] at q; exact q) (fun x z => by rw [z] at q; exact q) fun ds z vs H1 s1 lev => ?_
  rw [z, R.ok_bind] at q
  have hz := hl ρ ds z
  refine ⟨by rw [← (levs_em g lev).length, sizeLine_eq]; omega, ?_⟩
  cases hn : prs ds with
  | false => exact .inl fun p hp => q _ _ (s1.trans (same_upd hp)) (fun Y O zy gy => .if2 fun h0 => Rp.new_tup hp hn ((lev Y O zy gy).1 h0)) (fun _ => trivial)
  | true => exact .inr fun p its hp => q _ _ (s1.trans (same_upd hp)) (fun Y O zy gy => .if2 fun h0 => Rp.new_known hp ((lev Y O zy gy).1 h0)) (fun _ => trivial)
theorem x_lst (hf : Fx Γ n N sc X) {es : Es} {xs : List Expr} (hs : PA X xs (spA Γ c W es)) (hl : ∀ ρ ds, evEs c es ρ = .ok ds → ds.length ≤ 10000) : PE X (.List xs pos) (spE Γ c W (.lst es)) := by
  refine PE.mono (pe_lst hs) fun σ H Q q => ?_
  obtain ⟨ρ, g, q⟩ := q
  have q : match ((evEs c es ρ).bind fun ds => R.ok (D.lst ds)) with
    | .ok d => ∀ v H', Same H H' → (∀ Y O, ZOk Y H → SlG Γ.K Y O H σ ρ → Lv Γ.K Y (if lvs O es = 0 then 0 else 2) H' d v) → (true = true → Fr H H' d v) → Q v H'
    | .ex x => ∀ H', Same H H' → W (Γ.cl x) none σ H'
    | .bad => False := q
  refine spA.mk g (fun z => by rw [z] at q; exact q) (fun x z => by rw [z] at q; exact q) fun ds z vs H1 s1 lev => ?_
  rw [z, R.ok_bind] at q
  have hz := hl ρ ds z
  refine ⟨by rw [← (levs_em g lev).length, sizeLine_eq]; omega, fun p hp => q _ _ (s1.trans (same_upd hp)) (fun Y O zy gy => .if2 fun h0 => ?_) (fun _ => ⟨p, _, rfl, s1.free hp, upd_same⟩)⟩
  exact Rp.new_lst hp ((zy.same s1).not_none hp) ((lev Y O zy gy).1 h0)

theorem idxR_noex {a b : D} {x : Tx} : idxR a b ≠ .ex x := by
  intro h
  unfold idxR at h
  split at h
  · rename_i xs i
    cases e : atI xs i <;> rw [e] at h <;> cases h
  · rename_i xs i
    cases e : atI xs i <;> rw [e] at h <;> cases h
  · rename_i xs i
    cases e : atI xs i <;> rw [e] at h <;> cases h
  · rename_i ks vs
    split at h
    · cases e : dfind b ks vs <;> rw [e] at h <;> cases h
    · cases h
  · cases h
theorem idx_core (hf : Fx Γ n N sc X) {a b : E} {σ : L2.St} {H : Hp} {Q : VK} (h : spE Γ c W (.idx a b) σ H Q) : tOp (rB X.K idxR false) (spE Γ c W a) (spE Γ c W b) σ H Q := by
  obtain ⟨ρ, g, q⟩ := h
  have q : match ((evE c a ρ).bind fun x => (evE c b ρ).bind fun y => idxR x y) with
    | .ok d => ∀ v H', Same H H' → (∀ Y O, ZOk Y H → SlG Γ.K Y O H σ ρ → Lv Γ.K Y (if lv O a ≤ 1 then 0 else 2) H' d v) → (false = true → Fr H H' d v) → Q v H'
    | .ex x => ∀ H', Same H H' → W (Γ.cl x) none σ H'
    | .bad => False := q
  refine seq2 (f := idxR) g (fun z => by rw [z] at q; exact q) (fun x z => by rw [z] at q; exact q) fun da db ea eb x y H2 s2 g2 ra rb lev => ?_
  rw [ea, eb, R.ok_bind, R.ok_bind] at q
  cases eo : idxR da db with
  | ex t => exact absurd eo idxR_noex
  | bad => rw [eo] at q; exact q.elim
  | ok d =>
    rw [eo] at q
    refine ⟨da, db, d, by rw [hf.K]; exact ra.relax, by rw [hf.K]; exact rb.relax, eo, fun v H' s' hr _ => ?_⟩
    rw [hf.K] at hr
    refine q v H' (s2.trans s') (fun Y O zy gy => ?_) (fun z => by cases z)
    obtain ⟨la, lb⟩ := lev Y O zy gy
    refine .if2 fun hc => hr Y (zy.same s2) (la.2 hc) ?_
    -- the place is a number
    cases db with
    | int i => exact rb
    | str i => exact rb
    | _ => cases da <;> cases eo
theorem x_idx (hf : Fx Γ n N sc X) {a b : E} {l r : Expr} (ha : PE X l (spE Γ c W a)) (hb : PE X r (spE Γ c W b)) (hp : PlainIx r) : PE X (.Subscript l r pos) (spE Γ c W (.idx a b)) :=
  PE.mono (pe_ix (idx_rule hf.units) ha hb hp) fun σ H Q h => idx_core hf h

/-! ### cuts -/
theorem o_none : PO X none (spO Γ c W .none) := by
  refine PO.mono po_none fun σ H Q q => ?_
  obtain ⟨ρ, g, q⟩ := q
  exact q H (Same.refl H)
theorem o_some {a : E} {x : Expr} (h : PE X x (spE Γ c W a)) : PO X (some x) (spO Γ c W (.some a)) := by
  refine PO.mono (po_some h) fun σ H Q q => ?_
  obtain ⟨ρ, g, q⟩ := q
  have q : match intO (evE c a ρ) with
    | .ok d => ∀ H', Same H H' → Q d H'
    | .ex x => ∀ H', Same H H' → W (Γ.cl x) none σ H'
    | .bad => False := q
  refine spE.mk g (fun z => by rw [z] at q; exact q) (fun x z => by rw [z] at q; exact q) fun d z v H1 s1 lev _ => ?_
  rw [z] at q
  cases d with
  | int i => exact ⟨i, lev_em g lev, q H1 s1⟩
  | _ => exact (show False from q).elim
theorem slR_noex {a : D} {lo hi : Option Int} {x : Tx} : slR a lo hi ≠ .ex x := by
  intro h
  cases a <;> cases h
theorem x_sl (hf : Fx Γ n N sc X) {a : E} {lo hi : Eo} {x : Expr} {l h : Option Expr} {p2 : Pos} (ha : PE X x (spE Γ c W a)) (hl : PO X l (spO Γ c W lo)) (hh : PO X h (spO Γ c W hi)) :
    PE X (.Subscript x (.Slice l h none p2) pos) (spE Γ c W (.sl a lo hi)) := by
  refine PE.mono (pe_slice sl_rule ha hl hh) fun σ H Q q => ?_
  obtain ⟨ρ, g, q⟩ := q
  have q : match ((evE c a ρ).bind fun x => (evEo c lo ρ).bind fun l => (evEo c hi ρ).bind fun h => slR x l h) with
    | .ok d => ∀ v H', Same H H' → (∀ Y O, ZOk Y H → SlG Γ.K Y O H σ ρ → Lv Γ.K Y (if lv O a ≤ 1 then 0 else 2) H' d v) → (true = true → Fr H H' d v) → Q v H'
    | .ex x => ∀ H', Same H H' → W (Γ.cl x) none σ H'
    | .bad => False := q
  refine spE.mk g (fun z => by rw [z] at q; exact q) (fun x z => by rw [z] at q; exact q) fun d z v H1 s1 lev _ => ?_
  rw [z, R.ok_bind] at q
  refine spO.mk (g.same s1) (fun z => by rw [z] at q; exact q) (fun x z H2 s2 => by rw [z] at q; exact q H2 (s1.trans s2)) fun l z2 H2 s2 => ?_
  rw [z2, R.ok_bind] at q
  refine spO.mk ((g.same s1).same s2) (fun z => by rw [z] at q; exact q) (fun x z H3 s3 => by rw [z] at q; exact q H3 ((s1.trans s2).trans s3)) fun h z3 H3 s3 => ?_
  rw [z3, R.ok_bind] at q
  have s13 := (s1.trans s2).trans s3
  cases eo : slR d l h with
  | ex t => exact absurd eo slR_noex
  | bad => rw [eo] at q; exact q.elim
  | ok r =>
    rw [eo] at q
    have re := (lev_em g lev).same (s2.trans s3)
    refine ⟨d, r, by rw [hf.K]; exact re.relax, eo, fun u H' s' hr fr => ?_⟩
    rw [hf.K] at hr
    refine q u H' (s13.trans s') (fun Y O zy gy => .if2 fun hc => ?_) (fun _ => fr_back s13 fr)
    exact hr Y (zy.same s13) (((lev Y O zy gy).2 hc).same (s2.trans s3))
theorem x_rev (hf : Fx Γ n N sc X) {a : E} {x : Expr} {k : Nat} {p1 p2 p3 : Pos} (ha : PE X x (spE Γ c W a)) :
    PE X (.Subscript x (.Slice none none (some (.UnaryOp .USub (.Constant (.int 1) k p1) p2)) p3) pos) (spE Γ c W (.rev a)) := by
  refine PE.mono (pe_revL ha) fun σ H Q q => ?_
  obtain ⟨ρ, g, q⟩ := q
  have q : match ((evE c a ρ).bind fun x => match x with
      | .lst xs => R.ok (D.lst xs.reverse)
      | _ => .bad) with
    | .ok d => ∀ v H', Same H H' → (∀ Y O, ZOk Y H → SlG Γ.K Y O H σ ρ → Lv Γ.K Y (if lv O a ≤ 1 then 0 else 2) H' d v) → (true = true → Fr H H' d v) → Q v H'
    | .ex x => ∀ H', Same H H' → W (Γ.cl x) none σ H'
    | .bad => False := q
  refine spE.mk g (fun z => by rw [z] at q; exact q) (fun x z => by rw [z] at q; exact q) fun d z v H1 s1 lev _ => ?_
  rw [z, R.ok_bind] at q
  cases d with
  | lst ds =>
    obtain ⟨p, xs, e1, r1, _, g1⟩ := lev_em g lev
    refine ⟨p, xs, e1, by rw [hf.K]; exact .inl r1, fun t ht => ?_⟩
    refine q _ _ (s1.trans (same_upd ht)) (fun Y O zy gy => .if2 fun hc => ?_) (fun _ => ⟨t, _, rfl, s1.free ht, upd_same⟩)
    have k1 := (lev Y O zy gy).2 hc
    obtain ⟨p', xs', f1, t1, k1⟩ := k1
    rw [e1] at f1; cases f1
    have ex : xs = xs' := by
      rcases r1 with r1 | ⟨o, r1⟩ <;> rcases t1 with t1 | ⟨o', t1⟩ <;> (rw [r1] at t1; cases t1; first | done | rfl)
    subst ex
    exact Rp.new_lst ht ((zy.same s1).not_none ht) k1.reverse
  | _ => exact (show False from q).elim

/-! ### and, or -/
theorem an_one {f : BoolOp} {ev : (Nat → List D → R D) → Es → Sl → R D} (hev : ∀ a ρ, ev c (.cons a .nil) ρ = evE c a ρ) {a : E} {x : Expr} (ha : PE X x (spE Γ c W a)) : PE X (.BoolOp f [x] pos) (spAn Γ c W ev (.cons a .nil)) := by
  refine PE.mono (pe_one ha) fun σ H Q q => ?_
  obtain ⟨ρ, g, q⟩ := q
  rw [hev] at q
  refine spE.mk g (fun z => by rw [z] at q; exact q) (fun x z => by rw [z] at q; exact q) fun d z v H1 s1 lev _ => ?_
  rw [z] at q
  exact q v H1 s1 fun Y O zy gy => (lev Y O zy gy).mono (Nat.le_max_left _ _)
theorem an_and (hf : Fx Γ n N sc X) {a b : E} {es : Es} {x y : Expr} {xs : List Expr} (ha : PE X x (spE Γ c W a)) (hs : PE X (.BoolOp .And (y :: xs) pos) (spAn Γ c W evAnd (.cons b es))) :
    PE X (.BoolOp .And (x :: y :: xs) pos) (spAn Γ c W evAnd (.cons a (.cons b es))) := by
  refine PE.mono (pe_andT ha hs) fun σ H Q q => ?_
  obtain ⟨ρ, g, q⟩ := q
  have q : match (((evE c a ρ).bind noX).bind fun x => if x.truth then evAnd c (.cons b es) ρ else .ok x) with
    | .ok d => ∀ v H', Same H H' → (∀ Y O, ZOk Y H → SlG Γ.K Y O H σ ρ → Lv Γ.K Y (max (lv O a) (lvs O (.cons b es))) H' d v) → Q v H'
    | .ex x => ∀ H', Same H H' → W (Γ.cl x) none σ H'
    | .bad => False := q
  refine spE.mk g (fun z => by rw [z] at q; exact q) (fun x z => by rw [z] at q; exact q) fun d z v H1 s1 lev _ => ?_
  rw [z, R.ok_bind] at q
  rcases noX_cases d with nx | nx
  rotate_left
  · rw [nx] at q; exact q.elim
  rw [nx, R.ok_bind] at q
  refine ⟨d.truth, by rw [hf.K]; exact tru_rule (lev_em g lev).relax (by rw [nx]; intro z; cases z), ?_⟩
  cases hk : d.truth with
  | true =>
    rw [hk, if_pos rfl] at q
    refine iteT ⟨ρ, g.same s1, ?_⟩
    cases z2 : evAnd c (.cons b es) ρ with
    | ok d2 =>
      rw [z2] at q
      exact fun v H2 s2 lev2 => q v H2 (s1.trans s2) fun Y O zy gy => (lev2 Y O (zy.same s1) (gy.same s1)).mono (Nat.le_max_right _ _)
    | ex x =>
      rw [z2] at q
      exact fun H2 s2 => q H2 (s1.trans s2)
    | bad => rw [z2] at q; exact q
  | false =>
    rw [hk, if_neg Bool.false_ne_true] at q
    exact iteF (q v H1 s1 fun Y O zy gy => (lev Y O zy gy).mono (Nat.le_max_left _ _))
theorem an_or (hf : Fx Γ n N sc X) {a b : E} {es : Es} {x y : Expr} {xs : List Expr} (ha : PE X x (spE Γ c W a)) (hs : PE X (.BoolOp .Or (y :: xs) pos) (spAn Γ c W evOr (.cons b es))) :
    PE X (.BoolOp .Or (x :: y :: xs) pos) (spAn Γ c W evOr (.cons a (.cons b es))) := by
  refine PE.mono (pe_orT ha hs) fun σ H Q q => ?_
  obtain ⟨ρ, g, q⟩ := q
  have q : match (((evE c a ρ).bind noX).bind fun x => if x.truth then .ok x else evOr c (.cons b es) ρ) with
    | .ok d => ∀ v H', Same H H' → (∀ Y O, ZOk Y H → SlG Γ.K Y O H σ ρ → Lv Γ.K Y (max (lv O a) (lvs O (.cons b es))) H' d v) → Q v H'
    | .ex x => ∀ H', Same H H' → W (Γ.cl x) none σ H'
    | .bad => False := q
  refine spE.mk g (fun z => by rw [z] at q; exact q) (fun x z => by rw [z] at q; exact q) fun d z v H1 s1 lev _ => ?_
  rw [z, R.ok_bind] at q
  rcases noX_cases d with nx | nx
  rotate_left
  · rw [nx] at q; exact q.elim
  rw [nx, R.ok_bind] at q
  refine ⟨d.truth, by rw [hf.K]; exact tru_rule (lev_em g lev).relax (by rw [nx]; intro z; cases z), ?_⟩
  cases hk : d.truth with
  | true =>
    rw [hk, if_pos rfl] at q
    exact iteT (q v H1 s1 fun Y O zy gy => (lev Y O zy gy).mono (Nat.le_max_left _ _))
  | false =>
    rw [hk, if_neg Bool.false_ne_true] at q
    refine iteF ⟨ρ, g.same s1, ?_⟩
    cases z2 : evOr c (.cons b es) ρ with
    | ok d2 =>
      rw [z2] at q
      exact fun v H2 s2 lev2 => q v H2 (s1.trans s2) fun Y O zy gy => (lev2 Y O (zy.same s1) (gy.same s1)).mono (Nat.le_max_right _ _)
    | ex x =>
      rw [z2] at q
      exact fun H2 s2 => q H2 (s1.trans s2)
    | bad => rw [z2] at q; exact q
theorem ant_and1 {a : E} {x : Expr} (ha : PT X x (spT Γ c W a)) : PW X (.BoolOp .And [x] pos) (spAnT Γ c W evAnd (.cons a .nil)) := PW.mono (pw_and1 ha) fun σ H Q q => q
theorem ant_or1 {a : E} {x : Expr} (ha : PT X x (spT Γ c W a)) : PW X (.BoolOp .Or [x] pos) (spAnT Γ c W evOr (.cons a .nil)) := PW.mono (pw_or1 ha) fun σ H Q q => q
theorem ant_and {a b : E} {es : Es} {x y : Expr} {xs : List Expr} (ha : PT X x (spT Γ c W a)) (hs : PW X (.BoolOp .And (y :: xs) pos) (spAnT Γ c W evAnd (.cons b es))) :
    PW X (.BoolOp .And (x :: y :: xs) pos) (spAnT Γ c W evAnd (.cons a (.cons b es))) := by
  refine PW.mono (pw_and ha hs) fun σ H Q q => ?_
  obtain ⟨ρ, g, q⟩ := q
  have q : match ((((evE c a ρ).bind noX).bind fun x => if x.truth then evAnd c (.cons b es) ρ else .ok x)).bind noX with
    | .ok d => ∀ H', Same H H' → Q d.truth H'
    | .ex x => ∀ H', Same H H' → W (Γ.cl x) none σ H'
    | .bad => False := q
  refine spT.mk g (fun z => by rw [z] at q; exact q) (fun x z => by rw [z] at q; exact q) fun d z H1 s1 => ?_
  rw [z, R.ok_bind] at q
  have nx := noX_ok z
  cases hk : d.truth with
  | true =>
    rw [hk, if_pos rfl] at q
    refine iteT ⟨ρ, g.same s1, ?_⟩
    cases z2 : (evAnd c (.cons b es) ρ).bind noX with
    | ok d2 =>
      rw [z2] at q
      exact fun H2 s2 => q H2 (s1.trans s2)
    | ex x =>
      rw [z2] at q
      exact fun H2 s2 => q H2 (s1.trans s2)
    | bad => rw [z2] at q; exact q
  | false =>
    rw [hk, if_neg Bool.false_ne_true] at q
    rw [R.ok_bind, nx] at q
    have q := q H1 s1
    rw [hk] at q
    exact iteF q
theorem ant_or {a b : E} {es : Es} {x y : Expr} {xs : List Expr} (ha : PT X x (spT Γ c W a)) (hs : PW X (.BoolOp .Or (y :: xs) pos) (spAnT Γ c W evOr (.cons b es))) :
    PW X (.BoolOp .Or (x :: y :: xs) pos) (spAnT Γ c W evOr (.cons a (.cons b es))) := by
  refine PW.mono (pw_or ha hs) fun σ H Q q => ?_
  obtain ⟨ρ, g, q⟩ := q
  have q : match ((((evE c a ρ).bind noX).bind fun x => if x.truth then .ok x else evOr c (.cons b es) ρ)).bind noX with
    | .ok d => ∀ H', Same H H' → Q d.truth H'
    | .ex x => ∀ H', Same H H' → W (Γ.cl x) none σ H'
    | .bad => False := q
  refine spT.mk g (fun z => by rw [z] at q; exact q) (fun x z => by rw [z] at q; exact q) fun d z H1 s1 => ?_
  rw [z, R.ok_bind] at q
  have nx := noX_ok z
  cases hk : d.truth with
  | true =>
    rw [hk, if_pos rfl] at q
    rw [R.ok_bind, nx] at q
    have q := q H1 s1
    rw [hk] at q
    exact iteT q
  | false =>
    rw [hk, if_neg Bool.false_ne_true] at q
    refine iteF ⟨ρ, g.same s1, ?_⟩
    cases z2 : (evOr c (.cons b es) ρ).bind noX with
    | ok d2 =>
      rw [z2] at q
      exact fun H2 s2 => q H2 (s1.trans s2)
    | ex x =>
      rw [z2] at q
      exact fun H2 s2 => q H2 (s1.trans s2)
    | bad => rw [z2] at q; exact q
end
end Pw

/-! text PwSet -/
/-! sorted(set(texts)) -/
namespace Pw
open PySem PySem.Spec PyProof.Rows L2

def keyS (e : Int × Value) : Str := match e.2 with
  | .str k _ => k
  | _ => Str.empty
/-- the set of texts at a: what ks has -/
def SetT (P : Program) (w : World) (h : Heap) (a : Addr) (ks : List Str) : Prop :=
  ∃ o es ep t, h.get? a = some o ∧ o.ExactSet ∧ o.data = .set es ep t ∧ ElemsOf (PySem.strKind P w) es.toList ∧ (es.toList.map keyS).Nodup ∧ (∀ k, k ∈ ks ↔ k ∈ es.toList.map keyS) ∧
    es.size ≤ ks.length ∧ ks.length < scanBound ∧ t.fits es.size = true ∧ Ris t.place.toList ∧ (w.params.followText "set-order" = true ∨ t.led = true)
section
variable {P : Program} {w : World} {h h' : Heap} {a : Addr} {ks : List Str}
theorem SetT.at (R : SetT P w h a ks) (k : ∀ o, h.get? a = some o → h'.get? a = some o) : SetT P w h' a ks := by
  obtain ⟨o, es, ep, t, ho, r⟩ := R
  exact ⟨o, es, ep, t, k o ho, r⟩
theorem el_is {l : List (Int × Value)} (g : ElemsOf (PySem.strKind P w) l) {e : Int × Value} (he : e ∈ l) (k : Str) : (PySem.strKind P w).is k e.2 = true ↔ keyS e = k := by
  obtain ⟨⟨k0, h1, _⟩, _⟩ := g e he
  obtain ⟨t, q⟩ := Value.isStrOf_shape (show Value.isStrOf k0 e.2 = true from h1)
  unfold keyS
  rw [q]
  show (Value.isStrOf k (.str k0 t) = true) ↔ k0 = k
  simp [Value.isStrOf]
theorem el_mem {l : List (Int × Value)} (g : ElemsOf (PySem.strKind P w) l) (k : Str) : k ∈ l.map keyS ↔ ∃ e ∈ l, (PySem.strKind P w).is k e.2 = true := by
  rw [List.mem_map]
  constructor
  · rintro ⟨e, he, q⟩
    exact ⟨e, he, (el_is g he k).2 q⟩
  · rintro ⟨e, he, q⟩
    exact ⟨e, he, (el_is g he k).1 q⟩
end

section
variable {P : Program} {w : World} {A : Around} {E : Value → Shared → Prop} {s : Shared} {a : Addr} {ks : List Str}
theorem setT_tail {g : Bool → Sem Unit} (hg : ∀ (b : Bool) (s1 : Shared) (Q' : Unit → Shared → Prop), Q' () s1 → wpAny (model P w) A (g b) Q' E s1)
    {o : Obj} {es : Array (Int × Value)} {ep : Nat} {t : SetTable} (ho : s.heap.get? a = some o) (hex : o.ExactSet) (hd : o.data = .set es ep t)
    {xs : Array (Int × Value)} {u : SetTable} {js : List Str} (g1 : ElemsOf (PySem.strKind P w) xs.toList) (nd1 : (xs.toList.map keyS).Nodup) (m1 : ∀ k, k ∈ js ↔ k ∈ xs.toList.map keyS)
    (hz : xs.size ≤ js.length) (hj : js.length < scanBound) (hf2 : u.fits xs.size = true) (hr : Ris u.place.toList) (hl : w.params.followText "set-order" = true ∨ u.led = true) {dmy : Bool} {R : Option Bool → Shared → Prop}
    (hR : ∀ h', Heap.SameBut a s.heap h' → SetT P w h' a js → R (some true) { s with heap := h' }) :
    wpAny (model P w) A (do
        storeSet a xs u
        if (!dmy && u.tooFull) = true then do
            g (relayAll u xs (SetTable.grown xs.size)).2.2
            storeSet a (relayAll u xs (SetTable.grown xs.size)).1 (relayAll u xs (SetTable.grown xs.size)).2.1
            pure (some true)
          else pure (some true)) R E s := by
  have hb1 : xs.size < scanBound := by omega
  refine wpAny_bind (wpAny_storeSet_of ho hd ?_ (fits_of_scanBound hb1))
  have ho1 := store_at (es' := xs) (t' := u) ho hd
  have sb1 := Heap.SameBut.update s.heap a (Obj.putSet xs u)
  split
  · have pm := relayAll_perm u xs (SetTable.grown xs.size)
    have f3 := relayAll_fits u xs (SetTable.grown xs.size)
    have r3 := relayAll_ris u xs (SetTable.grown xs.size)
    have l3 := relayAll_led u xs (SetTable.grown xs.size)
    generalize relayAll u xs (SetTable.grown xs.size) = Z at pm f3 r3 l3 ⊢
    obtain ⟨ys, t3, gave⟩ := Z
    dsimp only at pm f3 r3 l3 ⊢
    have hs2 : ys.size = xs.size := by rw [← Array.length_toList, pm.length_eq, Array.length_toList]
    refine wpAny_bind (hg _ _ _ ?_)
    refine wpAny_bind (wpAny_storeSet_of ho1 rfl ?_ (fits_of_scanBound (by omega)))
    have ho2 := store_at (es' := ys) (t' := t3) ho1 rfl
    refine wpAny_pure (hR _ (sb1.trans (Heap.SameBut.update _ a _)) ?_)
    exact ⟨_, ys, _, t3, ho2, hex, rfl, g1.perm pm, (pm.map keyS).nodup_iff.mpr nd1, fun k => (m1 k).trans (pm.map keyS).mem_iff.symm, by omega, hj, f3, r3, hl.imp id fun z => by rw [l3]; exact z⟩
  · exact wpAny_pure (hR _ sb1 ⟨_, xs, _, u, ho1, hex, rfl, g1, nd1, m1, hz, hj, hf2, hr, hl⟩)

theorem setT_add {k : Str} {tk : Tok} {Q : Bool → Shared → Prop} (R : SetT P w s.heap a ks) (room : ks.length + 1 < scanBound)
    (hQ : ∀ b h', Heap.SameBut a s.heap h' → SetT P w h' a (ks ++ [k]) → Q b { s with heap := h' }) :
    wpAny (model P w) A (setAddHashed a (.str k tk) ((PySem.strKind P w).hash k)) Q E s := by
  obtain ⟨o, es, ep, t, ho, hex, hd, g, nd, hm, hz, hb, hf, hr, hl⟩ := R
  have hkey : (PySem.strKind P w).is k (.str k tk) = true := strKind_is P w k tk
  have hsc : (Value.str k tk).scannable = true := rfl
  have hbs : es.size < scanBound := by omega
  unfold setAddHashed setAddHashedIn
  refine wpAny_holding (wpAny_bind (wpAny_setState_of ho hd hf ?_))
  dsimp only
  rw [byScan_of hsc hbs g]
  simp only [↓reduceIte]
  unfold setAddByScan
  refine wpAny_bind ?_
  refine wpAny_bind (wpAny_rule ?_)
  refine wpAny_bind (wpAny_setScan_of hkey ho hd hf g ?_)
  cases hfi : List.findIdx? (fun e => (PySem.strKind P w).is k e.2) es.toList with
  | some j =>
    dsimp only
    obtain ⟨hj, pj, _⟩ := List.findIdx?_eq_some_iff_getElem.mp hfi
    have hSk : k ∈ es.toList.map keyS := (el_mem g k).2 ⟨es.toList[j], List.getElem_mem hj, pj⟩
    refine wpAny_pure (wpAny_pure ?_)
    refine hQ _ s.heap (Heap.SameBut.refl a s.heap) ⟨o, es, ep, t, ho, hex, hd, g, nd, fun i => ?_, by rw [List.length_append]; omega, by rw [List.length_append]; exact room, hf, hr, hl⟩
    rw [List.mem_append, List.mem_singleton, hm i]
    exact ⟨fun z => z.elim id fun e => by rw [e]; exact hSk, .inl⟩
  | none =>
    dsimp only
    have hnk : k ∉ es.toList.map keyS := fun z => by
      obtain ⟨e, he, q⟩ := (el_mem g k).1 z
      have c := List.findIdx?_eq_none_iff.mp hfi e he
      rw [q] at c
      cases c
    have pm := layNew_perm t es ((PySem.strKind P w).hash k) (.str k tk)
    have f1 := layNew_fits t es ((PySem.strKind P w).hash k) (.str k tk)
    have r1 := layNew_ris t es ((PySem.strKind P w).hash k) (.str k tk) hr
    have l1 := layNew_led t es ((PySem.strKind P w).hash k) (.str k tk)
    generalize layNew t es ((PySem.strKind P w).hash k) (.str k tk) = Z at pm f1 r1 l1 ⊢
    obtain ⟨xs, t1, dmy, gave⟩ := Z
    dsimp only at pm f1 r1 l1 ⊢
    have g1 : ElemsOf (PySem.strKind P w) xs.toList := by
      rw [Array.toList_push] at pm
      exact (g.push hkey hsc).perm pm
    rw [Array.toList_push] at pm
    have pc : xs.toList.Perm (((PySem.strKind P w).hash k, Value.str k tk) :: es.toList) := pm.trans (List.perm_append_singleton _ _)
    have pk : (xs.toList.map keyS).Perm (k :: es.toList.map keyS) := pc.map keyS
    have nd1 : (xs.toList.map keyS).Nodup := pk.nodup_iff.mpr (List.nodup_cons.mpr ⟨hnk, nd⟩)
    have m1 : ∀ i, i ∈ ks ++ [k] ↔ i ∈ xs.toList.map keyS := fun i => by
      rw [List.mem_append, List.mem_singleton, hm i, pk.mem_iff, List.mem_cons]
      exact Or.comm
    have hs1 : xs.size = es.size + 1 := by rw [← Array.length_toList, pc.length_eq, List.length_cons, Array.length_toList]
    have hled : w.params.followText "set-order" = true ∨ t1.led = true := hl.imp id fun z => by rw [l1]; exact z
    have hz1 : xs.size ≤ (ks ++ [k]).length := by rw [List.length_append, List.length_singleton]; omega
    have hj1 : (ks ++ [k]).length < scanBound := by rw [List.length_append]; exact room
    have gw : ∀ (b : Bool) {s1 : Shared} {Q' : Unit → Shared → Prop}, Q' () s1 → wpAny (model P w) A (match b with | true => rule "set.scan.the-table-gave-way" | false => pure ()) Q' E s1 := fun b s1 Q' q => by
      cases b <;> first | exact wpAny_pure q | exact wpAny_rule q
    refine wpAny_bind (gw _ ?_)
    split
    · refine wpAny_bind ?_
      rw [hashByValue_scannable 8 hsc]
      refine wpAny_pure ?_
      refine setT_tail ?_ ho hex hd g1 nd1 m1 hz1 hj1 ?_ ?_ ?_ ?_
      · intro b s1 Q' q; cases b <;> first | exact wpAny_pure q | exact wpAny_rule q
      · first | (split <;> first | exact f1 | exact SetTable.fits_plain_off f1) | exact f1
      · first | (split <;> exact r1) | exact r1
      · first | (split <;> exact hled) | exact hled
      · intro h' sb r; dsimp only; exact wpAny_pure (hQ _ h' sb r)
    · refine wpAny_bind (wpAny_pure ?_)
      simp only [↓reduceIte]
      refine setT_tail ?_ ho hex hd g1 nd1 m1 hz1 hj1 f1 r1 hled ?_
      · intro b s1 Q' q; cases b <;> first | exact wpAny_pure q | exact wpAny_rule q
      · intro h' sb r; dsimp only; exact wpAny_pure (hQ _ h' sb r)
end

/-! ### the loop -/
section
variable {P : Program} {w : World} {A : Around} {R : Result → Shared → Prop} {I : Addr} {fp wr : List Addr} {n : Nat} {Pv : Nat → Value → Prop} {St : Nat → Heap → Prop}
theorem loopT (W : Walks P w A.in1 I fp wr n Pv St) (S : Addr) (hSf : S ∉ fp) (xs : List Str) (hn : xs.length = n) (hb : n + 1 < scanBound) (hval : ∀ i v, Pv i v → ∃ t, v = .str (xs.getD i Str.empty) t) :
    ∀ (k i : Nat) (s : Shared), n - i = k → i ≤ n → St i s.heap → SetT P w s.heap S (xs.take i) →
      (∀ h' tk, (∀ b o, b ∉ S :: wr → s.heap.get? b = some o → h'.get? b = some o) → SetT P w h' S xs → R (.ok (.ret .none)) { s with heap := h', toks := tk }) →
      codeAny (model P w) A (.builtin "set.update.loop" ⟨[.ref S, .ref I], []⟩) R s := by
  have hSw : S ∉ wr := fun h => hSf (W.sub _ h)
  intro k
  induction k with
  | zero =>
    intro i s hk hi hst hS hR
    have e : i = n := by omega
    rw [e] at hst hS
    refine codeAny_builtin PyProof.Rows.F.entry_set_update_loop ?_
    rw [Around.under_plainId PyProof.Rows.F.plain_set_update_loop _]
    show wpAny _ A.in1 (pyNext (.ref I) >>= _) _ _ s
    refine wpAny_bind (W.done s _ _ hst fun h' tk hm => ?_)
    show wpAny _ A.in1 (ret Value.none) _ _ _
    refine wpAny_pure (hR h' tk (fun b o hb e => hm b o (fun z => hb (List.mem_cons_of_mem _ z)) e) ?_)
    have q := hS.at (h' := h') fun o e => hm S o hSw e
    rw [← hn, List.take_length] at q
    exact q
  | succ k ih =>
    intro i s hk hi hst hS hR
    have hlt : i < n := by omega
    refine codeAny_builtin PyProof.Rows.F.entry_set_update_loop ?_
    rw [Around.under_plainId PyProof.Rows.F.plain_set_update_loop _]
    show wpAny _ A.in1 (pyNext (.ref I) >>= _) _ _ s
    refine wpAny_bind (W.item i s _ _ hlt hst fun v h' tk hP hst' hm => ?_)
    obtain ⟨t, rfl⟩ := hval i v hP
    have hS' : SetT P w h' S (xs.take i) := hS.at fun o e => hm S o hSw e
    show wpAny _ A.in1 (holding [Value.str (xs.getD i Str.empty) t] (setAdd S (.str (xs.getD i Str.empty) t)) >>= _) _ _ _
    refine wpAny_bind (wpAny_holding ?_)
    unfold setAdd
    refine wpAny_holding ?_
    refine wpAny_bind ((PySem.strKind P w).pyHash (k := xs.getD i Str.empty) (strKind_is _ _ _ _) ?_)
    refine setT_add (s := { s with heap := h', toks := tk + 1 }) hS' (by rw [List.length_take]; omega) fun bb h2 sb hS2 => ?_
    have hS3 : SetT P w h2 S (xs.take (i + 1)) := by
      have e : xs.take (i + 1) = xs.take i ++ [xs.getD i Str.empty] := by
        rw [List.take_succ]
        have hl : i < xs.length := by omega
        simp [hl]
      rw [e]
      exact hS2
    refine wpAny_pure ⟨plainId_quiet PyProof.Rows.F.plain_set_update_loop _, ih (i + 1) _ (by omega) hlt (W.frame _ _ _ hst' fun b hb o e => ?_) hS3 fun h3 tk3 hm3 hS4 => ?_⟩
    · rw [sb.2 b (fun h : b = S => hSf (by rw [← h]; exact hb))]
      exact e
    · refine hR h3 tk3 (fun b o hb e => ?_) hS4
      refine hm3 b o hb ?_
      show h2.get? b = some o
      rw [sb.2 b (fun h : b = S => hb (by rw [h]; exact List.mem_cons_self))]
      exact hm b o (fun z => hb (List.mem_cons_of_mem _ z)) e
end

/-! ### set(x) -/
section
variable {P : Program} {w : World} {A : Around} {E : Value → Shared → Prop} {s : Shared}
def eSet (w : World) : Obj := { cls := .type "set", dict := none, data := .set #[] 0 (.fresh 0 0 (!w.params.followText "set-order")) }
theorem setT_fresh {h : Heap} : SetT P w (h.push (eSet w)) h.objs.size [] :=
  ⟨_, #[], 0, _, Heap.get?_push_size _ rfl, ⟨rfl, rfl, rfl⟩, rfl, (fun e he => by simp at he), (by simp), (fun k => by simp), Nat.le_refl _, (by decide), (by rfl), List.Pairwise.nil, by
    show _ ∨ (!w.params.followText "set-order") = true
    cases w.params.followText "set-order"
    · exact .inr rfl
    · exact .inl rfl⟩
theorem code_eset (v : Value) {Q1 : Value → Shared → Prop} (h : Q1 (.ref s.heap.objs.size) { s with heap := s.heap.push (eSet w) }) :
    codeAny (model P w) A (.call (.builtin "set.__new__") ⟨[.type "set", v], []⟩) (wants Q1 E) s := by
  refine codeAny_of_tree ?_
  show wpAny _ A.in1 (do checkBuiltinCall "set.__new__" ⟨[.type "set", v], []⟩; again (.builtin "set.__new__" ⟨[.type "set", v], []⟩)) _ _ s
  refine wpAny_bind (wpAny_of_eq (PySem.F.newCall_set_1 v) (wpAny_pure ⟨plainId_quiet F.plain_set_new _, codeAny_builtin F.entry_set_new ?_⟩))
  rw [Around.under_plainId F.plain_set_new _]
  unfold Builtin.«set.__new__» Builtin.Frozenset.newClass
  have hsub := sub_set_self
  obtain ⟨hp, g, d, tk, os⟩ := s
  dsimp only
  wp_walk
  refine wpAny_askSetting (wpAny_pure ?_)
  dsimp only
  simp only [newObj]
  refine wpAny_bind (wpAny_alloc (wpAny_pure ?_))
  exact wpAny_pure h
/-- what can be gone over: its type, its walk -/
structure Itb (P : Program) (w : World) (s : Shared) (v : Value) (T : String) (xs : List Str) : Prop where
  ty : s.TypeIs v T
  it : ∀ (A : Around) (E : Value → Shared → Prop) (Q : Value → Shared → Prop), (∀ (o : Obj) (fp : List Addr) (Pv : Nat → Value → Prop) (St : Nat → Heap → Prop), (∀ A' : Around, A'.handled = none → Walks P w A' s.heap.objs.size fp [s.heap.objs.size] xs.length Pv St) →
    (∀ b ∈ fp, b = s.heap.objs.size ∨ v = .ref b) → (∀ i u, Pv i u → ∃ t, u = .str (xs.getD i Str.empty) t) → St 0 (s.heap.push o) → Q (.ref s.heap.objs.size) { s with heap := s.heap.push o }) → wpAny (model P w) A (pyIter v) Q E s
theorem call_setT {v : Value} {T : String} {xs : List Str} {Q : Value → Shared → Prop} (hh : A.handled = none) (h1 : isSubtype (.type T) (.type "set") = pure false) (h2 : isSubtype (.type T) (.type "frozenset") = pure false) (h3 : (Value.type T == Value.type "dict") = false)
    (hv : ∀ b, v = .ref b → b < s.heap.objs.size) (hb : xs.length + 1 < scanBound) (hi : Itb P w { s with heap := s.heap.push (eSet w) } v T xs)
    (h : ∀ (h' : Heap) (tk : Nat), SetT P w h' s.heap.objs.size xs → (∀ b o, b < s.heap.objs.size → s.heap.get? b = some o → h'.get? b = some o) → Q (.ref s.heap.objs.size) { s with heap := h', toks := tk }) :
    wpAny (model P w) A (call (.type "set") [v]) Q E s := by
  obtain ⟨c, tl, hmro⟩ := PySem.F.called_set.mro
  have hmade := PySem.F.called_set.made
  have hsub := PySem.F.called_set.sub
  refine wpAny_call (codeAny_of_tree ?_)
  show wpAny _ _ (callAny (.type "set") _) _ _ _
  refine wpAny_pure ⟨Code.quiet_builtin _ (by decide +kernel), codeAny_builtin PySem.F.entry_type_call ?_⟩
  rw [Around.under_plain (weight_type_call_type "set" [v] []) rfl]
  have g1 := PySem.F.called_set.notType
  have g2 := PySem.F.called_set.canCreate
  have hct := PySem.F.typeCall_set_1 v
  repeat (any_goals (first | assumption | wp_step))
  refine codeAny_mono (code_eset v (E := E) (Q1 := fun obj s1 => obj = .ref s.heap.objs.size ∧ s1 = { s with heap := s.heap.push (eSet w) }) ⟨rfl, rfl⟩) fun r s1 hr => ?_
  cases r with
  | error e => exact hr
  | ok fl =>
    cases fl with
    | ret obj =>
      obtain ⟨rfl, rfl⟩ := hr
      have hS : (s.heap.push (eSet w)).get? s.heap.objs.size = some (eSet w) := Heap.get?_push_size _ rfl
      have hT : Shared.TypeIs { s with heap := s.heap.push (eSet w) } (.ref s.heap.objs.size) "set" := ⟨_, hS, rfl⟩
      have hli := PySem.F.called_set.init.lookup
      have hbi := PySem.F.called_set.init.bind (.ref s.heap.objs.size)
      repeat (any_goals (first | assumption | wp_step))
      refine codeAny_mono (codeAny_call_builtin (R := wants (fun r s2 => r = .none ∧ ∃ h' tk, s2 = { s with heap := h', toks := tk } ∧ SetT P w h' s.heap.objs.size xs ∧ (∀ b o, b < s.heap.objs.size → s.heap.get? b = some o → h'.get? b = some o)) E) PySem.F.called_set.init.plain PySem.F.entry_set_init (check_set_init_1 hT ?_)) fun r2 s2 hr2 => ?_
      · have hty := hi.ty
        unfold Builtin.«set.__init__» noKeywords Builtin.Frozenset.updateFrom
        generalize hPI : pyIter = PI
        wp_walk
        subst hPI
        refine hi.it _ _ _ fun o fp Pv St hW hfp hval hst => ?_
        refine wpAny_bind (wpAny_runValue ?_)
        have hz : (s.heap.push (eSet w)).objs.size = s.heap.objs.size + 1 := size_push' _ _
        have hSf : s.heap.objs.size ∉ fp := fun z => by
          rcases hfp _ z with e | e
          · have e : s.heap.objs.size = (s.heap.push (eSet w)).objs.size := e
            rw [hz] at e
            exact absurd e (Nat.ne_of_lt (Nat.lt_succ_self _))
          · exact absurd (hv _ e) (Nat.lt_irrefl _)
        refine loopT (hW _ (by simp [hh])) s.heap.objs.size hSf xs rfl hb hval (xs.length - 0) 0 _ (by omega) (Nat.zero_le _) hst (setT_fresh.at fun o e => Heap.get?_push_of_some _ e) fun h' tk hm hS' => ?_
        show wpAny _ _ _ _ _ _
        refine wpAny_pure ?_
        show wpAny _ _ (ret Value.none) _ _ _
        refine wpAny_pure ⟨rfl, h', tk, rfl, hS', fun b o hb e => hm b o ?_ (Heap.get?_push_of_some _ (Heap.get?_push_of_some _ e))⟩
        simp only [List.mem_cons, List.not_mem_nil, or_false, not_or]
        refine ⟨Nat.ne_of_lt hb, fun z => ?_⟩
        have z : b = (s.heap.push (eSet w)).objs.size := z
        rw [hz] at z
        exact absurd hb (by rw [z]; exact Nat.not_lt.mpr (Nat.le_succ _))
      · cases r2 with
        | error e => exact hr2
        | ok fl2 =>
          cases fl2 with
          | ret r =>
            obtain ⟨rfl, h', tk, rfl, hS', hk'⟩ := hr2
            repeat (any_goals (first | assumption | wp_step))
            exact h _ _ hS' hk'
          | _ => exact hr2.elim
    | _ => exact hr.elim
end
end Pw

/-! text PwSet2 -/
namespace Pw
open PySem PySem.Spec PyProof.Rows L2
/-! ### in rising order -/
theorem lt_cps : ∀ (a b : List Nat), ltCps a b = true ↔ a < b
  | [], [] => by simp [ltCps]
  | [], _ :: _ => by simp [ltCps]
  | _ :: _, [] => by simp [ltCps]
  | a :: r, b :: t => by
    simp only [ltCps, Bool.or_eq_true, decide_eq_true_eq, Bool.and_eq_true, beq_iff_eq, List.cons_lt_cons_iff, lt_cps r t]
theorem ltx_of {a b : List Nat} (h : ¬ b < a) (ne : a ≠ b) : a < b := by
  by_cases q : a < b
  · exact q
  · exact absurd (List.le_antisymm (List.not_lt.mp h) (List.not_lt.mp q)) ne
theorem insT_mem {x y : Tx} : ∀ {l : List Tx}, y ∈ insT x l ↔ y = x ∨ y ∈ l
  | [] => by simp [insT]
  | z :: l => by
    unfold insT
    split
    · simp
    · split
      · rename_i _ e
        subst e
        simp
      · rw [List.mem_cons, insT_mem (l := l), List.mem_cons]
        constructor
        · rintro (h | h | h)
          · exact .inr (.inl h)
          · exact .inl h
          · exact .inr (.inr h)
        · rintro (h | h | h)
          · exact .inr (.inl h)
          · exact .inl h
          · exact .inr (.inr h)
theorem insT_sorted {x : Tx} : ∀ {l : List Tx}, l.Pairwise (· < ·) → (insT x l).Pairwise (· < ·)
  | [], _ => by simp [insT]
  | z :: l, h => by
    obtain ⟨h1, h2⟩ := List.pairwise_cons.mp h
    unfold insT
    split
    · rename_i q
      refine List.pairwise_cons.mpr ⟨fun y hy => ?_, h⟩
      rcases List.mem_cons.mp hy with e | e
      · rw [e]; exact q
      · exact List.lt_trans q (h1 y e)
    · split
      · exact h
      · rename_i q1 q2
        refine List.pairwise_cons.mpr ⟨fun y hy => ?_, insT_sorted h2⟩
        rcases insT_mem.mp hy with e | e
        · rw [e]
          exact ltx_of q1 (Ne.symm q2)
        · exact h1 y e
theorem sortT_mem {y : Tx} : ∀ {l : List Tx}, y ∈ sortT l ↔ y ∈ l
  | [] => Iff.rfl
  | x :: l => by
    show y ∈ insT x (sortT l) ↔ _
    rw [insT_mem, sortT_mem (l := l), List.mem_cons]
theorem sortT_sorted : ∀ (l : List Tx), (sortT l).Pairwise (· < ·)
  | [] => List.Pairwise.nil
  | x :: l => insT_sorted (sortT_sorted l)
theorem sorted_uniq : ∀ {a b : List Tx}, a.Pairwise (· < ·) → b.Pairwise (· < ·) → (∀ x, x ∈ a ↔ x ∈ b) → a = b
  | [], [], _, _, _ => rfl
  | [], y :: _, _, _, h => by simpa using h y
  | x :: _, [], _, _, h => by simpa using h x
  | x :: a, y :: b, ha, hb, h => by
    obtain ⟨a1, a2⟩ := List.pairwise_cons.mp ha
    obtain ⟨b1, b2⟩ := List.pairwise_cons.mp hb
    have e : x = y := by
      rcases List.mem_cons.mp ((h x).mp (List.mem_cons_self ..)) with e | e
      · exact e
      · rcases List.mem_cons.mp ((h y).mpr (List.mem_cons_self ..)) with f | f
        · exact f.symm
        · exact absurd (List.lt_trans (b1 x e) (a1 y f)) (List.lt_irrefl _)
    subst e
    refine congrArg _ (sorted_uniq a2 b2 fun z => ?_)
    constructor
    · intro hz
      rcases List.mem_cons.mp ((h z).mp (List.mem_cons_of_mem _ hz)) with e | e
      · exact absurd (a1 z hz) (by rw [e]; exact List.lt_irrefl _)
      · exact e
    · intro hz
      rcases List.mem_cons.mp ((h z).mpr (List.mem_cons_of_mem _ hz)) with e | e
      · exact absurd (b1 z hz) (by rw [e]; exact List.lt_irrefl _)
      · exact e
theorem rising_pair : ∀ (r : List Str) (p : Str), risingS p r = true → (p :: r).Nodup → ((p :: r).map fun x => x.cps.toList).Pairwise (· < ·)
  | [], p, _, _ => by simp
  | x :: r, p, h, nd => by
    have h : (!ltCps x.cps.toList p.cps.toList && risingS x r) = true := h
    rw [Bool.and_eq_true, Bool.not_eq_true'] at h
    obtain ⟨n1, n2⟩ := List.nodup_cons.mp nd
    have q := rising_pair r x h.2 n2
    have hlt : p.cps.toList < x.cps.toList := by
      have z : ¬ (x.cps.toList < p.cps.toList) := fun w => by
        rw [(lt_cps _ _).mpr w] at h
        cases h.1
      refine ltx_of z fun e => n1 ?_
      have : p = x := by
        obtain ⟨⟨a⟩⟩ := p
        obtain ⟨⟨b⟩⟩ := x
        simp at e
        rw [e]
      rw [this]
      exact List.mem_cons_self ..
    rw [List.map_cons]
    refine List.pairwise_cons.mpr ⟨fun y hy => ?_, q⟩
    rw [List.map_cons] at hy q
    rcases List.mem_cons.mp hy with e | e
    · rw [e]; exact hlt
    · exact List.lt_trans hlt ((List.pairwise_cons.mp q).1 y e)
theorem sorted_is {ys : List Str} {ss : List Tx} (h : sortedS ys = true) (nd : ys.Nodup) (hm : ∀ k, k ∈ ss.map tx ↔ k ∈ ys) : ys = (sortT ss).map tx := by
  have p : (ys.map fun x => x.cps.toList).Pairwise (· < ·) := by
    cases ys with
    | nil => exact List.Pairwise.nil
    | cons p r => exact rising_pair r p h nd
  have e := sorted_uniq p (sortT_sorted ss) fun x => by
    rw [sortT_mem, List.mem_map]
    constructor
    · rintro ⟨y, hy, rfl⟩
      obtain ⟨z, hz, e⟩ := List.mem_map.mp ((hm y).mpr hy)
      rw [← e]
      exact hz
    · intro hx
      exact ⟨tx x, (hm _).mp (List.mem_map.mpr ⟨x, hx, rfl⟩), rfl⟩
  rw [← e, List.map_map]
  have : (tx ∘ fun x : Str => x.cps.toList) = id := by
    funext x
    obtain ⟨⟨a⟩⟩ := x
    rfl
  rw [this, List.map_id]

/-! ### the rule -/
section
variable {X : Cx} {pins : List (Addr × Obj)} {σ : L2.St}
theorem strs_ok {K : PySem.W.Frag} {H : Hp} : ∀ {ds : List D} {ss : List Tx} {vs : List V}, strs? ds = some ss → RpL K Em H ds vs → vs = (ss.map tx).map V.str
  | [], ss, vs, h, r => by
    cases h
    exact r
  | d :: ds, ss, vs, h, r => by
    cases d with
    | str s =>
      obtain ⟨r', e, rfl⟩ := Option.map_eq_some_iff.mp (show (strs? ds).map (s :: ·) = some ss from h)
      obtain ⟨v, us, rfl, h1, h2⟩ := r
      rw [h1.1, strs_ok e h2]
      rfl
    | _ => cases h
theorem strs_short {K : PySem.W.Frag} {H : Hp} : ∀ {ds : List D} {ss : List Tx} {vs : List V}, strs? ds = some ss → RpL K Em H ds vs → ∀ y ∈ ss, y.length ≤ sizeLine
  | [], ss, vs, h, r, y, hy => by cases h; cases hy
  | d :: ds, ss, vs, h, r, y, hy => by
    cases d with
    | str s =>
      obtain ⟨r', e, rfl⟩ := Option.map_eq_some_iff.mp (show (strs? ds).map (s :: ·) = some ss from h)
      obtain ⟨v, us, rfl, h1, h2⟩ := r
      rcases List.mem_cons.mp hy with q | q
      · rw [q]; exact h1.2
      · exact strs_short e h2 y q
    | _ => cases h
theorem strs_len : ∀ {ds : List D} {ss : List Tx}, strs? ds = some ss → ss.length = ds.length
  | [], ss, h => by cases h; rfl
  | d :: ds, ss, h => by
    cases d with
    | str s =>
      obtain ⟨r', e, rfl⟩ := Option.map_eq_some_iff.mp (show (strs? ds).map (s :: ·) = some ss from h)
      rw [List.length_cons, List.length_cons, strs_len e]
    | _ => cases h
theorem strs_signs : ∀ (s : Tx) (ss : List Tx), strs? (s.map fun c => D.str [c]) = some ss → ss = s.map fun c => [c]
  | [], ss, h => by cases h; rfl
  | c :: s, ss, h => by
    obtain ⟨r', e, rfl⟩ := Option.map_eq_some_iff.mp (show (strs? (s.map fun c => D.str [c])).map ([c] :: ·) = some ss from h)
    rw [strs_signs s r' e]
    rfl
theorem rpl_texts {K : PySem.W.Frag} {Y : Addr → Prop} {H : Hp} : ∀ (ys : List Tx), (∀ y ∈ ys, y.length ≤ sizeLine) → RpL K Y H (ys.map D.str) ((ys.map tx).map V.str)
  | [], _ => rfl
  | y :: ys, h => ⟨_, _, rfl, ⟨rfl, h y (List.mem_cons_self ..)⟩, rpl_texts ys fun z hz => h z (List.mem_cons_of_mem _ hz)⟩
/-- sorted of a set of texts -/
theorem sorted_setT {H : Hp} {s : Shared} {a : Addr} {ss : List Tx} {Q : VK} (hc : X.calm = true) (I : Inv X pins σ H s) (R : SetT X.prog X.w s.heap a (ss.map tx))
    (q : ∀ p, H p = none → Q (.ref p) (upd H p (.lst (((sortT ss).map tx).map V.str)))) : wpAny (model X.prog X.w) X.A (call (.builtin "sorted") [.ref a]) (EP X pins σ Q) X.xe s := by
  obtain ⟨o, es, ep, t, ho, hex, hd, g, nd, hm, hz, hb, hf, hr, hl⟩ := R
  have hbs : es.size < scanBound := by omega
  refine Calls.call_function_entry PyProof.Rows.kind_sorted PyProof.Rows.plain_sorted PyProof.Rows.entry_sorted (PyProof.Rows.args_sorted1 _) ?_
  unfold Builtin.«sorted»
  refine wpAny_bind (m := checkCount "sorted" 1 1 _) (wpAny_pure ?_)
  refine wpAny_bind (collect_set (A := X.A.in1) (I.ok.hd hc) ⟨o, ho, hex.1, hd⟩ hf hbs hr hl fun s1 vs k1 hz1 g1 o1 pm => ?_)
  have hvl : vs.length = es.size := by rw [pm.length_eq, List.length_map, Array.length_toList]
  have hS : StrsAre vs (vs.map fun v => keyS (0, v)) := by
    have ok : ∀ v ∈ vs, ∃ k tk, v = Value.str k tk := fun v hv => by
      obtain ⟨e, he, q⟩ := List.mem_map.mp (pm.mem_iff.mp hv)
      obtain ⟨⟨k0, h1, _⟩, _⟩ := g e he
      obtain ⟨t, q2⟩ := Value.isStrOf_shape (show Value.isStrOf k0 e.2 = true from h1)
      exact ⟨k0, t, by rw [← q]; exact q2⟩
    clear hvl pm
    induction vs with
    | nil => exact .nil
    | cons v r ih =>
      obtain ⟨k, tk, rfl⟩ := ok v (List.mem_cons_self ..)
      exact .cons k tk (ih fun u hu => ok u (List.mem_cons_of_mem _ hu))
  have pk : (vs.map fun v => keyS (0, v)).Perm (es.toList.map keyS) := by
    have q := pm.map fun v => keyS (0, v)
    rw [List.map_map] at q
    exact q
  have hL : vs.length ≤ sizeLine := by rw [hvl]; exact fits_of_scanBound hbs
  have I1 : Inv X pins σ H s1 := by
    obtain ⟨hh, gg, dd, tt, oo⟩ := s1
    obtain rfl : gg = s.gens := g1
    obtain rfl : oo = s.os := o1
    exact I.call (ch := []) (Un.kept k1) (I.hok.kept k1) I.bare (fun _ z => nomatch z)
  refine wpAny_bind (wpAny_newList ?_ hL)
  have hoL : (s1.heap.push (seqObj "list" vs.toArray 0)).get? s1.heap.objs.size = some (seqObj "list" vs.toArray 0) := Heap.get?_push_size _ rfl
  refine wpAny_bind (wpAny_holding (wpAny_call_entry PyProof.Rows.slot_list_sort ⟨_, hoL, rfl⟩ PyProof.Rows.entry_list_sort
    (list_sort_treeKAny strKind_oneLt hoL hS.keysOf (fun v1 v2 rest e => keyKind_strs (by rw [← e]; exact hS)) hL fun st' hp hs => ⟨_, rfl, ?_⟩) (PyProof.Rows.args_list_sort _)))
  obtain ⟨ys, q1, q2, q3⟩ := sorted_out_str hS hp hs
  obtain ⟨e', he'⟩ := PyProof.Rows.sortedHeap_at (vs := vs) (out := (arrOf st').map (·.2)) hoL
  have nd2 : ys.Nodup := (q2.trans pk).nodup_iff.mpr nd
  have ey : ys = (sortT ss).map tx := sorted_is q3 nd2 fun k => by rw [hm k, ← pk.mem_iff, q2.mem_iff]
  have hlen : (ys.map V.str).length ≤ sizeLine := by
    rw [List.length_map, q2.length_eq, List.length_map]
    exact hL
  refine wpAny_pure ⟨_, rfl, .ref s1.heap.objs.size, upd H s1.heap.objs.size (.lst (ys.map V.str)), I1.laid (t' := s1.toks) (fun b u e => ?_) (Nat.le_refl _)
    (show ObjOk X.prog X.w _ _ _ (.lst (ys.map V.str)) from ⟨hlen, ((arrOf st').map (·.2)).toList, e', vals_of_strs q1, by rw [Array.toArray_toList]; exact he'⟩), rfl, ?_⟩
  · have hb : b < s1.heap.objs.size := Heap.lt_size e
    rw [PyProof.Rows.sortedHeap_old (Nat.ne_of_lt hb) (by rw [size_push']; exact Nat.lt_succ_of_lt hb)]
    exact Heap.get?_push_of_some _ e
  · rw [ey]
    exact q _ (I1.hok.fresh (Nat.le_refl _))
theorem itb_list {P : Program} {w : World} {s : Shared} {l : Addr} {its : List Value} {xs : List Str} (hl : s.heap.IsList l its.toArray) (hi : StrsAre its xs) (hne : l ≠ s.heap.objs.size) : Itb P w s (.ref l) "list" xs := by
  have hsz : its.toArray.size = xs.length := by rw [List.size_toArray]; exact StrsAre.len_eq hi
  refine ⟨hl.typeIs, fun A E Q hQ => wpAny_pyIter_list hl ?_⟩
  have W : ∀ A' : Around, A'.handled = none → Walks P w A' _ _ _ _ _ _ := fun A' hA => Walks.list hA s.heap.objs.size l hne its.toArray
  rw [hsz] at W
  refine hQ _ _ _ _ W (fun b hb => ?_) (fun i v hv => ?_) ?_
  · simp only [List.mem_cons, List.not_mem_nil, or_false] at hb
    rcases hb with e | e
    · exact .inl e
    · exact .inr (by rw [e])
  · exact SS.strs_at hi i v (by simpa using hv)
  · exact ⟨⟨_, Heap.get?_push_size _ rfl, rfl, rfl⟩, hl.push _⟩
theorem itb_tuple {P : Program} {w : World} {s : Shared} {l : Addr} {its : List Value} {xs : List Str} (hl : s.heap.IsTuple l its.toArray) (hi : StrsAre its xs) (hne : l ≠ s.heap.objs.size) : Itb P w s (.ref l) "tuple" xs := by
  have hsz : its.toArray.size = xs.length := by rw [List.size_toArray]; exact StrsAre.len_eq hi
  refine ⟨hl.typeIs, fun A E Q hQ => wpAny_pyIter_tuple hl ?_⟩
  have W : ∀ A' : Around, A'.handled = none → Walks P w A' _ _ _ _ _ _ := fun A' hA => Walks.tuple hA s.heap.objs.size l hne its.toArray
  rw [hsz] at W
  refine hQ _ _ _ _ W (fun b hb => ?_) (fun i v hv => ?_) ?_
  · simp only [List.mem_cons, List.not_mem_nil, or_false] at hb
    rcases hb with e | e
    · exact .inl e
    · exact .inr (by rw [e])
  · exact SS.strs_at hi i v (by simpa using hv)
  · exact ⟨⟨_, Heap.get?_push_size _ rfl, rfl, rfl⟩, hl.push _⟩
theorem itb_str {P : Program} {w : World} {s : Shared} {x : Str} {t : Tok} : Itb P w s (.str x t) "str" (x.cps.toList.map fun c => tx [c]) := by
  refine ⟨typeIs_str _ _ _, fun A E Q hQ => wpAny_pyIter_str fun o St hW hst => hQ o [s.heap.objs.size] (SignAt x) St (fun A' hA => ?_) (fun b hb => .inl (by simpa using hb)) (fun i v hv => ?_) hst⟩
  · rw [List.length_map, Array.length_toList]
    exact hW A' hA
  · obtain ⟨c, u, h1, rfl⟩ := hv
    refine ⟨u, ?_⟩
    have h1 : x.cps.toList[i]? = some c := by rw [Array.getElem?_toList]; exact h1
    rw [List.getD_eq_getElem?_getD, List.getElem?_map, h1]
    rfl
/-- a set made of texts -/
theorem set_made {pins : List (Addr × Obj)} {σ : L2.St} {H : Hp} {s1 : Shared} {b : D} {x : V} {v : Value} {xs : List D} {ss : List Tx} {Q : Value → Shared → Prop} (hc : X.calm = true) (I1 : Inv X pins σ H s1) (r1 : RelV x v) (hr : RpR X.K Em H b x)
    (e1 : itemsR b = .ok xs) (e2 : strs? xs = some ss) (hlen : ss.length < 4000)
    (fin : (∀ y ∈ ss, y.length ≤ sizeLine) → ∀ (h' : Heap) (tk : Nat), SetT X.prog X.w h' s1.heap.objs.size (ss.map tx) → (∀ b o, b < s1.heap.objs.size → s1.heap.get? b = some o → h'.get? b = some o) → Q (.ref s1.heap.objs.size) { s1 with heap := h', toks := tk }) :
    wpAny (model X.prog X.w) X.A (call (.type "set") [v]) Q X.xe s1 := by
  have hb : (ss.map tx).length + 1 < scanBound := by rw [List.length_map]; unfold scanBound; omega
  cases b with
  | lst t =>
    cases e1
    obtain ⟨l, ys, e3, r3, g3⟩ := hr
    subst e3
    cases r1
    obtain ⟨its, rv, hl, _⟩ := I1.list (.inl r3)
    rw [strs_ok e2 g3] at rv
    have hlt : l < s1.heap.objs.size := by
      obtain ⟨o, ho, _⟩ := hl.isList
      exact Heap.lt_size ho
    refine call_setT (I1.ok.hd hc) PySem.F.sub_list_set PySem.F.sub_list_frozenset (by decide) (fun b e => by cases e; exact hlt) hb (itb_list (hl.isList.push _) (strsAre_of rv) ?_) fun h' tk hS hk => fin (strs_short e2 g3) h' tk hS hk
    show l ≠ (s1.heap.push (eSet X.w)).objs.size
    rw [size_push']
    exact Nat.ne_of_lt (Nat.lt_succ_of_lt hlt)
  | tup t =>
    cases e1
    obtain ⟨l, ys, e3, r3, g3⟩ := hr
    subst e3
    cases r1
    obtain ⟨its, rv, hl, _⟩ := I1.tuple r3.1
    rw [strs_ok e2 g3] at rv
    have hlt : l < s1.heap.objs.size := by
      obtain ⟨o, ho, _⟩ := id hl
      exact Heap.lt_size ho
    refine call_setT (I1.ok.hd hc) PySem.F.sub_tuple_set PySem.F.sub_tuple_frozenset (by decide) (fun b e => by cases e; exact hlt) hb (itb_tuple (hl.push _) (strsAre_of rv) ?_) fun h' tk hS hk => fin (strs_short e2 g3) h' tk hS hk
    show l ≠ (s1.heap.push (eSet X.w)).objs.size
    rw [size_push']
    exact Nat.ne_of_lt (Nat.lt_succ_of_lt hlt)
  | str t =>
    cases e1
    obtain ⟨e3, h4⟩ := hr
    subst e3
    obtain ⟨tk0, rfl⟩ := r1
    have es := strs_signs t ss e2
    subst es
    have e5 : ((t.map fun c => [c]).map tx) = (tx t).cps.toList.map fun c => tx [c] := by
      rw [List.map_map]
      rfl
    rw [e5] at hb fin
    refine call_setT (I1.ok.hd hc) PySem.F.sub_str_set PySem.F.sub_str_frozenset (by decide) (fun b e => by cases e) hb itb_str fun h' tk hS hk => fin (fun y hy => ?_) h' tk hS hk
    obtain ⟨c, _, rfl⟩ := List.mem_map.mp hy
    show 1 ≤ sizeLine
    rw [sizeLine_eq]
    decide
  | _ => cases e1
/-- how many a set of texts has -/
theorem len_setT {pins : List (Addr × Obj)} {σ : L2.St} {H : Hp} {s : Shared} {a : Addr} {ss : List Tx} {Q : VK} (I : Inv X pins σ H s) (R : SetT X.prog X.w s.heap a (ss.map tx))
    (q : Q (.int (sortT ss).length) H) : wpAny (model X.prog X.w) X.A (call (.builtin "len") [.ref a]) (EP X pins σ Q) X.xe s := by
  obtain ⟨o, es, ep, t, ho, hex, hd, g, nd, hm, hz, hb, hf, hr, hl⟩ := R
  have hbs : es.size < scanBound := by omega
  have e : es.size = (sortT ss).length := by
    have nd2 : ((sortT ss).map tx).Nodup := by
      rw [List.nodup_iff_pairwise_ne, List.pairwise_map]
      refine (sortT_sorted ss).imp fun {a b} hab z => ?_
      have z : a = b := by
        have := congrArg (fun s : Str => s.cps.toList) z
        simpa [tx] using this
      subst z
      exact List.lt_irrefl _ hab
    have p := (List.perm_ext_iff_of_nodup nd nd2).mpr fun k => by
      rw [← hm k, List.mem_map, List.mem_map]
      simp only [sortT_mem]
    have := p.length_eq
    rw [List.length_map, List.length_map, Array.length_toList] at this
    exact this
  refine call_len_set ho hex hd hf ?_ ?_
  · unfold scanBound at hbs; omega
  · exact ⟨.int (sortT ss).length, H, I.tok _, ⟨_, by rw [e]⟩, q⟩
theorem pe_sset {a : Expr} {ta : TE} {p p2 q pos : Pos} (hc : X.calm = true) (hg : Gl X "sorted") (hm : X.mg "sorted" = none) (hg2 : Gl X "set") (hm2 : X.mg "set" = none) (ha : PE X a ta)
    (hs : ∀ es, starEach (a :: es) X.env = (false, eval a X.env) :: starEach es X.env) :
    PE X (.Call (.Name "sorted" p) [.Call (.Name "set" p2) [a] [] q] [] pos) (fun σ H Q => ta σ H fun x H1 => rP X.K (prR .sortedSet) [x] H1 Q) := by
  refine ⟨fun pins s σ H Q I h => ?_⟩
  refine Call_ (ld_blt I hg hm boot_sorted ?_)
  refine PyProof.Rows.callWith_builtin1 (PyProof.Rows.args_cons ?_ rfl) rfl rfl
  refine Call_ (ld_blt I hg2 hm2 boot_set ?_)
  refine PyProof.Rows.callWith_type1 (PyProof.Rows.args_cons (thn (ha.run pins s σ H _ I h) fun v s1 ⟨x, H1, I1, r1, q1⟩ => PyProof.Rows.args_nil ?_) (hs [])) (hs []) rfl
  obtain ⟨ds, d, hd, e, q1⟩ := q1
  match ds, e, hd with
  | [b], e, hd =>
    obtain ⟨xs, e1, e⟩ := R.bind_ok e
    obtain ⟨ss, e2, e⟩ := R.bind_ok e
    have e2 : strs? xs = some ss := by
      cases z : strs? xs with
      | none => rw [z] at e2; cases e2
      | some y => rw [z] at e2; cases e2; rfl
    split at e
    · rename_i hlen
      cases e
      have hlen : ss.length < 4000 := by simpa using hlen
      obtain ⟨x', ex, hr⟩ := hd.one
      cases ex
      refine set_made hc I1 r1 hr e1 e2 hlen fun tl h' tk hS hk => ?_
      refine PyProof.Rows.args_nil ?_
      have I2 : Inv X pins σ H1 { s1 with heap := h', toks := tk } := I1.kept fun b o e => hk b o (Heap.lt_size e) e
      exact sorted_setT hc I2 hS fun p hp => q1 _ _ (same_upd hp) (fun Y zy k => Rp.new_lst hp (zy.not_none hp) (rpl_texts _ fun y hy => tl y (sortT_mem.mp hy))) ⟨p, _, rfl, hp, upd_same⟩
    · cases e
theorem pe_lenset {a : Expr} {ta : TE} {p p2 q pos : Pos} (hc : X.calm = true) (hg : Gl X "len") (hm : X.mg "len" = none) (hg2 : Gl X "set") (hm2 : X.mg "set" = none) (ha : PE X a ta)
    (hs : ∀ es, starEach (a :: es) X.env = (false, eval a X.env) :: starEach es X.env) :
    PE X (.Call (.Name "len" p) [.Call (.Name "set" p2) [a] [] q] [] pos) (fun σ H Q => ta σ H fun x H1 => rP X.K (prR .lenSet) [x] H1 Q) := by
  refine ⟨fun pins s σ H Q I h => ?_⟩
  refine Call_ (ld_blt I hg hm boot_len ?_)
  refine PyProof.Rows.callWith_builtin1 (PyProof.Rows.args_cons ?_ rfl) rfl rfl
  refine Call_ (ld_blt I hg2 hm2 boot_set ?_)
  refine PyProof.Rows.callWith_type1 (PyProof.Rows.args_cons (thn (ha.run pins s σ H _ I h) fun v s1 ⟨x, H1, I1, r1, q1⟩ => PyProof.Rows.args_nil ?_) (hs [])) (hs []) rfl
  obtain ⟨ds, d, hd, e, q1⟩ := q1
  match ds, e, hd with
  | [b], e, hd =>
    obtain ⟨xs, e1, e⟩ := R.bind_ok e
    obtain ⟨ss, e2, e⟩ := R.bind_ok e
    have e2 : strs? xs = some ss := by
      cases z : strs? xs with
      | none => rw [z] at e2; cases e2
      | some y => rw [z] at e2; cases e2; rfl
    split at e
    · rename_i hlen
      cases e
      have hlen : ss.length < 4000 := by simpa using hlen
      obtain ⟨x', ex, hr⟩ := hd.one
      cases ex
      refine set_made hc I1 r1 hr e1 e2 hlen fun tl h' tk hS hk => ?_
      refine PyProof.Rows.args_nil ?_
      have I2 : Inv X pins σ H1 { s1 with heap := h', toks := tk } := I1.kept fun b o e => hk b o (Heap.lt_size e) e
      exact len_setT I2 hS (q1 _ _ (Same.refl _) (fun Y zy k => rfl) trivial)
    · cases e
end
end Pw

/-! text PwD -/
/-! dicts upon data; counts, places, sums -/
namespace Pw
open PySem PySem.Spec PyProof.Rows L2

abbrev kDs (kvs : List (Key × V)) : List D := kvs.map fun p => kD p.1
theorem dhas_kD (k : Key) (kvs : List (Key × V)) : dhas (kD k) (kDs kvs) = kvs.any fun kv => decide (kv.1 = k) := by
  unfold dhas kDs
  rw [List.any_map]
  congr 1
  funext p
  exact keq_kD p.1 k
theorem putK_keys (kvs : List (Key × V)) (k : Key) (v : V) : kDs (putK kvs k v) = dputK (kD k) (kDs kvs) := by
  unfold putK dputK
  rw [dhas_kD]
  split
  · unfold kDs
    rw [List.map_map]
    apply List.map_congr_left
    intro p _
    show kD (if p.1 = k then (p.1, v) else p).1 = _
    split <;> rfl
  · unfold kDs
    rw [List.map_append]
    rfl
theorem dropK_keys (kvs : List (Key × V)) (k : Key) : kDs (dropK kvs k) = ddropK (kD k) (kDs kvs) := by
  unfold dropK ddropK kDs
  rw [List.filter_map]
  congr 1
  apply List.filter_congr
  intro p _
  show decide (p.1 ≠ k) = !keq (kD p.1) (kD k)
  rw [keq_kD]
  by_cases e : p.1 = k <;> simp [e]
section
variable {K : PySem.W.Frag} {Y : Addr → Prop} {H : Hp}
theorem dset_vals (k : Key) {d : D} {v : V} (hd : Rp K Y H d v) : ∀ {kvs : List (Key × V)} {vs : List D}, RpL K Y H vs (kvs.map fun p => p.2) →
    RpL K Y H (dset (kD k) d (kDs kvs) vs) ((kvs.map fun kv => if kv.1 = k then (kv.1, v) else kv).map fun p => p.2)
  | [], vs, h => by
    cases vs <;> rfl
  | p :: kvs, vs, h => by
    cases vs with
    | nil =>
      have h : (p :: kvs).map (fun p => p.2) = [] := h
      simp at h
    | cons d0 vs =>
      obtain ⟨u, ws, e, h1, h2⟩ := h
      cases e
      have ih := dset_vals k hd h2
      show RpL K Y H ((if keq (kD p.1) (kD k) then d else d0) :: dset (kD k) d (kDs kvs) vs) _
      rw [keq_kD]
      refine ⟨_, _, rfl, ?_, ih⟩
      by_cases e : p.1 = k
      · simp only [if_pos e, decide_eq_true e, if_true]
        exact hd
      · simp only [if_neg e, decide_eq_false e, Bool.false_eq_true, if_false]
        exact h1
theorem putK_vals (k : Key) {d : D} {v : V} (hd : Rp K Y H d v) {kvs : List (Key × V)} {vs : List D} (h : RpL K Y H vs (kvs.map fun p => p.2)) : RpL K Y H (dputV (kD k) d (kDs kvs) vs) ((putK kvs k v).map fun p => p.2) := by
  unfold putK dputV
  rw [dhas_kD]
  split
  · exact dset_vals k hd h
  · rw [List.map_append]
    exact h.append (RpL.one hd)
theorem dropK_vals (k : Key) : ∀ {kvs : List (Key × V)} {vs : List D}, RpL K Y H vs (kvs.map fun p => p.2) → RpL K Y H (ddropV (kD k) (kDs kvs) vs) ((dropK kvs k).map fun p => p.2)
  | [], vs, h => by cases vs <;> rfl
  | p :: kvs, vs, h => by
    cases vs with
    | nil =>
      have h : (p :: kvs).map (fun p => p.2) = [] := h
      simp at h
    | cons d0 vs =>
      obtain ⟨u, ws, e, h1, h2⟩ := h
      cases e
      have ih := dropK_vals k h2
      show RpL K Y H (if keq (kD p.1) (kD k) then ddropV (kD k) (kDs kvs) vs else d0 :: ddropV (kD k) (kDs kvs) vs) _
      rw [keq_kD]
      unfold dropK at ih ⊢
      by_cases e : p.1 = k
      · rw [decide_eq_true e, if_pos rfl, List.filter_cons_of_neg (by simp [e])]
        exact ih
      · rw [decide_eq_false e, if_neg Bool.false_ne_true, List.filter_cons_of_pos (by simp [e])]
        exact ⟨_, _, rfl, h1, ih⟩
theorem key_len {k : Key} {t : Tx} {ks : List D} (h : ∀ t, D.str t ∈ ks → t.length ≤ sizeLine) (hk : ∀ t, kD k = .str t → t.length ≤ sizeLine) (m : D.str t ∈ dputK (kD k) ks) : t.length ≤ sizeLine := by
  unfold dputK at m
  split at m
  · exact h t m
  · rcases List.mem_append.mp m with m | m
    · exact h t m
    · exact hk t (List.mem_singleton.mp m).symm
theorem Rp.new_dct {p : Addr} {kvs : List (Key × V)} {vs : List D} (n : H p = none) (z : ¬ Y p) (hl : ∀ t, D.str t ∈ kDs kvs → t.length ≤ sizeLine) (h : RpL K Y H vs (kvs.map fun p => p.2)) : Rp K Y (upd H p (.dK kvs)) (.dct (kDs kvs) vs) (.ref p) :=
  ⟨p, kvs, rfl, .inl upd_same, z, rfl, hl, h.same (same_upd n)⟩
theorem key_of_rp {a : D} {x : V} (h : isKey a = true) (r : RpR K Y H a x) : ∃ k : Key, a = kD k ∧ x = kV k ∧ ∀ t, kD k = .str t → t.length ≤ sizeLine := by
  cases a with
  | int i => exact ⟨.inl i, rfl, r, fun t e => by cases e⟩
  | str s => exact ⟨.inr (tx s), rfl, r.1, fun t e => by cases e; exact r.2⟩
  | _ => cases h
/-- pairs that make a dict -/
theorem pairs_ok (hg : ∀ a xs ys, SqT K H a xs → SqT K H a ys → xs = ys) : ∀ (ps : List D) (ys : List V) (kvs0 : List (Key × V)) (vs0 ks' vs' : List D), dmake (kDs kvs0) vs0 ps = some (ks', vs') → RpL K Em H ps ys → (∀ t, D.str t ∈ kDs kvs0 → t.length ≤ sizeLine) →
    ∃ (as : List Addr) (kvs : List (Key × V)), ys = as.map V.ref ∧ Paired (fun p kv => SqT K H p [kV kv.1, kv.2]) as kvs ∧ ks' = kDs (mergeK kvs0 kvs) ∧ (∀ t, D.str t ∈ kDs (mergeK kvs0 kvs) → t.length ≤ sizeLine) ∧
      ∀ Y, RpL K Y H ps ys → RpL K Y H vs0 (kvs0.map fun p => p.2) → RpL K Y H vs' ((mergeK kvs0 kvs).map fun p => p.2)
  | [], ys, kvs0, vs0, ks', vs', e, h, hl => by
    have h : ys = [] := h
    subst h
    cases e
    exact ⟨[], [], rfl, .nil, rfl, hl, fun Y _ q => q⟩
  | d :: ps, ys, kvs0, vs0, ks', vs', e, h, hl => by
    match d, e with
    | .tup [k, v], e =>
      unfold dmake at e
      split at e
      · rename_i hk
        obtain ⟨y, ys', rfl, h1, h2⟩ := h
        obtain ⟨b, xs, rfl, r, g⟩ := h1
        obtain ⟨xk, xs1, rfl, g1, g2⟩ := g
        obtain ⟨xv, xs2, rfl, g3, g4⟩ := g2
        have g4 : xs2 = [] := g4
        subst g4
        obtain ⟨kk, rfl, rfl, lk⟩ := key_of_rp hk g1.relax
        rw [← putK_keys kvs0 kk xv] at e
        obtain ⟨as, kvs, rfl, pp, e1, e2, e3⟩ := pairs_ok hg ps ys' (putK kvs0 kk xv) _ ks' vs' e h2 (fun t m => by rw [putK_keys] at m; exact key_len hl lk m)
        refine ⟨b :: as, (kk, xv) :: kvs, rfl, .cons r.1 pp, e1, e2, fun Y q1 q2 => ?_⟩
        obtain ⟨y2, ys2, e4, j1, j2⟩ := q1
        cases e4
        refine e3 Y j2 (putK_vals kk ?_ q2)
        obtain ⟨b2, xs3, e5, r2, j3⟩ := j1
        cases e5
        have ex := hg b _ _ r.1 r2.1
        subst ex
        obtain ⟨z1, zs1, e6, _, j4⟩ := j3
        cases e6
        obtain ⟨z2, zs2, e7, j5, _⟩ := j4
        cases e7
        exact j5
      · cases e
end
section
variable {X : Cx}
theorem merge_len (kvs : List (Key × V)) : (mergeK [] kvs).length ≤ kvs.length := by
  have := length_mergeK kvs []
  simpa using this
/-- dict(t) of a known tuple of pairs -/
theorem call_dictT (hcalm : X.calm = true) : CallR X (.type "dict") (fun xs H Q => ∃ (a : Addr) (ps : List Addr) (kvs : List (Key × V)), xs = [.ref a] ∧ KnT X.K H a (ps.map V.ref) ∧ Paired (fun p kv => SqT X.K H p [kV kv.1, kv.2]) ps kvs ∧
    ∀ p, H p = none → Q (.ref p) (upd H p (.dK (mergeK [] kvs)))) := by
  intro pins s σ H xs us Q I r q
  obtain ⟨a, ps, kvs, ex, hq, hp, q⟩ := q
  subst ex
  obtain ⟨u, eu, rx⟩ := vals1 r
  subst eu
  cases rx
  have pl : ∃ its : List Value, Vals (ps.map V.ref) its ∧ PlainSeq "tuple" s.heap a its.toArray ∧ (ps.map V.ref).length ≤ sizeLine := by
    rcases hq with ⟨o, h, hd⟩ | ⟨o, its, n, hk, hc, hd, hs, hz, rv⟩
    · obtain ⟨ho, hz, its, rv, o2, ho2, hc, n, hdat⟩ := I.hok a _ h
      rw [ho] at ho2
      cases ho2
      exact ⟨its, rv, ⟨o, n, ho, hc, hd, hdat⟩, hz⟩
    · refine ⟨its.toList, rv, ⟨o, n, I.kIn a o hk, hc, hd, by simpa using hs⟩, ?_⟩
      rw [rv.length]; simpa using hz
  obtain ⟨its, rv, pl, hz⟩ := pl
  have ei := refs_at rv
  subst ei
  rw [List.length_map] at hz
  obtain ⟨prs, rel, hl, hpr⟩ := L2.pairs_of I hp
  let Ts : Nat → Addr := fun j => (ps[j]?).getD 0
  have key : ∀ j (kv : Key × Value), prs[j]? = some kv → ∃ u : Value, IsTup s.heap (Ts j) #[u, kv.2] ∧ keyIs kv.1 u = true ∧ ps[j]? = some (Ts j) := fun j kv e => by
    obtain ⟨b, u, e1, e2, e3⟩ := hpr j kv e
    have : Ts j = b := by show (ps[j]?).getD 0 = b; rw [e1]; rfl
    exact ⟨u, by rw [this]; exact e2, e3, by rw [this]; exact e1⟩
  have hex : ∃ vals : List (Value × Value), vals.length = prs.length ∧ ∀ j p, vals[j]? = some p → ∃ kv, prs[j]? = some kv ∧ p.2 = kv.2 ∧ IsTup s.heap (Ts j) #[p.1, p.2] ∧ keyIs kv.1 p.1 = true ∧ ps[j]? = some (Ts j) := by
    have h2 : ∀ j : Nat, ∃ p : Value × Value, ∀ kv, prs[j]? = some kv → p.2 = kv.2 ∧ IsTup s.heap (Ts j) #[p.1, p.2] ∧ keyIs kv.1 p.1 = true ∧ ps[j]? = some (Ts j) := fun j => by
      cases e : prs[j]? with
      | none => exact ⟨(.none, .none), fun kv z => by cases z⟩
      | some kv =>
        obtain ⟨u, k1, k2, k3⟩ := key j kv e
        exact ⟨(u, kv.2), fun kv' z => by cases z; exact ⟨rfl, k1, k2, k3⟩⟩
    obtain ⟨f, hf⟩ := Classical.axiomOfChoice h2
    refine ⟨(List.range prs.length).map f, by simp, fun j p e => ?_⟩
    rw [List.getElem?_map] at e
    by_cases hj : j < prs.length
    · rw [List.getElem?_range hj] at e
      cases e
      have e1 : prs[j]? = some prs[j] := List.getElem?_eq_getElem hj
      obtain ⟨a1, a2, a3, a4⟩ := hf j _ e1
      exact ⟨_, e1, a1, a2, a3, a4⟩
    · rw [List.getElem?_eq_none (by simpa using hj)] at e
      cases e
  obtain ⟨vals, vl, hv⟩ := hex
  have hn : vals.length ≤ sizeLine := by rw [vl, hl]; exact hz
  refine call_dict_pairs (K := Key) (knd := mixKind X.prog X.w) (kvs := prs) (PairArg.tuple a ((ps.map Value.ref)).toArray Ts vals) (I.ok.hd hcalm) ⟨pl, ?_, fun j k v e => ?_⟩ ⟨vl.symm, fun j k v e => ?_⟩ hn fun h' tk hd' kp => ?_
  · simp [vl, hl]
  · obtain ⟨kv, e1, e2, e3, e4, e5⟩ := hv j (k, v) e
    exact ⟨by simp [e5], .inl e3⟩
  · obtain ⟨kv, e1, e2, e3, e4, e5⟩ := hv j (k, v) e
    obtain ⟨kk, kw⟩ := kv
    dsimp only at e2 e4
    subst e2
    exact ⟨kk, e1, e4⟩
  · have hm : (s.heap.objs.size == sysModules) = false := beq_eq_false_iff_ne.mpr (Nat.ne_of_gt I.big)
    have hlen : (mergeK [] kvs).length ≤ sizeLine := by
      refine Nat.le_trans (merge_len kvs) ?_
      rw [rel.length, hl]
      exact hz
    exact ⟨.ref s.heap.objs.size, _, I.laid (t' := tk) (o := .dK (mergeK [] kvs)) (fun b o e => kp b o (by simp) e) (Nat.le_refl _) ⟨hlen, hm, _, KV.merge rel .nil, hd'⟩, rfl, q _ (I.hok.fresh (Nat.le_refl _))⟩
theorem dictR_ok {d d2 : D} (h : dictR d = .ok d2) : (∃ ks vs, d = .dct ks vs ∧ d2 = .dct ks vs) ∨ ∃ ps ks vs, (d = .lst ps ∨ d = .tup ps) ∧ dmake [] [] ps = some (ks, vs) ∧ d2 = .dct ks vs := by
  unfold dictR at h
  split at h
  · cases h; exact .inl ⟨_, _, rfl, rfl⟩
  · split at h
    · rename_i e
      cases h
      exact .inr ⟨_, _, _, .inl rfl, e, rfl⟩
    · cases h
  · split at h
    · rename_i e
      cases h
      exact .inr ⟨_, _, _, .inr rfl, e, rfl⟩
    · cases h
  · cases h
theorem dmake_prs : ∀ (ps ks vs : List D) (r : List D × List D), dmake ks vs ps = some r → prs ps = true
  | [], _, _, _, _ => rfl
  | d :: ps, ks, vs, r, h => by
    match d, h with
    | .tup [k, v], h =>
      unfold dmake at h
      split at h
      · have := dmake_prs ps _ _ _ h
        unfold prs at this ⊢
        rw [List.all_cons, this]
        rfl
      · cases h
theorem pr_dict (hcalm : X.calm = true) : CallR X (.type "dict") (rP X.K (prR .dict)) := by
  intro pins s σ H xs us Q I r h
  obtain ⟨ds, d, ha, e, q⟩ := h
  match ds, e, ha with
  | [d0], e, ha =>
    have e : dictR d0 = .ok d := e
    obtain ⟨v, rfl, h0⟩ := ha.one
    rcases dictR_ok e with ⟨ks, vs, rfl, rfl⟩ | ⟨ps, ks, vs, hd, em, rfl⟩
    · obtain ⟨a, kvs, e1, r1, ek, el, g1⟩ := h0
      subst e1 ek
      refine call_dictD pins s σ H _ us Q I r ⟨a, kvs, rfl, r1, fun p hp => ?_⟩
      exact q _ _ (same_upd hp) (fun Y zy k => Rp.new_dct hp (zy.not_none hp) el (dict_of_rpr I rfl r1 k.of1)) ⟨p, kvs, rfl, hp, upd_same⟩
    · rcases hd with rfl | rfl
      · obtain ⟨a, ys, e1, r1, g1⟩ := h0
        subst e1
        obtain ⟨as, kvs, rfl, pp, rfl, el, w⟩ := pairs_ok (K := X.K) (H := H) (fun a xs ys h1 h2 => I.tuple_inj h1 h2) ps ys [] [] ks vs em g1 (fun t m => by cases m)
        refine call_dictP hcalm pins s σ H _ us Q I r ⟨a, as, kvs, rfl, .inl r1, pp, fun p hp => ?_⟩
        exact q _ _ (same_upd hp) (fun Y zy k => Rp.new_dct hp (zy.not_none hp) el (w Y (list_of_rpr I rfl r1 k.of1) rfl)) ⟨p, _, rfl, hp, upd_same⟩
      · obtain ⟨a, ys, e1, r1, g1⟩ := h0
        subst e1
        obtain ⟨as, kvs, rfl, pp, rfl, el, w⟩ := pairs_ok (K := X.K) (H := H) (fun a xs ys h1 h2 => I.tuple_inj h1 h2) ps ys [] [] ks vs em g1 (fun t m => by cases m)
        refine call_dictT hcalm pins s σ H _ us Q I r ⟨a, as, kvs, rfl, r1.2 (dmake_prs _ _ _ _ em), pp, fun p hp => ?_⟩
        exact q _ _ (same_upd hp) (fun Y zy k => Rp.new_dct hp (zy.not_none hp) el (w Y (tuple_of_rpr I rfl r1.1 k.of1) rfl)) ⟨p, _, rfl, hp, upd_same⟩
theorem keys_rp {K : PySem.W.Frag} {Y : Addr → Prop} {H : Hp} : ∀ {kvs : List (Key × V)}, (∀ t, D.str t ∈ kDs kvs → t.length ≤ sizeLine) → RpL K Y H (kDs kvs) (kvs.map fun p => kV p.1)
  | [], _ => rfl
  | p :: kvs, h => by
    refine ⟨_, _, rfl, ?_, keys_rp fun t m => h t (List.mem_cons_of_mem _ m)⟩
    obtain ⟨k, v⟩ := p
    cases k with
    | inl i => rfl
    | inr x => exact ⟨by obtain ⟨x⟩ := x; rfl, h _ (List.mem_cons_self ..)⟩
theorem pr_ikeys (hcalm : X.calm = true) : CallR X (.type "list") (rP X.K (prR .ikeys)) := by
  intro pins s σ H xs us Q I r h
  obtain ⟨ds, d, ha, e, q⟩ := h
  match ds, e, ha with
  | [.dct ks vs], e, ha =>
    cases e
    obtain ⟨v, rfl, a, kvs, e1, r1, ek, el, g1⟩ := ha.one
    subst e1 ek
    refine call_listD hcalm pins s σ H _ us Q I r ⟨a, kvs, rfl, r1, fun p hp => ?_⟩
    exact q _ _ (same_upd hp) (fun Y zy k => Rp.new_lst hp (zy.not_none hp) (keys_rp el)) ⟨p, _, rfl, hp, upd_same⟩
theorem pr_sum (hcalm : X.calm = true) : CallR X (.builtin "sum") (rP X.K (prR .sum)) := by
  intro pins s σ H xs us Q I r h
  obtain ⟨ds, d, ha, e, q⟩ := h
  match ds, e, ha with
  | [.lst ts], e, ha =>
    obtain ⟨ns, e1, rfl⟩ := mapR_ok (show mapR (fun ns : List Int => D.int ns.sum) (ofO (ints? ts)) = .ok d from e)
    obtain ⟨v, rfl, a, ys, e2, r1, g1⟩ := ha.one
    subst e2
    have ey := RpL.ints g1 (ofO_ok e1)
    subst ey
    exact cr_sum hcalm pins s σ H _ us Q I r ⟨a, ns, rfl, .inl r1, q _ H (Same.refl H) (fun _ _ _ => rfl) trivial⟩
theorem max_of {ns : List Int} {m : Int} (h : ns.max? = some m) : m ∈ ns ∧ ∀ y, y ∈ ns → y ≤ m := List.max?_eq_some_iff.mp h
theorem min_of {ns : List Int} {m : Int} (h : ns.min? = some m) : m ∈ ns ∧ ∀ y, y ∈ ns → m ≤ y := List.min?_eq_some_iff.mp h
theorem pr_max (hcalm : X.calm = true) : CallR X (.builtin "max") (rP X.K (prR .max)) := by
  intro pins s σ H xs us Q I r h
  obtain ⟨ds, d, ha, e, q⟩ := h
  match ds, e, ha with
  | [.lst ts], e, ha =>
    obtain ⟨ns, e1, e2⟩ := R.bind_ok (show ((ofO (ints? ts)).bind fun ns => ofO ((ns.max?).map D.int)) = .ok d from e)
    obtain ⟨m, e3, rfl⟩ := Option.map_eq_some_iff.mp (ofO_ok e2)
    obtain ⟨v, rfl, a, ys, e4, r1, g1⟩ := ha.one
    subst e4
    have ey := RpL.ints g1 (ofO_ok e1)
    subst ey
    obtain ⟨m1, m2⟩ := max_of e3
    refine cr_max hcalm pins s σ H _ us Q I r ⟨a, ns, rfl, .inl r1, List.length_pos_of_mem m1, fun m' h1 h2 => ?_⟩
    have : m' = m := Int.le_antisymm (m2 m' h1) (h2 m m1)
    subst this
    exact q _ H (Same.refl H) (fun _ _ _ => rfl) trivial
theorem pr_min (hcalm : X.calm = true) : CallR X (.builtin "min") (rP X.K (prR .min)) := by
  intro pins s σ H xs us Q I r h
  obtain ⟨ds, d, ha, e, q⟩ := h
  match ds, e, ha with
  | [.lst ts], e, ha =>
    obtain ⟨ns, e1, e2⟩ := R.bind_ok (show ((ofO (ints? ts)).bind fun ns => ofO ((ns.min?).map D.int)) = .ok d from e)
    obtain ⟨m, e3, rfl⟩ := Option.map_eq_some_iff.mp (ofO_ok e2)
    obtain ⟨v, rfl, a, ys, e4, r1, g1⟩ := ha.one
    subst e4
    have ey := RpL.ints g1 (ofO_ok e1)
    subst ey
    obtain ⟨m1, m2⟩ := min_of e3
    refine cr_min hcalm pins s σ H _ us Q I r ⟨a, ns, rfl, .inl r1, List.length_pos_of_mem m1, fun m' h1 h2 => ?_⟩
    have : m' = m := Int.le_antisymm (h2 m m1) (m2 m' h1)
    subst this
    exact q _ H (Same.refl H) (fun _ _ _ => rfl) trivial
theorem pr_int : CallR X (.type "int") (rP X.K (prR .int)) := by
  intro pins s σ H xs us Q I r h
  obtain ⟨ds, d, ha, e, q⟩ := h
  match ds, e, ha with
  | [.bl b], e, ha =>
    cases e
    obtain ⟨v, rfl, h1⟩ := ha.one
    have h1 : v = .bl b := h1
    subst h1
    exact call_int1 pins s σ H _ us Q I r (.inr ⟨b, rfl, q _ H (Same.refl H) (fun _ _ _ => rfl) trivial⟩)
  | [.int i], e, ha =>
    cases e
    obtain ⟨v, rfl, h1⟩ := ha.one
    have h1 : v = .int i := h1
    subst h1
    exact call_int1 pins s σ H _ us Q I r (.inl ⟨i, rfl, q _ H (Same.refl H) (fun _ _ _ => rfl) trivial⟩)
end
end Pw

/-! text PwS -/
/-! sorted(d.items()) -/
namespace Pw
open PySem PySem.Spec PyProof.Rows L2
section
variable {X : Cx}
theorem items_tup {pins : List (Addr × Obj)} {σ : L2.St} {H : Hp} {s : Shared} {h' : Heap} {tk : Nat} {kvs : List (Key × V)} {vs : List (Key × Value)} {as : List Addr} (I : Inv X pins σ H s) (kv : KV kvs vs)
    (hk : ∀ b o, s.heap.get? b = some o → h'.get? b = some o) (hl : as.length = vs.length) (hG : PySem.W.KdxG (mixKind X.prog X.w) vs s.heap.objs.size h' as) :
    ∃ H' : Hp, Same H H' ∧ (∀ t ∈ as, H t = none) ∧ Paired (fun (t : Addr) (q : Key × V) => H' t = some (.tup [kV q.1, q.2])) as kvs ∧ Inv X pins σ H' { s with heap := h', toks := tk } := by
  have lk : kvs.length = vs.length := Paired.length kv
  have nd : as.Nodup := List.Pairwise.imp (fun {a b} (h : a < b) => Nat.ne_of_lt h) hG.rise
  have new : ∀ t ∈ as, H t = none := fun t ht => I.hok.fresh (Nat.le_of_lt (hG.above t ht))
  have atP := LiI.putT_at as kvs H (by omega) nd
  have off : ∀ b, b ∉ as → LiI.putT H as kvs b = H b := fun b h1 => LiI.putT_off as kvs _ h1
  have low : ∀ b o, s.heap.get? b = some o → b ∉ as := fun b o e => fun z => absurd (Heap.lt_size e) (Nat.not_lt.mpr (Nat.le_of_lt (hG.above b z)))
  have kp : ∀ b u, H b = some u → (LiI.putT H as kvs) b = some u := fun b u e => by
    rw [off b (fun z => by rw [new b z] at e; cases e)]
    exact e
  refine ⟨LiI.putT H as kvs, kp, new, atP, ?_⟩
  refine I.call' (ch := []) rfl ⟨fun b o q _ _ _ => hk b o q, fun b o q _ _ _ => ⟨o.slots, hk b o q⟩, fun b o q n _ => ?_, fun b o q _ => ⟨o, hk b o q⟩, fun b xs q => kp b _ q, fun b o u q => kp b _ q, fun b ps q => ⟨#[], by rw [kp b _ q]; simp⟩⟩ (fun b u q => ?_) I.bare fun b z => by simp at z
  · rw [off b (low b o q)]
    exact n
  · by_cases hb : b ∈ as
    · obtain ⟨j, pk, e1, e2, e3⟩ := LiI.paired_ix atP hb
      rw [e3] at q
      cases q
      obtain ⟨key, k, x, f1, f2, f3⟩ := hG.pairs j b e1
      obtain ⟨qv, g1, g2, g3⟩ := LiI.paired_get kv e2
      rw [f1] at g1
      cases g1
      have rk : RelV (kV pk.1) key := by
        rw [g2]
        exact relV_key (show keyIs k key = true from f2)
      exact ⟨by show 2 ≤ sizeLine; decide, [key, x], .cons rk (.cons g3 .nil), ⟨_, f3, rfl, _, rfl⟩⟩
    · rw [off b hb] at q
      exact (I.hok b u q).stay (fun d v _ y => hk d v y) (fun d y => kp d _ y) fun d xs y => kp d _ y
theorem pairs_rp {K : PySem.W.Frag} {Y : Addr → Prop} {H : Hp} : ∀ {as : List Addr} {kvs : List (Key × V)} {vs : List D}, Paired (fun (t : Addr) (q : Key × V) => H t = some (.tup [kV q.1, q.2])) as kvs →
    (∀ t, D.str t ∈ kDs kvs → t.length ≤ sizeLine) → RpL K Y H vs (kvs.map fun p => p.2) → RpL K Y H (dpairs (kDs kvs) vs) (as.map V.ref)
  | _, _, vs, .nil, _, g => by
    have g : _ = _ := RpL.length g
    cases vs with
    | nil => rfl
    | cons _ _ => cases g
  | a :: as, p :: kvs, vs, .cons h1 h2, hl, g => by
    cases vs with
    | nil =>
      have := RpL.length g
      cases this
    | cons d ds =>
      obtain ⟨v, ws, e, g1, g2⟩ := g
      have e1 : p.2 = v := (List.cons.inj e).1
      have e2 : (kvs.map fun p => p.2) = ws := (List.cons.inj e).2
      subst e1 e2
      have kl := keys_rp (K := K) (Y := Y) (H := H) hl
      obtain ⟨kv, kr, ke, kg, _⟩ := kl
      have ke1 : kV p.1 = kv := (List.cons.inj ke).1
      subst ke1
      refine ⟨.ref a, _, rfl, ⟨a, [kV p.1, p.2], rfl, ⟨.inl (.inl h1), fun z => ?_⟩, kV p.1, [p.2], rfl, kg, p.2, [], rfl, g1, rfl⟩, pairs_rp h2 (fun t ht => hl t (List.mem_cons_of_mem _ ht)) g2⟩
      obtain ⟨k, w⟩ := p
      cases k <;> cases z
theorem fresh_reads {h : Heap} {o : Obj} {us : List Value} {ps : List (D × V)} (e : PySem.W.EachIs (fun u (p : D × V) => ∃ as, Reads h u p.1.py as) us ps) :
    PySem.W.EachIs (fun u (p : D × V) => ∃ as, Reads (h.push o) u p.1.py as ∧ h.objs.size ∉ as) us ps :=
  e.mono fun u p ⟨as, r⟩ => ⟨as, PyProof.Rows.Reads.keeps (fun _ _ => Heap.get?_push_of_some _) r, fun z => by
    obtain ⟨ob, eb⟩ := PyProof.On.reads_mem_get r _ z
    exact absurd (Heap.lt_size eb) (Nat.lt_irrefl _)⟩
theorem sorted_view (hc : X.calm = true) (hu : X.A.units + 100 < cLine) {pins : List (Addr × Obj)} {σ : L2.St} {H : Hp} {s : Shared} {Q : VK} {a V0 : Addr} {kvs : List (Key × V)} {vs : List D} (I : Inv X pins σ H s) (hv : s.heap.IsItemsView V0 a) (hd : Rd H a (.dK kvs))
    (hs : sortB (dpairs (kDs kvs) vs) = true) (el : ∀ t, D.str t ∈ kDs kvs → t.length ≤ sizeLine) (g1 : RpL X.K Em H vs (kvs.map fun p => p.2))
    (q : ∀ v H', Same H H' → (∀ Y, ZOk Y H → RpL X.K Y H vs (kvs.map fun p => p.2) → Rp X.K Y H' (.lst ((dpairs (kDs kvs) vs).mergeSort leD)) v) → (∃ p ys, v = .ref p ∧ H p = none ∧ H' p = some (.lst ys)) → Q v H') :
    wpAny (model X.prog X.w) X.A (call (.builtin "sorted") [.ref V0]) (EP X pins σ Q) X.xe s := by
  obtain ⟨hz, lo, us, kv, dd⟩ := dk_rd I.hok hd
  obtain ⟨ep, hat⟩ := dd.dictAt
  have lk : kvs.length = us.length := Paired.length kv
  refine PySem.Calls.call_function_entry kind_sorted plain_sorted entry_sorted (args_sorted1 _) ?_
  unfold Builtin.«sorted»
  refine wpAny_bind (m := checkCount "sorted" 1 1 _) (wpAny_pure ?_)
  refine wpAny_bind (PySem.W.kdx_collect (A := X.A.in1) (knd := mixKind X.prog X.w) (kvs := us) (ep := ep) (I.ok.hd hc) hv hat (by omega) fun h' tk as hk hl hG => ?_)
  obtain ⟨H', sm, new, pr, J⟩ := items_tup (tk := tk) I kv hk hl hG
  refine wpAny_bind (wpAny_newList ?_ (by rw [List.length_map]; omega))
  have rp : ∀ Y, RpL X.K Y H vs (kvs.map fun p => p.2) → RpL X.K Y H' (dpairs (kDs kvs) vs) (as.map V.ref) := fun Y g => pairs_rp pr el (g.same sm)
  have ga := rp _ g1
  generalize dpairs (kDs kvs) vs = t at hs rp ga q
  unfold sortB at hs
  simp only [Bool.and_eq_true, Bool.or_eq_true, List.all_eq_true] at hs
  obtain ⟨⟨⟨h1, h2⟩, h3⟩, h4⟩ := hs
  have rv : Vals (as.map V.ref) (as.map Value.ref) := LiI.vals_refs as
  obtain ⟨z1, z2, z3⟩ := rpl_zip ga
  obtain ⟨w1, w2⟩ := each_zip (h := h') J h1 ga rv
  have w3 := fresh_reads (o := { cls := .type "list", data := .seq (as.map Value.ref).toArray }) w2
  have memd : ∀ b, b ∈ t.zip (as.map V.ref) → b.1 ∈ t := fun b hb => (List.of_mem_zip hb).1
  have hob : (h'.push { cls := .type "list", data := .seq (as.map Value.ref).toArray }).get? h'.objs.size = some (seqObj "list" (as.map Value.ref).toArray 0) := Heap.get?_push_size _ rfl
  have al : (as.map V.ref).length ≤ sizeLine := by rw [List.length_map]; omega
  refine wpAny_bind (wpAny_holding (wpAny_mono (PySem.W.list_sort_data (s := { s with heap := h'.push { cls := .type "list", data := .seq (as.map Value.ref).toArray }, toks := tk }) (A := X.A.in1) (β := D × V) (enc := fun p => p.1.py) (R := fun u p => RelV p.2 u) (bs := t.zip (as.map V.ref)) (vs := as.map Value.ref) (Q := fun _ s' => EP X pins σ Q (.ref h'.objs.size) s') hob w1 w3 ?_ ?_ ?_ (fun b hb => ?_) fun out ho eo => ?_) (fun _ s' x => wpAny_pure ⟨_, rfl, x⟩) fun _ _ e => e))
  · intro d hd d' hd'
    obtain ⟨b, hb, rfl⟩ := List.mem_map.mp hd
    obtain ⟨b', hb', rfl⟩ := List.mem_map.mp hd'
    exact h3 _ (memd b hb) _ (memd b' hb')
  · rcases h4 with h4 | h4
    · left
      intro d hd
      obtain ⟨b, hb, rfl⟩ := List.mem_map.mp hd
      have q := h4 _ (memd b hb)
      obtain ⟨b1, b2⟩ := b
      cases b1 with
      | tup zs =>
        cases zs with
        | nil => cases q
        | cons a r => exact ⟨_, _, rfl⟩
      | _ => cases q
    · right
      intro d hd
      obtain ⟨b, hb, rfl⟩ := List.mem_map.mp hd
      have q := h4 _ (memd b hb)
      obtain ⟨b1, b2⟩ := b
      cases b1 with
      | bl _ => exact ⟨by simp [D.py], by intro xs; simp [D.py]⟩
      | int _ => exact ⟨by simp [D.py], by intro xs; simp [D.py]⟩
      | str _ => exact ⟨by simp [D.py], by intro xs; simp [D.py]⟩
      | lst _ => exact ⟨by simp [D.py], by intro xs; simp [D.py]⟩
      | _ => cases q
  · have hl2 : (t.zip (as.map V.ref)).length = (as.map V.ref).length := by rw [← z3, List.length_map, z3]
    rw [hl2]
    exact al
  · have hp := plainL_mem' h1 b.1 (memd b hb)
    have hd := h2 b.1 (memd b hb)
    have hd : b.1.dep ≤ 60 := by simpa using hd
    show X.A.units + 1 + 1 + b.1.py.depth < cLine
    rw [dep_py b.1 hp]
    omega
  · have em : ((t.zip (as.map V.ref)).mergeSort (PySem.W.dataLe false fun p : D × V => p.1.py)).map (·.1) = t.mergeSort leD := by
      have z := List.map_mergeSort (f := fun p : D × V => p.1) (r := PySem.W.dataLe false fun p : D × V => p.1.py) (s := leD) (l := t.zip (as.map V.ref)) fun a _ b _ => rfl
      rw [z, z1' z2]
    have rvs := each_vals eo
    have hlen : (((t.zip (as.map V.ref)).mergeSort (PySem.W.dataLe false fun p : D × V => p.1.py)).map (·.2)).length ≤ sizeLine := by
      rw [List.length_map, List.length_mergeSort, ← List.length_map (f := (·.2)), z3]
      exact al
    obtain ⟨eF, heF⟩ := PyProof.Rows.sortedHeap_at (vs := as.map Value.ref) (out := out.toArray) hob
    have hn0 : H' h'.objs.size = none := J.hok.fresh (Nat.le_refl _)
    have hn1 : H h'.objs.size = none := by
      cases e : H h'.objs.size with
      | none => rfl
      | some u => rw [sm _ _ e] at hn0; cases hn0
    refine ⟨.ref h'.objs.size, upd H' h'.objs.size (.lst (((t.zip (as.map V.ref)).mergeSort (PySem.W.dataLe false fun p : D × V => p.1.py)).map (·.2))), J.laid (t' := tk) (fun b o e => (PyProof.Rows.sortedHeap_old (Nat.ne_of_lt (Heap.lt_size e)) (by rw [Heap.size_push]; exact Nat.lt_succ_of_lt (Heap.lt_size e))).trans (Heap.get?_push_of_some _ e)) (Nat.le_refl _) ⟨hlen, out, eF, rvs, heF⟩, rfl, ?_⟩
    refine q _ _ (sm.trans (same_upd hn0)) (fun Y zy k => Rp.new_lst hn0 (zy.not_none hn1) ?_) ⟨_, _, rfl, hn1, upd_same⟩
    obtain ⟨y1, _, _⟩ := rpl_zip (rp Y k)
    rw [← em]
    exact rpl_pairs fun b hb => y1 b ((List.mem_mergeSort).mp hb)
theorem pe_sitems {o : Expr} {to : TE} {p apos cpos pos : Pos} (hc : X.calm = true) (hu : X.A.units + 100 < cLine) (hg : Gl X "sorted") (hm : X.mg "sorted" = none) (ho : PE X o to) (hbase : attributeBase o "items" X.env (eval o X.env) = eval o X.env) (hline : (apos.endLine == cpos.line) = true) :
    PE X (.Call (.Name "sorted" p) [.Call (.Attribute o "items" apos) [] [] cpos] [] pos) (fun σ H Q => to σ H fun x H1 => rP X.K (prR .sortedItems) [x] H1 Q) := by
  refine ⟨fun pins s σ H Q I h => ?_⟩
  refine Call_ (ld_blt I hg hm boot_sorted ?_)
  refine PyProof.Rows.callWith_builtin1 (PyProof.Rows.args_cons ?_ rfl) rfl rfl
  refine wpAny_Call_method (T := "dict") (id := "dict.items") hbase rfl hline F.plainAttrs_dict F.slot_dict_items F.type_dict_items (thn (ho.run pins s σ H _ I h) fun u s1 ⟨x, H1, I1, rx, q1⟩ => ?_)
  obtain ⟨ds, d, hd, e, q1⟩ := q1
  match ds, e, hd with
  | [.dct ks vs], e, hd =>
    have e : (if sortB (dpairs ks vs) then R.ok (D.lst ((dpairs ks vs).mergeSort leD)) else R.bad) = .ok d := e
    split at e
    · rename_i hs
      cases e
      obtain ⟨v, ev, a, kvs, e2, r1, ek, el, g1⟩ := hd.one
      cases ev
      subst e2 ek
      obtain rfl : u = Value.ref a := rx
      obtain ⟨hz, hs0, us, kv, hdo⟩ := dk_rd I1.hok r1
      have I2 : Inv X pins σ H1 { s1 with heap := s1.heap.push { cls := .type "dict_items", data := .fields #[.ref a] } } := I1.kept (t' := s1.toks) fun b ob q => Heap.get?_push_of_some _ q
      refine ⟨hdo.typeIs, hdo.mapOf.noDict, ?_⟩
      show wpAny _ _ (callWith cpos (.builtin "dict.items") [.ref a] [] []) _ X.xe s1
      refine method_meetsIn F.slot_dict_items F.entry_dict_items rfl (PySem.evalArgs_none ⟨rfl, hdo.typeIs, F.args_dict_items_1 _, _, meets_dict_items (mixKind X.prog X.w) a hs0, ⟨us, hdo⟩, ?_⟩)
      refine PyProof.Rows.args_nil ?_
      refine sorted_view hc hu I2 ⟨_, Heap.get?_push_size _ rfl, rfl, rfl⟩ r1 hs el g1 fun v H' s' rp fr => q1 v H' s' (fun Y zy k => rp Y zy (dict_of_rpr I2 rfl r1 k.of1)) ?_
      obtain ⟨p, ys, e1, e2, e3⟩ := fr
      exact ⟨p, ys, e1, e2, e3⟩
    · cases e
end
end Pw

/-! text PwSo -/
/-! sorted of a tuple, of a text -/
namespace Pw
open PySem PySem.Spec PyProof.Rows L2
theorem txt_rp1 {K : PySem.W.Frag} {Z : Addr → Prop} {H : Hp} : ∀ s : Tx, RpL K Z H (s.map fun c => D.str [c]) (s.map fun c => V.str ⟨#[c]⟩)
  | [] => rfl
  | c :: s => ⟨_, _, rfl, ⟨rfl, by show 1 ≤ sizeLine; rw [sizeLine_eq]; decide⟩, txt_rp1 s⟩
section
variable {X : Cx}
theorem sorted_col (hu : X.A.units + 100 < cLine) {pins : List (Addr × Obj)} {σ : L2.St} {H : Hp} {s : Shared} {Q : VK} {x : Value} {t : List D} {ws : List V} (hs : sortB t = true) (ga : RpL X.K Em H t ws) (al : ws.length ≤ sizeLine)
    (col : ∀ (Qc : List Value → Shared → Prop) (E : Value → Shared → Prop), (∀ h' tk us, Inv X pins σ H { s with heap := h', toks := tk } → Vals ws us → Qc us { s with heap := h', toks := tk }) → wpAny (model X.prog X.w) X.A.in1 (collect x) Qc E s)
    (q : ∀ v H', Same H H' → (∀ Y, ZOk Y H → RpL X.K Y H t ws → Rp X.K Y H' (.lst (t.mergeSort leD)) v) → (∃ p ys, v = .ref p ∧ H p = none ∧ H' p = some (.lst ys)) → Q v H') :
    wpAny (model X.prog X.w) X.A (call (.builtin "sorted") [x]) (EP X pins σ Q) X.xe s := by
  refine PySem.Calls.call_function_entry kind_sorted plain_sorted entry_sorted (args_sorted1 _) ?_
  unfold Builtin.«sorted»
  refine wpAny_bind (m := checkCount "sorted" 1 1 _) (wpAny_pure ?_)
  refine wpAny_bind (col _ _ fun h' tk us J rv => ?_)
  refine wpAny_bind (wpAny_newList ?_ (by rw [← rv.length]; exact al))
  unfold sortB at hs
  simp only [Bool.and_eq_true, Bool.or_eq_true, List.all_eq_true] at hs
  obtain ⟨⟨⟨h1, h2⟩, h3⟩, h4⟩ := hs
  obtain ⟨z1, z2, z3⟩ := rpl_zip ga
  obtain ⟨w1, w2⟩ := each_zip (h := h') J h1 ga rv
  have w3 := fresh_reads (o := { cls := .type "list", data := .seq us.toArray }) w2
  have memd : ∀ b, b ∈ t.zip ws → b.1 ∈ t := fun b hb => (List.of_mem_zip hb).1
  have hob : (h'.push { cls := .type "list", data := .seq us.toArray }).get? h'.objs.size = some (seqObj "list" us.toArray 0) := Heap.get?_push_size _ rfl
  refine wpAny_bind (wpAny_holding (wpAny_mono (PySem.W.list_sort_data (s := { s with heap := h'.push { cls := .type "list", data := .seq us.toArray }, toks := tk }) (A := X.A.in1) (β := D × V) (enc := fun p => p.1.py) (R := fun u p => RelV p.2 u) (bs := t.zip ws) (vs := us) (Q := fun _ s' => EP X pins σ Q (.ref h'.objs.size) s') hob w1 w3 ?_ ?_ ?_ (fun b hb => ?_) fun out ho eo => ?_) (fun _ s' x => wpAny_pure ⟨_, rfl, x⟩) fun _ _ e => e))
  · intro d hd d' hd'
    obtain ⟨b, hb, rfl⟩ := List.mem_map.mp hd
    obtain ⟨b', hb', rfl⟩ := List.mem_map.mp hd'
    exact h3 _ (memd b hb) _ (memd b' hb')
  · rcases h4 with h4 | h4
    · left
      intro d hd
      obtain ⟨b, hb, rfl⟩ := List.mem_map.mp hd
      have q := h4 _ (memd b hb)
      obtain ⟨b1, b2⟩ := b
      cases b1 with
      | tup zs =>
        cases zs with
        | nil => cases q
        | cons a r => exact ⟨_, _, rfl⟩
      | _ => cases q
    · right
      intro d hd
      obtain ⟨b, hb, rfl⟩ := List.mem_map.mp hd
      have q := h4 _ (memd b hb)
      obtain ⟨b1, b2⟩ := b
      cases b1 with
      | bl _ => exact ⟨by simp [D.py], by intro xs; simp [D.py]⟩
      | int _ => exact ⟨by simp [D.py], by intro xs; simp [D.py]⟩
      | str _ => exact ⟨by simp [D.py], by intro xs; simp [D.py]⟩
      | lst _ => exact ⟨by simp [D.py], by intro xs; simp [D.py]⟩
      | _ => cases q
  · have hl2 : (t.zip ws).length = ws.length := by rw [← z3, List.length_map, z3]
    rw [hl2]
    exact al
  · have hp := plainL_mem' h1 b.1 (memd b hb)
    have hd := h2 b.1 (memd b hb)
    have hd : b.1.dep ≤ 60 := by simpa using hd
    show X.A.units + 1 + 1 + b.1.py.depth < cLine
    rw [dep_py b.1 hp]
    omega
  · have em : ((t.zip ws).mergeSort (PySem.W.dataLe false fun p : D × V => p.1.py)).map (·.1) = t.mergeSort leD := by
      have z := List.map_mergeSort (f := fun p : D × V => p.1) (r := PySem.W.dataLe false fun p : D × V => p.1.py) (s := leD) (l := t.zip ws) fun a _ b _ => rfl
      rw [z, z1' z2]
    have rvs := each_vals eo
    have hlen : (((t.zip ws).mergeSort (PySem.W.dataLe false fun p : D × V => p.1.py)).map (·.2)).length ≤ sizeLine := by
      rw [List.length_map, List.length_mergeSort, ← List.length_map (f := (·.2)), z3]
      exact al
    obtain ⟨eF, heF⟩ := PyProof.Rows.sortedHeap_at (vs := us) (out := out.toArray) hob
    have hn0 : H h'.objs.size = none := J.hok.fresh (Nat.le_refl _)
    refine ⟨.ref h'.objs.size, upd H h'.objs.size (.lst (((t.zip ws).mergeSort (PySem.W.dataLe false fun p : D × V => p.1.py)).map (·.2))), J.laid (t' := tk) (fun b o e => (PyProof.Rows.sortedHeap_old (Nat.ne_of_lt (Heap.lt_size e)) (by rw [Heap.size_push]; exact Nat.lt_succ_of_lt (Heap.lt_size e))).trans (Heap.get?_push_of_some _ e)) (Nat.le_refl _) ⟨hlen, out, eF, rvs, heF⟩, rfl, ?_⟩
    refine q _ _ (same_upd hn0) (fun Y zy k => Rp.new_lst hn0 (zy.not_none hn0) ?_) ⟨_, _, rfl, hn0, upd_same⟩
    obtain ⟨y1, _, _⟩ := rpl_zip k
    rw [← em]
    exact rpl_pairs fun b hb => y1 b ((List.mem_mergeSort).mp hb)
theorem sign_vals (x : Str) : ∀ (acc : Array Value), ItemsOf (SignAt x) acc x.cps.size → Vals (x.cps.toList.map fun c => V.str ⟨#[c]⟩) acc.toList := by
  intro acc h
  refine vals_of_at (by rw [List.length_map, Array.length_toList, Array.length_toList]; exact h.1.symm) fun j y u h1 h2 => ?_
  rw [List.getElem?_map] at h1
  obtain ⟨c, e1, rfl⟩ := Option.map_eq_some_iff.mp h1
  obtain ⟨c', u', f1, rfl⟩ := h.2 j u (by rw [← h2, Array.getElem?_toList])
  rw [Array.getElem?_toList] at e1
  rw [e1] at f1
  cases f1
  exact ⟨u', rfl⟩
theorem pr_sorted (hc : X.calm = true) (hu : X.A.units + 100 < cLine) : CallR X (.builtin "sorted") (rP X.K (prR .sorted)) := by
  intro pins s σ H xs us Q I r h
  obtain ⟨ds, d, ha, e, q⟩ := id h
  match ds, e, ha with
  | [.lst t], e, ha =>
    have e : (if sortB t then R.ok (D.lst (msD t)) else R.bad) = .ok d := e
    rw [msD_eq] at e
    exact pr_sortedL hu pins s σ H xs us Q I r ⟨_, d, ha, e, q⟩
  | [.tup t], e, ha =>
    have e : (if sortB t then R.ok (D.lst (msD t)) else R.bad) = .ok d := e
    rw [msD_eq] at e
    split at e
    · rename_i hs
      cases e
      obtain ⟨v, rfl, p, ys, e2, r1, g1⟩ := ha.one
      subst e2
      obtain ⟨its, rv, pl, hz⟩ := I.tuple r1.1
      rw [Vals.ref1 r]
      obtain ⟨o, ho, hcl, n, hd⟩ := id pl
      refine sorted_col hu hs g1 hz (fun Qc E k => ?_) fun v H' sm rp fr => q v H' sm (fun Y zy ar => ?_) fr
      · refine wpAny_collect_seq (A := X.A.in1) p (.inr rfl) ho hcl hd (fun h' hk => ?_) (by rw [List.size_toArray, ← rv.length]; exact hz)
        exact k h' s.toks its (I.kept (t' := s.toks) hk) rv
      · obtain ⟨v2, vs2, ev2, ⟨p2, xs2, e6, r2, g2⟩, _⟩ := ar
        cases ev2
        cases e6
        have ex := I.tuple_inj r1.1 r2.1
        subst ex
        exact rp Y zy g2
    · cases e
  | [.str t], e, ha =>
    have e : (if sortB (t.map fun c => D.str [c]) then R.ok (D.lst (msD (t.map fun c => D.str [c]))) else R.bad) = .ok d := e
    rw [msD_eq] at e
    split at e
    · rename_i hs
      cases e
      obtain ⟨v, rfl, e2, hz⟩ := ha.one
      subst e2
      cases r with
      | cons r0 rr =>
        cases rr
        obtain ⟨tk0, rfl⟩ := r0
        refine sorted_col hu hs (txt_rp1 t) (by rw [List.length_map]; exact hz) (fun Qc E k => ?_) fun v H' sm rp fr => q v H' sm (fun Y zy ar => rp Y zy (txt_rp1 t)) fr
        refine wpAny_collect_str (A := X.A.in1) (I.ok.hd hc) (tx t) tk0 (fun s' acc hk e1 e2 e3 hi => ?_) (by simpa [tx] using hz)
        obtain ⟨h', g', d', tk', os'⟩ := s'
        cases e1
        cases e2
        cases e3
        have sv := sign_vals (tx t) acc hi
        exact k h' tk' acc.toList (I.kept (t' := tk') hk) (by simpa [tx] using sv)
    · cases e
end
end Pw

/-! text PwX3 -/
/-! expressions, construct by construct: chains, calls, built-ins -/
namespace Pw
open PySem PySem.Spec PyProof.Rows L2

def bnames : List Str := ["len", "all", "any", "list", "tuple", "isinstance", "str", "int", "bool", "sorted", "set", "range", "ord", "enumerate", "zip", "max", "min", "sum", "dict", "bool", "reversed", "ValueError"]
structure Gk (Γ : Ctx) : Prop where
  free : ∀ x, x ∈ bnames → Γ.mg x = none
  glo : ∀ p, p ∈ Γ.tb.gl → ∃ u v, Γ.mg p.1 = some u ∧ RelV v u ∧ ∀ Y H, Rp Γ.K Y H p.2 v
  defs : ∀ f x, Γ.tb.nm f = some x → ∃ fn, Γ.fnOf f = some fn ∧ fn.store = false
  cl : ∀ x, Γ.cl x = .ref (He.ga Γ.K (tx x))
  exc : ∀ x, x ∈ Γ.tb.xs → Γ.mg (tx x) = some (.ref (He.ga Γ.K (tx x))) ∧ PySem.W.excIn Γ.K (He.ga Γ.K (tx x)) He.veBase "ValueError.__new__" = true ∧ PySem.W.keepIn Γ.K (.ref (He.ga Γ.K (tx x))) = true ∧
    PySem.W.subIn Γ.K (.ref (He.ga Γ.K (tx x))) (.type "BaseException") = some true ∧ PySem.W.typeIn Γ.K (.ref (He.ga Γ.K (tx x))) = some (.type "type")
  exm : ∀ x y, x ∈ Γ.tb.xs → y ∈ Γ.tb.xs → PySem.W.exmOne Γ.K (.ref (He.ga Γ.K (tx x))) (.ref (He.ga Γ.K (tx y))) = some (subX x y)
  exi : ∀ x, x ∈ Γ.tb.xs → ExcC Γ.K (He.ga Γ.K (tx x))
  exk : ∀ x y, x ∈ Γ.tb.xs → y ∈ Γ.tb.xs → PySem.W.kitOne Γ.K (.ref (He.ga Γ.K (tx x))) (.ref (He.ga Γ.K (tx y))) = some (subX x y)
  cls : ∀ p, p ∈ Γ.tb.cs → Cls Γ.K (He.ga Γ.K (tx p.1)) ∧ ∀ f, f ∈ p.2 → NoAttr Γ.K (He.ga Γ.K (tx p.1)) (tx f)
  exv : ∀ x, x ∈ Γ.tb.xs → PySem.W.kitOne Γ.K (.ref (He.ga Γ.K (tx x))) (.type "ValueError") = some true
/-- a def's promise -/
def spF (Γ : Ctx) (c : Nat → List D → R D) (f : Nat) (fn : Fn) : Sp := fun vs H Q E => ∃ ds, vs.length = fn.ps ∧ RpL Γ.K Em H ds vs ∧ match c f ds with
  | .ok d => ∀ v H', Same H H' → (∀ Y, ZOk Y H → RpL Γ.K Y H ds vs → Rp Γ.K Y H' d v) → (fn.fr = true → Fr H H' d v) → Q v H'
  | .ex x => ∀ H', Same H H' → E (Γ.cl x) none H'
  | .bad => False
structure Cok (Γ : Ctx) (n : Nat) (c : Nat → List D → R D) : Prop where
  has : ∀ f ds fn, Γ.fnOf f = some fn → fn.store = false → c f ds ≠ .bad → ds.length = fn.ps
  fn : ∀ f fn x, Γ.fnOf f = some fn → Γ.tb.nm f = some x → ∃ fa fd ps, Γ.mg x = some (.ref fa) ∧ PySem.W.keepIn Γ.K (.ref fa) = true ∧ Binds Γ.K fd ps [] ∧
    FnOk Γ.P Γ.w Γ.K Γ.mg Γ.base (L2.CX Γ.P Γ.w) (2 * n) fa fd ps (spF Γ c f fn)

section
variable {Γ : Ctx} {c : Nat → List D → R D} {W : WX} {n : Nat} {N : List Str} {sc : Scope} {X : Cx} {pos : Pos}

theorem x_glo (hf : Fx Γ n N sc X) (G : Gk Γ) {x : Str} {d : D} (hp : Γ.tb.gl.any (fun p => decide (p.1 = x) && D.same p.2 d) = true) (hg : gloB sc x = true) (hd : dbgB x = true) : PE X (.Name x pos) (spE Γ c W (.glo x d)) := by
  obtain ⟨p, hp, hq⟩ := List.any_eq_true.mp hp
  simp only [Bool.and_eq_true, decide_eq_true_eq] at hq
  obtain ⟨e1, e2⟩ := hq
  have e2 := D.same_eq _ _ e2
  obtain ⟨u, v, h1, h2, h3⟩ := G.glo p hp
  rw [e1] at h1
  rw [e2] at h3
  refine PE.mono (pe_glob (glo_of hf hg) (by rw [hf.mg]; exact h1) h2 (dbg_of hd).1) fun σ H Q q => ?_
  obtain ⟨ρ, g, q⟩ := q
  exact q v H (Same.refl H) (fun Y O _ _ => .of0 (h3 Y H)) (fun z => by cases z)

theorem marks_of {o : CmpOp} {e : Expr} (h : ∀ es k p, e ≠ .Set es k p) : behindInMarks o e = false := by
  cases e with
  | Set es k p => exact absurd rfl (h es k p)
  | _ => rfl

/-- a chain's promise -/
theorem chain_core (hf : Fx Γ n N sc X) {o1 o2 : Cm} {a b d : E} {σ : L2.St} {H : Hp} {ρ : Sl} {Q : VK} (g : SlG Γ.K Em [] H σ ρ)
    (hb : evE c (.cmp2 o1 o2 a b d) ρ ≠ .bad)
    (hx : ∀ x, evE c (.cmp2 o1 o2 a b d) ρ = .ex x → ∀ H', Same H H' → W (Γ.cl x) none σ H')
    (hk : ∀ k, evE c (.cmp2 o1 o2 a b d) ρ = .ok (.bl k) → ∀ H', Same H H' → Q (.bl k) H') : tChain (rC X.K (cmpB o1)) (rC X.K (cmpB o2)) (spE Γ c W a) (spE Γ c W b) (spE Γ c W d) σ H Q := by
  refine seq2 (f := fun x y => (cmpB o1 x y).bind fun k => if k then (evE c d ρ).bind fun z => mapR D.bl (cmpB o2 y z) else .ok (.bl false)) g hb hx fun da db ea eb x y H2 s2 g2 ra rb lev => ?_
  have ev : evE c (.cmp2 o1 o2 a b d) ρ = (cmpB o1 da db).bind fun k => if k then (evE c d ρ).bind fun z => mapR D.bl (cmpB o2 db z) else .ok (.bl false) := by
    show ((evE c a ρ).bind fun x => (evE c b ρ).bind fun y => (cmpB o1 x y).bind fun k => if k then (evE c d ρ).bind fun z => mapR D.bl (cmpB o2 y z) else .ok (.bl false)) = _
    rw [ea, eb]; rfl
  rw [ev] at hb hx hk
  cases eo : cmpB o1 da db with
  | ex t => exact absurd eo cmpB_noex
  | bad => rw [eo] at hb; exact (hb rfl).elim
  | ok k =>
    rw [eo, R.ok_bind] at hb hx hk
    refine ⟨da, db, k, by rw [hf.K]; exact ra.relax, by rw [hf.K]; exact rb.relax, eo, k, rfl, ?_⟩
    cases k with
    | false => exact iteF (hk false rfl H2 s2)
    | true =>
      simp only [if_true] at hb hx hk
      refine iteT (spE.mk g2 (fun z => hb (by rw [z]; rfl)) (fun t z H' s' => hx t (by rw [z]; rfl) H' (s2.trans s')) fun dz z w H3 s3 lev3 _ => ?_)
      rw [z, R.ok_bind] at hb hk
      cases e2 : cmpB o2 db dz with
      | ex t => exact absurd e2 cmpB_noex
      | bad => rw [e2] at hb; exact (hb rfl).elim
      | ok k2 =>
        rw [e2] at hk
        exact ⟨db, dz, k2, by rw [hf.K]; exact (rb.same s3).relax, by rw [hf.K]; exact (lev_em g2 lev3).relax, e2, hk k2 rfl H3 (s2.trans s3)⟩
theorem cmp2_bl {o1 o2 : Cm} {a b d : E} {ρ : Sl} {r : D} (h : evE c (.cmp2 o1 o2 a b d) ρ = .ok r) : ∃ k, r = .bl k := by
  obtain ⟨x, _, h⟩ := R.bind_ok (show ((evE c a ρ).bind fun x => (evE c b ρ).bind fun y => (cmpB o1 x y).bind fun k => if k then (evE c d ρ).bind fun z => mapR D.bl (cmpB o2 y z) else .ok (.bl false)) = .ok r from h)
  obtain ⟨y, _, h⟩ := R.bind_ok h
  obtain ⟨k, _, h⟩ := R.bind_ok h
  cases k with
  | false => cases h; exact ⟨false, rfl⟩
  | true =>
    simp only [if_true] at h
    obtain ⟨z, _, h⟩ := R.bind_ok h
    obtain ⟨k, _, rfl⟩ := mapR_ok h
    exact ⟨k, rfl⟩
theorem x_cmp2 (hf : Fx Γ n N sc X) {o1 o2 : Cm} {a b d : E} {l r t : Expr} (ha : PE X l (spE Γ c W a)) (hb : PE X r (spE Γ c W b)) (hd : PE X t (spE Γ c W d)) (hm : lastMarks [cmr o1, cmr o2] [r, t] = false) :
    PE X (.Compare l [cmr o1, cmr o2] [r, t] pos) (spE Γ c W (.cmp2 o1 o2 a b d)) := by
  refine PE.mono (pe_chain (cmp_rule hf.units o1) (cmp_rule hf.units o2) ha hb hd hm) fun σ H Q h => ?_
  obtain ⟨ρ, g, q⟩ := h
  refine chain_core hf g (fun z => by rw [z] at q; exact q) (fun x z => by rw [z] at q; exact q) fun k z H' s' => ?_
  rw [z] at q
  exact q (.bl k) H' s' (fun _ _ _ _ => .of0 rfl) (fun _ => trivial)
theorem xt_cmp2 (hf : Fx Γ n N sc X) {o1 o2 : Cm} {a b d : E} {l r t : Expr} (ha : PE X l (spE Γ c W a)) (hb : PE X r (spE Γ c W b)) (hd : PE X t (spE Γ c W d)) (hm : lastMarks [cmr o1, cmr o2] [r, t] = false) :
    PT X (.Compare l [cmr o1, cmr o2] [r, t] pos) (spT Γ c W (.cmp2 o1 o2 a b d)) := by
  refine PT.mono (pt_chain (cmp_rule hf.units o1) (cmp_rule hf.units o2) ha hb hd hm) fun σ H Q h => ?_
  obtain ⟨ρ, g, q⟩ := h
  refine chain_core hf g (fun z => by rw [z] at q; exact q) (fun x z => by rw [z] at q; exact q) fun k z H' s' => ?_
  rw [z] at q
  exact ⟨k, rfl, q H' s'⟩

/-! ### calls -/
theorem call_core {f : Nat} {fn : Fn} {es : Es} (hfn : Γ.fnOf f = some fn) (hst : fn.store = false) (C : Cok Γ n c) {σ : L2.St} {H : Hp} {Q : VK} (h : spE Γ c W (.call f es) σ H Q) : tCallS (spF Γ c f fn) (WE W) (spA Γ c W es) σ H Q := by
  obtain ⟨ρ, g, q⟩ := h
  have q : match ((evEs c es ρ).bind fun ds => c f ds) with
    | .ok d => ∀ v H', Same H H' → (∀ Y O, ZOk Y H → SlG Γ.K Y O H σ ρ → Lv Γ.K Y (if lvs O es = 0 then 0 else 2) H' d v) → ((match Γ.fnOf f with | some fn => fn.fr | none => false) = true → Fr H H' d v) → Q v H'
    | .ex x => ∀ H', Same H H' → W (Γ.cl x) none σ H'
    | .bad => False := q
  refine spA.mk g (fun z => by rw [z] at q; exact q) (fun x z => by rw [z] at q; exact q) fun ds z vs H1 s1 lev => ?_
  rw [z, R.ok_bind] at q
  have em := levs_em g lev
  cases e : c f ds with
  | bad => rw [e] at q; exact q.elim
  | ok d =>
    rw [e] at q
    have h2 := C.has f ds fn hfn hst (by rw [e]; intro z; cases z)
    refine ⟨ds, by rw [← em.length]; exact h2, em, ?_⟩
    rw [e]
    intro v H' s' hr fr
    refine q v H' (s1.trans s') (fun Y O zy gy => .if2 fun h0 => hr Y (zy.same s1) ((lev Y O zy gy).1 h0)) (fun hh => ?_)
    rw [hfn] at hh
    exact fr_back s1 (fr hh)
  | ex x =>
    rw [e] at q
    have h2 := C.has f ds fn hfn hst (by rw [e]; intro z; cases z)
    refine ⟨ds, by rw [← em.length]; exact h2, em, ?_⟩
    rw [e]
    exact fun H' s' => q H' (s1.trans s')
theorem x_call (hf : Fx Γ n N sc X) (G : Gk Γ) (C : Cok Γ n c) (tk : Takes X W) {f : Nat} {es : Es} {x : Str} {e : Expr} {xs : List Expr} {p : Pos} (hn : Γ.tb.nm f = some x) (hg : gloB sc x = true) (hd : dbgB x = true)
    (ha : PA X (e :: xs) (spA Γ c W es)) (he : starEach (e :: xs) X.env = (false, eval e X.env) :: starEach xs X.env) (hpl : (backTo pos (starEach xs X.env)).any (·.1) = false) :
    PE X (.Call (.Name x p) (e :: xs) [] pos) (spE Γ c W (.call f es)) := by
  obtain ⟨fn, hfn, hst⟩ := G.defs f x hn
  obtain ⟨fa, fd, ps, h1, h2, h3, h4⟩ := C.fn f fn x hfn hn
  have F : FnOk X.prog X.w X.K X.mg X.base (L2.CX X.prog X.w) (2 * n) fa fd ps (spF Γ c f fn) := by rw [hf.prog, hf.w, hf.K, hf.mg, hf.base]; exact h4
  exact PE.mono (pe_callS (E := WE W) F (hf.room.mono (Nat.le_succ _)) (glo_of hf hg) (by rw [hf.mg]; exact h1) (by rw [hf.K]; exact h2) (by rw [hf.K]; exact h3) (fun σ => passAt tk σ) ha (dbg_of hd).1 he hpl) fun σ H Q q => call_core hfn hst C q
theorem x_call0 (hf : Fx Γ n N sc X) (G : Gk Γ) (C : Cok Γ n c) (tk : Takes X W) {f : Nat} {x : Str} {p : Pos} (hn : Γ.tb.nm f = some x) (hg : gloB sc x = true) (hd : dbgB x = true) :
    PE X (.Call (.Name x p) [] [] pos) (spE Γ c W (.call f .nil)) := by
  obtain ⟨fn, hfn, hst⟩ := G.defs f x hn
  obtain ⟨fa, fd, ps, h1, h2, h3, h4⟩ := C.fn f fn x hfn hn
  have F : FnOk X.prog X.w X.K X.mg X.base (L2.CX X.prog X.w) (2 * n) fa fd ps (spF Γ c f fn) := by rw [hf.prog, hf.w, hf.K, hf.mg, hf.base]; exact h4
  refine ⟨fun pins s σ H Q I h => ?_⟩
  have h := call_core hfn hst C h
  obtain ⟨ρ, g, q⟩ := h
  have q := q [] H (Same.refl H) fun Y O _ _ => ⟨fun _ => rfl, fun _ => rfl⟩
  refine wpAny_Call_Name_kw (ld_glob I (glo_of hf hg) (by rw [hf.mg]; exact h1) ?_ (dbg_of hd).1)
  exact PySem.W.callWith_K0 I.kIn (by rw [hf.K]; exact h2) (run_fnS (us := []) (E := WE W) F (hf.room.mono (Nat.le_succ _)) (by rw [hf.K]; exact h3) (passAt tk σ) I .nil q)

/-! ### built-ins -/
theorem prim_core (hf : Fx Γ n N sc X) {p : Pr} {es : Es} (noex : ∀ ds x, prR p ds ≠ .ex x) {σ : L2.St} {H : Hp} {Q : VK} (h : spE Γ c W (.prim p es) σ H Q) : tCB (rP X.K (prR p)) (spA Γ c W es) σ H Q := by
  obtain ⟨ρ, g, q⟩ := h
  have q : match ((evEs c es ρ).bind fun ds => prR p ds) with
    | .ok d => ∀ v H', Same H H' → (∀ Y O, ZOk Y H → SlG Γ.K Y O H σ ρ → Lv Γ.K Y (if lvs O es ≤ 1 then 0 else 2) H' d v) → (true = true → Fr H H' d v) → Q v H'
    | .ex x => ∀ H', Same H H' → W (Γ.cl x) none σ H'
    | .bad => False := q
  refine spA.mk g (fun z => by rw [z] at q; exact q) (fun x z => by rw [z] at q; exact q) fun ds z vs H1 s1 lev => ?_
  rw [z, R.ok_bind] at q
  have em := levs_em g lev
  cases e : prR p ds with
  | bad => rw [e] at q; exact q.elim
  | ex x => exact absurd e (noex ds x)
  | ok d =>
    rw [e] at q
    refine ⟨ds, d, by rw [hf.K]; exact em.args, e, fun v H' s' hr fr => ?_⟩
    rw [hf.K] at hr
    exact q v H' (s1.trans s') (fun Y O zy gy => .if2 fun h1 => hr Y (zy.same s1) ((lev Y O zy gy).2 h1)) (fun _ => fr_back s1 fr)
theorem itemsR_noex {d : D} {x : Tx} : itemsR d ≠ .ex x := by intro h; cases d <;> cases h
theorem ofO_noex {A : Type} {o : Option A} {x : Tx} : ofO o ≠ .ex x := by intro h; cases o <;> cases h
theorem isT_noex {T : String} {d : D} {x : Tx} : isT T d ≠ .ex x := by intro h; cases d <;> cases h
theorem bind_noex {A B : Type} {r : R A} {f : A → R B} {x : Tx} (h1 : ∀ x, r ≠ .ex x) (h2 : ∀ a x, f a ≠ .ex x) : r.bind f ≠ .ex x := fun h => by
  rcases R.bind_ex h with h | ⟨a, _, h⟩
  · exact h1 _ h
  · exact h2 a _ h
theorem dictR_noex {d : D} {x : Tx} : dictR d ≠ .ex x := by
  intro h
  unfold dictR at h
  split at h
  · cases h
  · split at h <;> cases h
  · split at h <;> cases h
  · cases h
theorem zipR_noex {x y : D} {t : Tx} : zipR x y ≠ .ex t := by
  intro h
  unfold zipR at h
  have ni : ∀ d, itemsR d ≠ .ex t := fun d h => by unfold itemsR at h; split at h <;> cases h
  rcases R.bind_ex h with h | ⟨es, _, h⟩
  · exact ni _ h
  · rcases R.bind_ex h with h | ⟨fs, _, h⟩
    · exact ni _ h
    · split at h <;> cases h
theorem prR_noex {p : Pr} {ds : List D} {x : Tx} : prR p ds ≠ .ex x := by
  intro h
  unfold prR at h
  split at h <;> first
    | (cases h; done)
    | exact ofO_noex (mapR_ex h)
    | exact itemsR_noex (mapR_ex h)
    | exact zipR_noex (mapR_ex h)
    | (split at h <;> first | (cases h; done) | (split at h <;> cases h))
    | exact isT_noex (mapR_ex h)
    | exact dictR_noex h
    | exact bind_noex (fun _ => ofO_noex) (fun _ _ => ofO_noex) h
    | exact bind_noex (fun _ => itemsR_noex) (fun _ _ => bind_noex (fun _ => ofO_noex) (fun _ _ z => by split at z <;> cases z)) h
    | (split at h <;> cases h)
theorem mg_free (hf : Fx Γ n N sc X) (G : Gk Γ) {x : Str} (h : x ∈ bnames) : X.mg x = none := by rw [hf.mg]; exact G.free x h
theorem x_prim (hf : Fx Γ n N sc X) (G : Gk Γ) {p : Pr} {a : E} {x : Str} {y : Expr} {q : Pos} (hp : prName p = some x) (hg : gloB sc x = true) (ha : PE X y (spE Γ c W a))
    (st : ∀ es, starEach (y :: es) X.env = (false, eval y X.env) :: starEach es X.env) : PE X (.Call (.Name x q) [y] [] pos) (spE Γ c W (.prim p (.cons a .nil))) := by
  have pa : PA X [y] (spA Γ c W (.cons a .nil)) := a_cons ha a_nil (st [])
  have hgl := glo_of hf hg
  cases p with
  | len =>
    cases hp
    exact PE.mono (pe_callB pr_len hgl (mg_free hf G (by decide)) boot_len pa (he := st []) (hpl := rfl)) fun σ H Q h => prim_core hf (fun _ _ => prR_noex) h
  | all =>
    cases hp
    exact PE.mono (pe_callB (pr_all hf.calm) hgl (mg_free hf G (by decide)) (by decide +kernel) pa (he := st []) (hpl := rfl)) fun σ H Q h => prim_core hf (fun _ _ => prR_noex) h
  | any =>
    cases hp
    exact PE.mono (pe_callB (pr_any hf.calm) hgl (mg_free hf G (by decide)) (by decide +kernel) pa (he := st []) (hpl := rfl)) fun σ H Q h => prim_core hf (fun _ _ => prR_noex) h
  | list =>
    cases hp
    exact PE.mono (pe_callTy (pr_list hf.calm) hgl (mg_free hf G (by decide)) (by decide +kernel) pa (he := st []) (hpl := rfl)) fun σ H Q h => prim_core hf (fun _ _ => prR_noex) h
  | tuple =>
    cases hp
    exact PE.mono (pe_callTy pr_tuple hgl (mg_free hf G (by decide)) (by decide +kernel) pa (he := st []) (hpl := rfl)) fun σ H Q h => prim_core hf (fun _ _ => prR_noex) h
  | ord =>
    cases hp
    exact PE.mono (pe_callB pr_ord hgl (mg_free hf G (by decide)) (by decide +kernel) pa (he := st []) (hpl := rfl)) fun σ H Q h => prim_core hf (fun _ _ => prR_noex) h
  | str =>
    cases hp
    exact PE.mono (pe_callTy pr_str hgl (mg_free hf G (by decide)) (by decide +kernel) pa (he := st []) (hpl := rfl)) fun σ H Q h => prim_core hf (fun _ _ => prR_noex) h
  | sorted =>
    cases hp
    exact PE.mono (pe_callB (pr_sorted hf.calm hf.units) hgl (mg_free hf G (by decide)) (by decide +kernel) pa (he := st []) (hpl := rfl)) fun σ H Q h => prim_core hf (fun _ _ => prR_noex) h
  | dict =>
    cases hp
    exact PE.mono (pe_callTy (pr_dict hf.calm) hgl (mg_free hf G (by decide)) (by decide +kernel) pa (he := st []) (hpl := rfl)) fun σ H Q h => prim_core hf (fun _ _ => prR_noex) h
  | ikeys =>
    cases hp
    exact PE.mono (pe_callTy (pr_ikeys hf.calm) hgl (mg_free hf G (by decide)) (by decide +kernel) pa (he := st []) (hpl := rfl)) fun σ H Q h => prim_core hf (fun _ _ => prR_noex) h
  | sum =>
    cases hp
    exact PE.mono (pe_callB (pr_sum hf.calm) hgl (mg_free hf G (by decide)) (by decide +kernel) pa (he := st []) (hpl := rfl)) fun σ H Q h => prim_core hf (fun _ _ => prR_noex) h
  | max =>
    cases hp
    exact PE.mono (pe_callB (pr_max hf.calm) hgl (mg_free hf G (by decide)) (by decide +kernel) pa (he := st []) (hpl := rfl)) fun σ H Q h => prim_core hf (fun _ _ => prR_noex) h
  | min =>
    cases hp
    exact PE.mono (pe_callB (pr_min hf.calm) hgl (mg_free hf G (by decide)) (by decide +kernel) pa (he := st []) (hpl := rfl)) fun σ H Q h => prim_core hf (fun _ _ => prR_noex) h
  | int =>
    cases hp
    exact PE.mono (pe_callTy pr_int hgl (mg_free hf G (by decide)) (by decide +kernel) pa (he := st []) (hpl := rfl)) fun σ H Q h => prim_core hf (fun _ _ => prR_noex) h
  | _ => cases hp
theorem x_lenset (hf : Fx Γ n N sc X) (G : Gk Γ) {a : E} {y : Expr} {p p2 q : Pos} (hg : gloB sc "len" = true) (hg2 : gloB sc "set" = true) (ha : PE X y (spE Γ c W a))
    (st : ∀ es, starEach (y :: es) X.env = (false, eval y X.env) :: starEach es X.env) : PE X (.Call (.Name "len" p) [.Call (.Name "set" p2) [y] [] q] [] pos) (spE Γ c W (.prim .lenSet (.cons a .nil))) := by
  refine PE.mono (pe_lenset hf.calm (glo_of hf hg) (mg_free hf G (by decide)) (glo_of hf hg2) (mg_free hf G (by decide)) ha st) fun σ H Q h => ?_
  have h := prim_core hf (fun _ _ => prR_noex) h
  obtain ⟨ρ, g, q⟩ := h
  have q : match ((evE c a ρ).bind fun d => (R.ok [] : R (List D)).bind fun ds => R.ok (d :: ds)) with
    | .ok ds => ∀ vs H', Same H H' → (∀ Y O, ZOk Y H → SlG Γ.K Y O H σ ρ → LvL Γ.K Y (max (lv O a) 0) H' ds vs) → rP X.K (prR .lenSet) vs H' Q
    | .ex x => ∀ H', Same H H' → W (Γ.cl x) none σ H'
    | .bad => False := q
  refine spE.mk g (fun z => by rw [z] at q; exact q) (fun x z => by rw [z] at q; exact q) fun d z v H1 s1 lev _ => ?_
  rw [z] at q
  refine q [v] H1 s1 fun Y O zy gy => ?_
  have l := lev Y O zy gy
  exact ⟨fun h0 => ⟨v, [], rfl, l.1 (by omega), rfl⟩, fun h0 => ⟨v, [], rfl, l.2 (by omega), rfl⟩⟩
/-! ### one text for another -/
theorem tx_back (x : Str) : tx x.cps.toList = x := by cases x; rfl

theorem const_more {M : Model} {A : Around} {env : Env} {i : Int} {k : Nat} {p : Pos} {Q : Value → Shared → Prop} {E : Value → Shared → Prop} {s : Shared} (h : wpAny M A (eval (.Constant (.int i) k p) env) Q E s) : wpAny M A (eval (.Constant (.int i) k p) env) (fun v s' => 1 ≤ s'.toks ∧ Q v s') E s :=
  fun Γ' p' hΓ' => ⟨Nat.le_add_left 1 s.toks, h Γ' p' hΓ'⟩
theorem x_repl (hf : Fx Γ n N sc X) {a : E} {b : E} {l : Expr} {i : Int} {j j1 j2 : Nat} {cp sp c1 c2 apos cpos : Pos} {y' z' : Str} (ha : PE X l (spE Γ c W a)) (hb : PE X (.Constant (.int i) j cp) (spE Γ c W b)) (hyz : (y' == z') = false) (hline : (apos.endLine == cpos.line) = true) :
    PE X (.Call (.Attribute (.Subscript l (.Constant (.int i) j cp) sp) "replace" apos) [.Constant (.str y') j1 c1, .Constant (.str z') j2 c2] [] cpos) (spE Γ c W (.repl (.idx a b) y'.cps.toList z'.cps.toList)) := by
  refine ⟨fun pins s σ H Q I h => ?_⟩
  obtain ⟨ρ, g, q⟩ := h
  have q : match ((evE c (.idx a b) ρ).bind (replR y'.cps.toList z'.cps.toList)) with
    | .ok d => ∀ v H', Same H H' → (∀ Y O, ZOk Y H → SlG Γ.K Y O H σ ρ → Lv Γ.K Y 0 H' d v) → (true = true → Fr H H' d v) → Q v H'
    | .ex x => ∀ H', Same H H' → W (Γ.cl x) none σ H'
    | .bad => False := q
  have h1 : spE Γ c W (.idx a b) σ H (fun v H1 => ∃ x : Str, v = .str x ∧ x.length + (x.length + 1) * z'.length ≤ 16777216 ∧ Q (.str (Txt.replace x y' z')) H1) := by
    refine spE.mk g (fun z => by rw [z] at q; exact q) (fun x z => by rw [z] at q; exact q) fun d z v H1 s1 lev _ => ?_
    rw [z, R.ok_bind] at q
    have em := lev_em g lev
    cases d with
    | str t =>
      have q : match (if Nat.ble (t.length + (t.length + 1) * z'.cps.toList.length) LIM && Nat.ble (Txt.replace (tx t) (tx y'.cps.toList) (tx z'.cps.toList)).cps.toList.length LIM then R.ok (D.str (Txt.replace (tx t) (tx y'.cps.toList) (tx z'.cps.toList)).cps.toList) else R.bad) with
        | .ok d => ∀ v H', Same H H' → (∀ Y O, ZOk Y H → SlG Γ.K Y O H σ ρ → Lv Γ.K Y 0 H' d v) → (true = true → Fr H H' d v) → Q v H'
        | .ex x => ∀ H', Same H H' → W (Γ.cl x) none σ H'
        | .bad => False := q
      rw [tx_back, tx_back] at q
      cases hb : (Nat.ble (t.length + (t.length + 1) * z'.cps.toList.length) LIM && Nat.ble (Txt.replace (tx t) y' z').cps.toList.length LIM) with
      | false => rw [hb] at q; exact (show False from q).elim
      | true =>
        rw [hb, if_pos rfl] at q
        rw [Bool.and_eq_true] at hb
        have b1 := Nat.le_of_ble_eq_true hb.1
        have b2 := Nat.le_of_ble_eq_true hb.2
        refine ⟨tx t, em.1, ?_, ?_⟩
        · rw [SX.S_len]
          have : z'.length = z'.cps.toList.length := by rw [Array.length_toList]; rfl
          rw [this]
          exact b1
        · have q := q (.str (tx (Txt.replace (tx t) y' z').cps.toList)) H1 s1 (fun Y O _ _ => .of0 ⟨rfl, by rw [sizeLine_eq]; exact b2⟩) (fun _ => trivial)
          rw [tx_back] at q
          exact q
    | _ => exact (show False from q).elim
  have h2 := idx_core hf h1
  have run : wpAny (model X.prog X.w) X.A (eval (.Subscript l (.Constant (.int i) j cp) sp) X.env) (fun v s' => 1 ≤ s'.toks ∧ EP X pins σ (fun v H1 => ∃ x : Str, v = .str x ∧ x.length + (x.length + 1) * z'.length ≤ 16777216 ∧ Q (.str (Txt.replace x y' z')) H1) v s') X.xe s := by
    refine Subscript_ (thn (ha.run pins s σ H _ I h2) fun v s1 ⟨x, H1, I1, rx, w1⟩ => thn (const_more (hb.run pins s1 σ H1 _ I1 w1)) fun u s2 ⟨ht, y, H2, I2, ry, w2⟩ => ?_)
    exact wpAny_mono (PySem.wpAny_toks (idx_rule hf.units l (.Constant (.int i) j cp) pins s2 σ H2 x y v u _ I2 rx ry w2 rfl)) (fun _ _ z => ⟨Nat.le_trans ht z.1, z.2⟩) fun _ _ z => z.2
  refine PySem.Call_method2 rfl rfl hline (wpAny_mono run (fun v s1 w => ?_) fun _ _ z => z)
  obtain ⟨ht, v', H1, I1, r1, x, e1, hx, w⟩ := w
  subst e1
  obtain ⟨tk, e2⟩ := r1
  subst e2
  refine ⟨"str", _, PySem.F.plainAttrs_str, PySem.F.slot_str_replace, PySem.F.type_str_replace, typeIs_str _ _ _, (fun _ e => nomatch e), Calls.callWith_builtin rfl (Calls.evalArgs_plain (Calls.spliced_cons ?_))⟩
  refine Calls.Constant_str (Calls.spliced_cons (Calls.Constant_str (Calls.spliced_nil ?_)))
  refine PySem.SC.replace ?_ ?_ ?_ hyz hx fun t' k => ⟨.str (Txt.replace x y' z'), H1, I1.tok k, ⟨t', rfl⟩, w⟩
  · show s1.toks ≠ 0
    omega
  · show s1.toks + 1 ≠ 0
    omega
  · show s1.toks ≠ s1.toks + 1
    omega
/-! ### f-texts -/
/-- the promise of a part -/
def spFm (Γ : Ctx) (c : Nat → List D → R D) (W : WX) (e : E) : TE := fun σ H Q => ∃ ρ, SlG Γ.K Em [] H σ ρ ∧ match (evE c e ρ).bind fmtR with
  | .ok t => ∀ H', Same H H' → Q (.str (tx t)) H'
  | .ex x => ∀ H', Same H H' → W (Γ.cl x) none σ H'
  | .bad => False
theorem log_ok {i : Int} (h0 : 0 ≤ i) (h1 : i.toNat < 10000000000) : i.natAbs.log2 < 1920 := by
  have hn : i.natAbs < 2 ^ 64 := by omega
  by_cases h0 : i.natAbs = 0
  · rw [h0]; decide
  · have := (Nat.log2_lt h0).mpr hn
    omega
theorem fm_part {e : E} {y : Expr} (he : PE X y (spE Γ c W e)) : PE X (.FormattedValue y (-1) none pos) (spFm Γ c W e) := by
  refine PE.mono (pe_fmt he) fun σ H Q h => ?_
  obtain ⟨ρ, g, q⟩ := h
  refine spE.mk g (fun z => by rw [z] at q; exact q) (fun x z => by rw [z] at q; exact q) fun d z v H1 s1 lev _ => ?_
  rw [z, R.ok_bind] at q
  have em := lev_em g lev
  cases d with
  | str s => exact .inl ⟨tx s, em.1, by rw [SX.S_len]; exact em.2, q H1 s1⟩
  | int i =>
    have q : match (if decide (0 ≤ i) && Nat.blt i.toNat 10000000000 then R.ok (PySem.Str.ofString (toString i)).cps.toList else R.bad) with
      | .ok t => ∀ H', Same H H' → Q (.str (tx t)) H'
      | .ex x => ∀ H', Same H H' → W (Γ.cl x) none σ H'
      | .bad => False := q
    split at q
    · rename_i t heq
      split at heq
      · rename_i hs
        cases heq
        simp only [Bool.and_eq_true, decide_eq_true_eq, Nat.blt_eq] at hs
        have q := q H1 s1
        rw [tx_back] at q
        exact .inr ⟨i, em, log_ok hs.1 hs.2, q⟩
      · cases heq
    · rename_i heq
      split at heq <;> cases heq
    · exact q.elim
  | _ => exact (show False from q).elim
theorem fm_cst {s : Tx} {y : Expr} (he : PE X y (spE Γ c W (.lit (.str s)))) : PE X y (spFm Γ c W (.lit (.str s))) := by
  refine PE.mono he fun σ H Q h => ?_
  obtain ⟨ρ, g, q⟩ := h
  refine ⟨ρ, g, fun v H' s1 lev _ => ?_⟩
  have em : Rp Γ.K Em H' (.str s) v := lev_em g lev
  rw [em.1]
  exact q H' s1
/-- the parts of a text and their promises -/
inductive FJ (Γ : Ctx) (c : Nat → List D → R D) (W : WX) : Es → List TE → Prop where
  | nil : FJ Γ c W .nil []
  | cons {e : E} {es : Es} {ts : List TE} (r : FJ Γ c W es ts) : FJ Γ c W (.cons e es) (spFm Γ c W e :: ts)
theorem fstr_core {es : Es} {ts : List TE} (j : FJ Γ c W es ts) : ∀ {acc : Tx} {σ : L2.St} {H : Hp} {ρ : Sl} {Q : Str → Hp → Prop}, SlG Γ.K Em [] H σ ρ → acc.length ≤ sizeLine → (match evF c es acc ρ with
    | .ok t => ∀ H', Same H H' → t.length ≤ sizeLine → Q (tx t) H'
    | .ex x => ∀ H', Same H H' → W (Γ.cl x) none σ H'
    | .bad => False) → tJs ts (tx acc) σ H Q := by
  induction j with
  | nil => exact fun g hz q => q _ (Same.refl _) hz
  | @cons e es ts r ih =>
    intro acc σ H ρ Q g hz q
    refine ⟨ρ, g, ?_⟩
    have q : match ((evE c e ρ).bind fun d => (fmtR d).bind fun t => if Nat.ble (acc.length + t.length) LIM then evF c es (acc ++ t) ρ else .bad) with
      | .ok t => ∀ H', Same H H' → t.length ≤ sizeLine → Q (tx t) H'
      | .ex x => ∀ H', Same H H' → W (Γ.cl x) none σ H'
      | .bad => False := q
    cases e1 : evE c e ρ with
    | bad => rw [e1] at q; exact q
    | ex x => rw [e1] at q; exact q
    | ok d =>
      rw [e1, R.ok_bind] at q
      rw [R.ok_bind]
      cases e2 : fmtR d with
      | bad => rw [e2] at q; exact q
      | ex x => rw [e2] at q; exact q
      | ok t =>
        rw [e2, R.ok_bind] at q
        intro H' s1
        cases hl : Nat.ble (acc.length + t.length) LIM with
        | false => rw [hl] at q; exact (show False from q).elim
        | true =>
          rw [hl, if_pos rfl] at q
          have hl : acc.length + t.length ≤ sizeLine := by rw [sizeLine_eq]; exact Nat.le_of_ble_eq_true hl
          have ea : tx acc ++ tx t = tx (acc ++ t) := SX.S_cat acc t
          refine ⟨tx t, rfl, ?_, ?_⟩
          · rw [ea, SX.S_len, List.length_append]; exact hl
          · rw [ea]
            refine ih (g.same s1) (by rw [List.length_append]; exact hl) ?_
            cases e3 : evF c es (acc ++ t) ρ with
            | bad => rw [e3] at q; exact q
            | ex x => rw [e3] at q; exact fun H2 s2 => q H2 (s1.trans s2)
            | ok u => rw [e3] at q; exact fun H2 s2 => q H2 (s1.trans s2)
theorem x_fstr {es : Es} {v1 v2 : Expr} {vs : List Expr} {ts : List TE} (pj : PJ X (v1 :: v2 :: vs) ts) (j : FJ Γ c W es ts) : PE X (.JoinedStr (v1 :: v2 :: vs) pos) (spE Γ c W (.fstr es)) := by
  refine PE.mono (pe_joined pj) fun σ H Q h => ?_
  obtain ⟨ρ, g, q⟩ := h
  refine fstr_core (acc := []) j g (Nat.zero_le _) ?_
  have q : match mapR D.str (evF c es [] ρ) with
    | .ok d => ∀ v H', Same H H' → (∀ Y O, ZOk Y H → SlG Γ.K Y O H σ ρ → Lv Γ.K Y 0 H' d v) → (true = true → Fr H H' d v) → Q v H'
    | .ex x => ∀ H', Same H H' → W (Γ.cl x) none σ H'
    | .bad => False := q
  cases e : evF c es [] ρ with
  | bad => rw [e] at q; exact q
  | ex x => rw [e] at q; exact q
  | ok t => rw [e] at q; exact fun H' s1 hz => q _ H' s1 (fun Y O _ _ => .of0 ⟨rfl, hz⟩) (fun _ => trivial)
theorem x_sset (hf : Fx Γ n N sc X) (G : Gk Γ) {a : E} {y : Expr} {p p2 q : Pos} (hg : gloB sc "sorted" = true) (hg2 : gloB sc "set" = true) (ha : PE X y (spE Γ c W a))
    (st : ∀ es, starEach (y :: es) X.env = (false, eval y X.env) :: starEach es X.env) : PE X (.Call (.Name "sorted" p) [.Call (.Name "set" p2) [y] [] q] [] pos) (spE Γ c W (.prim .sortedSet (.cons a .nil))) := by
  refine PE.mono (pe_sset hf.calm (glo_of hf hg) (mg_free hf G (by decide)) (glo_of hf hg2) (mg_free hf G (by decide)) ha st) fun σ H Q h => ?_
  have h := prim_core hf (fun _ _ => prR_noex) h
  obtain ⟨ρ, g, q⟩ := h
  have q : match ((evE c a ρ).bind fun d => (R.ok [] : R (List D)).bind fun ds => R.ok (d :: ds)) with
    | .ok ds => ∀ vs H', Same H H' → (∀ Y O, ZOk Y H → SlG Γ.K Y O H σ ρ → LvL Γ.K Y (max (lv O a) 0) H' ds vs) → rP X.K (prR .sortedSet) vs H' Q
    | .ex x => ∀ H', Same H H' → W (Γ.cl x) none σ H'
    | .bad => False := q
  refine spE.mk g (fun z => by rw [z] at q; exact q) (fun x z => by rw [z] at q; exact q) fun d z v H1 s1 lev _ => ?_
  rw [z] at q
  refine q [v] H1 s1 fun Y O zy gy => ?_
  have l := lev Y O zy gy
  exact ⟨fun h0 => ⟨v, [], rfl, l.1 (by omega), rfl⟩, fun h0 => ⟨v, [], rfl, l.2 (by omega), rfl⟩⟩
theorem x_sitems (hf : Fx Γ n N sc X) (G : Gk Γ) {a : E} {y : Expr} {p apos cpos : Pos} (hg : gloB sc "sorted" = true) (ha : PE X y (spE Γ c W a))
    (hbase : attributeBase y "items" X.env (eval y X.env) = eval y X.env) (hline : (apos.endLine == cpos.line) = true) : PE X (.Call (.Name "sorted" p) [.Call (.Attribute y "items" apos) [] [] cpos] [] pos) (spE Γ c W (.prim .sortedItems (.cons a .nil))) := by
  refine PE.mono (pe_sitems hf.calm hf.units (glo_of hf hg) (mg_free hf G (by decide)) ha hbase hline) fun σ H Q h => ?_
  have h := prim_core hf (fun _ _ => prR_noex) h
  obtain ⟨ρ, g, q⟩ := h
  have q : match ((evE c a ρ).bind fun d => (R.ok [] : R (List D)).bind fun ds => R.ok (d :: ds)) with
    | .ok ds => ∀ vs H', Same H H' → (∀ Y O, ZOk Y H → SlG Γ.K Y O H σ ρ → LvL Γ.K Y (max (lv O a) 0) H' ds vs) → rP X.K (prR .sortedItems) vs H' Q
    | .ex x => ∀ H', Same H H' → W (Γ.cl x) none σ H'
    | .bad => False := q
  refine spE.mk g (fun z => by rw [z] at q; exact q) (fun x z => by rw [z] at q; exact q) fun d z v H1 s1 lev _ => ?_
  rw [z] at q
  refine q [v] H1 s1 fun Y O zy gy => ?_
  have l := lev Y O zy gy
  exact ⟨fun h0 => ⟨v, [], rfl, l.1 (by omega), rfl⟩, fun h0 => ⟨v, [], rfl, l.2 (by omega), rfl⟩⟩
theorem x_rangeL (hf : Fx Γ n N sc X) (G : Gk Γ) {a : E} {y : Expr} {p p2 q : Pos} (hg : gloB sc "list" = true) (hg2 : gloB sc "range" = true) (ha : PE X y (spE Γ c W a))
    (st : ∀ es, starEach (y :: es) X.env = (false, eval y X.env) :: starEach es X.env) : PE X (.Call (.Name "list" p) [.Call (.Name "range" p2) [y] [] q] [] pos) (spE Γ c W (.prim .rangeL (.cons a .nil))) := by
  refine PE.mono (pe_listRg hf.calm (glo_of hf hg) (mg_free hf G (by decide)) (prg_1 (glo_of hf hg2) (mg_free hf G (by decide)) ha (st []))) fun σ H Q h => ?_
  obtain ⟨ρ, g, q⟩ := h
  have q : match ((evEs c (.cons a .nil) ρ).bind fun ds => prR .rangeL ds) with
    | .ok d => ∀ v H', Same H H' → (∀ Y O, ZOk Y H → SlG Γ.K Y O H σ ρ → Lv Γ.K Y (lv O (.prim .rangeL (.cons a .nil))) H' d v) → (true = true → Fr H H' d v) → Q v H'
    | .ex x => ∀ H', Same H H' → W (Γ.cl x) none σ H'
    | .bad => False := q
  have ev : evEs c (.cons a .nil) ρ = (evE c a ρ).bind fun x => .ok [x] := by
    show ((evE c a ρ).bind fun d => (R.ok [] : R (List D)).bind fun ds => R.ok (d :: ds)) = _
    cases evE c a ρ <;> rfl
  rw [ev] at q
  refine spE.mk g (fun z => by rw [z] at q; exact q) (fun x z => by rw [z] at q; exact q) fun d z v H1 s1 lev _ => ?_
  rw [z] at q
  cases d with
  | int i =>
    have q : match (if decide (i ≤ 16777216) && decide (-16777216 ≤ i) then R.ok (D.lst ((List.range i.toNat).map fun (k : Nat) => .int (k : Int))) else .bad) with
      | .ok d => ∀ v H', Same H H' → (∀ Y O, ZOk Y H → SlG Γ.K Y O H σ ρ → Lv Γ.K Y (lv O (.prim .rangeL (.cons a .nil))) H' d v) → (true = true → Fr H H' d v) → Q v H'
      | .ex x => ∀ H', Same H H' → W (Γ.cl x) none σ H'
      | .bad => False := q
    split at q
    · rename_i dd hc
      split at hc
      · rename_i hi
        cases hc
        simp only [Bool.and_eq_true, decide_eq_true_eq] at hi
        refine ⟨i, lev_em g lev, ⟨by omega, by omega, by omega, by omega, by omega⟩, fun p hp => ?_⟩
        have rp : ∀ Y, RpL Γ.K Y H1 ((List.range i.toNat).map fun (k : Nat) => D.int (k : Int)) (rgV 0 i) := fun Y => by
          unfold rgV
          rw [Int.sub_zero]
          generalize List.range i.toNat = ks
          induction ks with
          | nil => rfl
          | cons k ks ih => exact ⟨_, _, rfl, by show V.int (0 + (k : Int)) = .int (k : Int); rw [Int.zero_add], ih⟩
        refine q _ _ (s1.trans (same_upd hp)) (fun Y O zy _ => ?_) fun _ => ⟨p, _, rfl, ?_, upd_same⟩
        · have r0 := Rp.new_lst (Z := Y) hp ((zy.same s1).not_none hp) (rp Y)
          exact ⟨fun _ => r0, fun _ => r0.relax⟩
        · cases e : H p with
          | none => rfl
          | some u => rw [s1 _ _ e] at hp; cases hp
      · cases hc
    · rename_i hc
      split at hc <;> cases hc
    · exact q.elim
  | _ => exact (show False from q).elim
/-! ### methods -/
theorem mtR_noex {m : Mt} {d : D} {ds : List D} {x : Tx} : mtR m d ds ≠ .ex x := by
  intro h
  unfold mtR at h
  split at h
  · unfold joinR at h
    rcases R.bind_ex h with h | ⟨b, _, h⟩
    · exact ofO_noex h
    · split at h <;> cases h
  · unfold joinR at h
    rcases R.bind_ex h with h | ⟨b, _, h⟩
    · exact ofO_noex h
    · split at h <;> cases h
  · split at h <;> cases h
  · split at h <;> cases h
  · cases h
  · cases h
/-- what a method makes leans on nothing that can change -/
theorem meth_core (hf : Fx Γ n N sc X) {m : Mt} {o : E} {es : Es} {σ : L2.St} {H : Hp} {Q : VK} (h : spE Γ c W (.meth m o es) σ H Q) :
    tBM X.K "str" (rM X.K m) (spE Γ c W o) (spA Γ c W es) σ H Q := by
  obtain ⟨ρ, g, q⟩ := h
  have q : match ((evE c o ρ).bind fun x => if okRecv m x then (evEs c es ρ).bind fun ds => mtR m x ds else .bad) with
    | .ok d => ∀ v H', Same H H' → (∀ Y O, ZOk Y H → SlG Γ.K Y O H σ ρ → Lv Γ.K Y (lv O (.meth m o es)) H' d v) → (true = true → Fr H H' d v) → Q v H'
    | .ex x => ∀ H', Same H H' → W (Γ.cl x) none σ H'
    | .bad => False := q
  refine spE.mk g (fun z => by rw [z] at q; exact q) (fun x z => by rw [z] at q; exact q) fun d z v H1 s1 lev _ => ?_
  rw [z, R.ok_bind] at q
  have ho := lev_em g lev
  cases d with
  | str t =>
    have q : match ((evEs c es ρ).bind fun ds => mtR m (.str t) ds) with
      | .ok d => ∀ v H', Same H H' → (∀ Y O, ZOk Y H → SlG Γ.K Y O H σ ρ → Lv Γ.K Y (lv O (.meth m o es)) H' d v) → (true = true → Fr H H' d v) → Q v H'
      | .ex x => ∀ H', Same H H' → W (Γ.cl x) none σ H'
      | .bad => False := q
    have hv : v = .str (tx t) := ho.1
    refine ⟨by rw [hv]; rfl, ?_⟩
    refine spA.mk (g.same s1) (fun z => by rw [z] at q; exact q) (fun x z => by rw [z] at q; exact fun H' s' => q H' (s1.trans s')) fun ds z2 vs H2 s2 lev2 => ?_
    rw [z2, R.ok_bind] at q
    have em := levs_em (g.same s1) lev2
    cases e : mtR m (.str t) ds with
    | bad => rw [e] at q; exact q.elim
    | ex x => exact absurd e mtR_noex
    | ok d =>
      rw [e] at q
      have ho2 : Rp Γ.K Em H2 (.str t) v := ho
      refine ⟨.str t, ds, d, by rw [hf.K]; exact ho2.relax, by rw [hf.K]; exact em.args, e, fun w H' s' hr fr => ?_⟩
      rw [hf.K] at hr
      exact q w H' ((s1.trans s2).trans s') (fun Y O zy gy => .of0 (hr Y ((zy.same s1).same s2))) (fun _ => fr_back (s1.trans s2) fr)
  | _ => exact (show False from q).elim
theorem mt_facts (m : Mt) : PlainAttrs "str" ∧ Slot "str" (mtName m) (mtId m) ∧ typeOf (.builtin (mtId m)) = pure (.type "method_descriptor") := by
  cases m with
  | join => exact ⟨PySem.F.plainAttrs_str, PySem.F.slot_str_join, PySem.F.type_str_join⟩
  | upper => exact ⟨PySem.F.plainAttrs_str, PySem.F.slot_str_upper, PySem.F.type_str_upper⟩
  | lower => exact ⟨PySem.F.plainAttrs_str, PySem.F.slot_str_lower, PySem.F.type_str_lower⟩
  | count => exact ⟨PySem.F.plainAttrs_str, PySem.F.slot_str_count, PySem.F.type_str_count⟩
theorem x_meth (hf : Fx Γ n N sc X) {m : Mt} {o : E} {es : Es} {x y : Expr} {ys : List Expr} {apos cpos : Pos} (ho : PE X x (spE Γ c W o)) (ha : PA X (y :: ys) (spA Γ c W es)) (hbase : attributeBase x (mtName m) X.env (eval x X.env) = eval x X.env)
    (hfew : ((backTo cpos (starEach (y :: ys) X.env)).all (fun x => !x.1) && (backToKw cpos (keywordEach [] X.env)).all (fun x => x.1.isSome)
      && decide ((y :: ys).length + ([] : List Keyword).length + (if ([] : List Keyword).isEmpty then 0 else 1) < 30)) = true)
    (hline : (apos.endLine == cpos.line) = true) (hs : starEach (y :: ys) X.env = (false, eval y X.env) :: starEach ys X.env) (hp : (backTo cpos (starEach ys X.env)).any (·.1) = false) :
    PE X (.Call (.Attribute x (mtName m) apos) (y :: ys) [] cpos) (spE Γ c W (.meth m o es)) := by
  obtain ⟨f1, f2, f3⟩ := mt_facts m
  exact PE.mono (pe_bm f1 f2 f3 (mt_rule m) ho ha hbase hfew hline hs hp) fun σ H Q h => meth_core hf h
theorem x_meth0 (hf : Fx Γ n N sc X) {m : Mt} {o : E} {x : Expr} {apos cpos : Pos} (ho : PE X x (spE Γ c W o)) (hbase : attributeBase x (mtName m) X.env (eval x X.env) = eval x X.env) (hline : (apos.endLine == cpos.line) = true) :
    PE X (.Call (.Attribute x (mtName m) apos) [] [] cpos) (spE Γ c W (.meth m o .nil)) := by
  obtain ⟨f1, f2, f3⟩ := mt_facts m
  refine PE.mono (pe_bm0 f1 f2 f3 (mt_rule m) ho hbase hline) fun σ H Q h => ?_
  obtain ⟨ρ, g, q⟩ := meth_core hf h
  refine ⟨ρ, g, ?_⟩
  cases e : evE c o ρ with
  | bad => rw [e] at q; exact q
  | ex x => rw [e] at q; exact q
  | ok d =>
    rw [e] at q
    intro v H' s1 lev fr
    obtain ⟨q1, ρ2, g2, q2⟩ := q v H' s1 lev fr
    exact ⟨q1, q2 [] H' (Same.refl H') fun Y O _ _ => ⟨fun _ => rfl, fun _ => rfl⟩⟩
theorem boot_ty {T : String} (h : T ∈ tyNames) : bootBuiltins (Str.ofString T) = some (.type T) ∧ Str.ofString T ∈ bnames ∧ Str.ofString T ≠ "__name__" ∧ ((Str.ofString T) == ("__debug__" : Str)) = false := by
  simp [tyNames] at h
  rcases h with rfl | rfl | rfl | rfl | rfl <;> exact ⟨by decide +kernel, by decide +kernel, by decide +kernel, by decide +kernel⟩
theorem x_isinst (hf : Fx Γ n N sc X) (G : Gk Γ) {T : String} (hT : T ∈ tyNames) {a : E} {y : Expr} {p p2 : Pos} (hg : gloB sc "isinstance" = true) (hg2 : gloB sc (Str.ofString T) = true) (ha : PE X y (spE Γ c W a))
    (st : ∀ es, starEach (y :: es) X.env = (false, eval y X.env) :: starEach es X.env) : PE X (.Call (.Name "isinstance" p) [y, .Name (Str.ofString T) p2] [] pos) (spE Γ c W (.prim (.isinst T) (.cons a .nil))) := by
  obtain ⟨b1, b2, b3, b4⟩ := boot_ty hT
  have pt : PE X (.Name (Str.ofString T) p2) (tC (.ty T)) := pe_bltn (glo_of hf hg2) (mg_free hf G b2) b1 rfl b3 b4
  refine PE.mono (pe_callB (pr_isinst hT) (glo_of hf hg) (mg_free hf G (by decide)) (by decide +kernel) (pa_cons ha (pa_cons pt pa_nil rfl) (st _)) (he := st _) (hpl := rfl)) fun σ H Q h => ?_
  obtain ⟨ρ, g, q⟩ := h
  have q : match ((evE c a ρ).bind fun d => (R.ok [] : R (List D)).bind fun ds => R.ok (d :: ds)).bind fun ds => prR (.isinst T) ds with
    | .ok d => ∀ v H', Same H H' → (∀ Y O, ZOk Y H → SlG Γ.K Y O H σ ρ → Lv Γ.K Y (if max (lv O a) 0 ≤ 1 then 0 else 2) H' d v) → (true = true → Fr H H' d v) → Q v H'
    | .ex x => ∀ H', Same H H' → W (Γ.cl x) none σ H'
    | .bad => False := q
  refine spE.mk g (fun z => by rw [z] at q; exact q) (fun x z => by rw [z] at q; exact q) fun d z v H1 s1 lev _ => ?_
  rw [z] at q
  have q : match mapR D.bl (isT T d) with
    | .ok d => ∀ v H', Same H H' → (∀ Y O, ZOk Y H → SlG Γ.K Y O H σ ρ → Lv Γ.K Y (if max (lv O a) 0 ≤ 1 then 0 else 2) H' d v) → (true = true → Fr H H' d v) → Q v H'
    | .ex x => ∀ H', Same H H' → W (Γ.cl x) none σ H'
    | .bad => False := q
  cases e : isT T d with
  | ex x => exact absurd e isT_noex
  | bad => rw [e] at q; exact (show False from q).elim
  | ok k =>
    rw [e] at q
    exact ⟨d, v, k, rfl, by rw [hf.K]; exact (lev_em g lev).relax, e, q _ H1 s1 (fun _ _ _ _ => .of0 rfl) (fun _ => trivial)⟩
end
end Pw

/-! text PwX4 -/
/-! targets, what is walked, comprehensions -/
namespace Pw
open PySem PySem.Spec PyProof.Rows L2

/-! ### targets -/
def gSet : List Nat → TGs
  | [] => gNil
  | i :: is => gCons (gName i) (gSet is)
def gTg (K : PySem.W.Frag) : Tg → TG
  | .nm i => gName i
  | .tp is => gTup K is.length (gSet is)
def setVs : List Nat → List V → L2.St → L2.St
  | i :: is, v :: vs, σ => setVs is vs (σ.set i (some v))
  | _, _, σ => σ
theorem gSet_ok {H : Hp} {Q : L2.St → Hp → Prop} : ∀ (is : List Nat) (xs : List V) (σ : L2.St), xs.length = is.length → Q (setVs is xs σ) H → gSet is xs σ H Q
  | [], [], σ, _, q => ⟨rfl, q⟩
  | [], _ :: _, _, h, _ => by simp at h
  | _ :: _, [], _, h, _ => by simp at h
  | i :: is, v :: vs, σ, h, q => ⟨v, vs, rfl, gSet_ok is vs _ (by simpa using h) q⟩
theorem setVs_length : ∀ (is : List Nat) (xs : List V) (σ : L2.St), (setVs is xs σ).length = σ.length
  | [], _, _ => by unfold setVs; rfl
  | _ :: _, [], _ => by unfold setVs; rfl
  | i :: is, v :: vs, σ => by unfold setVs; rw [setVs_length is vs, List.length_set]
theorem setVs_out : ∀ (is : List Nat) (xs : List V) (σ : L2.St) (j : Nat), j ∉ is → (setVs is xs σ)[j]? = σ[j]?
  | [], _, _, _, _ => by unfold setVs; rfl
  | _ :: _, [], _, _, _ => by unfold setVs; rfl
  | i :: is, v :: vs, σ, j, h => by
    unfold setVs
    rw [setVs_out is vs _ j (fun z => h (List.mem_cons_of_mem _ z)), List.getElem?_set_ne (fun z => h (by simp [z]))]
theorem wipe_in {σ : L2.St} {i : Nat} : ∀ {vs : List Nat}, i ∈ vs → i < σ.length → (wipe σ vs)[i]? = some none
  | v :: vs, h, hl => by
    unfold wipe
    by_cases e : v = i
    · subst e
      rw [List.getElem?_set_self (by rw [wipe_length]; exact hl)]
    · rw [List.getElem?_set_ne e]
      exact wipe_in (by simpa [Ne.symm e] using h) hl
theorem wipe_eq {σ τ : L2.St} {is : List Nat} (hl : σ.length = τ.length) (h : ∀ j, j ∉ is → σ[j]? = τ[j]?) : wipe σ is = wipe τ is := by
  apply List.ext_getElem?
  intro j
  by_cases hj : j ∈ is
  · by_cases hlt : j < σ.length
    · rw [wipe_in hj hlt, wipe_in hj (by omega)]
    · rw [List.getElem?_eq_none (by rw [wipe_length]; omega), List.getElem?_eq_none (by rw [wipe_length]; omega)]
  · rw [wipe_out hj, wipe_out hj, h j hj]

section
variable {K : PySem.W.Frag} {Y : Addr → Prop} {O : List Nat} {H : Hp}
theorem SlX.step {ex : List Nat} {σ : L2.St} {ρ : Sl} {i : Nat} {d : D} {v : V} (h : SlX K Y O (i :: ex) H σ ρ) (r : Rp K Y H d v) : SlX K Y (O.filter fun j => !decide (j = i)) ex H (σ.set i (some v)) (ρ.set i (some d)) := by
  refine ⟨by rw [List.length_set, List.length_set]; exact h.1, fun j d' hj e => ?_⟩
  by_cases hji : i = j
  · subst hji
    by_cases hl : i < ρ.length
    · rw [List.getElem?_set_self hl] at e
      cases e
      exact ⟨v, by rw [List.getElem?_set_self (by rw [← h.1]; exact hl)], r.relax, fun _ => r⟩
    · rw [List.getElem?_eq_none (by rw [List.length_set]; omega)] at e
      cases e
  · rw [List.getElem?_set_ne hji] at e
    obtain ⟨u, a, b, g⟩ := h.2 j d' (by simp [hj, Ne.symm hji]) e
    refine ⟨u, by rw [List.getElem?_set_ne hji]; exact a, b, fun z => g fun q => z ?_⟩
    exact List.mem_filter.mpr ⟨q, by simp [Ne.symm hji]⟩
theorem SlX.anyO {ex O' : List Nat} {σ : L2.St} {ρ : Sl} (h : SlX K Y O ex H σ ρ) (w : ∀ i, i ∈ O → i ∈ O') : SlX K Y O' ex H σ ρ :=
  ⟨h.1, fun i d z e => let ⟨v, a, b, g⟩ := h.2 i d z e; ⟨v, a, b, fun q => g fun p => q (w i p)⟩⟩
theorem SlX.steps : ∀ {is : List Nat} {ds : List D} {xs : List V} {O : List Nat} {σ : L2.St} {ρ ρ' : Sl}, SlX K Y O is H σ ρ → RpL K Y H ds xs → setAll is ds ρ = some ρ' → SlX K Y (O.filter fun j => !is.contains j) [] H (setVs is xs σ) ρ'
  | [], [], xs, O, σ, ρ, ρ', h, r, e => by
    cases e
    have r : xs = [] := r
    subst r
    unfold setVs
    exact h.anyO fun i hi => by simpa using hi
  | [], _ :: _, _, _, _, _, _, _, _, e => by cases e
  | _ :: _, [], _, _, _, _, _, _, _, e => by cases e
  | i :: is, d :: ds, xs, O, σ, ρ, ρ', h, r, e => by
    obtain ⟨v, vs, rfl, r1, r2⟩ := r
    unfold setVs
    have q := SlX.steps (h.step r1) r2 e
    exact q.anyO fun j hj => by
      simp only [List.mem_filter, List.contains_cons, Bool.not_or, Bool.and_eq_true, Bool.not_eq_true', decide_eq_false_iff_not, beq_eq_false_iff_ne] at hj ⊢
      exact ⟨hj.1.1, hj.1.2, hj.2⟩
end

/-- one tuple stands at an address -/
def InjT (K : PySem.W.Frag) (H : Hp) : Prop := ∀ a xs ys, SqT K H a xs → SqT K H a ys → xs = ys
/-- what is always so of a heap -/
structure HG (K : PySem.W.Frag) (H : Hp) : Prop where
  inj : InjT K H
  lst : ∀ a xs, Rd H a (.lst xs) → xs.length ≤ sizeLine
  tup : ∀ a xs, SqT K H a xs → xs.length ≤ sizeLine
  lt : ∀ a xs ys, Rd H a (.lst xs) → SqT K H a ys → False
  dt : ∀ a kvs ys, Rd H a (.dK kvs) → SqT K H a ys → False
  xt : ∀ a c ys, H a = some (exO K c a) → SqT K H a ys → False
  it : ∀ a C dx fs ys, H a = some (.ins C dx fs) → SqT K H a ys → False
theorem Inv.hg {X : Cx} {pins : List (Addr × Obj)} {σ : L2.St} {H : Hp} {s : Shared} (I : Inv X pins σ H s) : HG X.K H :=
  ⟨fun a xs ys h1 h2 => I.tuple_inj h1 h2, fun a xs h => let ⟨_, _, _, z⟩ := I.list (.inl h); z, fun a xs h => let ⟨_, _, _, z⟩ := I.tuple h; z, fun a xs ys h1 h2 => by
    obtain ⟨its, _, ⟨o, n, ho, hc, _, _⟩, _⟩ := I.list (.inl h1)
    obtain ⟨its', _, ⟨o', ho', hc', _⟩, _⟩ := I.tuple h2
    rw [ho] at ho'; cases ho'
    rw [hc] at hc'
    exact absurd hc' (by decide), fun a kvs ys h1 h2 => by
    obtain ⟨_, _, vs, _, o, es, ep, ho, hc, _⟩ := h1.ok I.hok
    obtain ⟨its', _, ⟨o', ho', hc', _⟩, _⟩ := I.tuple h2
    rw [ho] at ho'; cases ho'
    have hc := hc.1
    rw [hc] at hc'
    exact absurd hc' (by decide), fun a c ys h1 h2 => by
    obtain ⟨⟨o, vs, ho, hc, _⟩, _⟩ := I.hok a _ h1
    obtain ⟨its', _, ⟨o', ho', hc', _⟩, _⟩ := I.tuple h2
    rw [ho] at ho'; cases ho'
    rw [hc] at hc'
    exact absurd hc' (by intro z; cases z), fun a C dx fs ys h1 h2 => by
    obtain ⟨_, _, _, ho, _⟩ := I.hok a _ h1
    obtain ⟨its', _, ⟨o', ho', hc', _⟩, _⟩ := I.tuple h2
    rw [ho] at ho'; cases ho'
    cases hc'⟩
theorem PE.inj {X : Cx} {e : Expr} {t : TE} (h : PE X e t) : PE X e (fun σ H Q => t σ H fun v H1 => HG X.K H1 → Q v H1) :=
  ⟨fun pins s σ H Q I q => thn (h.run pins s σ H _ I q) fun u s1 ⟨v, H1, I1, r, q1⟩ => ⟨v, H1, I1, r, q1 (Inv.hg I1)⟩⟩
/-- a target takes a value: the slots behind it -/
theorem tg_ok {K : PySem.W.Frag} {H : Hp} {tg : Tg} {d : D} {v : V} {σ : L2.St} {ρ ρ' : Sl} (inj : InjT K H) (hb : bindTg tg d ρ = some ρ') (r : Rp K Em H d v) :
    ∃ σ', σ'.length = σ.length ∧ (∀ j, j ∉ tgIx tg → σ'[j]? = σ[j]?) ∧ (∀ Q : L2.St → Hp → Prop, Q σ' H → gTg K tg v σ H Q) ∧
      ∀ Y O, SlX K Y O (tgIx tg) H σ ρ → Rp K Y H d v → SlX K Y (O.filter fun j => !(tgIx tg).contains j) [] H σ' ρ' := by
  cases tg with
  | nm i =>
    cases hb
    refine ⟨σ.set i (some v), by rw [List.length_set], fun j hj => List.getElem?_set_ne (fun z => hj (by simp [tgIx, z])), fun Q q => q, fun Y O h q => ?_⟩
    exact (SlX.step h q).anyO fun j hj => by simpa [tgIx] using hj
  | tp is =>
    cases d with
    | tup ds =>
      obtain ⟨a, xs, e, hq, g⟩ := r
      have hlen : ∀ {is : List Nat} {ds : List D} {ρ : Sl}, setAll is ds ρ = some ρ' → ds.length = is.length := by
        intro is
        induction is with
        | nil =>
          intro ds ρ h
          cases ds with
          | nil => rfl
          | cons => cases h
        | cons i is ih =>
          intro ds ρ h
          cases ds with
          | nil => cases h
          | cons x xs =>
            rw [List.length_cons, List.length_cons, ih h]
      have hl : xs.length = is.length := by rw [← g.length]; exact hlen hb
      refine ⟨setVs is xs σ, setVs_length is xs σ, fun j hj => setVs_out is xs σ j hj, fun Q q => ⟨a, xs, e, hq.1, hl, gSet_ok is xs σ hl q⟩, fun Y O h q => ?_⟩
      obtain ⟨a', xs', e', hq', g'⟩ := q
      rw [e] at e'; cases e'
      have ex := inj a xs xs' hq.1 hq'.1
      subst ex
      exact SlX.steps h g' hb
    | _ => cases hb
/-- what is asked of a target -/
def spG (K : PySem.W.Frag) (tg : Tg) : TG := fun v σ H Q => ∃ d ρ ρ', Rp K Em H d v ∧ bindTg tg d ρ = some ρ' ∧ ∀ σ', σ'.length = σ.length → (∀ j, j ∉ tgIx tg → σ'[j]? = σ[j]?) →
  (∀ Y O, SlX K Y O (tgIx tg) H σ ρ → Rp K Y H d v → SlX K Y (O.filter fun j => !(tgIx tg).contains j) [] H σ' ρ') → Q σ' H
section
variable {X : Cx}
theorem pg_of {tg : Tg} {e : Expr} (h : PG X e (gTg X.K tg)) : PG X e (spG X.K tg) := by
  refine ⟨fun pins s σ H v u Q I r q => ?_⟩
  obtain ⟨d, ρ, ρ', rp, hb, q⟩ := q
  obtain ⟨σ', h1, h2, h3, h4⟩ := tg_ok (σ := σ) (fun a xs ys h1 h2 => I.tuple_inj h1 h2) hb rp
  exact h.run pins s σ H v u Q I r (h3 Q (q σ' h1 h2 h4))
/-- how a name may be stored here -/
def Sto (X : Cx) (i : Nat) (x : Str) : Prop := X.N[i]? = some x ∧ Loc X.env.scope x ∧ (X.fn x = true ∨ X.env.scope.names.lookup x = some .local)
inductive Stos (X : Cx) : List Nat → List Expr → Prop
  | nil : Stos X [] []
  | cons {i : Nat} {x : Str} {p : Pos} {is : List Nat} {es : List Expr} : Sto X i x → Stos X is es → Stos X (i :: is) (.Name x p :: es)
theorem pgs_of (nd : X.N.Nodup) : ∀ {is : List Nat} {es : List Expr}, Stos X is es → PGs X es (gSet is)
  | _, _, .nil => pgs_nil
  | _, _, .cons h t => pgs_cons (pg_name nd h.1 h.2.1 h.2.2) (pgs_of nd t)
theorem stos_len : ∀ {is : List Nat} {es : List Expr}, Stos X is es → (assignEach es X.env).length = is.length
  | _, _, .nil => rfl
  | _, _, .cons h t => by
    show (assignEach _ X.env).length + 1 = _ + 1
    rw [stos_len t]
theorem stos_star : ∀ {is : List Nat} {es : List Expr}, Stos X is es → (assignEach es X.env).findIdx? (·.1) = none
  | _, _, .nil => rfl
  | _, _, .cons h t => by
    have ih := stos_star t
    show List.findIdx? (·.1) ((false, _) :: assignEach _ X.env) = none
    rw [List.findIdx?_cons]
    simp [ih]
inductive StoT (X : Cx) : Tg → Expr → Prop
  | nm {i : Nat} {x : Str} {p : Pos} : Sto X i x → StoT X (.nm i) (.Name x p)
  | tp {is : List Nat} {es : List Expr} {k : Nat} {p : Pos} : Stos X is es → StoT X (.tp is) (.Tuple es k p)
theorem pg_tg (nd : X.N.Nodup) (hc : X.calm = true) {tg : Tg} {e : Expr} (h : StoT X tg e) : PG X e (spG X.K tg) := by
  refine pg_of ?_
  cases h with
  | nm h => exact pg_name nd h.1 h.2.1 h.2.2
  | tp h => exact pg_tup hc (pgs_of nd h) (stos_len h) (stos_star h)
end
end Pw

/-! text PwX5 -/
/-! what is walked; comprehensions -/
namespace Pw
open PySem PySem.Spec PyProof.Rows L2

/-- the walk J yields the data ds, made of the values xs (data es); it leans on the addresses Fp -/
structure ItOk (K : PySem.W.Frag) (J : L2.It) (ds es : List D) (xs : List V) (Fp : Addr → Prop) (H1 : Hp) : Prop where
  trk : ∀ a, Fp a → H1 a ≠ none
  go : ∀ H', (∀ a o, Fp a → H1 a = some o → H' a = some o) → ∀ (i : Nat) d, ds[i]? = some d → J.go i H' ∧ ∀ x H'', J.yld i H' x H'' → Same H' H'' ∧ ∀ Y, RpL K Y H' es xs → Rp K Y H'' d x
  stop : ∀ H', (∀ a o, Fp a → H1 a = some o → H' a = some o) → J.stop ds.length H'
def spI (Γ : Ctx) (c : Nat → List D → R D) (W : WX) (it : Itr) : TI := fun σ H Rr => ∃ ρ, SlG Γ.K Em [] H σ ρ ∧ match evI c it ρ with
  | .ok ds => ∀ J H1 es xs Fp, Same H H1 → ItOk Γ.K J ds es xs Fp H1 → RpL Γ.K Em H1 es xs → ds.length ≤ sizeLine →
      (∀ Y O, ZOk Y H → SlG Γ.K Y O H σ ρ → (lvI O it ≤ 1 → RpL Γ.K Y H1 es xs) ∧ (lvI O it = 0 → ∀ a, Fp a → ¬ Y a)) → Rr J H1
  | .ex x => ∀ H', Same H H' → W (Γ.cl x) none σ H'
  | .bad => False

section
variable {Γ : Ctx} {c : Nat → List D → R D} {W : WX} {n : Nat} {N : List Str} {sc : Scope} {X : Cx} {pos : Pos} {tge : Expr}
theorem PI.or {t t' : TI} {e : Expr} (h : PI X tge e t) (h' : PI X tge e t') : PI X tge e (fun σ H Rr => t σ H Rr ∨ t' σ H Rr) := ⟨fun pins s σ H Rr I q => q.elim (h.run pins s σ H Rr I) (h'.run pins s σ H Rr I)⟩

theorem itl_ok {K : PySem.W.Frag} {a : Addr} {xs : List V} {ds : List D} {H1 : Hp} (r : Rd H1 a (.lst xs)) (g : RpL K Em H1 ds xs) : ItOk K (Itl K a) ds ds xs (fun b => b = a) H1 := by
  have kp : ∀ H', (∀ b o, b = a → H1 b = some o → H' b = some o) → SqL K H' a xs := fun H' k => by
    rcases r with r | ⟨o, r⟩
    · exact .inl (.inl (k a _ rfl r))
    · exact .inl (.inr ⟨o, k a _ rfl r⟩)
  refine ⟨fun b e => by rw [e]; exact rd_tracked r, fun H' k i d e => ?_, fun H' k => ⟨xs, kp H' k, Nat.le_of_eq g.length.symm⟩⟩
  obtain ⟨v, hv, _⟩ := g.get e
  refine ⟨⟨xs, v, kp H' k, hv⟩, fun x H'' y => ?_⟩
  obtain ⟨rfl, y⟩ := y
  have hx := y xs (kp _ k)
  refine ⟨Same.refl _, fun Y q => ?_⟩
  obtain ⟨v', hv', q'⟩ := q.get e
  rw [hx] at hv'; cases hv'
  exact q'
theorem itt_ok {K : PySem.W.Frag} {a : Addr} {xs : List V} {ds : List D} {H1 : Hp} (r : SqT K H1 a xs) (g : RpL K Em H1 ds xs) :
    ∃ Fp : Addr → Prop, ItOk K (Itt K a) ds ds xs Fp H1 ∧ ∀ Y, ZOk Y H1 → ∀ b, Fp b → ¬ Y b := by
  have main : ∀ Fp : Addr → Prop, (∀ b, Fp b → H1 b ≠ none) → (∀ H', (∀ b o, Fp b → H1 b = some o → H' b = some o) → SqT K H' a xs) → ItOk K (Itt K a) ds ds xs Fp H1 := fun Fp ht kp => by
    refine ⟨ht, fun H' k i d e => ?_, fun H' k => ⟨xs, kp H' k, Nat.le_of_eq g.length.symm⟩⟩
    obtain ⟨v, hv, _⟩ := g.get e
    refine ⟨⟨xs, v, kp H' k, hv⟩, fun x H'' y => ?_⟩
    obtain ⟨rfl, y⟩ := y
    have hx := y xs (kp _ k)
    refine ⟨Same.refl _, fun Y q => ?_⟩
    obtain ⟨v', hv', q'⟩ := q.get e
    rw [hx] at hv'; cases hv'
    exact q'
  rcases r with r | r
  · refine ⟨fun b => b = a, main _ (fun b e => by rw [e]; exact rd_tracked r) (fun H' k => ?_), fun Y zy b e hb => ?_⟩
    · rcases r with r | ⟨o, r⟩
      · exact .inl (.inl (k a _ rfl r))
      · exact .inl (.inr ⟨o, k a _ rfl r⟩)
    · subst e
      have m := zy b hb
      rcases r with r | ⟨o, r⟩ <;> (rw [r] at m; exact m)
  · exact ⟨Em, main _ (fun _ z => z.elim) (fun _ _ => .inr r), fun _ _ _ z => z.elim⟩
theorem its_ok {K : PySem.W.Frag} {s : Tx} {H1 : Hp} : ItOk K (Its (tx s)) (s.map fun c => D.str [c]) [] [] Em H1 := by
  have hsz : (tx s).cps.size = s.length := by simp [tx]
  refine ⟨fun _ z => z.elim, fun H' k i d e => ?_, fun H' k => ?_⟩
  · rw [List.getElem?_map] at e
    obtain ⟨ch, e1, e2⟩ := Option.map_eq_some_iff.mp e
    subst e2
    have hlt := (List.getElem?_eq_some_iff.mp e1).1
    refine ⟨by show i < (tx s).cps.size; omega, fun x H'' y => ?_⟩
    obtain ⟨rfl, cc, h1, rfl⟩ := y
    have h1 : s[i]? = some cc := by simpa [tx] using h1
    rw [e1] at h1; cases h1
    exact ⟨Same.refl _, fun Y _ => ⟨rfl, by show 1 ≤ sizeLine; rw [sizeLine_eq]; decide⟩⟩
  · show (tx s).cps.size ≤ _
    rw [hsz, List.length_map]
    exact Nat.le_refl _
theorem itr_ok {K : PySem.W.Frag} {m : Nat} {H1 : Hp} : ItOk K (L2.Itr 0 m) ((List.range m).map fun (k : Nat) => D.int (k : Int)) [] [] Em H1 := by
  refine ⟨fun _ z => z.elim, fun H' k i d e => ?_, fun H' k => ?_⟩
  · rw [List.getElem?_map] at e
    obtain ⟨j, e1, e2⟩ := Option.map_eq_some_iff.mp e
    subst e2
    have hlt := (List.getElem?_eq_some_iff.mp e1).1
    rw [List.length_range] at hlt
    rw [List.getElem?_range hlt] at e1
    cases e1
    refine ⟨hlt, fun x H'' y => ?_⟩
    obtain ⟨rfl, rfl⟩ := y
    exact ⟨Same.refl _, fun Y _ => by show V.int (0 + (i : Int)) = .int (i : Int); rw [Int.zero_add]⟩
  · show m ≤ _
    rw [List.length_map, List.length_range]
    exact Nat.le_refl _

theorem i_seq (hf : Fx Γ n N sc X) {a : E} {e : Expr} (h : PE X e (spE Γ c W a)) : PI X tge e (spI Γ c W (.seq a)) := by
  refine PI.mono (PI.or (pi_list (PE.inj h)) (PI.or (pi_tup (PE.inj h)) (pi_str h))) fun σ H Rr q => ?_
  obtain ⟨ρ, g, q⟩ := q
  have q : match (evE c a ρ).bind itemsR with
    | .ok ds => ∀ J H1 es xs Fp, Same H H1 → ItOk Γ.K J ds es xs Fp H1 → RpL Γ.K Em H1 es xs → ds.length ≤ sizeLine →
        (∀ Y O, ZOk Y H → SlG Γ.K Y O H σ ρ → (lv O a ≤ 1 → RpL Γ.K Y H1 es xs) ∧ (lv O a = 0 → ∀ a, Fp a → ¬ Y a)) → Rr J H1
    | .ex x => ∀ H', Same H H' → W (Γ.cl x) none σ H'
    | .bad => False := q
  cases z : evE c a ρ with
  | bad => rw [z] at q; exact q.elim
  | ex x =>
    rw [z] at q
    exact .inl (spE.mk g (by rw [z]; intro h; cases h) (fun y e => by rw [z] at e; cases e; exact q) fun d e => by rw [z] at e; cases e)
  | ok d =>
    rw [z, R.ok_bind] at q
    have hb : evE c a ρ ≠ .bad := by rw [z]; intro h; cases h
    have hx : ∀ x, evE c a ρ = .ex x → ∀ H', Same H H' → W (Γ.cl x) none σ H' := fun x e => by rw [z] at e; cases e
    cases d with
    | lst ds =>
      refine .inl (spE.mk g hb hx fun d e v H1 s1 lev _ hg => ?_)
      rw [z] at e; cases e
      obtain ⟨p, xs, e1, r1, _, g1⟩ := lev_em g lev
      refine ⟨p, e1, ⟨xs, .inl r1⟩, ?_⟩
      rw [hf.K]
      refine q (Itl Γ.K p) H1 ds xs (fun b => b = p) s1 (itl_ok r1 g1) g1 ?_ fun Y O zy gy => ⟨fun h1 => ?_, fun h0 b hb => ?_⟩
      · rw [g1.length]; exact hg.lst p xs r1
      · obtain ⟨p', xs', e2, r2, g2⟩ := (lev Y O zy gy).2 h1
        rw [e1] at e2; cases e2
        have ex : xs = xs' := by
          rcases r1 with r1 | ⟨o, r1⟩ <;> rcases r2 with r2 | ⟨o', r2⟩ <;> (rw [r1] at r2; cases r2; first | done | rfl)
        subst ex
        exact g2
      · obtain ⟨p', xs', e2, _, nz, _⟩ := (lev Y O zy gy).1 h0
        rw [e1] at e2; cases e2
        rw [hb]; exact nz
    | tup ds =>
      refine .inr (.inl (spE.mk g hb hx fun d e v H1 s1 lev _ hg => ?_))
      rw [z] at e; cases e
      rw [hf.K] at hg
      obtain ⟨p, xs, e1, r1, g1⟩ := lev_em g lev
      refine ⟨p, e1, ⟨xs, by rw [hf.K]; exact r1.1⟩, ?_⟩
      rw [hf.K]
      obtain ⟨Fp, ok, nf⟩ := itt_ok r1.1 g1
      refine q (Itt Γ.K p) H1 ds xs Fp s1 ok g1 ?_ fun Y O zy gy => ⟨fun h1 => ?_, fun h0 b hb => nf Y (zy.same s1) b hb⟩
      · rw [g1.length]; exact hg.tup p xs r1.1
      · obtain ⟨p', xs', e2, r2, g2⟩ := (lev Y O zy gy).2 h1
        rw [e1] at e2; cases e2
        have ex := hg.inj p xs xs' r1.1 r2.1
        subst ex
        exact g2
    | str s =>
      refine .inr (.inr (spE.mk g hb hx fun d e v H1 s1 lev _ => ?_))
      rw [z] at e; cases e
      obtain ⟨e1, hz⟩ := lev_em g lev
      refine ⟨tx s, e1, ?_⟩
      exact q (Its (tx s)) H1 [] [] Em s1 its_ok rfl (by rw [List.length_map]; exact hz) fun Y O zy gy => ⟨fun _ => rfl, fun _ _ z => z.elim⟩
    | _ => exact (show False from q).elim
end
end Pw

/-! text PwE -/
/-! enumerate -/
namespace Pw
open PySem PySem.Spec PyProof.Rows L2
section
open Builtin Builtin.Str
theorem enum_new1 {v : Value} {o : Obj} {H : Heap → Prop} (B : Begins v o H) :
    Meets (Builtin.«enumerate.__new__» ⟨[.type "enumerate", v], []⟩) (fun _ R s => H s.heap ∧
      R (.ok (.ret (.ref (s.heap.push o).objs.size))) { s with heap := (s.heap.push o).push { cls := .type "enumerate", data := .fields #[.none, .bool false, .ref s.heap.objs.size, rawInt 0, .none, .none] } }) :=
  .of_wp fun prog w A R s h => by
    obtain ⟨hp, g, d, tk, os⟩ := s; obtain ⟨h1, h⟩ := h
    have hsub := sub_enumerate
    have q1 : ∀ {A' : Around} {E : Value → Shared → Prop} {Q : Value → Shared → Prop}, Q (.ref hp.objs.size) ⟨hp.push o, g, d, tk, os⟩ → wpAny (model prog w) A' (pyIter v) Q E ⟨hp, g, d, tk, os⟩ :=
      fun q => B.iter prog w _ _ ⟨hp, g, d, tk, os⟩ _ h1 q
    wp_walk using q1
    refine wpAny_stack_any fun st => wpAny_pure ?_
    split
    · rename_i c _ _ _ _ _
      cases (c == Value.type "enumerate")
      · wp_walk using q1
        exact ⟨_, rfl, h⟩
      · wp_walk using q1
        exact ⟨_, rfl, h⟩
    · wp_walk using q1
      exact ⟨_, rfl, h⟩
end
theorem call_enum1 {prog : Program} {w : World} {A : Around} {E : Value → Shared → Prop} {s : Shared} {v : Value} {o : Obj} {H : Heap → Prop} {Q : Value → Shared → Prop} (B : Begins v o H) (h1 : H s.heap)
    (h : ∀ h', IsEnum h' (s.heap.objs.size + 1) s.heap.objs.size 0 .none → h'.get? s.heap.objs.size = some o → h'.objs.size = s.heap.objs.size + 2 →
      (∀ b o, s.heap.get? b = some o → h'.get? b = some o) → Q (.ref (s.heap.objs.size + 1)) { s with heap := h' }) :
    wpAny (model prog w) A (call (.type "enumerate") [v]) Q E s := by
  refine callType_new F.called_enumerate (by decide) (F.typeCall_enumerate_1 _) (F.newCall_enumerate_1 _) (fun obj => F.args_object_init_2 obj _) F.entry_enumerate_new (enum_new1 B) ⟨h1, ?_⟩
  have hz : (s.heap.push o).objs.size = s.heap.objs.size + 1 := Heap.size_push ..
  show _ ∧ _
  rw [hz]
  have he : IsEnum ((s.heap.push o).push { cls := .type "enumerate", data := .fields #[.none, .bool false, .ref s.heap.objs.size, rawInt 0, .none, .none] }) (s.heap.objs.size + 1) s.heap.objs.size 0 .none := by
    have := Heap.get?_push_size (s.heap.push o) (o := { cls := .type "enumerate", data := .fields #[.none, .bool false, .ref s.heap.objs.size, rawInt 0, .none, .none] }) rfl
    rw [hz] at this; exact this
  refine ⟨⟨_, he, rfl⟩, h _ he (Heap.get?_push_of_some _ (Heap.get?_push_size _ B.free)) (by rw [Heap.size_push, hz]) fun b o x => Heap.get?_push_of_some _ (Heap.get?_push_of_some _ x)⟩
/-- the tuple at a, each item in a new pair -/
def IteT (K : PySem.W.Frag) (a : Addr) : L2.It :=
  ⟨fun i H => ∃ (xs : List V) (x : V), SqT K H a xs ∧ xs[i]? = some x, fun i H v H' => ∃ T x, v = .ref T ∧ H T = none ∧ H' = upd H T (.tup [.int (i : Nat), x]) ∧ ∀ xs, SqT K H a xs → xs[i]? = some x, fun i H => ∃ xs : List V, SqT K H a xs ∧ xs.length ≤ i⟩
theorem turn_enumT {P : Program} {w : World} {K : PySem.W.Frag} {elts : List Expr} {kk : Nat} {tpos : Pos} (a e it : Addr) :
    Turn P w K (.Tuple elts kk tpos) (IteT K a) [e, it] e (fun i h => (∃ old, IsEnum h e it ((i : Nat) : Int) old) ∧ h.IsTupleIter it a i ∧ e ≠ it) where
  mem := by simp
  obj := fun i h st b hb => by
    obtain ⟨⟨old, he⟩, ⟨o, ho, hc, hd⟩, _⟩ := st
    have e' : b = e ∨ b = it := by simpa using hb
    rcases e' with z | z
    · rw [z]; exact ⟨_, he, fun v q => nomatch q⟩
    · rw [z]; exact ⟨o, ho, fun v q => by rw [hd] at q; cases q⟩
  keep := fun i h h' st k => let ⟨⟨old, he⟩, hi, hne⟩ := st; ⟨⟨old, k e (by simp) _ he⟩, hi.at fun o q => k it (by simp) o q, hne⟩
  item := by
    intro X hP hw hK hc i pins s σ H E I hf st hg
    subst hP hw hK
    obtain ⟨⟨old, he⟩, hit, hne⟩ := st
    obtain ⟨xs, x, hq, hx⟩ := hg
    obtain ⟨its, rv, p, hz⟩ := I.tuple hq
    obtain ⟨u, hu, ru⟩ := rv.get hx
    have hel : e < s.heap.objs.size := Heap.lt_size he
    have hil : it < s.heap.objs.size := by obtain ⟨_, q, _⟩ := hit; exact Heap.lt_size q
    have hai : a ≠ it := fun z => by
      subst z
      obtain ⟨o1, q1, c1, _⟩ := p
      obtain ⟨o2, q2, c2, _⟩ := hit
      rw [q1] at q2; cases q2
      rw [c1] at c2
      exact absurd c2 (by decide)
    have hae : e ≠ a := fun z => by
      subst z
      obtain ⟨o1, q1, c1, _⟩ := p
      have he' : s.heap.get? e = _ := he
      rw [q1] at he'; cases he'
      exact absurd c1 (by simp)
    have hlt : i < its.toArray.size := by
      have := (List.getElem?_eq_some_iff.mp hu).1
      simpa using this
    have D : Draws X.prog X.w X.A.in1 it [it, a] its.toArray.size (fun i v => its.toArray[i]? = some v) (fun i h => h.IsTupleIter it a i ∧ h.IsTuple a its.toArray) := Draws.tuple (A := X.A.in1) (show X.A.in1.handled = none from I.ok.hd hc) it a hai its.toArray
    refine wpAny_pyNext_enum_itemC D he ⟨hit, p⟩ hlt hne (by simp [hne, hae]) fun x' h' tk hx' ho hst' hT hsz hk => ?_
    have ex : x' = u := by
      have hx' : its[i]? = some x' := by simpa using hx'
      rw [hu] at hx'; cases hx'; rfl
    subst ex
    refine ⟨_, rfl, wpAny_letOwnedTupleGo_enum (s := { s with heap := h', toks := tk + 1 }) ho fun h'' he' sb => ?_⟩
    have hT2 : h''.get? s.heap.objs.size = some { cls := .type "tuple", data := .seq #[.int i tk, x'] } := (sb.2 _ (Nat.ne_of_gt hel)).trans hT
    have new : ObjOk X.prog X.w (upd H s.heap.objs.size (.tup [.int (i : Nat), x])) h'' s.heap.objs.size (.tup [.int (i : Nat), x]) :=
      ⟨by show 2 ≤ sizeLine; decide, [.int i tk, x'], .cons ⟨_, rfl⟩ (.cons ru .nil), ⟨_, hT2, rfl, _, rfl⟩⟩
    have I1 : Inv X pins σ (upd H s.heap.objs.size (.tup [.int (i : Nat), x])) { s with heap := h'', toks := tk + 1 } :=
      I.turnedNew (ch := [e, it]) (fun b ob hb q => (sb.2 b (fun z => hb (by simp [z]))).trans (hk b ob (fun z => hb (by simp [z])) (fun z => hb (by simp [z])) q)) hf (Nat.le_refl _) new
    refine ⟨.ref s.heap.objs.size, _, I1, rfl, ⟨_, x, rfl, I.hok.fresh (Nat.le_refl _), rfl, fun ys hy => by rw [I.tuple_inj hy hq]; exact hx⟩, ⟨⟨x', ?_⟩, hst'.1.at fun o q => (sb.2 it (Ne.symm hne)).trans q, hne⟩, fun b hb => ?_⟩
    · have e1 : ((i + 1 : Nat) : Int) = (i : Int) + 1 := by omega
      rw [e1]; exact he'
    · have hb' : b < s.heap.objs.size := by
        have e' : b = e ∨ b = it := by simpa using hb
        rcases e' with z | z
        · rw [z]; exact hel
        · rw [z]; exact hil
      rw [upd_ne (Nat.ne_of_lt hb')]
      exact (hf b hb).1
  done := by
    intro X hP hw hK hc i pins s σ H E I hf st hg
    subst hP hw hK
    obtain ⟨⟨old, he⟩, hit, hne⟩ := st
    obtain ⟨xs, hq, hx⟩ := hg
    obtain ⟨its, rv, p, hz⟩ := I.tuple hq
    obtain ⟨f0, f1, f2, f3, f4, f5⟩ := hf it (by simp)
    have hl := rv.length
    have D : Draws X.prog X.w X.A.in1 it [it, a] i (fun _ _ => True) (fun j h => j = i ∧ h.IsTupleIter it a i ∧ h.IsTuple a its.toArray) :=
      ⟨fun _ _ st => let ⟨o, ho, _⟩ := st.2.1; ⟨o, ho⟩, fun _ _ _ st hk => ⟨st.1, st.2.1.at fun o e => hk it (by simp) o e, st.2.2.at fun o e => hk a (by simp) o e⟩,
        fun j s Q E hj st _ => absurd st.1 (Nat.ne_of_lt hj), fun s Q E st hE => wpAny_nextOf_tuple_end (A := X.A.in1) (show X.A.in1.handled = none from I.ok.hd hc) st.2.1 st.2.2 (by simp; omega) hE⟩
    exact wpAny_pyNext_enum_endD D he ⟨rfl, hit, p⟩ fun h' eb => ⟨rfl, I.turned (t' := s.toks) (fun b o hb q => eb b o hb q) f0 f1 f3 f4 f5⟩
  self := fun A i s Q E st h => let ⟨⟨_, he⟩, _⟩ := st; wpAny_pyIter_enum he h
def iEnumT (K : PySem.W.Frag) (ta : TA) : TI := fun σ H R => ta σ H fun vs H1 => ∃ a xs, vs = [.ref a] ∧ SqT K H1 a xs ∧ R (IteT K a) H1
theorem pi_enumT {X : Cx} {e : Expr} {ta : TA} {p pos tpos : Pos} {elts : List Expr} {kk : Nat} (hg : Gl X "enumerate") (hm : X.mg "enumerate" = none) (ha : PA X [e] ta) (hs : starEach [e] X.env = [(false, eval e X.env)]) :
    PI X (.Tuple elts kk tpos) (.Call (.Name "enumerate" p) [e] [] pos) (iEnumT X.K ta) := by
  refine ⟨fun pins s σ H R I h => ?_⟩
  refine Call_ (ld_blt I hg hm boot_enumerate (PyProof.Rows.callWith_type1 (thn (ha.run pos pins s σ H _ I h) fun us s1 ⟨vs, H1, I1, r1, q1⟩ => ?_) hs rfl))
  obtain ⟨a, xs, ex, hq, q⟩ := q1
  subst ex
  cases r1 with
  | cons r rr =>
    cases rr
    cases r
    obtain ⟨its, rv, p', hz⟩ := I1.tuple hq
    refine call_enum1 (begins_tuple a its.toArray) p' fun h' he hit hsz hk => wpAny_pyIter_enum he ?_
    have I2 : Inv X pins σ H1 { s1 with heap := h' } := I1.kept (t' := s1.toks) hk
    refine ⟨s1.heap.objs.size + 1, [s1.heap.objs.size + 1, s1.heap.objs.size], _, _, H1, rfl, I2, turn_enumT a (s1.heap.objs.size + 1) s1.heap.objs.size, ⟨⟨.none, he⟩, ⟨_, hit, rfl, rfl⟩, Nat.succ_ne_self _⟩, fun b hb => ?_, q⟩
    have e' : b = s1.heap.objs.size + 1 ∨ b = s1.heap.objs.size := by simpa using hb
    have hle : s1.heap.objs.size ≤ b := by
      rcases e' with z | z
      · rw [z]; exact Nat.le_add_right _ _
      · rw [z]; exact Nat.le_refl _
    exact I1.fpOk hle (I1.hok.fresh hle)
/-! ### what it yields -/
theorem enumD_len (ds : List D) : (enumD ds).length = ds.length := List.length_mapIdx
theorem enumD_at {ds : List D} {i : Nat} {d : D} (h : (enumD ds)[i]? = some d) : ∃ x, ds[i]? = some x ∧ d = .tup [.int (i : Nat), x] := by
  unfold enumD at h
  rw [List.getElem?_mapIdx] at h
  obtain ⟨x, e1, e2⟩ := Option.map_eq_some_iff.mp h
  exact ⟨x, e1, e2.symm⟩
theorem pair_ok {K : PySem.W.Frag} {Y : Addr → Prop} {H : Hp} {T : Addr} {i : Nat} {x : D} {v : V} (hn : H T = none) (h : Rp K Y H x v) : Rp K Y (upd H T (.tup [.int (i : Nat), v])) (.tup [.int (i : Nat), x]) (.ref T) :=
  Rp.new_tup hn rfl ⟨_, _, rfl, rfl, ⟨_, _, rfl, h, rfl⟩⟩
theorem ite_ok {K : PySem.W.Frag} {a : Addr} {xs : List V} {ds : List D} {H1 : Hp} (r : Rd H1 a (.lst xs)) (g : RpL K Em H1 ds xs) : ItOk K (Ite K a) (enumD ds) ds xs (fun b => b = a) H1 := by
  have kp : ∀ H', (∀ b o, b = a → H1 b = some o → H' b = some o) → SqL K H' a xs := fun H' k => by
    rcases r with r | ⟨o, r⟩
    · exact .inl (.inl (k a _ rfl r))
    · exact .inl (.inr ⟨o, k a _ rfl r⟩)
  refine ⟨fun b e => by rw [e]; exact rd_tracked r, fun H' k i d e => ?_, fun H' k => ⟨xs, kp H' k, by rw [enumD_len]; exact Nat.le_of_eq g.length.symm⟩⟩
  obtain ⟨x0, e0, rfl⟩ := enumD_at e
  obtain ⟨v, hv, _⟩ := g.get e0
  refine ⟨⟨xs, v, kp H' k, hv⟩, fun x H'' y => ?_⟩
  obtain ⟨T, u, rfl, hn, rfl, y⟩ := y
  have hx := y xs (kp _ k)
  refine ⟨same_upd hn, fun Y q => ?_⟩
  obtain ⟨v', hv', q'⟩ := q.get e0
  rw [hx] at hv'; cases hv'
  exact pair_ok hn q'
theorem itet_ok {K : PySem.W.Frag} {a : Addr} {xs : List V} {ds : List D} {H1 : Hp} (r : SqT K H1 a xs) (g : RpL K Em H1 ds xs) :
    ∃ Fp : Addr → Prop, ItOk K (IteT K a) (enumD ds) ds xs Fp H1 ∧ ∀ Y, ZOk Y H1 → ∀ b, Fp b → ¬ Y b := by
  have main : ∀ Fp : Addr → Prop, (∀ b, Fp b → H1 b ≠ none) → (∀ H', (∀ b o, Fp b → H1 b = some o → H' b = some o) → SqT K H' a xs) → ItOk K (IteT K a) (enumD ds) ds xs Fp H1 := fun Fp ht kp => by
    refine ⟨ht, fun H' k i d e => ?_, fun H' k => ⟨xs, kp H' k, by rw [enumD_len]; exact Nat.le_of_eq g.length.symm⟩⟩
    obtain ⟨x0, e0, rfl⟩ := enumD_at e
    obtain ⟨v, hv, _⟩ := g.get e0
    refine ⟨⟨xs, v, kp H' k, hv⟩, fun x H'' y => ?_⟩
    obtain ⟨T, u, rfl, hn, rfl, y⟩ := y
    have hx := y xs (kp _ k)
    refine ⟨same_upd hn, fun Y q => ?_⟩
    obtain ⟨v', hv', q'⟩ := q.get e0
    rw [hx] at hv'; cases hv'
    exact pair_ok hn q'
  rcases r with r | r
  · refine ⟨fun b => b = a, main _ (fun b e => by rw [e]; exact rd_tracked r) (fun H' k => ?_), fun Y zy b e hb => ?_⟩
    · rcases r with r | ⟨o, r⟩
      · exact .inl (.inl (k a _ rfl r))
      · exact .inl (.inr ⟨o, k a _ rfl r⟩)
    · subst e
      have m := zy b hb
      rcases r with r | ⟨o, r⟩ <;> (rw [r] at m; exact m)
  · exact ⟨Em, main _ (fun _ z => z.elim) (fun _ _ => .inr r), fun _ _ _ z => z.elim⟩
section
variable {Γ : Ctx} {c : Nat → List D → R D} {W : WX} {n : Nat} {N : List Str} {sc : Scope} {X : Cx} {pos : Pos}
theorem i_enum (hf : Fx Γ n N sc X) (G : Gk Γ) {a : E} {y : Expr} {p tpos : Pos} {elts : List Expr} {kk : Nat} (hg : gloB sc "enumerate" = true) (h : PE X y (spE Γ c W a)) (st : ∀ es, starEach (y :: es) X.env = (false, eval y X.env) :: starEach es X.env) :
    PI X (.Tuple elts kk tpos) (.Call (.Name "enumerate" p) [y] [] pos) (spI Γ c W (.enum a)) := by
  have pa := pa_cons (PE.inj h) pa_nil (st [])
  refine PI.mono (PI.or (pi_enum (glo_of hf hg) (mg_free hf G (by decide)) pa (st [])) (pi_enumT (glo_of hf hg) (mg_free hf G (by decide)) pa (st []))) fun σ H Rr q => ?_
  obtain ⟨ρ, g, q⟩ := q
  have q : match (evE c a ρ).bind enumR with
    | .ok ds => ∀ J H1 es xs Fp, Same H H1 → ItOk Γ.K J ds es xs Fp H1 → RpL Γ.K Em H1 es xs → ds.length ≤ sizeLine →
        (∀ Y O, ZOk Y H → SlG Γ.K Y O H σ ρ → (lv O a ≤ 1 → RpL Γ.K Y H1 es xs) ∧ (lv O a = 0 → ∀ a, Fp a → ¬ Y a)) → Rr J H1
    | .ex x => ∀ H', Same H H' → W (Γ.cl x) none σ H'
    | .bad => False := q
  cases z : evE c a ρ with
  | bad => rw [z] at q; exact q.elim
  | ex x =>
    rw [z] at q
    exact .inl (spE.mk g (by rw [z]; intro h; cases h) (fun y e => by rw [z] at e; cases e; exact q) fun d e => by rw [z] at e; cases e)
  | ok d =>
    rw [z, R.ok_bind] at q
    have hb : evE c a ρ ≠ .bad := by rw [z]; intro h; cases h
    have hx : ∀ x, evE c a ρ = .ex x → ∀ H', Same H H' → W (Γ.cl x) none σ H' := fun x e => by rw [z] at e; cases e
    cases d with
    | lst ds =>
      refine .inl (spE.mk g hb hx fun d e v H1 s1 lev _ hg => ?_)
      rw [z] at e; cases e
      obtain ⟨p, xs, e1, r1, _, g1⟩ := lev_em g lev
      refine ⟨p, xs, by rw [e1], .inl r1, ?_⟩
      rw [hf.K]
      refine q (Ite Γ.K p) H1 ds xs (fun b => b = p) s1 (ite_ok r1 g1) g1 ?_ fun Y O zy gy => ⟨fun h1 => ?_, fun h0 b hb => ?_⟩
      · rw [enumD_len, g1.length]; exact hg.lst p xs r1
      · obtain ⟨p', xs', e2, r2, g2⟩ := (lev Y O zy gy).2 h1
        rw [e1] at e2; cases e2
        have ex : xs = xs' := by
          rcases r1 with r1 | ⟨o, r1⟩ <;> rcases r2 with r2 | ⟨o', r2⟩ <;> (rw [r1] at r2; cases r2; first | done | rfl)
        subst ex
        exact g2
      · obtain ⟨p', xs', e2, _, nz, _⟩ := (lev Y O zy gy).1 h0
        rw [e1] at e2; cases e2
        rw [hb]; exact nz
    | tup ds =>
      refine .inr (spE.mk g hb hx fun d e v H1 s1 lev _ hg => ?_)
      rw [z] at e; cases e
      rw [hf.K] at hg
      obtain ⟨p, xs, e1, r1, g1⟩ := lev_em g lev
      refine ⟨p, xs, by rw [e1], by rw [hf.K]; exact r1.1, ?_⟩
      rw [hf.K]
      obtain ⟨Fp, ok, nf⟩ := itet_ok r1.1 g1
      refine q (IteT Γ.K p) H1 ds xs Fp s1 ok g1 ?_ fun Y O zy gy => ⟨fun h1 => ?_, fun h0 b hb => nf Y (zy.same s1) b hb⟩
      · rw [enumD_len, g1.length]; exact hg.tup p xs r1.1
      · obtain ⟨p', xs', e2, r2, g2⟩ := (lev Y O zy gy).2 h1
        rw [e1] at e2; cases e2
        have ex := hg.inj p xs xs' r1.1 r2.1
        subst ex
        exact g2
    | _ => exact (show False from q).elim
end
end Pw

/-! text PwX6 -/
/-! range; comprehensions -/
namespace Pw
open PySem PySem.Spec PyProof.Rows L2

def addZ (Y : Addr → Prop) (p : Addr) : Addr → Prop := fun a => Y a ∨ a = p
section
variable {K : PySem.W.Frag} {Y : Addr → Prop} {H H' : Hp} {p : Addr}
theorem sqt_ne {b : Addr} {xs : List V} (r : Rd H b (.tup xs)) (n : H p = none) : b ≠ p := fun z => by subst z; exact rd_tracked r n
theorem add_mv (n : H p = none) : Mv K Y (addZ Y p) H H := ⟨fun b _ _ _ r z => ⟨r, fun q => q.elim z fun e => by subst e; rw [r] at n; cases n⟩, fun _ _ r => r, fun _ _ r => r, fun b u _ r z => ⟨r, fun q => q.elim z fun e => by subst e; exact rd_tracked r n⟩, fun _ _ e => e⟩
theorem Rp.add (n : H p = none) {d : D} {v : V} (h : Rp K Y H d v) : Rp K (addZ Y p) H d v := Rp.to (add_mv n) d v h
theorem RpL.add (n : H p = none) {d : List D} {v : List V} (h : RpL K Y H d v) : RpL K (addZ Y p) H d v := RpL.to (add_mv n) d v h
theorem RpR.add (n : H p = none) {d : D} {v : V} (h : RpR K Y H d v) : RpR K (addZ Y p) H d v := by
  cases d with
  | lst ds =>
    obtain ⟨a, xs, e, r, q⟩ := h
    exact ⟨a, xs, e, r, q.add n⟩
  | dct ks ds =>
    obtain ⟨a, xs, e, r, ek, el, q⟩ := h
    exact ⟨a, xs, e, r, ek, el, q.add n⟩
  | _ => exact Rp.add (K := K) (Y := Y) n h
theorem SlX.add (n : H p = none) {O ex : List Nat} {σ : L2.St} {ρ : Sl} (h : SlX K Y O ex H σ ρ) : SlX K (addZ Y p) O ex H σ ρ :=
  ⟨h.1, fun i d z e => let ⟨v, a, b, g⟩ := h.2 i d z e; ⟨v, a, b.add n, fun q => (g q).add n⟩⟩
/-- the list at p changes: what does not lean on it stands -/
theorem upd_mv {xs ys : List V} (hp : H p = some (.lst xs)) : Mv K (addZ Y p) (addZ Y p) H (upd H p (.lst ys)) := by
  refine ⟨fun b C dx fs r z => ⟨by rw [upd_ne (fun e => z (.inr e))]; exact r, z⟩, fun b zs r => ?_, fun b zs r => ?_, fun b u _ r z => ?_, fun b c e => ?_⟩
  · rcases r with (r | ⟨o, r⟩) | r
    · exact .inl (.inl (by rw [upd_ne (fun e => by subst e; rw [hp] at r; cases r)]; exact r))
    · exact .inl (.inr ⟨o, by rw [upd_ne (fun e => by subst e; rw [hp] at r; cases r)]; exact r⟩)
    · exact .inr r
  · rcases r with ⟨o, r, n⟩ | r
    · exact .inl ⟨o, by rw [upd_ne (fun e => by subst e; rw [hp] at r; cases r)]; exact r, n⟩
    · exact .inr r
  · have ne : b ≠ p := fun e => z (.inr e)
    refine ⟨?_, z⟩
    rcases r with r | ⟨o, r⟩
    · exact .inl (by rw [upd_ne ne]; exact r)
    · exact .inr ⟨o, by rw [upd_ne ne]; exact r⟩
  · rw [upd_ne (fun z => by subst z; rw [hp] at e; cases e)]; exact e
theorem RpL.updL {xs ys : List V} (hp : H p = some (.lst xs)) {d : List D} {v : List V} (h : RpL K (addZ Y p) H d v) : RpL K (addZ Y p) (upd H p (.lst ys)) d v := RpL.to (upd_mv hp) d v h
theorem Rp.updL {xs ys : List V} (hp : H p = some (.lst xs)) {d : D} {v : V} (h : Rp K (addZ Y p) H d v) : Rp K (addZ Y p) (upd H p (.lst ys)) d v := Rp.to (upd_mv hp) d v h
theorem zok_add (z : ZOk Y H) {xs : List V} (hp : H p = some (.lst xs)) : ZOk (addZ Y p) H := fun a q => q.elim (z a) fun e => by rw [e, hp]; trivial
end

theorem compR_noex {f : D → R (Option D)} {x : Tx} : ∀ {xs : List D}, compR f xs ≠ .ex x
  | [], h => by cases h
  | y :: ys, h => by
    unfold compR at h
    split at h
    · split at h <;> cases h
    · exact compR_noex h
    · cases h
theorem compR_len {f : D → R (Option D)} : ∀ {xs ys : List D}, compR f xs = .ok ys → ys.length ≤ xs.length
  | [], ys, h => by cases h; exact Nat.le_refl _
  | x :: xs, ys, h => by
    unfold compR at h
    split at h
    · split at h
      · rename_i q
        cases h
        rw [List.length_cons, List.length_cons]
        exact Nat.succ_le_succ (compR_len q)
      · cases h
    · exact Nat.le_succ_of_le (compR_len h)
    · cases h
abbrev W0 : WX := fun _ _ _ _ => False

section
variable {Γ : Ctx} {c : Nat → List D → R D} {W : WX} {n : Nat} {N : List Str} {sc : Scope} {X : Cx} {pos : Pos} {tge : Expr}
theorem i_range (hf : Fx Γ n N sc X) (G : Gk Γ) {a : E} {y : Expr} {p : Pos} (hg : gloB sc "range" = true) (h : PE X y (spE Γ c W a)) (st : ∀ es, starEach (y :: es) X.env = (false, eval y X.env) :: starEach es X.env) :
    PI X tge (.Call (.Name "range" p) [y] [] pos) (spI Γ c W (.range a)) := by
  refine PI.mono (pi_range1 (glo_of hf hg) (mg_free hf G (by decide)) (pa_cons h pa_nil (st [])) (st [])) fun σ H Rr q => ?_
  obtain ⟨ρ, g, q⟩ := q
  have q : match (evE c a ρ).bind rangeR with
    | .ok ds => ∀ J H1 es xs Fp, Same H H1 → ItOk Γ.K J ds es xs Fp H1 → RpL Γ.K Em H1 es xs → ds.length ≤ sizeLine →
        (∀ Y O, ZOk Y H → SlG Γ.K Y O H σ ρ → (0 ≤ 1 → RpL Γ.K Y H1 es xs) ∧ (0 = 0 → ∀ a, Fp a → ¬ Y a)) → Rr J H1
    | .ex x => ∀ H', Same H H' → W (Γ.cl x) none σ H'
    | .bad => False := q
  refine spE.mk g (fun z => by rw [z] at q; exact q) (fun x z => by rw [z] at q; exact q) fun d z v H1 s1 lev _ => ?_
  rw [z, R.ok_bind] at q
  cases d with
  | int i =>
    simp only [rangeR] at q
    split at q
    · rename_i ds hc
      split at hc
      · rename_i hi
        cases hc
        simp only [Bool.and_eq_true, decide_eq_true_eq] at hi
        refine ⟨i, by rw [show v = .int i from lev_em g lev], by omega, by omega, ?_⟩
        refine q _ H1 [] [] Em s1 itr_ok rfl ?_ fun Y O _ _ => ⟨fun _ => rfl, fun _ _ z => z.elim⟩
        rw [List.length_map, List.length_range, sizeLine_eq]
        omega
      · cases hc
    · rename_i hc
      split at hc <;> cases hc
    · exact q.elim
  | _ => exact (show False from q).elim

theorem comp_core {elt : E} {tg : Tg} {it : Itr} {cond : Eo} {σ : L2.St} {H : Hp} {Q : VK} (q : spE Γ c W (.comp elt tg it cond) σ H Q) :
    tLc (spI Γ c W it) (spG Γ.K tg) (spCl Γ c W0 cond) (spE Γ c W0 elt) (tgIx tg) σ H Q := by
  obtain ⟨ρ, g, q⟩ := q
  generalize hfd : (fun x => match bindTg tg x ρ with
      | none => R.bad
      | some ρ' => (evC c cond ρ').bind fun k => if k then mapR some (evE c elt ρ') else R.ok none) = f
  have q : match ((evI c it ρ).bind fun items => mapR D.lst (compR f items)) with
    | .ok d => ∀ v H', Same H H' → (∀ Y O, ZOk Y H → SlG Γ.K Y O H σ ρ → Lv Γ.K Y (if lvI O it ≤ 1 ∧ lv (O.filter fun i => !(tgIx tg).contains i) elt = 0 then 0 else 2) H' d v) → (true = true → Fr H H' d v) → Q v H'
    | .ex x => ∀ H', Same H H' → W (Γ.cl x) none σ H'
    | .bad => False := by rw [← hfd]; exact q
  refine ⟨ρ, g, ?_⟩
  cases zi : evI c it ρ with
  | bad => rw [zi] at q; exact q
  | ex x => rw [zi] at q; exact q
  | ok items =>
    rw [zi, R.ok_bind] at q
    intro J H1 es xs Fp s1 iok res hlen lev D hD
    cases zc : compR f items with
    | bad => rw [zc] at q; exact (show False from q).elim
    | ex x => exact absurd zc compR_noex
    | ok ys =>
      rw [zc] at q
      have q : ∀ v H', Same H H' → (∀ Y O, ZOk Y H → SlG Γ.K Y O H σ ρ → Lv Γ.K Y (if lvI O it ≤ 1 ∧ lv (O.filter fun i => !(tgIx tg).contains i) elt = 0 then 0 else 2) H' (.lst ys) v) → (true = true → Fr H H' (.lst ys) v) → Q v H' := q
      -- what holds between two turns
      let Pv : Nat → Hp → Prop := fun i Hc => i ≤ items.length ∧ Same H1 Hc ∧ ∃ acc ys1 ys2, Hc D = some (.lst acc) ∧ compR f (items.drop i) = .ok ys2 ∧ ys = ys1 ++ ys2 ∧ acc.length ≤ i ∧
        ∀ Y O, ZOk Y H → SlG Γ.K Y O H σ ρ → lvI O it ≤ 1 → lv (O.filter fun i => !(tgIx tg).contains i) elt = 0 → RpL Γ.K (addZ Y D) Hc ys1 acc
      refine ⟨fun i m Hc => m = items.length - i ∧ Pv i Hc, ⟨items.length, by simp, Nat.zero_le _, same_upd hD, [], [], ys, upd_same, by simpa using zc, rfl, Nat.le_refl _, fun _ _ _ _ _ _ => rfl⟩, ?_⟩
      rintro i m Hc ⟨rfl, hi, sc1, acc, ys1, ys2, hacc, hcr, hys, hal, hrp⟩
      by_cases hlt : i < items.length
      · right
        have hx : items[i]? = some items[i] := by simp [hlt]
        obtain ⟨go, yl⟩ := iok.go Hc (fun a o _ e => sc1 a o e) i _ hx
        refine ⟨go, Pv (i + 1), fun H' p' => ⟨items.length - (i + 1), by omega, rfl, p'⟩, fun x H' y => ?_⟩
        obtain ⟨s2, rpx⟩ := yl x H' y
        have hdrop : items.drop i = items[i] :: items.drop (i + 1) := List.drop_eq_getElem_cons hlt
        rw [hdrop] at hcr
        generalize items[i] = d at hx hcr rpx
        -- the target
        have resD : RpL Γ.K Em Hc es xs := res.same sc1
        have rx : Rp Γ.K Em H' d x := rpx Em resD
        have sH' : Same H1 H' := sc1.trans s2
        have slx : ∀ Y O, SlG Γ.K Y O H σ ρ → SlX Γ.K (addZ Y D) O (tgIx tg) H' (wipe σ (tgIx tg)) ρ := fun Y O gy => by
          have g1 : SlX Γ.K (addZ Y D) O [] H1 σ ρ := (gy.same s1).add hD
          have g2 := g1.same sH'
          refine ⟨by rw [wipe_length]; exact g2.1, fun j dj hj e => ?_⟩
          obtain ⟨v, a1, a2, a3⟩ := g2.2 j dj (by simp) e
          exact ⟨v, by rw [wipe_out hj]; exact a1, a2, a3⟩
        cases hb : bindTg tg d ρ with
        | none =>
          have hfx : f d = .bad := by rw [← hfd]; simp only [hb]
          unfold compR at hcr
          rw [hfx] at hcr
          cases hcr
        | some ρ' =>
          have hfx : f d = (evC c cond ρ').bind fun k => if k then mapR some (evE c elt ρ') else R.ok none := by rw [← hfd]; simp only [hb]
          refine ⟨d, ρ, ρ', rx, hb, fun σ' hl' hout hsl => ?_⟩
          refine ⟨wipe_eq (by rw [hl', wipe_length]) (fun j hj => by rw [hout j hj, wipe_out hj]), ?_⟩
          -- the slots in the block
          have slY : ∀ Y O, ZOk Y H → SlG Γ.K Y O H σ ρ → lvI O it ≤ 1 → SlG Γ.K (addZ Y D) (O.filter fun i => !(tgIx tg).contains i) H' σ' ρ' := fun Y O zy gy h1 => by
            refine hsl (addZ Y D) O (slx Y O gy) (rpx _ ?_)
            exact (((lev Y O zy gy).1 h1).add hD).same sc1
          have slE : SlG Γ.K Em [] H' σ' ρ' := by
            have z := hsl Em [] (by
              have g2 := slx Em [] g
              exact ⟨g2.1, fun j dj hj e => let ⟨v, a1, a2, a3⟩ := g2.2 j dj hj e; ⟨v, a1, (a3 (by simp)).em.relax, fun _ => (a3 (by simp)).em⟩⟩) rx
            simpa using z
          have hD' : H' D = some (.lst acc) := s2 _ _ hacc
          refine ⟨ρ', slE, ?_⟩
          unfold compR at hcr
          rw [hfx] at hcr
          cases zk : evC c cond ρ' with
          | bad => rw [zk] at hcr; cases hcr
          | ex x => rw [zk] at hcr; cases hcr
          | ok k =>
            rw [zk, R.ok_bind] at hcr
            intro H3 s3
            have hD3 := s3 _ _ hD'
            cases k with
            | false =>
              rw [if_neg Bool.false_ne_true]
              simp only [Bool.false_eq_true, if_false] at hcr
              refine ⟨hlt, sH'.trans s3, acc, ys1, ys2, hD3, hcr, hys, by omega, fun Y O zy gy h1 h2 => ((hrp Y O zy gy h1 h2).same s2).same s3⟩
            | true =>
              rw [if_pos rfl]
              simp only [if_true] at hcr
              have slE3 := slE.same s3
              cases ze : evE c elt ρ' with
              | bad => rw [ze] at hcr; cases hcr
              | ex x => rw [ze] at hcr; cases hcr
              | ok yd =>
                rw [ze] at hcr
                have hcr : (match compR f (items.drop (i + 1)) with | .ok ys => R.ok (yd :: ys) | _ => .bad) = .ok ys2 := hcr
                cases zr : compR f (items.drop (i + 1)) with
                | bad => rw [zr] at hcr; cases hcr
                | ex x => rw [zr] at hcr; cases hcr
                | ok ys3 =>
                  rw [zr] at hcr
                  cases hcr
                  refine spE.mk slE3 (by rw [ze]; intro h; cases h) (fun x e => by rw [ze] at e; cases e) fun dd e v H4 s4 lev4 _ => ?_
                  rw [ze] at e; cases e
                  have hD4 := s4 _ _ hD3
                  refine ⟨acc, hD4, by omega, hlt, ?_, acc ++ [v], ys1 ++ [yd], ys3, upd_same, zr, by rw [hys]; simp, by rw [List.length_append, List.length_singleton]; omega, fun Y O zy gy h1 h2 => ?_⟩
                  · intro b o e
                    have ne : b ≠ D := fun z => by subst z; rw [hD] at e; cases e
                    rw [upd_ne ne]
                    exact s4 _ _ (s3 _ _ (sH' _ _ e))
                  · have r1 : RpL Γ.K (addZ Y D) H4 ys1 acc := (((hrp Y O zy gy h1 h2).same s2).same s3).same s4
                    have zD : ZOk (addZ Y D) H3 := zok_add (((zy.same s1).same sH').same s3) hD3
                    have r2 := (lev4 (addZ Y D) _ zD ((slY Y O zy gy h1).same s3)).1 h2
                    exact (r1.updL hD4).append (RpL.one (r2.updL hD4))
      · left
        have e : i = items.length := by omega
        subst e
        refine ⟨iok.stop Hc fun a o _ e => sc1 a o e, ?_⟩
        rw [List.drop_length] at hcr
        cases hcr
        rw [List.append_nil] at hys
        subst hys
        refine q (.ref D) Hc (s1.trans sc1) (fun Y O zy gy => .if2 fun hc => ?_) (fun _ => ⟨D, acc, rfl, s1.free hD, hacc⟩)
        refine ⟨D, acc, rfl, .inl hacc, (zy.same s1).not_none hD, (hrp Y O zy gy hc.1 hc.2).weak fun a z => .inl z⟩
theorem x_comp (hf : Fx Γ n N sc X) {elt : E} {tg : Tg} {it : Itr} {cond : Eo} {el ite : Expr} {ifs : List Expr} {scope : Scope} (hi : PI X tge ite (spI Γ c W it))
    (ok : BlkOk X.N X.env.scope scope (ownOf N (tgIx tg))) (hown : (ownOf N (tgIx tg)).map (·.2) = tgIx tg)
    (hg : ∀ (s : Shared) (H : Hp) (C : Addr) (cl : List (Str × Addr)) (fp : List Addr), PG (X.blk s H scope (compEnvC scope cl C X.env) fp) tge (spG Γ.K tg))
    (ht : ∀ (s : Shared) (H : Hp) (C : Addr) (cl : List (Str × Addr)) (fp : List Addr), PTs (X.blk s H scope (compEnvC scope cl C X.env) fp) ifs (spCl Γ c W0 cond))
    (he : ∀ (s : Shared) (H : Hp) (C : Addr) (cl : List (Str × Addr)) (fp : List Addr), PE (X.blk s H scope (compEnvC scope cl C X.env) fp) el (spE Γ c W0 elt))
    (hs : ∀ x, foldedSetIterable ite X.env x = pure x) : PE X (.ListComp el [⟨tge, ite, ifs, 0⟩] scope pos) (spE Γ c W (.comp elt tg it cond)) := by
  refine PE.mono (pe_lc hf.calm (by rw [hf.eN]; exact hf.nd) hi ok hg ht he hs) fun σ H Q q => by rw [hown]; exact comp_core q
end
end Pw

/-! text PwX7 -/
/-! dicts, counts, places, caught errors: expressions -/
namespace Pw
open PySem PySem.Spec PyProof.Rows L2

/-! ### counts and places -/
theorem findIdx_py (y : D) (hy : y.plain = true) : ∀ xs : List D, D.plainL xs = true → SeqAt.dataPlace (D.pyL xs) y.py = xs.findIdx? fun z => z.eqv y
  | [], _ => rfl
  | x :: xs, h => by
    simp only [D.plainL, Bool.and_eq_true] at h
    have ih := findIdx_py y hy xs h.2
    unfold SeqAt.dataPlace at ih ⊢
    show List.findIdx? _ (x.py :: D.pyL xs) = _
    rw [List.findIdx?_cons, List.findIdx?_cons, ih, py_eqv x y h.1 hy]
theorem countP_py (y : D) (hy : y.plain = true) : ∀ xs : List D, D.plainL xs = true → ((D.pyL xs).countP fun z => PyData.eqv z y.py) = xs.countP fun z => z.eqv y
  | [], _ => rfl
  | x :: xs, h => by
    simp only [D.plainL, Bool.and_eq_true] at h
    have ih := countP_py y hy xs h.2
    show List.countP _ (x.py :: D.pyL xs) = _
    rw [List.countP_cons, List.countP_cons, ih, py_eqv x y h.1 hy]
def lmId : Lm → String
  | .cnt => "list.count"
  | .idx => "list.index"
def rLm (K : PySem.W.Frag) (m : Lm) : V → List V → Hp → VK → Prop := fun x xs H Q => ∃ o y d yv, xs = [yv] ∧ RpR K Em H o x ∧ RpR K Em H y yv ∧ lmR m o y = .ok d ∧ ∀ v, (∀ Y H, Rp K Y H d v) → Q v H
section
variable {X : Cx}
theorem lmR_ok {m : Lm} {o y d : D} (h : lmR m o y = .ok d) : ∃ xs, o = .lst xs ∧ y.plain = true ∧ y.dep ≤ 60 ∧ D.plainL xs = true := by
  unfold lmR at h
  split at h
  · split at h
    · rename_i hc
      simp only [Bool.and_eq_true] at hc
      exact ⟨_, rfl, (flat_ok hc.1).1, (flat_ok hc.1).2, hc.2⟩
    · cases h
  · split at h
    · rename_i hc
      simp only [Bool.and_eq_true] at hc
      exact ⟨_, rfl, (flat_ok hc.1.1).1, (flat_ok hc.1.1).2, hc.1.2⟩
    · cases h
  · cases h
theorem mt_lm (hu : X.A.units + 100 < cLine) (m : Lm) : MtR X (lmId m) (rLm X.K m) := by
  intro pins s σ H x xs v us Q I rx rxs h
  obtain ⟨o, y, d, yv, rfl, ho, hy, e, q⟩ := h
  obtain ⟨ts, rfl, p1, d1, p2⟩ := lmR_ok e
  obtain ⟨a, zs, e1, r1, g1⟩ := id ho
  subst e1
  cases rx
  obtain ⟨u, rfl, ru⟩ := rxs.one
  obtain ⟨bs, ry⟩ := Rp.reads I y yv u p1 hy ru
  obtain ⟨its, rv, ⟨ob, n, hob, hc, hd0, hdat⟩, hz⟩ := Inv.rdList I r1
  obtain ⟨as, rs⟩ := RpL.reads I ts zs its p2 g1 rv
  have hl : s.heap.IsList a its.toArray := ⟨ob, hob, hc, n, hdat⟩
  have hlen : its.length = zs.length := rv.length.symm
  have hroom : X.A.units + 1 + min (PyData.depthAll (D.pyL ts)) y.py.depth < cLine := by
    rw [py_dep y]
    have := Nat.min_le_right (PyData.depthAll (D.pyL ts)) y.dep
    omega
  cases m with
  | cnt =>
    have e : (if y.flat && D.plainL ts then R.ok (D.int ((ts.countP fun z => z.eqv y : Nat) : Int)) else R.bad) = .ok d := e
    split at e
    · cases e
      refine SeqAt.count_list_data hl (by simpa using rs) ry (py_plainL ts p2) (py_plain y p1) hroom ?_
      rw [countP_py y p1 ts p2]
      exact ⟨.int _, H, I.tok _, ⟨_, rfl⟩, q _ fun _ _ => rfl⟩
    · cases e
  | idx =>
    have e : (if y.flat && D.plainL ts && Nat.ble (D.depL ts) 60 then ofO ((ts.findIdx? fun z => z.eqv y).map fun (j : Nat) => D.int (j : Int)) else R.bad) = .ok d := e
    split at e
    · obtain ⟨j, e2, rfl⟩ := Option.map_eq_some_iff.mp (ofO_ok e)
      rw [← findIdx_py y p1 ts p2] at e2
      obtain ⟨hj, hit, hno⟩ := SeqAt.hit_at (vs := its.toArray) (by simpa using rs) (py_plainL ts p2) e2
      obtain ⟨cls, dd, data, sl⟩ := ob
      simp only at hc hdat hd0
      subst hc hdat hd0
      refine call_meets PySem.F.slot_list_index ⟨_, hob, rfl⟩ PySem.F.entry_list_index (PySem.F.args_list_index_2 _ _) (SeqAt.list_indexAt a its.toArray n none sl u (fun z => PyData.eqv (SeqAt.readOf s.heap z) y.py) j hj ?_ hit fun k hk hkj => hno k hk hkj) ⟨hob, SeqAt.items_plain (vs := its.toArray) (by simpa using rs) ry (py_plainL ts p2) (py_plain y p1) hroom, ?_⟩
      · have h1 := sizeLine_eq
        have h2 : j < its.length := by simpa using hj
        omega
      · exact ⟨.int (j : Nat), H, I.tok _, ⟨_, rfl⟩, q _ fun _ _ => rfl⟩
    · cases e
end
section
variable {Γ : Ctx} {c : Nat → List D → R D} {W : WX} {n : Nat} {N : List Str} {sc : Scope} {X : Cx} {pos : Pos}
theorem m1_of {o e : Expr} {m : Str} {apos cpos : Pos} (hb : attributeBase o m X.env (eval o X.env) = eval o X.env) (st : ∀ es, starEach (e :: es) X.env = (false, eval e X.env) :: starEach es X.env) (hl : (apos.endLine == cpos.line) = true) : M1 X o m apos e cpos :=
  ⟨hb, by rw [st []]; rfl, hl, by rw [st []]; rfl⟩
theorem lmR_noex {m : Lm} {a b : D} {x : Tx} : lmR m a b ≠ .ex x := by
  intro h
  unfold lmR at h
  split at h
  · split at h <;> cases h
  · split at h
    · exact ofO_noex h
    · cases h
  · cases h
theorem x_lm (hf : Fx Γ n N sc X) {m : Lm} {o a : E} {x y : Expr} {apos cpos : Pos} (ho : PE X x (spE Γ c W o)) (ha : PE X y (spE Γ c W a)) (hbase : attributeBase x (lmName m) X.env (eval x X.env) = eval x X.env)
    (hline : (apos.endLine == cpos.line) = true) (st : ∀ es, starEach (y :: es) X.env = (false, eval y X.env) :: starEach es X.env) : PE X (.Call (.Attribute x (lmName m) apos) [y] [] cpos) (spE Γ c W (.lm m o a)) := by
  have facts : PlainAttrs "list" ∧ Slot "list" (lmName m) (lmId m) ∧ typeOf (.builtin (lmId m)) = pure (.type "method_descriptor") := by
    cases m with
    | cnt => exact ⟨PySem.F.plainAttrs_list, PySem.F.slot_list_count, PySem.F.type_list_count⟩
    | idx => exact ⟨PySem.F.plainAttrs_list, PySem.F.slot_list_index, PySem.F.type_list_index⟩
  obtain ⟨f1, f2, f3⟩ := facts
  refine PE.mono (pe_bm f1 f2 f3 (mt_lm hf.units m) ho (pa_cons ha pa_nil (st [])) hbase (by rw [st []]; rfl) hline (st []) rfl) fun σ H Q h => ?_
  obtain ⟨ρ, g, q⟩ := h
  have q : match ((evE c o ρ).bind fun d => if d.isLst then (evE c a ρ).bind fun y => lmR m d y else .bad) with
    | .ok d => ∀ v H', Same H H' → (∀ Y O, ZOk Y H → SlG Γ.K Y O H σ ρ → Lv Γ.K Y 0 H' d v) → (true = true → Fr H H' d v) → Q v H'
    | .ex x => ∀ H', Same H H' → W (Γ.cl x) none σ H'
    | .bad => False := q
  refine spE.mk g (fun z => by rw [z] at q; exact q) (fun x z => by rw [z] at q; exact q) fun d z v H1 s1 lev _ => ?_
  rw [z, R.ok_bind] at q
  have ro := lev_em g lev
  cases d with
  | lst ds =>
    have q : match ((evE c a ρ).bind fun y => lmR m (.lst ds) y) with
      | .ok d => ∀ v H', Same H H' → (∀ Y O, ZOk Y H → SlG Γ.K Y O H σ ρ → Lv Γ.K Y 0 H' d v) → (true = true → Fr H H' d v) → Q v H'
      | .ex x => ∀ H', Same H H' → W (Γ.cl x) none σ H'
      | .bad => False := q
    obtain ⟨p, zs, e1, r1, _, g1⟩ := id ro
    refine ⟨by rw [e1]; exact .inl ⟨rfl, zs, .inl r1⟩, ?_⟩
    refine spE.mk (g.same s1) (fun z => by rw [z] at q; exact q) (fun x z H2 s2 => by rw [z] at q; exact q H2 (s1.trans s2)) fun y z2 w H2 s2 lev2 _ => ?_
    rw [z2, R.ok_bind] at q
    cases e : lmR m (.lst ds) y with
    | bad => rw [e] at q; exact q.elim
    | ex t => exact absurd e lmR_noex
    | ok r =>
      rw [e] at q
      refine ⟨.lst ds, y, r, w, rfl, by rw [hf.K]; exact (ro.same s2).relax, by rw [hf.K]; exact (lev_em (g.same s1) lev2).relax, e, fun u hu => q u H2 (s1.trans s2) (fun Y O _ _ => .of0 (by rw [← hf.K]; exact hu Y H2)) fun _ => ?_⟩
      have h0 := hu Em H2
      have : r.isLst = false ∧ r.isDct = false := by
        cases m with
        | cnt =>
          have e : (if y.flat && D.plainL ds then R.ok (D.int ((ds.countP fun z => z.eqv y : Nat) : Int)) else R.bad) = .ok r := e
          split at e
          · cases e; exact ⟨rfl, rfl⟩
          · cases e
        | idx =>
          have e : (if y.flat && D.plainL ds && Nat.ble (D.depL ds) 60 then ofO ((ds.findIdx? fun z => z.eqv y).map fun (j : Nat) => D.int (j : Int)) else R.bad) = .ok r := e
          split at e
          · obtain ⟨j, _, rfl⟩ := Option.map_eq_some_iff.mp (ofO_ok e)
            exact ⟨rfl, rfl⟩
          · cases e
      cases r with
      | lst _ => cases this.1
      | dct _ _ => cases this.2
      | _ => trivial
  | _ => exact (show False from q).elim
theorem x_sidx (hf : Fx Γ n N sc X) {o a : E} {x y : Expr} {apos cpos : Pos} (ho : PE X x (spE Γ c W o)) (ha : PE X y (spE Γ c W a)) (hbase : attributeBase x "index" X.env (eval x X.env) = eval x X.env)
    (hline : (apos.endLine == cpos.line) = true) (st : ∀ es, starEach (y :: es) X.env = (false, eval y X.env) :: starEach es X.env) : PE X (.Call (.Attribute x "index" apos) [y] [] cpos) (spE Γ c W (.sidx o a)) := by
  refine PE.mono (pe_bm PySem.F.plainAttrs_str PySem.F.slot_str_index PySem.F.type_str_index mt_sindex ho (pa_cons ha pa_nil (st [])) hbase (by rw [st []]; rfl) hline (st []) rfl) fun σ H Q h => ?_
  obtain ⟨ρ, g, q⟩ := h
  have q : match ((evE c o ρ).bind fun d => if d.isStr then (evE c a ρ).bind fun y => sidxR d y else .bad) with
    | .ok d => ∀ v H', Same H H' → (∀ Y O, ZOk Y H → SlG Γ.K Y O H σ ρ → Lv Γ.K Y 0 H' d v) → (true = true → Fr H H' d v) → Q v H'
    | .ex x => ∀ H', Same H H' → W (Γ.cl x) none σ H'
    | .bad => False := q
  refine spE.mk g (fun z => by rw [z] at q; exact q) (fun x z => by rw [z] at q; exact q) fun d z v H1 s1 lev _ => ?_
  rw [z, R.ok_bind] at q
  have ro := lev_em g lev
  cases d with
  | str t =>
    have q : match ((evE c a ρ).bind fun y => sidxR (.str t) y) with
      | .ok d => ∀ v H', Same H H' → (∀ Y O, ZOk Y H → SlG Γ.K Y O H σ ρ → Lv Γ.K Y 0 H' d v) → (true = true → Fr H H' d v) → Q v H'
      | .ex x => ∀ H', Same H H' → W (Γ.cl x) none σ H'
      | .bad => False := q
    have hv : v = .str (tx t) := ro.1
    subst hv
    refine ⟨rfl, ?_⟩
    refine spE.mk (g.same s1) (fun z => by rw [z] at q; exact q) (fun x z H2 s2 => by rw [z] at q; exact q H2 (s1.trans s2)) fun y z2 w H2 s2 lev2 _ => ?_
    rw [z2, R.ok_bind] at q
    have ry := lev_em (g.same s1) lev2
    cases y with
    | str t2 =>
      have hw : w = .str (tx t2) := ry.1
      subst hw
      unfold sidxR at q
      cases e : Builtin.Str.occurrences (tx0 t) (tx0 t2) 0 (tx0 t).length 1 with
      | nil => simp only [e] at q
      | cons i rest =>
        simp only [e] at q
        exact ⟨tx t, tx t2, i, rest, rfl, rfl, e, q _ H2 (s1.trans s2) (fun Y O _ _ => .of0 rfl) fun _ => trivial⟩
    | _ => exact (show False from q).elim
  | _ => exact (show False from q).elim
theorem x_two (hf : Fx Γ n N sc X) (G : Gk Γ) {m : Bool} {a b : E} {x y : Expr} {p : Pos} (hg : gloB sc (if m then ("max" : Str) else "min") = true) (pa : PA X [x, y] (spA Γ c W (.cons a (.cons b .nil)))) (hs : starEach [x, y] X.env = (false, eval x X.env) :: starEach [y] X.env) (hp : (backTo pos (starEach [y] X.env)).any (·.1) = false) :
    PE X (.Call (.Name (if m then ("max" : Str) else "min") p) [x, y] [] pos) (spE Γ c W (.two m a b)) := by
  have key : ∀ σ H Q, spE Γ c W (.two m a b) σ H Q → spA Γ c W (.cons a (.cons b .nil)) σ H fun vs H1 => ∃ i j, vs = [.int i, .int j] ∧ Q (.int (if m then (if j > i then j else i) else (if j < i then j else i))) H1 := fun σ H Q h => by
    obtain ⟨ρ, g, q⟩ := h
    have q : match ((evE c a ρ).bind fun x => (evE c b ρ).bind fun y => twoR m x y) with
      | .ok d => ∀ v H', Same H H' → (∀ Y O, ZOk Y H → SlG Γ.K Y O H σ ρ → Lv Γ.K Y 0 H' d v) → (true = true → Fr H H' d v) → Q v H'
      | .ex x => ∀ H', Same H H' → W (Γ.cl x) none σ H'
      | .bad => False := q
    have ev : evEs c (.cons a (.cons b .nil)) ρ = (evE c a ρ).bind fun x => (evE c b ρ).bind fun y => .ok [x, y] := by
      show ((evE c a ρ).bind fun d => ((evE c b ρ).bind fun d => (R.ok [] : R (List D)).bind fun ds => R.ok (d :: ds)).bind fun ds => R.ok (d :: ds)) = _
      cases evE c a ρ with
      | ok d => cases evE c b ρ <;> rfl
      | ex x => rfl
      | bad => rfl
    refine spA.mk g (fun z => ?_) (fun x z => ?_) fun ds z vs H1 s1 lev => ?_
    · rw [ev] at z
      cases ea : evE c a ρ with
      | bad => rw [ea] at q; exact q
      | ex x => rw [ea] at z; cases z
      | ok d =>
        rw [ea] at q z
        cases eb : evE c b ρ with
        | bad => rw [eb] at q; exact q
        | ex x => rw [eb] at z; cases z
        | ok d2 => rw [eb] at z; cases z
    · rw [ev] at z
      cases ea : evE c a ρ with
      | bad => rw [ea] at z; cases z
      | ex x => rw [ea] at q z; cases z; exact q
      | ok d =>
        rw [ea] at q z
        cases eb : evE c b ρ with
        | bad => rw [eb] at z; cases z
        | ex x => rw [eb] at q z; cases z; exact q
        | ok d2 => rw [eb] at z; cases z
    · rw [ev] at z
      cases ea : evE c a ρ with
      | bad => rw [ea] at z; cases z
      | ex x => rw [ea] at z; cases z
      | ok d =>
        rw [ea] at q z
        cases eb : evE c b ρ with
        | bad => rw [eb] at z; cases z
        | ex x => rw [eb] at z; cases z
        | ok d2 =>
          rw [eb] at q z
          cases z
          obtain ⟨v1, vs1, rfl, r1, v2, vs2, e2, r2, r3⟩ := levs_em g lev
          have r3 : vs2 = [] := r3
          subst e2 r3
          have q : match twoR m d d2 with
            | .ok d => ∀ v H', Same H H' → (∀ Y O, ZOk Y H → SlG Γ.K Y O H σ ρ → Lv Γ.K Y 0 H' d v) → (true = true → Fr H H' d v) → Q v H'
            | .ex x => ∀ H', Same H H' → W (Γ.cl x) none σ H'
            | .bad => False := q
          cases d with
          | int i =>
            cases d2 with
            | int j =>
              have r1 : v1 = .int i := r1
              have r2 : v2 = .int j := r2
              subst r1 r2
              refine ⟨i, j, rfl, ?_⟩
              cases m with
              | true => exact q _ H1 s1 (fun Y O _ _ => .of0 rfl) fun _ => trivial
              | false => exact q _ H1 s1 (fun Y O _ _ => .of0 rfl) fun _ => trivial
            | _ => cases m <;> exact (show False from q).elim
          | _ => cases m <;> exact (show False from q).elim
  cases m with
  | true => exact PE.mono (pe_callB (call_max2 hf.calm) (glo_of hf hg) (mg_free hf G (by decide)) (by decide +kernel) pa (he := hs) (hpl := hp)) fun σ H Q h => key σ H Q h
  | false => exact PE.mono (pe_callB (call_min2 hf.calm) (glo_of hf hg) (mg_free hf G (by decide)) (by decide +kernel) pa (he := hs) (hpl := hp)) fun σ H Q h => key σ H Q h
/-! ### a thing's own -/
theorem str_tx (x : Str) : x = tx x.cps.toList := by
  cases x with
  | mk c => simp [tx]
theorem fld_at {K : PySem.W.Frag} {Z : Addr → Prop} {H : Hp} (f : Tx) : ∀ {fs : List (Str × V)} {vs : List D} {d : D}, RpL K Z H vs (fs.map fun p => p.2) → fldR f (fs.map fun p => p.1.cps.toList) vs = some d → ∃ v, fs.lookup (tx f) = some v ∧ Rp K Z H d v
  | [], vs, d, _, e => by cases vs <;> cases e
  | p :: fs, vs, d, h, e => by
    cases vs with
    | nil => cases e
    | cons w ws =>
      obtain ⟨v, us, q, h1, h2⟩ := h
      cases q
      have e : (if p.1.cps.toList = f then some w else fldR f (fs.map fun p => p.1.cps.toList) ws) = some d := e
      by_cases hf : p.1.cps.toList = f
      · rw [if_pos hf] at e
        cases e
        refine ⟨p.2, ?_, h1⟩
        have ep : p.1 = tx f := by rw [← hf]
        obtain ⟨p1, p2⟩ := p
        cases ep
        exact List.lookup_cons_self
      · rw [if_neg hf] at e
        obtain ⟨v, e1, e2⟩ := fld_at f h2 e
        refine ⟨v, ?_, e2⟩
        obtain ⟨p1, p2⟩ := p
        rw [List.lookup_cons, beq_eq_false_iff_ne.mpr (fun z => hf (by rw [← z]))]
        exact e1
theorem x_fld (hf : Fx Γ n N sc X) (G : Gk Γ) {cs : List Tx} {a : E} {f : Tx} {x : Expr} (ha : PE X x (spE Γ c W a)) (hcs : ∀ k, k ∈ cs → clB Γ.tb k f = true) (hb : attributeBase x (tx f) X.env (eval x X.env) = eval x X.env) : PE X (.Attribute x (tx f) pos) (spE Γ c W (.fld cs a f)) := by
  refine PE.mono (pe_fld ha hb) fun σ H Q h => ?_
  obtain ⟨ρ, g, q⟩ := h
  have q : match ((evE c a ρ).bind (fldD cs f)) with
    | .ok d => ∀ v H', Same H H' → (∀ Y O, ZOk Y H → SlG Γ.K Y O H σ ρ → Lv Γ.K Y (if lv O a ≤ 1 then 0 else 2) H' d v) → (false = true → Fr H H' d v) → Q v H'
    | .ex x => ∀ H', Same H H' → W (Γ.cl x) none σ H'
    | .bad => False := q
  refine spE.mk g (fun z => by rw [z] at q; exact q) (fun x z => by rw [z] at q; exact q) fun d z v H1 s1 lev _ => ?_
  rw [z, R.ok_bind] at q
  have rp := lev_em g lev
  cases d with
  | ins k ns vs =>
    have q : match (if cs.contains k then ofO (fldR f ns vs) else R.bad) with
      | .ok d => ∀ v H', Same H H' → (∀ Y O, ZOk Y H → SlG Γ.K Y O H σ ρ → Lv Γ.K Y (if lv O a ≤ 1 then 0 else 2) H' d v) → (false = true → Fr H H' d v) → Q v H'
      | .ex x => ∀ H', Same H H' → W (Γ.cl x) none σ H'
      | .bad => False := q
    cases hk : cs.contains k with
    | false => rw [hk] at q; exact (show False from q).elim
    | true =>
      rw [hk] at q
      cases ef : fldR f ns vs with
      | none => simp only [ef] at q; exact (show False from q).elim
      | some d0 =>
        simp only [ef] at q
        have q0 : ∀ v H', Same H H' → (∀ Y O, ZOk Y H → SlG Γ.K Y O H σ ρ → Lv Γ.K Y (if lv O a ≤ 1 then 0 else 2) H' d0 v) → (false = true → Fr H H' d0 v) → Q v H' := q
        clear q
        obtain ⟨ad, dx, fs, e1, e2, _, e3, e4⟩ := rp
        subst e3
        obtain ⟨w, h1, h2⟩ := fld_at f e4 ef
        have hc := hcs k (by simpa using hk)
        unfold clB at hc
        obtain ⟨p, hp, hq⟩ := List.any_eq_true.mp hc
        simp only [Bool.and_eq_true, decide_eq_true_eq] at hq
        obtain ⟨c1, c2⟩ := G.cls p hp
        rw [hq.1] at c1 c2
        refine ⟨ad, _, dx, fs, w, e1, e2, by rw [hf.K]; exact c1, by rw [hf.K]; exact c2 f (by simpa using hq.2), h1, ?_⟩
        refine q0 w H1 s1 (fun Y O zy gy => .if2 fun h0 => ?_) fun z => by cases z
        have r2 : Rp Γ.K Y H1 (.ins k (fs.map fun p => p.1.cps.toList) vs) v := (lev Y O zy gy).2 h0
        obtain ⟨ad', dx', fs', e1', e2', _, e3', e4'⟩ := r2
        rw [e1] at e1'; cases e1'
        rw [e2] at e2'
        injection (Option.some.inj e2') with w1 w2 w3
        subst w3
        obtain ⟨w', h1', h2'⟩ := fld_at f e4' ef
        rw [h1] at h1'; cases h1'
        exact h2'
  | _ => exact (show False from q).elim
/-! ### dicts -/
theorem x_dnew : PE X (.Dict [] [] pos) (spE Γ c W .dnew) := by
  refine PE.mono pe_dnewK fun σ H Q h => ?_
  obtain ⟨ρ, g, q⟩ := h
  exact fun p hp => q _ _ (same_upd hp) (fun Y O zy gy => .of0 (Rp.new_dct (kvs := []) hp (zy.not_none hp) (fun t m => by cases m) rfl)) fun _ => ⟨p, [], rfl, hp, upd_same⟩
theorem dgetR_ok {K : PySem.W.Frag} {d k z r : D} (h : dgetR d k z = .ok r) : ∃ ks vs, d = .dct ks vs ∧ isKey k = true ∧ r = (dfind k ks vs).getD z := by
  unfold dgetR at h
  split at h
  · split at h
    · rename_i hk
      cases h
      exact ⟨_, _, rfl, hk, rfl⟩
    · cases h
  · cases h
theorem dgetR_noex {a b d : D} {x : Tx} : dgetR a b d ≠ .ex x := by
  intro h
  unfold dgetR at h
  split at h
  · split at h <;> cases h
  · cases h
theorem rd_dk {H : Hp} {a : Addr} {k1 k2 : List (Key × V)} (r : Rd H a (.dK k1)) (t : Rd H a (.dK k2)) : k1 = k2 := by
  rcases r with r | ⟨o, r⟩ <;> rcases t with t | ⟨o', t⟩ <;> (rw [r] at t; cases t; first | done | rfl)
theorem x_dget (hf : Fx Γ n N sc X) {o k : E} {x y : Expr} {apos cpos : Pos} (ho : PE X x (spE Γ c W o)) (hk : PE X y (spE Γ c W k)) (hbase : attributeBase x "get" X.env (eval x X.env) = eval x X.env)
    (hline : (apos.endLine == cpos.line) = true) (st : ∀ es, starEach (y :: es) X.env = (false, eval y X.env) :: starEach es X.env) : PE X (.Call (.Attribute x "get" apos) [y] [] cpos) (spE Γ c W (.dget o k)) := by
  refine PE.mono (pe_dget1 (by have := hf.units; omega) ho hk (m1_of hbase st hline)) fun σ H Q h => ?_
  obtain ⟨ρ, g, q⟩ := h
  have q : match ((evE c o ρ).bind fun d => if d.isDct then (evE c k ρ).bind fun y => dgetR d y .non else .bad) with
    | .ok d => ∀ v H', Same H H' → (∀ Y O, ZOk Y H → SlG Γ.K Y O H σ ρ → Lv Γ.K Y (if lv O o ≤ 1 then 0 else 2) H' d v) → (false = true → Fr H H' d v) → Q v H'
    | .ex x => ∀ H', Same H H' → W (Γ.cl x) none σ H'
    | .bad => False := q
  refine spE.mk g (fun z => by rw [z] at q; exact q) (fun x z => by rw [z] at q; exact q) fun d z v H1 s1 lev _ => ?_
  rw [z, R.ok_bind] at q
  have ro := lev_em g lev
  cases d with
  | dct ks vs =>
    have q : match ((evE c k ρ).bind fun y => dgetR (.dct ks vs) y .non) with
      | .ok d => ∀ v H', Same H H' → (∀ Y O, ZOk Y H → SlG Γ.K Y O H σ ρ → Lv Γ.K Y (if lv O o ≤ 1 then 0 else 2) H' d v) → (false = true → Fr H H' d v) → Q v H'
      | .ex x => ∀ H', Same H H' → W (Γ.cl x) none σ H'
      | .bad => False := q
    obtain ⟨p, kvs, e1, r1, _, ek, el, g1⟩ := id ro
    subst ek
    refine ⟨p, e1, .inl ⟨kvs, r1⟩, ?_⟩
    refine spE.mk (g.same s1) (fun z => by rw [z] at q; exact q) (fun x z H2 s2 => by rw [z] at q; exact q H2 (s1.trans s2)) fun yd z2 w H2 s2 lev2 _ => ?_
    rw [z2, R.ok_bind] at q
    cases e : dgetR (.dct (kDs kvs) vs) yd .non with
    | bad => rw [e] at q; exact q.elim
    | ex t => exact absurd e dgetR_noex
    | ok r =>
      rw [e] at q
      obtain ⟨ks', vs', ed, hkey, er⟩ := dgetR_ok (K := Γ.K) e
      cases ed
      obtain ⟨kk, rfl, ew, _⟩ := key_of_rp hkey (lev_em (g.same s1) lev2).relax
      subst ew
      have r2 := rd_same s2 r1
      have vals : ∀ Y, RpL Γ.K Y H2 vs (kvs.map fun p => p.2) → Rp Γ.K Y H2 r ((valV kvs kk).getD .non) := fun Y gg => by
        obtain ⟨i1, i2, _⟩ := dfind_ok kk gg
        cases ef : dfind (kD kk) (kvs.map fun p => kD p.1) vs with
        | none =>
          rw [ef] at er
          rw [i2 ef, er]
          rfl
        | some d0 =>
          rw [ef] at er
          obtain ⟨u, e5, e6⟩ := i1 _ ef
          rw [e5, er]
          exact e6
      refine ⟨valV kvs kk, .inl ⟨kvs, kk, r2, rfl, rfl⟩, q _ H2 (s1.trans s2) (fun Y O zy gy => .if2 fun h1 => vals Y ?_) (fun z => by cases z)⟩
      obtain ⟨p', kvs', e7, r7, _, _, g7⟩ := (lev Y O zy gy).2 h1
      rw [e1] at e7; cases e7
      have e8 := rd_dk r1 r7
      subst e8
      exact g7.same s2
  | _ => exact (show False from q).elim
theorem m2_of {o e f : Expr} {m : Str} {apos cpos : Pos} (hb : attributeBase o m X.env (eval o X.env) = eval o X.env) (st : ∀ es, starEach (e :: es) X.env = (false, eval e X.env) :: starEach es X.env) (st2 : ∀ es, starEach (f :: es) X.env = (false, eval f X.env) :: starEach es X.env) (hl : (apos.endLine == cpos.line) = true) : M2 X o m apos e f cpos :=
  ⟨hb, by rw [st [f], st2 []]; rfl, hl, by rw [st [f], st2 []]; rfl⟩
theorem x_dget2 (hf : Fx Γ n N sc X) {o k z0 : E} {x y w0 : Expr} {apos cpos : Pos} (ho : PE X x (spE Γ c W o)) (hk : PE X y (spE Γ c W k)) (hz0 : PE X w0 (spE Γ c W z0)) (hbase : attributeBase x "get" X.env (eval x X.env) = eval x X.env)
    (hline : (apos.endLine == cpos.line) = true) (st : ∀ es, starEach (y :: es) X.env = (false, eval y X.env) :: starEach es X.env) (st2 : ∀ es, starEach (w0 :: es) X.env = (false, eval w0 X.env) :: starEach es X.env) : PE X (.Call (.Attribute x "get" apos) [y, w0] [] cpos) (spE Γ c W (.dget2 o k z0)) := by
  refine PE.mono (pe_dget2 (by have := hf.units; omega) ho hk hz0 (m2_of hbase st st2 hline)) fun σ H Q h => ?_
  obtain ⟨ρ, g, q⟩ := h
  have q : match ((evE c o ρ).bind fun d => if d.isDct then (evE c k ρ).bind fun y => (evE c z0 ρ).bind fun w => dgetR d y w else .bad) with
    | .ok d => ∀ v H', Same H H' → (∀ Y O, ZOk Y H → SlG Γ.K Y O H σ ρ → Lv Γ.K Y (if lv O o ≤ 1 ∧ lv O z0 = 0 then 0 else 2) H' d v) → (false = true → Fr H H' d v) → Q v H'
    | .ex x => ∀ H', Same H H' → W (Γ.cl x) none σ H'
    | .bad => False := q
  refine spE.mk g (fun z => by rw [z] at q; exact q) (fun x z => by rw [z] at q; exact q) fun d z v H1 s1 lev _ => ?_
  rw [z, R.ok_bind] at q
  have ro := lev_em g lev
  cases d with
  | dct ks vs =>
    have q : match ((evE c k ρ).bind fun y => (evE c z0 ρ).bind fun w => dgetR (.dct ks vs) y w) with
      | .ok d => ∀ v H', Same H H' → (∀ Y O, ZOk Y H → SlG Γ.K Y O H σ ρ → Lv Γ.K Y (if lv O o ≤ 1 ∧ lv O z0 = 0 then 0 else 2) H' d v) → (false = true → Fr H H' d v) → Q v H'
      | .ex x => ∀ H', Same H H' → W (Γ.cl x) none σ H'
      | .bad => False := q
    obtain ⟨p, kvs, e1, r1, _, ek, el, g1⟩ := id ro
    subst ek
    refine ⟨p, e1, .inl ⟨kvs, r1⟩, ?_⟩
    refine spE.mk (g.same s1) (fun z => by rw [z] at q; exact q) (fun x z H2 s2 => by rw [z] at q; exact q H2 (s1.trans s2)) fun yd z2 w H2 s2 lev2 _ => ?_
    rw [z2, R.ok_bind] at q
    refine spE.mk ((g.same s1).same s2) (fun z => by rw [z] at q; exact q) (fun x z H3 s3 => by rw [z] at q; exact q H3 ((s1.trans s2).trans s3)) fun zd z3 w3 H3 s3 lev3 _ => ?_
    rw [z3, R.ok_bind] at q
    cases e : dgetR (.dct (kDs kvs) vs) yd zd with
    | bad => rw [e] at q; exact q.elim
    | ex t => exact absurd e dgetR_noex
    | ok r =>
      rw [e] at q
      obtain ⟨ks', vs', ed, hkey, er⟩ := dgetR_ok (K := Γ.K) e
      cases ed
      obtain ⟨kk, rfl, ew, _⟩ := key_of_rp hkey (lev_em (g.same s1) lev2).relax
      subst ew
      have r2 := rd_same (s2.trans s3) r1
      have vals : ∀ Y, RpL Γ.K Y H3 vs (kvs.map fun p => p.2) → Rp Γ.K Y H3 zd w3 → Rp Γ.K Y H3 r ((valV kvs kk).getD w3) := fun Y gg gz => by
        obtain ⟨i1, i2, _⟩ := dfind_ok kk gg
        cases ef : dfind (kD kk) (kvs.map fun p => kD p.1) vs with
        | none =>
          rw [ef] at er
          rw [i2 ef, er]
          exact gz
        | some d0 =>
          rw [ef] at er
          obtain ⟨u, e5, e6⟩ := i1 _ ef
          rw [e5, er]
          exact e6
      refine ⟨valV kvs kk, .inl ⟨kvs, kk, r2, rfl, rfl⟩, q _ H3 ((s1.trans s2).trans s3) (fun Y O zy gy => .if2 fun h1 => vals Y ?_ ?_) (fun z => by cases z)⟩
      · obtain ⟨p', kvs', e7, r7, _, _, g7⟩ := (lev Y O zy gy).2 h1.1
        rw [e1] at e7; cases e7
        have e8 := rd_dk r1 r7
        subst e8
        exact g7.same (s2.trans s3)
      · exact (lev3 Y O ((zy.same s1).same s2) ((gy.same s1).same s2)).1 h1.2
  | _ => exact (show False from q).elim
/-! ### caught errors -/
theorem call_isx : CallR X (.builtin "isinstance") (fun xs H Q => ∃ (a : Addr) (c0 : Tx) (cv : V) (cu : Value) (b : Bool), xs = [.ref a, cv] ∧ H a = some (exO X.K c0 a) ∧ ExcC X.K (He.ga X.K (tx c0)) ∧ ClsV cv cu ∧ PySem.W.kitOne X.K (.ref (He.ga X.K (tx c0))) cu = some b ∧ Q (.bl b) H) := by
  intro pins s σ H xs us Q I r h
  obtain ⟨a, c0, cv, cu, b, rfl, ha, C, k, e, q⟩ := h
  obtain ⟨u1, u2, rfl, r1, r2⟩ := vals2 r
  cases r1
  have e2 := k.eq r2
  subst e2
  obtain ⟨⟨o, vs, ho, hc, hd, hv⟩, _⟩ := I.hok a _ ha
  have J : PySem.W.InstAt s.heap a o (He.ga X.K (tx c0)) none := by
    obtain ⟨oc, od, oda, osl⟩ := o
    dsimp only at hc hd hv
    subst hc hd hv
    exact ⟨ho, rfl, rfl, trivial⟩
  exact PySem.W.kia_one (PySem.W.handS_kitx_exc C.hg C.hk C.hs C.hd C.ha C.hn C.ht C.hm) I.kIn J e (fun z => nomatch z) fun tk => ⟨.bl b, H, I.kept (t' := tk) fun _ _ z => z, rfl, q⟩
theorem x_isx (hf : Fx Γ n N sc X) (G : Gk Γ) {cs : List Tx} {x : Tx} {a : E} {y : Expr} {p p2 : Pos} (hg : gloB sc "isinstance" = true) (hg2 : gloB sc (tx x) = true) (hd2 : dbgB (tx x) = true) (hx : x = VERR ∨ x ∈ Γ.tb.xs) (hcs : ∀ y, y ∈ cs → y ∈ Γ.tb.xs) (ha : PE X y (spE Γ c W a))
    (st : ∀ es, starEach (y :: es) X.env = (false, eval y X.env) :: starEach es X.env) : PE X (.Call (.Name "isinstance" p) [y, .Name (tx x) p2] [] pos) (spE Γ c W (.isx cs a x)) := by
  have cls : ∃ cv cu, PE X (.Name (tx x) p2) (tC cv) ∧ ClsV cv cu ∧ ∀ c0, c0 ∈ Γ.tb.xs → PySem.W.kitOne Γ.K (.ref (He.ga Γ.K (tx c0))) cu = some (subX c0 x) := by
    by_cases hv : x = VERR
    · subst hv
      have e1 : tx VERR = ("ValueError" : Str) := rfl
      refine ⟨.ty "ValueError", .type "ValueError", ?_, .ty _, fun c0 h0 => ?_⟩
      · rw [e1] at hg2 ⊢
        exact pe_bltn (glo_of hf hg2) (mg_free hf G (by decide)) (by decide +kernel) rfl (by decide) (by decide)
      · rw [G.exv c0 h0]
        unfold subX
        simp
    · have hx := hx.resolve_left hv
      refine ⟨.ref (He.ga Γ.K (tx x)), .ref (He.ga Γ.K (tx x)), ?_, .own _, fun c0 h0 => G.exk c0 x h0 hx⟩
      exact pe_glob (glo_of hf hg2) (by rw [hf.mg]; exact (G.exc x hx).1) rfl (dbg_of hd2).1
  obtain ⟨cv, cu, pt, kc, kk⟩ := cls
  refine PE.mono (pe_callB call_isx (glo_of hf hg) (mg_free hf G (by decide)) (by decide +kernel) (pa_cons ha (pa_cons pt pa_nil rfl) (st _)) (he := st _) (hpl := rfl)) fun σ H Q h => ?_
  obtain ⟨ρ, g, q⟩ := h
  have q : match ((evE c a ρ).bind fun d => mapR .bl (isX cs x d)) with
    | .ok d => ∀ v H', Same H H' → (∀ Y O, ZOk Y H → SlG Γ.K Y O H σ ρ → Lv Γ.K Y 0 H' d v) → (true = true → Fr H H' d v) → Q v H'
    | .ex x => ∀ H', Same H H' → W (Γ.cl x) none σ H'
    | .bad => False := q
  refine spE.mk g (fun z => by rw [z] at q; exact q) (fun x z => by rw [z] at q; exact q) fun d z v H1 s1 lev _ => ?_
  rw [z, R.ok_bind] at q
  have ro := lev_em g lev
  cases d with
  | exc c0 =>
    obtain ⟨ad, e1, e2⟩ := ro
    have q : match mapR D.bl (if cs.contains c0 then R.ok (subX c0 x) else R.bad) with
      | .ok d => ∀ v H', Same H H' → (∀ Y O, ZOk Y H → SlG Γ.K Y O H σ ρ → Lv Γ.K Y 0 H' d v) → (true = true → Fr H H' d v) → Q v H'
      | .ex x => ∀ H', Same H H' → W (Γ.cl x) none σ H'
      | .bad => False := q
    cases hc : cs.contains c0 with
    | false => rw [hc] at q; exact (show False from q).elim
    | true =>
      rw [hc] at q
      have h0 := hcs c0 (by simpa using hc)
      refine ⟨ad, c0, cv, cu, subX c0 x, by rw [e1], by rw [hf.K]; exact e2, by rw [hf.K]; exact G.exi c0 h0, kc, by rw [hf.K]; exact kk c0 h0, ?_⟩
      exact q _ H1 s1 (fun Y O _ _ => .of0 rfl) fun _ => trivial
  | _ => exact (show False from q).elim
end
end Pw

/-! text PwZi -/
/-! zip of two: lists, tuples, texts -/
namespace Pw
open PySem PySem.Spec PyProof.Rows L2
theorem vals_ix {xs : List V} {us : List Value} {i : Nat} {u : Value} (r : Vals xs us) (h : us[i]? = some u) : ∃ x, xs[i]? = some x ∧ RelV x u := by
  have hl : i < xs.length := by
    rw [r.length]
    exact (List.getElem?_eq_some_iff.mp h).1
  obtain ⟨v, e, q⟩ := r.get (List.getElem?_eq_getElem hl)
  rw [h] at e
  cases e
  exact ⟨_, List.getElem?_eq_getElem hl, q⟩
/-- what can be gone through -/
inductive Sr where
  | lst (a : Addr)
  | tup (a : Addr)
  | txt (x : Str)
def Sr.has (K : PySem.W.Frag) (H : Hp) : Sr → List V → Prop
  | .lst a, xs => SqL K H a xs
  | .tup a, xs => SqT K H a xs
  | .txt x, xs => xs = x.cps.toList.map fun c => V.str ⟨#[c]⟩
def Sr.off : Sr → Addr → Prop
  | .lst a, b => a ≠ b
  | .tup a, b => a ≠ b
  | .txt _, _ => True
def Sr.v : Sr → V
  | .lst a => .ref a
  | .tup a => .ref a
  | .txt x => .str x
def Sr.st (it : Addr) (i : Nat) (h : Heap) : Sr → Prop
  | .lst a => h.IsListIter it a i
  | .tup a => h.IsTupleIter it a i
  | .txt x => ∃ t, h.IsStrIter it (strIterType x) x t i
theorem Sr.obj {k : Sr} {it : Addr} {i : Nat} {h : Heap} (s : k.st it i h) : ∃ o vs, h.get? it = some o ∧ o.data = .fields vs := by
  cases k with
  | lst a => obtain ⟨o, e, _, d⟩ := s; exact ⟨o, _, e, d⟩
  | tup a => obtain ⟨o, e, _, d⟩ := s; exact ⟨o, _, e, d⟩
  | txt x => obtain ⟨t, o, e, _, d⟩ := s; exact ⟨o, _, e, d⟩
theorem Sr.keep {k : Sr} {it : Addr} {i : Nat} {h h' : Heap} (s : k.st it i h) (e : ∀ o, h.get? it = some o → h'.get? it = some o) : k.st it i h' := by
  cases k with
  | lst a => obtain ⟨o, q, r⟩ := s; exact ⟨o, e o q, r⟩
  | tup a => obtain ⟨o, q, r⟩ := s; exact ⟨o, e o q, r⟩
  | txt x => obtain ⟨t, o, q, r⟩ := s; exact ⟨t, o, e o q, r⟩
section
variable {X : Cx} {pins : List (Addr × Obj)} {σ : L2.St} {H : Hp} {s : Shared}
theorem Sr.draws (hc : X.calm = true) (I : Inv X pins σ H s) {k : Sr} {xs : List V} (h : k.has X.K H xs) {it : Addr} {i : Nat} (st : k.st it i s.heap) :
    ∃ (fp : List Addr) (P : Nat → Value → Prop) (St : Nat → Heap → Prop), Draws X.prog X.w X.A.in1 it fp xs.length P St ∧ St i s.heap ∧ (∀ j h, St j h → k.st it j h) ∧ (∀ j v, P j v → ∃ x, xs[j]? = some x ∧ RelV x v) ∧ it ∈ fp ∧ ∀ b, b ≠ it → k.off b → b ∉ fp := by
  have hh : X.A.in1.handled = none := I.ok.hd hc
  cases k with
  | lst a =>
    obtain ⟨its, rv, p, hz⟩ := I.list h
    have hai : a ≠ it := fun z => by
      subst z
      obtain ⟨o1, q1, c1, _⟩ := p.isList
      obtain ⟨o2, q2, c2, _⟩ := st
      rw [q1] at q2; cases q2
      rw [c1] at c2
      exact absurd c2 (by decide)
    have D := Draws.list (prog := X.prog) (w := X.w) (A := X.A.in1) hh it a hai its.toArray
    have hl : its.toArray.size = xs.length := by simp [rv.length]
    rw [hl] at D
    refine ⟨_, _, _, D, ⟨st, p.isList⟩, fun j h z => z.1, fun j v e => ?_, by simp, fun b hb ho z => ?_⟩
    · have e : its[j]? = some v := by simpa using e
      exact vals_ix rv e
    · simp at z
      rcases z with z | z
      · exact hb z
      · exact ho z.symm
  | tup a =>
    obtain ⟨its, rv, p, hz⟩ := I.tuple h
    have hai : a ≠ it := fun z => by
      subst z
      obtain ⟨o1, q1, c1, _⟩ := p
      obtain ⟨o2, q2, c2, _⟩ := st
      rw [q1] at q2; cases q2
      rw [c1] at c2
      exact absurd c2 (by decide)
    have D := Draws.tuple (prog := X.prog) (w := X.w) (A := X.A.in1) hh it a hai its.toArray
    have hl : its.toArray.size = xs.length := by simp [rv.length]
    rw [hl] at D
    refine ⟨_, _, _, D, ⟨st, p⟩, fun j h z => z.1, fun j v e => ?_, by simp, fun b hb ho z => ?_⟩
    · have e : its[j]? = some v := by simpa using e
      exact vals_ix rv e
    · simp at z
      rcases z with z | z
      · exact hb z
      · exact ho z.symm
  | txt x =>
    have h : xs = x.cps.toList.map fun c => V.str ⟨#[c]⟩ := h
    subst h
    obtain ⟨t, st⟩ := st
    have D := Draws.text (prog := X.prog) (w := X.w) (A := X.A.in1) hh it x t
    have hl : x.cps.size = (x.cps.toList.map fun c => V.str ⟨#[c]⟩).length := by simp
    rw [hl] at D
    refine ⟨_, _, _, D, st, fun j h z => ⟨t, z⟩, fun j v e => ?_, by simp, fun b hb _ z => hb (by simpa using z)⟩
    obtain ⟨c, u, e1, rfl⟩ := e
    exact ⟨.str ⟨#[c]⟩, by simp [e1], u, rfl⟩
theorem Sr.inj (I : Inv X pins σ H s) {k : Sr} {xs ys : List V} (h1 : k.has X.K H xs) (h2 : k.has X.K H ys) : xs = ys := by
  cases k with
  | lst a => exact I.list_inj h1 h2
  | tup a => exact I.tuple_inj h1 h2
  | txt x => exact h1.trans h2.symm
theorem Sr.lt (I : Inv X pins σ H s) {k : Sr} {xs : List V} (h : k.has X.K H xs) {b : Addr} (hb : s.heap.objs.size ≤ b) : k.off b := by
  cases k with
  | lst a =>
    obtain ⟨its, rv, p, hz⟩ := I.list h
    exact Nat.ne_of_lt (Nat.lt_of_lt_of_le p.lt hb)
  | tup a =>
    obtain ⟨its, rv, p, hz⟩ := I.tuple h
    obtain ⟨o, ho, _⟩ := p
    exact Nat.ne_of_lt (Nat.lt_of_lt_of_le (Heap.lt_size ho) hb)
  | txt x => trivial
theorem Sr.begins (I : Inv X pins σ H s) {k : Sr} {xs : List V} (h : k.has X.K H xs) {u : Value} (r : RelV k.v u) : ∃ (o : Obj) (Hh : Heap → Prop), Begins u o Hh ∧ Hh s.heap ∧ ∀ h' it, h'.get? it = some o → k.st it 0 h' := by
  cases k with
  | lst a =>
    cases r
    obtain ⟨its, rv, p, hz⟩ := I.list h
    exact ⟨_, _, begins_list a its.toArray, p.isList, fun h' it e => ⟨_, e, rfl, rfl⟩⟩
  | tup a =>
    cases r
    obtain ⟨its, rv, p, hz⟩ := I.tuple h
    exact ⟨_, _, begins_tuple a its.toArray, p, fun h' it e => ⟨_, e, rfl, rfl⟩⟩
  | txt x =>
    obtain ⟨t, rfl⟩ := r
    exact ⟨_, _, begins_text x t, trivial, fun h' it e => ⟨t, _, e, rfl, rfl⟩⟩
end
def Itz2 (K : PySem.W.Frag) (k1 k2 : Sr) : L2.It :=
  ⟨fun i H => ∃ (xs ys : List V) (x y : V), k1.has K H xs ∧ k2.has K H ys ∧ xs[i]? = some x ∧ ys[i]? = some y,
    fun i H v H' => ∃ T x y, v = .ref T ∧ H T = none ∧ H' = upd H T (.tup [x, y]) ∧ (∀ xs, k1.has K H xs → xs[i]? = some x) ∧ ∀ ys, k2.has K H ys → ys[i]? = some y,
    fun i H => ∃ xs ys : List V, k1.has K H xs ∧ k2.has K H ys ∧ i = min xs.length ys.length⟩
theorem turn_zip2 {P : Program} {w : World} {K : PySem.W.Frag} {elts : List Expr} {kk : Nat} {tpos : Pos} {k1 k2 : Sr} {z TI TO i1 i2 : Addr} (dTIz : TI ≠ z) (dTOz : TO ≠ z) (dTITO : TI ≠ TO) (dTI1 : TI ≠ i1) (dTI2 : TI ≠ i2) (d12 : i1 ≠ i2) (dz1 : z ≠ i1) (dz2 : z ≠ i2) (dT1 : TO ≠ i1) (dT2 : TO ≠ i2)
    (f1z : k1.off z) (f1T : k1.off TO) (f12 : k1.off i2) (f2z : k2.off z) (f2T : k2.off TO) (f21 : k2.off i1) :
    Turn P w K (.Tuple elts kk tpos) (Itz2 K k1 k2) [z, TI, TO, i1, i2] z (fun i h => IsZip h z TI TO .none ∧ IsTupOf2 h TI (.ref i1) (.ref i2) ∧ (∃ x y, IsTupOf2 h TO x y) ∧ k1.st i1 i h ∧ k2.st i2 i h) where
  mem := by simp
  obj := fun i h st c hc => by
    obtain ⟨hz, hTI, ⟨x, y, hTO⟩, s1, s2⟩ := st
    obtain ⟨o1, v1, e1, d1⟩ := Sr.obj s1
    obtain ⟨o2, v2, e2, d2⟩ := Sr.obj s2
    have e' : c = z ∨ c = TI ∨ c = TO ∨ c = i1 ∨ c = i2 := by simpa using hc
    rcases e' with q | q | q | q | q
    · rw [q]; exact ⟨_, hz, fun v q => nomatch q⟩
    · rw [q]; exact ⟨_, hTI, fun v q => nomatch q⟩
    · rw [q]; exact ⟨_, hTO, fun v q => nomatch q⟩
    · rw [q]; exact ⟨o1, e1, fun v q => by rw [d1] at q; cases q⟩
    · rw [q]; exact ⟨o2, e2, fun v q => by rw [d2] at q; cases q⟩
  keep := fun i h h' st k => by
    obtain ⟨hz, hTI, ⟨x, y, hTO⟩, h1, h2⟩ := st
    exact ⟨k z (by simp) _ hz, k TI (by simp) _ hTI, ⟨x, y, k TO (by simp) _ hTO⟩, Sr.keep h1 fun o q => k i1 (by simp) o q, Sr.keep h2 fun o q => k i2 (by simp) o q⟩
  item := by
    intro X hP hw hK hc i pins s σ H E I hf st hg
    subst hP hw hK
    obtain ⟨hz, hTI, ⟨x0, y0, hTO⟩, h1, h2⟩ := st
    obtain ⟨xs, ys, x, y, hqx, hqy, hx, hy⟩ := hg
    obtain ⟨fp1, P1, St1, D1, st1, b1, p1, m1, n1⟩ := Sr.draws hc I hqx h1
    obtain ⟨fp2, P2, St2, D2, st2, b2, p2, m2, n2⟩ := Sr.draws hc I hqy h2
    have hzl : z < s.heap.objs.size := Heap.lt_size hz
    have S : ZipSep2 z TI TO i1 i2 fp1 fp2 := ⟨dTIz, dTOz, dTITO, dTI1, m1, n1 z dz1 f1z, n1 TO dT1 f1T, dTI2, m2, n2 z dz2 f2z, n2 TO dT2 f2T, n2 i1 d12 f21, n1 i2 (fun z => d12 z.symm) f12⟩
    refine wpAny_pyNext_zipD2_item S D1 D2 hz hTI hTO st1 st2 (List.getElem?_eq_some_iff.mp hx).1 (List.getElem?_eq_some_iff.mp hy).1 fun u u2 h' tk q1 q2 z' TO' h1' h2' hT hsz hk => ?_
    obtain ⟨x', hx', ru⟩ := p1 i u q1
    obtain ⟨y', hy', ru2⟩ := p2 i u2 q2
    rw [hx] at hx'; cases hx'
    rw [hy] at hy'; cases hy'
    refine ⟨_, rfl, wpAny_letOwnedTupleGo_zip (s := { s with heap := h', toks := tk }) z' fun h'' z'' sb => ?_⟩
    have hT2 : h''.get? s.heap.objs.size = some { cls := .type "tuple", data := .seq #[u, u2] } := (sb.2 _ (Nat.ne_of_gt hzl)).trans hT
    have new : ObjOk X.prog X.w (upd H s.heap.objs.size (.tup [x, y])) h'' s.heap.objs.size (.tup [x, y]) :=
      ⟨by show 2 ≤ sizeLine; decide, [u, u2], .cons ru (.cons ru2 .nil), ⟨_, hT2, rfl, _, rfl⟩⟩
    have I1 : Inv X pins σ (upd H s.heap.objs.size (.tup [x, y])) { s with heap := h'', toks := tk } :=
      I.turnedNew (t' := tk) (ch := [z, TI, TO, i1, i2]) (fun c o hb q => (sb.2 c (fun q' => hb (by simp [q']))).trans (hk c o (fun q' => hb (by simp [q'])) (fun q' => hb (by simp [q'])) (fun q' => hb (by simp [q'])) (fun q' => hb (by simp [q'])) q)) hf (Nat.le_refl _) new
    refine ⟨.ref s.heap.objs.size, _, I1, rfl, ⟨_, x, y, rfl, I.hok.fresh (Nat.le_refl _), rfl, fun l hl => by rw [Sr.inj I hl hqx]; exact hx, fun l hl => by rw [Sr.inj I hl hqy]; exact hy⟩, ⟨z'', ?_, ⟨u, u2, ?_⟩, ?_, ?_⟩, fun c hcm => ?_⟩
    · exact (sb.2 _ dTIz).trans (hk _ _ dTIz dTITO dTI1 dTI2 hTI)
    · exact (sb.2 _ dTOz).trans TO'
    · exact Sr.keep (b1 _ _ h1') fun o q => (sb.2 _ (fun z => dz1 z.symm)).trans q
    · exact Sr.keep (b2 _ _ h2') fun o q => (sb.2 _ (fun z => dz2 z.symm)).trans q
    · have hlt : c < s.heap.objs.size := by
        have e' : c = z ∨ c = TI ∨ c = TO ∨ c = i1 ∨ c = i2 := by simpa using hcm
        rcases e' with q | q | q | q | q
        · rw [q]; exact hzl
        · rw [q]; exact Heap.lt_size hTI
        · rw [q]; exact Heap.lt_size hTO
        · rw [q]; obtain ⟨_, _, e1, _⟩ := Sr.obj h1; exact Heap.lt_size e1
        · rw [q]; obtain ⟨_, _, e2, _⟩ := Sr.obj h2; exact Heap.lt_size e2
      rw [upd_ne (Nat.ne_of_lt hlt)]
      exact (hf c hcm).1
  done := by
    intro X hP hw hK hc i pins s σ H E I hf st hg
    subst hP hw hK
    obtain ⟨hz, hTI, ⟨x0, y0, hTO⟩, h1, h2⟩ := st
    obtain ⟨xs, ys, hqx, hqy, hend⟩ := hg
    obtain ⟨fp1, P1, St1, D1, st1, b1, p1, m1, n1⟩ := Sr.draws hc I hqx h1
    obtain ⟨fp2, P2, St2, D2, st2, b2, p2, m2, n2⟩ := Sr.draws hc I hqy h2
    have S : ZipSep2 z TI TO i1 i2 fp1 fp2 := ⟨dTIz, dTOz, dTITO, dTI1, m1, n1 z dz1 f1z, n1 TO dT1 f1T, dTI2, m2, n2 z dz2 f2z, n2 TO dT2 f2T, n2 i1 d12 f21, n1 i2 (fun z => d12 z.symm) f12⟩
    exact wpAny_pyNext_zipD2_end S D1 D2 hz hTI hTO st1 st2 (by omega) (by omega) (by omega) fun h' tk hk => ⟨rfl, I.turnedL (t' := tk) (ch := [z, TI, TO, i1, i2]) (fun c o hb q =>
      hk c o (fun q' => hb (by simp [q'])) (fun q' => hb (by simp [q'])) (fun q' => hb (by simp [q'])) (fun q' => hb (by simp [q'])) q) hf⟩
  self := fun A i s Q E st h => wpAny_pyIter_zip st.1 h
def iZip2 (K : PySem.W.Frag) (ta : TA) : TI := fun σ H R => ta σ H fun vs H1 => HG K H1 → ∃ (k1 k2 : Sr) (xs ys : List V), vs = [k1.v, k2.v] ∧ k1.has K H1 xs ∧ k2.has K H1 ys ∧ R (Itz2 K k1 k2) H1
theorem pi_zip2 {X : Cx} {e e2 : Expr} {ta : TA} {p pos tpos : Pos} {elts : List Expr} {kk : Nat} (hg : Gl X "zip") (hm : X.mg "zip" = none) (ha : PA X [e, e2] ta)
    (hs : starEach [e, e2] X.env = (false, eval e X.env) :: starEach [e2] X.env) (hpl : (backTo pos (starEach [e2] X.env)).any (·.1) = false) :
    PI X (.Tuple elts kk tpos) (.Call (.Name "zip" p) [e, e2] [] pos) (iZip2 X.K ta) := by
  refine ⟨fun pins s σ H R I h => ?_⟩
  refine Call_ (ld_blt I hg hm PyProof.Rows.boot_zip (PyProof.Rows.callWith_type1 (thn (ha.run pos pins s σ H _ I h) fun us s1 ⟨vs, H1, I1, r1, q1⟩ => ?_) hs hpl))
  obtain ⟨k1, k2, xs, ys, ex, hqx, hqy, q⟩ := q1 (Inv.hg I1)
  subst ex
  cases r1 with
  | cons r rr =>
    cases rr with
    | cons r' rr =>
      cases rr
      obtain ⟨o1, Hh1, B1, c1, w1⟩ := Sr.begins I1 hqx r
      obtain ⟨o2, Hh2, B2, c2, w2⟩ := Sr.begins I1 hqy r'
      refine zip_begins2 B1 B2 c1 c2 fun h' hz hTI hTO h1 h2 hsz hk => wpAny_pyIter_zip hz ?_
      have I2 : Inv X pins σ H1 { s1 with heap := h' } := I1.kept (t' := s1.toks) hk
      have f1 : ∀ b, s1.heap.objs.size ≤ b → k1.off b := fun b => Sr.lt I1 hqx
      have f2 : ∀ b, s1.heap.objs.size ≤ b → k2.off b := fun b => Sr.lt I1 hqy
      refine ⟨s1.heap.objs.size + 4, [s1.heap.objs.size + 4, s1.heap.objs.size + 2, s1.heap.objs.size + 3, s1.heap.objs.size, s1.heap.objs.size + 1], _, _, H1, rfl, I2, turn_zip2 (z := s1.heap.objs.size + 4) (TI := s1.heap.objs.size + 2) (TO := s1.heap.objs.size + 3) (i1 := s1.heap.objs.size) (i2 := s1.heap.objs.size + 1) (show (s1.heap.objs.size + 2 : Nat) ≠ s1.heap.objs.size + 4 by omega) (show (s1.heap.objs.size + 3 : Nat) ≠ s1.heap.objs.size + 4 by omega) (show (s1.heap.objs.size + 2 : Nat) ≠ s1.heap.objs.size + 3 by omega) (show (s1.heap.objs.size + 2 : Nat) ≠ s1.heap.objs.size + 0 by omega) (show (s1.heap.objs.size + 2 : Nat) ≠ s1.heap.objs.size + 1 by omega) (show (s1.heap.objs.size + 0 : Nat) ≠ s1.heap.objs.size + 1 by omega) (show (s1.heap.objs.size + 4 : Nat) ≠ s1.heap.objs.size + 0 by omega) (show (s1.heap.objs.size + 4 : Nat) ≠ s1.heap.objs.size + 1 by omega) (show (s1.heap.objs.size + 3 : Nat) ≠ s1.heap.objs.size + 0 by omega) (show (s1.heap.objs.size + 3 : Nat) ≠ s1.heap.objs.size + 1 by omega) (f1 _ (Nat.le_add_right _ _)) (f1 _ (Nat.le_add_right _ _)) (f1 _ (Nat.le_add_right _ _)) (f2 _ (Nat.le_add_right _ _)) (f2 _ (Nat.le_add_right _ _)) (f2 _ (Nat.le_refl _)), ⟨hz, hTI, ⟨_, _, hTO⟩, w1 _ _ h1, w2 _ _ h2⟩, fun c hcm => ?_, q⟩
      have e' : c = s1.heap.objs.size + 4 ∨ c = s1.heap.objs.size + 2 ∨ c = s1.heap.objs.size + 3 ∨ c = s1.heap.objs.size ∨ c = s1.heap.objs.size + 1 := by simpa using hcm
      have hle : s1.heap.objs.size ≤ c := by
        rcases e' with z | z | z | z | z
        · rw [z]; exact Nat.le_add_right _ _
        · rw [z]; exact Nat.le_add_right _ _
        · rw [z]; exact Nat.le_add_right _ _
        · rw [z]; exact Nat.le_refl _
        · rw [z]; exact Nat.le_add_right _ _
      exact I1.fpOk hle (I1.hok.fresh hle)
/-! ### what it yields -/
theorem RpL.split {K : PySem.W.Frag} {Z : Addr → Prop} {H : Hp} : ∀ {ds es : List D} {xs ys : List V}, ds.length = xs.length → RpL K Z H (ds ++ es) (xs ++ ys) → RpL K Z H ds xs ∧ RpL K Z H es ys
  | [], es, [], ys, _, h => ⟨rfl, h⟩
  | [], es, x :: xs, ys, l, _ => by cases l
  | d :: ds, es, [], ys, l, _ => by cases l
  | d :: ds, es, x :: xs, ys, l, h => by
    obtain ⟨v, vs, e, h1, h2⟩ := h
    cases e
    obtain ⟨a, b⟩ := RpL.split (ds := ds) (xs := xs) (by simpa using l) h2
    exact ⟨⟨x, xs, rfl, h1, a⟩, b⟩
theorem RpL.join {K : PySem.W.Frag} {Z : Addr → Prop} {H : Hp} : ∀ {ds es : List D} {xs ys : List V}, RpL K Z H ds xs → RpL K Z H es ys → RpL K Z H (ds ++ es) (xs ++ ys)
  | [], es, xs, ys, h, k => by
    have h : xs = [] := h
    subst h
    exact k
  | d :: ds, es, xs, ys, h, k => by
    obtain ⟨v, vs, rfl, h1, h2⟩ := h
    exact ⟨v, vs ++ ys, rfl, h1, RpL.join h2 k⟩
theorem txt_rp {K : PySem.W.Frag} {Z : Addr → Prop} {H : Hp} : ∀ s : Tx, RpL K Z H (s.map fun c => D.str [c]) (s.map fun c => V.str ⟨#[c]⟩)
  | [] => rfl
  | c :: s => ⟨_, _, rfl, ⟨rfl, by show 1 ≤ sizeLine; rw [sizeLine_eq]; decide⟩, txt_rp s⟩
theorem src_of {K : PySem.W.Frag} {H1 : Hp} (hg : HG K H1) {d : D} {v : V} {es : List D} (hi : itemsR d = .ok es) (r : RpR K Em H1 d v) :
    ∃ (k : Sr) (xs : List V) (Fp : Addr → Prop), v = k.v ∧ k.has K H1 xs ∧ RpL K Em H1 es xs ∧ xs.length ≤ sizeLine ∧ (∀ b, Fp b → H1 b ≠ none) ∧ (∀ H', (∀ b o, Fp b → H1 b = some o → H' b = some o) → k.has K H' xs) ∧
      (∀ Y, RpR K Y H1 d v → RpL K Y H1 es xs) ∧ ∀ Y, ZOk Y H1 → Rp K Y H1 d v → ∀ b, Fp b → ¬ Y b := by
  cases d with
  | lst ds =>
    cases hi
    obtain ⟨p, xs, e1, r1, g1⟩ := r
    refine ⟨.lst p, xs, fun b => b = p, e1, .inl r1, g1, hg.lst p xs r1, fun b e => by rw [e]; exact rd_tracked r1, fun H' k => ?_, fun Y q => ?_, fun Y _ q b hb => ?_⟩
    · rcases r1 with r | ⟨o, r⟩
      · exact .inl (.inl (k p _ rfl r))
      · exact .inl (.inr ⟨o, k p _ rfl r⟩)
    · obtain ⟨p', xs', e2, r2, g2⟩ := q
      rw [e1] at e2; cases e2
      have ex : xs = xs' := by
        rcases r1 with r1 | ⟨o, r1⟩ <;> rcases r2 with r2 | ⟨o', r2⟩ <;> (rw [r1] at r2; cases r2; first | done | rfl)
      subst ex
      exact g2
    · obtain ⟨p', xs', e2, _, nz, _⟩ := q
      rw [e1] at e2; cases e2
      rw [hb]; exact nz
  | tup ds =>
    cases hi
    obtain ⟨p, xs, e1, r1, g1⟩ := r
    have fin : ∀ Fp : Addr → Prop, (∀ b, Fp b → H1 b ≠ none) → (∀ H', (∀ b o, Fp b → H1 b = some o → H' b = some o) → SqT K H' p xs) → (∀ Y, ZOk Y H1 → ∀ b, Fp b → ¬ Y b) → ∃ (k : Sr) (xs : List V) (Fp : Addr → Prop), v = k.v ∧ k.has K H1 xs ∧ RpL K Em H1 es xs ∧ xs.length ≤ sizeLine ∧ (∀ b, Fp b → H1 b ≠ none) ∧ (∀ H', (∀ b o, Fp b → H1 b = some o → H' b = some o) → k.has K H' xs) ∧
      (∀ Y, RpR K Y H1 (.tup es) v → RpL K Y H1 es xs) ∧ ∀ Y, ZOk Y H1 → Rp K Y H1 (.tup es) v → ∀ b, Fp b → ¬ Y b := fun Fp f1 f2 f3 => by
      refine ⟨.tup p, xs, Fp, e1, r1.1, g1, hg.tup p xs r1.1, f1, f2, fun Y q => ?_, fun Y zy _ => f3 Y zy⟩
      obtain ⟨p', xs', e2, r2, g2⟩ := q
      rw [e1] at e2; cases e2
      have ex := hg.inj p xs xs' r1.1 r2.1
      subst ex
      exact g2
    rcases r1.1 with r | r
    · refine fin (fun b => b = p) (fun b e => by rw [e]; exact rd_tracked r) (fun H' k => ?_) fun Y zy b e hb => ?_
      · rcases r with r | ⟨o, r⟩
        · exact .inl (.inl (k p _ rfl r))
        · exact .inl (.inr ⟨o, k p _ rfl r⟩)
      · subst e
        have m := zy b hb
        rcases r with r | ⟨o, r⟩ <;> (rw [r] at m; exact m)
    · exact fin Em (fun _ z => z.elim) (fun _ _ => .inr r) fun _ _ _ z => z.elim
  | str s =>
    cases hi
    obtain ⟨e1, hz⟩ := r
    exact ⟨.txt (tx s), s.map fun c => V.str ⟨#[c]⟩, Em, e1, by show _ = (tx s).cps.toList.map _; simp [tx], txt_rp s, by rw [List.length_map]; exact hz, fun _ z => z.elim, fun H' _ => by show _ = (tx s).cps.toList.map _; simp [tx], fun Y _ => txt_rp s, fun _ _ _ _ z => z.elim⟩
  | _ => cases hi
theorem itz_ok {K : PySem.W.Frag} {H1 : Hp} {k1 k2 : Sr} {xs ys : List V} {es fs : List D} {F1 F2 : Addr → Prop} (hn : (es.zip fs).all (fun p => !(p.1.isP2 && p.2.isP2)) = true) (g1 : RpL K Em H1 es xs) (g2 : RpL K Em H1 fs ys)
    (t1 : ∀ b, F1 b → H1 b ≠ none) (t2 : ∀ b, F2 b → H1 b ≠ none) (c1 : ∀ H', (∀ b o, F1 b → H1 b = some o → H' b = some o) → k1.has K H' xs) (c2 : ∀ H', (∀ b o, F2 b → H1 b = some o → H' b = some o) → k2.has K H' ys) :
    ItOk K (Itz2 K k1 k2) ((es.zip fs).map fun p => .tup [p.1, p.2]) (es ++ fs) (xs ++ ys) (fun b => F1 b ∨ F2 b) H1 := by
  have l1 := g1.length
  have l2 := g2.length
  refine ⟨fun b hb => hb.elim (t1 b) (t2 b), fun H' k i d e => ?_, fun H' k => ⟨xs, ys, c1 H' fun b o hb => k b o (.inl hb), c2 H' fun b o hb => k b o (.inr hb), by simp [l1, l2]⟩⟩
  have h1 := c1 H' fun b o hb => k b o (.inl hb)
  have h2 := c2 H' fun b o hb => k b o (.inr hb)
  rw [List.getElem?_map] at e
  obtain ⟨⟨x0, y0⟩, e1, e2⟩ := Option.map_eq_some_iff.mp e
  subst e2
  obtain ⟨ex, ey⟩ := List.getElem?_zip_eq_some.mp e1
  have np : prs [x0, y0] = false := by
    have := List.all_eq_true.mp hn (x0, y0) (List.mem_of_getElem? e1)
    have this : x0.isP2 = false ∨ y0.isP2 = false := by simpa using this
    rcases this with h | h <;> simp [prs, h]
  obtain ⟨v, hv, _⟩ := g1.get ex
  obtain ⟨w, hw, _⟩ := g2.get ey
  refine ⟨⟨xs, ys, v, w, h1, h2, hv, hw⟩, fun x H'' y => ?_⟩
  obtain ⟨T, u, u2, rfl, hT, rfl, y1, y2⟩ := y
  have q1 := y1 xs h1
  have q2 := y2 ys h2
  refine ⟨same_upd hT, fun Y q => ?_⟩
  obtain ⟨a, b⟩ := RpL.split l1 q
  obtain ⟨v', hv', r1⟩ := a.get ex
  obtain ⟨w', hw', r2⟩ := b.get ey
  rw [q1] at hv'; cases hv'
  rw [q2] at hw'; cases hw'
  exact Rp.new_tup hT np ⟨_, _, rfl, r1, _, _, rfl, r2, rfl⟩
section
variable {Γ : Ctx} {c : Nat → List D → R D} {W : WX} {n : Nat} {N : List Str} {sc : Scope} {X : Cx} {pos : Pos}
theorem zipR_ok {x y : D} {ds : List D} (h : zipR x y = .ok ds) : ∃ es fs, itemsR x = .ok es ∧ itemsR y = .ok fs ∧ (es.zip fs).all (fun p => !(p.1.isP2 && p.2.isP2)) = true ∧ ds = (es.zip fs).map fun p => .tup [p.1, p.2] := by
  unfold zipR at h
  obtain ⟨es, e1, h⟩ := R.bind_ok h
  obtain ⟨fs, e2, h⟩ := R.bind_ok h
  split at h
  · rename_i hn
    cases h
    exact ⟨es, fs, e1, e2, hn, rfl⟩
  · cases h
theorem i_zip (hf : Fx Γ n N sc X) (G : Gk Γ) {a b : E} {y z : Expr} {p tpos : Pos} {elts : List Expr} {kk : Nat} (hg : gloB sc "zip" = true) (pa : PA X [y, z] (spA Γ c W (.cons a (.cons b .nil))))
    (hs : starEach [y, z] X.env = (false, eval y X.env) :: starEach [z] X.env) (hpl : (backTo pos (starEach [z] X.env)).any (·.1) = false) :
    PI X (.Tuple elts kk tpos) (.Call (.Name "zip" p) [y, z] [] pos) (spI Γ c W (.zip a b)) := by
  refine PI.mono (pi_zip2 (glo_of hf hg) (mg_free hf G (by decide)) pa hs hpl) fun σ H Rr q => ?_
  obtain ⟨ρ, g, q⟩ := q
  have q : match ((evE c a ρ).bind fun x => (evE c b ρ).bind fun y => zipR x y) with
    | .ok ds => ∀ J H1 es xs Fp, Same H H1 → ItOk Γ.K J ds es xs Fp H1 → RpL Γ.K Em H1 es xs → ds.length ≤ sizeLine →
        (∀ Y O, ZOk Y H → SlG Γ.K Y O H σ ρ → (max (lv O a) (lv O b) ≤ 1 → RpL Γ.K Y H1 es xs) ∧ (max (lv O a) (lv O b) = 0 → ∀ a, Fp a → ¬ Y a)) → Rr J H1
    | .ex x => ∀ H', Same H H' → W (Γ.cl x) none σ H'
    | .bad => False := q
  have ev : evEs c (.cons a (.cons b .nil)) ρ = (evE c a ρ).bind fun x => (evE c b ρ).bind fun y => .ok [x, y] := by
    show ((evE c a ρ).bind fun d => ((evE c b ρ).bind fun d => (R.ok [] : R (List D)).bind fun ds => R.ok (d :: ds)).bind fun ds => R.ok (d :: ds)) = _
    cases evE c a ρ with
    | ok x => cases evE c b ρ <;> rfl
    | ex x => rfl
    | bad => rfl
  refine spA.mk g (fun z => ?_) (fun x z => ?_) fun ds z vs H1 s1 lev hgg => ?_
  · rw [ev] at z
    cases e1 : evE c a ρ with
    | bad => rw [e1] at q; exact q.elim
    | ex x => rw [e1] at z; cases z
    | ok x =>
      rw [e1, R.ok_bind] at q z
      cases e2 : evE c b ρ with
      | bad => rw [e2] at q; exact q.elim
      | ex x => rw [e2] at z; cases z
      | ok y => rw [e2] at z; cases z
  · rw [ev] at z
    cases e1 : evE c a ρ with
    | bad => rw [e1] at z; cases z
    | ex x => rw [e1] at q z; cases z; exact q
    | ok x =>
      rw [e1, R.ok_bind] at q z
      cases e2 : evE c b ρ with
      | bad => rw [e2] at z; cases z
      | ex x => rw [e2] at q z; cases z; exact q
      | ok y => rw [e2] at z; cases z
  · rw [ev] at z
    obtain ⟨x, e1, z⟩ := R.bind_ok z
    obtain ⟨y, e2, z⟩ := R.bind_ok z
    cases z
    rw [e1, R.ok_bind, e2, R.ok_bind] at q
    cases e3 : zipR x y with
    | bad => rw [e3] at q; exact q.elim
    | ex t => exact absurd e3 zipR_noex
    | ok ds =>
      rw [e3] at q
      obtain ⟨es, fs, i1, i2, hn, rfl⟩ := zipR_ok e3
      rw [hf.K] at hgg
      have lem := (lev Em [] (fun _ z => z.elim) g).2 (by rw [lvs_nil]; exact Nat.zero_le _)
      obtain ⟨v, ws, rfl, r1, w, us, rfl, r2, hu⟩ := lem
      have hu : us = [] := hu
      subst hu
      obtain ⟨k1, xs, F1, v1, a1, g1, z1, t1, c1, y1, n1⟩ := src_of hgg i1 r1
      obtain ⟨k2, ys, F2, v2, a2, g2, z2, t2, c2, y2, n2⟩ := src_of hgg i2 r2
      refine ⟨k1, k2, xs, ys, by rw [v1, v2], by rw [hf.K]; exact a1, by rw [hf.K]; exact a2, ?_⟩
      rw [hf.K]
      refine q _ H1 _ _ _ s1 (itz_ok hn g1 g2 t1 t2 c1 c2) (RpL.join g1 g2) ?_ fun Y O zy gy => ⟨fun h1 => ?_, fun h0 b0 hb => ?_⟩
      · rw [List.length_map, List.length_zip, g1.length]
        exact Nat.le_trans (Nat.min_le_left _ _) z1
      · obtain ⟨v', ws', e4, q1, w', us', e5, q2, _⟩ := (lev Y O zy gy).2 (by show max (lv O a) (max (lv O b) 0) ≤ 1; omega)
        cases e4
        cases e5
        exact RpL.join (y1 Y q1) (y2 Y q2)
      · obtain ⟨v', ws', e4, q1, w', us', e5, q2, _⟩ := (lev Y O zy gy).1 (by show max (lv O a) (max (lv O b) 0) = 0; omega)
        cases e4
        cases e5
        rcases hb with hb | hb
        · exact n1 Y (zy.same s1) q1 b0 hb
        · exact n2 Y (zy.same s1) q2 b0 hb
end
end Pw

/-! text PwZl -/
/-! list(zip(x, y)), tuple(zip(x, y)): the tuples that were handed out are kept -/
namespace Pw
open PySem PySem.Spec PyProof.Rows L2
section
variable {prog : Program} {w : World} {A : Around} {E : Value → Shared → Prop} {s : Shared} {z TI TO i1 i2 T : Addr} {fp1 fp2 : List Addr} {n1 n2 i : Nat} {P1 P2 : Nat → Value → Prop} {St1 St2 : Nat → Heap → Prop} {f : Bool} {oT : Obj}
theorem zipH_item {Q : Value → Shared → Prop} (S : ZipSep2 z TI TO i1 i2 fp1 fp2) (D1 : Draws prog w A i1 fp1 n1 P1 St1) (D2 : Draws prog w A i2 fp2 n2 P2 St2)
    (hz : IsZipHeld s.heap z TI TO T f) (hT : s.heap.get? T = some oT) (hTI : IsTupOf2 s.heap TI (.ref i1) (.ref i2)) (st1 : St1 i s.heap) (st2 : St2 i s.heap) (hlt1 : i < n1) (hlt2 : i < n2)
    (hQ : ∀ x1 x2 h' tk, P1 i x1 → P2 i x2 → IsZipHeld h' z TI TO T true → St1 (i + 1) h' → St2 (i + 1) h' → IsTupOf2 h' s.heap.objs.size x1 x2 → h'.objs.size = s.heap.objs.size + 1 →
      (∀ c o, c ≠ z → c ≠ i1 → c ≠ i2 → s.heap.get? c = some o → h'.get? c = some o) → Q (.ref s.heap.objs.size) { s with heap := h', toks := tk }) :
    wpAny (model prog w) A (Builtin.«zip.__next__» ⟨[.ref z], []⟩) (fun fin s' => ∃ v, fin = .done (.ret v) ∧ Q v s') E s := by
  obtain ⟨hp, g, d, tk0, os⟩ := s
  show wpAny _ _ (field (.ref z) 2 >>= _) _ _ _
  refine wpAny_bind (wpAny_field hz rfl (x := .bool false) rfl ?_)
  show wpAny _ _ (field (.ref z) 3 >>= _) _ _ _
  refine wpAny_bind (wpAny_field hz rfl (x := .ref TI) rfl ?_)
  refine wpAny_bind (wpAny_seqItems hTI rfl ?_)
  show wpAny _ _ (Builtin.SmallTypes.ownedTupleIsFree (.ref z) >>= _) _ _ _
  refine wpAny_bind (wpAny_tupleHeld_zip hz hT fun h₁ hz₁ hs₁ => ?_)
  replace hs₁ : Heap.SameBut z hp h₁ := hs₁
  simp only [Bool.false_eq_true, if_false]
  refine wpAny_bind ?_
  rw [← Array.forIn_toList]
  simp only [List.forIn_cons, List.forIn_nil]
  refine wpAny_bind (wpAny_bind (wpAny_holding ?_))
  show wpAny _ _ (Builtin.SmallTypes.nextOf (.ref i1) >>= _) _ _ ⟨h₁, g, d, tk0, os⟩
  refine wpAny_bind (D1.item i _ _ _ hlt1 (D1.over st1 hs₁ S.zf1) fun x1 p1 tk1 hx1 sn1 hp1 => wpAny_pure ?_)
  replace hp1 : Heap.SameBut i1 h₁ p1 := hp1
  refine wpAny_pure ?_
  refine wpAny_bind (wpAny_bind (wpAny_holding ?_))
  show wpAny _ _ (Builtin.SmallTypes.nextOf (.ref i2) >>= _) _ _ ⟨p1, g, d, tk1, os⟩
  refine wpAny_bind (D2.item i _ _ _ hlt2 (D2.over (D2.over st2 hs₁ S.zf2) hp1 S.sep1_2) fun x2 p2 tk2 hx2 sn2 hp2 => wpAny_pure ?_)
  replace hp2 : Heap.SameBut i2 p1 p2 := hp2
  refine wpAny_pure (wpAny_pure ?_)
  show wpAny _ _ (newTuple [x1, x2] >>= _) _ _ ⟨p2, g, d, tk2, os⟩
  refine wpAny_bind (wpAny_newTuple ?_)
  have hsz : p2.objs.size = hp.objs.size := by rw [hp2.1, hp1.1, hs₁.1]
  have hz₃ : IsZipHeld p2 z TI TO T true := hp2.extBut _ _ S.zi2 (hp1.extBut _ _ S.zi1 hz₁)
  have hk : ∀ c o, c ≠ z → c ≠ i1 → c ≠ i2 → hp.get? c = some o → p2.get? c = some o := fun c o c1 c2 c3 e => hp2.extBut _ _ c3 (hp1.extBut _ _ c2 (hs₁.extBut _ _ c1 e))
  have hj1 : St1 (i + 1) p2 := D1.over sn1 hp2 S.sep2_1
  refine wpAny_pure ⟨_, rfl, ?_⟩
  show Q (.ref p2.objs.size) _
  have hpr : IsTupOf2 (p2.push { cls := .type "tuple", data := .seq #[x1, x2] }) p2.objs.size x1 x2 := Heap.get?_push_size _ rfl
  have hz4 : (p2.push { cls := .type "tuple", data := .seq #[x1, x2] }).objs.size = p2.objs.size + 1 := Heap.size_push ..
  rw [hsz] at hpr hz4 ⊢
  exact hQ x1 x2 _ tk2 hx1 hx2 (Heap.get?_push_of_some _ hz₃) (D1.frame _ _ _ hj1 fun b _ o e => Heap.get?_push_of_some _ e) (D2.frame _ _ _ sn2 fun b _ o e => Heap.get?_push_of_some _ e) hpr hz4 fun c o c1 c2 c3 e => Heap.get?_push_of_some _ (hk c o c1 c2 c3 e)
theorem zipH_end {Q : Fin → Shared → Prop} (S : ZipSep2 z TI TO i1 i2 fp1 fp2) (D1 : Draws prog w A i1 fp1 n1 P1 St1) (D2 : Draws prog w A i2 fp2 n2 P2 St2)
    (hz : IsZipHeld s.heap z TI TO T f) (hT : s.heap.get? T = some oT) (hTI : IsTupOf2 s.heap TI (.ref i1) (.ref i2)) (st1 : St1 i s.heap) (st2 : St2 i s.heap) (hle1 : i ≤ n1) (hle2 : i ≤ n2) (hend : i = n1 ∨ i = n2)
    (hE : ∀ h' tk e, (∀ c o, c ≠ z → c ≠ i1 → c ≠ i2 → s.heap.get? c = some o → h'.get? c = some o) → (∃ o, h'.get? e = some o ∧ o.cls = .type "StopIteration") → E (.ref e) { s with heap := h', toks := tk }) :
    wpAny (model prog w) A (Builtin.«zip.__next__» ⟨[.ref z], []⟩) Q E s := by
  obtain ⟨hp, g, d, tk0, os⟩ := s
  show wpAny _ _ (field (.ref z) 2 >>= _) _ _ _
  refine wpAny_bind (wpAny_field hz rfl (x := .bool false) rfl ?_)
  show wpAny _ _ (field (.ref z) 3 >>= _) _ _ _
  refine wpAny_bind (wpAny_field hz rfl (x := .ref TI) rfl ?_)
  refine wpAny_bind (wpAny_seqItems hTI rfl ?_)
  show wpAny _ _ (Builtin.SmallTypes.ownedTupleIsFree (.ref z) >>= _) _ _ _
  refine wpAny_bind (wpAny_tupleHeld_zip hz hT fun h₁ hz₁ hs₁ => ?_)
  replace hs₁ : Heap.SameBut z hp h₁ := hs₁
  simp only [Bool.false_eq_true, if_false]
  refine wpAny_bind ?_
  rw [← Array.forIn_toList]
  simp only [List.forIn_cons, List.forIn_nil]
  refine wpAny_bind (wpAny_bind (wpAny_holding ?_))
  show wpAny _ _ (Builtin.SmallTypes.nextOf (.ref i1) >>= _) _ _ ⟨h₁, g, d, tk0, os⟩
  by_cases hlt1 : i < n1
  · refine wpAny_bind (D1.item i _ _ _ hlt1 (D1.over st1 hs₁ S.zf1) fun x1 p1 tk1 hx1 sn1 hp1 => wpAny_pure ?_)
    replace hp1 : Heap.SameBut i1 h₁ p1 := hp1
    have hi2 : i = n2 := by omega
    refine wpAny_pure ?_
    refine wpAny_bind (wpAny_bind (wpAny_holding ?_))
    show wpAny _ _ (Builtin.SmallTypes.nextOf (.ref i2) >>= _) _ _ ⟨p1, g, d, tk1, os⟩
    refine wpAny_bind (D2.done ⟨p1, g, d, tk1, os⟩ _ _ (by rw [← hi2]; exact (D2.over (D2.over st2 hs₁ S.zf2) hp1 S.sep1_2)) fun q e hq he => ?_)
    exact hE q tk1 e (fun c o cz c1 c2 x => hq _ _ c2 (hp1.extBut _ _ c1 (hs₁.extBut _ _ cz x))) he
  · have hi1 : i = n1 := by omega
    refine wpAny_bind (D1.done ⟨h₁, g, d, tk0, os⟩ _ _ (by rw [← hi1]; exact (D1.over st1 hs₁ S.zf1)) fun q e hq he => ?_)
    exact hE q tk0 e (fun c o cz c1 c2 x => hq _ _ c1 (hs₁.extBut _ _ cz x)) he
theorem nextH_item {Q : Option Value → Shared → Prop} (S : ZipSep2 z TI TO i1 i2 fp1 fp2) (D1 : Draws prog w A.in1 i1 fp1 n1 P1 St1) (D2 : Draws prog w A.in1 i2 fp2 n2 P2 St2)
    (hz : IsZipHeld s.heap z TI TO T f) (hT : s.heap.get? T = some oT) (hTI : IsTupOf2 s.heap TI (.ref i1) (.ref i2)) (st1 : St1 i s.heap) (st2 : St2 i s.heap) (hlt1 : i < n1) (hlt2 : i < n2)
    (hQ : ∀ x1 x2 h' tk, P1 i x1 → P2 i x2 → IsZipHeld h' z TI TO T true → St1 (i + 1) h' → St2 (i + 1) h' → IsTupOf2 h' s.heap.objs.size x1 x2 → h'.objs.size = s.heap.objs.size + 1 →
      (∀ c o, c ≠ z → c ≠ i1 → c ≠ i2 → s.heap.get? c = some o → h'.get? c = some o) → Q (some (.ref s.heap.objs.size)) { s with heap := h', toks := tk }) :
    wpAny (model prog w) A (pyNext (.ref z)) Q E s := by
  have hTy : s.TypeIs (.ref z) "zip" := ⟨_, hz, rfl⟩
  unfold pyNext
  exact wpAny_bind (wpAny_attempt (wpAny_callSpecial?_slot (name := Str.ofString "__next__") hTy F.slot_zip_next
    (wpAny_call_entry F.slot_zip_next hTy F.entry_zip_next
      (zipH_item S D1 D2 hz hT hTI st1 st2 hlt1 hlt2 fun x1 x2 h' tk a0 a1 a3 a4 a5 a6 a7 a8 => wpAny_pure (hQ x1 x2 h' tk a0 a1 a3 a4 a5 a6 a7 a8)) (F.args_zip_next_1 _))))
theorem nextH_end {Q : Option Value → Shared → Prop} (S : ZipSep2 z TI TO i1 i2 fp1 fp2) (D1 : Draws prog w A.in1 i1 fp1 n1 P1 St1) (D2 : Draws prog w A.in1 i2 fp2 n2 P2 St2)
    (hz : IsZipHeld s.heap z TI TO T f) (hT : s.heap.get? T = some oT) (hTI : IsTupOf2 s.heap TI (.ref i1) (.ref i2)) (st1 : St1 i s.heap) (st2 : St2 i s.heap) (hle1 : i ≤ n1) (hle2 : i ≤ n2) (hend : i = n1 ∨ i = n2)
    (hQ : ∀ h' tk, (∀ c o, c ≠ z → c ≠ i1 → c ≠ i2 → s.heap.get? c = some o → h'.get? c = some o) → Q none { s with heap := h', toks := tk }) : wpAny (model prog w) A (pyNext (.ref z)) Q E s := by
  have hTy : s.TypeIs (.ref z) "zip" := ⟨_, hz, rfl⟩
  unfold pyNext
  refine wpAny_bind (wpAny_attempt (wpAny_callSpecial?_slot (name := Str.ofString "__next__") hTy F.slot_zip_next
    (wpAny_call_entry F.slot_zip_next hTy F.entry_zip_next (zipH_end S D1 D2 hz hT hTI st1 st2 hle1 hle2 hend fun h' tk e hk he => ?_) (F.args_zip_next_1 _))))
  obtain ⟨o, ho, hc⟩ := he
  refine wpAny_bind (wpAny_isInstance (T := "StopIteration") (b := true) ⟨o, ho, hc⟩ isSubtype_stop ?_)
  exact wpAny_pure (hQ _ _ hk)
end
section
variable {X : Cx} {pins : List (Addr × Obj)} {σ : L2.St} {H : Hp} {s : Shared}
theorem Sr.drawsA {A : Around} (hh : A.handled = none) (I : Inv X pins σ H s) {k : Sr} {xs : List V} (h : k.has X.K H xs) {it : Addr} {i : Nat} (st : k.st it i s.heap) :
    ∃ (fp : List Addr) (P : Nat → Value → Prop) (St : Nat → Heap → Prop), Draws X.prog X.w A it fp xs.length P St ∧ St i s.heap ∧ (∀ j h, St j h → k.st it j h) ∧ (∀ j v, P j v → ∃ x, xs[j]? = some x ∧ RelV x v) ∧ it ∈ fp ∧ ∀ b, b ≠ it → k.off b → b ∉ fp := by
  cases k with
  | lst a =>
    obtain ⟨its, rv, p, hz⟩ := I.list h
    have hai : a ≠ it := fun z => by
      subst z
      obtain ⟨o1, q1, c1, _⟩ := p.isList
      obtain ⟨o2, q2, c2, _⟩ := st
      rw [q1] at q2; cases q2
      rw [c1] at c2
      exact absurd c2 (by decide)
    have D := Draws.list (prog := X.prog) (w := X.w) (A := A) hh it a hai its.toArray
    have hl : its.toArray.size = xs.length := by simp [rv.length]
    rw [hl] at D
    refine ⟨_, _, _, D, ⟨st, p.isList⟩, fun j h z => z.1, fun j v e => ?_, by simp, fun b hb ho z => ?_⟩
    · have e : its[j]? = some v := by simpa using e
      exact vals_ix rv e
    · simp at z
      rcases z with z | z
      · exact hb z
      · exact ho z.symm
  | tup a =>
    obtain ⟨its, rv, p, hz⟩ := I.tuple h
    have hai : a ≠ it := fun z => by
      subst z
      obtain ⟨o1, q1, c1, _⟩ := p
      obtain ⟨o2, q2, c2, _⟩ := st
      rw [q1] at q2; cases q2
      rw [c1] at c2
      exact absurd c2 (by decide)
    have D := Draws.tuple (prog := X.prog) (w := X.w) (A := A) hh it a hai its.toArray
    have hl : its.toArray.size = xs.length := by simp [rv.length]
    rw [hl] at D
    refine ⟨_, _, _, D, ⟨st, p⟩, fun j h z => z.1, fun j v e => ?_, by simp, fun b hb ho z => ?_⟩
    · have e : its[j]? = some v := by simpa using e
      exact vals_ix rv e
    · simp at z
      rcases z with z | z
      · exact hb z
      · exact ho z.symm
  | txt x =>
    have h : xs = x.cps.toList.map fun c => V.str ⟨#[c]⟩ := h
    subst h
    obtain ⟨t, st⟩ := st
    have D := Draws.text (prog := X.prog) (w := X.w) (A := A) hh it x t
    have hl : x.cps.size = (x.cps.toList.map fun c => V.str ⟨#[c]⟩).length := by simp
    rw [hl] at D
    refine ⟨_, _, _, D, st, fun j h z => ⟨t, z⟩, fun j v e => ?_, by simp, fun b hb _ z => hb (by simpa using z)⟩
    obtain ⟨c, u, e1, rfl⟩ := e
    exact ⟨.str ⟨#[c]⟩, by simp [e1], u, rfl⟩
/-- the cells of a zip that began at b -/
def zch (b : Nat) : List Addr := [b + 4, b + 2, b + 3, b, b + 1]
structure ZL (k1 k2 : Sr) (b S : Nat) (i : Nat) (h : Heap) : Prop where
  ti : IsTupOf2 h (b + 2) (.ref b) (.ref (b + 1))
  s1 : k1.st b i h
  s2 : k2.st (b + 1) i h
  zp : (IsZip h (b + 4) (b + 2) (b + 3) .none ∧ ∃ x y, IsTupOf2 h (b + 3) x y) ∨ ∃ T f oT, IsZipHeld h (b + 4) (b + 2) (b + 3) T f ∧ h.get? T = some oT ∧ T ∉ S :: zch b
theorem zch_mem {b c : Nat} (h : c ∈ zch b) : b ≤ c ∧ c < b + 5 := by
  have e : c = b + 4 ∨ c = b + 2 ∨ c = b + 3 ∨ c = b ∨ c = b + 1 := by simpa [zch] using h
  rcases e with z | z | z | z | z <;> (subst z; constructor <;> (show (_ : Nat) ≤ _; omega))
theorem zch_not {b c : Nat} (h : c ∉ zch b) : c ≠ b + 4 ∧ c ≠ b + 2 ∧ c ≠ b + 3 ∧ c ≠ b ∧ c ≠ b + 1 := by
  simpa [zch] using h
theorem ZL.push {k1 k2 : Sr} {b S : Nat} {i : Nat} {h h' : Heap} (z : ZL k1 k2 b S i h) (hS : b + 5 ≤ S) (k : ∀ c o, c ≠ S → h.get? c = some o → h'.get? c = some o) : ZL k1 k2 b S i h' := by
  have lt : ∀ c : Nat, c < b + 5 → c ≠ S := fun c hc e => by omega
  refine ⟨k _ _ (lt _ (by show b + 2 < b + 5; omega)) z.ti, Sr.keep z.s1 fun o => k _ o (lt _ (by show b < b + 5; omega)), Sr.keep z.s2 fun o => k _ o (lt _ (by show b + 1 < b + 5; omega)), ?_⟩
  rcases z.zp with ⟨h1, x, y, h2⟩ | ⟨T, f, oT, h1, h2, h3⟩
  · exact .inl ⟨k _ _ (lt _ (by show b + 4 < b + 5; omega)) h1, x, y, k _ _ (lt _ (by show b + 3 < b + 5; omega)) h2⟩
  · exact .inr ⟨T, f, oT, k _ _ (lt _ (by show b + 4 < b + 5; omega)) h1, k _ _ (fun e => h3 (by rw [e]; exact List.mem_cons_self)) h2, h3⟩
variable {k1 k2 : Sr} {b S : Nat} {i : Nat} {A : Around} {xs ys : List V}
theorem zsep (f1 : ∀ c : Nat, b ≤ c → k1.off c) (f2 : ∀ c : Nat, b ≤ c → k2.off c) {fp1 fp2 : List Addr} (m1 : b ∈ fp1) (m2 : b + 1 ∈ fp2) (n1 : ∀ c : Nat, c ≠ b → k1.off c → c ∉ fp1) (n2 : ∀ c : Nat, c ≠ b + 1 → k2.off c → c ∉ fp2) :
    ZipSep2 (b + 4) (b + 2) (b + 3) b (b + 1) fp1 fp2 := by
  have ne : ∀ {u v : Nat}, u ≠ v → (b + u : Nat) ≠ b + v := fun h => by omega
  exact ⟨ne (by decide), ne (by decide), ne (by decide), ne (v := 0) (by decide), m1, n1 _ (ne (v := 0) (by decide)) (f1 _ (Nat.le_add_right _ _)), n1 _ (ne (v := 0) (by decide)) (f1 _ (Nat.le_add_right _ _)), ne (by decide), m2, n2 _ (ne (by decide)) (f2 _ (Nat.le_add_right _ _)), n2 _ (ne (by decide)) (f2 _ (Nat.le_add_right _ _)), n2 _ (ne (u := 0) (by decide)) (f2 _ (Nat.le_refl _)), n1 _ (ne (v := 0) (by decide)) (f1 _ (Nat.le_add_right _ _))⟩
theorem zl_item {E : Value → Shared → Prop} {Q : Option Value → Shared → Prop} {x y : V} (hS : b + 5 ≤ S) (f1 : ∀ c : Nat, b ≤ c → k1.off c) (f2 : ∀ c : Nat, b ≤ c → k2.off c) (hh : A.handled = none) (I : Inv X pins σ H s) (hf : ∀ c ∈ zch b, FpOk X pins H c)
    (hl : S < s.heap.objs.size) (st : ZL k1 k2 b S i s.heap) (hqx : k1.has X.K H xs) (hqy : k2.has X.K H ys) (hx : xs[i]? = some x) (hy : ys[i]? = some y)
    (hQ : ∀ s1, H s.heap.objs.size = none → Inv X pins σ (upd H s.heap.objs.size (.tup [x, y])) s1 → ZL k1 k2 b S (i + 1) s1.heap → (∀ o, s.heap.get? S = some o → s1.heap.get? S = some o) → s.heap.objs.size < s1.heap.objs.size → Q (some (.ref s.heap.objs.size)) s1) :
    wpAny (model X.prog X.w) A (pyNext (.ref (b + 4))) Q E s := by
  obtain ⟨fp1, P1, St1, D1, st1, b1, p1, m1, n1⟩ := Sr.drawsA (A := A.in1) hh I hqx st.s1
  obtain ⟨fp2, P2, St2, D2, st2, b2, p2, m2, n2⟩ := Sr.drawsA (A := A.in1) hh I hqy st.s2
  have Sp := zsep f1 f2 m1 m2 n1 n2
  have hbs : b + 5 ≤ s.heap.objs.size := Nat.le_trans hS (Nat.le_of_lt hl)
  have hTn : s.heap.objs.size ∉ S :: zch b := fun hm => by
    rcases List.mem_cons.mp hm with z | z
    · exact absurd hl (by rw [z]; exact Nat.lt_irrefl _)
    · exact absurd (Nat.lt_of_lt_of_le (zch_mem z).2 hbs) (Nat.lt_irrefl _)
  have fin : ∀ u u2 h' tk, P1 i u → P2 i u2 → St1 (i + 1) h' → St2 (i + 1) h' → IsTupOf2 h' s.heap.objs.size u u2 → h'.objs.size = s.heap.objs.size + 1 → (∀ c o, c ∉ zch b → s.heap.get? c = some o → h'.get? c = some o) → IsTupOf2 h' (b + 2) (.ref b) (.ref (b + 1)) →
      (∃ T f oT, IsZipHeld h' (b + 4) (b + 2) (b + 3) T f ∧ h'.get? T = some oT ∧ T ∉ S :: zch b) → Q (some (.ref s.heap.objs.size)) { s with heap := h', toks := tk } := fun u u2 h' tk q1 q2 h1' h2' hT hsz hk hti hzp => by
    obtain ⟨x', hx', ru⟩ := p1 i u q1
    obtain ⟨y', hy', ru2⟩ := p2 i u2 q2
    rw [hx] at hx'; cases hx'
    rw [hy] at hy'; cases hy'
    have new : ObjOk X.prog X.w (upd H s.heap.objs.size (.tup [x, y])) h' s.heap.objs.size (.tup [x, y]) :=
      ⟨by show 2 ≤ sizeLine; decide, [u, u2], .cons ru (.cons ru2 .nil), ⟨_, hT, rfl, _, rfl⟩⟩
    refine hQ _ (I.hok.fresh (Nat.le_refl _)) (I.turnedNew (t' := tk) (ch := zch b) hk hf (Nat.le_refl _) new) ⟨hti, b1 _ _ h1', b2 _ _ h2', .inr hzp⟩ (fun o e => hk S o (fun z => absurd (Nat.lt_of_lt_of_le (zch_mem z).2 hS) (Nat.lt_irrefl _)) e) ?_
    show s.heap.objs.size < h'.objs.size
    rw [hsz]
    exact Nat.lt_succ_self _
  have l1 := (List.getElem?_eq_some_iff.mp hx).1
  have l2 := (List.getElem?_eq_some_iff.mp hy).1
  have t2 : ∀ {h' : Heap}, (∀ c o, c ≠ b + 4 → c ≠ b + 3 → c ≠ b → c ≠ b + 1 → s.heap.get? c = some o → h'.get? c = some o) → IsTupOf2 h' (b + 2) (.ref b) (.ref (b + 1)) := fun hk =>
    hk _ _ (show (b + 2 : Nat) ≠ b + 4 by omega) (show (b + 2 : Nat) ≠ b + 3 by omega) (show (b + 2 : Nat) ≠ b by omega) (show (b + 2 : Nat) ≠ b + 1 by omega) st.ti
  rcases st.zp with ⟨hz, a1, a2, hTO⟩ | ⟨T, f, oT, hz, hT, hTm⟩
  · refine wpAny_pyNext_zipD2_item Sp D1 D2 hz st.ti hTO st1 st2 l1 l2 fun u u2 h' tk q1 q2 z' TO' h1' h2' hT hsz hk => ?_
    exact fin u u2 h' tk q1 q2 h1' h2' hT hsz (fun c o hc e => hk c o (zch_not hc).1 (zch_not hc).2.2.1 (zch_not hc).2.2.2.1 (zch_not hc).2.2.2.2 e) (t2 hk) ⟨_, _, _, z', hT, hTn⟩
  · refine nextH_item Sp D1 D2 hz hT st.ti st1 st2 l1 l2 fun u u2 h' tk q1 q2 z' h1' h2' hT' hsz hk => ?_
    have hTm' := zch_not (fun m => hTm (List.mem_cons_of_mem _ m))
    exact fin u u2 h' tk q1 q2 h1' h2' hT' hsz (fun c o hc e => hk c o (zch_not hc).1 (zch_not hc).2.2.2.1 (zch_not hc).2.2.2.2 e) (t2 fun c o c1 _ c3 c4 e => hk c o c1 c3 c4 e) ⟨T, _, _, z', hk _ _ hTm'.1 hTm'.2.2.2.1 hTm'.2.2.2.2 hT, hTm⟩
theorem zl_end {E : Value → Shared → Prop} {Q : Option Value → Shared → Prop} (hS : b + 5 ≤ S) (f1 : ∀ c : Nat, b ≤ c → k1.off c) (f2 : ∀ c : Nat, b ≤ c → k2.off c) (hh : A.handled = none) (I : Inv X pins σ H s) (hf : ∀ c ∈ zch b, FpOk X pins H c)
    (st : ZL k1 k2 b S i s.heap) (hqx : k1.has X.K H xs) (hqy : k2.has X.K H ys) (hend : i = min xs.length ys.length)
    (hQ : ∀ s1, Inv X pins σ H s1 → (∀ o, s.heap.get? S = some o → s1.heap.get? S = some o) → Q none s1) :
    wpAny (model X.prog X.w) A (pyNext (.ref (b + 4))) Q E s := by
  obtain ⟨fp1, P1, St1, D1, st1, b1, p1, m1, n1⟩ := Sr.drawsA (A := A.in1) hh I hqx st.s1
  obtain ⟨fp2, P2, St2, D2, st2, b2, p2, m2, n2⟩ := Sr.drawsA (A := A.in1) hh I hqy st.s2
  have Sp := zsep f1 f2 m1 m2 n1 n2
  have nS : S ∉ zch b := fun z => absurd (Nat.lt_of_lt_of_le (zch_mem z).2 hS) (Nat.lt_irrefl _)
  have fin : ∀ h' tk, (∀ c o, c ∉ zch b → s.heap.get? c = some o → h'.get? c = some o) → Q none { s with heap := h', toks := tk } := fun h' tk hk => hQ _ (I.turnedL (t' := tk) (ch := zch b) hk hf) fun o e => hk S o nS e
  rcases st.zp with ⟨hz, a1, a2, hTO⟩ | ⟨T, f, oT, hz, hT, hTm⟩
  · exact wpAny_pyNext_zipD2_end Sp D1 D2 hz st.ti hTO st1 st2 (by omega) (by omega) (by omega) fun h' tk hk => fin h' tk fun c o hc e => hk c o (zch_not hc).1 (zch_not hc).2.2.1 (zch_not hc).2.2.2.1 (zch_not hc).2.2.2.2 e
  · exact nextH_end Sp D1 D2 hz hT st.ti st1 st2 (by omega) (by omega) (by omega) fun h' tk hk => fin h' tk fun c o hc e => hk c o (zch_not hc).1 (zch_not hc).2.2.2.1 (zch_not hc).2.2.2.2 e
end
end Pw

/-! text PwZm -/
/-! list(zip(x, y)), tuple(zip(x, y)): the loop, the calls -/
namespace Pw
open PySem PySem.Spec PyProof.Rows L2
section
variable {X : Cx} {pins : List (Addr × Obj)} {σ : L2.St} {H : Hp} {s : Shared}
theorem mem1 {a b : Nat} (h : a ∈ [b]) : b = a := (List.mem_singleton.mp h).symm
/-- an untracked thing of ours comes to be tracked -/
theorem inv_adopt {T : Addr} {ob : HO} (I : Inv X pins σ H s) (hf : FpOk X pins H T) (new : ObjOk X.prog X.w (upd H T ob) s.heap T ob) : Inv X pins σ (upd H T ob) s := by
  have hn : H T = none := hf.1
  refine I.step (g' := s.gens) (d' := s.drawn) (t' := s.toks) (h' := s.heap) (ch := [T]) (fun b hb => ?_) (fun b o _ _ hc e _ => e) (fun b o _ _ hc e _ => ⟨o.slots, e⟩)
    (fun b o hc e n => ?_) (fun b o hc e => ⟨o, e⟩) (fun b xs e => ?_) (fun b o u e => ?_) (fun b ps e => ⟨#[], ?_⟩) (fun m hm => hm) (fun b u e => ?_) I.bare
  · have e : b = T := by simpa using hb
    subst e
    exact ⟨hf.2.2.2.1, hf.2.1, hf.2.2.2.2.1, hf.2.2.2.2.2⟩
  · rw [upd_ne (fun z => hc (by simp [z]))]; exact n
  · rw [upd_ne (ne_of_none e hn)]; exact e
  · rw [upd_ne (ne_of_none e hn)]; exact e
  · rw [upd_ne (ne_of_none e hn), e]; simp
  · by_cases hb : b = T
    · subst hb
      rw [upd_same] at e
      cases e
      exact new
    · rw [upd_ne hb] at e
      exact (I.hok b u e).stay (fun c v hc q => q) (fun c q => by rw [upd_ne (ne_of_none q hn)]; exact q) fun c xs q => by rw [upd_ne (ne_of_none q hn)]; exact q
variable {k1 k2 : Sr} {b S : Nat} {A : Around} {ds es : List D} {xs : List V} {Fp : Addr → Prop} {H1 : Hp}
theorem zl_loop {R : Result → Shared → Prop} {res : Value} (hS : b + 5 ≤ S) (f1 : ∀ c : Nat, b ≤ c → k1.off c) (f2 : ∀ c : Nat, b ≤ c → k2.off c) (hh : A.handled = none) (ok : ItOk X.K (Itz2 X.K k1 k2) ds es xs Fp H1) (hz : ds.length ≤ sizeLine)
    (hR : ∀ s' H' acc vs c, Inv X pins σ H' s' → Same H1 H' → FpOk X pins H' S → s'.heap.get? S = some { cls := .type "list", dict := none, data := .seq acc c, slots := #[] } → Vals vs acc.toList → vs.length = ds.length → (∀ Y, RpL X.K Y H1 es xs → RpL X.K Y H' ds vs) → R (.ok (.ret res)) s') :
    ∀ (m i : Nat) (s : Shared) (H : Hp) (acc : Array Value) (vs : List V) (c : Nat), ds.length - i = m → i ≤ ds.length → Inv X pins σ H s → Same H1 H → (∀ a ∈ zch b, FpOk X pins H a) → FpOk X pins H S → ZL k1 k2 b S i s.heap →
      s.heap.get? S = some { cls := .type "list", dict := none, data := .seq acc c, slots := #[] } → Vals vs acc.toList → vs.length = i → (∀ Y, RpL X.K Y H1 es xs → RpL X.K Y H (ds.take i) vs) →
      codeAny (model X.prog X.w) A (.builtin "list.extend.loop" ⟨[.ref S, .ref (b + 4), res], []⟩) R s := by
  intro m
  induction m with
  | zero =>
    intro i s H acc vs c hm hi I sm hf hfS st hSo hv hl hrp
    have hin : i = ds.length := by omega
    subst hin
    refine codeAny_builtin F.entry_extend_loop ?_
    rw [Around.under_plainId F.plain_extend_loop _]
    show wpAny _ A.in1 (pyNext (.ref (b + 4)) >>= _) _ _ s
    obtain ⟨ys, zs, h1, h2, he⟩ := ok.stop H fun a o _ e => sm a o e
    refine wpAny_bind (zl_end (A := A.in1) hS f1 f2 hh I hf st h1 h2 he fun s1 I1 kS => ?_)
    rw [List.take_length] at hrp
    exact wpAny_pure (hR s1 H acc vs c I1 sm hfS (kS _ hSo) hv hl hrp)
  | succ m ih =>
    intro i s H acc vs c hm hi I sm hf hfS st hSo hv hl hrp
    have hlt : i < ds.length := by omega
    refine codeAny_builtin F.entry_extend_loop ?_
    rw [Around.under_plainId F.plain_extend_loop _]
    show wpAny _ A.in1 (pyNext (.ref (b + 4)) >>= _) _ _ s
    obtain ⟨⟨ys, zs, x, y, h1, h2, hx, hy⟩, yl⟩ := ok.go H (fun a o _ e => sm a o e) i ds[i] (List.getElem?_eq_getElem hlt)
    have hSl : S < s.heap.objs.size := Heap.lt_size hSo
    refine wpAny_bind (zl_item (A := A.in1) hS f1 f2 hh I hf hSl st h1 h2 hx hy fun s1 hT I1 st1 kS hsz => ?_)
    obtain ⟨sm1, rp1⟩ := yl (.ref s.heap.objs.size) (upd H s.heap.objs.size (.tup [x, y])) ⟨_, x, y, rfl, hT, rfl, fun l q => by rw [Sr.inj I q h1]; exact hx, fun l q => by rw [Sr.inj I q h2]; exact hy⟩
    have hS1 := kS _ hSo
    have asz : acc.size = i := by
      have := hv.length
      rw [hl] at this
      simpa using this.symm
    show wpAny _ A.in1 (updateSeq S (·.push (.ref s.heap.objs.size)) >>= _) _ _ _
    refine wpAny_bind ?_
    have fT : ∀ {a : Nat}, FpOk X pins H a → a < s.heap.objs.size → FpOk X pins (upd H s.heap.objs.size (.tup [x, y])) a := fun {a} q hlt => ⟨by rw [upd_ne (Nat.ne_of_lt hlt)]; exact q.1, q.2⟩
    have fS1 := fT hfS hSl
    have hbs : b + 5 ≤ s.heap.objs.size := Nat.le_trans hS (Nat.le_of_lt hSl)
    refine wpAny_updateSeq hS1 rfl (wpAny_pure ⟨plainId_quiet F.plain_extend_loop _, ih (i + 1) _ (upd H s.heap.objs.size (.tup [x, y])) (acc.push (.ref s.heap.objs.size)) (vs ++ [.ref s.heap.objs.size]) _ (by omega) hlt ?_ (sm.trans sm1) (fun a ha => fT (hf a ha) (Nat.lt_of_lt_of_le (zch_mem ha).2 hbs)) fS1 ?_ (Heap.get?_update_self _ hS1 rfl) ?_ (by rw [List.length_append, hl]; rfl) ?_⟩)
      (by rw [asz]; omega) (by show (acc.push _).size ≤ sizeLine + 1; rw [Array.size_push, asz]; omega)
    · exact I1.turnedL (t' := s1.toks) (ch := [S]) (fun a o ha e => (Heap.get?_update_other _ _ (fun h : S = a => ha (by simp [h]))).trans e) (fun a ha => mem1 ha ▸ fS1)
    · exact st1.push hS fun a o ha e => (Heap.get?_update_other _ _ (fun h : S = a => ha h.symm)).trans e
    · rw [Array.toList_push]
      exact hv.append (.cons rfl .nil)
    · intro Y q
      rw [List.take_succ_eq_append_getElem hlt]
      exact RpL.join ((hrp Y q).same sm1) ⟨_, _, rfl, rp1 Y (q.same sm), rfl⟩
end
theorem zip_no_len : typeLookup (.type "zip") "__len__" = pure none := am_miss_of_fast (by decide +kernel)
theorem zip_no_hint : typeLookup (.type "zip") "__length_hint__" = pure none := am_miss_of_fast (by decide +kernel)
section
variable {X : Cx} {pins : List (Addr × Obj)} {σ : L2.St} {H : Hp} {s : Shared} {k1 k2 : Sr} {b S : Nat} {A : Around} {ds es : List D} {xs : List V} {Fp : Addr → Prop} {H1 : Hp}
theorem zl_extend {R : Result → Shared → Prop} {res : Value} {c₀ : Nat} (hS : b + 5 ≤ S) (f1 : ∀ c : Nat, b ≤ c → k1.off c) (f2 : ∀ c : Nat, b ≤ c → k2.off c) (hh : A.handled = none) (ok : ItOk X.K (Itz2 X.K k1 k2) ds es xs Fp H1) (hz : ds.length ≤ sizeLine)
    (I : Inv X pins σ H1 s) (hf : ∀ a ∈ zch b, FpOk X pins H1 a) (hfS : FpOk X pins H1 S) (st : ZL k1 k2 b S 0 s.heap) (h0 : IsZip s.heap (b + 4) (b + 2) (b + 3) .none) (hSo : s.heap.get? S = some { cls := .type "list", data := .seq #[] c₀ })
    (hR : ∀ s' H' acc vs c, Inv X pins σ H' s' → Same H1 H' → FpOk X pins H' S → s'.heap.get? S = some { cls := .type "list", dict := none, data := .seq acc c, slots := #[] } → Vals vs acc.toList → vs.length = ds.length → (∀ Y, RpL X.K Y H1 es xs → RpL X.K Y H' ds vs) → R (.ok (.ret res)) s') :
    wpAny (model X.prog X.w) A.in1 (Builtin.List.listExtendWith (.ref S) (.ref (b + 4)) res)
      (fun fin s' => match fin with | .done f => R (.ok f) s' | .again c' => c'.quiet = true ∧ codeAny (model X.prog X.w) A c' R s') (fun e s' => R (.error e) s') s := by
  have hSI : (S : Addr) ≠ b + 4 := fun e => by
    have e : S = b + 4 := e
    omega
  have hT : s.TypeIs (.ref (b + 4)) "zip" := ⟨_, h0, rfl⟩
  unfold Builtin.List.listExtendWith
  refine wpAny_bind (wpAny_typeOf hT ?_)
  have h1 : Builtin.List.listSameRef (.ref S) (.ref (b + 4)) = false := by simp [Builtin.List.listSameRef, hSI]
  have h2 : (Value.type "zip" == Value.type "list") = false := by decide
  have h3 : (Value.type "zip" == Value.type "tuple") = false := by decide
  simp only [h1, h2, h3, Bool.or_false, Bool.false_eq_true, if_false]
  refine wpAny_bind (wpAny_pyIter_zip h0 ?_)
  refine wpAny_bind (wpAny_holding ?_)
  unfold Builtin.List.listLengthHint
  refine wpAny_bind (wpAny_specialOf hT zip_no_len ?_)
  show wpAny _ A.in1 (specialOf (Value.ref (b + 4)) (Str.ofString "__length_hint__") >>= _) _ _ _
  refine wpAny_bind (wpAny_specialOf hT zip_no_hint ?_)
  refine wpAny_pure ?_
  show wpAny _ A.in1 (rule "list.extend.makes-room" >>= fun _ => Builtin.List.listTouch (.ref S) >>= fun _ =>
    again (.builtin "list.extend.loop" ⟨[.ref S, .ref (b + 4), res], []⟩)) _ _ _
  refine wpAny_bind (wpAny_rule ?_)
  refine wpAny_bind ?_
  show wpAny _ A.in1 (updateSeq S (·.push .none) >>= fun _ => updateSeq S (·.pop)) _ _ _
  refine wpAny_bind (wpAny_updateSeq hSo rfl ?_)
  have hS₂ := Heap.get?_update_self (Obj.mapSeq (·.push Value.none)) hSo rfl
  refine wpAny_updateSeq (hz := by seq_fits) hS₂ rfl ?_
  have hS₃ := Heap.get?_update_self (Obj.mapSeq (·.pop)) hS₂ rfl
  have oth : ∀ a o, a ≠ S → s.heap.get? a = some o → ((s.heap.update S (Obj.mapSeq (·.push Value.none))).update S (Obj.mapSeq (·.pop))).get? a = some o :=
    fun a o hb e => (Heap.get?_update_other _ _ (Ne.symm hb)).trans ((Heap.get?_update_other _ _ (Ne.symm hb)).trans e)
  refine wpAny_pure ⟨plainId_quiet F.plain_extend_loop _, zl_loop hS f1 f2 hh ok hz hR ds.length 0 _ H1 _ [] _ (by omega) (Nat.zero_le _) ?_ (fun a o e => e) hf hfS (st.push hS oth) hS₃ .nil rfl fun Y _ => rfl⟩
  have J := I.turnedL (t' := s.toks) (h' := (s.heap.update S (Obj.mapSeq (·.push Value.none))).update S (Obj.mapSeq (·.pop))) (ch := [S]) (fun a o ha e => oth a o (fun h => ha (by simp [h])) e) (fun a ha => mem1 ha ▸ hfS)
  exact J
theorem zl0_push {h h' : Heap} (z : ∀ S, b + 5 ≤ S → ZL k1 k2 b S 0 h) (k : ∀ c o, h.get? c = some o → h'.get? c = some o) : ∀ S, b + 5 ≤ S → ZL k1 k2 b S 0 h' := fun S hS => (z S hS).push hS fun c o _ e => k c o e
theorem zl_list {Q : Value → Shared → Prop} {E : Value → Shared → Prop} (f1 : ∀ c : Nat, b ≤ c → k1.off c) (f2 : ∀ c : Nat, b ≤ c → k2.off c) (hh : A.handled = none) (ok : ItOk X.K (Itz2 X.K k1 k2) ds es xs Fp H1) (hz : ds.length ≤ sizeLine)
    (I : Inv X pins σ H1 s) (hf : ∀ a ∈ zch b, FpOk X pins H1 a) (hsz : b + 5 ≤ s.heap.objs.size) (st : ∀ S, b + 5 ≤ S → ZL k1 k2 b S 0 s.heap) (h0 : IsZip s.heap (b + 4) (b + 2) (b + 3) .none)
    (hQ : ∀ p s' H' vs, Inv X pins σ (upd H' p (.lst vs)) s' → H' p = none → Same H1 H' → vs.length = ds.length → (∀ Y, RpL X.K Y H1 es xs → RpL X.K Y H' ds vs) → Q (.ref p) s') :
    wpAny (model X.prog X.w) A (call (.type "list") [.ref (b + 4)]) Q E s := by
  refine callType_codes (Q₁ := fun obj s₁ => obj = .ref s.heap.objs.size ∧ s₁ = { s with heap := s.heap.push { cls := .type "list", data := .seq #[] } }) F.called_list (F.typeCall_list_1 _) F.entry_list_init
    (code_list_new _ ⟨rfl, rfl⟩) fun obj s₁ h₁ => ?_
  obtain ⟨rfl, rfl⟩ := h₁
  have hS : (s.heap.push { cls := .type "list", data := .seq #[] }).get? s.heap.objs.size = some { cls := .type "list", data := .seq #[] } := Heap.get?_push_size _ rfl
  refine ⟨⟨_, hS, rfl⟩, F.args_list_init_2 _ _, ?_⟩
  show wpAny _ A.in1.in1 (do let old ← Builtin.List.listItems (.ref s.heap.objs.size); Builtin.List.listUpdate (.ref s.heap.objs.size) (fun _ => #[]); letGo old.toList.reverse; Builtin.List.listExtendWith (.ref s.heap.objs.size) (.ref (b + 4)) .none) _ _ _
  refine wpAny_bind ?_
  unfold Builtin.List.listItems
  refine wpAny_bind (wpAny_seqItems hS rfl (wpAny_pure ?_))
  show wpAny _ A.in1.in1 (updateSeq s.heap.objs.size (fun _ => #[]) >>= fun _ => letGo (#[] : Array Value).toList.reverse >>= fun _ => Builtin.List.listExtendWith (.ref s.heap.objs.size) (.ref (b + 4)) .none) _ _ _
  refine wpAny_bind (wpAny_updateSeq hS rfl ?_)
  have hS₂ := Heap.get?_update_self (Obj.mapSeq (fun _ => (#[] : Array Value))) hS rfl
  have keep : ∀ c o, s.heap.get? c = some o → ((s.heap.push { cls := .type "list", data := .seq #[] }).update s.heap.objs.size (Obj.mapSeq (fun _ => (#[] : Array Value)))).get? c = some o := fun c o e =>
    (Heap.get?_update_other _ _ (Ne.symm (Nat.ne_of_lt (Heap.lt_size e)))).trans (Heap.get?_push_of_some _ e)
  refine wpAny_bind (wpAny_letGo ?_)
  have J : Inv X pins σ H1 { s with heap := (s.heap.push { cls := .type "list", data := .seq #[] }).update s.heap.objs.size (Obj.mapSeq (fun _ => (#[] : Array Value))) } := I.kept (t' := s.toks) keep
  refine zl_extend (A := A.in1) (S := s.heap.objs.size) hsz f1 f2 hh ok hz J hf (I.fpOk (Nat.le_refl _) (I.hok.fresh (Nat.le_refl _))) (zl0_push st keep _ hsz) (keep _ _ h0) hS₂ fun s' H' acc vs c I' sm fS hS' hv hl hrp => ⟨rfl, ?_⟩
  refine hQ _ s' H' vs (inv_adopt I' fS ⟨by rw [hl]; exact hz, acc.toList, c, hv, by rw [Array.toArray_toList]; exact hS'⟩) fS.1 sm hl hrp
theorem zl_collect {Q : List Value → Shared → Prop} {E : Value → Shared → Prop} (f1 : ∀ c : Nat, b ≤ c → k1.off c) (f2 : ∀ c : Nat, b ≤ c → k2.off c) (hh : A.handled = none) (ok : ItOk X.K (Itz2 X.K k1 k2) ds es xs Fp H1) (hz : ds.length ≤ sizeLine)
    (I : Inv X pins σ H1 s) (hf : ∀ a ∈ zch b, FpOk X pins H1 a) (hsz : b + 5 ≤ s.heap.objs.size) (st : ∀ S, b + 5 ≤ S → ZL k1 k2 b S 0 s.heap) (h0 : IsZip s.heap (b + 4) (b + 2) (b + 3) .none)
    (hQ : ∀ us s' H' vs, Inv X pins σ H' s' → Vals vs us → Same H1 H' → vs.length = ds.length → (∀ Y, RpL X.K Y H1 es xs → RpL X.K Y H' ds vs) → Q us s') :
    wpAny (model X.prog X.w) A (collect (.ref (b + 4))) Q E s := by
  unfold collect
  refine wpAny_bind (wpAny_runValue (codeAny_builtin F.entry_proto_collect ?_))
  rw [Around.under_plainId F.plain_proto_collect _]
  show wpAny _ A.in1 (newList [] >>= fun l => again (.builtin "list.__iadd__" ⟨[l, .ref (b + 4)], []⟩)) _ _ s
  refine wpAny_bind (wpAny_newObj_type ?_)
  refine wpAny_pure ⟨plainId_quiet F.plain_list_iadd _, codeAny_builtin F.entry_list_iadd ?_⟩
  rw [Around.under_plainId F.plain_list_iadd _]
  show wpAny _ A.in1 (Builtin.List.listExtendWith (.ref s.heap.objs.size) (.ref (b + 4)) (.ref s.heap.objs.size)) _ _ _
  have hS : (s.heap.push { cls := .type "list", data := .seq ([] : List Value).toArray }).get? s.heap.objs.size = some { cls := .type "list", data := .seq #[] 0 } := Heap.get?_push_size _ rfl
  have keep : ∀ c o, s.heap.get? c = some o → (s.heap.push { cls := .type "list", data := .seq ([] : List Value).toArray }).get? c = some o := fun c o e => Heap.get?_push_of_some _ e
  have J : Inv X pins σ H1 { s with heap := s.heap.push { cls := .type "list", data := .seq ([] : List Value).toArray } } := I.kept (t' := s.toks) keep
  refine wpAny_mono (zl_extend (A := A) (S := s.heap.objs.size) (R := fun rr s' => rr = .ok (.ret (.ref s.heap.objs.size)) ∧ ∃ H' acc vs c, Inv X pins σ H' s' ∧ Same H1 H' ∧ s'.heap.get? s.heap.objs.size = some { cls := .type "list", dict := none, data := .seq acc c, slots := #[] } ∧ Vals vs acc.toList ∧ vs.length = ds.length ∧ (∀ Y, RpL X.K Y H1 es xs → RpL X.K Y H' ds vs))
    hsz f1 f2 hh ok hz J hf (I.fpOk (Nat.le_refl _) (I.hok.fresh (Nat.le_refl _))) (zl0_push st keep _ hsz) (keep _ _ h0) hS fun s' H' acc vs c I' sm fS hS' hv hl hrp => ⟨rfl, H', acc, vs, c, I', sm, hS', hv, hl, hrp⟩) (fun fin s' h => ?_) (fun e s' h => ?_)
  · cases fin with
    | done f =>
      obtain ⟨e, H', acc, vs, c, I', sm, hS', hv, hl, hrp⟩ := h
      cases e
      show wpAny _ A (load s.heap.objs.size >>= _) _ _ _
      exact wpAny_bind (wpAny_load hS' (wpAny_pure (hQ _ _ H' vs I' hv sm hl hrp)))
    | again c' =>
      refine ⟨h.1, codeAny_mono h.2 fun rr s'' hr' => ?_⟩
      obtain ⟨rfl, H', acc, vs, c, I', sm, hS', hv, hl, hrp⟩ := hr'
      show wpAny _ A (load s.heap.objs.size >>= _) _ _ _
      exact wpAny_bind (wpAny_load hS' (wpAny_pure (hQ _ _ H' vs I' hv sm hl hrp)))
  · exact absurd h.1 (by simp)
theorem zl_tuple {Q : Value → Shared → Prop} {E : Value → Shared → Prop} (f1 : ∀ c : Nat, b ≤ c → k1.off c) (f2 : ∀ c : Nat, b ≤ c → k2.off c) (hh : A.handled = none) (ok : ItOk X.K (Itz2 X.K k1 k2) ds es xs Fp H1) (hz : ds.length ≤ sizeLine)
    (I : Inv X pins σ H1 s) (hf : ∀ a ∈ zch b, FpOk X pins H1 a) (hsz : b + 5 ≤ s.heap.objs.size) (st : ∀ S, b + 5 ≤ S → ZL k1 k2 b S 0 s.heap) (h0 : IsZip s.heap (b + 4) (b + 2) (b + 3) .none)
    (hQ : ∀ p s' H' vs us, Inv X pins σ (upd H' p (.frz (tupOb us) (.tup vs))) s' → H' p = none → Same H1 H' → vs.length = ds.length → (∀ Y, RpL X.K Y H1 es xs → RpL X.K Y H' ds vs) → Q (.ref p) s') :
    wpAny (model X.prog X.w) A (call (.type "tuple") [.ref (b + 4)]) Q E s := by
  refine callType_codes (Q₁ := fun obj s₁ => s₁.TypeIs obj "tuple" ∧ Q obj s₁) F.called_tuple (F.typeCall_tuple_1 _) F.entry_object_init ?_ fun obj s₁ h₁ => ?_
  · refine codeAny_of_tree ?_
    show wpAny _ A.in1.in1 (do checkBuiltinCall "tuple.__new__" ⟨[.type "tuple", .ref (b + 4)], []⟩; again (.builtin "tuple.__new__" ⟨[.type "tuple", .ref (b + 4)], []⟩)) _ _ s
    refine wpAny_bind (wpAny_of_eq (F.newCall_tuple_1 _) (wpAny_pure ⟨plainId_quiet F.plain_tuple_new _, codeAny_builtin F.entry_tuple_new ?_⟩))
    rw [Around.under_plainId F.plain_tuple_new _]
    have hsub := sub_tuple_self
    have hinit := init_tuple_lookup
    have hmh := madeHere_tuple
    have hTI : s.TypeIs (.ref (b + 4)) "zip" := ⟨_, h0, rfl⟩
    have hh1 : A.in1.in1.handled = none := hh
    wp_walk using wpAny_typeOf hTI, zl_collect (A := A.in1.in1) f1 f2 hh1 ok hz I hf hsz st h0
    intro us s' H' vs I' hv sm hl hrp
    show wpAny _ _ (Builtin.Tuple.tupleExact us.toArray >>= fun v => ret v) _ _ _
    unfold Builtin.Tuple.tupleExact
    have lu : us.length = ds.length := by rw [← hv.length, hl]
    refine wpAny_bind (wpAny_newObj_type ?_ (by show us.toArray.size ≤ sizeLine; rw [List.size_toArray, lu]; exact hz))
    refine wpAny_pure ?_
    refine ⟨⟨_, Heap.get?_push_size _ rfl, rfl⟩, hQ _ _ H' vs us (I'.laid (t' := s'.toks) (fun c o e => Heap.get?_push_of_some _ e) (Nat.le_refl _) ⟨Heap.get?_push_size _ rfl, by rw [hl]; exact hz, us, hv, IsTup.new _ _⟩) (I'.hok.fresh (Nat.le_refl _)) sm hl hrp⟩
  · exact ⟨h₁.1, F.args_object_init_2 obj _, object_init_meets F.called_tuple.init.lookup F.called_tuple.made (by decide) X.prog X.w A.in1 _ s₁ ⟨h₁.1, rfl, h₁.2⟩⟩
end
theorem zip_ev {X : Cx} {e e2 : Expr} {ta : TA} {p pos : Pos} {pins : List (Addr × Obj)} {σ : L2.St} {H : Hp} {s : Shared} {Rr : Sr → Sr → Hp → Prop} (hg : Gl X "zip") (hm : X.mg "zip" = none) (ha : PA X [e, e2] ta)
    (hs : starEach [e, e2] X.env = (false, eval e X.env) :: starEach [e2] X.env) (hpl : (backTo pos (starEach [e2] X.env)).any (·.1) = false) (I : Inv X pins σ H s)
    (h : ta σ H fun vs H1 => HG X.K H1 → ∃ (k1 k2 : Sr) (xs ys : List V), vs = [k1.v, k2.v] ∧ k1.has X.K H1 xs ∧ k2.has X.K H1 ys ∧ Rr k1 k2 H1) :
    wpAny (model X.prog X.w) X.A (eval (.Call (.Name "zip" p) [e, e2] [] pos) X.env) (fun v s' => ∃ (b : Nat) (k1 k2 : Sr) (H1 : Hp), v = .ref (b + 4) ∧ Inv X pins σ H1 s' ∧ (∀ c : Nat, b ≤ c → k1.off c) ∧ (∀ c : Nat, b ≤ c → k2.off c) ∧ (∀ a ∈ zch b, FpOk X pins H1 a) ∧ b + 5 ≤ s'.heap.objs.size ∧
      (∀ S, b + 5 ≤ S → ZL k1 k2 b S 0 s'.heap) ∧ IsZip s'.heap (b + 4) (b + 2) (b + 3) .none ∧ Rr k1 k2 H1) X.xe s := by
  refine Call_ (ld_blt I hg hm PyProof.Rows.boot_zip (PyProof.Rows.callWith_type1 (thn (ha.run pos pins s σ H _ I h) fun us s1 ⟨vs, H1, I1, r1, q1⟩ => ?_) hs hpl))
  obtain ⟨k1, k2, xs, ys, ex, hqx, hqy, q⟩ := q1 (Inv.hg I1)
  subst ex
  cases r1 with
  | cons r rr =>
    cases rr with
    | cons r' rr =>
      cases rr
      obtain ⟨o1, Hh1, B1, c1, w1⟩ := Sr.begins I1 hqx r
      obtain ⟨o2, Hh2, B2, c2, w2⟩ := Sr.begins I1 hqy r'
      refine zip_begins2 B1 B2 c1 c2 fun h' hz hTI hTO h1 h2 hsz hk => ?_
      have I2 : Inv X pins σ H1 { s1 with heap := h' } := I1.kept (t' := s1.toks) hk
      refine ⟨s1.heap.objs.size, k1, k2, H1, rfl, I2, fun b => Sr.lt I1 hqx, fun b => Sr.lt I1 hqy, fun c hc => I1.fpOk (zch_mem hc).1 (I1.hok.fresh (zch_mem hc).1), by show _ ≤ h'.objs.size; rw [hsz]; exact Nat.le_refl _, fun S _ => ⟨hTI, w1 _ _ h1, w2 _ _ h2, .inl ⟨hz, _, _, hTO⟩⟩, hz, q⟩
theorem Fr.of_same {H H1 H' : Hp} (s : Same H H1) {d : D} {v : V} (f : Fr H1 H' d v) : Fr H H' d v := by
  have n : ∀ a, H1 a = none → H a = none := fun a e => by
    cases q : H a with
    | none => rfl
    | some o => rw [s _ _ q] at e; cases e
  cases d with
  | lst ds => obtain ⟨a, xs, e1, e2, e3⟩ := f; exact ⟨a, xs, e1, n a e2, e3⟩
  | dct ks vs => obtain ⟨a, xs, e1, e2, e3⟩ := f; exact ⟨a, xs, e1, n a e2, e3⟩
  | _ => trivial
section
variable {Γ : Ctx} {c : Nat → List D → R D} {W : WX} {n : Nat} {N : List Str} {sc : Scope} {X : Cx} {pos : Pos}
theorem zip_core (hf : Fx Γ n N sc X) {pr : Pr} {mk : List D → D} (hpr : ∀ x y, prR pr [x, y] = mapR mk (zipR x y)) {a b : E} {σ : L2.St} {H : Hp} {Q : VK} (h : spE Γ c W (.prim pr (.cons a (.cons b .nil))) σ H Q) :
    spA Γ c W (.cons a (.cons b .nil)) σ H fun vs H1 => HG X.K H1 → ∃ (k1 k2 : Sr) (xs ys : List V), vs = [k1.v, k2.v] ∧ k1.has X.K H1 xs ∧ k2.has X.K H1 ys ∧
      ∃ ds es xs' Fp, ItOk X.K (Itz2 X.K k1 k2) ds es xs' Fp H1 ∧ ds.length ≤ sizeLine ∧ ∀ v H'', Same H1 H'' → (∀ Y, ZOk Y H1 → RpL X.K Y H1 es xs' → Rp X.K Y H'' (mk ds) v) → Fr H1 H'' (mk ds) v → Q v H'' := by
  obtain ⟨ρ, g, q⟩ := h
  have q : match ((evEs c (.cons a (.cons b .nil)) ρ).bind fun ds => prR pr ds) with
    | .ok d => ∀ v H', Same H H' → (∀ Y O, ZOk Y H → SlG Γ.K Y O H σ ρ → Lv Γ.K Y (if max (lv O a) (max (lv O b) 0) ≤ 1 then 0 else 2) H' d v) → (true = true → Fr H H' d v) → Q v H'
    | .ex x => ∀ H', Same H H' → W (Γ.cl x) none σ H'
    | .bad => False := q
  refine spA.mk g (fun z => by rw [z] at q; exact q) (fun x z => by rw [z] at q; exact q) fun ds z vs H1 s1 lev hgg => ?_
  rw [z] at q
  have ev : evEs c (.cons a (.cons b .nil)) ρ = (evE c a ρ).bind fun x => (evE c b ρ).bind fun y => .ok [x, y] := by
    show ((evE c a ρ).bind fun d => ((evE c b ρ).bind fun d => (R.ok [] : R (List D)).bind fun ds => R.ok (d :: ds)).bind fun ds => R.ok (d :: ds)) = _
    cases evE c a ρ with
    | ok x => cases evE c b ρ <;> rfl
    | ex x => rfl
    | bad => rfl
  rw [ev] at z
  obtain ⟨x, e1, z⟩ := R.bind_ok z
  obtain ⟨y, e2, z⟩ := R.bind_ok z
  cases z
  rw [R.ok_bind, hpr] at q
  cases e3 : zipR x y with
  | bad => rw [e3] at q; exact q.elim
  | ex t => exact absurd e3 zipR_noex
  | ok ds =>
    rw [e3] at q
    have q : ∀ v H', Same H H' → (∀ Y O, ZOk Y H → SlG Γ.K Y O H σ ρ → Lv Γ.K Y (if max (lv O a) (max (lv O b) 0) ≤ 1 then 0 else 2) H' (mk ds) v) → (true = true → Fr H H' (mk ds) v) → Q v H' := q
    obtain ⟨es, fs, i1, i2, hn, rfl⟩ := zipR_ok e3
    rw [hf.K] at hgg ⊢
    have lem := (lev Em [] (fun _ z => z.elim) g).2 (by rw [lvs_nil]; exact Nat.zero_le _)
    obtain ⟨v, ws, rfl, r1, w, us, rfl, r2, hu⟩ := lem
    have hu : us = [] := hu
    subst hu
    obtain ⟨k1, xs, F1, v1, a1, g1, z1, t1, c1, y1, n1⟩ := src_of hgg i1 r1
    obtain ⟨k2, ys, F2, v2, a2, g2, z2, t2, c2, y2, n2⟩ := src_of hgg i2 r2
    refine ⟨k1, k2, xs, ys, by rw [v1, v2], a1, a2, _, _, _, _, itz_ok hn g1 g2 t1 t2 c1 c2, ?_, fun u H'' sm rp fr => ?_⟩
    · rw [List.length_map, List.length_zip, g1.length]
      exact Nat.le_trans (Nat.min_le_left _ _) z1
    · refine q u H'' (s1.trans sm) (fun Y O zy gy => Lv.if2 fun h1 => ?_) fun _ => Fr.of_same s1 fr
      obtain ⟨v', ws', e4, q1, w', us', e5, q2, _⟩ := (lev Y O zy gy).2 h1
      cases e4
      cases e5
      exact rp Y (zy.same s1) (RpL.join (y1 Y q1) (y2 Y q2))
theorem x_zipL (hf : Fx Γ n N sc X) (G : Gk Γ) {a b : E} {y z : Expr} {p p2 q : Pos} (hg : gloB sc "list" = true) (hg2 : gloB sc "zip" = true) (pa : PA X [y, z] (spA Γ c W (.cons a (.cons b .nil))))
    (hs : starEach [y, z] X.env = (false, eval y X.env) :: starEach [z] X.env) (hpl : (backTo q (starEach [z] X.env)).any (·.1) = false) :
    PE X (.Call (.Name "list" p) [.Call (.Name "zip" p2) [y, z] [] q] [] pos) (spE Γ c W (.prim .zipL (.cons a (.cons b .nil)))) := by
  refine ⟨fun pins s σ H Q I h => ?_⟩
  have na : starEach [.Call (.Name "zip" p2) [y, z] [] q] X.env = (false, eval (.Call (.Name "zip" p2) [y, z] [] q) X.env) :: starEach [] X.env := rfl
  refine Call_ (ld_blt I (glo_of hf hg) (mg_free hf G (by decide)) boot_list (PyProof.Rows.callWith_type1 (args_cons (thn (zip_ev (glo_of hf hg2) (mg_free hf G (by decide)) pa hs hpl I (zip_core (mk := .lst) hf (fun _ _ => rfl) h)) fun v s1 ⟨b0, k1, k2, H1, e, I1, f1, f2, hfp, hsz, st, h0, ds, es, xs, Fp, ok, hl, q⟩ => args_nil ?_) na) na))
  subst e
  refine zl_list f1 f2 (I.ok.hd hf.calm) ok hl I1 hfp hsz st h0 fun p' s' H' vs I' hp sm hv rp => ⟨.ref p', _, I', rfl, ?_⟩
  refine q _ _ (sm.trans (same_upd hp)) (fun Y zy r => Rp.new_lst hp ((zy.same sm).not_none hp) (rp Y r)) ⟨p', vs, rfl, ?_, upd_same⟩
  cases e : H1 p' with
  | none => rfl
  | some u => rw [sm _ _ e] at hp; cases hp
theorem x_zipT (hf : Fx Γ n N sc X) (G : Gk Γ) {a b : E} {y z : Expr} {p p2 q : Pos} (hg : gloB sc "tuple" = true) (hg2 : gloB sc "zip" = true) (pa : PA X [y, z] (spA Γ c W (.cons a (.cons b .nil))))
    (hs : starEach [y, z] X.env = (false, eval y X.env) :: starEach [z] X.env) (hpl : (backTo q (starEach [z] X.env)).any (·.1) = false) :
    PE X (.Call (.Name "tuple" p) [.Call (.Name "zip" p2) [y, z] [] q] [] pos) (spE Γ c W (.prim .zipT (.cons a (.cons b .nil)))) := by
  refine ⟨fun pins s σ H Q I h => ?_⟩
  have na : starEach [.Call (.Name "zip" p2) [y, z] [] q] X.env = (false, eval (.Call (.Name "zip" p2) [y, z] [] q) X.env) :: starEach [] X.env := rfl
  refine Call_ (ld_blt I (glo_of hf hg) (mg_free hf G (by decide)) boot_tuple (PyProof.Rows.callWith_type1 (args_cons (thn (zip_ev (glo_of hf hg2) (mg_free hf G (by decide)) pa hs hpl I (zip_core (mk := .tup) hf (fun _ _ => rfl) h)) fun v s1 ⟨b0, k1, k2, H1, e, I1, f1, f2, hfp, hsz, st, h0, ds, es, xs, Fp, ok, hl, q⟩ => args_nil ?_) na) na))
  subst e
  refine zl_tuple f1 f2 (I.ok.hd hf.calm) ok hl I1 hfp hsz st h0 fun p' s' H' vs us I' hp sm hv rp => ⟨.ref p', _, I', rfl, ?_⟩
  exact q _ _ (sm.trans (same_upd hp)) (fun Y zy r => Rp.new_known hp (rp Y r)) trivial
end
end Pw

/-! text PwMx -/
/-! max(.., default=..) -/
namespace Pw
open PySem PySem.Spec PyProof.Rows L2
theorem max_fold (n : Int) : ∀ ns : List Int, (n :: ns).max? = some (ns.foldl max n) := fun ns => rfl
theorem al_ints (ns : List Int) : PySem.W.AlikeAll (ns.map .int) := by
  refine ⟨fun x hx y hy => ?_, fun x hx => ?_⟩
  · obtain ⟨i, _, rfl⟩ := List.mem_map.mp hx
    obtain ⟨j, _, rfl⟩ := List.mem_map.mp hy
    rfl
  · obtain ⟨i, _, rfl⟩ := List.mem_map.mp hx
    exact fun z => nomatch z
section
variable {X : Cx}
def rMx (K : PySem.W.Frag) : List V → List V → Hp → VK → Prop := fun vs zs H Q => ∃ (a : Addr) (ns : List Int) (z : Int), vs = [.ref a] ∧ zs = [.int z] ∧ SqL K H a (ns.map V.int) ∧ Q (.int ((ns.max?).getD z)) H
theorem cr_mx (hc : X.calm = true) (hu : X.A.units + 100 < cLine) : CallRK X (.builtin "max") [Str.ofString "default"] (rMx X.K) := by
  intro pins s σ H xs zs us ws Q I r rz h
  obtain ⟨a, ns, z, rfl, rfl, hs, q⟩ := h
  obtain ⟨its, rv, hl, _⟩ := I.list hs
  rw [Vals.ref1 r]
  cases rz with
  | cons r0 rr =>
    cases rr
    obtain ⟨t, rfl⟩ := r0
    show wpAny _ _ (call (.builtin "max") [.ref a] [(Str.ofString "default", .int z t)]) _ _ _
    refine PySem.W.max_list_default (xs := ns.map .int) (as := []) (I.ok.hd hc) hl.isList (by rw [List.toList_toArray]; exact ints_readAll _ rv.ints) (al_ints ns) (by rw [depthAll_ints]; omega) (fun e h' tk hk => ?_) fun y ys i v h' tk bs e hi rd hk => ?_
    · have e : ns = [] := List.map_eq_nil_iff.mp e
      subst e
      exact ⟨.int z, H, I.kept hk, ⟨_, rfl⟩, q⟩
    · cases ns with
      | nil => cases e
      | cons n ns =>
        rw [List.map_cons] at e
        injection e with e1 e2
        subst e1
        subst e2
        rw [PySem.W.maxD_ints] at rd
        cases rd
        rw [max_fold] at q
        exact ⟨.int _, H, I.kept hk, ⟨_, rfl⟩, q⟩
end
section
variable {Γ : Ctx} {c : Nat → List D → R D} {W : WX} {n : Nat} {N : List Str} {sc : Scope} {X : Cx} {pos : Pos}
theorem x_maxD (hf : Fx Γ n N sc X) (G : Gk Γ) {a b : E} {y z : Expr} {p kp : Pos} (hg : gloB sc "max" = true) (ha : PE X y (spE Γ c W a)) (hb : PE X z (spE Γ c W b))
    (st : ∀ es, starEach (y :: es) X.env = (false, eval y X.env) :: starEach es X.env) : PE X (.Call (.Name "max" p) [y] [⟨some "default", z, kp⟩] pos) (spE Γ c W (.prim .maxD (.cons a (.cons b .nil)))) := by
  refine PE.mono (pe_callBK (cr_mx hf.calm hf.units) (glo_of hf hg) (mg_free hf G (by decide)) (by decide +kernel) (pa_cons ha pa_nil (st [])) (pk_cons hb pk_nil) (he := by rw [st []]; rfl) (hpl := by rw [st []]; rfl)) fun σ H Q h => ?_
  have h := prim_core hf (fun _ _ => prR_noex) h
  obtain ⟨ρ, g, q⟩ := h
  have q : match ((evE c a ρ).bind fun d => ((evE c b ρ).bind fun d => (R.ok [] : R (List D)).bind fun ds => R.ok (d :: ds)).bind fun ds => R.ok (d :: ds)) with
    | .ok ds => ∀ vs H', Same H H' → (∀ Y O, ZOk Y H → SlG Γ.K Y O H σ ρ → LvL Γ.K Y (max (lv O a) (max (lv O b) 0)) H' ds vs) → rP X.K (prR .maxD) vs H' Q
    | .ex x => ∀ H', Same H H' → W (Γ.cl x) none σ H'
    | .bad => False := q
  refine spE.mk g (fun z => by rw [z] at q; exact q) (fun x z => by rw [z] at q; exact q) fun d z v H1 s1 lev _ => ?_
  rw [z, R.ok_bind] at q
  show spE Γ c W b σ H1 _
  refine spE.mk (g.same s1) (fun z => by rw [z] at q; exact q) (fun x z H2 s2 => by rw [z] at q; exact q H2 (s1.trans s2)) fun d2 z2 w H2 s2 lev2 _ => ?_
  rw [z2] at q
  show rMx X.K [v] [w] H2 Q
  obtain ⟨ds, dd, ha, e, q⟩ := q [v, w] H2 (s1.trans s2) fun Y O zy gy => by
    have l1 := (lev Y O zy gy).same s2
    have l2 := lev2 Y O (zy.same s1) (gy.same s1)
    exact ⟨fun hz => ⟨v, [w], rfl, l1.1 (by omega), w, [], rfl, l2.1 (by omega), rfl⟩, fun hz => ⟨v, [w], rfl, l1.2 (by omega), w, [], rfl, l2.2 (by omega), rfl⟩⟩
  match ds, e, ha with
  | [.lst ts, .int i], e, ha =>
    obtain ⟨v', vs', ev, ⟨p0, xs, e4, r1, g1⟩, w', ws', ew, e5, _⟩ := ha
    cases ev
    cases ew
    have e5 : w = .int i := e5
    have e : mapR (fun ns => D.int ((ns.max?).getD i)) (ofO (ints? ts)) = .ok dd := e
    cases e6 : ints? ts with
    | none => rw [e6] at e; cases e
    | some ns =>
      rw [e6] at e
      cases e
      have ey := RpL.ints g1 e6
      subst ey
      exact ⟨p0, ns, i, by rw [e4], by rw [e5], .inl r1, q _ H2 (Same.refl H2) (fun _ _ _ => rfl) trivial⟩
end
end Pw

/-! text PwSt -/
/-! xs[::k], k 1 or -1 -/
namespace Pw
open PySem PySem.Spec PyProof.Rows L2
theorem pick_one (items : Array Value) : slicePick items none none (some 1) = slicePick items none none none := rfl
theorem pick_all (its : List Value) : slicePick its.toArray none none none = its.toArray := by
  have hb : sliceBounds none none none its.toArray.size = (((0 : Nat) : Int), ((its.length : Nat) : Int), 1) := by
    rw [List.size_toArray]
    simp [sliceBounds]
  rw [PySem.W.kmk_pick_nat _ hb]
  simp
def stepL {A : Type} (z : Int) (xs : List A) : List A := if z = 1 then xs else xs.reverse
section
variable {X : Cx}
def tStp (K : PySem.W.Frag) (te tk : TE) : TE := fun σ H Q => te σ H fun x H1 => tPart tk σ H1 fun o H2 => ∃ a xs z, x = .ref a ∧ o = some z ∧ (z = 1 ∨ z = -1) ∧ SqL K H2 a xs ∧ ∀ p, H2 p = none → Q (.ref p) (upd H2 p (.lst (stepL z xs)))
theorem pe_stepL {e k : Expr} {te tk : TE} {p3 pos : Pos} (he : PE X e te) (hk : PE X k tk) : PE X (.Subscript e (.Slice none none (some k) p3) pos) (tStp X.K te tk) := by
  refine ⟨fun pins s σ H Q I h => ?_⟩
  refine Subscript_ (thn (he.run pins s σ H _ I h) fun v s1 ⟨x, H1, I1, r1, q1⟩ => ?_)
  have hst : PO X (some k) (tPart tk) := po_some hk
  refine wpAny_Slice (thn (po_none.run pins s1 σ H1 (fun o H2 => o = none ∧ H2 = H1) I1 ⟨rfl, rfl⟩) fun vl s2 ⟨l, H2, I2, pl, el, e2⟩ => ?_)
  subst el e2
  refine thn (po_none.run pins s2 σ H2 (fun o H3 => o = none ∧ H3 = H2) I2 ⟨rfl, rfl⟩) fun vu s3 ⟨u, H3, I3, pu, eu, e3⟩ => ?_
  subst eu e3
  refine thn (hst.run pins s3 σ H3 _ I3 q1) fun vs s4 ⟨o, H4, I4, ps, a, xs, z, ex, eo, hz1, hx, q⟩ => ?_
  subst ex
  subst eo
  cases r1
  have I5 : Inv X pins σ H4 { s4 with heap := s4.heap.push { cls := .type "slice", data := .fields #[vl, vu, vs] } } := I4.kept (t' := s4.toks) fun b ob q => Heap.get?_push_of_some _ q
  obtain ⟨its, r, ht, hz⟩ := I5.list hx
  have hlen := r.length
  show wpAny (model X.prog X.w) X.A (subscriptTail e (.Slice none none (some k) p3) (.ref a) (.ref s4.heap.objs.size)) (EP X pins σ Q) X.xe { s4 with heap := s4.heap.push { cls := .type "slice", data := .fields #[vl, vu, vs] } }
  refine tail_any (ops := [.ref a, .ref s4.heap.objs.size]) ht.isList.typeIs (PySem.slot_list_getitem.lookup) ?_ (by with_unfolding_all rfl)
  refine wpAny_getItem_list_slice ht.isList (Heap.IsSliceOf.new _ vl vu vs) pl pu ps (by rcases hz1 with e | e <;> (subst e; decide)) ?_ (by rw [List.size_toArray]; omega)
  rcases hz1 with e | e
  · subst e
    rw [pick_one, pick_all]
    refine ⟨.ref _, _, I5.laid (t' := s4.toks) (o := .lst xs) (fun b ob q => Heap.get?_push_of_some _ q) (Nat.le_refl _) ?_, rfl, q _ (I5.hok.fresh (Nat.le_refl _))⟩
    exact ⟨hz, _, 0, r, Heap.get?_push_size _ rfl⟩
  · subst e
    rw [PySem.W.krv_pick]
    refine ⟨.ref _, _, I5.laid (t' := s4.toks) (o := .lst xs.reverse) (fun b ob q => Heap.get?_push_of_some _ q) (Nat.le_refl _) ?_, rfl, q _ (I5.hok.fresh (Nat.le_refl _))⟩
    exact ⟨by rw [List.length_reverse]; exact hz, _, 0, r.reverse, Heap.get?_push_size _ rfl⟩
end
section
variable {Γ : Ctx} {c : Nat → List D → R D} {W : WX} {n : Nat} {N : List Str} {sc : Scope} {X : Cx} {pos : Pos}
theorem x_stp (hf : Fx Γ n N sc X) {a b : E} {y z : Expr} {p3 : Pos} (ha : PE X y (spE Γ c W a)) (hb : PE X z (spE Γ c W b)) :
    PE X (.Subscript y (.Slice none none (some z) p3) pos) (spE Γ c W (.prim .stp (.cons a (.cons b .nil)))) := by
  refine PE.mono (pe_stepL ha hb) fun σ H Q h => ?_
  have h := prim_core hf (fun _ _ => prR_noex) h
  obtain ⟨ρ, g, q⟩ := h
  have q : match ((evE c a ρ).bind fun d => ((evE c b ρ).bind fun d => (R.ok [] : R (List D)).bind fun ds => R.ok (d :: ds)).bind fun ds => R.ok (d :: ds)) with
    | .ok ds => ∀ vs H', Same H H' → (∀ Y O, ZOk Y H → SlG Γ.K Y O H σ ρ → LvL Γ.K Y (max (lv O a) (max (lv O b) 0)) H' ds vs) → rP X.K (prR .stp) vs H' Q
    | .ex x => ∀ H', Same H H' → W (Γ.cl x) none σ H'
    | .bad => False := q
  refine spE.mk g (fun z => by rw [z] at q; exact q) (fun x z => by rw [z] at q; exact q) fun d z v H1 s1 lev _ => ?_
  rw [z, R.ok_bind] at q
  show spE Γ c W b σ H1 _
  refine spE.mk (g.same s1) (fun z => by rw [z] at q; exact q) (fun x z H2 s2 => by rw [z] at q; exact q H2 (s1.trans s2)) fun d2 z2 w H2 s2 lev2 _ => ?_
  rw [z2] at q
  obtain ⟨ds, dd, ha, e, q⟩ := q [v, w] H2 (s1.trans s2) fun Y O zy gy => by
    have l1 := (lev Y O zy gy).same s2
    have l2 := lev2 Y O (zy.same s1) (gy.same s1)
    exact ⟨fun hz => ⟨v, [w], rfl, l1.1 (by omega), w, [], rfl, l2.1 (by omega), rfl⟩, fun hz => ⟨v, [w], rfl, l1.2 (by omega), w, [], rfl, l2.2 (by omega), rfl⟩⟩
  match ds, e, ha with
  | [.lst ts, .int i], e, ha =>
    obtain ⟨v', vs', ev, ⟨p0, xs, e4, r1, g1⟩, w', ws', ew, e5, _⟩ := id ha
    cases ev
    cases ew
    have e5 : w = .int i := e5
    have e : (if i = 1 then R.ok (D.lst ts) else if i = -1 then R.ok (D.lst ts.reverse) else .bad) = .ok dd := e
    have fin : (i = 1 ∨ i = -1) → dd = .lst (stepL i ts) → ∃ i', w = .int i' ∧ ∃ a xs z, v = .ref a ∧ some i' = some z ∧ (z = 1 ∨ z = -1) ∧ SqL X.K H2 a xs ∧ ∀ p, H2 p = none → Q (.ref p) (upd H2 p (.lst (stepL z xs))) := fun h1 h2 => by
      refine ⟨i, e5, p0, xs, i, e4, rfl, h1, .inl r1, fun p hp => ?_⟩
      subst h2
      refine q _ _ (same_upd hp) (fun Y zy ar => ?_) ⟨p, _, rfl, hp, upd_same⟩
      obtain ⟨v2, vs2, ev2, ⟨p2, xs2, e6, r2, g2⟩, _⟩ := ar
      cases ev2
      rw [e4] at e6; cases e6
      have ex : xs = xs2 := by
        rcases r1 with r1 | ⟨o, r1⟩ <;> rcases r2 with r2 | ⟨o', r2⟩ <;> (rw [r1] at r2; cases r2; first | done | rfl)
      subst ex
      refine Rp.new_lst hp (zy.not_none hp) ?_
      unfold stepL
      split
      · exact g2
      · exact g2.reverse
    split at e
    · rename_i hi
      cases e
      exact fin (.inl hi) (by unfold stepL; rw [if_pos hi])
    · split at e
      · rename_i hn hi
        cases e
        exact fin (.inr hi) (by unfold stepL; rw [if_neg hn])
      · cases e
end
end Pw

/-! text PwY -/
/-! every expression that the check takes keeps its promise -/
namespace Pw
open PySem PySem.Spec PyProof.Rows L2

section
variable {tb : Tb} {N : List Str} {sc : Scope}
theorem chk_star {a : E} {e : Expr} (h : chkE tb N a sc e = true) : ∀ x p, e ≠ .Starred x p := by
  rintro x p rfl
  cases a with
  | lit d => cases d <;> cases h
  | prim p es => cases p <;> (cases es with
    | nil => cases h
    | cons a es => cases es with
      | nil => cases h
      | cons b es => cases es <;> cases h)
  | _ => cases h
theorem chk_set {a : E} {e : Expr} (h : chkE tb N a sc e = true) : ∀ x k p, e ≠ .Set x k p := by
  rintro x k p rfl
  cases a with
  | lit d => cases d <;> cases h
  | prim p es => cases p <;> (cases es with
    | nil => cases h
    | cons a es => cases es with
      | nil => cases h
      | cons b es => cases es <;> cases h)
  | _ => cases h
theorem chk_slice {a : E} {e : Expr} (h : chkE tb N a sc e = true) : ∀ x y z p, e ≠ .Slice x y z p := by
  rintro x y z p rfl
  cases a with
  | lit d => cases d <;> cases h
  | prim p es => cases p <;> (cases es with
    | nil => cases h
    | cons a es => cases es with
      | nil => cases h
      | cons b es => cases es <;> cases h)
  | _ => cases h
theorem plainIx_of {e : Expr} (ns : ∀ x y z p, e ≠ .Slice x y z p) : PlainIx e := fun o i => by
  cases e with
  | Slice x y z p => exact absurd rfl (ns x y z p)
  | _ => rfl
theorem star_ok {a : E} {e : Expr} (h : chkE tb N a sc e = true) (env : Env) (es : List Expr) : starEach (e :: es) env = (false, eval e env) :: starEach es env := by
  have z := chk_star h
  cases e with
  | Starred x p => exact absurd rfl (z x p)
  | _ => rfl
theorem fold_ok {e : Expr} (h : ∀ x k p, e ≠ .Set x k p) (env : Env) (x : Value) : foldedSetIterable e env x = pure x := by
  cases e with
  | Set y k p => exact absurd rfl (h y k p)
  | _ => rfl
theorem base_ok {x : Expr} (h : isCallE x = false) {m : Str} {env : Env} {wh : Sem Value} : attributeBase x m env wh = wh := by
  cases x with
  | Call f as ks p =>
    cases f with
    | Name id q =>
      cases as with
      | nil =>
        cases ks with
        | nil => cases h
        | cons => rfl
      | cons => rfl
    | _ => rfl
  | _ => rfl
theorem marks_ok {a : E} {e : Expr} (h : chkE tb N a sc e = true) (o : CmpOp) : behindInMarks o e = false := marks_of (chk_set h)
theorem stars_ok : ∀ {es : Es} {xs : List Expr}, chkEs tb N es sc xs = true → ∀ (env : Env) (pos : Pos), (backTo pos (starEach xs env)).any (·.1) = false
  | .nil, xs, h, env, pos => by
    have h : xs.isEmpty = true := h
    rw [List.isEmpty_iff] at h
    subst h
    rfl
  | .cons a es, xs, h, env, pos => by
    cases xs with
    | nil => cases h
    | cons x xs =>
      have h : (chkE tb N a sc x && chkEs tb N es sc xs) = true := h
      rw [Bool.and_eq_true] at h
      rw [star_ok h.1 env xs]
      show (false || (backTo pos (starEach xs env)).any (·.1)) = false
      rw [stars_ok h.2 env pos]; rfl
theorem evEs_len {c : Nat → List D → R D} : ∀ {es : Es} {xs : List Expr}, chkEs tb N es sc xs = true → ∀ {ρ : Sl} {ds : List D}, evEs c es ρ = .ok ds → ds.length = xs.length
  | .nil, xs, h, ρ, ds, e => by
    have h : xs.isEmpty = true := h
    rw [List.isEmpty_iff] at h
    subst h
    cases e
    rfl
  | .cons a es, xs, h, ρ, ds, e => by
    cases xs with
    | nil => cases h
    | cons x xs =>
      have h : (chkE tb N a sc x && chkEs tb N es sc xs) = true := h
      rw [Bool.and_eq_true] at h
      obtain ⟨d, _, e⟩ := R.bind_ok (show ((evE c a ρ).bind fun d => (evEs c es ρ).bind fun ds => R.ok (d :: ds)) = .ok ds from e)
      obtain ⟨ds', e1, e⟩ := R.bind_ok e
      cases e
      rw [List.length_cons, List.length_cons, evEs_len h.2 e1]
theorem nm_inv {i : Nat} {e : Expr} (h : nmB N sc i e = true) : ∃ x p, e = .Name x p ∧ N[i]? = some x ∧ locB sc x = true := by
  cases e with
  | Name x p =>
    have h : (decide (N[i]? = some x) && locB sc x) = true := h
    simp only [Bool.and_eq_true, decide_eq_true_eq] at h
    exact ⟨x, p, rfl, h.1, h.2⟩
  | _ => cases h
theorem stos_by {X : Cx} (hx : ∀ i x, N[i]? = some x → locB sc x = true → Sto X i x) : ∀ {is : List Nat} {es : List Expr}, nmsB N sc is es = true → Stos X is es
  | [], [], _ => .nil
  | [], _ :: _, h => by cases h
  | _ :: _, [], h => by cases h
  | i :: is, e :: es, h => by
    have h : (nmB N sc i e && nmsB N sc is es) = true := h
    rw [Bool.and_eq_true] at h
    obtain ⟨x, p, rfl, h1, h2⟩ := nm_inv h.1
    exact .cons (hx i x h1 h2) (stos_by hx h.2)
theorem stot_by {X : Cx} (hx : ∀ i x, N[i]? = some x → locB sc x = true → Sto X i x) {tg : Tg} {e : Expr} (h : tgB N sc tg e = true) : StoT X tg e := by
  cases tg with
  | nm i =>
    obtain ⟨x, p, rfl, h1, h2⟩ := nm_inv h
    exact .nm (hx i x h1 h2)
  | tp is =>
    cases e with
    | Tuple es k p => exact .tp (stos_by hx h)
    | _ => cases h
end

section
variable {Γ : Ctx} {c : Nat → List D → R D} {n : Nat} {N : List Str}
theorem Fx.blk {sc : Scope} {X : Cx} (hf : Fx Γ n N sc X) (s : Shared) (H : Hp) (scope : Scope) (cl : List (Str × Addr)) (C : Addr) (fp : List Addr) : Fx Γ n N (relS scope sc) (X.blk s H scope (compEnvC scope cl C X.env) fp) :=
  ⟨hf.prog, hf.w, hf.K, hf.mg, hf.base, hf.eN, by rw [← hf.eS]; rfl, hf.calm, hf.room, hf.nd⟩
theorem sto_blk {sc : Scope} {X : Cx} (hf : Fx Γ n N sc X) (s : Shared) (H : Hp) (scope : Scope) (cl : List (Str × Addr)) (C : Addr) (fp : List Addr) {i : Nat} {x : Str} (h1 : N[i]? = some x) (h2 : locB scope x = true) :
    Sto (X.blk s H scope (compEnvC scope cl C X.env) fp) i x := by
  have es := (hf.blk s H scope cl C fp).eS
  refine ⟨by show X.N[i]? = _; rw [hf.eN]; exact h1, ?_⟩
  rw [es]
  unfold locB at h2
  split at h2
  · rename_i q
    have z : (relS scope sc).names.lookup x = some .local := lookup_relS_keep (by decide) q
    exact ⟨.inl z, .inr z⟩
  · rename_i q
    have z : (relS scope sc).names.lookup x = some .cell := lookup_relS_keep (by decide) q
    exact ⟨.inr z, .inl (by show (scope.names.lookup x == some .cell) = true; rw [q]; rfl)⟩
  · cases h2

theorem both {sc : Scope} {X : Cx} {W : WX} (hf : Fx Γ n N sc X) {a : E} {e : Expr} (h : PE X e (spE Γ c W a)) (he : ∀ whole, isTrue e X.env whole = (do let v ← whole; standAt e.pos; holding [v] (truthy v))) : PE X e (spE Γ c W a) ∧ PT X e (spT Γ c W a) := ⟨h, xt_val hf h he⟩
mutual
theorem soE (G : Gk Γ) (C : Cok Γ n c) : ∀ (a : E) (sc : Scope) (X : Cx) (e : Expr) (W : WX), chkE Γ.tb N a sc e = true → Fx Γ n N sc X → Takes X W → PE X e (spE Γ c W a) ∧ PT X e (spT Γ c W a)
  | .var i, sc, X, e, W, h, hf, tk => by
    unfold chkE at h
    split at h
    · rename_i x pp
      simp only [Bool.and_eq_true, decide_eq_true_eq] at h
      exact both hf (x_var (c := c) (W := W) (pos := pp) hf h.1.1 h.1.2 h.2) (fun _ => rfl)
    · cases h
  | .lit d, sc, X, e, W, h, hf, tk => by
    have p := x_lit (X := X) (Γ := Γ) (c := c) (W := W) (show litB d e = true from h)
    refine ⟨p, xt_val hf p ?_⟩
    cases e with
    | Constant => exact fun _ => rfl
    | _ => cases d <;> cases h
  | .glo x d, sc, X, e, W, h, hf, tk => by
    unfold chkE at h
    split at h
    · simp only [Bool.and_eq_true, decide_eq_true_eq] at h
      obtain ⟨⟨⟨rfl, h1⟩, h2⟩, h3⟩ := h
      rename_i pp
      exact both hf (x_glo (c := c) (W := W) (pos := pp) hf G h3 h1 h2) (fun _ => rfl)
    · cases h
  | .neg a, sc, X, e, W, h, hf, tk => by
    unfold chkE at h
    split at h
    · exact both hf (x_neg hf (soE G C a sc X _ W h hf tk).1) (fun _ => rfl)
    · cases h
  | .bin op a b, sc, X, e, W, h, hf, tk => by
    unfold chkE at h
    split at h
    · simp only [Bool.and_eq_true, decide_eq_true_eq] at h
      obtain ⟨⟨rfl, h1⟩, h2⟩ := h
      exact both hf (x_bin hf (soE G C a sc X _ W h1 hf tk).1 (soE G C b sc X _ W h2 hf tk).1) (fun _ => rfl)
    · cases h
  | .cmp op a b, sc, X, e, W, h, hf, tk => by
    unfold chkE at h
    split at h
    · simp only [Bool.and_eq_true, decide_eq_true_eq] at h
      obtain ⟨⟨rfl, h1⟩, h2⟩ := h
      have pa := (soE G C a sc X _ W h1 hf tk).1
      have pb := (soE G C b sc X _ W h2 hf tk).1
      exact ⟨x_cmp hf pa pb (marks_ok h2 _), xt_cmp hf pa pb (marks_ok h2 _)⟩
    · cases h
  | .cmp2 o1 o2 a b d, sc, X, e, W, h, hf, tk => by
    unfold chkE at h
    split at h
    · simp only [Bool.and_eq_true, decide_eq_true_eq] at h
      obtain ⟨⟨⟨⟨rfl, rfl⟩, h1⟩, h2⟩, h3⟩ := h
      have pa := (soE G C a sc X _ W h1 hf tk).1
      have pb := (soE G C b sc X _ W h2 hf tk).1
      have pd := (soE G C d sc X _ W h3 hf tk).1
      exact ⟨x_cmp2 hf pa pb pd (marks_ok h3 (cmr o2)), xt_cmp2 hf pa pb pd (marks_ok h3 (cmr o2))⟩
    · cases h
  | .not a, sc, X, e, W, h, hf, tk => by
    unfold chkE at h
    split at h
    · obtain ⟨p, t⟩ := soE G C a sc X _ W h hf tk
      exact ⟨x_not hf p, xt_not t⟩
    · cases h
  | .and es, sc, X, e, W, h, hf, tk => by
    unfold chkE at h
    split at h
    · rename_i xs p
      obtain ⟨_, q⟩ := soEs G C es sc X xs W h hf tk
      cases es with
      | nil => exact ⟨⟨fun _ _ _ _ _ _ z => let ⟨_, _, q⟩ := z; q.elim⟩, ⟨fun _ _ _ _ _ _ z => let ⟨_, _, q⟩ := z; q.elim⟩⟩
      | cons b bs =>
        obtain ⟨q1, q2, _, _⟩ := q p (by intro z; cases z)
        refine ⟨PE.mono q1 fun σ H Q z => ?_, PT.mono q2.pt fun σ H Q z => z⟩
        obtain ⟨ρ, g, z⟩ := z
        refine ⟨ρ, g, ?_⟩
        have z : match evAnd c (.cons b bs) ρ with
          | .ok d => ∀ v H', Same H H' → (∀ Y O, ZOk Y H → SlG Γ.K Y O H σ ρ → Lv Γ.K Y (lvs O (.cons b bs)) H' d v) → (false = true → Fr H H' d v) → Q v H'
          | .ex x => ∀ H', Same H H' → W (Γ.cl x) none σ H'
          | .bad => False := z
        cases e : evAnd c (.cons b bs) ρ with
        | ok d => rw [e] at z; exact fun v H' s l => z v H' s l (fun z => by cases z)
        | ex x => rw [e] at z; exact z
        | bad => rw [e] at z; exact z
    · cases h
  | .or es, sc, X, e, W, h, hf, tk => by
    unfold chkE at h
    split at h
    · rename_i xs p
      obtain ⟨_, q⟩ := soEs G C es sc X xs W h hf tk
      cases es with
      | nil => exact ⟨⟨fun _ _ _ _ _ _ z => let ⟨_, _, q⟩ := z; q.elim⟩, ⟨fun _ _ _ _ _ _ z => let ⟨_, _, q⟩ := z; q.elim⟩⟩
      | cons b bs =>
        obtain ⟨_, _, q1, q2⟩ := q p (by intro z; cases z)
        refine ⟨PE.mono q1 fun σ H Q z => ?_, PT.mono q2.pt fun σ H Q z => z⟩
        obtain ⟨ρ, g, z⟩ := z
        refine ⟨ρ, g, ?_⟩
        have z : match evOr c (.cons b bs) ρ with
          | .ok d => ∀ v H', Same H H' → (∀ Y O, ZOk Y H → SlG Γ.K Y O H σ ρ → Lv Γ.K Y (lvs O (.cons b bs)) H' d v) → (false = true → Fr H H' d v) → Q v H'
          | .ex x => ∀ H', Same H H' → W (Γ.cl x) none σ H'
          | .bad => False := z
        cases e : evOr c (.cons b bs) ρ with
        | ok d => rw [e] at z; exact fun v H' s l => z v H' s l (fun z => by cases z)
        | ex x => rw [e] at z; exact z
        | bad => rw [e] at z; exact z
    · cases h
  | .ite t a b, sc, X, e, W, h, hf, tk => by
    unfold chkE at h
    split at h
    · simp only [Bool.and_eq_true] at h
      obtain ⟨⟨h1, h2⟩, h3⟩ := h
      have pt := soE G C t sc X _ W h1 hf tk
      have pa := soE G C a sc X _ W h2 hf tk
      have pb := soE G C b sc X _ W h3 hf tk
      exact ⟨x_ite pt.2 pa.1 pb.1, xt_ite pt.2 pa.2 pb.2⟩
    · cases h
  | .tup es, sc, X, e, W, h, hf, tk => by
    unfold chkE at h
    split at h
    · simp only [Bool.and_eq_true] at h
      exact both hf (x_tup hf (soEs G C es sc X _ W h.1 hf tk).1 (fun ρ ds e => by rw [evEs_len h.1 e]; exact Nat.le_of_ble_eq_true h.2)) (fun _ => rfl)
    · cases h
  | .lst es, sc, X, e, W, h, hf, tk => by
    unfold chkE at h
    split at h
    · simp only [Bool.and_eq_true] at h
      exact both hf (x_lst hf (soEs G C es sc X _ W h.1 hf tk).1 (fun ρ ds e => by rw [evEs_len h.1 e]; exact Nat.le_of_ble_eq_true h.2)) (fun _ => rfl)
    · cases h
  | .idx a b, sc, X, e, W, h, hf, tk => by
    unfold chkE at h
    split at h
    · cases h
    · simp only [Bool.and_eq_true] at h
      exact both hf (x_idx hf (soE G C a sc X _ W h.1 hf tk).1 (soE G C b sc X _ W h.2 hf tk).1 (plainIx_of (chk_slice h.2))) (fun _ => rfl)
    · cases h
  | .sl a lo hi, sc, X, e, W, h, hf, tk => by
    unfold chkE at h
    split at h
    · simp only [Bool.and_eq_true] at h
      obtain ⟨⟨h1, h2⟩, h3⟩ := h
      exact both hf (x_sl hf (soE G C a sc X _ W h1 hf tk).1 (soEo G C lo sc X _ W h2 hf tk) (soEo G C hi sc X _ W h3 hf tk)) (fun _ => rfl)
    · cases h
  | .rev a, sc, X, e, W, h, hf, tk => by
    unfold chkE at h
    split at h
    · simp only [Bool.and_eq_true, decide_eq_true_eq] at h
      obtain ⟨rfl, h1⟩ := h
      exact both hf (x_rev hf (soE G C a sc X _ W h1 hf tk).1) (fun _ => rfl)
    · cases h
  | .comp elt tg it cond, sc, X, e, W, h, hf, tk => by
    unfold chkE at h
    split at h
    · rename_i el tge ite ifs as scope p
      simp only [Bool.and_eq_true, decide_eq_true_eq] at h
      obtain ⟨⟨⟨⟨⟨⟨⟨rfl, h1⟩, h2⟩, h3⟩, h4⟩, h5⟩, h6⟩, h7⟩ := h
      obtain ⟨pi, pf⟩ := soI G C it sc X tge ite W h5 hf tk
      have pe := x_comp (pos := p) hf pi (by rw [hf.eN, hf.eS]; exact blkOk_by h2) h3
        (fun s H Cc cl fp => by
          have z := pg_tg (X := X.blk s H scope (compEnvC scope cl Cc X.env) fp) (by show X.N.Nodup; rw [hf.eN]; exact hf.nd) hf.calm (stot_by (fun i x a b => sto_blk hf s H scope cl Cc fp a b) h4)
          have e : (X.blk s H scope (compEnvC scope cl Cc X.env) fp).K = Γ.K := hf.K
          rw [e] at z
          exact z)
        (fun s H Cc cl fp => soC G C cond (relS scope sc) _ ifs W0 h6 (hf.blk s H scope cl Cc fp) takes0)
        (fun s H Cc cl fp => (soE G C elt (relS scope sc) _ el W0 h7 (hf.blk s H scope cl Cc fp) takes0).1) (pf X.env)
      exact ⟨pe, xt_val hf pe (fun _ => rfl)⟩
    · cases h
  | .call f es, sc, X, e, W, h, hf, tk => by
    unfold chkE at h
    split at h
    · rename_i x p xs pos
      simp only [Bool.and_eq_true, decide_eq_true_eq] at h
      obtain ⟨⟨⟨h1, h2⟩, h3⟩, h4⟩ := h
      have pa := (soEs G C es sc X xs W h4 hf tk).1
      have p : PE X (.Call (.Name x p) xs [] pos) (spE Γ c W (.call f es)) := by
        cases xs with
        | nil =>
          cases es with
          | nil => exact x_call0 hf G C tk h1 h2 h3
          | cons => cases h4
        | cons y ys =>
          cases es with
          | nil => cases h4
          | cons b bs =>
            have h4 : (chkE Γ.tb N b sc y && chkEs Γ.tb N bs sc ys) = true := h4
            rw [Bool.and_eq_true] at h4
            exact x_call hf G C tk h1 h2 h3 pa (star_ok h4.1 X.env ys) (stars_ok h4.2 X.env _)
      exact ⟨p, xt_val hf p (fun _ => rfl)⟩
    · cases h
  | .prim pr (.cons a .nil), sc, X, e, W, h, hf, tk => by
    have gen : ∀ (x : Str) (y : Expr) (q pos : Pos), (decide (prName pr = some x) && gloB sc x && chkE Γ.tb N a sc y) = true → PE X (.Call (.Name x q) [y] [] pos) (spE Γ c W (.prim pr (.cons a .nil))) ∧ PT X (.Call (.Name x q) [y] [] pos) (spT Γ c W (.prim pr (.cons a .nil))) := fun x y q pos h => by
      simp only [Bool.and_eq_true, decide_eq_true_eq] at h
      exact both hf (x_prim (pos := pos) (q := q) hf G h.1.1 h.1.2 (soE G C a sc X y W h.2 hf tk).1 (star_ok h.2 X.env)) (fun _ => rfl)
    cases pr with
    | isinst T =>
      unfold chkE at h
      split at h
      · rename_i b x p y t p2 pos heq
        cases heq
        simp only [Bool.and_eq_true, decide_eq_true_eq] at h
        obtain ⟨⟨⟨⟨⟨rfl, h1⟩, rfl⟩, h2⟩, h3⟩, h4⟩ := h
        exact both hf (x_isinst (pos := pos) (p := p) (p2 := p2) hf G (by simpa using h3) h1 h2 (soE G C a sc X y W h4 hf tk).1 (star_ok h4 X.env)) (fun _ => rfl)
      · cases h
    | sortedSet =>
      unfold chkE at h
      split at h
      · rename_i b x p y p2 z q pos heq
        cases heq
        simp only [Bool.and_eq_true, decide_eq_true_eq] at h
        obtain ⟨⟨⟨⟨rfl, h1⟩, rfl⟩, h2⟩, h3⟩ := h
        exact both hf (x_sset (pos := pos) (p := p) (p2 := p2) (q := q) hf G h1 h2 (soE G C a sc X z W h3 hf tk).1 (star_ok h3 X.env)) (fun _ => rfl)
      · cases h
    | rangeL =>
      unfold chkE at h
      split at h
      · rename_i b x p y p2 z q pos heq
        cases heq
        simp only [Bool.and_eq_true, decide_eq_true_eq] at h
        obtain ⟨⟨⟨⟨rfl, h1⟩, rfl⟩, h2⟩, h3⟩ := h
        exact both hf (x_rangeL (pos := pos) (p := p) (p2 := p2) (q := q) hf G h1 h2 (soE G C a sc X z W h3 hf tk).1 (star_ok h3 X.env)) (fun _ => rfl)
      · cases h
    | sortedItems =>
      unfold chkE at h
      split at h
      · rename_i b x p z nm apos cpos pos heq
        cases heq
        simp only [Bool.and_eq_true, decide_eq_true_eq, Bool.not_eq_true'] at h
        obtain ⟨⟨⟨⟨⟨rfl, h1⟩, rfl⟩, h2⟩, h3⟩, h4⟩ := h
        exact both hf (x_sitems (pos := pos) (p := p) hf G h1 (soE G C a sc X z W h4 hf tk).1 (base_ok h3) h2) (fun _ => rfl)
      · cases h
    | lenSet =>
      unfold chkE at h
      split at h
      · rename_i b x p y p2 z q pos heq
        cases heq
        simp only [Bool.and_eq_true, decide_eq_true_eq] at h
        obtain ⟨⟨⟨⟨rfl, h1⟩, rfl⟩, h2⟩, h3⟩ := h
        exact both hf (x_lenset (pos := pos) (p := p) (p2 := p2) (q := q) hf G h1 h2 (soE G C a sc X z W h3 hf tk).1 (star_ok h3 X.env)) (fun _ => rfl)
      · cases h
    | zipL => first | (cases h; done) | (unfold chkE at h; split at h <;> first | (cases h; done) | (rename_i heq; cases heq))
    | stp => first | (cases h; done) | (unfold chkE at h; split at h <;> first | (cases h; done) | (rename_i heq; cases heq))
    | maxD => first | (cases h; done) | (unfold chkE at h; split at h <;> first | (cases h; done) | (rename_i heq; cases heq))
    | zipT => first | (cases h; done) | (unfold chkE at h; split at h <;> first | (cases h; done) | (rename_i heq; cases heq))
    | _ =>
      unfold chkE at h
      split at h
      · rename_i heq
        cases heq
        exact gen _ _ _ _ h
      · cases h
  | .prim pr .nil, sc, X, e, W, h, hf, tk => by cases pr <;> cases h
  | .prim pr (.cons a (.cons b (.cons d es))), sc, X, e, W, h, hf, tk => by cases pr <;> cases h
  | .prim pr (.cons a (.cons b .nil)), sc, X, e, W, h, hf, tk => by
    cases pr with
    | zipL =>
      unfold chkE at h
      split at h
      · rename_i b x p y p2 z u q pos heq
        cases heq
        simp only [Bool.and_eq_true, decide_eq_true_eq] at h
        obtain ⟨⟨⟨⟨⟨rfl, h1⟩, rfl⟩, h2⟩, h3⟩, h4⟩ := h
        have pa := a_cons (soE G C a sc X z W h3 hf tk).1 (a_cons (soE G C b sc X u W h4 hf tk).1 a_nil (star_ok h4 X.env [])) (star_ok h3 X.env [u])
        exact both hf (x_zipL (pos := pos) (p := p) (p2 := p2) (q := q) hf G h1 h2 pa (star_ok h3 X.env [u]) (by rw [star_ok h4 X.env []]; rfl)) (fun _ => rfl)
      · cases h
    | zipT =>
      unfold chkE at h
      split at h
      · rename_i b x p y p2 z u q pos heq
        cases heq
        simp only [Bool.and_eq_true, decide_eq_true_eq] at h
        obtain ⟨⟨⟨⟨⟨rfl, h1⟩, rfl⟩, h2⟩, h3⟩, h4⟩ := h
        have pa := a_cons (soE G C a sc X z W h3 hf tk).1 (a_cons (soE G C b sc X u W h4 hf tk).1 a_nil (star_ok h4 X.env [])) (star_ok h3 X.env [u])
        exact both hf (x_zipT (pos := pos) (p := p) (p2 := p2) (q := q) hf G h1 h2 pa (star_ok h3 X.env [u]) (by rw [star_ok h4 X.env []]; rfl)) (fun _ => rfl)
      · cases h
    | stp =>
      unfold chkE at h
      split at h
      · rename_i b y z p3 pos heq
        cases heq
        simp only [Bool.and_eq_true] at h
        exact both hf (x_stp (pos := pos) (p3 := p3) hf (soE G C a sc X y W h.1 hf tk).1 (soE G C b sc X z W h.2 hf tk).1) (fun _ => rfl)
      · cases h
    | maxD =>
      unfold chkE at h
      split at h
      · rename_i b x p y k z kp pos heq
        cases heq
        simp only [Bool.and_eq_true, decide_eq_true_eq] at h
        obtain ⟨⟨⟨⟨rfl, h1⟩, rfl⟩, h3⟩, h4⟩ := h
        exact both hf (x_maxD (pos := pos) (p := p) (kp := kp) hf G h1 (soE G C a sc X y W h3 hf tk).1 (soE G C b sc X z W h4 hf tk).1 (star_ok h3 X.env)) (fun _ => rfl)
      · cases h
    | _ => cases h
  | .meth m o es, sc, X, e, W, h, hf, tk => by
    unfold chkE at h
    split at h
    · rename_i x nm apos xs cpos
      simp only [Bool.and_eq_true, decide_eq_true_eq, Bool.not_eq_true'] at h
      obtain ⟨⟨⟨⟨⟨rfl, h1⟩, h2⟩, h3⟩, h4⟩, h5⟩ := h
      have po := (soE G C o sc X x W h4 hf tk).1
      have pa := (soEs G C es sc X xs W h5 hf tk).1
      have hb : attributeBase x (mtName m) X.env (eval x X.env) = eval x X.env := by
        exact base_ok h2
      have p : PE X (.Call (.Attribute x (mtName m) apos) xs [] cpos) (spE Γ c W (.meth m o es)) := by
        cases xs with
        | nil =>
          cases es with
          | nil => exact x_meth0 hf po hb h1
          | cons => cases h5
        | cons y ys =>
          have h3 : ys.length + 1 < 29 := by simpa using h3
          have h6 := stars_ok h5 X.env cpos
          cases es with
          | nil => cases h5
          | cons b bs =>
            have h5 : (chkE Γ.tb N b sc y && chkEs Γ.tb N bs sc ys) = true := h5
            rw [Bool.and_eq_true] at h5
            refine x_meth hf po pa hb ?_ h1 (star_ok h5.1 X.env ys) (stars_ok h5.2 X.env _)
            have h7 : (backTo cpos (starEach (y :: ys) X.env)).all (fun x => !x.1) = true := by
              rw [List.all_eq_true]
              intro z hz
              have := List.any_eq_false.mp h6 z hz
              simpa using this
            rw [h7]
            simp only [Bool.true_and, Bool.and_eq_true, decide_eq_true_eq]
            exact ⟨rfl, by simp; omega⟩
      exact ⟨p, xt_val hf p (fun _ => rfl)⟩
    · cases h
  | .repl o y z, sc, X, e, W, h, hf, tk => by
    unfold chkE at h
    split at h
    · simp only [Bool.and_eq_true, decide_eq_true_eq, Bool.not_eq_true'] at h
      obtain ⟨⟨⟨⟨⟨rfl, rfl⟩, rfl⟩, h3⟩, h4⟩, h5⟩ := h
      cases o with
      | idx a b =>
        have h5 := h5
        unfold chkE at h5
        simp only [Bool.and_eq_true] at h5
        exact both hf (x_repl hf (soE G C a sc X _ W h5.1 hf tk).1 (soE G C b sc X _ W h5.2 hf tk).1 h3 h4) (fun _ => rfl)
      | lit d => cases d <;> cases h5
      | prim p es => cases p <;> (cases es with
        | nil => cases h5
        | cons a es => cases es with
          | nil => cases h5
          | cons b es => cases es <;> cases h5)
      | _ => cases h5
    · cases h
  | .isx cs a x, sc, X, e, W, h, hf, tk => by
    unfold chkE at h
    split at h
    · simp only [Bool.and_eq_true, decide_eq_true_eq, Bool.or_eq_true, List.all_eq_true] at h
      obtain ⟨⟨⟨⟨⟨⟨⟨rfl, h1⟩, rfl⟩, h2⟩, h3⟩, h4⟩, h6⟩, h5⟩ := h
      exact both hf (x_isx hf G h1 h2 h3 (h4.imp id fun z => by simpa using z) (fun y hy => by simpa using h6 y hy) (soE G C a sc X _ W h5 hf tk).1 (star_ok h5 X.env)) (fun _ => rfl)
    · cases h
  | .dnew, sc, X, e, W, h, hf, tk => by
    unfold chkE at h
    split at h
    · exact both hf x_dnew (fun _ => rfl)
    · cases h
  | .dget o k, sc, X, e, W, h, hf, tk => by
    unfold chkE at h
    split at h
    · simp only [Bool.and_eq_true, decide_eq_true_eq, Bool.not_eq_true'] at h
      obtain ⟨⟨⟨⟨rfl, h1⟩, h2⟩, h3⟩, h4⟩ := h
      exact both hf (x_dget hf (soE G C o sc X _ W h3 hf tk).1 (soE G C k sc X _ W h4 hf tk).1 (base_ok h2) h1 (star_ok h4 X.env)) (fun _ => rfl)
    · cases h
  | .dget2 o k z, sc, X, e, W, h, hf, tk => by
    unfold chkE at h
    split at h
    · simp only [Bool.and_eq_true, decide_eq_true_eq, Bool.not_eq_true'] at h
      obtain ⟨⟨⟨⟨⟨rfl, h1⟩, h2⟩, h3⟩, h4⟩, h5⟩ := h
      exact both hf (x_dget2 hf (soE G C o sc X _ W h3 hf tk).1 (soE G C k sc X _ W h4 hf tk).1 (soE G C z sc X _ W h5 hf tk).1 (base_ok h2) h1 (star_ok h4 X.env) (star_ok h5 X.env)) (fun _ => rfl)
    · cases h
  | .lm m o a, sc, X, e, W, h, hf, tk => by
    unfold chkE at h
    split at h
    · simp only [Bool.and_eq_true, decide_eq_true_eq, Bool.not_eq_true'] at h
      obtain ⟨⟨⟨⟨rfl, h1⟩, h2⟩, h3⟩, h4⟩ := h
      exact both hf (x_lm hf (soE G C o sc X _ W h3 hf tk).1 (soE G C a sc X _ W h4 hf tk).1 (base_ok h2) h1 (star_ok h4 X.env)) (fun _ => rfl)
    · cases h
  | .sidx o a, sc, X, e, W, h, hf, tk => by
    unfold chkE at h
    split at h
    · simp only [Bool.and_eq_true, decide_eq_true_eq, Bool.not_eq_true'] at h
      obtain ⟨⟨⟨⟨rfl, h1⟩, h2⟩, h3⟩, h4⟩ := h
      exact both hf (x_sidx hf (soE G C o sc X _ W h3 hf tk).1 (soE G C a sc X _ W h4 hf tk).1 (base_ok h2) h1 (star_ok h4 X.env)) (fun _ => rfl)
    · cases h
  | .pur a, sc, X, e, W, h, hf, tk => by
    unfold chkE at h
    split at h
    · exact ⟨x_pur (soE G C a sc X _ W h hf tk).1, xt_pur (soE G C a sc X _ W h hf tk).2⟩
    · cases h
  | .fld cs a f, sc, X, e, W, h, hf, tk => by
    unfold chkE at h
    split at h
    · simp only [Bool.and_eq_true, decide_eq_true_eq, Bool.not_eq_true', List.all_eq_true] at h
      obtain ⟨⟨⟨rfl, h1⟩, h2⟩, h3⟩ := h
      exact both hf (x_fld hf G (soE G C a sc X _ W h3 hf tk).1 h2 (base_ok h1)) (fun _ => rfl)
    · cases h
  | .two m a b, sc, X, e, W, h, hf, tk => by
    unfold chkE at h
    split at h
    · rename_i f p x y pos
      simp only [Bool.and_eq_true, decide_eq_true_eq] at h
      obtain ⟨⟨⟨rfl, h1⟩, h2⟩, h3⟩ := h
      have pa := a_cons (soE G C a sc X x W h2 hf tk).1 (a_cons (soE G C b sc X y W h3 hf tk).1 a_nil (star_ok h3 X.env [])) (star_ok h2 X.env [y])
      exact both hf (x_two hf G h1 pa (star_ok h2 X.env [y]) (by rw [star_ok h3 X.env []]; rfl)) (fun _ => rfl)
    · cases h
  | .fstr es, sc, X, e, W, h, hf, tk => by
    unfold chkE at h
    split at h
    · obtain ⟨ts, pj, j⟩ := soF G C es sc X _ W h hf tk
      exact both hf (x_fstr pj j) (fun _ => rfl)
    · cases h
theorem soF (G : Gk Γ) (C : Cok Γ n c) : ∀ (es : Es) (sc : Scope) (X : Cx) (xs : List Expr) (W : WX), chkF Γ.tb N es sc xs = true → Fx Γ n N sc X → Takes X W →
    ∃ ts, PJ X xs ts ∧ FJ Γ c W es ts
  | .nil, sc, X, xs, W, h, hf, tk => by
    have h : xs.isEmpty = true := h
    rw [List.isEmpty_iff] at h
    subst h
    exact ⟨[], .nil, .nil⟩
  | .cons a es, sc, X, xs, W, h, hf, tk => by
    unfold chkF at h
    split at h
    · simp only [Bool.and_eq_true, decide_eq_true_eq] at h
      obtain ⟨⟨rfl, h1⟩, h2⟩ := h
      obtain ⟨ts, pj, j⟩ := soF G C es sc X _ W h2 hf tk
      exact ⟨_, .cons (fm_part (soE G C a sc X _ W h1 hf tk).1) pj, .cons j⟩
    · rename_i ca cb cp cr
      simp only [Bool.and_eq_true] at h
      obtain ⟨⟨h0, h1⟩, h2⟩ := h
      obtain ⟨ts, pj, j⟩ := soF G C es sc X _ W h2 hf tk
      have p := (soE G C a sc X _ W h1 hf tk).1
      have p : PE X (.Constant ca cb cp) (spFm Γ c W a) := by
        cases a with
        | lit d =>
          cases d with
          | str s => exact fm_cst p
          | _ => cases h0
        | _ => cases h0
      exact ⟨_, .cons p pj, .cons j⟩
    · cases h
theorem soEs (G : Gk Γ) (C : Cok Γ n c) : ∀ (es : Es) (sc : Scope) (X : Cx) (xs : List Expr) (W : WX), chkEs Γ.tb N es sc xs = true → Fx Γ n N sc X → Takes X W →
    PA X xs (spA Γ c W es) ∧ ∀ pos, es ≠ .nil → PE X (.BoolOp .And xs pos) (spAn Γ c W evAnd es) ∧ PW X (.BoolOp .And xs pos) (spAnT Γ c W evAnd es) ∧ PE X (.BoolOp .Or xs pos) (spAn Γ c W evOr es) ∧ PW X (.BoolOp .Or xs pos) (spAnT Γ c W evOr es)
  | .nil, sc, X, xs, W, h, hf, tk => by
    have h : xs.isEmpty = true := h
    rw [List.isEmpty_iff] at h
    subst h
    exact ⟨a_nil, fun _ z => absurd rfl z⟩
  | .cons a es, sc, X, xs, W, h, hf, tk => by
    cases xs with
    | nil => cases h
    | cons x xs =>
      have h : (chkE Γ.tb N a sc x && chkEs Γ.tb N es sc xs) = true := h
      rw [Bool.and_eq_true] at h
      obtain ⟨p, t⟩ := soE G C a sc X x W h.1 hf tk
      obtain ⟨q, r⟩ := soEs G C es sc X xs W h.2 hf tk
      refine ⟨a_cons p q (star_ok h.1 X.env xs), fun pos _ => ?_⟩
      cases es with
      | nil =>
        have h2 : xs.isEmpty = true := h.2
        rw [List.isEmpty_iff] at h2
        subst h2
        exact ⟨an_one (fun _ _ => rfl) p, ant_and1 t, an_one (fun _ _ => rfl) p, ant_or1 t⟩
      | cons b bs =>
        cases xs with
        | nil => exact absurd h.2 (by intro z; cases z)
        | cons y ys =>
          obtain ⟨r1, r2, r3, r4⟩ := r pos (by intro z; cases z)
          exact ⟨an_and hf p r1, ant_and t r2, an_or hf p r3, ant_or t r4⟩
theorem soEo (G : Gk Γ) (C : Cok Γ n c) : ∀ (o : Eo) (sc : Scope) (X : Cx) (e : Option Expr) (W : WX), chkEo Γ.tb N o sc e = true → Fx Γ n N sc X → Takes X W → PO X e (spO Γ c W o)
  | .none, sc, X, e, W, h, hf, tk => by
    cases e with
    | none => exact o_none
    | some x => cases h
  | .some a, sc, X, e, W, h, hf, tk => by
    cases e with
    | none => cases h
    | some x => exact o_some (soE G C a sc X x W h hf tk).1
theorem soC (G : Gk Γ) (C : Cok Γ n c) : ∀ (o : Eo) (sc : Scope) (X : Cx) (e : List Expr) (W : WX), chkC Γ.tb N o sc e = true → Fx Γ n N sc X → Takes X W → PTs X e (spCl Γ c W o)
  | .none, sc, X, e, W, h, hf, tk => by
    have h : e.isEmpty = true := h
    rw [List.isEmpty_iff] at h
    subst h
    refine PTs.mono pts_nil fun σ H Q q => ?_
    obtain ⟨ρ, g, q⟩ := q
    exact q H (Same.refl H)
  | .some a, sc, X, e, W, h, hf, tk => by
    unfold chkC at h
    split at h
    · refine PTs.mono (pts_one (soE G C a sc X _ W h hf tk).2) fun σ H Q q => ?_
      obtain ⟨ρ, g, q⟩ := q
      have q : match mapR D.truth ((evE c a ρ).bind noX) with
        | .ok d => ∀ H', Same H H' → Q d H'
        | .ex x => ∀ H', Same H H' → W (Γ.cl x) none σ H'
        | .bad => False := q
      refine spT.mk g (fun z => by rw [z] at q; exact q) (fun x z => by rw [z] at q; exact q) fun d z H' s' => ?_
      rw [z] at q
      exact q H' s'
    · cases h
theorem soI (G : Gk Γ) (C : Cok Γ n c) : ∀ (it : Itr) (sc : Scope) (X : Cx) (tge e : Expr) (W : WX), chkI Γ.tb N it sc tge e = true → Fx Γ n N sc X → Takes X W → PI X tge e (spI Γ c W it) ∧ ∀ env x, foldedSetIterable e env x = pure x
  | .seq a, sc, X, tge, e, W, h, hf, tk => ⟨i_seq hf (soE G C a sc X e W h hf tk).1, fold_ok (chk_set (show chkE Γ.tb N a sc e = true from h))⟩
  | .range a, sc, X, tge, e, W, h, hf, tk => by
    unfold chkI at h
    split at h
    · simp only [Bool.and_eq_true, decide_eq_true_eq] at h
      obtain ⟨⟨rfl, h1⟩, h2⟩ := h
      exact ⟨i_range hf G h1 (soE G C a sc X _ W h2 hf tk).1 (star_ok h2 X.env), fun _ _ => rfl⟩
    · cases h
  | .zip a b, sc, X, tge, e, W, h, hf, tk => by
    unfold chkI at h
    split at h
    · rename_i elts kk tpos f p y z pos
      simp only [Bool.and_eq_true, decide_eq_true_eq] at h
      obtain ⟨⟨⟨rfl, h1⟩, h2⟩, h3⟩ := h
      have pa := a_cons (soE G C a sc X y W h2 hf tk).1 (a_cons (soE G C b sc X z W h3 hf tk).1 a_nil (star_ok h3 X.env [])) (star_ok h2 X.env [z])
      exact ⟨i_zip hf G h1 pa (star_ok h2 X.env [z]) (by rw [star_ok h3 X.env []]; rfl), fun _ _ => rfl⟩
    · cases h
  | .enum a, sc, X, tge, e, W, h, hf, tk => by
    unfold chkI at h
    split at h
    · simp only [Bool.and_eq_true, decide_eq_true_eq] at h
      obtain ⟨⟨rfl, h1⟩, h2⟩ := h
      exact ⟨i_enum hf G h1 (soE G C a sc X _ W h2 hf tk).1 (star_ok h2 X.env), fun _ _ => rfl⟩
    · cases h
end
end
end Pw

/-! text PwZ0 -/
/-! a frame: what it owns, what it may change -/
namespace Pw
open PySem PySem.Spec PyProof.Rows L2

/-! ### the size of a value's data is one -/
mutual
def D.sz : D → Nat
  | .lst xs => D.szL xs + 1
  | .tup xs => D.szL xs + 1
  | .dct _ vs => D.szL vs + 1
  | .ins _ _ vs => D.szL vs + 1
  | .non | .bl _ | .int _ | .str _ | .exc _ | .loc _ => 0
def D.szL : List D → Nat
  | [] => 0
  | x :: xs => x.sz + D.szL xs
end
theorem rd_one {H : Hp} {a : Addr} {u w : HO} (hu : Con u) (hw : Con w) (r : Rd H a u) (t : Rd H a w) : u = w := by
  rcases r with r | ⟨o, r⟩ <;> rcases t with t | ⟨o', t⟩ <;> (rw [r] at t; cases t; first | done | rfl | exact hu.elim | exact hw.elim)
theorem rd_exc {K : PySem.W.Frag} {H : Hp} {a : Addr} {u : HO} {c : Tx} (hu : Con u) (r : Rd H a u) (t : H a = some (exO K c a)) : False := by
  rcases r with r | ⟨o, r⟩
  · rw [t] at r; cases r; exact hu
  · rw [t] at r; cases r
theorem sz_flat {K : PySem.W.Frag} {Y : Addr → Prop} {H : Hp} : ∀ (d : D) (v : V), (∀ a, v ≠ .ref a) → Rp K Y H d v → d.sz = 0
  | .non, _, _, _ => rfl
  | .bl _, _, _, _ => rfl
  | .int _, _, _, _ => rfl
  | .str _, _, _, _ => rfl
  | .lst _, _, n, h => by obtain ⟨a, _, e, _⟩ := h; exact absurd e (n a)
  | .tup _, _, n, h => by obtain ⟨a, _, e, _⟩ := h; exact absurd e (n a)
  | .dct _ _, _, n, h => by obtain ⟨a, _, e, _⟩ := h; exact absurd e (n a)
  | .exc _, _, _, _ => rfl
  | .loc _, _, _, _ => rfl
  | .ins _ _ _, _, n, h => by obtain ⟨a, _, _, e, _⟩ := h; exact absurd e (n a)
theorem rd_ins {H : Hp} {a C dx : Addr} {fs : List (Str × V)} {u : HO} (hu : Con u) (r : Rd H a u) (t : H a = some (.ins C dx fs)) : False := by
  rcases r with r | ⟨o, r⟩
  · rw [t] at r; cases r; exact hu
  · rw [t] at r; cases r
mutual
theorem Rp.szq {K : PySem.W.Frag} {Y Y' : Addr → Prop} {H : Hp} (hg : HG K H) : ∀ (d d' : D) (v : V), Rp K Y H d v → Rp K Y' H d' v → d.sz = d'.sz
  | .non, d', v, h, g => by
    have h : v = _ := h
    subst h
    exact (sz_flat d' _ (fun a z => by cases z) g).symm
  | .bl b, d', v, h, g => by
    have h : v = _ := h
    subst h
    exact (sz_flat d' _ (fun a z => by cases z) g).symm
  | .int b, d', v, h, g => by
    have h : v = _ := h
    subst h
    exact (sz_flat d' _ (fun a z => by cases z) g).symm
  | .str s, d', v, h, g => by
    obtain ⟨h, _⟩ := h
    subst h
    exact (sz_flat d' _ (fun a z => by cases z) g).symm
  | .lst ds, d', v, h, g => by
    obtain ⟨a, xs, e, r, _, q⟩ := h
    subst e
    cases d' with
    | lst es =>
      obtain ⟨a', ys, e, r', _, q'⟩ := g
      cases e
      have ex := rd_one (u := .lst xs) (w := .lst ys) trivial trivial r r'
      cases ex
      show D.szL ds + 1 = D.szL es + 1
      rw [RpL.szq hg ds es xs q q']
    | tup es =>
      obtain ⟨a', ys, e, r', q'⟩ := g
      cases e
      exact (hg.lt a xs ys r r'.1).elim
    | dct ks es =>
      obtain ⟨a', ys, e, r', _⟩ := g
      cases e
      exact absurd (rd_one (u := .lst xs) (w := .dK ys) trivial trivial r r') (fun z => by cases z)
    | exc c =>
      obtain ⟨a', e, r'⟩ := g
      cases e
      exact (rd_exc (u := .lst xs) trivial r r').elim
    | loc _ => exact (show False from g).elim
    | ins _ _ _ =>
      obtain ⟨a', _, _, e, r', _⟩ := g
      cases e
      exact (rd_ins (u := .lst xs) trivial r r').elim
    | non => cases g
    | bl _ => cases g
    | int _ => cases g
    | str _ => cases g.1
  | .tup ds, d', v, h, g => by
    obtain ⟨a, xs, e, r, q⟩ := h
    subst e
    cases d' with
    | lst es =>
      obtain ⟨a', ys, e, r', _, q'⟩ := g
      cases e
      exact (hg.lt a ys xs r' r.1).elim
    | tup es =>
      obtain ⟨a', ys, e, r', q'⟩ := g
      cases e
      have ex := hg.inj a xs ys r.1 r'.1
      subst ex
      show D.szL ds + 1 = D.szL es + 1
      rw [RpL.szq hg ds es xs q q']
    | dct ks es =>
      obtain ⟨a', ys, e, r', _⟩ := g
      cases e
      exact (hg.dt a ys xs r' r.1).elim
    | exc c =>
      obtain ⟨a', e, r'⟩ := g
      cases e
      exact (hg.xt a c xs r' r.1).elim
    | loc _ => exact (show False from g).elim
    | ins _ _ _ =>
      obtain ⟨a', _, _, e, r', _⟩ := g
      cases e
      exact (hg.it a _ _ _ xs r' r.1).elim
    | non => cases g
    | bl _ => cases g
    | int _ => cases g
    | str _ => cases g.1
  | .dct ks vs, d', v, h, g => by
    obtain ⟨a, kvs, e, r, _, _, _, q⟩ := h
    subst e
    cases d' with
    | lst es =>
      obtain ⟨a', ys, e, r', _⟩ := g
      cases e
      exact absurd (rd_one (u := .dK kvs) (w := .lst ys) trivial trivial r r') (fun z => by cases z)
    | tup es =>
      obtain ⟨a', ys, e, r', _⟩ := g
      cases e
      exact (hg.dt a kvs ys r r'.1).elim
    | dct ks' es =>
      obtain ⟨a', ys, e, r', _, _, _, q'⟩ := g
      cases e
      have ex := rd_one (u := .dK kvs) (w := .dK ys) trivial trivial r r'
      cases ex
      show D.szL vs + 1 = D.szL es + 1
      rw [RpL.szq hg vs es _ q q']
    | exc c =>
      obtain ⟨a', e, r'⟩ := g
      cases e
      exact (rd_exc (u := .dK kvs) trivial r r').elim
    | loc _ => exact (show False from g).elim
    | ins _ _ _ =>
      obtain ⟨a', _, _, e, r', _⟩ := g
      cases e
      exact (rd_ins (u := .dK kvs) trivial r r').elim
    | non => cases g
    | bl _ => cases g
    | int _ => cases g
    | str _ => cases g.1
  | .exc c, d', v, h, g => by
    obtain ⟨a, e, r⟩ := h
    subst e
    cases d' with
    | lst es =>
      obtain ⟨a', ys, e, r', _⟩ := g
      cases e
      exact (rd_exc (u := .lst ys) trivial r' r).elim
    | tup es =>
      obtain ⟨a', ys, e, r', _⟩ := g
      cases e
      exact (hg.xt a c ys r r'.1).elim
    | dct ks' es =>
      obtain ⟨a', ys, e, r', _⟩ := g
      cases e
      exact (rd_exc (u := .dK ys) trivial r' r).elim
    | ins _ _ _ =>
      obtain ⟨a', _, _, e, r', _⟩ := g
      cases e
      rw [r] at r'
      cases r'
    | loc _ => exact (show False from g).elim
    | _ => rfl
  | .loc _, d', v, h, g => (show False from h).elim
  | .ins c ns vs, d', v, h, g => by
    obtain ⟨a, dx, fs, e, r, _, _, q⟩ := h
    subst e
    cases d' with
    | lst es =>
      obtain ⟨a', ys, e, r', _⟩ := g
      cases e
      exact (rd_ins (u := .lst ys) trivial r' r).elim
    | tup es =>
      obtain ⟨a', ys, e, r', _⟩ := g
      cases e
      exact (hg.it a _ _ _ ys r r'.1).elim
    | dct ks' es =>
      obtain ⟨a', ys, e, r', _⟩ := g
      cases e
      exact (rd_ins (u := .dK ys) trivial r' r).elim
    | exc c =>
      obtain ⟨a', e, r'⟩ := g
      cases e
      rw [r] at r'
      cases r'
    | loc _ => exact (show False from g).elim
    | ins c' ns' es =>
      obtain ⟨a', dx', fs', e, r', _, _, q'⟩ := g
      cases e
      rw [r] at r'
      have r' := Option.some.inj r'
      injection r' with w1 w2 w3
      subst w3
      show D.szL vs + 1 = D.szL es + 1
      rw [RpL.szq hg vs es _ q q']
    | non => cases g
    | bl _ => cases g
    | int _ => cases g
    | str _ => cases g.1
theorem RpL.szq {K : PySem.W.Frag} {Y Y' : Addr → Prop} {H : Hp} (hg : HG K H) : ∀ (d d' : List D) (v : List V), RpL K Y H d v → RpL K Y' H d' v → D.szL d = D.szL d'
  | [], d', v, h, g => by
    have h : v = _ := h
    subst h
    cases d' with
    | nil => rfl
    | cons => obtain ⟨_, _, e, _⟩ := g; cases e
  | d :: ds, d', v, h, g => by
    obtain ⟨x, xs, e, h1, h2⟩ := h
    subst e
    cases d' with
    | nil => cases g
    | cons d2 ds2 =>
      obtain ⟨y, ys, e, g1, g2⟩ := g
      cases e
      show d.sz + D.szL ds = d2.sz + D.szL ds2
      rw [Rp.szq hg d d2 x h1 g1, RpL.szq hg ds ds2 xs h2 g2]
end

/-! ### no list lies in itself -/
mutual
theorem Rp.acyc {K : PySem.W.Frag} {Y Y0 : Addr → Prop} {H : Hp} {a : Addr} {d0 : D} (hg : HG K H) (ha : Rp K Y0 H d0 (.ref a)) : ∀ (d : D) (v : V), d.sz < d0.sz → Rp K Y H d v → Rp K (addZ Y a) H d v
  | .non, _, _, h => h
  | .bl _, _, _, h => h
  | .int _, _, _, h => h
  | .str _, _, _, h => h
  | .lst es, v, hz, h => by
    obtain ⟨b, xs, e, r, z, q⟩ := id h
    subst e
    have hz' : D.szL es + 1 < d0.sz := hz
    refine ⟨b, xs, rfl, r, fun w => w.elim z fun eb => ?_, RpL.acyc hg ha es xs (by omega) q⟩
    subst eb
    have e := Rp.szq hg (.lst es) d0 (.ref b) h ha
    omega
  | .tup es, v, hz, h => by
    obtain ⟨b, xs, e, r, q⟩ := h
    have hz : D.szL es + 1 < d0.sz := hz
    exact ⟨b, xs, e, r, RpL.acyc hg ha es xs (by omega) q⟩
  | .dct ks es, v, hz, h => by
    obtain ⟨b, xs, e, r, z, ek, el, q⟩ := id h
    subst e
    have hz' : D.szL es + 1 < d0.sz := hz
    refine ⟨b, xs, rfl, r, fun w => w.elim z fun eb => ?_, ek, el, RpL.acyc hg ha es _ (by omega) q⟩
    subst eb
    have e := Rp.szq hg (.dct ks es) d0 (.ref b) h ha
    omega
  | .exc _, _, _, h => h
  | .loc _, _, _, h => h
  | .ins c ns es, v, hz, h => by
    obtain ⟨b, dx, fs, e, r, z, en, q⟩ := id h
    subst e
    have hz' : D.szL es + 1 < d0.sz := hz
    refine ⟨b, dx, fs, rfl, r, fun w => w.elim z fun eb => ?_, en, RpL.acyc hg ha es _ (by omega) q⟩
    subst eb
    have e := Rp.szq hg (.ins c ns es) d0 (.ref b) h ha
    omega
theorem RpL.acyc {K : PySem.W.Frag} {Y Y0 : Addr → Prop} {H : Hp} {a : Addr} {d0 : D} (hg : HG K H) (ha : Rp K Y0 H d0 (.ref a)) : ∀ (es : List D) (vs : List V), D.szL es < d0.sz → RpL K Y H es vs → RpL K (addZ Y a) H es vs
  | [], _, _, h => h
  | d :: es, vs, hz, h => by
    obtain ⟨v, vs, e, h1, h2⟩ := h
    have hz : d.sz + D.szL es < d0.sz := hz
    exact ⟨v, vs, e, Rp.acyc hg ha d v (by omega) h1, RpL.acyc hg ha es vs (by omega) h2⟩
end

/-! ### what a frame owns -/
def D.isCon : D → Bool
  | .lst _ => true
  | .dct _ _ => true
  | _ => false
/-- what stands in a list or dict -/
def Cn (K : PySem.W.Frag) (Z : Addr → Prop) (H : Hp) : D → HO → Prop
  | .lst ds, .lst xs => RpL K Z H ds xs
  | .dct ks vs, .dK kvs => ks = kDs kvs ∧ (∀ t, D.str t ∈ ks → t.length ≤ sizeLine) ∧ RpL K Z H vs (kvs.map fun p => p.2)
  | _, _ => False
section
variable {K : PySem.W.Frag} {Z Z' : Addr → Prop} {H H' : Hp}
theorem Cn.con {d : D} {u : HO} (h : Cn K Z H d u) : d.isCon = true ∧ Con u := by
  cases d with
  | lst ds =>
    cases u with
    | lst xs => exact ⟨rfl, trivial⟩
    | _ => exact h.elim
  | dct ks vs =>
    cases u with
    | dK xs => exact ⟨rfl, trivial⟩
    | _ => exact h.elim
  | _ => exact (show False from h).elim
theorem Cn.to (m : Mv K Z Z' H H') {d : D} {u : HO} (h : Cn K Z H d u) : Cn K Z' H' d u := by
  cases d with
  | lst ds =>
    cases u with
    | lst xs => exact RpL.to m ds xs h
    | _ => exact h.elim
  | dct ks vs =>
    cases u with
    | dK xs => exact ⟨h.1, h.2.1, RpL.to m vs _ h.2.2⟩
    | _ => exact h.elim
  | _ => exact (show False from h).elim
theorem Cn.rpr {d : D} {u : HO} {a : Addr} (h : Cn K Z H d u) (e : Rd H a u) : RpR K Z H d (.ref a) := by
  cases d with
  | lst ds =>
    cases u with
    | lst xs => exact ⟨a, xs, rfl, e, h⟩
    | _ => exact h.elim
  | dct ks vs =>
    cases u with
    | dK xs => exact ⟨a, xs, rfl, e, h.1, h.2.1, h.2.2⟩
    | _ => exact h.elim
  | _ => exact (show False from h).elim
theorem RpR.cn {d : D} {v : V} (hd : d.isCon = true) (h : RpR K Z H d v) : ∃ a u, v = .ref a ∧ Rd H a u ∧ Con u ∧ Cn K Z H d u := by
  cases d with
  | lst ds =>
    obtain ⟨a, xs, e, r, q⟩ := h
    exact ⟨a, _, e, r, trivial, q⟩
  | dct ks vs =>
    obtain ⟨a, xs, e, r, q1, q2, q⟩ := h
    exact ⟨a, _, e, r, trivial, q1, q2, q⟩
  | _ => cases hd
theorem RpR.flat {d : D} {v : V} (hd : d.isCon = false) (h : RpR K Z H d v) : Rp K Z H d v := by
  cases d with
  | lst ds => cases hd
  | dct ks vs => cases hd
  | _ => exact h
theorem Cn.rp {d : D} {u : HO} {a : Addr} (h : Cn K Z H d u) (e : Rd H a u) (z : ¬ Z a) : Rp K Z H d (.ref a) := by
  cases d with
  | lst ds =>
    cases u with
    | lst xs => exact ⟨a, xs, rfl, e, z, h⟩
    | _ => exact h.elim
  | dct ks vs =>
    cases u with
    | dK xs => exact ⟨a, xs, rfl, e, z, h.1, h.2.1, h.2.2⟩
    | _ => exact h.elim
  | _ => exact (show False from h).elim
end
def own (O : List Nat) (σ : L2.St) (ρ : Sl) : Addr → Prop := fun a => ∃ i, i ∈ O ∧ σ[i]? = some (some (.ref a)) ∧ ∃ d, ρ[i]? = some (some d) ∧ d.isCon = true
def zz (Y : Addr → Prop) (O : List Nat) (σ : L2.St) (ρ : Sl) : Addr → Prop := fun a => Y a ∨ own O σ ρ a

structure FI (K : PySem.W.Frag) (YY : (Addr → Prop) → Prop) (O : List Nat) (H0 H : Hp) (σ : L2.St) (ρ : Sl) : Prop where
  len : ρ.length = σ.length
  sl : ∀ Y, YY Y → SlG K (zz Y O σ ρ) O H σ ρ
  sam : Same H0 H
  fresh : ∀ i, i ∈ O → ∀ a d, σ[i]? = some (some (.ref a)) → ρ[i]? = some (some d) → d.isCon = true → H0 a = none ∧ ∃ u, H a = some u ∧ Con u
  dist : ∀ i, i ∈ O → ∀ j, j ∈ O → i ≠ j → ∀ a d e, σ[i]? = some (some (.ref a)) → ρ[i]? = some (some d) → d.isCon = true → σ[j]? = some (some (.ref a)) → ρ[j]? = some (some e) → e.isCon = true → False
  em : YY Em
  yz : ∀ Y, YY Y → ZOk Y H0
def Evo (O : List Nat) (H : Hp) (σ : L2.St) (ρ : Sl) (H' : Hp) (σ' : L2.St) (ρ' : Sl) : Prop := ∀ b o, H b = some o → ¬ own O σ ρ b → H' b = some o ∧ ¬ own O σ' ρ' b
theorem Evo.refl {O : List Nat} {H : Hp} {σ : L2.St} {ρ : Sl} : Evo O H σ ρ H σ ρ := fun _ _ e z => ⟨e, z⟩
theorem Evo.trans {O : List Nat} {H H1 H2 : Hp} {σ σ1 σ2 : L2.St} {ρ ρ1 ρ2 : Sl} (a : Evo O H σ ρ H1 σ1 ρ1) (b : Evo O H1 σ1 ρ1 H2 σ2 ρ2) : Evo O H σ ρ H2 σ2 ρ2 := fun x o e z =>
  let ⟨e1, z1⟩ := a x o e z
  b x o e1 z1
theorem con_mut {u : HO} (h : Con u) : Mut (some u) := by
  cases u <;> first | trivial | exact h.elim

section
variable {K : PySem.W.Frag} {YY : (Addr → Prop) → Prop} {O : List Nat} {H0 H H' : Hp} {σ σ' : L2.St} {ρ ρ' : Sl}
theorem FI.ownL (F : FI K YY O H0 H σ ρ) {a : Addr} (h : own O σ ρ a) : ∃ u, H a = some u ∧ Con u := by
  obtain ⟨i, hi, e1, d, e2, e3⟩ := h
  exact (F.fresh i hi a d e1 e2 e3).2
theorem FI.own0 (F : FI K YY O H0 H σ ρ) {a : Addr} (h : own O σ ρ a) : H0 a = none := by
  obtain ⟨i, hi, e1, d, e2, e3⟩ := h
  exact (F.fresh i hi a d e1 e2 e3).1
theorem FI.zok (F : FI K YY O H0 H σ ρ) {Y : Addr → Prop} (hy : YY Y) : ZOk (zz Y O σ ρ) H := fun a h => by
  rcases h with h | h
  · exact mut_same F.sam (F.yz Y hy a h)
  · obtain ⟨u, e, c⟩ := F.ownL h
    rw [e]; exact con_mut c
theorem FI.ret (F : FI K YY O H0 H σ ρ) {Y : Addr → Prop} (hy : YY Y) : SlG K Y [] H σ ρ := by
  refine ⟨F.len, fun i d _ e => ?_⟩
  obtain ⟨v, h1, h2, h3⟩ := (F.sl Y hy).at0 i d e
  have key : Rp K Y H d v := by
    by_cases hi : i ∈ O
    · cases hd : d.isCon with
      | true =>
        obtain ⟨a, u, e1, r, c, q⟩ := h2.cn hd
        subst e1
        refine Cn.rp (Cn.to (Mv.weak fun b z => .inl z) q) r fun z => ?_
        have m := F.yz Y hy a z
        rw [(F.fresh i hi a d h1 e hd).1] at m
        exact m
      | false => exact (h2.flat hd).weak fun b z => .inl z
    · exact (h3 hi).weak fun b z => .inl z
  exact ⟨v, h1, key.relax, fun _ => key⟩
theorem FI.base (F : FI K YY O H0 H σ ρ) : SlG K Em [] H σ ρ := F.ret F.em
theorem FI.same (F : FI K YY O H0 H σ ρ) (s : Same H H') : FI K YY O H0 H' σ ρ :=
  ⟨F.len, fun Y hy => (F.sl Y hy).same s, F.sam.trans s, fun i hi a d e1 e2 e3 => let ⟨q1, u, q2, q3⟩ := F.fresh i hi a d e1 e2 e3; ⟨q1, u, s _ _ q2, q3⟩, F.dist, F.em, F.yz⟩
theorem Evo.of_same (s : Same H H') : Evo O H σ ρ H' σ ρ := fun b o e z => ⟨s b o e, z⟩
/-- what does not lean on what is owned stays -/
theorem Evo.mv (F : FI K YY O H0 H σ ρ) (ev : Evo O H σ ρ H' σ' ρ') {Y : Addr → Prop} : Mv K (zz Y O σ ρ) (zz Y O σ' ρ') H H' := by
  have no : ∀ b u, H b = some u → ¬ Con u → ¬ own O σ ρ b := fun b u e nc w => by
    obtain ⟨u', e', c⟩ := F.ownL w
    rw [e] at e'; cases e'
    exact nc c
  refine ⟨fun b C dx fs r z => ?_, fun b zs r => ?_, fun b zs r => ?_, fun b u cu r z => ?_, fun b c e => (ev b _ e (no b _ e fun z => z)).1⟩
  · have nb : ¬ own O σ ρ b := fun w => z (.inr w)
    have ny : ¬ Y b := fun w => z (.inl w)
    obtain ⟨e1, e2⟩ := ev b _ r nb
    exact ⟨e1, fun q => q.elim ny e2⟩
  · rcases r with (r | ⟨o, r⟩) | r
    · exact .inl (.inl (ev b _ r (no b _ r fun z => z)).1)
    · exact .inl (.inr ⟨o, (ev b _ r (no b _ r fun z => z)).1⟩)
    · exact .inr r
  · rcases r with ⟨o, r, n⟩ | r
    · exact .inl ⟨o, (ev b _ r (no b _ r fun z => z)).1, n⟩
    · exact .inr r
  · have nb : ¬ own O σ ρ b := fun w => z (.inr w)
    have ny : ¬ Y b := fun w => z (.inl w)
    rcases r with r | ⟨o, r⟩
    · obtain ⟨e, w⟩ := ev b _ r nb
      exact ⟨.inl e, fun q => q.elim ny w⟩
    · obtain ⟨e, w⟩ := ev b _ r nb
      exact ⟨.inr ⟨o, e⟩, fun q => q.elim ny w⟩
theorem Evo.rp (F : FI K YY O H0 H σ ρ) (ev : Evo O H σ ρ H' σ' ρ') {Y : Addr → Prop} {d : D} {v : V} (h : Rp K (zz Y O σ ρ) H d v) : Rp K (zz Y O σ' ρ') H' d v := Rp.to (Evo.mv F ev) d v h
theorem Evo.rpl (F : FI K YY O H0 H σ ρ) (ev : Evo O H σ ρ H' σ' ρ') {Y : Addr → Prop} {d : List D} {v : List V} (h : RpL K (zz Y O σ ρ) H d v) : RpL K (zz Y O σ' ρ') H' d v := RpL.to (Evo.mv F ev) d v h

/-! ### stores -/
theorem own_set {i : Nat} (hi : i ∉ O) (v : Option V) (d : Option D) : own O (σ.set i v) (ρ.set i d) = own O σ ρ := by
  funext a
  apply propext
  constructor
  · rintro ⟨j, hj, e1, ds, e2, e3⟩
    have ne : i ≠ j := fun z => hi (z ▸ hj)
    rw [List.getElem?_set_ne ne] at e1 e2
    exact ⟨j, hj, e1, ds, e2, e3⟩
  · rintro ⟨j, hj, e1, ds, e2, e3⟩
    have ne : i ≠ j := fun z => hi (z ▸ hj)
    exact ⟨j, hj, by rw [List.getElem?_set_ne ne]; exact e1, ds, by rw [List.getElem?_set_ne ne]; exact e2, e3⟩
theorem SlX.more {Y : Addr → Prop} {ex ex' : List Nat} (h : SlX K Y O ex H σ ρ) (w : ∀ i, i ∈ ex → i ∈ ex') : SlX K Y O ex' H σ ρ := ⟨h.1, fun i d z e => h.2 i d (fun q => z (w i q)) e⟩
theorem FI.setS (F : FI K YY O H0 H σ ρ) {i : Nat} (hi : i ∉ O) {d : D} {v : V} (hr : ∀ Y, YY Y → Rp K (zz Y O σ ρ) H d v) : FI K YY O H0 H (σ.set i (some v)) (ρ.set i (some d)) ∧ Evo O H σ ρ H (σ.set i (some v)) (ρ.set i (some d)) := by
  have eo := own_set (O := O) (σ := σ) (ρ := ρ) hi (some v) (some d)
  have nei : ∀ j, j ∈ O → i ≠ j := fun j hj z => hi (z ▸ hj)
  refine ⟨⟨by rw [List.length_set, List.length_set]; exact F.len, fun Y hy => ?_, F.sam, fun j hj a ds e1 e2 => ?_, fun j hj k hk ne a ds es e1 e2 e5 e3 e4 => ?_, F.em, F.yz⟩, fun b o e z => ⟨e, by rw [eo]; exact z⟩⟩
  · unfold zz
    rw [eo]
    have q := SlX.step (i := i) ((F.sl Y hy).more (ex' := [i]) fun _ z => by cases z) (hr Y hy)
    exact q.anyO fun j hj => (List.mem_filter.mp hj).1
  · rw [List.getElem?_set_ne (nei j hj)] at e1 e2
    exact F.fresh j hj a ds e1 e2
  · rw [List.getElem?_set_ne (nei j hj)] at e1 e2
    rw [List.getElem?_set_ne (nei k hk)] at e3 e4
    exact F.dist j hj k hk ne a ds es e1 e2 e5 e3 e4
/-- a name is gone -/
theorem FI.clr (F : FI K YY O H0 H σ ρ) {i : Nat} (hi : i ∉ O) : FI K YY O H0 H (σ.set i none) (ρ.set i none) ∧ Evo O H σ ρ H (σ.set i none) (ρ.set i none) := by
  have eo := own_set (O := O) (σ := σ) (ρ := ρ) hi none none
  have nei : ∀ j, j ∈ O → i ≠ j := fun j hj z => hi (z ▸ hj)
  refine ⟨⟨by rw [List.length_set, List.length_set]; exact F.len, fun Y hy => ⟨by rw [List.length_set, List.length_set]; exact F.len, fun j dj _ e => ?_⟩, F.sam, fun j hj a ds e1 e2 => ?_, fun j hj k hk ne a ds es e1 e2 e5 e3 e4 => ?_, F.em, F.yz⟩, fun b o e z => ⟨e, by rw [eo]; exact z⟩⟩
  · unfold zz
    rw [eo]
    by_cases hji : i = j
    · subst hji
      by_cases hl : i < ρ.length
      · rw [List.getElem?_set_self hl] at e; cases e
      · rw [List.getElem?_eq_none (by rw [List.length_set]; omega)] at e; cases e
    · rw [List.getElem?_set_ne hji] at e
      obtain ⟨v, h1, h2⟩ := (F.sl Y hy).at0 j dj e
      exact ⟨v, by rw [List.getElem?_set_ne hji]; exact h1, h2⟩
  · rw [List.getElem?_set_ne (nei j hj)] at e1 e2
    exact F.fresh j hj a ds e1 e2
  · rw [List.getElem?_set_ne (nei j hj)] at e1 e2
    rw [List.getElem?_set_ne (nei k hk)] at e3 e4
    exact F.dist j hj k hk ne a ds es e1 e2 e5 e3 e4
theorem Fr.at {d : D} {v : V} (hd : d.isCon = true) (fr : Fr H H' d v) : ∃ a u, v = .ref a ∧ H a = none ∧ H' a = some u ∧ Con u := by
  cases d with
  | lst ds =>
    obtain ⟨a, xs, e1, e2, e3⟩ := fr
    exact ⟨a, _, e1, e2, e3, trivial⟩
  | dct ks vs =>
    obtain ⟨a, xs, e1, e2, e3⟩ := fr
    exact ⟨a, _, e1, e2, e3, trivial⟩
  | _ => cases hd
/-- a new list or dict, or what is none, to an owned slot -/
theorem FI.setO (F : FI K YY O H0 H σ ρ) (s : Same H H') (hg : HG K H') {i : Nat} (hi : i ∈ O) {d : D} {v : V} (hr : ∀ Y, YY Y → Rp K (zz Y O σ ρ) H' d v) (fr : Fr H H' d v) :
    FI K YY O H0 H' (σ.set i (some v)) (ρ.set i (some d)) ∧ Evo O H σ ρ H' (σ.set i (some v)) (ρ.set i (some d)) := by
  -- what is owned now
  have ow : ∀ b, own O (σ.set i (some v)) (ρ.set i (some d)) b → own O σ ρ b ∨ (H b = none ∧ v = .ref b ∧ d.isCon = true) := by
    rintro b ⟨j, hj, e1, ds, e2, e3⟩
    by_cases hji : i = j
    · subst hji
      by_cases hl : i < σ.length
      · rw [List.getElem?_set_self hl] at e1
        rw [List.getElem?_set_self (by rw [F.len]; exact hl)] at e2
        cases e1
        cases e2
        obtain ⟨a, u, e4, e5, _⟩ := fr.at e3
        cases e4
        exact .inr ⟨e5, rfl, e3⟩
      · rw [List.getElem?_eq_none (by rw [List.length_set]; omega)] at e1
        cases e1
    · rw [List.getElem?_set_ne hji] at e1 e2
      exact .inl ⟨j, hj, e1, ds, e2, e3⟩
  have conv : ∀ Y, Mv K (zz Y O σ ρ) (zz Y O (σ.set i (some v)) (ρ.set i (some d))) H H' := fun Y =>
    ⟨fun b C dx fs r z => ⟨s _ _ r, fun q => q.elim (fun w => z (.inl w)) fun w => (ow b w).elim (fun w => z (.inr w)) fun w => by rw [r] at w; cases w.1⟩, fun b zs r => sqt_same s r, fun b zs r => knt_same s r, fun b u _ r z => ⟨rd_same s r, fun q => q.elim (fun w => z (.inl w)) fun w => (ow b w).elim (fun w => z (.inr w)) fun w => rd_tracked r w.1⟩, fun b c e => s _ _ e⟩
  refine ⟨⟨by rw [List.length_set, List.length_set]; exact F.len, fun Y hy => ⟨by rw [List.length_set, List.length_set]; exact F.len, fun j dj _ e => ?_⟩, F.sam.trans s, fun j hj a ds e1 e2 e3 => ?_, fun j hj k hk ne a ds es e1 e2 e5 e3 e4 e6 => ?_, F.em, F.yz⟩,
    fun b o e z => ⟨s b o e, fun w => (ow b w).elim z fun w => by rw [e] at w; cases w.1⟩⟩
  · by_cases hji : i = j
    · subst hji
      by_cases hl : i < ρ.length
      · rw [List.getElem?_set_self hl] at e
        cases e
        refine ⟨v, by rw [List.getElem?_set_self (by rw [← F.len]; exact hl)], ?_, fun z => absurd hi z⟩
        have r := hr Y hy
        cases hd : d.isCon with
        | true =>
          obtain ⟨a, u, e1, r1, cu, q1⟩ := r.relax.cn hd
          subst e1
          have wk : ∀ b, zz Y O (σ.set i (some (.ref a))) (ρ.set i (some d)) b → addZ (zz Y O σ ρ) a b := fun b w => by
            rcases w with w | w
            · exact .inl (.inl w)
            · rcases ow b w with w | ⟨_, w, _⟩
              · exact .inl (.inr w)
              · cases w; exact .inr rfl
          refine Cn.rpr ?_ r1
          cases d with
          | lst ds =>
            cases u with
            | lst xs => exact (RpL.acyc hg r ds xs (Nat.lt_succ_self _) q1).weak wk
            | _ => exact q1.elim
          | dct ks vs =>
            cases u with
            | dK xs => exact ⟨q1.1, q1.2.1, (RpL.acyc hg r vs _ (Nat.lt_succ_self _) q1.2.2).weak wk⟩
            | _ => exact q1.elim
          | _ => cases hd
        | false =>
          refine (r.weak fun b w => ?_ : Rp K (zz Y O (σ.set i (some v)) (ρ.set i (some d))) H' d v).relax
          rcases w with w | w
          · exact .inl w
          · rcases ow b w with w | ⟨_, _, w⟩
            · exact .inr w
            · rw [hd] at w; cases w
      · rw [List.getElem?_eq_none (by rw [List.length_set]; omega)] at e
        cases e
    · rw [List.getElem?_set_ne hji] at e
      obtain ⟨u, h1, h2, h3⟩ := (F.sl Y hy).at0 j dj e
      refine ⟨u, by rw [List.getElem?_set_ne hji]; exact h1, ?_, fun z => Rp.to (conv Y) dj u (h3 z)⟩
      cases hd : dj.isCon with
      | true =>
        obtain ⟨a, w, e1, r1, _, q1⟩ := h2.cn hd
        subst e1
        exact Cn.rpr (q1.to (conv Y)) (rd_same s r1)
      | false => exact (Rp.to (conv Y) dj u (h2.flat hd)).relax
  · by_cases hji : i = j
    · subst hji
      by_cases hl : i < σ.length
      · rw [List.getElem?_set_self hl] at e1
        rw [List.getElem?_set_self (by rw [F.len]; exact hl)] at e2
        cases e1
        cases e2
        obtain ⟨a', u, e4, e5, e6, e7⟩ := fr.at e3
        cases e4
        exact ⟨F.sam.free e5, u, e6, e7⟩
      · rw [List.getElem?_eq_none (by rw [List.length_set]; omega)] at e1
        cases e1
    · rw [List.getElem?_set_ne hji] at e1 e2
      obtain ⟨q1, u, q2, q3⟩ := F.fresh j hj a ds e1 e2 e3
      exact ⟨q1, u, s _ _ q2, q3⟩
  · have aux : ∀ j k ds es, j ∈ O → k ∈ O → j ≠ k → (σ.set i (some v))[j]? = some (some (.ref a)) → (ρ.set i (some d))[j]? = some (some ds) → ds.isCon = true → (σ.set i (some v))[k]? = some (some (.ref a)) → (ρ.set i (some d))[k]? = some (some es) → es.isCon = true → i = j → False := by
      intro j k ds es hj hk ne e1 e2 e5 e3 e4 e6 hij
      subst hij
      rw [List.getElem?_set_ne ne] at e3 e4
      obtain ⟨_, u, q2, _⟩ := F.fresh k hk a es e3 e4 e6
      by_cases hl : i < σ.length
      · rw [List.getElem?_set_self hl] at e1
        rw [List.getElem?_set_self (by rw [F.len]; exact hl)] at e2
        cases e1
        cases e2
        obtain ⟨a', u', e7, e8, _⟩ := fr.at e5
        cases e7
        rw [e8] at q2
        cases q2
      · rw [List.getElem?_eq_none (by rw [List.length_set]; omega)] at e1
        cases e1
    by_cases h1 : i = j
    · exact aux j k ds es hj hk ne e1 e2 e5 e3 e4 e6 h1
    · by_cases h2 : i = k
      · exact aux k j es ds hk hj (Ne.symm ne) e3 e4 e6 e1 e2 e5 h2
      · rw [List.getElem?_set_ne h1] at e1 e2
        rw [List.getElem?_set_ne h2] at e3 e4
        exact F.dist j hj k hk ne a ds es e1 e2 e5 e3 e4 e6
/-- the list or dict of an owned slot becomes another -/
theorem FI.updC (F : FI K YY O H0 H σ ρ) {i : Nat} (hi : i ∈ O) {a : Addr} {d d' : D} {u' : HO} (e1 : σ[i]? = some (some (.ref a))) (e2 : ρ[i]? = some (some d)) (hd : d.isCon = true)
    (hr : ∀ Y, YY Y → Cn K (zz Y O σ ρ) H d' u') : FI K YY O H0 (upd H a u') σ (ρ.set i (some d')) ∧ Evo O H σ ρ (upd H a u') σ (ρ.set i (some d')) := by
  obtain ⟨f0, u, f1, f2⟩ := F.fresh i hi a d e1 e2 hd
  obtain ⟨hd', cu'⟩ := (hr Em F.em).con
  have hl : i < ρ.length := (List.getElem?_eq_some_iff.mp e2).1
  have own_a : own O σ ρ a := ⟨i, hi, e1, d, e2, hd⟩
  have ow : own O σ (ρ.set i (some d')) = own O σ ρ := by
    funext b
    apply propext
    constructor
    · rintro ⟨j, hj, q1, es, q2, q3⟩
      by_cases hji : i = j
      · subst hji
        exact ⟨i, hi, q1, d, e2, hd⟩
      · rw [List.getElem?_set_ne hji] at q2
        exact ⟨j, hj, q1, es, q2, q3⟩
    · rintro ⟨j, hj, q1, es, q2, q3⟩
      by_cases hji : i = j
      · subst hji
        exact ⟨i, hi, q1, d', by rw [List.getElem?_set_self hl], hd'⟩
      · exact ⟨j, hj, q1, es, by rw [List.getElem?_set_ne hji]; exact q2, q3⟩
  have zzq : ∀ Y, zz Y O σ (ρ.set i (some d')) = zz Y O σ ρ := fun Y => by unfold zz; rw [ow]
  have nca : ∀ b w, H b = some w → ¬ Con w → b ≠ a := fun b w e nc z => by
    subst z
    rw [f1] at e; cases e
    exact nc f2
  have conv : ∀ Y, Mv K (zz Y O σ ρ) (zz Y O σ ρ) H (upd H a u') := fun Y => by
    refine ⟨fun b C dx fs r z => ⟨by rw [upd_ne (nca b _ r fun z => z)]; exact r, z⟩, fun b zs r => ?_, fun b zs r => ?_, fun b w cw r z => ⟨?_, z⟩, fun b c e => by rw [upd_ne (nca b _ e fun z => z)]; exact e⟩
    · rcases r with (r | ⟨o, r⟩) | r
      · exact .inl (.inl (by rw [upd_ne (nca b _ r fun z => z)]; exact r))
      · exact .inl (.inr ⟨o, by rw [upd_ne (nca b _ r fun z => z)]; exact r⟩)
      · exact .inr r
    · rcases r with ⟨o, r, n⟩ | r
      · exact .inl ⟨o, by rw [upd_ne (nca b _ r fun z => z)]; exact r, n⟩
      · exact .inr r
    · have ne : b ≠ a := fun e => z (.inr (e ▸ own_a))
      rcases r with r | ⟨o, r⟩
      · exact .inl (by rw [upd_ne ne]; exact r)
      · exact .inr ⟨o, by rw [upd_ne ne]; exact r⟩
  refine ⟨⟨by rw [List.length_set]; exact F.len, fun Y hy => ⟨by rw [List.length_set]; exact F.len, fun j dj _ e => ?_⟩, fun b o e => ?_, fun j hj b es q1 q2 q3 => ?_, fun j hj k hk ne b es fs q1 q2 q5 q3 q4 q6 => ?_, F.em, F.yz⟩, fun b o e z => ⟨?_, by rw [ow]; exact z⟩⟩
  · rw [zzq]
    by_cases hji : i = j
    · subst hji
      rw [List.getElem?_set_self hl] at e
      cases e
      exact ⟨.ref a, e1, Cn.rpr ((hr Y hy).to (conv Y)) (.inl upd_same), fun z => absurd hi z⟩
    · rw [List.getElem?_set_ne hji] at e
      obtain ⟨w, h1, h2, h3⟩ := (F.sl Y hy).at0 j dj e
      by_cases hjO : j ∈ O
      · refine ⟨w, h1, ?_, fun z => absurd hjO z⟩
        cases hdj : dj.isCon with
        | true =>
          obtain ⟨b, uj, q1, r1, _, g1⟩ := h2.cn hdj
          subst q1
          have ne : b ≠ a := fun z => F.dist i hi j hjO hji a d dj e1 e2 hd (z ▸ h1) e hdj
          refine Cn.rpr (g1.to (conv Y)) ?_
          rcases r1 with r | ⟨o, r⟩
          · exact .inl (by rw [upd_ne ne]; exact r)
          · exact .inr ⟨o, by rw [upd_ne ne]; exact r⟩
        | false => exact (Rp.to (conv Y) dj w (h2.flat hdj)).relax
      · have r := Rp.to (conv Y) dj w (h3 hjO)
        exact ⟨w, h1, r.relax, fun _ => r⟩
  · rw [upd_ne (fun z => by subst z; rw [f0] at e; cases e)]
    exact F.sam _ _ e
  · by_cases hji : i = j
    · subst hji
      rw [e1] at q1
      cases q1
      exact ⟨f0, u', upd_same, cu'⟩
    · rw [List.getElem?_set_ne hji] at q2
      obtain ⟨w1, ys, w2, w3⟩ := F.fresh j hj b es q1 q2 q3
      have ne : b ≠ a := fun z => F.dist i hi j hj hji a d es e1 e2 hd (z ▸ q1) q2 q3
      exact ⟨w1, ys, by rw [upd_ne ne]; exact w2, w3⟩
  · have back : ∀ j es, j ∈ O → (ρ.set i (some d'))[j]? = some (some es) → es.isCon = true → ∃ es', ρ[j]? = some (some es') ∧ es'.isCon = true := fun j es hj q c => by
      by_cases hji : i = j
      · subst hji; exact ⟨d, e2, hd⟩
      · rw [List.getElem?_set_ne hji] at q; exact ⟨es, q, c⟩
    obtain ⟨es', q2', c1⟩ := back j es hj q2 q5
    obtain ⟨fs', q4', c2⟩ := back k fs hk q4 q6
    exact F.dist j hj k hk ne b es' fs' q1 q2' c1 q3 q4' c2
  · have ne : b ≠ a := fun q => z (by rw [q]; exact own_a)
    rw [upd_ne ne]
    exact e
theorem FI.updO (F : FI K YY O H0 H σ ρ) {i : Nat} (hi : i ∈ O) {a : Addr} {ds ds' : List D} {xs' : List V} (e1 : σ[i]? = some (some (.ref a))) (e2 : ρ[i]? = some (some (.lst ds)))
    (hr : ∀ Y, YY Y → RpL K (zz Y O σ ρ) H ds' xs') : FI K YY O H0 (upd H a (.lst xs')) σ (ρ.set i (some (.lst ds'))) ∧ Evo O H σ ρ (upd H a (.lst xs')) σ (ρ.set i (some (.lst ds'))) :=
  F.updC hi e1 e2 rfl fun Y hy => hr Y hy
end
end Pw

/-! text PwZ1 -/
/-! statements, construct by construct -/
namespace Pw
open PySem PySem.Spec PyProof.Rows L2

structure FxS (Γ : Ctx) (n : Nat) (N : List Str) (sc : Scope) (X : Cx) : Prop where
  fx : Fx Γ n N sc X
  pass : PassesOwn (model X.prog X.w) X.A X.env X.xe
  fn : ∀ x, X.fn x = true
  kd : sc.kind = .function
  stk : X.stack = X.env :: X.outer
  frm : X.env.frame = some X.env.locals

/-- what is wanted behind a statement -/
def Post (Γ : Ctx) (W : WX) (O : List Nat) (YY : (Addr → Prop) → Prop) (H0 : Hp) (fr : Bool) (D : Ends) (H : Hp) (σ : L2.St) (ρ : Sl) : Fl → Prop
  | .nx ρ' => ∀ σ' H', FI Γ.K YY O H0 H' σ' ρ' → Evo O H σ ρ H' σ' ρ' → D.nx σ' H'
  | .ret d => ∀ v H', Same H0 H' → (∀ Y, YY Y → Rp Γ.K Y H' d v) → (fr = true → Fr H0 H' d v) → D.rt v H'
  | .brk ρ' => ∀ σ' H', FI Γ.K YY O H0 H' σ' ρ' → Evo O H σ ρ H' σ' ρ' → D.bk σ' H'
  | .ct ρ' => ∀ σ' H', FI Γ.K YY O H0 H' σ' ρ' → Evo O H σ ρ H' σ' ρ' → D.ct σ' H'
  | .ex x ρ' => ∀ σ' H', FI Γ.K YY O H0 H' σ' ρ' → Evo O H σ ρ H' σ' ρ' → W (Γ.cl x) none σ' H'
  | .bad => False
theorem Post.evo {Γ : Ctx} {W : WX} {O : List Nat} {YY : (Addr → Prop) → Prop} {H0 : Hp} {fr : Bool} {D : Ends} {H H1 : Hp} {σ σ1 : L2.St} {ρ ρ1 : Sl} (ev : Evo O H σ ρ H1 σ1 ρ1) {f : Fl} (p : Post Γ W O YY H0 fr D H σ ρ f) : Post Γ W O YY H0 fr D H1 σ1 ρ1 f := by
  cases f with
  | nx ρ' => exact fun σ' H' F e => p σ' H' F (ev.trans e)
  | ret d => exact p
  | brk ρ' => exact fun σ' H' F e => p σ' H' F (ev.trans e)
  | ct ρ' => exact fun σ' H' F e => p σ' H' F (ev.trans e)
  | ex x ρ' => exact fun σ' H' F e => p σ' H' F (ev.trans e)
  | bad => exact p
def spS (Γ : Ctx) (c : Nat → List D → R D) (W : WX) (O : List Nat) (YY : (Addr → Prop) → Prop) (H0 : Hp) (fr : Bool) (s : S) : TS := fun D σ H => ∃ ρ, FI Γ.K YY O H0 H σ ρ ∧ Post Γ W O YY H0 fr D H σ ρ (evS c s ρ)
def spSs (Γ : Ctx) (c : Nat → List D → R D) (W : WX) (O : List Nat) (YY : (Addr → Prop) → Prop) (H0 : Hp) (fr : Bool) (s : Ss) : TS := fun D σ H => ∃ ρ, FI Γ.K YY O H0 H σ ρ ∧ Post Γ W O YY H0 fr D H σ ρ (evSs c s ρ)

theorem PS.inj {X : Cx} {st : Stmt} {t : TS} (h : PS X st t) : PS X st (fun D σ H => t { D with nx := fun σ' H' => HG X.K H' → D.nx σ' H' } σ H) := by
  refine ⟨fun pins s σ H D I q => thn (h.run pins s σ H _ I q) fun f s1 q1 => ?_⟩
  cases f with
  | next => obtain ⟨σ', H', I', q'⟩ := q1; exact ⟨σ', H', I', q' (Inv.hg I')⟩
  | brk => exact q1
  | cont => exact q1
  | ret u => exact q1

section
variable {Γ : Ctx} {c : Nat → List D → R D} {W : WX} {n : Nat} {N : List Str} {sc : Scope} {X : Cx} {pos : Pos} {O : List Nat} {YY : (Addr → Prop) → Prop} {H0 : Hp} {fr : Bool}

theorem sto_def (hf : FxS Γ n N sc X) {i : Nat} {x : Str} (h1 : N[i]? = some x) (h2 : locB sc x = true) : Sto X i x := by
  refine ⟨by rw [hf.fx.eN]; exact h1, ?_, .inl (hf.fn x)⟩
  rw [hf.fx.eS]
  unfold locB at h2
  split at h2
  · exact .inl (by assumption)
  · exact .inr (by assumption)
  · cases h2
/-- an expression within a frame -/
theorem ex_in {e : E} {ρ : Sl} {Dd : Ends} {σ : L2.St} {H : Hp} {k : D → Fl} {Q : VK} (F : FI Γ.K YY O H0 H σ ρ) (p : Post Γ W O YY H0 fr Dd H σ ρ (thenS ρ (evE c e ρ) k))
    (hk : ∀ d, evE c e ρ = .ok d → Post Γ W O YY H0 fr Dd H σ ρ (k d) → ∀ v H', Same H H' → FI Γ.K YY O H0 H' σ ρ → (lv O e = 0 → ∀ Y, YY Y → Rp Γ.K (zz Y O σ ρ) H' d v) → (∀ Y, YY Y → Rp Γ.K Y H' d v) → (frE Γ.fnOf e = true → Fr H H' d v) → Q v H') :
    spE Γ c W e σ H Q := by
  refine spE.mk F.base (fun z => by rw [z] at p; exact p) (fun x z H' s' => ?_) fun d z v H' s' lev fr => ?_
  · rw [z] at p
    exact p σ H' (F.same s') (Evo.of_same s')
  · rw [z] at p
    exact hk d z p v H' s' (F.same s') (fun h0 Y hy => (lev _ O (F.zok hy) (F.sl Y hy)).1 h0) (fun Y hy => (lev Y [] (fun a q => mut_same F.sam (F.yz Y hy a q)) (F.ret hy)).1 (lv_nil e)) fr
theorem ex_inT {e : E} {ρ : Sl} {Dd : Ends} {σ : L2.St} {H : Hp} {k : D → Fl} {Q : Bool → Hp → Prop} (F : FI Γ.K YY O H0 H σ ρ) (p : Post Γ W O YY H0 fr Dd H σ ρ (thenS ρ ((evE c e ρ).bind noX) k))
    (hk : ∀ d, (evE c e ρ).bind noX = .ok d → Post Γ W O YY H0 fr Dd H σ ρ (k d) → ∀ H', Same H H' → FI Γ.K YY O H0 H' σ ρ → Q d.truth H') : spT Γ c W e σ H Q := by
  refine spT.mk F.base (fun z => by rw [z] at p; exact p) (fun x z H' s' => ?_) fun d z H' s' => ?_
  · rw [z] at p
    exact p σ H' (F.same s') (Evo.of_same s')
  · rw [z] at p
    exact hk d z p H' s' (F.same s')

/-- a store to a name -/
theorem set_core {i : Nat} {e : E} (h0 : lv O e = 0) (hO : O.contains i = true → frE Γ.fnOf e = true) {D : Ends} {σ : L2.St} {H : Hp} (q : spS Γ c W O YY H0 fr (.asg i e) D σ H) :
    spE Γ c W e σ H fun v H1 => HG Γ.K H1 → D.nx (σ.set i (some v)) H1 := by
  obtain ⟨ρ, F, p⟩ := q
  have p : Post Γ W O YY H0 fr D H σ ρ (thenS ρ (evE c e ρ) fun d => .nx (ρ.set i (some d))) := p
  refine ex_in F p fun d _ p v H' s' F' r0 _ frr hg => ?_
  by_cases hi : i ∈ O
  · obtain ⟨F2, ev⟩ := F.setO s' hg hi (r0 h0) (frr (hO (by simpa using hi)))
    exact p _ _ F2 ev
  · obtain ⟨F2, ev⟩ := F'.setS hi (r0 h0)
    exact p _ _ F2 ((Evo.of_same s').trans ev)
theorem s_asg (hf : FxS Γ n N sc X) {i : Nat} {x : Str} {e : E} {v : Expr} {p : Pos} (hN : N[i]? = some x) (hx : locB sc x = true) (h0 : lv O e = 0) (hO : O.contains i = true → frE Γ.fnOf e = true)
    (he : PE X v (spE Γ c W e)) (hs : swapsWith v (some (.Name x p)) pos.line X.env = pure false) : PS X (.Assign [.Name x p] v pos) (spS Γ c W O YY H0 fr (.asg i e)) := by
  obtain ⟨s1, s2, s3⟩ := sto_def hf hN hx
  refine PS.mono (PS.inj (ps_set (by rw [hf.fx.eN]; exact hf.fx.nd) s1 s2 he hs s3)) fun D σ H q => ?_
  have z := set_core h0 hO q
  rw [← hf.fx.K] at z
  exact z
theorem s_asgLc (hf : FxS Γ n N sc X) {i : Nat} {x : Str} {p : Pos} {elt : E} {tg : Tg} {it : Itr} {cond : Eo} {el tge ite : Expr} {ifs : List Expr} {scope : Scope} {pv : Pos} (hN : N[i]? = some x) (hl : sc.names.lookup x = some .local) (h0 : lv O (.comp elt tg it cond) = 0)
    (hsw : swapsWith (.ListComp el [⟨tge, ite, ifs, 0⟩] scope pv) (some (.Name x p)) pos.line X.env = pure true) (hi : PI X tge ite (spI Γ c W it))
    (ok : BlkOk X.N X.env.scope scope (ownOf N (tgIx tg))) (hown : (ownOf N (tgIx tg)).map (·.2) = tgIx tg)
    (hg : ∀ (s : Shared) (H : Hp) (C : Addr) (cl : List (Str × Addr)) (fp : List Addr), PG (X.blk s H scope (compEnvC scope cl C X.env) fp) tge (spG Γ.K tg))
    (ht : ∀ (s : Shared) (H : Hp) (C : Addr) (cl : List (Str × Addr)) (fp : List Addr), PTs (X.blk s H scope (compEnvC scope cl C X.env) fp) ifs (spCl Γ c W0 cond))
    (he : ∀ (s : Shared) (H : Hp) (C : Addr) (cl : List (Str × Addr)) (fp : List Addr), PE (X.blk s H scope (compEnvC scope cl C X.env) fp) el (spE Γ c W0 elt))
    (hs : ∀ x, foldedSetIterable ite X.env x = pure x) : PS X (.Assign [.Name x p] (.ListComp el [⟨tge, ite, ifs, 0⟩] scope pv) pos) (spS Γ c W O YY H0 fr (.asg i (.comp elt tg it cond))) := by
  refine PS.mono (PS.inj (ps_setLc (i := i) hf.fx.calm (by rw [hf.fx.eN]; exact hf.fx.nd) (by rw [hf.fx.eN]; exact hN) (by rw [hf.fx.eS]; exact hl) hsw hi ok hg ht he hs)) fun D σ H q => ?_
  have z := comp_core (set_core h0 (fun _ => rfl) q)
  rw [hown]
  rw [← hf.fx.K] at z
  have e : Γ.K = X.K := hf.fx.K.symm
  rw [← hf.fx.K]
  exact z
theorem s_expr (hf : FxS Γ n N sc X) {e : E} {v : Expr} (he : PE X v (spE Γ c W e)) (hs : swapsWith v none pos.line X.env = pure false) : PS X (.Expr v pos) (spS Γ c W O YY H0 fr (.expr e)) := by
  refine PS.mono (ps_expr he hs) fun D σ H q => ?_
  obtain ⟨ρ, F, p⟩ := q
  have p : Post Γ W O YY H0 fr D H σ ρ (thenS ρ (evE c e ρ) fun _ => .nx ρ) := p
  exact ex_in F p fun d _ p v H' s' F' _ _ _ => p _ _ F' (Evo.of_same s')
theorem fr0 {H H' : Hp} (s : Same H0 H) {d : D} {v : V} (h : Fr H H' d v) : Fr H0 H' d v := fr_back s h
theorem s_ret (hf : FxS Γ n N sc X) {e : E} {v : Expr} (hr : fr = true → frE Γ.fnOf e = true) (he : PE X v (spE Γ c W e)) : PS X (.Return (some v) pos) (spS Γ c W O YY H0 fr (.ret e)) := by
  refine PS.mono (ps_ret he) fun D σ H q => ?_
  obtain ⟨ρ, F, p⟩ := q
  have p : Post Γ W O YY H0 fr D H σ ρ (thenS ρ (evE c e ρ) fun d => .ret d) := p
  refine ex_in F p fun d z p v H' s' F' _ r frr => ?_
  exact p v H' (F.sam.trans s') r fun hh => fr0 F.sam (frr (hr hh))
/-- an owned name, handed back -/
theorem s_retV (hf : FxS Γ n N sc X) {i : Nat} {x : Str} {pp : Pos} (hN : N[i]? = some x) (hv : visB sc x = true) (hd : dbgB x = true) (hi : i ∈ O) : PS X (.Return (some (.Name x pp)) pos) (spS Γ c W O YY H0 fr (.ret (.var i))) := by
  obtain ⟨d1, d2, d3⟩ := dbg_of hd
  refine PS.mono (ps_ret (pe_var (by rw [hf.fx.eN]; exact hN) (vis_of hf.fx hv) d1 d2)) fun D σ H q => ?_
  obtain ⟨ρ, F, p⟩ := q
  have p : Post Γ W O YY H0 fr D H σ ρ (thenS ρ (get ρ i) fun d => .ret d) := p
  cases e : get ρ i with
  | ok d =>
    rw [e] at p
    have e := get_ok e
    obtain ⟨v, h1, _, _⟩ := F.base.at0 i d e
    refine ⟨v, h1, p v H F.sam (fun Y hy => ?_) fun _ => ?_⟩
    · obtain ⟨v', h1', h2', h3'⟩ := (F.ret hy).at0 i d e
      rw [h1] at h1'; cases h1'
      exact h3' (by simp)
    · obtain ⟨v', h1', h2', h3'⟩ := F.base.at0 i d e
      rw [h1] at h1'; cases h1'
      cases d with
      | lst ds =>
        obtain ⟨a, xs, e1, r, _⟩ := h2'
        subst e1
        obtain ⟨f0, u, f1, f2⟩ := F.fresh i hi a _ h1 e rfl
        have z := rd_one (u := .lst xs) trivial f2 r (.inl f1)
        subst z
        exact ⟨a, xs, rfl, f0, f1⟩
      | dct ks vs =>
        obtain ⟨a, xs, e1, r, _⟩ := h2'
        subst e1
        obtain ⟨f0, u, f1, f2⟩ := F.fresh i hi a _ h1 e rfl
        have z := rd_one (u := .dK xs) trivial f2 r (.inl f1)
        subst z
        exact ⟨a, xs, rfl, f0, f1⟩
      | _ => trivial
  | ex x => exact absurd e get_noex
  | bad => rw [e] at p; exact (show False from p).elim
theorem s_if {t : E} {a b : Ss} {x : Expr} {y z : List Stmt} (ht : PT X x (spT Γ c W t)) (ha : PSs X y (spSs Γ c W O YY H0 fr a)) (hb : PSs X z (spSs Γ c W O YY H0 fr b)) : PS X (.If x y z pos) (spS Γ c W O YY H0 fr (.ife t a b)) := by
  refine PS.mono (ps_if ht ha hb) fun D σ H q => ?_
  obtain ⟨ρ, F, p⟩ := q
  have p : Post Γ W O YY H0 fr D H σ ρ (thenS ρ ((evE c t ρ).bind noX) fun x => if x.truth then evSs c a ρ else evSs c b ρ) := p
  refine ex_inT F p fun d _ p H' s' F' => ?_
  cases hk : d.truth with
  | true =>
    rw [hk, if_pos rfl] at p
    exact iteT ⟨ρ, F', Post.evo (Evo.of_same s') p⟩
  | false =>
    rw [hk, if_neg Bool.false_ne_true] at p
    exact iteF ⟨ρ, F', Post.evo (Evo.of_same s') p⟩
theorem s_brk : PS X (.Break pos) (spS Γ c W O YY H0 fr .brk) := PS.mono ps_break fun D σ H ⟨ρ, F, p⟩ => p σ H F Evo.refl
theorem s_ct : PS X (.Continue pos) (spS Γ c W O YY H0 fr .ct) := PS.mono ps_continue fun D σ H ⟨ρ, F, p⟩ => p σ H F Evo.refl
theorem s_pass : PS X (.Pass pos) (spS Γ c W O YY H0 fr .pass) := PS.mono ps_pass fun D σ H ⟨ρ, F, p⟩ => p σ H F Evo.refl
theorem ss_nil : PSs X [] (spSs Γ c W O YY H0 fr .nil) := PSs.mono pss_nil fun D σ H ⟨ρ, F, p⟩ => p σ H F Evo.refl
theorem ss_cons {s : S} {ss : Ss} {x : Stmt} {xs : List Stmt} (h1 : PS X x (spS Γ c W O YY H0 fr s)) (h2 : PSs X xs (spSs Γ c W O YY H0 fr ss)) : PSs X (x :: xs) (spSs Γ c W O YY H0 fr (.cons s ss)) := by
  refine PSs.mono (pss_cons h1 h2) fun D σ H q => ?_
  obtain ⟨ρ, F, p⟩ := q
  have p : Post Γ W O YY H0 fr D H σ ρ (match evS c s ρ with | .nx ρ' => evSs c ss ρ' | r => r) := p
  refine ⟨ρ, F, ?_⟩
  cases e : evS c s ρ with
  | nx ρ' =>
    rw [e] at p
    exact fun σ' H' F' ev => ⟨ρ', F', Post.evo ev p⟩
  | ret d => rw [e] at p; exact p
  | brk ρ' => rw [e] at p; exact p
  | ct ρ' => rw [e] at p; exact p
  | ex x ρ' => rw [e] at p; exact p
  | bad => rw [e] at p; exact p
end
end Pw

/-! text PwZ2 -/
/-! statements: targets, loops, lists that grow -/
namespace Pw
open PySem PySem.Spec PyProof.Rows L2

theorem setAll_out : ∀ {is : List Nat} {ds : List D} {ρ ρ' : Sl}, setAll is ds ρ = some ρ' → ρ'.length = ρ.length ∧ ∀ j, j ∉ is → ρ'[j]? = ρ[j]?
  | [], [], ρ, ρ', h => by cases h; exact ⟨rfl, fun _ _ => rfl⟩
  | [], _ :: _, _, _, h => by cases h
  | _ :: _, [], _, _, h => by cases h
  | i :: is, d :: ds, ρ, ρ', h => by
    obtain ⟨h1, h2⟩ := setAll_out (is := is) (ds := ds) (ρ := ρ.set i (some d)) h
    refine ⟨by rw [h1, List.length_set], fun j hj => ?_⟩
    rw [h2 j fun z => hj (List.mem_cons_of_mem _ z), List.getElem?_set_ne (fun z => hj (by simp [z]))]
theorem bindTg_out {tg : Tg} {d : D} {ρ ρ' : Sl} (h : bindTg tg d ρ = some ρ') : ρ'.length = ρ.length ∧ ∀ j, j ∉ tgIx tg → ρ'[j]? = ρ[j]? := by
  cases tg with
  | nm i =>
    cases h
    exact ⟨by rw [List.length_set], fun j hj => List.getElem?_set_ne (fun z => hj (by simp [tgIx, z]))⟩
  | tp is =>
    cases d with
    | tup ds => exact setAll_out h
    | _ => cases h
/-- no slot of a target is owned -/
def apartB (O is : List Nat) : Bool := is.all fun i => !O.contains i
theorem apart_of {O is : List Nat} (h : apartB O is = true) {i : Nat} (hi : i ∈ O) : i ∉ is := fun z => by
  have q := List.all_eq_true.mp h i z
  simp [hi] at q

section
variable {K : PySem.W.Frag} {YY : (Addr → Prop) → Prop} {O : List Nat} {H0 H H' : Hp} {σ σ' : L2.St} {ρ ρ' : Sl}
theorem FI.tg (F : FI K YY O H0 H σ ρ) {tg : Tg} (ha : apartB O (tgIx tg) = true) {d : D} {v : V} (hb : bindTg tg d ρ = some ρ') (hl : σ'.length = σ.length) (ho : ∀ j, j ∉ tgIx tg → σ'[j]? = σ[j]?)
    (hs : ∀ Y O, SlX K Y O (tgIx tg) H σ ρ → Rp K Y H d v → SlX K Y (O.filter fun j => !(tgIx tg).contains j) [] H σ' ρ') (hr : ∀ Y, YY Y → Rp K (zz Y O σ ρ) H d v) :
    FI K YY O H0 H σ' ρ' ∧ Evo O H σ ρ H σ' ρ' := by
  obtain ⟨bl, bo⟩ := bindTg_out hb
  have eo : own O σ' ρ' = own O σ ρ := by
    funext a
    apply propext
    constructor
    · rintro ⟨j, hj, e1, ds, e2, e3⟩
      rw [ho j (apart_of ha hj)] at e1
      rw [bo j (apart_of ha hj)] at e2
      exact ⟨j, hj, e1, ds, e2, e3⟩
    · rintro ⟨j, hj, e1, ds, e2, e3⟩
      exact ⟨j, hj, by rw [ho j (apart_of ha hj)]; exact e1, ds, by rw [bo j (apart_of ha hj)]; exact e2, e3⟩
  refine ⟨⟨by rw [bl, hl]; exact F.len, fun Y hy => ?_, F.sam, fun j hj a ds e1 e2 => ?_, fun j hj k hk ne a ds es e1 e2 e5 e3 e4 => ?_, F.em, F.yz⟩, fun b o e z => ⟨e, by rw [eo]; exact z⟩⟩
  · unfold zz
    rw [eo]
    exact (hs _ O ((F.sl Y hy).more fun _ z => by cases z) (hr Y hy)).anyO fun j hj => (List.mem_filter.mp hj).1
  · rw [ho j (apart_of ha hj)] at e1
    rw [bo j (apart_of ha hj)] at e2
    exact F.fresh j hj a ds e1 e2
  · rw [ho j (apart_of ha hj)] at e1
    rw [bo j (apart_of ha hj)] at e2
    rw [ho k (apart_of ha hk)] at e3
    rw [bo k (apart_of ha hk)] at e4
    exact F.dist j hj k hk ne a ds es e1 e2 e5 e3 e4
end

section
variable {Γ : Ctx} {c : Nat → List D → R D} {W : WX} {n : Nat} {N : List Str} {sc : Scope} {X : Cx} {pos : Pos} {O : List Nat} {YY : (Addr → Prop) → Prop} {H0 : Hp} {fr : Bool}

theorem s_asgT (hf : FxS Γ n N sc X) {is : List Nat} {e : E} {tge v : Expr} (hg : PG X tge (spG X.K (.tp is))) (h0 : lv O e = 0) (ha : apartB O is = true) (he : PE X v (spE Γ c W e))
    (h1 : swapsWithSole [tge] v pos.line X.env = pure false) (h2 : swappedStores [tge] v X.env = pure none) (h3 : (assignEach [tge] X.env).map (·.2) = [assign tge X.env]) :
    PS X (.Assign [tge] v pos) (spS Γ c W O YY H0 fr (.asgT is e)) := by
  refine PS.mono (ps_asg he hg h1 h2 h3) fun Dd σ H q => ?_
  obtain ⟨ρ, F, p⟩ := q
  have p : Post Γ W O YY H0 fr Dd H σ ρ (thenS ρ (evE c e ρ) fun d => match bindTg (.tp is) d ρ with
    | some ρ' => .nx ρ'
    | none => .bad) := p
  refine ex_in F p fun d _ p v H' s' F' r0 _ _ => ?_
  cases hb : bindTg (.tp is) d ρ with
  | none => rw [hb] at p; exact (show False from p).elim
  | some ρ' =>
    rw [hb] at p
    have e : X.K = Γ.K := hf.fx.K
    rw [e]
    refine ⟨d, ρ, ρ', (r0 h0 Em F.em).em, hb, fun σ' hl ho hs => ?_⟩
    obtain ⟨F2, ev⟩ := F'.tg (tg := .tp is) ha hb hl ho hs (r0 h0)
    exact p σ' H' F2 ((Evo.of_same s').trans ev)

theorem s_for (hf : FxS Γ n N sc X) {tg : Tg} {it : Itr} {body : Ss} {tge ite : Expr} {bd : List Stmt} (hg : PG X tge (spG X.K tg)) (h0 : lvI O it = 0) (ha : apartB O (tgIx tg) = true)
    (hi : PI X tge ite (spI Γ c W it)) (hb : PSs X bd (spSs Γ c W O YY H0 fr body)) (hs : ∀ x, foldedSetIterable ite X.env x = pure x) :
    PS X (.For tge ite bd [] pos) (spS Γ c W O YY H0 fr (.for tg it body)) := by
  refine PS.mono (ps_for hf.pass hf.fx.calm hi hg hb hs) fun Dd σ H q => ?_
  obtain ⟨ρ, F, p⟩ := q
  generalize hfd : (fun (x : D) (ρ' : Sl) => match bindTg tg x ρ' with
    | some ρ'' => evSs c body ρ''
    | none => Fl.bad) = f
  have p : Post Γ W O YY H0 fr Dd H σ ρ (thenS ρ (evI c it ρ) fun items => forL f items ρ) := by rw [← hfd]; exact p
  have eK : X.K = Γ.K := hf.fx.K
  rw [eK]
  refine ⟨ρ, F.base, ?_⟩
  cases zi : evI c it ρ with
  | bad => rw [zi] at p; exact p
  | ex x =>
    rw [zi] at p
    exact fun H' s' => p σ H' (F.same s') (Evo.of_same s')
  | ok items =>
    rw [zi, thenS_ok] at p
    intro J H1 es xs Fp s1 iok res hlen lev
    have F1 := F.same s1
    have nF : ∀ a, Fp a → ¬ own O σ ρ a := fun a ha w => (lev _ O (F.zok F.em) (F.sl Em F.em)).2 h0 a ha (.inr w)
    have rs : ∀ Y, YY Y → RpL Γ.K (zz Y O σ ρ) H1 es xs := fun Y hy => (lev _ O (F.zok hy) (F.sl Y hy)).1 (by omega)
    let Pv : Nat → L2.St → Hp → Prop := fun i σc Hc => i ≤ items.length ∧ ∃ ρc, FI Γ.K YY O H0 Hc σc ρc ∧ Evo O H1 σ ρ Hc σc ρc ∧ Post Γ W O YY H0 fr Dd Hc σc ρc (forL f (items.drop i) ρc)
    refine ⟨fun i m σc Hc => m = items.length - i ∧ Pv i σc Hc, ⟨items.length, by simp, Nat.zero_le _, ρ, F1, Evo.refl, by simpa using Post.evo (Evo.of_same s1) p⟩, ?_⟩
    rintro i m σc Hc ⟨rfl, hi, ρc, Fc, ev, pc⟩
    have keep : ∀ a o, Fp a → H1 a = some o → Hc a = some o := fun a o ha e => (ev a o e (nF a ha)).1
    by_cases hlt : i < items.length
    · right
      have hx : items[i]? = some items[i] := by simp [hlt]
      obtain ⟨go, yl⟩ := iok.go Hc keep i _ hx
      refine ⟨go, Pv (i + 1), fun σ' H' p' => ⟨items.length - (i + 1), by omega, rfl, p'⟩, fun x H' y => ?_⟩
      obtain ⟨s2, rpx⟩ := yl x H' y
      have hdrop : items.drop i = items[i] :: items.drop (i + 1) := List.drop_eq_getElem_cons hlt
      rw [hdrop] at pc
      generalize items[i] = d at hx pc rpx
      have rY : ∀ Y, YY Y → Rp Γ.K (zz Y O σc ρc) H' d x := fun Y hy => rpx _ (Evo.rpl (Y := Y) F1 ev (rs Y hy))
      have F' := Fc.same s2
      cases hb : bindTg tg d ρc with
      | none =>
        have hfx : f d ρc = .bad := by rw [← hfd]; simp only [hb]
        unfold forL at pc
        rw [hfx] at pc
        exact (show False from pc).elim
      | some ρ' =>
        have hfx : f d ρc = evSs c body ρ' := by rw [← hfd]; simp only [hb]
        refine ⟨d, ρc, ρ', (rY Em F.em).em, hb, fun σ' hl' ho' hsl => ?_⟩
        obtain ⟨F2, ev2⟩ := F'.tg ha hb hl' ho' hsl rY
        have evc : Evo O Hc σc ρc H' σ' ρ' := (Evo.of_same s2).trans ev2
        have pc := Post.evo evc pc
        unfold forL at pc
        rw [hfx] at pc
        refine ⟨ρ', F2, ?_⟩
        cases ze : evSs c body ρ' with
        | nx ρ3 =>
          rw [ze] at pc
          exact fun σ3 H3 F3 ev3 => ⟨hlt, ρ3, F3, (ev.trans evc).trans ev3, Post.evo ev3 pc⟩
        | ct ρ3 =>
          rw [ze] at pc
          exact fun σ3 H3 F3 ev3 => ⟨hlt, ρ3, F3, (ev.trans evc).trans ev3, Post.evo ev3 pc⟩
        | brk ρ3 => rw [ze] at pc; exact pc
        | ret d => rw [ze] at pc; exact pc
        | ex x ρ3 => rw [ze] at pc; exact pc
        | bad => rw [ze] at pc; exact pc
    · left
      have e : i = items.length := by omega
      subst e
      rw [List.drop_length] at pc
      exact ⟨iok.stop Hc keep, pc σc Hc Fc Evo.refl⟩

theorem s_whl (hf : FxS Γ n N sc X) {m : Nat} {t : E} {body : Ss} {te : Expr} {bd : List Stmt} (ht : PT X te (spT Γ c W t)) (hb : PSs X bd (spSs Γ c W O YY H0 fr body)) :
    PS X (.While te bd [] pos) (spS Γ c W O YY H0 fr (.whl m t body)) := by
  refine PS.mono (ps_while hf.pass ht hb) fun Dd σ H q => ?_
  obtain ⟨ρ, F, p⟩ := q
  have p : Post Γ W O YY H0 fr Dd H σ ρ (whlL (fun ρ' => mapR D.truth ((evE c t ρ').bind noX)) (evSs c body) m ρ) := p
  refine ⟨fun k σc Hc => ∃ ρc, FI Γ.K YY O H0 Hc σc ρc ∧ Post Γ W O YY H0 fr Dd Hc σc ρc (whlL (fun ρ' => mapR D.truth ((evE c t ρ').bind noX)) (evSs c body) k ρc), ⟨m, ρ, F, p⟩, ?_⟩
  rintro k σc Hc ⟨ρc, Fc, pc⟩
  cases k with
  | zero => exact (show False from pc).elim
  | succ k =>
    unfold whlL at pc
    refine spT.mk Fc.base (fun z => by rw [z] at pc; exact pc) (fun x z H' s' => ?_) fun d z H' s' => ?_
    · rw [z] at pc
      exact pc σc H' (Fc.same s') (Evo.of_same s')
    · rw [z] at pc
      have pc := Post.evo (Evo.of_same s') pc
      have F' := Fc.same s'
      simp only [mapR, R.ok_bind] at pc
      cases hk : d.truth with
      | false =>
        rw [hk] at pc
        rw [if_neg Bool.false_ne_true]
        exact pc σc H' F' Evo.refl
      | true =>
        rw [hk] at pc
        rw [if_pos rfl]
        refine ⟨fun σ' H2 => ∃ ρ', FI Γ.K YY O H0 H2 σ' ρ' ∧ Post Γ W O YY H0 fr Dd H2 σ' ρ' (whlL (fun ρ' => mapR D.truth ((evE c t ρ').bind noX)) (evSs c body) k ρ'), fun σ' H2 h => ⟨k, Nat.lt_succ_self k, h⟩, ρc, F', ?_⟩
        cases ze : evSs c body ρc with
        | nx ρ3 =>
          simp only [ze] at pc
          exact fun σ3 H3 F3 ev3 => ⟨ρ3, F3, Post.evo ev3 pc⟩
        | ct ρ3 =>
          simp only [ze] at pc
          exact fun σ3 H3 F3 ev3 => ⟨ρ3, F3, Post.evo ev3 pc⟩
        | brk ρ3 => simp only [ze] at pc; exact pc
        | ret d => simp only [ze] at pc; exact pc
        | ex x ρ3 => simp only [ze] at pc; exact pc
        | bad => simp only [ze] at pc; exact pc

/-- what stands in an owned slot -/
theorem FI.owned {K : PySem.W.Frag} {H : Hp} {σ : L2.St} {ρ : Sl} (F : FI K YY O H0 H σ ρ) {i : Nat} (hi : i ∈ O) {ds : List D} (e : ρ[i]? = some (some (.lst ds))) :
    ∃ a xs, σ[i]? = some (some (.ref a)) ∧ H a = some (.lst xs) ∧ ∀ Y, YY Y → RpL K (zz Y O σ ρ) H ds xs := by
  obtain ⟨v, h1, h2, _⟩ := (F.sl Em F.em).at0 i _ e
  obtain ⟨a, xs, e1, _, _⟩ := h2
  subst e1
  obtain ⟨_, uu, f1, f2⟩ := F.fresh i hi a _ h1 e rfl
  have key : ∃ ys, uu = .lst ys := by
    obtain ⟨v, h1', h2, _⟩ := (F.sl Em F.em).at0 i _ e
    rw [h1] at h1'; cases h1'
    obtain ⟨a', zs, e1, r, g⟩ := h2
    cases e1
    exact ⟨zs, rd_one f2 (w := .lst zs) trivial (.inl f1) r⟩
  obtain ⟨ys, rfl⟩ := key
  refine ⟨a, ys, h1, f1, fun Y hy => ?_⟩
  obtain ⟨v, h1', h2, _⟩ := (F.sl Y hy).at0 i _ e
  rw [h1] at h1'; cases h1'
  obtain ⟨a', zs, e1, r, g⟩ := h2
  cases e1
  rcases r with r | ⟨o, r⟩ <;> (rw [f1] at r; cases r)
  exact g
theorem s_app (hf : FxS Γ n N sc X) {i : Nat} {x : Str} {e : E} {v : Expr} {p1 p2 cpos : Pos} (hN : N[i]? = some x) (hv : visB sc x = true) (hd : dbgB x = true) (hi : i ∈ O) (h0 : lv O e = 0) (he : PE X v (spE Γ c W e))
    (hbase : attributeBase (.Name x p1) "append" X.env (eval (.Name x p1) X.env) = eval (.Name x p1) X.env)
    (hfew : ((backTo cpos (starEach [v] X.env)).all (fun x => !x.1) && (backToKw cpos (keywordEach [] X.env)).all (fun x => x.1.isSome)
      && decide ([v].length + ([] : List Keyword).length + (if ([] : List Keyword).isEmpty then 0 else 1) < 30)) = true)
    (hline : (p2.endLine == cpos.line) = true) (hst : starEach [v] X.env = (false, eval v X.env) :: starEach [] X.env)
    (hs : swapsWith (.Call (.Attribute (.Name x p1) "append" p2) [v] [] cpos) none pos.line X.env = pure false) :
    PS X (.Expr (.Call (.Attribute (.Name x p1) "append" p2) [v] [] cpos) pos) (spS Γ c W O YY H0 fr (.app i e)) := by
  obtain ⟨d1, d2, d3⟩ := dbg_of hd
  refine PS.mono (ps_expr (pe_bm PySem.F.plainAttrs_list PySem.F.slot_list_append PySem.F.type_list_append mt_append (pe_var (by rw [hf.fx.eN]; exact hN) (vis_of hf.fx hv) d1 d2) (pa_cons he pa_nil hst) hbase hfew hline hst rfl) hs) fun Dd σ H q => ?_
  obtain ⟨ρ, F, p⟩ := q
  have p : Post Γ W O YY H0 fr Dd H σ ρ (thenS ρ (get ρ i) fun o => match o with
    | .lst xs => thenS ρ (evE c e ρ) fun d => if Nat.blt xs.length LIM then .nx (ρ.set i (some (.lst (xs ++ [d])))) else .bad
    | _ => .bad) := p
  cases eg : get ρ i with
  | ex x => exact absurd eg get_noex
  | bad => rw [eg] at p; exact (show False from p).elim
  | ok o =>
    rw [eg, thenS_ok] at p
    have eg := get_ok eg
    cases o with
    | lst ds =>
      obtain ⟨a, xs, h1, h2, h3⟩ := F.owned hi eg
      refine ⟨.ref a, h1, .inl ⟨rfl, xs, .inl (.inl h2)⟩, ex_in F p fun d _ p v H' s' F' r0 _ _ => ?_⟩
      split at p
      · rename_i hlim
        have hlim : ds.length < LIM := by simpa using hlim
        have hl : ds.length = xs.length := (h3 Em F.em).length
        refine ⟨a, xs, v, rfl, rfl, s' _ _ h2, by rw [sizeLine_eq, ← hl]; exact hlim, ?_⟩
        obtain ⟨F2, ev⟩ := F'.updO (ds' := ds ++ [d]) (xs' := xs ++ [v]) hi h1 eg fun Y hy => ((h3 Y hy).same s').append (RpL.one (r0 h0 Y hy))
        exact p σ _ F2 ((Evo.of_same s').trans ev)
      · exact (show False from p).elim
    | _ => exact (show False from p).elim
/-- extend, by a list that may be of the module -/
def rExt2 : V → List V → Hp → VK → Prop := fun x vs H Q => ∃ l b xs zs, x = .ref l ∧ vs = [.ref b] ∧ H l = some (.lst xs) ∧ Rd H b (.lst zs) ∧ xs.length + zs.length ≤ sizeLine ∧ Q .non (upd H l (.lst (xs ++ zs)))
theorem mt_ext2 : MtM X "list.extend" rExt2 := by
  intro pins s σ H x vs v us Q I rx rv h
  obtain ⟨l, b, xs, zs, rfl, rfl, h1, h2, hz, q⟩ := h
  cases rx
  obtain ⟨u, rfl, ru⟩ := rv.one
  cases ru
  obtain ⟨w1, its, m1, r1, hl1, e1⟩ := I.lstM h1
  obtain ⟨w2, its2, m2, r2, hl2, e2⟩ := Inv.lstR I h2
  have hsz : its.length + its2.length ≤ sizeLine := by omega
  have hlong : ¬ (!its.toArray.isEmpty && Builtin.List.listTooLong (its.toArray.size + its2.toArray.size)) = true := by
    rw [List.size_toArray, List.size_toArray, notLongL hsz, Bool.and_false]
    exact Bool.false_ne_true
  refine call_meets F.slot_list_extend ⟨_, e1, rfl⟩ F.entry_list_extend (F.args_list_extend_2 _ _) (AutoSeq1.list_extend_list_list_0 l its.toArray m1 b its2.toArray m2 hlong (by rw [List.size_toArray]; omega) (by rw [List.size_toArray, List.size_toArray]; omega)) ⟨e1, e2, ?_⟩
  exact ⟨.non, _, I.lset (its' := its ++ its2) h1 e1 (by simp) (r1.append r2) (by rw [List.length_append]; omega), rfl, q⟩
theorem s_ext (hf : FxS Γ n N sc X) {i : Nat} {x : Str} {e : E} {v : Expr} {p1 p2 cpos : Pos} (hN : N[i]? = some x) (hv : visB sc x = true) (hd : dbgB x = true) (hi : i ∈ O) (h0 : lv O e ≤ 1) (he : PE X v (spE Γ c W e))
    (hbase : attributeBase (.Name x p1) "extend" X.env (eval (.Name x p1) X.env) = eval (.Name x p1) X.env)
    (hfew : ((backTo cpos (starEach [v] X.env)).all (fun x => !x.1) && (backToKw cpos (keywordEach [] X.env)).all (fun x => x.1.isSome)
      && decide ([v].length + ([] : List Keyword).length + (if ([] : List Keyword).isEmpty then 0 else 1) < 30)) = true)
    (hline : (p2.endLine == cpos.line) = true) (hst : starEach [v] X.env = (false, eval v X.env) :: starEach [] X.env)
    (hs : swapsWith (.Call (.Attribute (.Name x p1) "extend" p2) [v] [] cpos) none pos.line X.env = pure false) :
    PS X (.Expr (.Call (.Attribute (.Name x p1) "extend" p2) [v] [] cpos) pos) (spS Γ c W O YY H0 fr (.ext i e)) := by
  obtain ⟨d1, d2, d3⟩ := dbg_of hd
  refine PS.mono (ps_expr (pe_bm PySem.F.plainAttrs_list PySem.F.slot_list_extend PySem.F.type_list_extend mt_ext2 (pe_var (by rw [hf.fx.eN]; exact hN) (vis_of hf.fx hv) d1 d2) (pa_cons he pa_nil hst) hbase hfew hline hst rfl) hs) fun Dd σ H q => ?_
  obtain ⟨ρ, F, p⟩ := q
  have p : Post Γ W O YY H0 fr Dd H σ ρ (thenS ρ (get ρ i) fun o => match o with
    | .lst xs => thenS ρ (evE c e ρ) fun d => match d with
      | .lst ys => if Nat.ble (xs.length + ys.length) LIM then .nx (ρ.set i (some (.lst (xs ++ ys)))) else .bad
      | _ => .bad
    | _ => .bad) := p
  cases eg : get ρ i with
  | ex x => exact absurd eg get_noex
  | bad => rw [eg] at p; exact (show False from p).elim
  | ok o =>
    rw [eg, thenS_ok] at p
    have eg := get_ok eg
    cases o with
    | lst ds =>
      obtain ⟨a, xs, h1, h2, h3⟩ := F.owned hi eg
      refine ⟨.ref a, h1, .inl ⟨rfl, xs, .inl (.inl h2)⟩, ?_⟩
      refine spE.mk F.base (fun z => by rw [z] at p; exact p) (fun x z H' s' => ?_) fun d z v H' s' lev _ => ?_
      · rw [z] at p
        exact p σ H' (F.same s') (Evo.of_same s')
      rw [z] at p
      have F' := F.same s'
      cases d with
      | lst ys =>
        have p : Post Γ W O YY H0 fr Dd H σ ρ (if Nat.ble (ds.length + ys.length) LIM then .nx (ρ.set i (some (.lst (ds ++ ys)))) else .bad) := p
        split at p
        · rename_i hlim
          have hlim : ds.length + ys.length ≤ LIM := by simpa using hlim
          have hl : ds.length = xs.length := (h3 Em F.em).length
          have gr : ∃ b zs, v = .ref b ∧ Rd H' b (.lst zs) ∧ ∀ Y, YY Y → RpL Γ.K (zz Y O σ ρ) H' ys zs := by
            obtain ⟨b, zs, e1, r1, g1⟩ := (lev _ O (F.zok F.em) (F.sl Em F.em)).2 h0
            refine ⟨b, zs, e1, r1, fun Y hy => ?_⟩
            obtain ⟨b', zs', e1', r1', g1'⟩ := (lev _ O (F.zok hy) (F.sl Y hy)).2 h0
            rw [e1] at e1'; cases e1'
            have ex : zs = zs' := by
              rcases r1 with r | ⟨o, r⟩ <;> rcases r1' with r' | ⟨o', r'⟩ <;> (rw [r] at r'; cases r'; first | done | rfl)
            subst ex
            exact g1'
          obtain ⟨b, zs, e1, r1, g1⟩ := gr
          have hl2 : ys.length = zs.length := (g1 Em F.em).length
          refine ⟨a, b, xs, zs, rfl, by rw [e1], s' _ _ h2, r1, by rw [sizeLine_eq, ← hl, ← hl2]; exact hlim, ?_⟩
          obtain ⟨F2, ev⟩ := F'.updO (ds' := ds ++ ys) (xs' := xs ++ zs) hi h1 eg fun Y hy => ((h3 Y hy).same s').append (g1 Y hy)
          exact p σ _ F2 ((Evo.of_same s').trans ev)
        · exact (show False from p).elim
      | _ => exact (show False from p).elim
    | _ => exact (show False from p).elim
end
end Pw

/-! text PwZp -/
/-! statements: two at once; a thing from list to list -/
namespace Pw
open PySem PySem.Spec PyProof.Rows L2
theorem RpL.erase {K : PySem.W.Frag} {Z : Addr → Prop} {H : Hp} : ∀ {ds : List D} {xs : List V} (m : Nat), RpL K Z H ds xs → RpL K Z H (ds.eraseIdx m) (xs.eraseIdx m)
  | [], _, m, h => by
    have h : _ = _ := h
    subst h
    simp [RpL]
  | d :: ds, _, 0, h => by
    obtain ⟨v, vs, rfl, _, h2⟩ := h
    exact h2
  | d :: ds, _, m + 1, h => by
    obtain ⟨v, vs, rfl, h1, h2⟩ := h
    exact ⟨v, _, rfl, h1, RpL.erase m h2⟩
theorem seq_ix {n m : Nat} {i : Int} (h : Pw.ixN n i = some m) : seqIndex? i n = some m := by
  unfold Pw.ixN at h
  unfold seqIndex?
  split at h
  · split at h
    · cases h
      rename_i h0 h1
      simp [h0, h1]
      omega
    · cases h
  · split at h
    · cases h
      rename_i h0 h1
      have : i < 0 := by omega
      simp [this]
      omega
    · cases h
section
variable {Γ : Ctx} {c : Nat → List D → R D} {W : WX} {n : Nat} {N : List Str} {sc : Scope} {X : Cx} {pos : Pos} {O : List Nat} {YY : (Addr → Prop) → Prop} {H0 : Hp} {fr : Bool}
theorem sw_par {x y a b : Str} {px py pt pt2 pa pb : Pos} {kt k2 : Nat} {env : Env} (hk : env.scope.kind = .function) (hx : env.scope.names.lookup x = some .local) (hy : env.scope.names.lookup y = some .local) (hl : py.line = px.line) (hn : ¬ x = y)
    (ha : (a == ("__debug__" : Str)) = false) (hb : (b == ("__debug__" : Str)) = false) : swappedStores [.Tuple [.Name x px, .Name y py] kt pt] (.Tuple [.Name a pa, .Name b pb] k2 pt2) env = pure (some [x, y]) := by
  have e : env.blockKind = .function := by
    unfold Env.blockKind
    rw [hk]
    rfl
  have kx : (env.kindOf x == some NameKind.local) = true := by unfold Env.kindOf; rw [hx]; rfl
  have ky : (env.kindOf y == some NameKind.local) = true := by unfold Env.kindOf; rw [hy]; rfl
  have hnb : (y == x) = false := by
    cases h : y == x with
    | false => rfl
    | true => exact absurd (eq_of_beq h).symm hn
  have hf : (foldedForSure 8 (.Name a pa)) = false := rfl
  have hc : (constantsAlone 8 (.Name a pa)) = false := ha
  have nd : (List.eraseDups [x, y]).length = 2 := by
    rw [List.eraseDups_cons]
    simp [hnb]
    rfl
  unfold swappedStores
  have hxp : (Expr.Name x px).pos.line = px.line := rfl
  have kx2 : env.kindOf x = some NameKind.local := hx
  have ky2 : env.kindOf y = some NameKind.local := hy
  simp [e, kx2, ky2, hl, hf, hc, hxp, nd, List.filterMap_cons]
theorem s_par (hf : FxS Γ n N sc X) {i j u v : Nat} {x y a b : Str} {px py pt pt2 pa pb : Pos} {kt k2 : Nat} (h1 : N[i]? = some x) (h2 : N[j]? = some y) (h3 : N[u]? = some a) (h4 : N[v]? = some b) (h5 : sc.names.lookup x = some .local) (h6 : sc.names.lookup y = some .local)
    (h7 : visB sc a = true) (h8 : visB sc b = true) (h9 : dbgB a = true) (h10 : dbgB b = true) (h11 : ¬ x = y) (h12 : py.line = px.line) (oi : i ∉ O) (oj : j ∉ O) (ou : u ∉ O) (ov : v ∉ O) :
    PS X (.Assign [.Tuple [.Name x px, .Name y py] kt pt] (.Tuple [.Name a pa, .Name b pb] k2 pt2) pos) (spS Γ c W O YY H0 fr (.par i j u v)) := by
  obtain ⟨d1, d2, d3⟩ := dbg_of h9
  obtain ⟨e1, e2, e3⟩ := dbg_of h10
  have hij : i ≠ j := fun z => by subst z; rw [h1] at h2; cases h2; exact h11 rfl
  have ha : PE X (.Name a pa) _ := pe_var (by rw [hf.fx.eN]; exact h3) (vis_of hf.fx h7) d1 d2
  have hb : PE X (.Name b pb) _ := pe_var (by rw [hf.fx.eN]; exact h4) (vis_of hf.fx h8) e1 e2
  refine PS.mono (ps_par (i := i) (j := j) hf.fx.calm (by rw [hf.fx.eN]; exact hf.fx.nd) (by rw [hf.fx.eN]; exact h1) (by rw [hf.fx.eN]; exact h2) hij (by rw [hf.fx.eS]; exact h5) (by rw [hf.fx.eS]; exact h6) (pa_cons ha (pa_cons hb pa_nil rfl) rfl)
    (sw_par (by rw [hf.fx.eS]; exact hf.kd) (by rw [hf.fx.eS]; exact h5) (by rw [hf.fx.eS]; exact h6) h12 h11 d1 e1) rfl) fun Dd σ H q => ?_
  obtain ⟨ρ, F, p⟩ := q
  have p : Post Γ W O YY H0 fr Dd H σ ρ (thenS ρ (get ρ u) fun x => thenS ρ (get ρ v) fun y => .nx ((ρ.set i (some x)).set j (some y))) := p
  cases eu : get ρ u with
  | ex x => exact absurd eu get_noex
  | bad => rw [eu] at p; exact (show False from p).elim
  | ok dx =>
    rw [eu, thenS_ok] at p
    cases ev : get ρ v with
    | ex x => exact absurd ev get_noex
    | bad => rw [ev] at p; exact (show False from p).elim
    | ok dy =>
      rw [ev, thenS_ok] at p
      have eu := get_ok eu
      have ev := get_ok ev
      obtain ⟨vx, a1, _, _⟩ := (F.sl Em F.em).at0 u dx eu
      obtain ⟨vy, b1, _, _⟩ := (F.sl Em F.em).at0 v dy ev
      have rx : ∀ Y, YY Y → Rp Γ.K (zz Y O σ ρ) H dx vx := fun Y hy => by
        obtain ⟨w, a2, _, a3⟩ := (F.sl Y hy).at0 u dx eu
        rw [a1] at a2; cases a2
        exact a3 ou
      have ry : ∀ Y, YY Y → Rp Γ.K (zz Y O σ ρ) H dy vy := fun Y hy => by
        obtain ⟨w, a2, _, a3⟩ := (F.sl Y hy).at0 v dy ev
        rw [b1] at a2; cases a2
        exact a3 ov
      obtain ⟨F1, v1⟩ := F.setS oi rx
      obtain ⟨F2, v2⟩ := F1.setS oj fun Y hy => Evo.rp F v1 (ry Y hy)
      exact ⟨vx, a1, vy, b1, vx, vy, rfl, p _ _ F2 (v1.trans v2)⟩
theorem sw_parE {x y : Str} {u v : Expr} {px py pt pt2 : Pos} {kt k2 : Nat} {env : Env} (hk : env.scope.kind = .function) (hx : env.scope.names.lookup x = some .local) (hy : env.scope.names.lookup y = some .local) (hl : py.line = px.line) (hn : ¬ x = y)
    (su : ∀ a p, u ≠ .Starred a p) (sv : ∀ a p, v ≠ .Starred a p) (hf : foldedForSure 8 u = false) (hc : constantsAlone 8 u = false) : swappedStores [.Tuple [.Name x px, .Name y py] kt pt] (.Tuple [u, v] k2 pt2) env = pure (some [x, y]) := by
  have e : env.blockKind = .function := by
    unfold Env.blockKind
    rw [hk]
    rfl
  have hnb : (y == x) = false := by
    cases h : y == x with
    | false => rfl
    | true => exact absurd (eq_of_beq h).symm hn
  have nd : (List.eraseDups [x, y]).length = 2 := by
    rw [List.eraseDups_cons]
    simp [hnb]
    rfl
  have us : (match u with | .Starred .. => true | _ => false) = false := by
    cases u <;> first | rfl | exact absurd rfl (su _ _)
  have vs : (match v with | .Starred .. => true | _ => false) = false := by
    cases v <;> first | rfl | exact absurd rfl (sv _ _)
  unfold swappedStores
  have hxp : (Expr.Name x px).pos.line = px.line := rfl
  have kx2 : env.kindOf x = some NameKind.local := hx
  have ky2 : env.kindOf y = some NameKind.local := hy
  simp [e, kx2, ky2, hl, hf, hc, hxp, nd, List.filterMap_cons, us, vs]
theorem s_parE (hf : FxS Γ n N sc X) {i j : Nat} {a b : E} {x y : Str} {u v : Expr} {px py pt pt2 : Pos} {kt k2 : Nat} (h1 : N[i]? = some x) (h2 : N[j]? = some y) (h5 : sc.names.lookup x = some .local) (h6 : sc.names.lookup y = some .local)
    (h11 : ¬ x = y) (h12 : py.line = px.line) (oi : i ∉ O) (oj : j ∉ O) (la : lv O a = 0) (lb : lv O b = 0) (su : ∀ a p, u ≠ .Starred a p) (sv : ∀ a p, v ≠ .Starred a p) (hfo : foldedForSure 8 u = false) (hco : constantsAlone 8 u = false)
    (pa : PA X [u, v] (spA Γ c W (.cons a (.cons b .nil)))) :
    PS X (.Assign [.Tuple [.Name x px, .Name y py] kt pt] (.Tuple [u, v] k2 pt2) pos) (spS Γ c W O YY H0 fr (.asgT [i, j] (.tup (.cons a (.cons b .nil))))) := by
  have hij : i ≠ j := fun z => by subst z; rw [h1] at h2; cases h2; exact h11 rfl
  refine PS.mono (ps_par (i := i) (j := j) hf.fx.calm (by rw [hf.fx.eN]; exact hf.fx.nd) (by rw [hf.fx.eN]; exact h1) (by rw [hf.fx.eN]; exact h2) hij (by rw [hf.fx.eS]; exact h5) (by rw [hf.fx.eS]; exact h6) pa
    (sw_parE (by rw [hf.fx.eS]; exact hf.kd) (by rw [hf.fx.eS]; exact h5) (by rw [hf.fx.eS]; exact h6) h12 h11 su sv hfo hco) rfl) fun Dd σ H q => ?_
  obtain ⟨ρ, F, p⟩ := q
  have p : Post Γ W O YY H0 fr Dd H σ ρ (thenS ρ ((evEs c (.cons a (.cons b .nil)) ρ).bind fun ds => R.ok (D.tup ds)) fun d => match bindTg (.tp [i, j]) d ρ with
    | some ρ' => .nx ρ'
    | none => .bad) := p
  refine spA.mk F.base (fun z => by rw [z] at p; exact p) (fun x z H' s' => by rw [z] at p; exact p σ H' (F.same s') (Evo.of_same s')) fun ds z vs H' s' lev => ?_
  rw [z, R.ok_bind, thenS_ok] at p
  have ev : evEs c (.cons a (.cons b .nil)) ρ = (evE c a ρ).bind fun x => (evE c b ρ).bind fun y => .ok [x, y] := by
    show ((evE c a ρ).bind fun d => ((evE c b ρ).bind fun d => (R.ok [] : R (List D)).bind fun ds => R.ok (d :: ds)).bind fun ds => R.ok (d :: ds)) = _
    cases evE c a ρ with
    | ok x => cases evE c b ρ <;> rfl
    | ex x => rfl
    | bad => rfl
  rw [ev] at z
  obtain ⟨dx, e1, z⟩ := R.bind_ok z
  obtain ⟨dy, e2, z⟩ := R.bind_ok z
  cases z
  have F' := F.same s'
  have l0 : ∀ Y, YY Y → RpL Γ.K (zz Y O σ ρ) H' [dx, dy] vs := fun Y hy => (lev _ O (F.zok hy) (F.sl Y hy)).1 (by show max (lv O a) (max (lv O b) 0) = 0; omega)
  obtain ⟨vx, ws, rfl, _, vy, us, rfl, _, hu⟩ := l0 Em F.em
  have hu : us = [] := hu
  subst hu
  have rx : ∀ Y, YY Y → Rp Γ.K (zz Y O σ ρ) H' dx vx := fun Y hy => by
    obtain ⟨v1, ws1, q1, r1, _⟩ := l0 Y hy
    cases q1
    exact r1
  have ry : ∀ Y, YY Y → Rp Γ.K (zz Y O σ ρ) H' dy vy := fun Y hy => by
    obtain ⟨v1, ws1, q1, _, v2, ws2, q2, r2, _⟩ := l0 Y hy
    cases q1
    cases q2
    exact r2
  obtain ⟨F1, v1⟩ := F'.setS oi rx
  obtain ⟨F2, v2⟩ := F1.setS oj fun Y hy => Evo.rp F' v1 (ry Y hy)
  exact ⟨vx, vy, rfl, p _ _ F2 ((Evo.of_same s').trans (v1.trans v2))⟩
theorem s_appPop (hf : FxS Γ n N sc X) {i j : Nat} {x y : Str} {e : E} {v : Expr} {p1 p2 p3 p4 cpos cpos2 : Pos} (hN : N[i]? = some x) (hv : visB sc x = true) (hd : dbgB x = true) (hi : i ∈ O) (hN2 : N[j]? = some y) (hv2 : visB sc y = true) (hd2 : dbgB y = true) (hj : j ∈ O) (hij : ¬ i = j) (h0 : lv O e = 0) (he : PE X v (spE Γ c W e))
    (hfew : ((backTo cpos2 (starEach [v] X.env)).all (fun x => !x.1) && (backToKw cpos2 (keywordEach [] X.env)).all (fun x => x.1.isSome)
      && decide ([v].length + ([] : List Keyword).length + (if ([] : List Keyword).isEmpty then 0 else 1) < 30)) = true)
    (hline : (p2.endLine == cpos.line) = true) (hline2 : (p4.endLine == cpos2.line) = true) (hst : starEach [v] X.env = (false, eval v X.env) :: starEach [] X.env)
    (hs : swapsWith (.Call (.Attribute (.Name x p1) "append" p2) [.Call (.Attribute (.Name y p3) "pop" p4) [v] [] cpos2] [] cpos) none pos.line X.env = pure false) :
    PS X (.Expr (.Call (.Attribute (.Name x p1) "append" p2) [.Call (.Attribute (.Name y p3) "pop" p4) [v] [] cpos2] [] cpos) pos) (spS Γ c W O YY H0 fr (.appPop i j e)) := by
  obtain ⟨d1, d2, d3⟩ := dbg_of hd
  obtain ⟨f1, f2, f3⟩ := dbg_of hd2
  have pop := pe_bm (cpos := cpos2) PySem.F.plainAttrs_list PySem.F.slot_list_pop PySem.F.type_list_pop mt_popAt (pe_var (X := X) (pos := p3) (by rw [hf.fx.eN]; exact hN2) (vis_of hf.fx hv2) f1 f2) (pa_cons he pa_nil hst) rfl hfew hline2 hst rfl
  refine PS.mono (ps_expr (pe_bm PySem.F.plainAttrs_list PySem.F.slot_list_append PySem.F.type_list_append mt_append (pe_var (by rw [hf.fx.eN]; exact hN) (vis_of hf.fx hv) d1 d2) (pa_cons pop pa_nil rfl) rfl rfl hline rfl rfl) hs) fun Dd σ H q => ?_
  obtain ⟨ρ, F, p⟩ := q
  have p : Post Γ W O YY H0 fr Dd H σ ρ (thenS ρ (get ρ i) fun o => thenS ρ (get ρ j) fun o2 => match o, o2 with
    | .lst xs, .lst ys => thenS ρ (evE c e ρ) fun d => match d with
      | .int k => (match popR ys k with
        | some (y, zs) => if Nat.blt xs.length LIM then .nx ((ρ.set j (some (.lst zs))).set i (some (.lst (xs ++ [y])))) else .bad
        | none => .bad)
      | _ => .bad
    | _, _ => .bad) := p
  cases eg : get ρ i with
  | ex x => exact absurd eg get_noex
  | bad => rw [eg] at p; exact (show False from p).elim
  | ok o =>
    rw [eg, thenS_ok] at p
    cases eh : get ρ j with
    | ex x => exact absurd eh get_noex
    | bad => rw [eh] at p; exact (show False from p).elim
    | ok o2 =>
      rw [eh, thenS_ok] at p
      have eg := get_ok eg
      have eh := get_ok eh
      cases o with
      | lst ds =>
        cases o2 with
        | lst es =>
          obtain ⟨a, xs, h1, h2, h3⟩ := F.owned hi eg
          obtain ⟨b, ys, g1, g2, g3⟩ := F.owned hj eh
          refine ⟨.ref a, h1, .inl ⟨rfl, xs, .inl (.inl h2)⟩, .ref b, g1, .inl ⟨rfl, ys, .inl (.inl g2)⟩, ex_in F p fun d _ p v H' s' F' r0 r1 _ => ?_⟩
          cases d with
          | int k =>
            have ev : v = .int k := r1 Em F.em
            have p : Post Γ W O YY H0 fr Dd H σ ρ (match popR es k with
              | some (y, zs) => if Nat.blt ds.length LIM then .nx ((ρ.set j (some (.lst zs))).set i (some (.lst (ds ++ [y])))) else .bad
              | none => .bad) := p
            cases ep : popR es k with
            | none => rw [ep] at p; exact (show False from p).elim
            | some pr =>
              obtain ⟨dy, zs⟩ := pr
              rw [ep] at p
              unfold popR at ep
              split at ep
              · rename_i hk
                rw [Nat.blt_eq] at hk
                cases em : Pw.ixN es.length k with
                | none => rw [em] at ep; cases ep
                | some m =>
                  rw [em] at ep
                  obtain ⟨y0, e1, e2⟩ := Option.map_eq_some_iff.mp (show (es[m]?).map (fun y => (y, es.eraseIdx m)) = some (dy, zs) from ep)
                  cases e2
                  have hlen : es.length = ys.length := (g3 Em F.em).length
                  obtain ⟨vy, w1, _⟩ := (g3 Em F.em).get e1
                  have ry : ∀ Y, YY Y → Rp Γ.K (zz Y O σ ρ) H' dy vy := fun Y hy => by
                    obtain ⟨u, w2, w3⟩ := (g3 Y hy).get e1
                    rw [w1] at w2; cases w2
                    exact w3.same s'
                  have p : Post Γ W O YY H0 fr Dd H σ ρ (if Nat.blt ds.length LIM then .nx ((ρ.set j (some (.lst (es.eraseIdx m)))).set i (some (.lst (ds ++ [dy])))) else .bad) := p
                  split at p
                  · rename_i hlim
                    have hlim : ds.length < LIM := by simpa using hlim
                    have hl : ds.length = xs.length := (h3 Em F.em).length
                    have nab : a ≠ b := fun z => F.dist i hi j hj hij a _ _ h1 eg rfl (by rw [z]; exact g1) eh rfl
                    refine ⟨b, ys, k, m, vy, rfl, by rw [ev], s' _ _ g2, by omega, by omega, seq_ix (by rw [← hlen]; exact em), w1, a, xs, vy, rfl, rfl, by rw [upd_ne nab]; exact s' _ _ h2, by rw [sizeLine_eq, ← hl]; exact hlim, ?_⟩
                    obtain ⟨F2, v2⟩ := F'.updO (ds' := es.eraseIdx m) (xs' := ys.eraseIdx m) hj g1 eh fun Y hy => ((g3 Y hy).same s').erase m
                    have eg2 : (ρ.set j (some (.lst (es.eraseIdx m))))[i]? = some (some (.lst ds)) := by rw [List.getElem?_set_ne (fun z => hij z.symm)]; exact eg
                    obtain ⟨F3, v3⟩ := F2.updO (ds' := ds ++ [dy]) (xs' := xs ++ [vy]) hi h1 eg2 fun Y hy => (Evo.rpl F' v2 ((h3 Y hy).same s')).append (RpL.one (Evo.rp F' v2 (ry Y hy)))
                    exact p σ _ F3 (((Evo.of_same s').trans v2).trans v3)
                  · exact (show False from p).elim
              · cases ep
          | _ => exact (show False from p).elim
        | _ => exact (show False from p).elim
      | _ => exact (show False from p).elim
end
end Pw

/-! text PwW -/
/-! errors: raise, try; lists and dicts that are changed at a place -/
namespace Pw
open PySem PySem.Spec PyProof.Rows L2

/-- a caught error, by its class -/
def exA (cls : Value) (a : Addr) : HO := .ext fun h => ∃ o vs, h.get? a = some o ∧ o.cls = cls ∧ o.dict = none ∧ o.data = .fields vs
theorem exA_ok {P : Program} {w : World} {H : Hp} {h : Heap} {a : Addr} {cls : Value} {o : Obj} {vs : Array Value} (e : h.get? a = some o) (h1 : o.cls = cls) (h2 : o.dict = none) (h3 : o.data = .fields vs) : ObjOk P w H h a (exA cls a) :=
  ⟨⟨o, vs, e, h1, h2, h3⟩, ⟨o, e⟩, fun g1 g2 ⟨o', vs', q1, q2⟩ k => ⟨o', vs', k o' q1, q2⟩⟩
theorem adopt {X : Cx} {pins : List (Addr × Obj)} {σ : L2.St} {H : Hp} {s : Shared} {a : Addr} {u : HO} (J : Inv X pins σ H s) (na : H a = none) (new : ObjOk X.prog X.w (upd H a u) s.heap a u) (f0 : ∀ ob, X.s_0.heap.get? a = some ob → a ∈ X.ex)
    (nL : a ≠ X.env.locals) (nC : ∀ x c, X.env.cells.lookup x = some c → c ≠ a) (nP : ∀ p, p ∈ X.pn ++ pins → p.1 ≠ a) : Inv X pins σ (upd H a u) s := by
  have ne : ∀ b v, H b = some v → b ≠ a := fun b v e => ne_of_none e na
  refine ⟨J.ok, J.os, J.bare, ⟨J.base.keep, J.base.slot, fun b ob e n hx => ?_, J.base.there, fun b xs e => ?_, fun b ob w e => ?_, fun b ps e => ?_⟩, J.loc, J.cell, ?_, fun x c e => ?_, fun p hp => ?_, fun b v e => ?_, J.len⟩
  · have nb : b ≠ a := fun z => by subst z; exact hx (f0 ob e)
    rw [upd_ne nb]
    exact J.base.free b ob e n hx
  · have q := J.base.tups b xs e
    rw [upd_ne (ne b _ q)]; exact q
  · have q := J.base.frzs b ob w e
    rw [upd_ne (ne b _ q)]; exact q
  · obtain ⟨more, q⟩ := J.base.tbls b ps e
    exact ⟨more, by rw [upd_ne (ne b _ q)]; exact q⟩
  · rw [upd_ne (Ne.symm nL)]; exact J.free
  · rw [upd_ne (nC x c e)]; exact J.freeC x c e
  · obtain ⟨q1, q2, q3⟩ := J.pin p hp
    exact ⟨q1, by rw [upd_ne (nP p hp)]; exact q2, q3⟩
  · by_cases hb : b = a
    · subst hb
      rw [upd_same] at e; cases e
      exact new
    · rw [upd_ne hb] at e
      exact (J.hok b v e).stay (fun _ _ _ q => q) (fun c q => by rw [upd_ne (ne c _ q)]; exact q) fun c xs q => by rw [upd_ne (ne c _ q)]; exact q

/-- what the clause 'except x as n: k = n' wishes of an error of the body -/
def wKeep (K : PySem.W.Frag) (c : Value) (i k : Nat) (Wout : WX) (D : Ends) : WX := fun cls d σ H =>
  ∃ b, PySem.W.exmOne K cls c = some b ∧ (b = true → d = none ∧ ∀ a, H a = none → D.nx (((σ.set i (some (.ref a))).set k (some (.ref a))).set i none) (upd H a (exA cls a))) ∧ (b = false → Wout cls d σ H)
section
variable {X : Cx} {x n kx : Str} {c : Value} {i k : Nat} {body : List Stmt} {np kp ep ap pos pos' : Pos} {tb : WX → TS} {Wout : WX}
theorem ps_keep (hs : X.stack = X.env :: X.outer) (hfm : X.env.frame = some X.env.locals) (hN : X.N.Nodup) (hi : X.N[i]? = some n) (hln : X.env.kindOf n = some .local) (hk : X.N[k]? = some kx) (hlk : X.env.kindOf kx = some .local) (hdn : (n == ("__debug__" : Str)) = false) (hdn2 : (n == ("__classdict__" : Str)) = false) (hc : Names X x c) (tk : Takes X Wout)
    (hb : ∀ (W : WX) (pn : List (Addr × Obj)) (xe : Value → Shared → Prop), Takes (X.tr pn xe) W → PassesOwn (model X.prog X.w) X.A X.env xe → PSs (X.tr pn xe) body (tb W)) :
    PS X (.Try body [.ExceptHandler (some (.Name x np)) (some n) [.Assign [.Name kx kp] (.Name n ep) ap] pos'] [] [] pos) (fun D σ H => tb (wKeep X.K c i k Wout D) D σ H) := by
  refine ⟨fun pins s σ H D J h => ?_⟩
  have okX := J.ok
  have hfr : X.A.frames = some (X.env :: X.outer) := by rw [okX.frames, hs]
  have locn : Loc X.env.scope n := .inl hln
  refine wpAny_Try_except ?_
  generalize hH : ([.ExceptHandler (some (.Name x np)) (some n) [.Assign [.Name kx kp] (.Name n ep) ap] pos'] : List ExceptHandler) = hds
  refine wpAny_mono ((hb (wKeep X.K c i k Wout D) (X.pn ++ pins) (fun e s₁ => wpAny (model X.prog X.w) X.A (noteFrame e X.env) (fun _ s₂ => wpAny (model X.prog X.w) X.A (setFlight e none) (fun _ s₃ => wpAny (model X.prog X.w) X.A (handleBy e X.env hds) (SP X pins D) X.xe s₃) X.xe s₂) X.xe s₁)
    (fun u s' xx => ?_) PassesOwn.looking).run [] s σ H D (J.toTry _) h) (fun f s1 hsp => ?_) (fun e s1 he => he)
  · -- an error came
    obtain ⟨a, B, sI, pn2, σ2, H2, cls, d, rfl, K', nb, up, sky, na, os, ag, b, hb1, hyes, hno⟩ := xx
    have K0 : Inv X pins σ2 H2 sI := K'.ofTry okX
    have sky2 : Sky B (X.env :: X.outer) a (Zc cls d) X.env.locals s'.heap := by rw [← hs]; exact sky
    show wpAny (model X.prog X.w) X.A (noteFrame (.ref a) X.env) _ _ _
    refine Sky.land Zc.steady hfr hfm sky2 fun h3 fl3 up3 => ?_
    have J3 : Inv X pins σ2 H2 { s' with heap := h3 } := K0.landed nb fl3.1 (up.trans up3) os ag
    obtain ⟨oe3, vs3, he3, hz3, hd3⟩ := fl3.there
    have nfr : a ∉ frs (X.env :: X.outer) := fun hm => by
      obtain ⟨_, o', e', hnf⟩ := fl3.2.2.1.mem hm
      rw [he3] at e'; cases e'
      exact hnf _ hd3
    have nL : a ≠ X.env.locals := fun z => nfr (List.mem_filterMap.mpr ⟨X.env, List.mem_cons_self, by rw [hfm, z]⟩)
    have nF : a ∉ X.fs := fun hm => by
      obtain ⟨e, he, q⟩ := List.mem_filterMap.mp hm
      exact nfr (List.mem_filterMap.mpr ⟨e, List.mem_cons_of_mem _ he, q⟩)
    have nI : sI.heap.get? a = none := by
      cases q : sI.heap.get? a with
      | none => rfl
      | some ob =>
        have z := nb a ob q (by rw [hs]; exact nfr)
        rw [fl3.2.1] at z; cases z
    have S3 := J3.suite he3 hd3 na nL nF
    rw [← hH]
    refine wpAny_handleBy_cons (codeAny_handlers_test ?_) (by intro q; cases q)
    have LT : PySem.W.Looks (model X.prog X.w) h3 (typeOf (.ref a)) cls := fun A Q E s k q => wpAny_typeOf_ref (k _ _ he3) (by rw [hz3.1]; exact q)
    have LM := PySem.W.exm_one (M := model X.prog X.w) (J3.kIn) LT hb1
    have test : ∀ {Q : Value → Shared → Prop} {E : Value → Shared → Prop}, Q c { s' with heap := h3 } → wpAny (model X.prog X.w) (X.A.mark (some (.ref a))) (eval (.Name x np) X.env) Q E { s' with heap := h3 } := fun {Q E} q => by
      obtain ⟨hg, hdbg, hm | ⟨hm, hv, hnn⟩⟩ := hc
      · exact ld_glob (X := X.suite a ((a, oe3) :: (X.pn ++ pins))) S3 hg hm q hdbg
      · exact ld_blt (X := X.suite a ((a, oe3) :: (X.pn ++ pins))) S3 hg hm hv q hnn hdbg
    refine test (LM.here ?_)
    cases b with
    | true =>
      obtain ⟨hd0, hy2⟩ := hyes rfl
      have hlen : i < σ2.length := by rw [K0.len]; exact (List.getElem?_eq_some_iff.mp hi).1
      refine codeAny_handlers_suite_as ?_
      refine HandSPX.lands_againZ fl3 fun h4 fl4 up4 => ?_
      have J4 : Inv X pins σ2 H2 { s' with heap := h4 } := K0.landed nb fl4.1 ((up.trans up3).trans up4) os ag
      obtain ⟨oe4, vs4, he4, hz4, hd4⟩ := fl4.there
      have S4 := J4.suite he4 hd4 na nL nF
      refine store_ok (X := X.suite a ((a, oe4) :: (X.pn ++ pins))) (v := .ref a) S4 hN hi locn rfl (fun s5 S5 => ?_) (.inr hln)
      have su : PSs (X.suite a ((a, oe4) :: (X.pn ++ pins))) [.Assign [.Name kx kp] (.Name n ep) ap] _ := pss_cons (ps_set (X := X.suite a ((a, oe4) :: (X.pn ++ pins))) hN hk (.inl hlk) (pe_var (X := X.suite a ((a, oe4) :: (X.pn ++ pins))) hi (.inl hln) hdn hdn2) rfl (.inr hlk)) pss_nil
      refine wpAny_mono (su.run [] s5 _ H2 ⟨fun σ6 H6 => σ6 = (σ2.set i (some (.ref a))).set k (some (.ref a)) ∧ H6 = H2, fun _ _ => False, fun _ _ => False, fun _ _ => False⟩ S5 ⟨.ref a, List.getElem?_set_self hlen, rfl, rfl⟩) (fun f s6 hsp => ?_) (fun _ _ z => False.elim z)
      cases f with
      | next =>
        obtain ⟨σ6, H6, S6, e6, e7⟩ := hsp
        rw [e6, e7] at S6
        obtain ⟨hget, _⟩ := S6.pin (a, oe4) (List.mem_append_left _ (List.mem_cons_self ..))
        have J6 : Inv X pins ((σ2.set i (some (.ref a))).set k (some (.ref a))) H2 s6 := S6.unsuite okX
        subst hd0
        have J7 := adopt J6 na (exA_ok hget hz4.1 hz4.2 hd4) (fun ob e0 => ?_) nL (fun y cc ec z => ?_) (fun p hp z => ?_)
        · exact gone_ok J7 hN hi hln fun s7 J8 => ⟨_, _, J8, hy2 a na⟩
        · by_cases hx : a ∈ X.ex
          · exact hx
          · obtain ⟨o', e1⟩ := K0.base.there a ob e0 hx
            rw [nI] at e1; cases e1
        · subst z
          obtain ⟨v, ob, e1, e2⟩ := K0.cell y cc ec
          rw [nI] at e1; cases e1
        · obtain ⟨q1, _⟩ := K0.pin p hp
          rw [z, nI] at q1; cases q1
      | brk =>
        obtain ⟨σ6, H6, S6, q6⟩ := hsp
        exact q6.elim
      | cont =>
        obtain ⟨σ6, H6, S6, q6⟩ := hsp
        exact q6.elim
      | ret u =>
        obtain ⟨v6, σ6, H6, S6, r6, q6⟩ := hsp
        exact q6.elim
    | false =>
      show wpAny _ X.A (handleBy (.ref a) X.env []) _ _ _
      refine wpAny_handleBy_nil ?_
      obtain ⟨k1, k2, k3, oe, vs, T, oT, ts', he, hz, hd, h1, hr⟩ := id fl3
      unfold PySem.passOn
      refine wpAny_bind (wpAny_field he hd h1 ?_)
      rw [if_neg (show ¬ ((Value.ref T == Value.none) = true) from by simp)]
      have fin : wpAny (model X.prog X.w) X.A (setFlight (.ref a) X.env.frame) (fun _ s4 => wpAny (model X.prog X.w) X.A (throw (.ref a) : Sem Flow) (SP X pins D) X.xe s4) X.xe { s' with heap := h3 } := by
        rw [hfm]
        refine HandSPX.setFlight_upZ fl3 fun h4 hh4 up4 => wpAny_throw (tk _ _ ?_)
        exact ⟨a, B, sI, pins, σ2, H2, cls, d, rfl, K0, nb, (up.trans up3).trans up4, .inr (.inr (by rw [hs]; exact hh4)), na, os, ag, hno rfl⟩
      first
        | exact wpAny_bind (wpAny_pure (wpAny_bind fin))
        | exact wpAny_bind fin
  · cases f with
    | next =>
      obtain ⟨σ', H', J', q⟩ := hsp
      exact wpAny_execs_nil ⟨σ', H', J'.ofTry okX, q⟩
    | brk =>
      obtain ⟨σ', H', J', q⟩ := hsp
      exact ⟨σ', H', J'.ofTry okX, q⟩
    | cont =>
      obtain ⟨σ', H', J', q⟩ := hsp
      exact ⟨σ', H', J'.ofTry okX, q⟩
    | ret u =>
      obtain ⟨v, σ', H', J', r, q⟩ := hsp
      exact ⟨v, σ', H', J'.ofTry okX, r, q⟩
end
end Pw

/-! text PwW2 -/
/-! the new statements keep their promise -/
namespace Pw
open PySem PySem.Spec PyProof.Rows L2

theorem RpL.set {K : PySem.W.Frag} {Z : Addr → Prop} {H : Hp} : ∀ {ds : List D} {xs : List V} (m : Nat) {d : D} {v : V}, RpL K Z H ds xs → Rp K Z H d v → RpL K Z H (ds.set m d) (xs.set m v)
  | [], _, m, _, _, h, _ => by
    have h : _ = _ := h
    subst h
    simp [RpL]
  | d :: ds, _, 0, _, _, h, g => by
    obtain ⟨v, vs, rfl, _, h2⟩ := h
    exact ⟨_, _, rfl, g, h2⟩
  | d :: ds, _, m + 1, _, _, h, g => by
    obtain ⟨v, vs, rfl, h1, h2⟩ := h
    exact ⟨v, _, rfl, h1, RpL.set m h2 g⟩
theorem erase_vals : ∀ {xs : List V} {us : List Value}, Vals xs us → ∀ j, Vals (xs.eraseIdx j) (us.eraseIdx j)
  | _, _, .nil, j => by simp; exact .nil
  | _, _, .cons r t, 0 => t
  | _, _, .cons r t, j + 1 => .cons r (erase_vals t j)
section
variable {Γ : Ctx} {c : Nat → List D → R D} {W : WX} {n : Nat} {N : List Str} {sc : Scope} {X : Cx} {pos : Pos} {O : List Nat} {YY : (Addr → Prop) → Prop} {H0 : Hp} {fr : Bool}
theorem s_raise (hf : FxS Γ n N sc X) (G : Gk Γ) (tk : Takes X W) {t : Str} {x : Tx} {m : Str} {j : Nat} {p p2 cp : Pos} (hx : x ∈ Γ.tb.xs) (hg : gloB sc (tx x) = true) (hd : dbgB (tx x) = true) :
    PS X (.Raise (some (.Call (.Name (tx x) p) [.Constant (.str m) j p2] [] cp)) none pos) (spS Γ c W O YY H0 fr (.raise t x)) := by
  obtain ⟨e1, e2, e3, e4, e5⟩ := G.exc x hx
  refine PS.mono (ps_raise hf.fx.calm tk (pmk_own (C := He.ga Γ.K (tx x)) PySem.F.excBase_ValueError (by rw [hf.fx.K]; exact e2) (by rw [hf.fx.mg]; exact e1) (by rw [hf.fx.K]; exact e3) (raises_own (by rw [hf.fx.K]; exact e4) (by rw [hf.fx.K]; exact e5)) (glo_of hf.fx hg) (dbg_of hd).1)) fun D σ H q => ?_
  obtain ⟨ρ, F, p⟩ := q
  have z : W (Γ.cl x) none σ H := p σ H F Evo.refl
  rw [G.cl x] at z
  exact z
theorem names_of (hf : FxS Γ n N sc X) (G : Gk Γ) {x : Tx} (hx : x ∈ Γ.tb.xs) (hg : gloB sc (tx x) = true) (hd : dbgB (tx x) = true) : Names X (tx x) (.ref (He.ga Γ.K (tx x))) :=
  ⟨glo_of hf.fx hg, (dbg_of hd).1, .inl (by rw [hf.fx.mg]; exact (G.exc x hx).1)⟩
theorem s_tryK (hf : FxS Γ n N sc X) (G : Gk Γ) (tk : Takes X W) {b : Ss} {ys : List Tx} {x : Tx} {i k : Nat} {nn kx : Str} {body : List Stmt} {np kp ep ap pos' : Pos} (hx : x ∈ Γ.tb.xs) (hys : ∀ y, y ∈ ys → y ∈ Γ.tb.xs) (hg : gloB sc (tx x) = true) (hd : dbgB (tx x) = true)
    (hi : N[i]? = some nn) (hli : sc.names.lookup nn = some .local) (hk : N[k]? = some kx) (hlk : sc.names.lookup kx = some .local) (hdn : dbgB nn = true) (hiO : i ∉ O) (hkO : k ∉ O) (hik : i ≠ k)
    (hb : ∀ (W' : WX) (X' : Cx), FxS Γ n N sc X' → Takes X' W' → PSs X' body (spSs Γ c W' O YY H0 fr b)) :
    PS X (.Try body [.ExceptHandler (some (.Name (tx x) np)) (some nn) [.Assign [.Name kx kp] (.Name nn ep) ap] pos'] [] [] pos) (spS Γ c W O YY H0 fr (.tryK b ys x i k)) := by
  refine PS.mono (ps_keep (tb := fun W' => spSs Γ c W' O YY H0 fr b) hf.stk hf.frm (by rw [hf.fx.eN]; exact hf.fx.nd) (by rw [hf.fx.eN]; exact hi) (by show X.env.scope.names.lookup nn = _; rw [hf.fx.eS]; exact hli) (by rw [hf.fx.eN]; exact hk) (by show X.env.scope.names.lookup kx = _; rw [hf.fx.eS]; exact hlk) (dbg_of hdn).1 (dbg_of hdn).2.1 (names_of hf G hx hg hd) tk
    (fun W' pn xe t p => hb W' _ ⟨⟨hf.fx.prog, hf.fx.w, hf.fx.K, hf.fx.mg, hf.fx.base, hf.fx.eN, hf.fx.eS, hf.fx.calm, hf.fx.room, hf.fx.nd⟩, p, hf.fn, hf.kd, hf.stk, hf.frm⟩ t)) fun Dd σ H q => ?_
  obtain ⟨ρ, F, p⟩ := q
  have p : Post Γ W O YY H0 fr Dd H σ ρ (match evSs c b ρ with
    | .ex y ρ' => if ys.contains y then (if subX y x then .nx ((ρ'.set k (some (.exc y))).set i none) else .ex y ρ') else .bad
    | r => r) := p
  refine ⟨ρ, F, ?_⟩
  cases e : evSs c b ρ with
  | nx ρ' => rw [e] at p; exact p
  | ret d => rw [e] at p; exact p
  | brk ρ' => rw [e] at p; exact p
  | ct ρ' => rw [e] at p; exact p
  | bad => rw [e] at p; exact p
  | ex y ρ' =>
    rw [e] at p
    intro σ' H' F' ev
    cases hy : ys.contains y with
    | false =>
      simp only [hy] at p
      exact (show False from p).elim
    | true =>
      simp only [hy, if_true] at p
      have hyx := hys y (by simpa using hy)
      rw [G.cl y]
      refine ⟨subX y x, by rw [hf.fx.K]; exact G.exm y x hyx hx, fun ht => ?_, fun hff => ?_⟩
      · rw [ht, if_pos rfl] at p
        refine ⟨rfl, fun a ha => ?_⟩
        have es : ((σ'.set i (some (.ref a))).set k (some (.ref a))).set i none = (σ'.set k (some (.ref a))).set i none := by
          rw [List.set_comm _ _ hik, List.set_set]
        rw [es]
        have s1 : Same H' (upd H' a (exA (.ref (He.ga Γ.K (tx y))) a)) := same_upd ha
        obtain ⟨F2, ev2⟩ := (F'.same s1).setS hkO (d := .exc y) (v := .ref a) fun Y hy => ⟨a, rfl, upd_same⟩
        obtain ⟨F3, ev3⟩ := F2.clr hiO
        exact p _ _ F3 ((ev.trans (Evo.of_same s1)).trans (ev2.trans ev3))
      · rw [hff, if_neg Bool.false_ne_true] at p
        have z := p σ' H' F' ev
        rw [G.cl y] at z
        exact z
theorem s_tryV (hf : FxS Γ n N sc X) (G : Gk Γ) (tk : Takes X W) {b : Ss} {ys : List Tx} {x : Tx} {i : Nat} {vx : Str} {body : List Stmt} {np vp ap pos' : Pos} (hx : x ∈ Γ.tb.xs) (hys : ∀ y, y ∈ ys → y ∈ Γ.tb.xs) (hg : gloB sc (tx x) = true) (hd : dbgB (tx x) = true)
    (hi : N[i]? = some vx) (hv : visB sc vx = true) (hdn : dbgB vx = true) (hfr : fr = false)
    (hb : ∀ (W' : WX) (X' : Cx), FxS Γ n N sc X' → Takes X' W' → PSs X' body (spSs Γ c W' O YY H0 fr b)) :
    PS X (.Try body [.ExceptHandler (some (.Name (tx x) np)) none [.Return (some (.Name vx vp)) ap] pos'] [] [] pos) (spS Γ c W O YY H0 fr (.tryV b ys x i)) := by
  refine PS.mono (ps_try_only (tb := fun W' => spSs Γ c W' O YY H0 fr b) hf.stk hf.frm (names_of hf G hx hg hd) tk
    (fun W' pn xe t p => hb W' _ ⟨⟨hf.fx.prog, hf.fx.w, hf.fx.K, hf.fx.mg, hf.fx.base, hf.fx.eN, hf.fx.eS, hf.fx.calm, hf.fx.room, hf.fx.nd⟩, p, hf.fn, hf.kd, hf.stk, hf.frm⟩ t)
    (fun a oe cls d pn _ _ => pss_cons (ps_ret (pe_var (X := X.suite a ((a, oe) :: pn)) (i := i) (by rw [← hf.fx.eN] at hi; exact hi) (show Vis X.env.scope vx from vis_of hf.fx hv) (dbg_of hdn).1 (dbg_of hdn).2.1)) pss_nil)) fun Dd σ H q => ?_
  obtain ⟨ρ, F, p⟩ := q
  have p : Post Γ W O YY H0 fr Dd H σ ρ (match evSs c b ρ with
    | .ex y ρ' => if ys.contains y then (if subX y x then thenS ρ' (get ρ' i) .ret else .ex y ρ') else .bad
    | r => r) := p
  refine ⟨ρ, F, ?_⟩
  cases e : evSs c b ρ with
  | nx ρ' => rw [e] at p; exact p
  | ret d => rw [e] at p; exact p
  | brk ρ' => rw [e] at p; exact p
  | ct ρ' => rw [e] at p; exact p
  | bad => rw [e] at p; exact p
  | ex y ρ' =>
    rw [e] at p
    intro σ' H' F' ev
    cases hy : ys.contains y with
    | false =>
      simp only [hy] at p
      exact (show False from p).elim
    | true =>
      simp only [hy, if_true] at p
      have hyx := hys y (by simpa using hy)
      rw [G.cl y]
      refine ⟨subX y x, by rw [hf.fx.K]; exact G.exm y x hyx hx, fun ht a ha => ?_, fun hff => ?_⟩
      · rw [ht, if_pos rfl] at p
        cases eg : get ρ' i with
        | ex z => exact absurd eg get_noex
        | bad => rw [eg] at p; exact (show False from p).elim
        | ok d =>
          rw [eg, thenS_ok] at p
          have eg := get_ok eg
          obtain ⟨v, h1, _, _⟩ := F'.base.at0 i d eg
          refine ⟨v, h1, p v H' F'.sam (fun Y hyy => ?_) fun z => ?_⟩
          · obtain ⟨v', h1', h2', h3'⟩ := (F'.ret hyy).at0 i d eg
            rw [h1] at h1'; cases h1'
            exact h3' (by simp)
          · rw [hfr] at z; cases z
      · rw [hff, if_neg Bool.false_ne_true] at p
        have z := p σ' H' F' ev
        rw [G.cl y] at z
        exact z
/-! ### changes at a place -/
theorem FI.ownedC {K : PySem.W.Frag} {H : Hp} {σ : L2.St} {ρ : Sl} (F : FI K YY O H0 H σ ρ) {i : Nat} (hi : i ∈ O) {d : D} (hd : d.isCon = true) (e : ρ[i]? = some (some d)) :
    ∃ a u, σ[i]? = some (some (.ref a)) ∧ H a = some u ∧ Con u ∧ ∀ Y, YY Y → Cn K (zz Y O σ ρ) H d u := by
  obtain ⟨v, h1, h2, _⟩ := (F.sl Em F.em).at0 i _ e
  obtain ⟨a, u, e1, r, cu, q⟩ := h2.cn hd
  subst e1
  obtain ⟨_, u', f1, f2⟩ := F.fresh i hi a _ h1 e hd
  refine ⟨a, u', h1, f1, f2, fun Y hy => ?_⟩
  obtain ⟨v, h1', h2, _⟩ := (F.sl Y hy).at0 i _ e
  rw [h1] at h1'; cases h1'
  obtain ⟨a', w, e1, r', cw, q'⟩ := h2.cn hd
  cases e1
  have z := rd_one cw f2 r' (.inl f1)
  subst z
  exact q'
theorem s_sput (hf : FxS Γ n N sc X) {i : Nat} {x : Str} {k e : E} {kx v : Expr} {p p2 : Pos} (hN : N[i]? = some x) (hv : visB sc x = true) (hd : dbgB x = true) (hi : i ∈ O) (h0 : lv O e = 0) (he : PE X v (spE Γ c W e)) (hk : PE X kx (spE Γ c W k))
    (hsw : swapsWith v (some (.Subscript (.Name x p) kx p2)) pos.line X.env = pure false) : PS X (.Assign [.Subscript (.Name x p) kx p2] v pos) (spS Γ c W O YY H0 fr (.sput i k e)) := by
  obtain ⟨d1, d2, d3⟩ := dbg_of hd
  have ps : PS X (.Assign [.Subscript (.Name x p) kx p2] v pos) (fun D σ H => spE Γ c W e σ H fun vv H1 => ∃ o, σ[i]? = some (some o) ∧ spE Γ c W k σ H1 fun y H2 => rSetL o y vv H2 (fun H3 => D.nx σ H3) ∨ rSetD o y vv H2 (fun H3 => D.nx σ H3)) := by
    refine ⟨fun pins s σ H D J h => ?_⟩
    refine wpAny_Assign_Subscript (thn (he.run pins s σ H _ J h) fun r s1 ⟨vv, H1, J1, rv, o, ho, q1⟩ => ?_) hsw
    refine thn ((pe_var (X := X) (by rw [hf.fx.eN]; exact hN) (vis_of hf.fx hv) d1 d2).run pins s1 σ H1 (fun v' H' => v' = o ∧ H' = H1) J1 ⟨o, ho, rfl, rfl⟩) fun ou s2 ⟨o', H1', J2, ro, e1, e2⟩ => ?_
    subst e1 e2
    refine thn (hk.run pins s2 σ H1' _ J2 q1) fun iu s3 ⟨y, H2, J3, ry, q⟩ => ?_
    rcases q with q | q
    · exact wpAny_mono (set_list pins s3 σ H2 o' y vv ou iu r _ J3 ro ry rv q) (fun _ s4 ⟨H3, J4, q4⟩ => ⟨σ, H3, J4, q4⟩) fun _ _ z => z
    · exact wpAny_mono (set_dict (by have := hf.fx.units; omega) pins s3 σ H2 o' y vv ou iu r _ J3 ro ry rv q) (fun _ s4 ⟨H3, J4, q4⟩ => ⟨σ, H3, J4, q4⟩) fun _ _ z => z
  refine PS.mono ps fun Dd σ H q => ?_
  obtain ⟨ρ, F, p⟩ := q
  have p : Post Γ W O YY H0 fr Dd H σ ρ (thenS ρ (evE c e ρ) fun d => thenS ρ (get ρ i) fun o => thenS ρ (evE c k ρ) fun y => (match putR o y d with
    | some o' => .nx (ρ.set i (some o'))
    | none => .bad)) := p
  refine ex_in F p fun d _ p vv H1 s1 F1 r0 _ _ => ?_
  cases eg : get ρ i with
  | ex z => exact absurd eg get_noex
  | bad => rw [eg] at p; exact (show False from p).elim
  | ok o =>
    rw [eg, thenS_ok] at p
    have eg := get_ok eg
    obtain ⟨ov, ho, _⟩ := F1.base.at0 i o eg
    refine ⟨ov, ho, ?_⟩
    have p := Post.evo (Evo.of_same s1) p
    refine ex_in F1 p fun y _ p yv H2 s2 F2 _ ry _ => ?_
    cases ep : putR o y d with
    | none => rw [ep] at p; exact (show False from p).elim
    | some o' =>
      rw [ep] at p
      have hcon : o.isCon = true := by
        cases o with
        | lst _ => rfl
        | dct _ _ => rfl
        | _ => cases ep
      obtain ⟨a, u, h1, h2, cu, h3⟩ := F1.ownedC hi hcon eg
      rw [ho] at h1; cases h1
      have ry := ry Em F.em
      have rd : ∀ Y, YY Y → Rp Γ.K (zz Y O σ ρ) H2 d vv := fun Y hy => (r0 h0 Y hy).same s2
      cases o with
      | lst ds =>
        cases u with
        | lst xs =>
          cases y with
          | int j =>
            have ep : (Pw.ixN ds.length j).map (fun m => D.lst (ds.set m d)) = some o' := ep
            obtain ⟨m, em, rfl⟩ := Option.map_eq_some_iff.mp ep
            have hy : yv = .int j := ry
            subst hy
            have hl : ds.length = xs.length := (show RpL _ _ _ ds xs from h3 Em F.em).length
            obtain ⟨F3, ev3⟩ := F2.updC (d' := .lst (ds.set m d)) (u' := .lst (xs.set m vv)) hi ho eg rfl fun Y hy => RpL.set m ((h3 Y hy).to (Mv.same s2)) (rd Y hy)
            exact .inl ⟨a, xs, j, m, rfl, rfl, s2 _ _ h2, by rw [← hl]; exact em, p _ _ F3 ((Evo.of_same s2).trans ev3)⟩
          | _ => cases ep
        | _ => exact ((h3 Em F.em)).elim
      | dct ks vs =>
        cases u with
        | dK kvs =>
          have ep : (if isKey y && Nat.blt ks.length LIM then some (D.dct (dputK y ks) (dputV y d ks vs)) else none) = some o' := ep
          split at ep
          · rename_i hc
            cases ep
            simp only [Bool.and_eq_true] at hc
            obtain ⟨kk, rfl, rfl, lk⟩ := key_of_rp hc.1 ry.relax
            have e0 : ks = kDs kvs := (h3 Em F.em).1
            subst e0
            refine .inr ?_
            have hlen : kvs.length < sizeLine := by
              have := hc.2
              rw [Nat.blt_eq, List.length_map] at this
              rw [sizeLine_eq]; exact this
            obtain ⟨F3, ev3⟩ := F2.updC (d' := .dct (dputK (kD kk) (kDs kvs)) (dputV (kD kk) d (kDs kvs) vs)) (u' := .dK (putK kvs kk vv)) hi ho eg rfl fun Y hy => by
              obtain ⟨_, q2, q3⟩ := (h3 Y hy).to (Mv.same s2)
              exact ⟨(putK_keys kvs kk vv).symm, fun t mt => key_len q2 lk mt, putK_vals kk (rd Y hy) q3⟩
            exact ⟨a, _, rfl, DPut.k (s2 _ _ h2) hlen, p _ _ F3 ((Evo.of_same s2).trans ev3)⟩
          · cases ep
        | _ => exact ((h3 Em F.em)).elim
      | _ => cases hcon

/-! ### x.pop(k) of a dict, x.remove(e) of a list -/
theorem s_dpop (hf : FxS Γ n N sc X) {i : Nat} {x : Str} {k : E} {kx : Expr} {p1 p2 cpos : Pos} (hN : N[i]? = some x) (hv : visB sc x = true) (hd : dbgB x = true) (hi : i ∈ O) (hk : PE X kx (spE Γ c W k)) (hline : (p2.endLine == cpos.line) = true)
    (st : ∀ es, starEach (kx :: es) X.env = (false, eval kx X.env) :: starEach es X.env) : PS X (.Expr (.Call (.Attribute (.Name x p1) "pop" p2) [kx] [] cpos) pos) (spS Γ c W O YY H0 fr (.dpop i k)) := by
  obtain ⟨d1, d2, d3⟩ := dbg_of hd
  refine PS.mono (ps_expr (pe_dpop1 (pe_var (by rw [hf.fx.eN]; exact hN) (vis_of hf.fx hv) d1 d2) hk (m1_of rfl st hline)) rfl) fun Dd σ H q => ?_
  obtain ⟨ρ, F, p⟩ := q
  have p : Post Γ W O YY H0 fr Dd H σ ρ (thenS ρ (get ρ i) fun o => (match o with
    | .dct ks vs => thenS ρ (evE c k ρ) fun y => if isKey y && dhas y ks then .nx (ρ.set i (some (.dct (ddropK y ks) (ddropV y ks vs)))) else .bad
    | _ => .bad)) := p
  cases eg : get ρ i with
  | ex z => exact absurd eg get_noex
  | bad => rw [eg] at p; exact (show False from p).elim
  | ok o =>
    rw [eg, thenS_ok] at p
    have eg := get_ok eg
    cases o with
    | dct ks vs =>
      obtain ⟨a, u, h1, h2, cu, h3⟩ := F.ownedC hi rfl eg
      cases u with
      | dK kvs =>
        have e0 : ks = kDs kvs := (h3 Em F.em).1
        subst e0
        refine ⟨.ref a, h1, a, rfl, .inl ⟨kvs, .inl h2⟩, ?_⟩
        refine ex_in F p fun y _ p yv H2 s2 F2 _ ry _ => ?_
        split at p
        · rename_i hc
          simp only [Bool.and_eq_true] at hc
          obtain ⟨kk, rfl, rfl, lk⟩ := key_of_rp hc.1 (ry Em F.em).relax
          have hs : (valV kvs kk).isSome = true := by
            have z := (dfind_ok kk (h3 Em F.em).2.2).2.2
            rw [← z]; exact hc.2
          obtain ⟨w, hw⟩ := Option.isSome_iff_exists.mp hs
          obtain ⟨F3, ev3⟩ := F2.updC (d' := .dct (ddropK (kD kk) (kDs kvs)) (ddropV (kD kk) (kDs kvs) vs)) (u' := .dK (dropK kvs kk)) hi h1 eg rfl fun Y hy => by
            obtain ⟨_, q2, q3⟩ := (h3 Y hy).to (Mv.same s2)
            exact ⟨(dropK_keys kvs kk).symm, fun t mt => q2 t (List.mem_filter.mp mt).1, dropK_vals kk q3⟩
          exact ⟨kvs, kk, w, s2 _ _ h2, rfl, hw, p _ _ F3 ((Evo.of_same s2).trans ev3)⟩
        · exact (show False from p).elim
      | _ => exact ((h3 Em F.em)).elim
    | _ => exact (show False from p).elim
def rRemD (K : PySem.W.Frag) : V → List V → Hp → VK → Prop := fun x xs H Q => ∃ (a : Addr) (ds : List D) (zs : List V) (y : D) (yv : V) (j : Nat), x = .ref a ∧ xs = [yv] ∧ H a = some (.lst zs) ∧ RpL K Em H ds zs ∧ RpR K Em H y yv ∧ y.flat = true ∧ D.plainL ds = true ∧ (ds.findIdx? fun z => z.eqv y) = some j ∧ Q .non (upd H a (.lst (zs.eraseIdx j)))
theorem mt_rem (hu : X.A.units + 100 < cLine) : MtR X "list.remove" (rRemD X.K) := by
  intro pins s σ H x xs v us Q J rx rxs h
  obtain ⟨a, ds, zs, y, yv, j, rfl, rfl, ha, g, hy, fy, p2, ej, q⟩ := h
  cases rx
  obtain ⟨u, rfl, ru⟩ := rxs.one
  obtain ⟨p1, d1⟩ := flat_ok fy
  obtain ⟨bs, ry⟩ := Rp.reads J y yv u p1 hy ru
  obtain ⟨hz, its, n, rv, ho⟩ := J.hok a _ ha
  obtain ⟨as, rs⟩ := RpL.reads J ds zs its p2 g rv
  have hl : s.heap.IsList a its.toArray := ⟨_, ho, rfl, n, rfl⟩
  have hlen : its.length = zs.length := rv.length.symm
  have hroom : X.A.units + 1 + min (PyData.depthAll (D.pyL ds)) y.py.depth < cLine := by
    rw [py_dep y]
    have := Nat.min_le_right (PyData.depthAll (D.pyL ds)) y.dep
    omega
  have e2 : SeqAt.dataPlace (D.pyL ds) y.py = some j := by rw [findIdx_py y p1 ds p2]; exact ej
  have hj : j < its.length := by
    obtain ⟨h1, _⟩ := SeqAt.hit_at (vs := its.toArray) (by simpa using rs) (py_plainL ds p2) e2
    simpa using h1
  refine SeqAt.remove_list_data hl (by simpa using rs) ry (py_plainL ds p2) (py_plain y p1) hroom e2 (by rw [List.size_toArray]; omega) ?_
  refine ⟨.non, _, J.lstUpd (its' := its.eraseIdx j) (n' := n + 1) ha ho ?_ ?_ (Nat.le_trans (List.length_eraseIdx_le zs j) hz) s.toks, rfl, q⟩
  · simp [Obj.mapSeq, Array.eraseIdxIfInBounds, hj, List.length_eraseIdx]
    omega
  · clear rs ho hl hlen hj e2 ej g ry ru hy
    exact erase_vals rv j
theorem s_rem (hf : FxS Γ n N sc X) {i : Nat} {x : Str} {e : E} {v : Expr} {p1 p2 cpos : Pos} (hN : N[i]? = some x) (hv : visB sc x = true) (hd : dbgB x = true) (hi : i ∈ O) (he : PE X v (spE Γ c W e)) (hline : (p2.endLine == cpos.line) = true)
    (st : ∀ es, starEach (v :: es) X.env = (false, eval v X.env) :: starEach es X.env) : PS X (.Expr (.Call (.Attribute (.Name x p1) "remove" p2) [v] [] cpos) pos) (spS Γ c W O YY H0 fr (.rem i e)) := by
  obtain ⟨d1, d2, d3⟩ := dbg_of hd
  refine PS.mono (ps_expr (pe_bm PySem.F.plainAttrs_list PySem.F.slot_list_remove PySem.F.type_list_remove (mt_rem hf.fx.units) (pe_var (by rw [hf.fx.eN]; exact hN) (vis_of hf.fx hv) d1 d2) (pa_cons he pa_nil (st [])) rfl (by rw [st []]; rfl) hline (st []) rfl) rfl) fun Dd σ H q => ?_
  obtain ⟨ρ, F, p⟩ := q
  have p : Post Γ W O YY H0 fr Dd H σ ρ (thenS ρ (get ρ i) fun o => (match o with
    | .lst xs => thenS ρ (evE c e ρ) fun y => if y.flat && D.plainL xs then (match xs.findIdx? fun z => z.eqv y with
      | some j => .nx (ρ.set i (some (.lst (xs.eraseIdx j))))
      | none => .bad) else .bad
    | _ => .bad)) := p
  cases eg : get ρ i with
  | ex z => exact absurd eg get_noex
  | bad => rw [eg] at p; exact (show False from p).elim
  | ok o =>
    rw [eg, thenS_ok] at p
    have eg := get_ok eg
    cases o with
    | lst ds =>
      obtain ⟨a, xs, h1, h2, h3⟩ := F.owned hi eg
      refine ⟨.ref a, h1, .inl ⟨rfl, xs, .inl (.inl h2)⟩, ex_in F p fun y _ p yv H2 s2 F2 _ ry _ => ?_⟩
      split at p
      · rename_i hc
        simp only [Bool.and_eq_true] at hc
        split at p
        · rename_i j ej
          obtain ⟨F3, ev3⟩ := F2.updO (ds' := ds.eraseIdx j) (xs' := xs.eraseIdx j) hi h1 eg fun Y hy => ((h3 Y hy).same s2).erase j
          exact ⟨a, ds, xs, y, yv, j, rfl, rfl, s2 _ _ h2, by rw [hf.fx.K]; exact ((h3 Em F.em).same s2).weak (fun _ z => z.elim), by rw [hf.fx.K]; exact (ry Em F.em).relax, hc.1, hc.2, ej, p _ _ F3 ((Evo.of_same s2).trans ev3)⟩
        · exact (show False from p).elim
      · exact (show False from p).elim
    | _ => exact (show False from p).elim
end
end Pw

/-! text PwZ3 -/
/-! the check of statements, and that it suffices -/
namespace Pw
open PySem PySem.Spec PyProof.Rows L2

def isLc : Expr → Bool
  | .ListComp _ _ _ _ => true
  | .SetComp _ _ _ _ => true
  | .DictComp _ _ _ _ _ => true
  | _ => false
def isTupE : Expr → Bool
  | .Tuple _ _ _ => true
  | _ => false
def swB (sc : Scope) (x : Str) (p : Pos) (vp : Pos) (s : Scope) : Bool := (sc.names.lookup x == some .local) && (p.line == vp.line) && !(s.names.any fun q => q.1 == x && (q.2 == .local || q.2 == .cell))
def varIn (O : List Nat) : E → Bool
  | .var i => O.contains i
  | _ => false
mutual
def chkS (tb : Tb) (fo : Nat → Option Fn) (N : List Str) (O : List Nat) (fr : Bool) (sc : Scope) : S → Stmt → Bool
  | .asg i e, st => (match st with
    | .Assign [.Name x p] v pos => decide (N[i]? = some x) && locB sc x && decide (lv O e = 0) && (!O.contains i || frE fo e) && chkE tb N e sc v
    | _ => false)
  | .asgT is e, st => (match is, e, st with
    | [i, j], .tup (.cons a (.cons b .nil)), .Assign [.Tuple [.Name x px, .Name y py] kt pt] (.Tuple [u, v] k2 pt2) pos => decide (N[i]? = some x) && decide (N[j]? = some y) && (sc.names.lookup x == some .local) && (sc.names.lookup y == some .local) && !decide (x = y) && decide (py.line = px.line) && !O.contains i && !O.contains j && decide (lv O a = 0) && decide (lv O b = 0) && !foldedForSure 8 u && !constantsAlone 8 u && chkE tb N a sc u && chkE tb N b sc v
    | _, _, _ => (match st with
      | .Assign [.Tuple es k p] v pos => nmsB N sc is es && decide (lv O e = 0) && apartB O is && !isTupE v && !isLc v && chkE tb N e sc v
      | _ => false))
  | .expr e, st => (match st with
    | .Expr v pos => !isLc v && chkE tb N e sc v
    | _ => false)
  | .ret e, st => (match st with
    | .Return (some v) pos => (!fr || frE fo e || varIn O e) && chkE tb N e sc v
    | _ => false)
  | .ife t a b, st => (match st with
    | .If x y z pos => chkE tb N t sc x && chkSs tb fo N O fr sc a y && chkSs tb fo N O fr sc b z
    | _ => false)
  | .for tg it body, st => (match st with
    | .For tge ite bd [] pos => tgB N sc tg tge && decide (lvI O it = 0) && apartB O (tgIx tg) && chkI tb N it sc tge ite && chkSs tb fo N O fr sc body bd
    | _ => false)
  | .whl m t body, st => (match st with
    | .While x bd [] pos => chkE tb N t sc x && chkSs tb fo N O fr sc body bd
    | _ => false)
  | .brk, st => (match st with
    | .Break _ => true
    | _ => false)
  | .ct, st => (match st with
    | .Continue _ => true
    | _ => false)
  | .pass, st => (match st with
    | .Pass _ => true
    | _ => false)
  | .raise _ x, st => (match st with
    | .Raise (some (.Call (.Name t p) [.Constant (.str m) j p2] [] cp)) none pos => decide (t = tx x) && tb.xs.contains x && gloB sc t && dbgB t
    | _ => false)
  | .tryK b ys x i k, st => (match st with
    | .Try body [.ExceptHandler (some (.Name t np)) (some nn) [.Assign [.Name kx kp] (.Name nn2 ep) ap] pos'] [] [] pos => decide (t = tx x) && tb.xs.contains x && ys.all (fun y => tb.xs.contains y) && gloB sc t && dbgB t && decide (N[i]? = some nn) && (sc.names.lookup nn == some .local) && decide (N[k]? = some kx) && (sc.names.lookup kx == some .local) && dbgB nn && !O.contains i && !O.contains k && !decide (i = k) && decide (nn2 = nn) && chkSs tb fo N O fr sc b body
    | _ => false)
  | .tryV b ys x i, st => (match st with
    | .Try body [.ExceptHandler (some (.Name t np)) none [.Return (some (.Name vx vp)) ap] pos'] [] [] pos => decide (t = tx x) && tb.xs.contains x && ys.all (fun y => tb.xs.contains y) && gloB sc t && dbgB t && decide (N[i]? = some vx) && visB sc vx && dbgB vx && !fr && chkSs tb fo N O fr sc b body
    | _ => false)
  | .sput i k e, st => (match st with
    | .Assign [.Subscript (.Name x p) kx p2] v pos => decide (N[i]? = some x) && visB sc x && dbgB x && O.contains i && decide (lv O e = 0) && !isLc v && chkE tb N e sc v && chkE tb N k sc kx
    | _ => false)
  | .dpop i k, st => (match st with
    | .Expr (.Call (.Attribute (.Name x p1) m p2) [kx] [] cpos) pos => decide (m = ("pop" : Str)) && decide (N[i]? = some x) && visB sc x && dbgB x && O.contains i && (p2.endLine == cpos.line) && chkE tb N k sc kx
    | _ => false)
  | .rem i e, st => (match st with
    | .Expr (.Call (.Attribute (.Name x p1) m p2) [v] [] cpos) pos => decide (m = ("remove" : Str)) && decide (N[i]? = some x) && visB sc x && dbgB x && O.contains i && (p2.endLine == cpos.line) && chkE tb N e sc v
    | _ => false)
  | .bad, _ => true
  | .par i j u v, st => (match st with
    | .Assign [.Tuple [.Name x px, .Name y py] kt pt] (.Tuple [.Name a pa, .Name b pb] k2 pt2) pos => decide (N[i]? = some x) && decide (N[j]? = some y) && decide (N[u]? = some a) && decide (N[v]? = some b) && (sc.names.lookup x == some .local) && (sc.names.lookup y == some .local) && visB sc a && visB sc b && dbgB a && dbgB b && !decide (x = y) && (py.line == px.line) && !O.contains i && !O.contains j && !O.contains u && !O.contains v
    | _ => false)
  | .appPop i j e, st => (match st with
    | .Expr (.Call (.Attribute (.Name x p1) m p2) [.Call (.Attribute (.Name y p3) m2 p4) [v] [] cpos2] [] cpos) pos => decide (m = ("append" : Str)) && decide (m2 = ("pop" : Str)) && decide (N[i]? = some x) && visB sc x && dbgB x && O.contains i && decide (N[j]? = some y) && visB sc y && dbgB y && O.contains j && !decide (i = j) && decide (lv O e = 0) && (p2.endLine == cpos.line) && (p4.endLine == cpos2.line) && chkE tb N e sc v
    | _ => false)
  | .app i e, st => (match st with
    | .Expr (.Call (.Attribute (.Name x p1) m p2) [v] [] cpos) pos => decide (m = ("append" : Str)) && decide (N[i]? = some x) && visB sc x && dbgB x && O.contains i && decide (lv O e = 0) && (p2.endLine == cpos.line) && chkE tb N e sc v
    | _ => false)
  | .ext i e, st => (match st with
    | .Expr (.Call (.Attribute (.Name x p1) m p2) [v] [] cpos) pos => decide (m = ("extend" : Str)) && decide (N[i]? = some x) && visB sc x && dbgB x && O.contains i && decide (lv O e ≤ 1) && (p2.endLine == cpos.line) && chkE tb N e sc v
    | _ => false)
def chkSs (tb : Tb) (fo : Nat → Option Fn) (N : List Str) (O : List Nat) (fr : Bool) (sc : Scope) : Ss → List Stmt → Bool
  | .nil, xs => xs.isEmpty
  | .cons s ss, xs => (match xs with
    | x :: r => chkS tb fo N O fr sc s x && chkSs tb fo N O fr sc ss r
    | [] => false)
end

section
variable {tb : Tb} {N : List Str} {sc : Scope}
theorem sw_no {v : Expr} {t : Option Expr} {l : Nat} {env : Env} (h : isLc v = false) : swapsWith v t l env = pure false := by
  cases v with
  | ListComp => cases h
  | SetComp => cases h
  | DictComp => cases h
  | _ => rfl
theorem sole_no {v t : Expr} {l : Nat} {env : Env} (h : isLc v = false) : swapsWithSole [t] v l env = pure false := by
  unfold swapsWithSole
  exact sw_no h
theorem sw_lc {el : Expr} {gs : List Comprehension} {s : Scope} {vp p : Pos} {x : Str} {l : Nat} {env : Env} (hk : env.scope.kind = .function) : swapsWith (.ListComp el gs s vp) (some (.Name x p)) l env = pure (swB env.scope x p vp s) := by
  have e : env.blockKind = .function := by
    unfold Env.blockKind
    rw [hk]
    rfl
  show (pure (env.blockKind == .function && env.kindOf x == some .local && p.line == vp.line && !(s.names.any fun (n, k) => n == x && (k == .local || k == .cell))) : Sem Bool) = _
  rw [e]
  rfl
theorem sto_no {ts : List Expr} {k : Nat} {p : Pos} {v : Expr} {env : Env} (h : isTupE v = false) : swappedStores [.Tuple ts k p] v env = pure none := by
  cases v with
  | Tuple => cases h
  | _ => rfl
theorem chk_lc {a : E} {e : Expr} (h : chkE tb N a sc e = true) (hl : isLc e = true) : ∃ elt tg it cond el tge ite ifs scope p, a = .comp elt tg it cond ∧ e = .ListComp el [⟨tge, ite, ifs, 0⟩] scope p ∧ nodupB (tgIx tg) = true ∧ blkC N sc scope (ownOf N (tgIx tg)) = true ∧ (ownOf N (tgIx tg)).map (·.2) = tgIx tg ∧ tgB N scope tg tge = true ∧ chkI tb N it sc tge ite = true ∧ chkC tb N cond (relS scope sc) ifs = true ∧ chkE tb N elt (relS scope sc) el = true := by
  have no : (∀ elt tg it cond, a ≠ .comp elt tg it cond) → False := fun na => by
    cases a with
    | comp elt tg it cond => exact na _ _ _ _ rfl
    | lit d => cases e <;> (first | (cases hl; done) | (cases d <;> cases h))
    | prim p es => cases e <;> (first | (cases hl; done) | (cases p <;> (cases es with
      | nil => cases h
      | cons a es => cases es with
        | nil => cases h
        | cons b es => cases es <;> cases h)))
    | _ => cases e <;> (first | (cases hl; done) | cases h)
  cases a with
  | comp elt tg it cond =>
    unfold chkE at h
    split at h
    · rename_i el tge ite ifs as scope p
      simp only [Bool.and_eq_true, decide_eq_true_eq] at h
      obtain ⟨⟨⟨⟨⟨⟨⟨rfl, h1⟩, h2⟩, h3⟩, h4⟩, h5⟩, h6⟩, h7⟩ := h
      exact ⟨elt, tg, it, cond, el, tge, ite, ifs, scope, p, rfl, rfl, h1, h2, h3, h4, h5, h6, h7⟩
    · cases h
  | _ => exact (no fun _ _ _ _ z => by cases z).elim
end

section
variable {Γ : Ctx} {c : Nat → List D → R D} {W : WX} {n : Nat} {N : List Str} {sc : Scope} {X : Cx} {O : List Nat} {YY : (Addr → Prop) → Prop} {H0 : Hp} {fr : Bool}
theorem pg_def (hf : FxS Γ n N sc X) {tg : Tg} {e : Expr} (h : tgB N sc tg e = true) : PG X e (spG X.K tg) :=
  pg_tg (by rw [hf.fx.eN]; exact hf.fx.nd) hf.fx.calm (stot_by (fun i x a b => sto_def hf a b) h)
theorem few_ok {a : E} {v : Expr} {cpos : Pos} (h : chkE Γ.tb N a sc v = true) : ((backTo cpos (starEach [v] X.env)).all (fun x => !x.1) && (backToKw cpos (keywordEach [] X.env)).all (fun x => x.1.isSome) && decide ([v].length + ([] : List Keyword).length + (if ([] : List Keyword).isEmpty then 0 else 1) < 30)) = true := by
  rw [star_ok h X.env []]
  rfl
mutual
theorem soS (G : Gk Γ) (C : Cok Γ n c) : ∀ (a : S) (X : Cx) (W : WX) (st : Stmt), FxS Γ n N sc X → Takes X W → chkS Γ.tb Γ.fnOf N O fr sc a st = true → PS X st (spS Γ c W O YY H0 fr a)
  | .asg i e, X, W, st, hf, tk, h => by
    unfold chkS at h
    split at h
    · rename_i x p v pos
      simp only [Bool.and_eq_true, decide_eq_true_eq] at h
      obtain ⟨⟨⟨⟨h1, h2⟩, h3⟩, h4⟩, h5⟩ := h
      have h4 : O.contains i = true → frE Γ.fnOf e = true := fun z => by
        rcases Bool.or_eq_true_iff.mp h4 with h4 | h4
        · rw [z] at h4; cases h4
        · exact h4
      by_cases hl : isLc v = true
      · obtain ⟨elt, tg, it, cond, el, tge, ite, ifs, scope, vp, rfl, rfl, g1, g2, g3, g4, g5, g6, g7⟩ := chk_lc h5 hl
        have sw := sw_lc (el := el) (gs := [⟨tge, ite, ifs, 0⟩]) (s := scope) (vp := vp) (p := p) (x := x) (l := pos.line) (env := X.env) (by rw [hf.fx.eS]; exact hf.kd)
        cases hw : swB X.env.scope x p vp scope with
        | true =>
          rw [hw] at sw
          obtain ⟨pi, pf⟩ := soI G C it sc X tge ite W g5 hf.fx tk
          have hw : swB sc x p vp scope = true := by rw [← hf.fx.eS]; exact hw
          unfold swB at hw
          simp only [Bool.and_eq_true, beq_iff_eq] at hw
          refine s_asgLc hf h1 hw.1.1 h3 sw pi (by rw [hf.fx.eN, hf.fx.eS]; exact blkOk_by g2) g3
            (fun s H Cc cl fp => by
              have z := pg_tg (X := X.blk s H scope (compEnvC scope cl Cc X.env) fp) (by show X.N.Nodup; rw [hf.fx.eN]; exact hf.fx.nd) hf.fx.calm (stot_by (fun i x a b => sto_blk hf.fx s H scope cl Cc fp a b) g4)
              have e : (X.blk s H scope (compEnvC scope cl Cc X.env) fp).K = Γ.K := hf.fx.K
              rw [e] at z
              exact z)
            (fun s H Cc cl fp => soC G C cond (relS scope sc) _ ifs W0 g6 (hf.fx.blk s H scope cl Cc fp) takes0)
            (fun s H Cc cl fp => (soE G C elt (relS scope sc) _ el W0 g7 (hf.fx.blk s H scope cl Cc fp) takes0).1) (pf X.env)
        | false =>
          rw [hw] at sw
          exact s_asg hf h1 h2 h3 h4 (soE G C _ sc X _ W h5 hf.fx tk).1 sw
      · exact s_asg hf h1 h2 h3 h4 (soE G C e sc X _ W h5 hf.fx tk).1 (sw_no (by simpa using hl))
    · cases h
  | .asgT is e, X, W, st, hf, tk, h => by
    unfold chkS at h
    split at h
    · rename_i i j a b x px y py kt pt u v k2 pt2 pos
      simp only [Bool.and_eq_true, decide_eq_true_eq, Bool.not_eq_true', beq_iff_eq, decide_eq_false_iff_not] at h
      obtain ⟨⟨⟨⟨⟨⟨⟨⟨⟨⟨⟨⟨⟨h1, h2⟩, h3⟩, h4⟩, h5⟩, h6⟩, h7⟩, h8⟩, h9⟩, h10⟩, h11⟩, h12⟩, h13⟩, h14⟩ := h
      exact s_parE hf h1 h2 h3 h4 h5 h6 (by simpa using h7) (by simpa using h8) h9 h10 (chk_star h13) (chk_star h14) h11 h12 (a_cons (soE G C a sc X u W h13 hf.fx tk).1 (a_cons (soE G C b sc X v W h14 hf.fx tk).1 a_nil (star_ok h14 X.env [])) (star_ok h13 X.env [v]))
    split at h
    · simp only [Bool.and_eq_true, decide_eq_true_eq, Bool.not_eq_true'] at h
      obtain ⟨⟨⟨⟨⟨h1, h2⟩, h3⟩, h4⟩, h5⟩, h6⟩ := h
      exact s_asgT hf (pg_def hf (tg := .tp is) h1) h2 h3 (soE G C e sc X _ W h6 hf.fx tk).1 (sole_no h5) (sto_no h4) rfl
    · cases h
  | .expr e, X, W, st, hf, tk, h => by
    unfold chkS at h
    split at h
    · simp only [Bool.and_eq_true, Bool.not_eq_true'] at h
      exact s_expr hf (soE G C e sc X _ W h.2 hf.fx tk).1 (sw_no h.1)
    · cases h
  | .ret e, X, W, st, hf, tk, h => by
    unfold chkS at h
    split at h
    · rename_i v pos
      simp only [Bool.and_eq_true] at h
      obtain ⟨h1, h2⟩ := h
      by_cases hv : varIn O e = true
      · cases e with
        | var i =>
          unfold chkE at h2
          split at h2
          · simp only [Bool.and_eq_true, decide_eq_true_eq] at h2
            exact s_retV hf h2.1.1 h2.1.2 h2.2 (by simpa [varIn] using hv)
          · cases h2
        | _ => cases hv
      · refine s_ret hf (fun z => ?_) (soE G C e sc X _ W h2 hf.fx tk).1
        rw [z] at h1
        simpa [hv] using h1
    · cases h
  | .ife t a b, X, W, st, hf, tk, h => by
    unfold chkS at h
    split at h
    · simp only [Bool.and_eq_true] at h
      exact s_if (soE G C t sc X _ W h.1.1 hf.fx tk).2 (soSs G C a X W _ hf tk h.1.2) (soSs G C b X W _ hf tk h.2)
    · cases h
  | .for tg it body, X, W, st, hf, tk, h => by
    unfold chkS at h
    split at h
    · simp only [Bool.and_eq_true, decide_eq_true_eq] at h
      obtain ⟨⟨⟨⟨h1, h2⟩, h3⟩, h4⟩, h5⟩ := h
      obtain ⟨pi, pf⟩ := soI G C it sc X _ _ W h4 hf.fx tk
      exact s_for hf (pg_def hf h1) h2 h3 pi (soSs G C body X W _ hf tk h5) (pf X.env)
    · cases h
  | .whl m t body, X, W, st, hf, tk, h => by
    unfold chkS at h
    split at h
    · simp only [Bool.and_eq_true] at h
      exact s_whl hf (soE G C t sc X _ W h.1 hf.fx tk).2 (soSs G C body X W _ hf tk h.2)
    · cases h
  | .brk, X, W, st, hf, tk, h => by
    unfold chkS at h
    split at h
    · exact s_brk
    · cases h
  | .ct, X, W, st, hf, tk, h => by
    unfold chkS at h
    split at h
    · exact s_ct
    · cases h
  | .pass, X, W, st, hf, tk, h => by
    unfold chkS at h
    split at h
    · exact s_pass
    · cases h
  | .raise _ x, X, W, st, hf, tk, h => by
    unfold chkS at h
    split at h
    · simp only [Bool.and_eq_true, decide_eq_true_eq] at h
      obtain ⟨⟨⟨rfl, h1⟩, h2⟩, h3⟩ := h
      exact s_raise hf G tk (by simpa using h1) h2 h3
    · cases h
  | .tryK b ys x i k, X, W, st, hf, tk, h => by
    unfold chkS at h
    split at h
    · simp only [Bool.and_eq_true, decide_eq_true_eq, Bool.not_eq_true', beq_iff_eq, decide_eq_false_iff_not, List.all_eq_true] at h
      obtain ⟨⟨⟨⟨⟨⟨⟨⟨⟨⟨⟨⟨⟨⟨rfl, h1⟩, h2⟩, h3⟩, h4⟩, h5⟩, h6⟩, h7⟩, h8⟩, h9⟩, h10⟩, h11⟩, h12⟩, rfl⟩, h14⟩ := h
      exact s_tryK hf G tk (by simpa using h1) (fun y hy => by simpa using h2 y hy) h3 h4 h5 h6 h7 h8 h9 (by simpa using h10) (by simpa using h11) h12 fun W' X' hf' tk' => soSs G C b X' W' _ hf' tk' h14
    · cases h
  | .tryV b ys x i, X, W, st, hf, tk, h => by
    unfold chkS at h
    split at h
    · simp only [Bool.and_eq_true, decide_eq_true_eq, Bool.not_eq_true', List.all_eq_true] at h
      obtain ⟨⟨⟨⟨⟨⟨⟨⟨⟨rfl, h1⟩, h2⟩, h3⟩, h4⟩, h5⟩, h6⟩, h7⟩, h8⟩, h9⟩ := h
      exact s_tryV hf G tk (by simpa using h1) (fun y hy => by simpa using h2 y hy) h3 h4 h5 h6 h7 h8 fun W' X' hf' tk' => soSs G C b X' W' _ hf' tk' h9
    · cases h
  | .sput i k e, X, W, st, hf, tk, h => by
    unfold chkS at h
    split at h
    · simp only [Bool.and_eq_true, decide_eq_true_eq, Bool.not_eq_true'] at h
      obtain ⟨⟨⟨⟨⟨⟨⟨h1, h2⟩, h3⟩, h4⟩, h5⟩, h6⟩, h7⟩, h8⟩ := h
      exact s_sput hf h1 h2 h3 (by simpa using h4) h5 (soE G C e sc X _ W h7 hf.fx tk).1 (soE G C k sc X _ W h8 hf.fx tk).1 (sw_no h6)
    · cases h
  | .dpop i k, X, W, st, hf, tk, h => by
    unfold chkS at h
    split at h
    · simp only [Bool.and_eq_true, decide_eq_true_eq] at h
      obtain ⟨⟨⟨⟨⟨⟨rfl, h1⟩, h2⟩, h3⟩, h4⟩, h5⟩, h6⟩ := h
      exact s_dpop hf h1 h2 h3 (by simpa using h4) (soE G C k sc X _ W h6 hf.fx tk).1 h5 (star_ok h6 X.env)
    · cases h
  | .rem i e, X, W, st, hf, tk, h => by
    unfold chkS at h
    split at h
    · simp only [Bool.and_eq_true, decide_eq_true_eq] at h
      obtain ⟨⟨⟨⟨⟨⟨rfl, h1⟩, h2⟩, h3⟩, h4⟩, h5⟩, h6⟩ := h
      exact s_rem hf h1 h2 h3 (by simpa using h4) (soE G C e sc X _ W h6 hf.fx tk).1 h5 (star_ok h6 X.env)
    · cases h
  | .bad, X, W, st, hf, tk, h => ⟨fun _ _ _ _ _ _ z => let ⟨_, _, q⟩ := z; (show False from q).elim⟩
  | .app i e, X, W, st, hf, tk, h => by
    unfold chkS at h
    split at h
    · simp only [Bool.and_eq_true, decide_eq_true_eq] at h
      obtain ⟨⟨⟨⟨⟨⟨⟨rfl, h1⟩, h2⟩, h3⟩, h4⟩, h5⟩, h6⟩, h7⟩ := h
      exact s_app hf h1 h2 h3 (by simpa using h4) h5 (soE G C e sc X _ W h7 hf.fx tk).1 rfl (few_ok h7) h6 (star_ok h7 X.env []) rfl
    · cases h
  | .ext i e, X, W, st, hf, tk, h => by
    unfold chkS at h
    split at h
    · simp only [Bool.and_eq_true, decide_eq_true_eq] at h
      obtain ⟨⟨⟨⟨⟨⟨⟨rfl, h1⟩, h2⟩, h3⟩, h4⟩, h5⟩, h6⟩, h7⟩ := h
      exact s_ext hf h1 h2 h3 (by simpa using h4) h5 (soE G C e sc X _ W h7 hf.fx tk).1 rfl (few_ok h7) h6 (star_ok h7 X.env []) rfl
    · cases h
  | .par i j u v, X, W, st, hf, tk, h => by
    unfold chkS at h
    split at h
    · simp only [Bool.and_eq_true, decide_eq_true_eq, Bool.not_eq_true', beq_iff_eq, decide_eq_false_iff_not] at h
      obtain ⟨⟨⟨⟨⟨⟨⟨⟨⟨⟨⟨⟨⟨⟨⟨h1, h2⟩, h3⟩, h4⟩, h5⟩, h6⟩, h7⟩, h8⟩, h9⟩, h10⟩, h11⟩, h12⟩, h13⟩, h14⟩, h15⟩, h16⟩ := h
      exact s_par hf h1 h2 h3 h4 h5 h6 h7 h8 h9 h10 h11 h12 (by simpa using h13) (by simpa using h14) (by simpa using h15) (by simpa using h16)
    · cases h
  | .appPop i j e, X, W, st, hf, tk, h => by
    unfold chkS at h
    split at h
    · simp only [Bool.and_eq_true, decide_eq_true_eq, Bool.not_eq_true', decide_eq_false_iff_not] at h
      obtain ⟨⟨⟨⟨⟨⟨⟨⟨⟨⟨⟨⟨⟨⟨rfl, rfl⟩, h1⟩, h2⟩, h3⟩, h4⟩, h5⟩, h6⟩, h7⟩, h8⟩, h9⟩, h10⟩, h11⟩, h12⟩, h13⟩ := h
      exact s_appPop hf h1 h2 h3 (by simpa using h4) h5 h6 h7 (by simpa using h8) h9 h10 (soE G C e sc X _ W h13 hf.fx tk).1 (few_ok h13) h11 h12 (star_ok h13 X.env []) rfl
    · cases h
theorem soSs (G : Gk Γ) (C : Cok Γ n c) : ∀ (a : Ss) (X : Cx) (W : WX) (st : List Stmt), FxS Γ n N sc X → Takes X W → chkSs Γ.tb Γ.fnOf N O fr sc a st = true → PSs X st (spSs Γ c W O YY H0 fr a)
  | .nil, X, W, st, hf, tk, h => by
    have h : st.isEmpty = true := h
    rw [List.isEmpty_iff] at h
    subst h
    exact ss_nil
  | .cons a as, X, W, st, hf, tk, h => by
    cases st with
    | nil => cases h
    | cons x xs =>
      have h : (chkS Γ.tb Γ.fnOf N O fr sc a x && chkSs Γ.tb Γ.fnOf N O fr sc as xs) = true := h
      rw [Bool.and_eq_true] at h
      exact ss_cons (soS G C a X W x hf tk h.1) (soSs G C as X W xs hf tk h.2)
end
end
end Pw

/-! text PwV0 -/
/-! places: which object stands at each -/
namespace Pw
open PySem PySem.Spec PyProof.Rows L2

def rng (M : List Addr) : Addr → Prop := fun a => a ∈ M
mutual
/-- v stands for d, whose places stand at the addresses of M -/
def RW (K : PySem.W.Frag) (M : List Addr) (H : Hp) : D → V → Prop
  | .loc l, v => ∃ a, M[l]? = some a ∧ v = .ref a
  | .tup ds, v => ∃ a xs, v = .ref a ∧ SqP K H ds a xs ∧ RWL K M H ds xs
  | .non, v => Rp K (rng M) H .non v
  | .bl b, v => Rp K (rng M) H (.bl b) v
  | .int b, v => Rp K (rng M) H (.int b) v
  | .str b, v => Rp K (rng M) H (.str b) v
  | .lst b, v => Rp K (rng M) H (.lst b) v
  | .dct a b, v => Rp K (rng M) H (.dct a b) v
  | .exc b, v => Rp K (rng M) H (.exc b) v
  | .ins a b e, v => Rp K (rng M) H (.ins a b e) v
def RWL (K : PySem.W.Frag) (M : List Addr) (H : Hp) : List D → List V → Prop
  | [], xs => xs = []
  | d :: ds, xs => ∃ v vs, xs = v :: vs ∧ RW K M H d v ∧ RWL K M H ds vs
end
section
variable {K : PySem.W.Frag} {M M' : List Addr} {H H' : Hp}
mutual
theorem RW.of_rp : ∀ (d : D) (v : V), Rp K (rng M) H d v → RW K M H d v
  | .loc _, _, h => (show False from h).elim
  | .tup ds, v, h => by
    obtain ⟨a, xs, e, r, q⟩ := h
    exact ⟨a, xs, e, r, RWL.of_rp ds xs q⟩
  | .non, _, h => h
  | .bl _, _, h => h
  | .int _, _, h => h
  | .str _, _, h => h
  | .lst _, _, h => h
  | .dct _ _, _, h => h
  | .exc _, _, h => h
  | .ins _ _ _, _, h => h
theorem RWL.of_rp : ∀ (ds : List D) (xs : List V), RpL K (rng M) H ds xs → RWL K M H ds xs
  | [], _, h => h
  | d :: ds, _, h => by
    obtain ⟨v, vs, e, h1, h2⟩ := h
    exact ⟨v, vs, e, RW.of_rp d v h1, RWL.of_rp ds vs h2⟩
end
mutual
theorem RW.to_rp : ∀ (d : D) (v : V), d.pl = true → RW K M H d v → Rp K (rng M) H d v
  | .loc _, _, p, _ => by cases p
  | .tup ds, v, p, h => by
    obtain ⟨a, xs, e, r, q⟩ := h
    exact ⟨a, xs, e, r, RWL.to_rp ds xs p q⟩
  | .non, _, _, h => h
  | .bl _, _, _, h => h
  | .int _, _, _, h => h
  | .str _, _, _, h => h
  | .lst _, _, _, h => h
  | .dct _ _, _, _, h => h
  | .exc _, _, _, h => h
  | .ins _ _ _, _, _, h => h
theorem RWL.to_rp : ∀ (ds : List D) (xs : List V), D.plL ds = true → RWL K M H ds xs → RpL K (rng M) H ds xs
  | [], _, _, h => h
  | d :: ds, _, p, h => by
    have p : (d.pl && D.plL ds) = true := p
    rw [Bool.and_eq_true] at p
    obtain ⟨v, vs, e, h1, h2⟩ := h
    exact ⟨v, vs, e, RW.to_rp d v p.1 h1, RWL.to_rp ds vs p.2 h2⟩
end
theorem RWL.length : ∀ {ds : List D} {xs : List V}, RWL K M H ds xs → ds.length = xs.length
  | [], _, h => by
    have h : _ = _ := h
    rw [h]; rfl
  | d :: ds, _, h => by
    obtain ⟨v, vs, e, _, h2⟩ := h
    rw [e, List.length_cons, List.length_cons, RWL.length h2]
theorem RWL.get : ∀ {ds : List D} {xs : List V} {i : Nat} {d : D}, RWL K M H ds xs → ds[i]? = some d → ∃ v, xs[i]? = some v ∧ RW K M H d v
  | [], _, _, _, _, e => by simp at e
  | d :: ds, _, 0, _, h, e => by
    obtain ⟨v, vs, rfl, h1, _⟩ := h
    simp at e
    subst e
    exact ⟨v, rfl, h1⟩
  | d :: ds, _, i + 1, _, h, e => by
    obtain ⟨v, vs, rfl, _, h2⟩ := h
    obtain ⟨u, a, b⟩ := RWL.get (i := i) h2 (by simpa using e)
    exact ⟨u, by simpa using a, b⟩
theorem RWL.append : ∀ {ds es : List D} {xs ys : List V}, RWL K M H ds xs → RWL K M H es ys → RWL K M H (ds ++ es) (xs ++ ys)
  | [], _, _, _, h, g => by
    have h : _ = _ := h
    subst h
    exact g
  | d :: ds, _, _, _, h, g => by
    obtain ⟨v, vs, rfl, h1, h2⟩ := h
    exact ⟨v, _, rfl, h1, RWL.append h2 g⟩
theorem RWL.one {d : D} {v : V} (h : RW K M H d v) : RWL K M H [d] [v] := ⟨v, [], rfl, h, rfl⟩
theorem RWL.set : ∀ {ds : List D} {xs : List V} (m : Nat) {d : D} {v : V}, RWL K M H ds xs → RW K M H d v → RWL K M H (ds.set m d) (xs.set m v)
  | [], _, m, _, _, h, _ => by
    have h : _ = _ := h
    subst h
    simp [RWL]
  | d :: ds, _, 0, _, _, h, g => by
    obtain ⟨v, vs, rfl, _, h2⟩ := h
    exact ⟨_, _, rfl, g, h2⟩
  | d :: ds, _, m + 1, _, _, h, g => by
    obtain ⟨v, vs, rfl, h1, h2⟩ := h
    exact ⟨v, _, rfl, h1, RWL.set m h2 g⟩
theorem RWL.atI {ds : List D} {xs : List V} {i : Int} {d : D} (h : RWL K M H ds xs) (e : Pw.atI ds i = some d) : ∃ v, Pw.atI xs i = some v ∧ RW K M H d v := by
  unfold Pw.atI at e ⊢
  rw [← h.length]
  cases q : Pw.ixN ds.length i with
  | none => rw [q] at e; cases e
  | some j =>
    rw [q] at e
    exact h.get e
/-- what stands at a place -/
def RC (K : PySem.W.Frag) (M : List Addr) (H : Hp) : D → HO → Prop
  | .lst ws, .lst xs => RWL K M H ws xs
  | .dct ks ws, .dK kvs => ks = kDs kvs ∧ (∀ t, D.str t ∈ ks → t.length ≤ sizeLine) ∧ RWL K M H ws (kvs.map fun p => p.2)
  | .ins c ns ws, .ins C _ fs => C = He.ga K (tx c) ∧ ns = fs.map (fun p => p.1.cps.toList) ∧ RWL K M H ws (fs.map fun p => p.2)
  | _, _ => False
/-- a thing that a place may hold -/
def Cell : HO → Prop
  | .lst _ => True
  | .dK _ => True
  | .ins _ _ _ => True
  | _ => False
theorem RC.cell {o : D} {u : HO} (h : RC K M H o u) : Cell u := by
  cases o <;> cases u <;> first | trivial | exact h.elim
structure SI (K : PySem.W.Frag) (M : List Addr) (H : Hp) (Ω : Om) : Prop where
  len : M.length = Ω.length
  nd : M.Nodup
  cell : ∀ (l : Nat) (o : D), Ω[l]? = some o → ∃ a u, M[l]? = some a ∧ H a = some u ∧ RC K M H o u
theorem SI.at_ {Ω : Om} (S : SI K M H Ω) {a : Addr} (h : a ∈ M) : ∃ u, H a = some u ∧ Cell u := by
  obtain ⟨l, hl, e⟩ := List.getElem_of_mem h
  have hl' : l < Ω.length := by rw [← S.len]; exact hl
  obtain ⟨a', u, e1, e2, e3⟩ := S.cell l Ω[l] (List.getElem?_eq_getElem hl')
  rw [List.getElem?_eq_getElem hl, e] at e1
  cases e1
  exact ⟨u, e2, e3.cell⟩
theorem SI.zok {Ω : Om} (S : SI K M H Ω) : ZOk (rng M) H := fun a h => by
  obtain ⟨u, e, c⟩ := S.at_ h
  rw [e]
  cases u <;> first | trivial | exact c.elim
theorem SI.off {Ω : Om} (S : SI K M H Ω) {a : Addr} {u : HO} (e : H a = some u) (c : ¬ Cell u) : a ∉ M := fun h => by
  obtain ⟨u', e', c'⟩ := S.at_ h
  rw [e] at e'; cases e'
  exact c c'
theorem SI.new {Ω : Om} (S : SI K M H Ω) {a : Addr} (e : H a = none) : a ∉ M := fun h => by
  obtain ⟨u', e', c'⟩ := S.at_ h
  rw [e] at e'; cases e'
/-- on the way: more places, all else as it was -/
structure Gr (M : List Addr) (H : Hp) (M' : List Addr) (H' : Hp) : Prop where
  pre : ∀ (l : Nat) (a : Addr), M[l]? = some a → M'[l]? = some a
  keep : ∀ a u, H a = some u → a ∉ M → H' a = some u ∧ a ∉ M'
theorem Gr.refl : Gr M H M H := ⟨fun _ _ e => e, fun _ _ e z => ⟨e, z⟩⟩
theorem Gr.trans {M2 : List Addr} {H2 : Hp} (a : Gr M H M' H') (b : Gr M' H' M2 H2) : Gr M H M2 H2 := ⟨fun l x e => b.pre l x (a.pre l x e), fun x u e z => let ⟨e1, z1⟩ := a.keep x u e z; b.keep x u e1 z1⟩
theorem Gr.same (s : Same H H') : Gr M H M H' := ⟨fun _ _ e => e, fun a u e z => ⟨s _ _ e, z⟩⟩
theorem Gr.mv {Ω : Om} (g : Gr M H M' H') (S : SI K M H Ω) : Mv K (rng M) (rng M') H H' := by
  refine ⟨fun b C dx fs r z => g.keep b _ r z, fun b zs r => ?_, fun b zs r => ?_, fun b u cu r z => ?_, fun b c e => (g.keep b _ e (S.off e fun z => z)).1⟩
  · rcases r with (r | ⟨o, r⟩) | r
    · exact .inl (.inl (g.keep b _ r (S.off r fun z => z)).1)
    · exact .inl (.inr ⟨o, (g.keep b _ r (S.off r fun z => z)).1⟩)
    · exact .inr r
  · rcases r with ⟨o, r, n⟩ | r
    · exact .inl ⟨o, (g.keep b _ r (S.off r fun z => z)).1, n⟩
    · exact .inr r
  · rcases r with r | ⟨o, r⟩
    · obtain ⟨e1, e2⟩ := g.keep b _ r z
      exact ⟨.inl e1, e2⟩
    · obtain ⟨e1, e2⟩ := g.keep b _ r z
      exact ⟨.inr ⟨o, e1⟩, e2⟩
mutual
theorem RW.gr {Ω : Om} (g : Gr M H M' H') (S : SI K M H Ω) : ∀ (d : D) (v : V), RW K M H d v → RW K M' H' d v
  | .loc l, v, h => by
    obtain ⟨a, e, r⟩ := h
    exact ⟨a, g.pre l a e, r⟩
  | .tup ds, v, h => by
    obtain ⟨a, xs, e, r, q⟩ := h
    have m := g.mv S
    exact ⟨a, xs, e, ⟨m.t a xs r.1, fun z => m.n a xs (r.2 z)⟩, RWL.gr g S ds xs q⟩
  | .non, v, h => Rp.to (g.mv S) .non v h
  | .bl b, v, h => Rp.to (g.mv S) (.bl b) v h
  | .int b, v, h => Rp.to (g.mv S) (.int b) v h
  | .str b, v, h => Rp.to (g.mv S) (.str b) v h
  | .lst b, v, h => Rp.to (g.mv S) (.lst b) v h
  | .dct a b, v, h => Rp.to (g.mv S) (.dct a b) v h
  | .exc b, v, h => Rp.to (g.mv S) (.exc b) v h
  | .ins a b e, v, h => Rp.to (g.mv S) (.ins a b e) v h
theorem RWL.gr {Ω : Om} (g : Gr M H M' H') (S : SI K M H Ω) : ∀ (ds : List D) (xs : List V), RWL K M H ds xs → RWL K M' H' ds xs
  | [], _, h => h
  | d :: ds, _, h => by
    obtain ⟨v, vs, e, h1, h2⟩ := h
    exact ⟨v, vs, e, RW.gr g S d v h1, RWL.gr g S ds vs h2⟩
end
theorem RC.gr {Ω : Om} (g : Gr M H M' H') (S : SI K M H Ω) {o : D} {u : HO} (h : RC K M H o u) : RC K M' H' o u := by
  cases o with
  | lst ws =>
    cases u with
    | lst xs => exact RWL.gr g S ws xs h
    | _ => exact h.elim
  | dct ks ws =>
    cases u with
    | dK kvs => exact ⟨h.1, h.2.1, RWL.gr g S ws _ h.2.2⟩
    | _ => exact h.elim
  | ins c ns ws =>
    cases u with
    | ins C dx fs => exact ⟨h.1, h.2.1, RWL.gr g S ws _ h.2.2⟩
    | _ => exact h.elim
  | _ => exact (show False from h).elim
theorem SI.same {Ω : Om} (S : SI K M H Ω) (s : Same H H') : SI K M H' Ω := ⟨S.len, S.nd, fun l o e => by
  obtain ⟨a, u, e1, e2, e3⟩ := S.cell l o e
  exact ⟨a, u, e1, s _ _ e2, e3.gr (Gr.same s) S⟩⟩
/-- one more place -/
theorem SI.push {Ω : Om} (S : SI K M H Ω) (s : Same H H') {a : Addr} (hn : H a = none) {o : D} {u : HO} (hu : H' a = some u) (h : RC K (M ++ [a]) H' o u) : SI K (M ++ [a]) H' (Ω ++ [o]) ∧ Gr M H (M ++ [a]) H' := by
  have g : Gr M H (M ++ [a]) H' := ⟨fun l b e => by
    rw [List.getElem?_append_left (List.getElem?_eq_some_iff.mp e).1]
    exact e, fun b w e z => ⟨s _ _ e, fun q => by
      rcases List.mem_append.mp q with q | q
      · exact z q
      · have : b = a := by simpa using q
        subst this
        rw [hn] at e; cases e⟩⟩
  refine ⟨⟨by rw [List.length_append, List.length_append, S.len]; rfl, ?_, fun l w e => ?_⟩, g⟩
  · rw [List.nodup_append]
    refine ⟨S.nd, by simp, fun b hb c hc => ?_⟩
    have : c = a := by simpa using hc
    subst this
    exact fun z => S.new hn (z ▸ hb)
  · by_cases hl : l < Ω.length
    · rw [List.getElem?_append_left hl] at e
      obtain ⟨b, x, e1, e2, e3⟩ := S.cell l w e
      exact ⟨b, x, g.pre l b e1, s _ _ e2, e3.gr g S⟩
    · have hle : l = Ω.length := by
        have := (List.getElem?_eq_some_iff.mp e).1
        rw [List.length_append] at this
        simp at this
        omega
      subst hle
      rw [List.getElem?_append_right (Nat.le_refl _)] at e
      simp at e
      subst e
      refine ⟨a, u, ?_, hu, h⟩
      rw [← S.len, List.getElem?_append_right (Nat.le_refl _)]
      simp
/-- what stands at a place changes -/
theorem SI.put {Ω : Om} (S : SI K M H Ω) {l : Nat} {a : Addr} (ha : M[l]? = some a) {o : D} {u : HO} (h : ∀ {H' : Hp}, Gr M H M H' → RC K M H' o u) : SI K M (upd H a u) (Ω.set l o) ∧ Gr M H M (upd H a u) := by
  have hm : a ∈ M := List.mem_of_getElem? ha
  have g : Gr M H M (upd H a u) := ⟨fun _ _ e => e, fun b w e z => ⟨by rw [upd_ne (fun q => z (by rw [q]; exact hm))]; exact e, z⟩⟩
  refine ⟨⟨by rw [List.length_set]; exact S.len, S.nd, fun j w e => ?_⟩, g⟩
  by_cases hj : l = j
  · subst hj
    have hl : l < Ω.length := by
      have := (List.getElem?_eq_some_iff.mp e).1
      rw [List.length_set] at this
      exact this
    rw [List.getElem?_set_self hl] at e
    cases e
    exact ⟨a, u, ha, upd_same, h g⟩
  · rw [List.getElem?_set_ne hj] at e
    obtain ⟨b, x, e1, e2, e3⟩ := S.cell j w e
    refine ⟨b, x, e1, ?_, e3.gr g S⟩
    rw [upd_ne ?_]
    · exact e2
    · intro q
      subst q
      exact hj ((List.getElem?_inj (List.getElem?_eq_some_iff.mp ha).1 S.nd).mp (ha.trans e1.symm))
/-- the slots -/
def SlW (K : PySem.W.Frag) (M : List Addr) (H : Hp) (σ : L2.St) (ρ : Sl) : Prop :=
  ρ.length = σ.length ∧ ∀ (i : Nat) (d : D), ρ[i]? = some (some d) → ∃ v, σ[i]? = some (some v) ∧ RW K M H d v
theorem SlW.gr {Ω : Om} {σ : L2.St} {ρ : Sl} (L : SlW K M H σ ρ) (g : Gr M H M' H') (S : SI K M H Ω) : SlW K M' H' σ ρ := ⟨L.1, fun i d e => by
  obtain ⟨v, e1, r⟩ := L.2 i d e
  exact ⟨v, e1, RW.gr g S d v r⟩⟩
theorem SlW.set {σ : L2.St} {ρ : Sl} (L : SlW K M H σ ρ) {i : Nat} {d : D} {v : V} (r : RW K M H d v) : SlW K M H (σ.set i (some v)) (ρ.set i (some d)) := by
  refine ⟨by rw [List.length_set, List.length_set]; exact L.1, fun j w e => ?_⟩
  by_cases hj : i = j
  · subst hj
    have hl : i < ρ.length := by
      have := (List.getElem?_eq_some_iff.mp e).1
      rw [List.length_set] at this
      exact this
    rw [List.getElem?_set_self hl] at e
    cases e
    exact ⟨v, by rw [List.getElem?_set_self (by rw [← L.1]; exact hl)], r⟩
  · rw [List.getElem?_set_ne hj] at e ⊢
    exact L.2 j w e
theorem SlW.clr {σ : L2.St} {ρ : Sl} (L : SlW K M H σ ρ) {i : Nat} : SlW K M H (σ.set i none) (ρ.set i none) := by
  refine ⟨by rw [List.length_set, List.length_set]; exact L.1, fun j w e => ?_⟩
  by_cases hj : i = j
  · subst hj
    have hl : i < ρ.length := by
      have := (List.getElem?_eq_some_iff.mp e).1
      rw [List.length_set] at this
      exact this
    rw [List.getElem?_set_self hl] at e
    cases e
  · rw [List.getElem?_set_ne hj] at e ⊢
    exact L.2 j w e
/-! ### what is seen -/
theorem mapO_len {f : D → Option D} : ∀ {xs ys : List D}, mapO f xs = some ys → ys.length = xs.length
  | [], ys, h => by cases h; rfl
  | x :: xs, ys, h => by
    unfold mapO at h
    split at h
    · obtain ⟨zs, e, rfl⟩ := Option.map_eq_some_iff.mp h
      rw [List.length_cons, List.length_cons, mapO_len e]
    · cases h
theorem snap_p2 {k : Nat} {Ω : Om} {d d' : D} (h : snap k Ω d = some d') : d'.isP2 = d.isP2 := by
  cases k with
  | zero => cases h
  | succ k =>
    unfold snap at h
    split at h
    · cases h; rfl
    · split at h
      · split at h
        · obtain ⟨_, _, rfl⟩ := Option.map_eq_some_iff.mp h; rfl
        · obtain ⟨_, _, rfl⟩ := Option.map_eq_some_iff.mp h; rfl
        · obtain ⟨_, _, rfl⟩ := Option.map_eq_some_iff.mp h; rfl
        · cases h
      · rename_i ws _
        obtain ⟨ys, e, rfl⟩ := Option.map_eq_some_iff.mp h
        have l := mapO_len e
        match ws, ys, l with
        | [], [], _ => rfl
        | [_], [_], _ => rfl
        | [_, _], [_, _], _ => rfl
        | _ :: _ :: _ :: _, _ :: _ :: _ :: _, _ => rfl
      · cases h
theorem mapO_prs {k : Nat} {Ω : Om} : ∀ {xs ys : List D}, mapO (snap k Ω) xs = some ys → prs ys = prs xs
  | [], ys, h => by cases h; rfl
  | x :: xs, ys, h => by
    unfold mapO at h
    split at h
    · rename_i y e0
      obtain ⟨zs, e, rfl⟩ := Option.map_eq_some_iff.mp h
      unfold prs
      rw [List.all_cons, List.all_cons, snap_p2 e0]
      have z := mapO_prs e
      unfold prs at z
      rw [z]
    · cases h
theorem mapO_rp {f : D → Option D} {Z : Addr → Prop} (hf : ∀ d d' v, f d = some d' → RW K M H d v → Rp K Z H d' v) : ∀ {ds es : List D} {xs : List V}, mapO f ds = some es → RWL K M H ds xs → RpL K Z H es xs
  | [], es, xs, h, r => by
    cases h
    exact r
  | d :: ds, es, xs, h, r => by
    obtain ⟨v, vs, e, r1, r2⟩ := r
    unfold mapO at h
    split at h
    · rename_i y e0
      obtain ⟨zs, e1, rfl⟩ := Option.map_eq_some_iff.mp h
      exact ⟨v, vs, e, hf d y v e0 r1, mapO_rp hf e1 r2⟩
    · cases h
theorem snap_rp {Ω : Om} (S : SI K M H Ω) : ∀ (k : Nat) (d d' : D) (v : V), snap k Ω d = some d' → RW K M H d v → Rp K Em H d' v
  | 0, _, _, _, h, _ => by cases h
  | k + 1, d, d', v, h, r => by
    have ih := snap_rp S k
    unfold snap at h
    split at h
    · rename_i hp
      cases h
      exact (RW.to_rp d v hp r).em
    · split at h
      · rename_i l _
        obtain ⟨a, e1, e2⟩ := r
        subst e2
        cases ho : Ω[l]? with
        | none => rw [ho] at h; cases h
        | some o =>
          obtain ⟨a', u, f1, f2, f3⟩ := S.cell l o ho
          rw [e1] at f1; cases f1
          rw [ho] at h
          split at h
          · rename_i ws q
            cases q
            obtain ⟨es, e, rfl⟩ := Option.map_eq_some_iff.mp h
            cases u with
            | lst xs => exact ⟨a, xs, rfl, .inl f2, fun z => z, mapO_rp ih e f3⟩
            | _ => exact f3.elim
          · rename_i ks ws q
            cases q
            obtain ⟨es, e, rfl⟩ := Option.map_eq_some_iff.mp h
            cases u with
            | dK kvs => exact ⟨a, kvs, rfl, .inl f2, fun z => z, f3.1, f3.2.1, mapO_rp ih e f3.2.2⟩
            | _ => exact f3.elim
          · rename_i cn ns ws q
            cases q
            obtain ⟨es, e, rfl⟩ := Option.map_eq_some_iff.mp h
            cases u with
            | ins C dx fs =>
              obtain ⟨g1, g2, g3⟩ := f3
              subst g1
              exact ⟨a, dx, fs, rfl, f2, fun z => z, g2, mapO_rp ih e g3⟩
            | _ => exact f3.elim
          · cases h
      · rename_i ws _
        obtain ⟨es, e, rfl⟩ := Option.map_eq_some_iff.mp h
        obtain ⟨a, xs, e1, e2, e3⟩ := r
        exact ⟨a, xs, e1, ⟨e2.1, fun z => e2.2 (by rw [← mapO_prs e]; exact z)⟩, mapO_rp ih e e3⟩
      · cases h
theorem slg_of {σ : L2.St} {ρ' : Sl} {Z : Addr → Prop} (hl : ρ'.length = σ.length) (h : ∀ (i : Nat) (d : D), ρ'[i]? = some (some d) → ∃ v, σ[i]? = some (some v) ∧ Rp K Z H d v) : SlG K Z [] H σ ρ' :=
  ⟨hl, fun i d _ e => let ⟨v, e1, r⟩ := h i d e; ⟨v, e1, r.relax, fun _ => r⟩⟩
theorem seen_ok {Ω : Om} {σ : L2.St} {ρ : Sl} (S : SI K M H Ω) (L : SlW K M H σ ρ) : SlG K Em [] H σ (seen Ω ρ) := by
  refine slg_of (by unfold seen; rw [List.length_map]; exact L.1) fun i d e => ?_
  unfold seen at e
  rw [List.getElem?_map] at e
  obtain ⟨o, e1, e2⟩ := Option.map_eq_some_iff.mp e
  cases o with
  | none => cases e2
  | some d0 =>
    obtain ⟨v, h1, r⟩ := L.2 i d0 e1
    exact ⟨v, h1, snap_rp S 8 d0 d v e2 r⟩
theorem pures_at {ρ : Sl} {i : Nat} {d : D} (e : (pures ρ)[i]? = some (some d)) : ρ[i]? = some (some d) ∧ d.pl = true := by
  unfold pures at e
  rw [List.getElem?_map] at e
  obtain ⟨o, e1, e2⟩ := Option.map_eq_some_iff.mp e
  cases o with
  | none => cases e2
  | some d0 =>
    have e2 : (if d0.pl = true then some d0 else none) = some d := e2
    split at e2
    · cases e2
      exact ⟨e1, by assumption⟩
    · cases e2
theorem pures_ok {σ : L2.St} {ρ : Sl} (L : SlW K M H σ ρ) : SlG K (rng M) [] H σ (pures ρ) := by
  refine slg_of (by unfold pures; rw [List.length_map]; exact L.1) fun i d e => ?_
  obtain ⟨e1, hp⟩ := pures_at e
  obtain ⟨v, h1, r⟩ := L.2 i d e1
  exact ⟨v, h1, RW.to_rp d v hp r⟩
theorem pures_em {σ : L2.St} {ρ : Sl} (L : SlW K M H σ ρ) : SlG K Em [] H σ (pures ρ) := by
  refine slg_of (by unfold pures; rw [List.length_map]; exact L.1) fun i d e => ?_
  obtain ⟨e1, hp⟩ := pures_at e
  obtain ⟨v, h1, r⟩ := L.2 i d e1
  exact ⟨v, h1, (RW.to_rp d v hp r).em⟩
end
end Pw

/-! text PwV1 -/
/-! the second language: expressions -/
namespace Pw
open PySem PySem.Spec PyProof.Rows L2

/-! ### dicts at places -/
section
variable {K : PySem.W.Frag} {M : List Addr} {H : Hp}
theorem dfind_w (k : Key) : ∀ {kvs : List (Key × V)} {vs : List D}, RWL K M H vs (kvs.map fun p => p.2) → ∀ d, dfind (kD k) (kDs kvs) vs = some d → ∃ v, valV kvs k = some v ∧ RW K M H d v
  | [], vs, h, d, e => by simp [kDs, dfind] at e
  | p :: kvs, vs, h, d, e => by
    cases vs with
    | nil =>
      have h : (p :: kvs).map (fun p => p.2) = [] := h
      simp at h
    | cons d0 vs =>
      obtain ⟨v, ws, q, h1, h2⟩ := h
      cases q
      have e : (if keq (kD p.1) (kD k) then some d0 else dfind (kD k) (kDs kvs) vs) = some d := e
      rw [keq_kD] at e
      by_cases hk : p.1 = k
      · rw [decide_eq_true hk, if_pos rfl] at e
        cases e
        exact ⟨p.2, valV_pos hk, h1⟩
      · rw [decide_eq_false hk, if_neg Bool.false_ne_true] at e
        obtain ⟨v, e1, e2⟩ := dfind_w k h2 d e
        exact ⟨v, by rw [valV_neg hk]; exact e1, e2⟩
theorem dset_w (k : Key) {d : D} {v : V} (hd : RW K M H d v) : ∀ {kvs : List (Key × V)} {vs : List D}, RWL K M H vs (kvs.map fun p => p.2) →
    RWL K M H (dset (kD k) d (kDs kvs) vs) ((kvs.map fun kv => if kv.1 = k then (kv.1, v) else kv).map fun p => p.2)
  | [], vs, h => by
    cases vs <;> rfl
  | p :: kvs, vs, h => by
    cases vs with
    | nil =>
      have h : (p :: kvs).map (fun p => p.2) = [] := h
      simp at h
    | cons d0 vs =>
      obtain ⟨u, ws, e, h1, h2⟩ := h
      cases e
      have ih := dset_w k hd h2
      show RWL K M H ((if keq (kD p.1) (kD k) then d else d0) :: dset (kD k) d (kDs kvs) vs) _
      rw [keq_kD]
      refine ⟨_, _, rfl, ?_, ih⟩
      by_cases e : p.1 = k
      · simp only [if_pos e, decide_eq_true e, if_true]
        exact hd
      · simp only [if_neg e, decide_eq_false e, Bool.false_eq_true, if_false]
        exact h1
theorem putK_w (k : Key) {d : D} {v : V} (hd : RW K M H d v) {kvs : List (Key × V)} {vs : List D} (h : RWL K M H vs (kvs.map fun p => p.2)) : RWL K M H (dputV (kD k) d (kDs kvs) vs) ((putK kvs k v).map fun p => p.2) := by
  unfold putK dputV
  rw [dhas_kD]
  split
  · exact dset_w k hd h
  · rw [List.map_append]
    exact h.append (RWL.one hd)
theorem key_w {a : D} {x : V} (h : isKey a = true) (r : RW K M H a x) : ∃ k : Key, a = kD k ∧ x = kV k ∧ ∀ t, kD k = .str t → t.length ≤ sizeLine := by
  have hp : a.pl = true := by cases a <;> first | rfl | cases h
  exact key_of_rp h (RW.to_rp a x hp r).relax
theorem pl_key {a : D} (h : isKey a = true) : a.pl = true := by cases a <;> first | rfl | cases h
end
/-- the ends of an expression -/
def PX (Γ : Ctx) (W : WX) {A : Type} (M : List Addr) (H : Hp) (σ : L2.St) (r : XR A) (k : A → Om → List Addr → Hp → Prop) : Prop := match r with
  | .ok a Ω' => ∀ M' H', Gr M H M' H' → SI Γ.K M' H' Ω' → k a Ω' M' H'
  | .ex x Ω' => ∀ M' H', Gr M H M' H' → SI Γ.K M' H' Ω' → W (Γ.cl x) none σ H'
  | .bad => False
section
variable {Γ : Ctx} {W : WX} {A B : Type} {M M1 : List Addr} {H H1 : Hp} {σ : L2.St}
theorem PX.gr {r : XR A} {k : A → Om → List Addr → Hp → Prop} (g : Gr M H M1 H1) (p : PX Γ W M H σ r k) : PX Γ W M1 H1 σ r k := by
  cases r with
  | ok a Ω => exact fun M' H' g' S' => p M' H' (g.trans g') S'
  | ex x Ω => exact fun M' H' g' S' => p M' H' (g.trans g') S'
  | bad => exact p
theorem PX.mono {r : XR A} {k k' : A → Om → List Addr → Hp → Prop} (p : PX Γ W M H σ r k) (h : ∀ a Ω' M' H', Gr M H M' H' → SI Γ.K M' H' Ω' → r = .ok a Ω' → k a Ω' M' H' → k' a Ω' M' H') : PX Γ W M H σ r k' := by
  cases r with
  | ok a Ω => exact fun M' H' g' S' => h _ _ _ _ g' S' rfl (p M' H' g' S')
  | ex x Ω => exact p
  | bad => exact p
theorem PX.bind {r : XR A} {f : A → Om → XR B} {k : B → Om → List Addr → Hp → Prop} (p : PX Γ W M H σ (r.bind f) k) : PX Γ W M H σ r fun a Ω1 M1 H1 => PX Γ W M1 H1 σ (f a Ω1) k := by
  cases r with
  | ok a Ω => exact fun M' H' g' S' => PX.gr g' p
  | ex x Ω => exact p
  | bad => exact p
end
def spE2 (Γ : Ctx) (c : Nat → List D → R D) (W : WX) (e : E2) : TE := fun σ H Q => ∃ M ρ Ω, SI Γ.K M H Ω ∧ SlW Γ.K M H σ ρ ∧ PX Γ W M H σ (ev2 c e ρ Ω) fun d _ M' H' => ∀ v, RW Γ.K M' H' d v → Q v H'
def spA2 (Γ : Ctx) (c : Nat → List D → R D) (W : WX) (es : Es2) : TA := fun σ H Q => ∃ M ρ Ω, SI Γ.K M H Ω ∧ SlW Γ.K M H σ ρ ∧ PX Γ W M H σ (evs2 c es ρ Ω) fun ds _ M' H' => ∀ vs, RWL Γ.K M' H' ds vs → Q vs H'
/-- a def's promise, by places -/
def sp2 (Γ : Ctx) (c : Nat → List D → R D) (f : Nat) (fn : Fn) : Sp := fun vs H Q E => ∃ M Ω ds, vs.length = fn.ps ∧ SI Γ.K M H Ω ∧ RWL Γ.K M H ds vs ∧ match decX (c f (.lst Ω :: ds)) with
  | .ok d Ω' => ∀ v M' H', Gr M H M' H' → SI Γ.K M' H' Ω' → RW Γ.K M' H' d v → Q v H'
  | .ex x Ω' => ∀ M' H', Gr M H M' H' → SI Γ.K M' H' Ω' → E (Γ.cl x) none H'
  | .bad => False
structure Cok2 (Γ : Ctx) (n : Nat) (c : Nat → List D → R D) : Prop where
  has : ∀ f Ω ds fn, Γ.fnOf f = some fn → fn.store = true → decX (c f (.lst Ω :: ds)) ≠ .bad → ds.length = fn.ps
  defs : ∀ f x, Γ.tb.nm2 f = some x → ∃ fn, Γ.fnOf f = some fn ∧ fn.store = true
  fn : ∀ f fn x, Γ.fnOf f = some fn → Γ.tb.nm2 f = some x → ∃ fa fd ps, Γ.mg x = some (.ref fa) ∧ PySem.W.keepIn Γ.K (.ref fa) = true ∧ Binds Γ.K fd ps [] ∧
    FnOk Γ.P Γ.w Γ.K Γ.mg Γ.base (L2.CX Γ.P Γ.w) (2 * n) fa fd ps (sp2 Γ c f fn)
  mth : ∀ f fn cn m, Γ.fnOf f = some fn → Γ.tb.mt f = some (cn, m) → fn.store = true ∧ ∃ fa fd ps, (m = [95, 95, 105, 110, 105, 116, 95, 95] → Mk Γ.K (He.ga Γ.K (tx cn)) fa ∧ Γ.mg (tx cn) = some (.ref (He.ga Γ.K (tx cn)))) ∧ (m ≠ [95, 95, 105, 110, 105, 116, 95, 95] → Meth Γ.K (He.ga Γ.K (tx cn)) (tx m) fa) ∧ Binds Γ.K fd ps [] ∧
    FnOk Γ.P Γ.w Γ.K Γ.mg Γ.base (L2.CX Γ.P Γ.w) (2 * n) fa fd ps (sp2 Γ c f fn)
  mdef : ∀ f cn m, Γ.tb.mt f = some (cn, m) → ∃ fn, Γ.fnOf f = some fn
section
variable {Γ : Ctx} {c : Nat → List D → R D} {W : WX} {n : Nat} {N : List Str} {sc : Scope} {X : Cx} {pos : Pos}
theorem pu_core {e : E} {σ : L2.St} {H : Hp} {Q : VK} (q : spE2 Γ c W (.pu e) σ H Q) : spE Γ c W e σ H Q := by
  obtain ⟨M, ρ, Ω, S, L, p⟩ := q
  have p : PX Γ W M H σ (liftR Ω (evE c e (pures ρ))) _ := p
  refine spE.mk (pures_em L) (fun z => by rw [z] at p; exact p) (fun x z H' s' => ?_) fun d z v H' s' lev _ => ?_
  · rw [z] at p
    exact p M H' (Gr.same s') (S.same s')
  · rw [z] at p
    exact p M H' (Gr.same s') (S.same s') v (RW.of_rp d v ((lev (rng M) [] S.zok (pures_ok L)).1 (lv_nil e)))
theorem rd_core {e : E} {σ : L2.St} {H : Hp} {Q : VK} (q : spE2 Γ c W (.rd e) σ H Q) : spE Γ c W e σ H Q := by
  obtain ⟨M, ρ, Ω, S, L, p⟩ := q
  have p : PX Γ W M H σ (liftR Ω ((evE c e (seen Ω ρ)).bind fun d => if d.noC then .ok d else .bad)) _ := p
  have g := seen_ok S L
  refine spE.mk g (fun z => by rw [z] at p; exact p) (fun x z H' s' => ?_) fun d z v H' s' lev _ => ?_
  · rw [z] at p
    exact p M H' (Gr.same s') (S.same s')
  · rw [z, R.ok_bind] at p
    cases hn : d.noC with
    | false =>
      rw [hn] at p
      exact (show False from p).elim
    | true =>
      rw [hn] at p
      exact p M H' (Gr.same s') (S.same s') v (RW.of_rp d v (Rp.noC d v hn (lev_em g lev)))
theorem nw_core {e : E} (hfr : frE Γ.fnOf e = true) {σ : L2.St} {H : Hp} {Q : VK} (q : spE2 Γ c W (.nw e) σ H Q) : spE Γ c W e σ H Q := by
  obtain ⟨M, ρ, Ω, S, L, p⟩ := q
  have p : PX Γ W M H σ (newR (evE c e (seen Ω ρ)) Ω) _ := p
  have g := seen_ok S L
  refine spE.mk g (fun z => by rw [z] at p; exact p) (fun x z H' s' => ?_) fun d z v H' s' lev frr => ?_
  · rw [z] at p
    exact p M H' (Gr.same s') (S.same s')
  · rw [z] at p
    have rp := lev_em g lev
    have fr := frr hfr
    cases d with
    | lst ds =>
      obtain ⟨a, xs, e1, e2, e3⟩ := fr
      obtain ⟨a', xs', e4, r, _, g1⟩ := rp
      rw [e1] at e4; cases e4
      have ex := rd_one (u := .lst xs) (w := .lst xs') trivial trivial (.inl e3) r
      cases ex
      have p : PX Γ W M H σ (if D.noCL ds then XR.ok (D.loc Ω.length) (Ω ++ [.lst ds]) else .bad) _ := p
      cases hn : D.noCL ds with
      | false => rw [hn] at p; exact (show False from p).elim
      | true =>
        rw [hn] at p
        obtain ⟨S', gr⟩ := S.push s' e2 (o := .lst ds) e3 (RWL.of_rp ds xs (RpL.noC ds xs hn g1))
        refine p _ H' gr S' v ⟨a, ?_, e1⟩
        rw [← S.len, List.getElem?_append_right (Nat.le_refl _)]
        simp
    | dct ks ds =>
      obtain ⟨a, xs, e1, e2, e3⟩ := fr
      obtain ⟨a', xs', e4, r, _, ek, el, g1⟩ := rp
      rw [e1] at e4; cases e4
      have ex := rd_one (u := .dK xs) (w := .dK xs') trivial trivial (.inl e3) r
      cases ex
      have p : PX Γ W M H σ (if D.noCL ds then XR.ok (D.loc Ω.length) (Ω ++ [.dct ks ds]) else .bad) _ := p
      cases hn : D.noCL ds with
      | false => rw [hn] at p; exact (show False from p).elim
      | true =>
        rw [hn] at p
        obtain ⟨S', gr⟩ := S.push s' e2 (o := .dct ks ds) e3 ⟨ek, el, RWL.of_rp ds _ (RpL.noC ds _ hn g1)⟩
        refine p _ H' gr S' v ⟨a, ?_, e1⟩
        rw [← S.len, List.getElem?_append_right (Nat.le_refl _)]
        simp
    | _ => exact (show False from p).elim
theorem x2_pu {e : E} {x : Expr} (h : PE X x (spE Γ c W e)) : PE X x (spE2 Γ c W (.pu e)) := PE.mono h fun σ H Q q => pu_core q
theorem x2_rd {e : E} {x : Expr} (h : PE X x (spE Γ c W e)) : PE X x (spE2 Γ c W (.rd e)) := PE.mono h fun σ H Q q => rd_core q
theorem x2_nw {e : E} {x : Expr} (hfr : frE Γ.fnOf e = true) (h : PE X x (spE Γ c W e)) : PE X x (spE2 Γ c W (.nw e)) := PE.mono h fun σ H Q q => nw_core hfr q
theorem x2_vr (hf : Fx Γ n N sc X) {i : Nat} {x : Str} (hN : N[i]? = some x) (hv : visB sc x = true) (hd : dbgB x = true) : PE X (.Name x pos) (spE2 Γ c W (.vr i)) := by
  obtain ⟨d1, d2, d3⟩ := dbg_of hd
  refine PE.mono (pe_var (by rw [hf.eN]; exact hN) (vis_of hf hv) d1 d2) fun σ H Q q => ?_
  obtain ⟨M, ρ, Ω, S, L, p⟩ := q
  have p : PX Γ W M H σ (liftR Ω (get ρ i)) _ := p
  cases e : get ρ i with
  | ex x => exact absurd e get_noex
  | bad => rw [e] at p; exact (show False from p).elim
  | ok d =>
    rw [e] at p
    obtain ⟨v, h1, r⟩ := L.2 i d (get_ok e)
    exact ⟨v, h1, p M H Gr.refl S v r⟩
/-- a place of a list, a tuple, a dict -/
def rAt (K : PySem.W.Frag) : R2 := fun x y H Q => rIxL K x y H Q ∨ rIxT K x y H Q ∨ ∃ p kvs kk w, x = .ref p ∧ y = kV kk ∧ Rd H p (.dK kvs) ∧ valV kvs kk = some w ∧ Q w H
theorem ix_at (hu : X.A.units + 100 < cLine) : IxR X (rAt X.K) := by
  intro vl sl pins s σ H x y v u Q I rx ry h hs
  rcases h with h | h | h
  · exact ix_list vl sl pins s σ H x y v u Q I rx ry h hs
  · exact ix_tup vl sl pins s σ H x y v u Q I rx ry h hs
  · obtain ⟨p, kvs, kk, w, rfl, rfl, r, hw, q⟩ := h
    cases rx
    have G : DGet H p (kV kk) (some w) := .inl ⟨kvs, kk, r, rfl, hw.symm⟩
    exact tail_any (dict_typeIs I G) PySem.F.slot_dict_getitem.lookup (d_getItem (by omega) I G ry fun w' s' I' rw' => ⟨w, H, I', rw', q⟩) hs
theorem atR_noex {Ω : Om} {x y : D} {t : Tx} : atR Ω x y ≠ .ex t := by
  intro h
  unfold atR at h
  split at h
  · split at h
    · exact ofO_noex h
    · split at h
      · exact ofO_noex h
      · cases h
    · cases h
  · exact ofO_noex h
  · cases h
theorem atR_ok {Ω : Om} {x y d : D} (h : atR Ω x y = .ok d) : (∃ l ws i, x = .loc l ∧ y = .int i ∧ Ω[l]? = some (.lst ws) ∧ Pw.atI ws i = some d) ∨ (∃ l ks ws, x = .loc l ∧ isKey y = true ∧ Ω[l]? = some (.dct ks ws) ∧ dfind y ks ws = some d) ∨ ∃ ws i, x = .tup ws ∧ y = .int i ∧ Pw.atI ws i = some d := by
  unfold atR at h
  split at h
  · rename_i l
    split at h
    · rename_i ws i e
      exact .inl ⟨l, ws, i, rfl, rfl, e, ofO_ok h⟩
    · rename_i ks ws e
      split at h
      · rename_i hk
        exact .inr (.inl ⟨l, ks, ws, rfl, hk, e, ofO_ok h⟩)
      · cases h
    · cases h
  · rename_i ws i
    exact .inr (.inr ⟨ws, i, rfl, rfl, ofO_ok h⟩)
  · cases h
theorem x2_at (hf : Fx Γ n N sc X) {o k : E2} {l r : Expr} (ho : PE X l (spE2 Γ c W o)) (hk : PE X r (spE2 Γ c W k)) (hp : PlainIx r) : PE X (.Subscript l r pos) (spE2 Γ c W (.at o k)) := by
  refine PE.mono (pe_ix (ix_at hf.units) ho hk hp) fun σ H Q q => ?_
  obtain ⟨M, ρ, Ω, S, L, p⟩ := q
  have p : PX Γ W M H σ ((ev2 c o ρ Ω).bind fun x Ω1 => (ev2 c k ρ Ω1).bind fun y Ω2 => liftR Ω2 (atR Ω2 x y)) _ := p
  refine ⟨M, ρ, Ω, S, L, p.bind.mono fun x Ω1 M1 H1 g1 S1 _ p v rx => ?_⟩
  refine ⟨M1, ρ, Ω1, S1, L.gr g1 S, p.bind.mono fun y Ω2 M2 H2 g2 S2 _ p w ry => ?_⟩
  have rx := RW.gr g2 S1 x v rx
  rw [hf.K]
  cases e : atR Ω2 x y with
  | bad => rw [e] at p; exact (show False from p).elim
  | ex t => exact absurd e atR_noex
  | ok d =>
    rw [e] at p
    have p0 : ∀ v, RW Γ.K M2 H2 d v → Q v H2 := fun v r => p M2 H2 Gr.refl S2 v r
    clear p
    rcases atR_ok e with ⟨l, ws, i, rfl, rfl, ho, ei⟩ | ⟨l, ks, ws, rfl, hk, ho, ei⟩ | ⟨ws, i, rfl, rfl, ei⟩
    · obtain ⟨a, e1, rfl⟩ := rx
      obtain ⟨a', u, f1, f2, f3⟩ := S2.cell l _ ho
      rw [e1] at f1; cases f1
      cases u with
      | lst xs =>
        obtain ⟨w', h1, h2⟩ := RWL.atI (show RWL Γ.K M2 H2 ws xs from f3) ei
        have ry : w = .int i := ry
        exact .inl ⟨a, xs, i, w', rfl, ry, .inl (.inl f2), h1, p0 w' h2⟩
      | _ => exact f3.elim
    · obtain ⟨a, e1, rfl⟩ := rx
      obtain ⟨a', u, f1, f2, f3⟩ := S2.cell l _ ho
      rw [e1] at f1; cases f1
      cases u with
      | dK kvs =>
        obtain ⟨kk, rfl, rfl, _⟩ := key_w hk ry
        obtain ⟨g1, _, g3⟩ := f3
        subst g1
        obtain ⟨w', h1, h2⟩ := dfind_w kk g3 _ ei
        exact .inr (.inr ⟨a, kvs, kk, w', rfl, rfl, .inl f2, h1, p0 w' h2⟩)
      | _ => exact f3.elim
    · obtain ⟨a, xs, e1, e2, e3⟩ := rx
      obtain ⟨w', h1, h2⟩ := RWL.atI e3 ei
      have ry : w = .int i := ry
      exact .inr (.inl ⟨a, xs, i, w', e1, ry, e2.1, h1, p0 w' h2⟩)
/-! ### arguments -/
theorem a2_nil : PA X [] (spA2 Γ c W .nil) := by
  refine PA.mono pa_nil fun σ H Q q => ?_
  obtain ⟨M, ρ, Ω, S, L, p⟩ := q
  exact p M H Gr.refl S [] rfl
theorem a2_cons {a : E2} {es : Es2} {x : Expr} {xs : List Expr} (ha : PE X x (spE2 Γ c W a)) (hs : PA X xs (spA2 Γ c W es)) (st : starEach (x :: xs) X.env = (false, eval x X.env) :: starEach xs X.env) :
    PA X (x :: xs) (spA2 Γ c W (.cons a es)) := by
  refine PA.mono (pa_cons ha hs st) fun σ H Q q => ?_
  obtain ⟨M, ρ, Ω, S, L, p⟩ := q
  have p : PX Γ W M H σ ((ev2 c a ρ Ω).bind fun d Ω1 => (evs2 c es ρ Ω1).bind fun ds Ω2 => .ok (d :: ds) Ω2) _ := p
  refine ⟨M, ρ, Ω, S, L, p.bind.mono fun d Ω1 M1 H1 g1 S1 _ p v rv => ?_⟩
  refine ⟨M1, ρ, Ω1, S1, L.gr g1 S, p.bind.mono fun ds Ω2 M2 H2 g2 S2 _ p vs rvs => ?_⟩
  exact p M2 H2 Gr.refl S2 (v :: vs) ⟨v, vs, rfl, RW.gr g2 S1 d v rv, rvs⟩
theorem x2_tp {es : Es2} {xs : List Expr} {k : Nat} (hs : PA X xs (spA2 Γ c W es)) (hl : ∀ ρ Ω ds Ω', evs2 c es ρ Ω = .ok ds Ω' → ds.length ≤ 10000) : PE X (.Tuple xs k pos) (spE2 Γ c W (.tp es)) := by
  refine PE.mono (pe_tupN hs) fun σ H Q q => ?_
  obtain ⟨M, ρ, Ω, S, L, p⟩ := q
  have p : PX Γ W M H σ ((evs2 c es ρ Ω).bind fun ds Ω1 => XR.ok (D.tup ds) Ω1) _ := p
  refine ⟨M, ρ, Ω, S, L, p.bind.mono fun ds Ω1 M1 H1 g1 S1 er p vs rvs => ?_⟩
  have hz := hl ρ Ω ds Ω1 er
  refine ⟨by rw [← rvs.length, sizeLine_eq]; omega, ?_⟩
  cases hn : prs ds with
  | false =>
    refine .inl fun a ha => p M1 _ (Gr.same (same_upd ha)) (S1.same (same_upd ha)) _ ⟨a, vs, rfl, ⟨.inl (.inl upd_same), fun z => by rw [hn] at z; cases z⟩, RWL.gr (Gr.same (same_upd ha)) S1 ds vs rvs⟩
  | true =>
    refine .inr fun a its ha => p M1 _ (Gr.same (same_upd ha)) (S1.same (same_upd ha)) _ ⟨a, vs, rfl, ⟨.inl (.inr ⟨_, upd_same⟩), fun _ => .inl ⟨_, upd_same, rfl⟩⟩, RWL.gr (Gr.same (same_upd ha)) S1 ds vs rvs⟩
theorem x2_ls {es : Es2} {xs : List Expr} (hs : PA X xs (spA2 Γ c W es)) (hl : ∀ ρ Ω ds Ω', evs2 c es ρ Ω = .ok ds Ω' → ds.length ≤ 10000) : PE X (.List xs pos) (spE2 Γ c W (.ls es)) := by
  refine PE.mono (pe_lst hs) fun σ H Q q => ?_
  obtain ⟨M, ρ, Ω, S, L, p⟩ := q
  have p : PX Γ W M H σ ((evs2 c es ρ Ω).bind fun ds Ω1 => XR.ok (D.loc Ω1.length) (Ω1 ++ [.lst ds])) _ := p
  refine ⟨M, ρ, Ω, S, L, p.bind.mono fun ds Ω1 M1 H1 g1 S1 er p vs rvs => ?_⟩
  have hz := hl ρ Ω ds Ω1 er
  refine ⟨by rw [← rvs.length, sizeLine_eq]; omega, fun a ha => ?_⟩
  have g0 : Gr M1 H1 (M1 ++ [a]) (upd H1 a (.lst vs)) := ⟨fun l b e => by
    rw [List.getElem?_append_left (List.getElem?_eq_some_iff.mp e).1]
    exact e, fun b w e z => ⟨same_upd ha _ _ e, fun q => by
      rcases List.mem_append.mp q with q | q
      · exact z q
      · have : b = a := by simpa using q
        subst this
        rw [ha] at e; cases e⟩⟩
  obtain ⟨S', gr⟩ := S1.push (same_upd ha) ha (o := .lst ds) (u := .lst vs) upd_same (RWL.gr g0 S1 ds vs rvs)
  refine p _ _ gr S' _ ⟨a, ?_, rfl⟩
  rw [← S1.len, List.getElem?_append_right (Nat.le_refl _)]
  simp
theorem x2_cp (hf : Fx Γ n N sc X) {op : Cm} {a b : E2} {l r : Expr} (ha : PE X l (spE2 Γ c W a)) (hb : PE X r (spE2 Γ c W b)) (hm : behindInMarks (cmr op) r = false) : PE X (.Compare l [cmr op] [r] pos) (spE2 Γ c W (.cp op a b)) := by
  refine PE.mono (pe_cmpR (cmp_rule hf.units op) ha hb hm) fun σ H Q q => ?_
  obtain ⟨M, ρ, Ω, S, L, p⟩ := q
  have p : PX Γ W M H σ ((ev2 c a ρ Ω).bind fun x Ω1 => (ev2 c b ρ Ω1).bind fun y Ω2 => if x.pl && y.pl then liftR Ω2 (mapR D.bl (cmpB op x y)) else .bad) _ := p
  refine ⟨M, ρ, Ω, S, L, p.bind.mono fun x Ω1 M1 H1 g1 S1 _ p v rx => ?_⟩
  refine ⟨M1, ρ, Ω1, S1, L.gr g1 S, p.bind.mono fun y Ω2 M2 H2 g2 S2 _ p w ry => ?_⟩
  have rx := RW.gr g2 S1 x v rx
  cases hpl : x.pl && y.pl with
  | false => rw [hpl] at p; exact (show False from p).elim
  | true =>
    rw [hpl] at p
    have p : PX Γ W M2 H2 σ (liftR Ω2 (mapR D.bl (cmpB op x y))) _ := p
    rw [Bool.and_eq_true] at hpl
    cases e : cmpB op x y with
    | bad => rw [e] at p; exact (show False from p).elim
    | ex t => exact absurd e cmpB_noex
    | ok k =>
      rw [e] at p
      rw [hf.K]
      exact ⟨x, y, k, (RW.to_rp x v hpl.1 rx).em.relax, (RW.to_rp y w hpl.2 ry).em.relax, e, p M2 H2 Gr.refl S2 _ rfl⟩
/-- a call -/
theorem call_core2 {f : Nat} {fn : Fn} {es : Es2} (hfn : Γ.fnOf f = some fn) (h2 : fn.store = true) (C : Cok2 Γ n c) {σ : L2.St} {H : Hp} {Q : VK} (h : spE2 Γ c W (.cl f es) σ H Q) : tCallS (sp2 Γ c f fn) (WE W) (spA2 Γ c W es) σ H Q := by
  obtain ⟨M, ρ, Ω, S, L, p⟩ := h
  have p : PX Γ W M H σ ((evs2 c es ρ Ω).bind fun ds Ω1 => decX (c f (.lst Ω1 :: ds))) _ := p
  refine ⟨M, ρ, Ω, S, L, p.bind.mono fun ds Ω1 M1 H1 g1 S1 er p vs rvs => ?_⟩
  have hl : vs.length = fn.ps := by
    rw [← rvs.length]
    exact C.has f Ω1 ds fn hfn h2 fun z => by rw [z] at p; exact p
  refine ⟨M1, Ω1, ds, hl, S1, rvs, ?_⟩
  cases e : decX (c f (.lst Ω1 :: ds)) with
  | bad => rw [e] at p; exact p
  | ok d Ω' => rw [e] at p; exact fun v M' H' g S' r => p M' H' g S' v r
  | ex x Ω' => rw [e] at p; exact fun M' H' g S' => p M' H' g S'
theorem x2_cl (hf : Fx Γ n N sc X) (C : Cok2 Γ n c) (tk : Takes X W) {f : Nat} {es : Es2} {x : Str} {e : Expr} {xs : List Expr} {p : Pos} (hn : Γ.tb.nm2 f = some x) (hg : gloB sc x = true) (hd : dbgB x = true)
    (ha : PA X (e :: xs) (spA2 Γ c W es)) (he : starEach (e :: xs) X.env = (false, eval e X.env) :: starEach xs X.env) (hpl : (backTo pos (starEach xs X.env)).any (·.1) = false) :
    PE X (.Call (.Name x p) (e :: xs) [] pos) (spE2 Γ c W (.cl f es)) := by
  obtain ⟨fn, hfn, h2s⟩ := C.defs f x hn
  obtain ⟨fa, fd, ps, h1, h2, h3, h4⟩ := C.fn f fn x hfn hn
  have F : FnOk X.prog X.w X.K X.mg X.base (L2.CX X.prog X.w) (2 * n) fa fd ps (sp2 Γ c f fn) := by rw [hf.prog, hf.w, hf.K, hf.mg, hf.base]; exact h4
  exact PE.mono (pe_callS (E := WE W) F (hf.room.mono (Nat.le_succ _)) (glo_of hf hg) (by rw [hf.mg]; exact h1) (by rw [hf.K]; exact h2) (by rw [hf.K]; exact h3) (fun σ => passAt tk σ) ha (dbg_of hd).1 he hpl) fun σ H Q q => call_core2 hfn h2s C q
/-! ### things with own names -/
theorem fld_w {K : PySem.W.Frag} {M : List Addr} {H : Hp} (f : Tx) : ∀ {fs : List (Str × V)} {vs : List D} {d : D}, RWL K M H vs (fs.map fun p => p.2) → fldR f (fs.map fun p => p.1.cps.toList) vs = some d → ∃ v, fs.lookup (tx f) = some v ∧ RW K M H d v
  | [], vs, d, _, e => by cases vs <;> cases e
  | p :: fs, vs, d, h, e => by
    cases vs with
    | nil => cases e
    | cons w ws =>
      obtain ⟨v, us, q, h1, h2⟩ := h
      cases q
      have e : (if p.1.cps.toList = f then some w else fldR f (fs.map fun p => p.1.cps.toList) ws) = some d := e
      by_cases hf : p.1.cps.toList = f
      · rw [if_pos hf] at e
        cases e
        refine ⟨p.2, ?_, h1⟩
        have ep : p.1 = tx f := by rw [← hf]
        obtain ⟨p1, p2⟩ := p
        cases ep
        exact List.lookup_cons_self
      · rw [if_neg hf] at e
        obtain ⟨v, e1, e2⟩ := fld_w f h2 e
        refine ⟨v, ?_, e2⟩
        obtain ⟨p1, p2⟩ := p
        rw [List.lookup_cons, beq_eq_false_iff_ne.mpr (fun z => hf (by rw [← z]))]
        exact e1
theorem lookup_no {m : Tx} : ∀ {fs : List (Str × V)}, (fs.map fun p => p.1.cps.toList).contains m = false → fs.lookup (tx m) = none
  | [], _ => rfl
  | p :: fs, h => by
    rw [List.map_cons, List.contains_cons, Bool.or_eq_false_iff] at h
    obtain ⟨p1, p2⟩ := p
    rw [List.lookup_cons, beq_eq_false_iff_ne.mpr (fun z => ?_)]
    · exact lookup_no h.2
    · have : m = p1.cps.toList := by rw [← z]
      rw [this] at h
      simp at h
theorem flR_ok {Ω : Om} {cs : List Tx} {f : Tx} {x d : D} (h : flR Ω cs f x = .ok d) : ∃ l k ns ws, x = .loc l ∧ Ω[l]? = some (.ins k ns ws) ∧ cs.contains k = true ∧ fldR f ns ws = some d := by
  cases x with
  | loc l =>
    have h : (match Ω[l]? with
      | some (.ins c ns ws) => if cs.contains c then ofO (fldR f ns ws) else .bad
      | _ => .bad) = R.ok d := h
    split at h
    · rename_i k ns ws e
      split at h
      · rename_i hk
        exact ⟨l, k, ns, ws, rfl, e, hk, ofO_ok h⟩
      · cases h
    · cases h
  | _ => cases h
theorem flR_noex {Ω : Om} {cs : List Tx} {f : Tx} {x : D} {t : Tx} : flR Ω cs f x ≠ .ex t := by
  intro h
  cases x with
  | loc l =>
    have h : (match Ω[l]? with
      | some (.ins c ns ws) => if cs.contains c then ofO (fldR f ns ws) else .bad
      | _ => .bad) = R.ex t := h
    split at h
    · split at h
      · exact ofO_noex h
      · cases h
    · cases h
  | _ => cases h
theorem cls_of (G : Gk Γ) {k f : Tx} (hc : clB Γ.tb k f = true) : Cls Γ.K (He.ga Γ.K (tx k)) ∧ NoAttr Γ.K (He.ga Γ.K (tx k)) (tx f) := by
  unfold clB at hc
  obtain ⟨p, hp, hq⟩ := List.any_eq_true.mp hc
  simp only [Bool.and_eq_true, decide_eq_true_eq] at hq
  obtain ⟨c1, c2⟩ := G.cls p hp
  rw [hq.1] at c1 c2
  exact ⟨c1, c2 f (by simpa using hq.2)⟩
theorem x2_fl (hf : Fx Γ n N sc X) (G : Gk Γ) {cs : List Tx} {o : E2} {f : Tx} {x : Expr} (ho : PE X x (spE2 Γ c W o)) (hcs : ∀ k, k ∈ cs → clB Γ.tb k f = true) (hb : attributeBase x (tx f) X.env (eval x X.env) = eval x X.env) : PE X (.Attribute x (tx f) pos) (spE2 Γ c W (.fl cs o f)) := by
  refine PE.mono (pe_fld ho hb) fun σ H Q q => ?_
  obtain ⟨M, ρ, Ω, S, L, p⟩ := q
  have p : PX Γ W M H σ ((ev2 c o ρ Ω).bind fun x Ω1 => liftR Ω1 (flR Ω1 cs f x)) _ := p
  refine ⟨M, ρ, Ω, S, L, p.bind.mono fun x Ω1 M1 H1 g1 S1 _ p v rx => ?_⟩
  cases e : flR Ω1 cs f x with
  | bad => rw [e] at p; exact (show False from p).elim
  | ex t => exact absurd e flR_noex
  | ok d =>
    rw [e] at p
    obtain ⟨l, k, ns, ws, rfl, e1, hk, ef⟩ := flR_ok e
    obtain ⟨a, ea, rfl⟩ := rx
    obtain ⟨a', u, f1, f2, f3⟩ := S1.cell l _ e1
    rw [ea] at f1; cases f1
    cases u with
    | ins C dx fs =>
      obtain ⟨q1, q2, q3⟩ := f3
      subst q1 q2
      obtain ⟨w, h1, h2⟩ := fld_w f q3 ef
      obtain ⟨c1, c2⟩ := cls_of G (hcs k (by simpa using hk))
      exact ⟨a, _, dx, fs, w, rfl, f2, by rw [hf.K]; exact c1, by rw [hf.K]; exact c2, h1, p M1 H1 Gr.refl S1 w h2⟩
    | _ => exact f3.elim
theorem mtOk_ok {Ω : Om} {cn m : Tx} {x : D} (h : mtOk Ω cn m x = true) : ∃ l ns ws, x = .loc l ∧ Ω[l]? = some (.ins cn ns ws) ∧ ns.contains m = false := by
  cases x with
  | loc l =>
    have h : (match Ω[l]? with
      | some (.ins c ns _) => decide (c = cn) && !ns.contains m
      | _ => false) = true := h
    split at h
    · rename_i k ns ws e
      simp only [Bool.and_eq_true, decide_eq_true_eq, Bool.not_eq_true'] at h
      obtain ⟨rfl, h'⟩ := h
      exact ⟨l, ns, ws, rfl, e, h'⟩
    · cases h
  | _ => cases h
/-- the tree of a method's call -/
theorem mth_tree {o : Expr} {m : Str} {apos pos : Pos} {args : List Expr} {env : Env} (hb : attributeBase o m env (eval o env) = eval o env) (hfew : methodCallForm (args.length + ([] : List Keyword).length) (backTo pos (starEach args env)) (backToKw pos (keywordEach [] env)) = true) (hline : (apos.endLine == pos.line) = true) :
    eval (.Call (.Attribute o m apos) args [] pos) env = (do
      let ov ← eval o env
      standAt apos.atName
      let (f, first) ← holding [ov] (getMethod ov m (do return (← importBound o env).getD true))
      callWith pos f first (backTo pos (starEach args env)) (backToKw pos (keywordEach [] env))) := by
  refine mcall_of hb fun ov => ?_
  unfold methodCall
  rw [hfew]
  have hp : methodCallPos true o env apos pos = pure pos := by
    unfold methodCallPos
    rw [hline]
    rfl
  rw [hp]
  rfl
def tMt (C : Addr) (m : Str) (sp : Sp) (E : L2.St → XK) (ta : TE) (t : TA) : TE := fun σ H Q => ta σ H fun x H1 => ∃ a dx fs, x = .ref a ∧ H1 a = some (.ins C dx fs) ∧ fs.lookup m = none ∧ t σ H1 fun vs H2 => sp (x :: vs) H2 Q (E σ)
theorem pe_mt {CX : CXT} {k : Nat} {C f : Addr} {fd : FuncData} {ps : List Str} {sp : Sp} {E : L2.St → XK} {o : Expr} {m : Str} {apos : Pos} {es : List Expr} {ta : TE} {t : TA} (he : PE X o ta) (cc : Cls X.K C) (hm : Meth X.K C m f) (F : FnOk X.prog X.w X.K X.mg X.base CX k f fd ps sp) (hr : Room k X.A) (hb : Binds X.K fd ps []) (hx : ∀ σ, PassesAt CX X σ (E σ)) (ha : PA X es t)
    (hst : ∀ e r, es = e :: r → starEach (e :: r) X.env = (false, eval e X.env) :: starEach r X.env ∧ (backTo pos (starEach r X.env)).any (·.1) = false) (h0 : es = [] → ∀ σ H Q, t σ H Q → Q [] H)
    (hbase : attributeBase o m X.env (eval o X.env) = eval o X.env) (hfew : methodCallForm (es.length + ([] : List Keyword).length) (backTo pos (starEach es X.env)) (backToKw pos (keywordEach [] X.env)) = true) (hline : (apos.endLine == pos.line) = true) :
    PE X (.Call (.Attribute o m apos) es [] pos) (tMt C m sp E ta t) := by
  refine ⟨fun pins s σ H Q I h => ?_⟩
  refine PySem.W.methodCall_KW (pl := do return (← importBound o X.env).getD true) (thn (he.run pins s σ H _ I h) fun u s1 ⟨x, H1, I1, rx, a, dx, fs, ex, ea, l, q⟩ => ?_) (mth_tree hbase hfew hline)
  subst ex
  obtain rfl : u = Value.ref a := rx
  refine getmeth_ok I1 ea cc hm l ?_
  cases es with
  | nil =>
    have q2 := h0 rfl σ H1 _ q
    exact PySem.W.callWith_K0 I1.kIn hm.kp (run_fnS (us := [.ref a]) (vs := [.ref a]) F hr hb (hx σ) I1 (.cons rfl .nil) q2)
  | cons e r =>
    obtain ⟨h1, h2⟩ := hst e r rfl
    refine PySem.W.callWith_K (first := [.ref a]) (h₀ := X.base) I.ok.mod.kin hm.kp (thn (ha.run pos pins s1 σ H1 _ I1 q) fun us s2 ⟨vs, H2, I2, r, q2⟩ => ⟨I2.kIn, ?_⟩) h1 h2
    exact run_fnS (us := .ref a :: us) (vs := .ref a :: vs) F hr hb (hx σ) I2 (.cons rfl r) q2
theorem x2_mt (hf : Fx Γ n N sc X) (G : Gk Γ) (C : Cok2 Γ n c) (tk : Takes X W) {cn m : Tx} {f : Nat} {o : E2} {es : Es2} {x : Expr} {xs : List Expr} {apos : Pos} (hn : Γ.tb.mt f = some (cn, m)) (hni : m ≠ [95, 95, 105, 110, 105, 116, 95, 95]) (hcl : Γ.tb.cs.any (fun p => decide (p.1 = cn)) = true) (ho : PE X x (spE2 Γ c W o)) (ha : PA X xs (spA2 Γ c W es)) (he0 : xs = [] → es = .nil)
    (hst : ∀ e r, xs = e :: r → starEach (e :: r) X.env = (false, eval e X.env) :: starEach r X.env ∧ (backTo pos (starEach r X.env)).any (·.1) = false)
    (hbase : attributeBase x (tx m) X.env (eval x X.env) = eval x X.env) (hfew : methodCallForm (xs.length + ([] : List Keyword).length) (backTo pos (starEach xs X.env)) (backToKw pos (keywordEach [] X.env)) = true) (hline : (apos.endLine == pos.line) = true) :
    PE X (.Call (.Attribute x (tx m) apos) xs [] pos) (spE2 Γ c W (.mt cn f m o es)) := by
  obtain ⟨fn, hfn⟩ := C.mdef f cn m hn
  obtain ⟨hs, fa, fd, ps, _, h1, h3, h4⟩ := C.mth f fn cn m hfn hn
  have F : FnOk X.prog X.w X.K X.mg X.base (L2.CX X.prog X.w) (2 * n) fa fd ps (sp2 Γ c f fn) := by rw [hf.prog, hf.w, hf.K, hf.mg, hf.base]; exact h4
  obtain ⟨pc, hpc, hq⟩ := List.any_eq_true.mp hcl
  have hq : pc.1 = cn := by simpa using hq
  have cc : Cls Γ.K (He.ga Γ.K (tx cn)) := by rw [← hq]; exact (G.cls pc hpc).1
  refine PE.mono (pe_mt (E := WE W) ho (C := He.ga Γ.K (tx cn)) (by rw [hf.K]; exact cc) (by rw [hf.K]; exact h1 hni) F (hf.room.mono (Nat.le_succ _)) (by rw [hf.K]; exact h3) (fun σ => passAt tk σ) ha hst (fun e σ H Q q => ?_) hbase hfew hline) fun σ H Q q => ?_
  · rw [he0 e] at q
    obtain ⟨M, ρ, Ω, S, L, p⟩ := q
    exact p M H Gr.refl S [] rfl
  obtain ⟨M, ρ, Ω, S, L, p⟩ := q
  have p : PX Γ W M H σ ((ev2 c o ρ Ω).bind fun x Ω1 => if mtOk Ω1 cn m x then (evs2 c es ρ Ω1).bind fun ds Ω2 => decX (c f (.lst Ω2 :: x :: ds)) else .bad) _ := p
  refine ⟨M, ρ, Ω, S, L, p.bind.mono fun x Ω1 M1 H1 g1 S1 _ p v rx => ?_⟩
  cases hm : mtOk Ω1 cn m x with
  | false => rw [hm] at p; exact (show False from p).elim
  | true =>
    rw [hm, if_pos rfl] at p
    obtain ⟨l, ns, ws, rfl, e1, hno⟩ := mtOk_ok hm
    obtain ⟨a, ea, rfl⟩ := id rx
    obtain ⟨a', u, f1, f2, f3⟩ := S1.cell l _ e1
    rw [ea] at f1; cases f1
    cases u with
    | ins C0 dx fs =>
      obtain ⟨q1, q2, q3⟩ := f3
      subst q1 q2
      refine ⟨a, dx, fs, rfl, f2, lookup_no hno, M1, ρ, Ω1, S1, L.gr g1 S, p.bind.mono fun ds Ω2 M2 H2 g2 S2 er p vs rvs => ?_⟩
      have rx2 := RW.gr g2 S1 (.loc l) (.ref a) rx
      have hl : (V.ref a :: vs).length = fn.ps := by
        rw [List.length_cons, ← rvs.length, ← List.length_cons (a := D.loc l)]
        exact C.has f Ω2 (.loc l :: ds) fn hfn hs fun z => by rw [z] at p; exact p
      refine ⟨M2, Ω2, .loc l :: ds, hl, S2, ⟨_, _, rfl, rx2, rvs⟩, ?_⟩
      cases e : decX (c f (.lst Ω2 :: .loc l :: ds)) with
      | bad => rw [e] at p; exact p
      | ok d Ω' => rw [e] at p; exact fun v M' H' g S' r => p M' H' g S' v r
      | ex x Ω' => rw [e] at p; exact fun M' H' g S' => p M' H' g S'
    | _ => exact f3.elim
/-! ### a new thing -/
def tMkS (C : Addr) (sp : Sp) (E : L2.St → XK) (t : TA) : TE := fun σ H Q => t σ H fun vs H1 => ∀ x dx, H1 x = none → H1 dx = none → dx ≠ x →
  sp (.ref x :: vs) (upd (upd H1 dx (.own x)) x (.ins C dx [])) (fun v H2 => v = .non ∧ Q (.ref x) H2) (E σ)
theorem run_mkS {CX : CXT} {k : Nat} {C f : Addr} {fd : FuncData} {ps : List Str} {sp : Sp} {E : XK} {pins : List (Addr × Obj)} {σ : L2.St} {H : Hp} {s : Shared} {Q : VK} {us : List Value} {vs : List V} (M : Mk X.K C f) (F : FnOk X.prog X.w X.K X.mg X.base CX k f fd ps sp) (hr : Room (k + 1) X.A) (hb : Binds X.K fd ps [])
    (hx : PassesAt CX X σ E) (I : Inv X pins σ H s) (r : Vals vs us)
    (h : ∀ x dx, H x = none → H dx = none → dx ≠ x → sp (.ref x :: vs) (upd (upd H dx (.own x)) x (.ins C dx [])) (fun v H2 => v = .non ∧ Q (.ref x) H2) E) :
    wpAny (model X.prog X.w) X.A (call (.ref C) us) (EP X pins σ Q) X.xe s := by
  have hq := h (s.heap.objs.size + 1) s.heap.objs.size (I.hok.fresh (Nat.le_succ _)) (I.hok.fresh (Nat.le_refl _)) (Nat.ne_of_lt (Nat.lt_succ_self _))
  have J := Inv.made (C := C) I
  have r2 : Vals (V.ref (s.heap.objs.size + 1) :: vs) (Value.ref (s.heap.objs.size + 1) :: us) := .cons rfl r
  have hl : (Value.ref (s.heap.objs.size + 1) :: us).length = ps.length := by
    have e := r2.length
    rw [F.len _ _ _ _ hq] at e
    exact e.symm
  have b := hb _ (Value.ref (s.heap.objs.size + 1) :: us) J.kIn (by rw [List.append_nil]; exact hl)
  rw [List.append_nil] at b
  refine wpAny_call (make_map (f := f) I.kIn M.makes M.init (beq_iff_eq.mp M.fn) (codeAny_mono (F.run _ X.stack _ _ ⟨Value.ref (s.heap.objs.size + 1) :: us, []⟩ (Value.ref (s.heap.objs.size + 1) :: us) _ _ E (hr.make C us []) (J.env0.make C us []) b r2 hq) fun r s' hq' => ?_))
  cases r with
  | error e => exact hx pins _ _ e s' J hq'
  | ok fl =>
    cases fl with
    | ret u =>
      obtain ⟨v, H', J3, rv, ev, q3⟩ := J.after hq'
      subst ev
      exact ⟨rv, ⟨V.ref (s.heap.objs.size + 1), H', J3, rfl, q3⟩⟩
    | next => exact False.elim hq'
    | brk => exact False.elim hq'
    | cont => exact False.elim hq'
theorem x2_mk (hf : Fx Γ n N sc X) (C : Cok2 Γ n c) (tk : Takes X W) {cn : Tx} {f : Nat} {es : Es2} {e : Expr} {xs : List Expr} {p : Pos} (hn : Γ.tb.mt f = some (cn, [95, 95, 105, 110, 105, 116, 95, 95])) (hg : gloB sc (tx cn) = true) (hd : dbgB (tx cn) = true)
    (ha : PA X (e :: xs) (spA2 Γ c W es)) (he : starEach (e :: xs) X.env = (false, eval e X.env) :: starEach xs X.env) (hpl : (backTo pos (starEach xs X.env)).any (·.1) = false) :
    PE X (.Call (.Name (tx cn) p) (e :: xs) [] pos) (spE2 Γ c W (.mk cn f es)) := by
  obtain ⟨fn, hfn⟩ := C.mdef f cn _ hn
  obtain ⟨hs, fa, fd, ps, h0, _, h3, h4⟩ := C.mth f fn cn _ hfn hn
  obtain ⟨h1, h2⟩ := h0 rfl
  have F : FnOk X.prog X.w X.K X.mg X.base (L2.CX X.prog X.w) (2 * n) fa fd ps (sp2 Γ c f fn) := by rw [hf.prog, hf.w, hf.K, hf.mg, hf.base]; exact h4
  have pe : PE X (.Call (.Name (tx cn) p) (e :: xs) [] pos) (tMkS (He.ga Γ.K (tx cn)) (sp2 Γ c f fn) (WE W) (spA2 Γ c W es)) := by
    refine ⟨fun pins s σ H Q I h => ?_⟩
    refine wpAny_Call_Name_kw (ld_glob I (glo_of hf hg) (by rw [hf.mg]; exact h2) ?_ (dbg_of hd).1)
    refine PySem.W.callWith_K (h₀ := X.base) I.ok.mod.kin (by rw [hf.K]; exact h1.kp) (thn (ha.run pos pins s σ H _ I h) fun us s1 ⟨vs, H1, I1, r, q⟩ => ⟨I1.kIn, ?_⟩) he hpl
    exact run_mkS (by rw [hf.K]; exact h1) F hf.room (by rw [hf.K]; exact h3) (passAt tk σ) I1 r q
  refine PE.mono pe fun σ H Q q => ?_
  obtain ⟨M, ρ, Ω, S, L, p⟩ := q
  have p : PX Γ W M H σ ((evs2 c es ρ Ω).bind fun ds Ω1 => mkR Ω1.length (decX (c f (.lst (Ω1 ++ [.ins cn [] []]) :: .loc Ω1.length :: ds)))) _ := p
  refine ⟨M, ρ, Ω, S, L, p.bind.mono fun ds Ω1 M1 H1 g1 S1 er p vs rvs => fun x dx hx hdx hne => ?_⟩
  have hdx' : upd H1 dx (.own x) x = none := by rw [upd_ne (Ne.symm hne)]; exact hx
  have sm : Same H1 (upd (upd H1 dx (.own x)) x (.ins (He.ga Γ.K (tx cn)) dx [])) := (same_upd hdx).trans (same_upd hdx')
  obtain ⟨S', gr⟩ := S1.push sm hx (o := .ins cn [] []) (u := .ins (He.ga Γ.K (tx cn)) dx []) upd_same ⟨rfl, rfl, rfl⟩
  have rl : RW Γ.K (M1 ++ [x]) (upd (upd H1 dx (.own x)) x (.ins (He.ga Γ.K (tx cn)) dx [])) (.loc Ω1.length) (.ref x) := ⟨x, by
    rw [← S1.len, List.getElem?_append_right (Nat.le_refl _)]
    simp, rfl⟩
  have hl : (V.ref x :: vs).length = fn.ps := by
    rw [List.length_cons, ← rvs.length, ← List.length_cons (a := D.loc Ω1.length)]
    exact C.has f (Ω1 ++ [.ins cn [] []]) (.loc Ω1.length :: ds) fn hfn hs fun z => by rw [z] at p; exact p
  refine ⟨M1 ++ [x], Ω1 ++ [.ins cn [] []], .loc Ω1.length :: ds, hl, S', ⟨_, _, rfl, rl, RWL.gr gr S1 ds vs rvs⟩, ?_⟩
  cases ed : decX (c f (.lst (Ω1 ++ [.ins cn [] []]) :: .loc Ω1.length :: ds)) with
  | bad => rw [ed] at p; exact p
  | ok d Ω' =>
    rw [ed] at p
    intro v M' H' g S2 r
    cases d with
    | non =>
      have r : v = .non := r
      exact ⟨r, p M' H' (gr.trans g) S2 _ (RW.gr g S' (.loc Ω1.length) (.ref x) rl)⟩
    | _ => exact (show False from p).elim
  | ex t Ω' =>
    rw [ed] at p
    exact fun M' H' g S2 => p M' H' (gr.trans g) S2
theorem popR2_ok {Ω Ω' : Om} {x d : D} (h : popR2 Ω x = .ok d Ω') : ∃ l ws, x = .loc l ∧ Ω[l]? = some (.lst ws) ∧ ws.getLast? = some d ∧ Ω' = Ω.set l (.lst ws.dropLast) := by
  cases x with
  | loc l =>
    have h : (match Ω[l]? with
      | some (.lst ws) => (match ws.getLast? with
        | some w => XR.ok w (Ω.set l (.lst ws.dropLast))
        | none => .bad)
      | _ => .bad) = XR.ok d Ω' := h
    split at h
    · rename_i ws e
      split at h
      · rename_i w e2
        cases h
        exact ⟨l, ws, rfl, e, e2, rfl⟩
      · cases h
    · cases h
  | _ => cases h
theorem popR2_noex {Ω Ω' : Om} {x : D} {t : Tx} : popR2 Ω x ≠ .ex t Ω' := by
  intro h
  cases x with
  | loc l =>
    have h : (match Ω[l]? with
      | some (.lst ws) => (match ws.getLast? with
        | some w => XR.ok w (Ω.set l (.lst ws.dropLast))
        | none => .bad)
      | _ => .bad) = XR.ex t Ω' := h
    split at h
    · split at h <;> cases h
    · cases h
  | _ => cases h
theorem RWL.dropLast {K : PySem.W.Frag} {M : List Addr} {H : Hp} : ∀ {ds : List D} {xs : List V}, RWL K M H ds xs → RWL K M H ds.dropLast xs.dropLast
  | [], _, h => by
    have h : _ = _ := h
    subst h
    rfl
  | [d], _, h => by
    obtain ⟨v, vs, rfl, _, h2⟩ := h
    have h2 : vs = [] := h2
    subst h2
    rfl
  | d :: e :: ds, _, h => by
    obtain ⟨v, vs, rfl, h1, h2⟩ := h
    obtain ⟨w, ws, rfl, h3, h4⟩ := id h2
    exact ⟨v, _, rfl, h1, RWL.dropLast h2⟩
theorem x2_pp {o : E2} {x : Expr} {apos : Pos} (ho : PE X x (spE2 Γ c W o)) (hbase : attributeBase x "pop" X.env (eval x X.env) = eval x X.env) (hline : (apos.endLine == pos.line) = true) : PE X (.Call (.Attribute x "pop" apos) [] [] pos) (spE2 Γ c W (.pp o)) := by
  refine PE.mono (pe_bm0 PySem.F.plainAttrs_list PySem.F.slot_list_pop PySem.F.type_list_pop mt_pop ho hbase hline) fun σ H Q q => ?_
  obtain ⟨M, ρ, Ω, S, L, p⟩ := q
  have p : PX Γ W M H σ ((ev2 c o ρ Ω).bind fun x Ω1 => popR2 Ω1 x) _ := p
  refine ⟨M, ρ, Ω, S, L, p.bind.mono fun x Ω1 M1 H1 g1 S1 _ p v rx => ?_⟩
  cases e : popR2 Ω1 x with
  | bad => rw [e] at p; exact (show False from p).elim
  | ex t Ω' => exact absurd e popR2_noex
  | ok d Ω' =>
    rw [e] at p
    obtain ⟨l, ws, rfl, e1, e2, rfl⟩ := popR2_ok e
    obtain ⟨a, ea, rfl⟩ := rx
    obtain ⟨a', u, f1, f2, f3⟩ := S1.cell l _ e1
    rw [ea] at f1; cases f1
    cases u with
    | lst xs =>
      have f3 : RWL Γ.K M1 H1 ws xs := f3
      rw [List.getLast?_eq_getElem?] at e2
      obtain ⟨w, h1, h2⟩ := f3.get e2
      rw [f3.length] at h1
      obtain ⟨S', gr⟩ := S1.put ea (o := .lst ws.dropLast) (u := .lst xs.dropLast) fun {H'} g => (RWL.gr g S1 ws xs f3).dropLast
      exact ⟨.inl ⟨rfl, xs, .inl (.inl f2)⟩, a, xs, w, rfl, rfl, f2, h1, p M1 _ gr S' w (RW.gr gr S1 d w h2)⟩
    | _ => exact f3.elim
end
end Pw

/-! text PwV2 -/
/-! the second language: statements -/
namespace Pw
open PySem PySem.Spec PyProof.Rows L2

def Post2 (Γ : Ctx) (W : WX) (D : Ends) (M : List Addr) (H : Hp) : Fl2 → Prop
  | .nx ρ' Ω' => ∀ σ' M' H', Gr M H M' H' → SI Γ.K M' H' Ω' → SlW Γ.K M' H' σ' ρ' → D.nx σ' H'
  | .ret d Ω' => ∀ v M' H', Gr M H M' H' → SI Γ.K M' H' Ω' → RW Γ.K M' H' d v → D.rt v H'
  | .brk ρ' Ω' => ∀ σ' M' H', Gr M H M' H' → SI Γ.K M' H' Ω' → SlW Γ.K M' H' σ' ρ' → D.bk σ' H'
  | .ct ρ' Ω' => ∀ σ' M' H', Gr M H M' H' → SI Γ.K M' H' Ω' → SlW Γ.K M' H' σ' ρ' → D.ct σ' H'
  | .ex x ρ' Ω' => ∀ σ' M' H', Gr M H M' H' → SI Γ.K M' H' Ω' → SlW Γ.K M' H' σ' ρ' → W (Γ.cl x) none σ' H'
  | .bad => False
theorem Post2.gr {Γ : Ctx} {W : WX} {D : Ends} {M M1 : List Addr} {H H1 : Hp} (g : Gr M H M1 H1) {f : Fl2} (p : Post2 Γ W D M H f) : Post2 Γ W D M1 H1 f := by
  cases f with
  | nx ρ' Ω' => exact fun σ' M' H' g' => p σ' M' H' (g.trans g')
  | ret d Ω' => exact fun v M' H' g' => p v M' H' (g.trans g')
  | brk ρ' Ω' => exact fun σ' M' H' g' => p σ' M' H' (g.trans g')
  | ct ρ' Ω' => exact fun σ' M' H' g' => p σ' M' H' (g.trans g')
  | ex x ρ' Ω' => exact fun σ' M' H' g' => p σ' M' H' (g.trans g')
  | bad => exact p
def spS2 (Γ : Ctx) (c : Nat → List D → R D) (W : WX) (s : S2) : TS := fun D σ H => ∃ M ρ Ω, SI Γ.K M H Ω ∧ SlW Γ.K M H σ ρ ∧ Post2 Γ W D M H (evS2 c s ρ Ω)
def spSs2 (Γ : Ctx) (c : Nat → List D → R D) (W : WX) (s : Ss2) : TS := fun D σ H => ∃ M ρ Ω, SI Γ.K M H Ω ∧ SlW Γ.K M H σ ρ ∧ Post2 Γ W D M H (evSs2 c s ρ Ω)
/-- a target takes a value, by places -/
theorem setAll_w {K : PySem.W.Frag} {M : List Addr} {H : Hp} : ∀ {is : List Nat} {ds : List D} {xs : List V} {σ : L2.St} {ρ ρ' : Sl}, setAll is ds ρ = some ρ' → RWL K M H ds xs → SlW K M H σ ρ → xs.length = is.length ∧ SlW K M H (setVs is xs σ) ρ'
  | [], [], xs, σ, ρ, ρ', h, r, L => by
    cases h
    have r : xs = [] := r
    subst r
    exact ⟨rfl, L⟩
  | [], _ :: _, _, _, _, _, h, _, _ => by cases h
  | _ :: _, [], _, _, _, _, h, _, _ => by cases h
  | i :: is, d :: ds, xs, σ, ρ, ρ', h, r, L => by
    obtain ⟨v, vs, rfl, r1, r2⟩ := r
    obtain ⟨h1, h2⟩ := setAll_w (is := is) (ds := ds) h r2 (L.set r1)
    exact ⟨by rw [List.length_cons, List.length_cons, h1], h2⟩
theorem tg_w {K : PySem.W.Frag} {M : List Addr} {H : Hp} {tg : Tg} {d : D} {v : V} {σ : L2.St} {ρ ρ' : Sl} {Q : L2.St → Hp → Prop} (hb : bindTg tg d ρ = some ρ') (r : RW K M H d v) (L : SlW K M H σ ρ) (q : ∀ σ', SlW K M H σ' ρ' → Q σ' H) : gTg K tg v σ H Q := by
  cases tg with
  | nm i =>
    cases hb
    exact q _ (L.set r)
  | tp is =>
    cases d with
    | tup ds =>
      obtain ⟨a, xs, e, hq, g⟩ := r
      obtain ⟨h1, h2⟩ := setAll_w hb g L
      exact ⟨a, xs, e, hq.1, h1, gSet_ok is xs σ h1 (q _ h2)⟩
    | _ => cases hb
theorem pg_raw {X : Cx} (nd : X.N.Nodup) (hc : X.calm = true) {tg : Tg} {e : Expr} (h : StoT X tg e) : PG X e (gTg X.K tg) := by
  cases h with
  | nm h => exact pg_name nd h.1 h.2.1 h.2.2
  | tp h => exact pg_tup hc (pgs_of nd h) (stos_len h) (stos_star h)
section
variable {Γ : Ctx} {c : Nat → List D → R D} {W : WX} {n : Nat} {N : List Str} {sc : Scope} {X : Cx} {pos : Pos}
theorem pg_def2 (hf : FxS Γ n N sc X) {tg : Tg} {e : Expr} (h : tgB N sc tg e = true) : PG X e (gTg X.K tg) :=
  pg_raw (by rw [hf.fx.eN]; exact hf.fx.nd) hf.fx.calm (stot_by (fun i x a b => sto_def hf a b) h)
/-- an expression in a statement -/
theorem in2 {A : Type} {r : XR A} {k : A → Om → Fl2} {ρ : Sl} {Dd : Ends} {M : List Addr} {σ : L2.St} {H : Hp} {Ω : Om} (S : SI Γ.K M H Ω) (L : SlW Γ.K M H σ ρ) (p : Post2 Γ W Dd M H (thenX ρ r k)) :
    PX Γ W M H σ r fun a Ω1 M1 H1 => SI Γ.K M1 H1 Ω1 ∧ SlW Γ.K M1 H1 σ ρ ∧ Gr M H M1 H1 ∧ Post2 Γ W Dd M1 H1 (k a Ω1) := by
  cases r with
  | ok a Ω' => exact fun M' H' g S' => ⟨S', L.gr g S, g, Post2.gr g p⟩
  | ex x Ω' => exact fun M' H' g S' => p σ M' H' g S' (L.gr g S)
  | bad => exact p
theorem set_core2 {i : Nat} {e : E2} {D : Ends} {σ : L2.St} {H : Hp} (q : spS2 Γ c W (.asg i e) D σ H) : spE2 Γ c W e σ H fun v H1 => D.nx (σ.set i (some v)) H1 := by
  obtain ⟨M, ρ, Ω, S, L, p⟩ := q
  have p : Post2 Γ W D M H (thenX ρ (ev2 c e ρ Ω) fun d Ω1 => .nx (ρ.set i (some d)) Ω1) := p
  refine ⟨M, ρ, Ω, S, L, (in2 S L p).mono fun d Ω1 M1 H1 g1 S1 _ h v rv => ?_⟩
  obtain ⟨_, L1, _, p1⟩ := h
  exact p1 _ M1 H1 Gr.refl S1 (L1.set rv)
theorem s2_asg (hf : FxS Γ n N sc X) {i : Nat} {x : Str} {e : E2} {v : Expr} {p : Pos} (hN : N[i]? = some x) (hx : locB sc x = true) (he : PE X v (spE2 Γ c W e)) (hs : swapsWith v (some (.Name x p)) pos.line X.env = pure false) : PS X (.Assign [.Name x p] v pos) (spS2 Γ c W (.asg i e)) := by
  obtain ⟨s1, s2, s3⟩ := sto_def hf hN hx
  exact PS.mono (ps_set (by rw [hf.fx.eN]; exact hf.fx.nd) s1 s2 he hs s3) fun D σ H q => set_core2 q
theorem s2_asgLc (hf : FxS Γ n N sc X) {i : Nat} {x : Str} {p : Pos} {e : E2} {elt : E} {tg : Tg} {it : Itr} {cond : Eo} {el tge ite : Expr} {ifs : List Expr} {scope : Scope} {pv : Pos} (hN : N[i]? = some x) (hl : sc.names.lookup x = some .local)
    (core : ∀ σ H Q, spE2 Γ c W e σ H Q → spE Γ c W (.comp elt tg it cond) σ H Q)
    (hsw : swapsWith (.ListComp el [⟨tge, ite, ifs, 0⟩] scope pv) (some (.Name x p)) pos.line X.env = pure true) (hi : PI X tge ite (spI Γ c W it))
    (ok : BlkOk X.N X.env.scope scope (ownOf N (tgIx tg))) (hown : (ownOf N (tgIx tg)).map (·.2) = tgIx tg)
    (hg : ∀ (s : Shared) (H : Hp) (C : Addr) (cl : List (Str × Addr)) (fp : List Addr), PG (X.blk s H scope (compEnvC scope cl C X.env) fp) tge (spG Γ.K tg))
    (ht : ∀ (s : Shared) (H : Hp) (C : Addr) (cl : List (Str × Addr)) (fp : List Addr), PTs (X.blk s H scope (compEnvC scope cl C X.env) fp) ifs (spCl Γ c W0 cond))
    (he : ∀ (s : Shared) (H : Hp) (C : Addr) (cl : List (Str × Addr)) (fp : List Addr), PE (X.blk s H scope (compEnvC scope cl C X.env) fp) el (spE Γ c W0 elt))
    (hs : ∀ x, foldedSetIterable ite X.env x = pure x) : PS X (.Assign [.Name x p] (.ListComp el [⟨tge, ite, ifs, 0⟩] scope pv) pos) (spS2 Γ c W (.asg i e)) := by
  refine PS.mono (ps_setLc (i := i) hf.fx.calm (by rw [hf.fx.eN]; exact hf.fx.nd) (by rw [hf.fx.eN]; exact hN) (by rw [hf.fx.eS]; exact hl) hsw hi ok hg ht he hs) fun D σ H q => ?_
  have z := comp_core (core σ H _ (set_core2 q))
  rw [hown]
  exact z
theorem s2_asgT (hf : FxS Γ n N sc X) {is : List Nat} {e : E2} {tge v : Expr} (hg : PG X tge (gTg X.K (.tp is))) (he : PE X v (spE2 Γ c W e))
    (h1 : swapsWithSole [tge] v pos.line X.env = pure false) (h2 : swappedStores [tge] v X.env = pure none) (h3 : (assignEach [tge] X.env).map (·.2) = [assign tge X.env]) :
    PS X (.Assign [tge] v pos) (spS2 Γ c W (.asgT is e)) := by
  refine PS.mono (ps_asg he hg h1 h2 h3) fun Dd σ H q => ?_
  obtain ⟨M, ρ, Ω, S, L, p⟩ := q
  have p : Post2 Γ W Dd M H (thenX ρ (ev2 c e ρ Ω) fun d Ω1 => match bindTg (.tp is) d ρ with
    | some ρ' => .nx ρ' Ω1
    | none => .bad) := p
  refine ⟨M, ρ, Ω, S, L, (in2 S L p).mono fun d Ω1 M1 H1 g1 S1 _ h v rv => ?_⟩
  obtain ⟨_, L1, _, p1⟩ := h
  cases hb : bindTg (.tp is) d ρ with
  | none => rw [hb] at p1; exact (show False from p1).elim
  | some ρ' =>
    rw [hb] at p1
    rw [hf.fx.K]
    exact tg_w hb rv L1 fun σ' L' => p1 σ' M1 H1 Gr.refl S1 L'
theorem s2_ex {e : E2} {v : Expr} (he : PE X v (spE2 Γ c W e)) (hs : swapsWith v none pos.line X.env = pure false) : PS X (.Expr v pos) (spS2 Γ c W (.ex e)) := by
  refine PS.mono (ps_expr he hs) fun Dd σ H q => ?_
  obtain ⟨M, ρ, Ω, S, L, p⟩ := q
  have p : Post2 Γ W Dd M H (thenX ρ (ev2 c e ρ Ω) fun d Ω1 => .nx ρ Ω1) := p
  refine ⟨M, ρ, Ω, S, L, (in2 S L p).mono fun d Ω1 M1 H1 g1 S1 _ h v rv => ?_⟩
  obtain ⟨_, L1, _, p1⟩ := h
  exact p1 σ M1 H1 Gr.refl S1 L1
theorem s2_ret {e : E2} {v : Expr} (he : PE X v (spE2 Γ c W e)) : PS X (.Return (some v) pos) (spS2 Γ c W (.ret e)) := by
  refine PS.mono (ps_ret he) fun Dd σ H q => ?_
  obtain ⟨M, ρ, Ω, S, L, p⟩ := q
  have p : Post2 Γ W Dd M H (thenX ρ (ev2 c e ρ Ω) fun d Ω1 => .ret d Ω1) := p
  refine ⟨M, ρ, Ω, S, L, (in2 S L p).mono fun d Ω1 M1 H1 g1 S1 _ h v rv => ?_⟩
  obtain ⟨_, L1, _, p1⟩ := h
  exact p1 v M1 H1 Gr.refl S1 rv
/-- a test in a statement -/
theorem in2T {t : E} {k : Bool → Om → Fl2} {ρ : Sl} {Dd : Ends} {M : List Addr} {σ : L2.St} {H : Hp} {Ω : Om} {Q : Bool → Hp → Prop} (S : SI Γ.K M H Ω) (L : SlW Γ.K M H σ ρ) (p : Post2 Γ W Dd M H (thenX ρ (liftR Ω (tstE c t ρ Ω)) k))
    (hk : ∀ b H', Same H H' → SI Γ.K M H' Ω → SlW Γ.K M H' σ ρ → Post2 Γ W Dd M H' (k b Ω) → Q b H') : spT Γ c W t σ H Q := by
  have g := seen_ok S L
  unfold tstE at p
  refine spT.mk g (fun z => by rw [z] at p; exact p) (fun x z H' s' => ?_) fun d z H' s' => ?_
  · rw [z] at p
    exact p σ M H' (Gr.same s') (S.same s') (L.gr (Gr.same s') S)
  · rw [z] at p
    exact hk d.truth H' s' (S.same s') (L.gr (Gr.same s') S) (Post2.gr (Gr.same s') p)
theorem s2_if {t : E} {a b : Ss2} {x : Expr} {y z : List Stmt} (ht : PT X x (spT Γ c W t)) (ha : PSs X y (spSs2 Γ c W a)) (hb : PSs X z (spSs2 Γ c W b)) : PS X (.If x y z pos) (spS2 Γ c W (.ife t a b)) := by
  refine PS.mono (ps_if ht ha hb) fun Dd σ H q => ?_
  obtain ⟨M, ρ, Ω, S, L, p⟩ := q
  have p : Post2 Γ W Dd M H (thenX ρ (liftR Ω (tstE c t ρ Ω)) fun k _ => if k then evSs2 c a ρ Ω else evSs2 c b ρ Ω) := p
  refine in2T S L p fun k H' s' S' L' p' => ?_
  cases k with
  | true => exact iteT ⟨M, ρ, Ω, S', L', p'⟩
  | false => exact iteF ⟨M, ρ, Ω, S', L', p'⟩
/-- a test with a truth of its own -/
def spB (Γ : Ctx) (c : Nat → List D → R D) (W : WX) (t : E2) : TT := fun σ H Q => ∃ M ρ Ω, SI Γ.K M H Ω ∧ SlW Γ.K M H σ ρ ∧ PX Γ W M H σ (ev2 c t ρ Ω) fun d _ _ H' => match d with
  | .bl k => Q k H'
  | _ => False
theorem t2_val {t : E2} {x : Expr} (h : PE X x (spE2 Γ c W t)) (he : ∀ whole, isTrue x X.env whole = (do let v ← whole; standAt x.pos; holding [v] (truthy v))) : PT X x (spB Γ c W t) := by
  refine PT.mono (pt_truth h he) fun σ H Q q => ?_
  obtain ⟨M, ρ, Ω, S, L, p⟩ := q
  refine ⟨M, ρ, Ω, S, L, p.mono fun d Ω1 M1 H1 g1 S1 _ p v rv => ?_⟩
  cases d with
  | bl k =>
    have rv : v = .bl k := rv
    subst rv
    exact ⟨k, rfl, p⟩
  | _ => exact (show False from p).elim
theorem t2_not {t : E2} {x : Expr} (h : PT X x (spB Γ c W t)) : PT X (.UnaryOp .Not x pos) (spB Γ c W (.nt t)) := by
  refine PT.mono (pt_not h) fun σ H Q q => ?_
  obtain ⟨M, ρ, Ω, S, L, p⟩ := q
  have p : PX Γ W M H σ ((ev2 c t ρ Ω).bind fun x Ω1 => match x with
    | .bl b => XR.ok (D.bl (!b)) Ω1
    | _ => .bad) _ := p
  refine ⟨M, ρ, Ω, S, L, p.bind.mono fun d Ω1 M1 H1 g1 S1 _ p => ?_⟩
  cases d with
  | bl k => exact p M1 H1 Gr.refl S1
  | _ => exact (show False from p).elim
theorem t2_cp (hf : Fx Γ n N sc X) {op : Cm} {a b : E2} {l r : Expr} (ha : PE X l (spE2 Γ c W a)) (hb : PE X r (spE2 Γ c W b)) (hm : behindInMarks (cmr op) r = false) : PT X (.Compare l [cmr op] [r] pos) (spB Γ c W (.cp op a b)) := by
  refine PT.mono (pt_cmpR (cmp_rule hf.units op) ha hb hm) fun σ H Q q => ?_
  obtain ⟨M, ρ, Ω, S, L, p⟩ := q
  have p : PX Γ W M H σ ((ev2 c a ρ Ω).bind fun x Ω1 => (ev2 c b ρ Ω1).bind fun y Ω2 => if x.pl && y.pl then liftR Ω2 (mapR D.bl (cmpB op x y)) else .bad) _ := p
  refine ⟨M, ρ, Ω, S, L, p.bind.mono fun x Ω1 M1 H1 g1 S1 _ p v rx => ?_⟩
  refine ⟨M1, ρ, Ω1, S1, L.gr g1 S, p.bind.mono fun y Ω2 M2 H2 g2 S2 _ p w ry => ?_⟩
  have rx := RW.gr g2 S1 x v rx
  cases hpl : x.pl && y.pl with
  | false => rw [hpl] at p; exact (show False from p).elim
  | true =>
    rw [hpl] at p
    have p : PX Γ W M2 H2 σ (liftR Ω2 (mapR D.bl (cmpB op x y))) _ := p
    rw [Bool.and_eq_true] at hpl
    cases e : cmpB op x y with
    | bad => rw [e] at p; exact (show False from p).elim
    | ex t => exact absurd e cmpB_noex
    | ok k =>
      rw [e] at p
      rw [hf.K]
      exact ⟨x, y, k, (RW.to_rp x v hpl.1 rx).em.relax, (RW.to_rp y w hpl.2 ry).em.relax, e, k, rfl, p M2 H2 Gr.refl S2⟩
theorem t2_or {a b : E2} {x y : Expr} (ha : PT X x (spB Γ c W a)) (hb : PT X y (spB Γ c W b)) : PT X (.BoolOp .Or [x, y] pos) (spB Γ c W (.orr a b)) := by
  refine PT.mono (pw_or ha (pw_or1 hb)).pt fun σ H Q q => ?_
  obtain ⟨M, ρ, Ω, S, L, p⟩ := q
  have p : PX Γ W M H σ ((ev2 c a ρ Ω).bind fun x Ω1 => match x with
    | .bl true => XR.ok (D.bl true) Ω1
    | .bl false => ev2 c b ρ Ω1
    | _ => .bad) _ := p
  refine ⟨M, ρ, Ω, S, L, p.bind.mono fun d Ω1 M1 H1 g1 S1 _ p => ?_⟩
  cases d with
  | bl k =>
    cases k with
    | true => exact p M1 H1 Gr.refl S1
    | false => exact ⟨M1, ρ, Ω1, S1, L.gr g1 S, p⟩
  | _ => exact (show False from p).elim
theorem t2_rd {e : E} {x : Expr} (h : PT X x (spT Γ c W e)) : PT X x (spB Γ c W (.rd e)) := by
  refine PT.mono h fun σ H Q q => ?_
  obtain ⟨M, ρ, Ω, S, L, p⟩ := q
  have p : PX Γ W M H σ (liftR Ω ((evE c e (seen Ω ρ)).bind fun d => if d.noC then .ok d else .bad)) _ := p
  have g := seen_ok S L
  cases z : evE c e (seen Ω ρ) with
  | bad => rw [z] at p; exact (show False from p).elim
  | ex t =>
    rw [z] at p
    exact spT.mk g (by rw [z]; intro h; cases h) (fun y hy H' s' => by rw [z] at hy; cases hy; exact p M H' (Gr.same s') (S.same s')) fun d hd => by rw [z] at hd; cases hd
  | ok d =>
    rw [z, R.ok_bind] at p
    cases d with
    | bl k =>
      refine spT.mk g (by rw [z]; intro h; cases h) (fun y hy => by rw [z] at hy; cases hy) fun d hd H' s' => ?_
      rw [z] at hd
      cases hd
      exact p M H' (Gr.same s') (S.same s')
    | _ =>
      split at p
      · exact (show False from p M H Gr.refl S).elim
      · exact (show False from p).elim
theorem t2_pu {e : E} {x : Expr} (h : PT X x (spT Γ c W e)) : PT X x (spB Γ c W (.pu e)) := by
  refine PT.mono h fun σ H Q q => ?_
  obtain ⟨M, ρ, Ω, S, L, p⟩ := q
  have p : PX Γ W M H σ (liftR Ω (evE c e (pures ρ))) _ := p
  have g := pures_em L
  cases z : evE c e (pures ρ) with
  | bad => rw [z] at p; exact (show False from p).elim
  | ex t =>
    rw [z] at p
    exact spT.mk g (by rw [z]; intro h; cases h) (fun y hy H' s' => by rw [z] at hy; cases hy; exact p M H' (Gr.same s') (S.same s')) fun d hd => by rw [z] at hd; cases hd
  | ok d =>
    rw [z] at p
    cases d with
    | bl k =>
      refine spT.mk g (by rw [z]; intro h; cases h) (fun y hy => by rw [z] at hy; cases hy) fun d hd H' s' => ?_
      rw [z] at hd
      cases hd
      exact p M H' (Gr.same s') (S.same s')
    | _ => exact (show False from p M H Gr.refl S).elim
theorem s2_ifx {t : E2} {a b : Ss2} {x : Expr} {y z : List Stmt} (ht : PT X x (spB Γ c W t)) (ha : PSs X y (spSs2 Γ c W a)) (hb : PSs X z (spSs2 Γ c W b)) : PS X (.If x y z pos) (spS2 Γ c W (.ifx t a b)) := by
  refine PS.mono (ps_if ht ha hb) fun Dd σ H q => ?_
  obtain ⟨M, ρ, Ω, S, L, p⟩ := q
  have p : Post2 Γ W Dd M H (thenX ρ (ev2 c t ρ Ω) fun d Ω1 => match d with
    | .bl k => if k then evSs2 c a ρ Ω1 else evSs2 c b ρ Ω1
    | _ => .bad) := p
  refine ⟨M, ρ, Ω, S, L, (in2 S L p).mono fun d Ω1 M1 H1 g1 S1 _ h => ?_⟩
  obtain ⟨_, L1, _, p1⟩ := h
  cases d with
  | bl k =>
    cases k with
    | true => exact iteT ⟨M1, ρ, Ω1, S1, L1, p1⟩
    | false => exact iteF ⟨M1, ρ, Ω1, S1, L1, p1⟩
  | _ => exact (show False from p1).elim
theorem s2_whx (hf : FxS Γ n N sc X) {m : Nat} {t : E2} {body : Ss2} {te : Expr} {bd : List Stmt} (ht : PT X te (spB Γ c W t)) (hb : PSs X bd (spSs2 Γ c W body)) :
    PS X (.While te bd [] pos) (spS2 Γ c W (.whx m t body)) := by
  refine PS.mono (ps_while hf.pass ht hb) fun Dd σ H q => ?_
  obtain ⟨M, ρ, Ω, S, L, p⟩ := q
  have p : Post2 Γ W Dd M H (whxL2 (ev2 c t) (evSs2 c body) m ρ Ω) := p
  refine ⟨fun k σc Hc => ∃ Mc ρc Ωc, SI Γ.K Mc Hc Ωc ∧ SlW Γ.K Mc Hc σc ρc ∧ Post2 Γ W Dd Mc Hc (whxL2 (ev2 c t) (evSs2 c body) k ρc Ωc), ⟨m, M, ρ, Ω, S, L, p⟩, ?_⟩
  rintro k σc Hc ⟨Mc, ρc, Ωc, Sc, Lc, pc⟩
  cases k with
  | zero => exact (show False from pc).elim
  | succ k =>
    unfold whxL2 at pc
    refine ⟨Mc, ρc, Ωc, Sc, Lc, ?_⟩
    cases et : ev2 c t ρc Ωc with
    | bad => simp only [et] at pc; exact pc
    | ex x Ω0 =>
      simp only [et] at pc
      exact fun M' H' g S' => pc σc M' H' g S' (Lc.gr g Sc)
    | ok d Ω0 =>
      intro M' H' g S'
      have pc := Post2.gr g pc
      have L' := Lc.gr g Sc
      cases d with
      | bl b =>
        cases b with
        | false =>
          simp only [et] at pc
          show if false = true then _ else _
          rw [if_neg Bool.false_ne_true]
          exact pc σc M' H' Gr.refl S' L'
        | true =>
          simp only [et] at pc
          show if true = true then _ else _
          rw [if_pos rfl]
          refine ⟨fun σ' H2 => ∃ Mc ρc Ωc, SI Γ.K Mc H2 Ωc ∧ SlW Γ.K Mc H2 σ' ρc ∧ Post2 Γ W Dd Mc H2 (whxL2 (ev2 c t) (evSs2 c body) k ρc Ωc), fun σ' H2 h => ⟨k, Nat.lt_succ_self k, h⟩, M', ρc, Ω0, S', L', ?_⟩
          cases ze : evSs2 c body ρc Ω0 with
          | nx ρ3 Ω3 =>
            simp only [ze] at pc
            exact fun σ3 M3 H3 g3 S3 L3 => ⟨M3, ρ3, Ω3, S3, L3, Post2.gr g3 pc⟩
          | ct ρ3 Ω3 =>
            simp only [ze] at pc
            exact fun σ3 M3 H3 g3 S3 L3 => ⟨M3, ρ3, Ω3, S3, L3, Post2.gr g3 pc⟩
          | brk ρ3 Ω3 => simp only [ze] at pc; exact pc
          | ret d Ω3 => simp only [ze] at pc; exact pc
          | ex x ρ3 Ω3 => simp only [ze] at pc; exact pc
          | bad => simp only [ze] at pc; exact pc
      | _ => simp only [et] at pc; exact (show False from pc).elim
theorem fsetR2_ok {Ω Ω' : Om} {cs : List Tx} {f : Tx} {x d : D} (h : fsetR2 Ω cs f x d = some Ω') : ∃ l k ns ws, x = .loc l ∧ Ω[l]? = some (.ins k ns ws) ∧ ns.length < 900 ∧ cs.contains k = true ∧ Ω' = Ω.set l (.ins k (if ns.contains f then ns else ns ++ [f]) (putFd f d ns ws)) := by
  cases x with
  | loc l =>
    have h : (match Ω[l]? with
      | some (.ins c ns ws) => if Nat.blt ns.length 900 && cs.contains c then some (Ω.set l (.ins c (if ns.contains f then ns else ns ++ [f]) (putFd f d ns ws))) else none
      | _ => none) = some Ω' := h
    split at h
    · rename_i k ns ws e
      split at h
      · rename_i hl
        cases h
        rw [Bool.and_eq_true] at hl
        exact ⟨l, k, ns, ws, rfl, e, by simpa using hl.1, hl.2, rfl⟩
      · cases h
    · cases h
  | _ => cases h
theorem putF_w {K : PySem.W.Frag} {M : List Addr} {H : Hp} (f : Tx) {d : D} {v : V} (hd : RW K M H d v) : ∀ {fs : List (Str × V)} {ws : List D}, RWL K M H ws (fs.map fun p => p.2) →
    ((putF (tx f) v fs).map fun p => p.1.cps.toList) = (if (fs.map fun p => p.1.cps.toList).contains f then (fs.map fun p => p.1.cps.toList) else (fs.map fun p => p.1.cps.toList) ++ [f]) ∧ RWL K M H (putFd f d (fs.map fun p => p.1.cps.toList) ws) ((putF (tx f) v fs).map fun p => p.2)
  | [], ws, h => by
    have hw : ws = [] := by
      cases ws with
      | nil => rfl
      | cons w ws => obtain ⟨_, _, e, _⟩ := h; cases e
    subst hw
    exact ⟨by simp [putF, tx], RWL.one hd⟩
  | p :: fs, ws, h => by
    cases ws with
    | nil =>
      have h : (p :: fs).map (fun p => p.2) = [] := h
      simp at h
    | cons w ws =>
      obtain ⟨u, us, e, h1, h2⟩ := h
      cases e
      obtain ⟨p1, p2⟩ := p
      by_cases hf : p1.cps.toList = f
      · have ep : p1 = tx f := by rw [← hf]
        subst ep
        refine ⟨?_, ?_⟩
        · show List.map _ (if tx f = tx f then (tx f, v) :: fs else _) = _
          rw [if_pos rfl]
          simp [tx]
        · show RWL K M H (if (tx f).cps.toList = f then d :: ws else _) (List.map _ (if tx f = tx f then (tx f, v) :: fs else _))
          rw [if_pos hf, if_pos rfl]
          exact ⟨v, _, rfl, hd, h2⟩
      · obtain ⟨i1, i2⟩ := putF_w f hd (fs := fs) (ws := ws) h2
        have ne : p1 ≠ tx f := fun z => hf (by rw [z])
        refine ⟨?_, ?_⟩
        · show List.map _ (if p1 = tx f then _ else (p1, p2) :: putF (tx f) v fs) = _
          rw [if_neg ne, List.map_cons, i1]
          show _ = if (p1.cps.toList :: fs.map fun p => p.1.cps.toList).contains f then p1.cps.toList :: (fs.map fun p => p.1.cps.toList) else p1.cps.toList :: (fs.map fun p => p.1.cps.toList) ++ [f]
          rw [List.contains_cons, beq_eq_false_iff_ne.mpr (fun z => hf z.symm), Bool.false_or]
          split <;> rfl
        · show RWL K M H (if p1.cps.toList = f then _ else w :: putFd f d _ ws) (List.map _ (if p1 = tx f then _ else (p1, p2) :: putF (tx f) v fs))
          rw [if_neg hf, if_neg ne]
          exact ⟨p2, _, rfl, h1, i2⟩
theorem s2_fset (hf : FxS Γ n N sc X) (G : Gk Γ) {cs : List Tx} {o e : E2} {f : Tx} {ox v : Expr} {p2 : Pos} (ho : PE X ox (spE2 Γ c W o)) (he : PE X v (spE2 Γ c W e)) (hcs : ∀ k, k ∈ cs → clB Γ.tb k f = true)
    (hsw : swapsWith v (some (.Attribute ox (tx f) p2)) pos.line X.env = pure false) : PS X (.Assign [.Attribute ox (tx f) p2] v pos) (spS2 Γ c W (.fset cs o f e)) := by
  refine PS.mono (ps_fld ho he hsw) fun Dd σ H q => ?_
  obtain ⟨M, ρ, Ω, S, L, p⟩ := q
  have p : Post2 Γ W Dd M H (thenX ρ (ev2 c e ρ Ω) fun d Ω1 => thenX ρ (ev2 c o ρ Ω1) fun x Ω2 => nxO ρ (fsetR2 Ω2 cs f x d)) := p
  refine ⟨M, ρ, Ω, S, L, (in2 S L p).mono fun d Ω1 M1 H1 g1 S1 _ h vv rv => ?_⟩
  obtain ⟨_, L1, _, p1⟩ := h
  refine ⟨M1, ρ, Ω1, S1, L1, (in2 S1 L1 p1).mono fun x Ω2 M2 H2 g2 S2 _ h oo ro => ?_⟩
  obtain ⟨_, L2, _, p2⟩ := h
  have rv := RW.gr g2 S1 d vv rv
  cases ep : fsetR2 Ω2 cs f x d with
  | none => rw [ep] at p2; exact (show False from p2).elim
  | some Ω' =>
    rw [ep] at p2
    obtain ⟨l, k, ns, ws, rfl, e1, hl, hk, rfl⟩ := fsetR2_ok ep
    obtain ⟨a, ea, rfl⟩ := ro
    obtain ⟨a', u, f1, f2, f3⟩ := S2.cell l _ e1
    rw [ea] at f1; cases f1
    cases u with
    | ins C dx fs =>
      obtain ⟨q1, q2, q3⟩ := f3
      subst q1 q2
      obtain ⟨c1, c2⟩ := cls_of G (hcs k (by simpa using hk))
      rw [List.length_map] at hl
      obtain ⟨S3, g3⟩ := S2.put ea (o := .ins k (if (fs.map fun p => p.1.cps.toList).contains f then (fs.map fun p => p.1.cps.toList) else (fs.map fun p => p.1.cps.toList) ++ [f]) (putFd f d (fs.map fun p => p.1.cps.toList) ws)) (u := .ins (He.ga Γ.K (tx k)) dx (putF (tx f) vv fs)) fun {H'} g => by
        obtain ⟨i1, i2⟩ := putF_w f (RW.gr g S2 d vv rv) (RWL.gr g S2 ws _ q3)
        exact ⟨rfl, i1.symm, i2⟩
      exact ⟨a, _, dx, fs, rfl, f2, by rw [hf.fx.K]; exact c1, by rw [hf.fx.K]; exact c2, by omega, p2 σ M2 _ g3 S3 (L2.gr g3 S2)⟩
    | _ => exact f3.elim
theorem s2_brk : PS X (.Break pos) (spS2 Γ c W .brk) := PS.mono ps_break fun D σ H ⟨M, ρ, Ω, S, L, p⟩ => p σ M H Gr.refl S L
theorem s2_ct : PS X (.Continue pos) (spS2 Γ c W .ct) := PS.mono ps_continue fun D σ H ⟨M, ρ, Ω, S, L, p⟩ => p σ M H Gr.refl S L
theorem s2_pass : PS X (.Pass pos) (spS2 Γ c W .pass) := PS.mono ps_pass fun D σ H ⟨M, ρ, Ω, S, L, p⟩ => p σ M H Gr.refl S L
theorem ss2_nil : PSs X [] (spSs2 Γ c W .nil) := PSs.mono pss_nil fun D σ H ⟨M, ρ, Ω, S, L, p⟩ => p σ M H Gr.refl S L
theorem ss2_cons {s : S2} {ss : Ss2} {x : Stmt} {xs : List Stmt} (h1 : PS X x (spS2 Γ c W s)) (h2 : PSs X xs (spSs2 Γ c W ss)) : PSs X (x :: xs) (spSs2 Γ c W (.cons s ss)) := by
  refine PSs.mono (pss_cons h1 h2) fun D σ H q => ?_
  obtain ⟨M, ρ, Ω, S, L, p⟩ := q
  have p : Post2 Γ W D M H (match evS2 c s ρ Ω with | .nx ρ' Ω' => evSs2 c ss ρ' Ω' | r => r) := p
  refine ⟨M, ρ, Ω, S, L, ?_⟩
  cases e : evS2 c s ρ Ω with
  | nx ρ' Ω' =>
    rw [e] at p
    exact fun σ' M' H' g S' L' => ⟨M', ρ', Ω', S', L', Post2.gr g p⟩
  | ret d Ω' => rw [e] at p; exact p
  | brk ρ' Ω' => rw [e] at p; exact p
  | ct ρ' Ω' => rw [e] at p; exact p
  | ex x ρ' Ω' => rw [e] at p; exact p
  | bad => rw [e] at p; exact p
theorem s2_raise (hf : FxS Γ n N sc X) (G : Gk Γ) (tk : Takes X W) {t : Str} {x : Tx} {m : Str} {j : Nat} {p p2 cp : Pos} (hx : x ∈ Γ.tb.xs) (hg : gloB sc (tx x) = true) (hd : dbgB (tx x) = true) :
    PS X (.Raise (some (.Call (.Name (tx x) p) [.Constant (.str m) j p2] [] cp)) none pos) (spS2 Γ c W (.raise t x)) := by
  obtain ⟨e1, e2, e3, e4, e5⟩ := G.exc x hx
  refine PS.mono (ps_raise hf.fx.calm tk (pmk_own (C := He.ga Γ.K (tx x)) PySem.F.excBase_ValueError (by rw [hf.fx.K]; exact e2) (by rw [hf.fx.mg]; exact e1) (by rw [hf.fx.K]; exact e3) (raises_own (by rw [hf.fx.K]; exact e4) (by rw [hf.fx.K]; exact e5)) (glo_of hf.fx hg) (dbg_of hd).1)) fun D σ H q => ?_
  obtain ⟨M, ρ, Ω, S, L, p⟩ := q
  have z : W (Γ.cl x) none σ H := p σ M H Gr.refl S L
  rw [G.cl x] at z
  exact z
theorem s2_for (hf : FxS Γ n N sc X) {tg : Tg} {it : Itr} {body : Ss2} {tge ite : Expr} {bd : List Stmt} (hg : PG X tge (gTg X.K tg))
    (hi : PI X tge ite (spI Γ c W it)) (hb : PSs X bd (spSs2 Γ c W body)) (hs : ∀ x, foldedSetIterable ite X.env x = pure x) :
    PS X (.For tge ite bd [] pos) (spS2 Γ c W (.for tg it body)) := by
  refine PS.mono (ps_for hf.pass hf.fx.calm hi hg hb hs) fun Dd σ H q => ?_
  obtain ⟨M, ρ, Ω, S, L, p⟩ := q
  generalize hfd : (fun (x : D) (ρ' : Sl) (Ω' : Om) => match bindTg tg x ρ' with
    | some ρ'' => evSs2 c body ρ'' Ω'
    | none => Fl2.bad) = f
  have p : Post2 Γ W Dd M H (thenX ρ (liftR Ω (evI c it (pures ρ))) fun items _ => forL2 f items ρ Ω) := by rw [← hfd]; exact p
  refine ⟨pures ρ, pures_em L, ?_⟩
  cases zi : evI c it (pures ρ) with
  | bad => rw [zi] at p; exact p
  | ex x =>
    rw [zi] at p
    exact fun H' s' => p σ M H' (Gr.same s') (S.same s') (L.gr (Gr.same s') S)
  | ok items =>
    rw [zi] at p
    have p : Post2 Γ W Dd M H (forL2 f items ρ Ω) := p
    intro J H1 es xs Fp s1 iok res hlen lev
    have S1 := S.same s1
    have L1 := L.gr (Gr.same s1) S
    have lv0 := lev (rng M) [] S.zok (pures_ok L)
    have rs : RpL Γ.K (rng M) H1 es xs := lv0.1 (by rw [lvI_nil]; exact Nat.zero_le _)
    have nF : ∀ a, Fp a → a ∉ M := lv0.2 (lvI_nil it)
    let Pv : Nat → L2.St → Hp → Prop := fun i σc Hc => i ≤ items.length ∧ ∃ Mc ρc Ωc, SI Γ.K Mc Hc Ωc ∧ SlW Γ.K Mc Hc σc ρc ∧ Gr M H1 Mc Hc ∧ Post2 Γ W Dd Mc Hc (forL2 f (items.drop i) ρc Ωc)
    refine ⟨fun i m σc Hc => m = items.length - i ∧ Pv i σc Hc, ⟨items.length, by simp, Nat.zero_le _, M, ρ, Ω, S1, L1, Gr.refl, by simpa using Post2.gr (Gr.same s1) p⟩, ?_⟩
    rintro i m σc Hc ⟨rfl, hi, Mc, ρc, Ωc, Sc, Lc, gc, pc⟩
    have keep : ∀ a o, Fp a → H1 a = some o → Hc a = some o := fun a o ha e => (gc.keep a o e (nF a ha)).1
    by_cases hlt : i < items.length
    · right
      have hx : items[i]? = some items[i] := by simp [hlt]
      obtain ⟨go, yl⟩ := iok.go Hc keep i _ hx
      refine ⟨go, Pv (i + 1), fun σ' H' p' => ⟨items.length - (i + 1), by omega, rfl, p'⟩, fun x H' y => ?_⟩
      obtain ⟨s2, rpx⟩ := yl x H' y
      have hdrop : items.drop i = items[i] :: items.drop (i + 1) := List.drop_eq_getElem_cons hlt
      rw [hdrop] at pc
      generalize items[i] = d at hx pc rpx
      have rY : RW Γ.K Mc H' d x := RW.of_rp d x (rpx _ (RpL.to (gc.mv S1) es xs rs))
      have S' := Sc.same s2
      have L' := Lc.gr (Gr.same s2) Sc
      have pc := Post2.gr (Gr.same s2) pc
      have gc' : Gr M H1 Mc H' := gc.trans (Gr.same s2)
      rw [hf.fx.K]
      cases hb : bindTg tg d ρc with
      | none =>
        have hfx : f d ρc Ωc = .bad := by rw [← hfd]; simp only [hb]
        unfold forL2 at pc
        rw [hfx] at pc
        exact (show False from pc).elim
      | some ρ' =>
        have hfx : f d ρc Ωc = evSs2 c body ρ' Ωc := by rw [← hfd]; simp only [hb]
        refine tg_w hb rY L' fun σ' L2' => ?_
        unfold forL2 at pc
        rw [hfx] at pc
        refine ⟨Mc, ρ', Ωc, S', L2', ?_⟩
        cases ze : evSs2 c body ρ' Ωc with
        | nx ρ3 Ω3 =>
          rw [ze] at pc
          exact fun σ3 M3 H3 g3 S3 L3 => ⟨hlt, M3, ρ3, Ω3, S3, L3, gc'.trans g3, Post2.gr g3 pc⟩
        | ct ρ3 Ω3 =>
          rw [ze] at pc
          exact fun σ3 M3 H3 g3 S3 L3 => ⟨hlt, M3, ρ3, Ω3, S3, L3, gc'.trans g3, Post2.gr g3 pc⟩
        | brk ρ3 Ω3 => rw [ze] at pc; exact pc
        | ret d Ω3 => rw [ze] at pc; exact pc
        | ex x ρ3 Ω3 => rw [ze] at pc; exact pc
        | bad => rw [ze] at pc; exact pc
    · left
      have e : i = items.length := by omega
      subst e
      rw [List.drop_length] at pc
      exact ⟨iok.stop Hc keep, pc σc Mc Hc Gr.refl Sc Lc⟩
theorem newL_ok {r : R D} {ds : List D} (h : newL r = .ok ds) : r = .ok (.lst ds) ∧ D.noCL ds = true := by
  cases r with
  | ok d =>
    cases d with
    | lst es =>
      have h : (if D.noCL es then R.ok es else .bad) = .ok ds := h
      split at h
      · cases h
        exact ⟨rfl, by assumption⟩
      · cases h
    | _ => cases h
  | ex => cases h
  | bad => cases h
theorem s2_forR (hf : FxS Γ n N sc X) {tg : Tg} {a : E} {body : Ss2} {tge ite : Expr} {bd : List Stmt} (hfr : frE Γ.fnOf a = true) (hg : PG X tge (gTg X.K tg))
    (hi : PE X ite (spE Γ c W a)) (hb : PSs X bd (spSs2 Γ c W body)) (hs : ∀ x, foldedSetIterable ite X.env x = pure x) :
    PS X (.For tge ite bd [] pos) (spS2 Γ c W (.forR tg a body)) := by
  refine PS.mono (ps_for hf.pass hf.fx.calm (pi_list hi) hg hb hs) fun Dd σ H q => ?_
  obtain ⟨M, ρ, Ω, S, L, p⟩ := q
  generalize hfd : (fun (x : D) (ρ' : Sl) (Ω' : Om) => match bindTg tg x ρ' with
    | some ρ'' => evSs2 c body ρ'' Ω'
    | none => Fl2.bad) = f
  have p : Post2 Γ W Dd M H (thenX ρ (liftR Ω (newL (evE c a (seen Ω ρ)))) fun items _ => forL2 f items ρ Ω) := by rw [← hfd]; exact p
  have g := seen_ok S L
  refine spE.mk g (fun z => by rw [z] at p; exact p) (fun x z H' s' => ?_) fun d0 z v H1 s1 lev frr => ?_
  · rw [z] at p
    exact p σ M H' (Gr.same s') (S.same s') (L.gr (Gr.same s') S)
  rw [z] at p
  cases hn : newL (R.ok d0) with
  | bad => rw [hn] at p; exact (show False from p).elim
  | ex t =>
    exfalso
    cases d0 with
    | lst es =>
      have hn : (if D.noCL es then R.ok es else .bad) = .ex t := hn
      split at hn <;> cases hn
    | _ => cases hn
  | ok items =>
    rw [hn] at p
    obtain ⟨e0, hnc⟩ := newL_ok hn
    cases e0
    have p : Post2 Γ W Dd M H (forL2 f items ρ Ω) := p
    have rp := lev_em g lev
    have fr := frr hfr
    obtain ⟨b, xs0, e1, e2, e3⟩ := fr
    obtain ⟨b', xs, e4, r1, _, g1⟩ := rp
    rw [e1] at e4; cases e4
    subst e1
    have S1 := S.same s1
    have L1 := L.gr (Gr.same s1) S
    have rs : RpL Γ.K (rng M) H1 items xs := RpL.noC items xs hnc g1
    have nF : b ∉ M := S.new e2
    have iok := itl_ok (K := Γ.K) r1 g1
    refine ⟨b, rfl, ⟨xs, .inl r1⟩, ?_⟩
    rw [hf.fx.K]
    let Pv : Nat → L2.St → Hp → Prop := fun i σc Hc => i ≤ items.length ∧ ∃ Mc ρc Ωc, SI Γ.K Mc Hc Ωc ∧ SlW Γ.K Mc Hc σc ρc ∧ Gr M H1 Mc Hc ∧ Post2 Γ W Dd Mc Hc (forL2 f (items.drop i) ρc Ωc)
    refine ⟨fun i m σc Hc => m = items.length - i ∧ Pv i σc Hc, ⟨items.length, by simp, Nat.zero_le _, M, ρ, Ω, S1, L1, Gr.refl, by simpa using Post2.gr (Gr.same s1) p⟩, ?_⟩
    rintro i m σc Hc ⟨rfl, hi, Mc, ρc, Ωc, Sc, Lc, gc, pc⟩
    have keep : ∀ a o, a = b → H1 a = some o → Hc a = some o := fun a o ha e => (gc.keep a o e (by rw [ha]; exact nF)).1
    by_cases hlt : i < items.length
    · right
      have hx : items[i]? = some items[i] := by simp [hlt]
      obtain ⟨go, yl⟩ := iok.go Hc keep i _ hx
      refine ⟨go, Pv (i + 1), fun σ' H' p' => ⟨items.length - (i + 1), by omega, rfl, p'⟩, fun x H' y => ?_⟩
      obtain ⟨s2, rpx⟩ := yl x H' y
      have hdrop : items.drop i = items[i] :: items.drop (i + 1) := List.drop_eq_getElem_cons hlt
      rw [hdrop] at pc
      generalize items[i] = d at hx pc rpx
      have rY : RW Γ.K Mc H' d x := RW.of_rp d x (rpx _ (RpL.to (gc.mv S1) items xs rs))
      have S' := Sc.same s2
      have L' := Lc.gr (Gr.same s2) Sc
      have pc := Post2.gr (Gr.same s2) pc
      have gc' : Gr M H1 Mc H' := gc.trans (Gr.same s2)
      cases hb : bindTg tg d ρc with
      | none =>
        have hfx : f d ρc Ωc = .bad := by rw [← hfd]; simp only [hb]
        unfold forL2 at pc
        rw [hfx] at pc
        exact (show False from pc).elim
      | some ρ' =>
        have hfx : f d ρc Ωc = evSs2 c body ρ' Ωc := by rw [← hfd]; simp only [hb]
        refine tg_w hb rY L' fun σ' L2' => ?_
        unfold forL2 at pc
        rw [hfx] at pc
        refine ⟨Mc, ρ', Ωc, S', L2', ?_⟩
        cases ze : evSs2 c body ρ' Ωc with
        | nx ρ3 Ω3 =>
          rw [ze] at pc
          exact fun σ3 M3 H3 g3 S3 L3 => ⟨hlt, M3, ρ3, Ω3, S3, L3, gc'.trans g3, Post2.gr g3 pc⟩
        | ct ρ3 Ω3 =>
          rw [ze] at pc
          exact fun σ3 M3 H3 g3 S3 L3 => ⟨hlt, M3, ρ3, Ω3, S3, L3, gc'.trans g3, Post2.gr g3 pc⟩
        | brk ρ3 Ω3 => rw [ze] at pc; exact pc
        | ret d Ω3 => rw [ze] at pc; exact pc
        | ex x ρ3 Ω3 => rw [ze] at pc; exact pc
        | bad => rw [ze] at pc; exact pc
    · left
      have e : i = items.length := by omega
      subst e
      rw [List.drop_length] at pc
      exact ⟨iok.stop Hc keep, pc σc Mc Hc Gr.refl Sc Lc⟩
theorem s2_whl (hf : FxS Γ n N sc X) {m : Nat} {t : E} {body : Ss2} {te : Expr} {bd : List Stmt} (ht : PT X te (spT Γ c W t)) (hb : PSs X bd (spSs2 Γ c W body)) :
    PS X (.While te bd [] pos) (spS2 Γ c W (.whl m t body)) := by
  refine PS.mono (ps_while hf.pass ht hb) fun Dd σ H q => ?_
  obtain ⟨M, ρ, Ω, S, L, p⟩ := q
  have p : Post2 Γ W Dd M H (whlL2 (tstE c t) (evSs2 c body) m ρ Ω) := p
  refine ⟨fun k σc Hc => ∃ Mc ρc Ωc, SI Γ.K Mc Hc Ωc ∧ SlW Γ.K Mc Hc σc ρc ∧ Post2 Γ W Dd Mc Hc (whlL2 (tstE c t) (evSs2 c body) k ρc Ωc), ⟨m, M, ρ, Ω, S, L, p⟩, ?_⟩
  rintro k σc Hc ⟨Mc, ρc, Ωc, Sc, Lc, pc⟩
  cases k with
  | zero => exact (show False from pc).elim
  | succ k =>
    unfold whlL2 at pc
    have g := seen_ok Sc Lc
    refine spT.mk g (fun z => by unfold tstE at pc; rw [z] at pc; exact pc) (fun x z H' s' => ?_) fun d z H' s' => ?_
    · unfold tstE at pc
      rw [z] at pc
      exact pc σc Mc H' (Gr.same s') (Sc.same s') (Lc.gr (Gr.same s') Sc)
    · have et : tstE c t ρc Ωc = .ok d.truth := by unfold tstE; rw [z]; rfl
      have pc := Post2.gr (Gr.same s') pc
      have S' := Sc.same s'
      have L' := Lc.gr (Gr.same s') Sc
      cases hk : d.truth with
      | false =>
        rw [hk] at et
        simp only [et] at pc
        rw [if_neg Bool.false_ne_true]
        exact pc σc Mc H' Gr.refl S' L'
      | true =>
        rw [hk] at et
        simp only [et] at pc
        rw [if_pos rfl]
        refine ⟨fun σ' H2 => ∃ Mc ρc Ωc, SI Γ.K Mc H2 Ωc ∧ SlW Γ.K Mc H2 σ' ρc ∧ Post2 Γ W Dd Mc H2 (whlL2 (tstE c t) (evSs2 c body) k ρc Ωc), fun σ' H2 h => ⟨k, Nat.lt_succ_self k, h⟩, Mc, ρc, Ωc, S', L', ?_⟩
        cases ze : evSs2 c body ρc Ωc with
        | nx ρ3 Ω3 =>
          simp only [ze] at pc
          exact fun σ3 M3 H3 g3 S3 L3 => ⟨M3, ρ3, Ω3, S3, L3, Post2.gr g3 pc⟩
        | ct ρ3 Ω3 =>
          simp only [ze] at pc
          exact fun σ3 M3 H3 g3 S3 L3 => ⟨M3, ρ3, Ω3, S3, L3, Post2.gr g3 pc⟩
        | brk ρ3 Ω3 => simp only [ze] at pc; exact pc
        | ret d Ω3 => simp only [ze] at pc; exact pc
        | ex x ρ3 Ω3 => simp only [ze] at pc; exact pc
        | bad => simp only [ze] at pc; exact pc
/-- what is at a place that is a list -/
theorem isL2_ok {Ω : Om} {x : D} (h : isL2 Ω x = true) : ∃ l ws, x = .loc l ∧ Ω[l]? = some (.lst ws) := by
  cases x with
  | loc l =>
    have h : (match Ω[l]? with
      | some (.lst _) => true
      | _ => false) = true := h
    split at h
    · rename_i ws e
      exact ⟨l, ws, rfl, e⟩
    · cases h
  | _ => cases h
theorem appR2_ok {Ω Ω' : Om} {x d : D} (h : appR2 Ω x d = some Ω') : ∃ l ws, x = .loc l ∧ Ω[l]? = some (.lst ws) ∧ ws.length < LIM ∧ Ω' = Ω.set l (.lst (ws ++ [d])) := by
  cases x with
  | loc l =>
    have h : (match Ω[l]? with
      | some (.lst ws) => if Nat.blt ws.length LIM then some (Ω.set l (.lst (ws ++ [d]))) else none
      | _ => none) = some Ω' := h
    split at h
    · rename_i ws e
      split at h
      · rename_i hl
        cases h
        exact ⟨l, ws, rfl, e, by simpa using hl, rfl⟩
      · cases h
    · cases h
  | _ => cases h
theorem s2_app (hf : FxS Γ n N sc X) {o e : E2} {ox v : Expr} {p2 cpos : Pos} (ho : PE X ox (spE2 Γ c W o)) (he : PE X v (spE2 Γ c W e))
    (hbase : attributeBase ox "append" X.env (eval ox X.env) = eval ox X.env)
    (hfew : ((backTo cpos (starEach [v] X.env)).all (fun x => !x.1) && (backToKw cpos (keywordEach [] X.env)).all (fun x => x.1.isSome)
      && decide ([v].length + ([] : List Keyword).length + (if ([] : List Keyword).isEmpty then 0 else 1) < 30)) = true)
    (hline : (p2.endLine == cpos.line) = true) (hst : starEach [v] X.env = (false, eval v X.env) :: starEach [] X.env)
    (hs : swapsWith (.Call (.Attribute ox "append" p2) [v] [] cpos) none pos.line X.env = pure false) :
    PS X (.Expr (.Call (.Attribute ox "append" p2) [v] [] cpos) pos) (spS2 Γ c W (.app o e)) := by
  refine PS.mono (ps_expr (pe_bm PySem.F.plainAttrs_list PySem.F.slot_list_append PySem.F.type_list_append mt_append ho (pa_cons he pa_nil hst) hbase hfew hline hst rfl) hs) fun Dd σ H q => ?_
  obtain ⟨M, ρ, Ω, S, L, p⟩ := q
  have p : Post2 Γ W Dd M H (thenX ρ (ev2 c o ρ Ω) fun x Ω1 => if isL2 Ω1 x then thenX ρ (ev2 c e ρ Ω1) fun d Ω2 => nxO ρ (appR2 Ω2 x d) else .bad) := p
  refine ⟨M, ρ, Ω, S, L, (in2 S L p).mono fun x Ω1 M1 H1 g1 S1 _ h xv rx => ?_⟩
  obtain ⟨_, L1, _, p1⟩ := h
  cases hl2 : isL2 Ω1 x with
  | false => rw [hl2] at p1; exact (show False from p1).elim
  | true =>
    rw [hl2, if_pos rfl] at p1
    obtain ⟨l, ws, rfl, e1⟩ := isL2_ok hl2
    obtain ⟨a, ea, rfl⟩ := id rx
    obtain ⟨a', u, f1, f2, f3⟩ := S1.cell l _ e1
    rw [ea] at f1; cases f1
    cases u with
    | lst xs =>
      refine ⟨.inl ⟨rfl, xs, .inl (.inl f2)⟩, M1, ρ, Ω1, S1, L1, (in2 S1 L1 p1).mono fun d Ω2 M2 H2 g2 S2 _ h v rv => ?_⟩
      obtain ⟨_, L2, _, p2⟩ := h
      cases ep : appR2 Ω2 (.loc l) d with
      | none => rw [ep] at p2; exact (show False from p2).elim
      | some Ω' =>
        rw [ep] at p2
        obtain ⟨l', ws2, el, e3, hlim, rfl⟩ := appR2_ok ep
        cases el
        obtain ⟨a', u, f1, f2', f3'⟩ := S2.cell l _ e3
        rw [g2.pre l a ea] at f1; cases f1
        cases u with
        | lst ys =>
          have f3' : RWL Γ.K M2 H2 ws2 ys := f3'
          have hlen : ws2.length = ys.length := f3'.length
          refine ⟨a, ys, v, rfl, rfl, f2', by rw [sizeLine_eq, ← hlen]; exact hlim, ?_⟩
          obtain ⟨S3, g3⟩ := S2.put (g2.pre l a ea) (o := .lst (ws2 ++ [d])) (u := .lst (ys ++ [v])) fun {H'} g => (RWL.gr g S2 ws2 ys f3').append (RWL.one (RW.gr g S2 d v rv))
          exact p2 σ M2 _ g3 S3 (L2.gr g3 S2)
        | _ => exact f3'.elim
    | _ => exact f3.elim
theorem putR2_ok {Ω Ω' : Om} {x y d : D} (h : putR2 Ω x y d = some Ω') : ∃ l o o', x = .loc l ∧ Ω[l]? = some o ∧ putR o y d = some o' ∧ Ω' = Ω.set l o' := by
  cases x with
  | loc l =>
    have h : (match Ω[l]? with
      | some o => (putR o y d).map fun o' => Ω.set l o'
      | none => none) = some Ω' := h
    split at h
    · rename_i o e
      obtain ⟨o', e1, e2⟩ := Option.map_eq_some_iff.mp h
      exact ⟨l, o, o', rfl, e, e1, e2.symm⟩
    · cases h
  | _ => cases h
theorem s2_put (hf : FxS Γ n N sc X) {o k e : E2} {ox kx v : Expr} {p2 : Pos} (ho : PE X ox (spE2 Γ c W o)) (he : PE X v (spE2 Γ c W e)) (hk : PE X kx (spE2 Γ c W k))
    (hsw : swapsWith v (some (.Subscript ox kx p2)) pos.line X.env = pure false) : PS X (.Assign [.Subscript ox kx p2] v pos) (spS2 Γ c W (.put o k e)) := by
  have ps : PS X (.Assign [.Subscript ox kx p2] v pos) (fun D σ H => spE2 Γ c W e σ H fun vv H1 => spE2 Γ c W o σ H1 fun oo H2 => spE2 Γ c W k σ H2 fun y H3 => rSetL oo y vv H3 (fun H4 => D.nx σ H4) ∨ rSetD oo y vv H3 (fun H4 => D.nx σ H4)) := by
    refine ⟨fun pins s σ H D J h => ?_⟩
    refine wpAny_Assign_Subscript (thn (he.run pins s σ H _ J h) fun r s1 ⟨vv, H1, J1, rv, q1⟩ => ?_) hsw
    refine thn (ho.run pins s1 σ H1 _ J1 q1) fun ou s2 ⟨o', H2, J2, ro, q2⟩ => ?_
    refine thn (hk.run pins s2 σ H2 _ J2 q2) fun iu s3 ⟨y, H3, J3, ry, q⟩ => ?_
    rcases q with q | q
    · exact wpAny_mono (set_list pins s3 σ H3 o' y vv ou iu r _ J3 ro ry rv q) (fun _ s4 ⟨H4, J4, q4⟩ => ⟨σ, H4, J4, q4⟩) fun _ _ z => z
    · exact wpAny_mono (set_dict (by have := hf.fx.units; omega) pins s3 σ H3 o' y vv ou iu r _ J3 ro ry rv q) (fun _ s4 ⟨H4, J4, q4⟩ => ⟨σ, H4, J4, q4⟩) fun _ _ z => z
  refine PS.mono ps fun Dd σ H q => ?_
  obtain ⟨M, ρ, Ω, S, L, p⟩ := q
  have p : Post2 Γ W Dd M H (thenX ρ (ev2 c e ρ Ω) fun d Ω1 => thenX ρ (ev2 c o ρ Ω1) fun x Ω2 => thenX ρ (ev2 c k ρ Ω2) fun y Ω3 => nxO ρ (putR2 Ω3 x y d)) := p
  refine ⟨M, ρ, Ω, S, L, (in2 S L p).mono fun d Ω1 M1 H1 g1 S1 _ h vv rv => ?_⟩
  obtain ⟨_, L1, _, p1⟩ := h
  refine ⟨M1, ρ, Ω1, S1, L1, (in2 S1 L1 p1).mono fun x Ω2 M2 H2 g2 S2 _ h oo ro => ?_⟩
  obtain ⟨_, L2, _, p2⟩ := h
  refine ⟨M2, ρ, Ω2, S2, L2, (in2 S2 L2 p2).mono fun y Ω3 M3 H3 g3 S3 _ h yv ry => ?_⟩
  obtain ⟨_, L3, _, p3⟩ := h
  have rv := RW.gr g3 S2 d vv (RW.gr g2 S1 d vv rv)
  have ro := RW.gr g3 S2 x oo ro
  cases ep : putR2 Ω3 x y d with
  | none => rw [ep] at p3; exact (show False from p3).elim
  | some Ω' =>
    rw [ep] at p3
    obtain ⟨l, oc, oc', rfl, e1, e2, rfl⟩ := putR2_ok ep
    obtain ⟨a, ea, rfl⟩ := ro
    obtain ⟨a', u, f1, f2, f3⟩ := S3.cell l _ e1
    rw [ea] at f1; cases f1
    cases oc with
    | lst ds =>
      cases u with
      | lst xs =>
        have f3 : RWL Γ.K M3 H3 ds xs := f3
        cases y with
        | int j =>
          have e2 : (Pw.ixN ds.length j).map (fun m => D.lst (ds.set m d)) = some oc' := e2
          obtain ⟨m, em, rfl⟩ := Option.map_eq_some_iff.mp e2
          have hy : yv = .int j := ry
          subst hy
          obtain ⟨S4, g4⟩ := S3.put ea (o := .lst (ds.set m d)) (u := .lst (xs.set m vv)) fun {H'} g => RWL.set m (RWL.gr g S3 ds xs f3) (RW.gr g S3 d vv rv)
          exact .inl ⟨a, xs, j, m, rfl, rfl, f2, by rw [← f3.length]; exact em, p3 σ M3 _ g4 S4 (L3.gr g4 S3)⟩
        | _ => cases e2
      | _ => exact f3.elim
    | dct ks vs =>
      cases u with
      | dK kvs =>
        obtain ⟨f31, f32, f33⟩ := f3
        have e2 : (if isKey y && Nat.blt ks.length LIM then some (D.dct (dputK y ks) (dputV y d ks vs)) else none) = some oc' := e2
        split at e2
        · rename_i hc
          cases e2
          simp only [Bool.and_eq_true] at hc
          obtain ⟨kk, rfl, rfl, lk⟩ := key_w hc.1 ry
          subst f31
          have hlen : kvs.length < sizeLine := by
            have := hc.2
            rw [Nat.blt_eq, List.length_map] at this
            rw [sizeLine_eq]; exact this
          obtain ⟨S4, g4⟩ := S3.put ea (o := .dct (dputK (kD kk) (kDs kvs)) (dputV (kD kk) d (kDs kvs) vs)) (u := .dK (putK kvs kk vv)) fun {H'} g => ⟨(putK_keys kvs kk vv).symm, fun t mt => key_len f32 lk mt, putK_w kk (RW.gr g S3 d vv rv) (RWL.gr g S3 vs _ f33)⟩
          exact .inr ⟨a, _, rfl, DPut.k f2 hlen, p3 σ M3 _ g4 S4 (L3.gr g4 S3)⟩
        · cases e2
      | _ => exact f3.elim
    | _ => cases e2
theorem s2_tryK (hf : FxS Γ n N sc X) (G : Gk Γ) (tk : Takes X W) {b : Ss2} {ys : List Tx} {x : Tx} {i k : Nat} {nn kx : Str} {body : List Stmt} {np kp ep ap pos' : Pos} (hx : x ∈ Γ.tb.xs) (hys : ∀ y, y ∈ ys → y ∈ Γ.tb.xs) (hg : gloB sc (tx x) = true) (hd : dbgB (tx x) = true)
    (hi : N[i]? = some nn) (hli : sc.names.lookup nn = some .local) (hk : N[k]? = some kx) (hlk : sc.names.lookup kx = some .local) (hdn : dbgB nn = true) (hik : i ≠ k)
    (hb : ∀ (W' : WX) (X' : Cx), FxS Γ n N sc X' → Takes X' W' → PSs X' body (spSs2 Γ c W' b)) :
    PS X (.Try body [.ExceptHandler (some (.Name (tx x) np)) (some nn) [.Assign [.Name kx kp] (.Name nn ep) ap] pos'] [] [] pos) (spS2 Γ c W (.tryK b ys x i k)) := by
  refine PS.mono (ps_keep (tb := fun W' => spSs2 Γ c W' b) hf.stk hf.frm (by rw [hf.fx.eN]; exact hf.fx.nd) (by rw [hf.fx.eN]; exact hi) (by show X.env.scope.names.lookup nn = _; rw [hf.fx.eS]; exact hli) (by rw [hf.fx.eN]; exact hk) (by show X.env.scope.names.lookup kx = _; rw [hf.fx.eS]; exact hlk) (dbg_of hdn).1 (dbg_of hdn).2.1 (names_of hf G hx hg hd) tk
    (fun W' pn xe t p => hb W' _ ⟨⟨hf.fx.prog, hf.fx.w, hf.fx.K, hf.fx.mg, hf.fx.base, hf.fx.eN, hf.fx.eS, hf.fx.calm, hf.fx.room, hf.fx.nd⟩, p, hf.fn, hf.kd, hf.stk, hf.frm⟩ t)) fun Dd σ H q => ?_
  obtain ⟨M, ρ, Ω, S, L, p⟩ := q
  have p : Post2 Γ W Dd M H (match evSs2 c b ρ Ω with
    | .ex y ρ' Ω' => if ys.contains y then (if subX y x then .nx ((ρ'.set k (some (.exc y))).set i none) Ω' else .ex y ρ' Ω') else .bad
    | r => r) := p
  refine ⟨M, ρ, Ω, S, L, ?_⟩
  cases e : evSs2 c b ρ Ω with
  | nx ρ' Ω' => rw [e] at p; exact p
  | ret d Ω' => rw [e] at p; exact p
  | brk ρ' Ω' => rw [e] at p; exact p
  | ct ρ' Ω' => rw [e] at p; exact p
  | bad => rw [e] at p; exact p
  | ex y ρ' Ω' =>
    rw [e] at p
    intro σ' M' H' g' S' L'
    cases hy : ys.contains y with
    | false =>
      simp only [hy] at p
      exact (show False from p).elim
    | true =>
      simp only [hy, if_true] at p
      have hyx := hys y (by simpa using hy)
      rw [G.cl y]
      refine ⟨subX y x, by rw [hf.fx.K]; exact G.exm y x hyx hx, fun ht => ?_, fun hff => ?_⟩
      · rw [ht, if_pos rfl] at p
        refine ⟨rfl, fun a ha => ?_⟩
        have es : ((σ'.set i (some (.ref a))).set k (some (.ref a))).set i none = (σ'.set k (some (.ref a))).set i none := by
          rw [List.set_comm _ _ hik, List.set_set]
        rw [es]
        have s1 : Same H' (upd H' a (exA (.ref (He.ga Γ.K (tx y))) a)) := same_upd ha
        have L2 := (L'.gr (Gr.same s1) S').set (i := k) (d := .exc y) (v := .ref a) ⟨a, rfl, upd_same⟩
        exact p _ M' _ (g'.trans (Gr.same s1)) (S'.same s1) L2.clr
      · rw [hff, if_neg Bool.false_ne_true] at p
        have z := p σ' M' H' g' S' L'
        rw [G.cl y] at z
        exact z
end
end Pw

/-! text PwV3 -/
/-! the second language: the check, and that it suffices -/
namespace Pw
open PySem PySem.Spec PyProof.Rows L2
mutual
def chkE2 (tb : Tb) (fo : Nat → Option Fn) (N : List Str) (sc : Scope) : E2 → Expr → Bool
  | .pu e, x => chkE tb N e sc x
  | .rd e, x => chkE tb N e sc x
  | .nw e, x => frE fo e && chkE tb N e sc x
  | .vr i, x => (match x with
    | .Name y _ => decide (N[i]? = some y) && visB sc y && dbgB y
    | _ => false)
  | .at o k, x => (match x with
    | .Subscript a b _ => chkE2 tb fo N sc o a && chkE2 tb fo N sc k b
    | _ => false)
  | .cl f es, x => (match x with
    | .Call (.Name y _) (a :: as) [] _ => decide (tb.nm2 f = some y) && gloB sc y && dbgB y && chkEs2 tb fo N sc es (a :: as)
    | _ => false)
  | .tp es, x => (match x with
    | .Tuple xs _ _ => chkEs2 tb fo N sc es xs && Nat.ble xs.length 10000
    | _ => false)
  | .ls es, x => (match x with
    | .List xs _ => chkEs2 tb fo N sc es xs && Nat.ble xs.length 10000
    | _ => false)
  | .cp op a b, x => (match x with
    | .Compare l [o] [r] _ => decide (o = cmr op) && chkE2 tb fo N sc a l && chkE2 tb fo N sc b r
    | _ => false)
  | .fl cs o f, x => (match x with
    | .Attribute y nm _ => decide (nm = tx f) && !isCallE y && cs.all (fun k => clB tb k f) && chkE2 tb fo N sc o y
    | _ => false)
  | .mt cn f m o es, x => (match x with
    | .Call (.Attribute y nm apos) xs [] pos => decide (nm = tx m) && decide (tb.mt f = some (cn, m)) && !decide (m = [95, 95, 105, 110, 105, 116, 95, 95]) && tb.cs.any (fun p => decide (p.1 = cn)) && !isCallE y && (apos.endLine == pos.line) && Nat.blt xs.length 29 && chkE2 tb fo N sc o y && chkEs2 tb fo N sc es xs
    | _ => false)
  | .mk cn f es, x => (match x with
    | .Call (.Name y _) (a :: as) [] _ => decide (y = tx cn) && decide (tb.mt f = some (cn, [95, 95, 105, 110, 105, 116, 95, 95])) && gloB sc y && dbgB y && chkEs2 tb fo N sc es (a :: as)
    | _ => false)
  | .pp o, x => (match x with
    | .Call (.Attribute y nm apos) [] [] pos => decide (nm = ("pop" : Str)) && !isCallE y && (apos.endLine == pos.line) && chkE2 tb fo N sc o y
    | _ => false)
  | .nt _, _ => false
  | .orr _ _, _ => false
def chkEs2 (tb : Tb) (fo : Nat → Option Fn) (N : List Str) (sc : Scope) : Es2 → List Expr → Bool
  | .nil, xs => xs.isEmpty
  | .cons e es, xs => (match xs with
    | x :: r => chkE2 tb fo N sc e x && chkEs2 tb fo N sc es r
    | [] => false)
end
section
variable {tb : Tb} {fo : Nat → Option Fn} {N : List Str} {sc : Scope}
/-- forms that no text of the second language has -/
def oddE : Expr → Bool
  | .Set _ _ _ => true
  | .Slice _ _ _ _ => true
  | .Starred _ _ => true
  | _ => false
theorem odd2 {a : E2} {e : Expr} (h : chkE2 tb fo N sc a e = true) : oddE e = false := by
  have v1 : ∀ a : E, chkE tb N a sc e = true → oddE e = false := fun a h => by
    cases e with
    | Set x k p => exact absurd rfl (chk_set h x k p)
    | Slice x y z p => exact absurd rfl (chk_slice h x y z p)
    | Starred x p => exact absurd rfl (chk_star h x p)
    | _ => rfl
  cases a with
  | pu a => exact v1 a h
  | rd a => exact v1 a h
  | nw a =>
    have h : (frE fo a && chkE tb N a sc e) = true := h
    rw [Bool.and_eq_true] at h
    exact v1 a h.2
  | _ => cases e <;> first | rfl | cases h
theorem star2 {a : E2} {e : Expr} (h : chkE2 tb fo N sc a e = true) (env : Env) (es : List Expr) : starEach (e :: es) env = (false, eval e env) :: starEach es env := by
  have z := odd2 h
  cases e with
  | Starred x p => cases z
  | _ => rfl
theorem set2 {a : E2} {e : Expr} (h : chkE2 tb fo N sc a e = true) : ∀ x k p, e ≠ .Set x k p := by
  rintro x k p rfl
  have z := odd2 h
  cases z
theorem slice2 {a : E2} {e : Expr} (h : chkE2 tb fo N sc a e = true) : ∀ x y z p, e ≠ .Slice x y z p := by
  rintro x y z p rfl
  have z := odd2 h
  cases z
theorem stars2 : ∀ {es : Es2} {xs : List Expr}, chkEs2 tb fo N sc es xs = true → ∀ (env : Env) (pos : Pos), (backTo pos (starEach xs env)).any (·.1) = false
  | .nil, xs, h, env, pos => by
    have h : xs.isEmpty = true := h
    rw [List.isEmpty_iff] at h
    subst h
    rfl
  | .cons a es, xs, h, env, pos => by
    cases xs with
    | nil => cases h
    | cons x xs =>
      have h : (chkE2 tb fo N sc a x && chkEs2 tb fo N sc es xs) = true := h
      rw [Bool.and_eq_true] at h
      rw [star2 h.1 env xs]
      show (false || (backTo pos (starEach xs env)).any (·.1)) = false
      rw [stars2 h.2 env pos]; rfl
theorem alls2 : ∀ {es : Es2} {xs : List Expr}, chkEs2 tb fo N sc es xs = true → ∀ (env : Env) (pos : Pos), (backTo pos (starEach xs env)).all (fun x => !x.1) = true
  | .nil, xs, h, env, pos => by
    have h : xs.isEmpty = true := h
    rw [List.isEmpty_iff] at h
    subst h
    rfl
  | .cons a es, xs, h, env, pos => by
    cases xs with
    | nil => cases h
    | cons x xs =>
      have h : (chkE2 tb fo N sc a x && chkEs2 tb fo N sc es xs) = true := h
      rw [Bool.and_eq_true] at h
      rw [star2 h.1 env xs]
      show (true && (backTo pos (starEach xs env)).all (fun x => !x.1)) = true
      rw [alls2 h.2 env pos]; rfl
theorem few_m {es : Es2} {xs : List Expr} {env : Env} {pos : Pos} (h : chkEs2 tb fo N sc es xs = true) (hl : xs.length < 29) : methodCallForm (xs.length + ([] : List Keyword).length) (backTo pos (starEach xs env)) (backToKw pos (keywordEach [] env)) = true := by
  unfold methodCallForm
  rw [alls2 h env pos]
  show (true && true && decide (xs.length + 0 + 0 < 30)) = true
  rw [decide_eq_true (by omega)]
  rfl
theorem evs2_len {c : Nat → List D → R D} : ∀ {es : Es2} {xs : List Expr}, chkEs2 tb fo N sc es xs = true → ∀ {ρ : Sl} {Ω Ω' : Om} {ds : List D}, evs2 c es ρ Ω = .ok ds Ω' → ds.length = xs.length
  | .nil, xs, h, ρ, Ω, Ω', ds, e => by
    have h : xs.isEmpty = true := h
    rw [List.isEmpty_iff] at h
    subst h
    cases e
    rfl
  | .cons a es, xs, h, ρ, Ω, Ω', ds, e => by
    cases xs with
    | nil => cases h
    | cons x xs =>
      have h : (chkE2 tb fo N sc a x && chkEs2 tb fo N sc es xs) = true := h
      rw [Bool.and_eq_true] at h
      have e : ((ev2 c a ρ Ω).bind fun d Ω1 => (evs2 c es ρ Ω1).bind fun ds Ω2 => XR.ok (d :: ds) Ω2) = .ok ds Ω' := e
      cases e1 : ev2 c a ρ Ω with
      | ok d Ω1 =>
        rw [e1, XR.ok_bind] at e
        cases e2 : evs2 c es ρ Ω1 with
        | ok ds' Ω2 =>
          rw [e2] at e
          cases e
          rw [List.length_cons, List.length_cons, evs2_len h.2 e2]
        | ex => rw [e2] at e; cases e
        | bad => rw [e2] at e; cases e
      | ex => rw [e1] at e; cases e
      | bad => rw [e1] at e; cases e
end
section
variable {Γ : Ctx} {c : Nat → List D → R D} {W : WX} {n : Nat} {N : List Str} {sc : Scope}
mutual
theorem soE2 (G : Gk Γ) (C : Cok Γ n c) (C2 : Cok2 Γ n c) : ∀ (a : E2) (X : Cx) (e : Expr) (W : WX), chkE2 Γ.tb Γ.fnOf N sc a e = true → Fx Γ n N sc X → Takes X W → PE X e (spE2 Γ c W a)
  | .pu a, X, e, W, h, hf, tk => x2_pu (soE G C a sc X e W h hf tk).1
  | .rd a, X, e, W, h, hf, tk => x2_rd (soE G C a sc X e W h hf tk).1
  | .nw a, X, e, W, h, hf, tk => by
    have h : (frE Γ.fnOf a && chkE Γ.tb N a sc e) = true := h
    rw [Bool.and_eq_true] at h
    exact x2_nw h.1 (soE G C a sc X e W h.2 hf tk).1
  | .vr i, X, e, W, h, hf, tk => by
    unfold chkE2 at h
    split at h
    · simp only [Bool.and_eq_true, decide_eq_true_eq] at h
      exact x2_vr hf h.1.1 h.1.2 h.2
    · cases h
  | .at o k, X, e, W, h, hf, tk => by
    unfold chkE2 at h
    split at h
    · rw [Bool.and_eq_true] at h
      exact x2_at hf (soE2 G C C2 o X _ W h.1 hf tk) (soE2 G C C2 k X _ W h.2 hf tk) (plainIx_of (slice2 h.2))
    · cases h
  | .cl f es, X, e, W, h, hf, tk => by
    unfold chkE2 at h
    split at h
    · rename_i y p a as pos
      simp only [Bool.and_eq_true, decide_eq_true_eq] at h
      obtain ⟨⟨⟨h1, h2⟩, h3⟩, h4⟩ := h
      have pa := soEs2 G C C2 es X (a :: as) W h4 hf tk
      cases es with
      | nil => cases h4
      | cons b bs =>
        have h4 : (chkE2 Γ.tb Γ.fnOf N sc b a && chkEs2 Γ.tb Γ.fnOf N sc bs as) = true := h4
        rw [Bool.and_eq_true] at h4
        exact x2_cl hf C2 tk h1 h2 h3 pa (star2 h4.1 X.env as) (stars2 h4.2 X.env _)
    · cases h
  | .tp es, X, e, W, h, hf, tk => by
    unfold chkE2 at h
    split at h
    · rw [Bool.and_eq_true] at h
      exact x2_tp (soEs2 G C C2 es X _ W h.1 hf tk) fun ρ Ω ds Ω' e => by rw [evs2_len h.1 e]; exact Nat.le_of_ble_eq_true h.2
    · cases h
  | .ls es, X, e, W, h, hf, tk => by
    unfold chkE2 at h
    split at h
    · rw [Bool.and_eq_true] at h
      exact x2_ls (soEs2 G C C2 es X _ W h.1 hf tk) fun ρ Ω ds Ω' e => by rw [evs2_len h.1 e]; exact Nat.le_of_ble_eq_true h.2
    · cases h
  | .cp op a b, X, e, W, h, hf, tk => by
    unfold chkE2 at h
    split at h
    · simp only [Bool.and_eq_true, decide_eq_true_eq] at h
      obtain ⟨⟨rfl, h1⟩, h2⟩ := h
      exact x2_cp hf (soE2 G C C2 a X _ W h1 hf tk) (soE2 G C C2 b X _ W h2 hf tk) (marks_of (set2 h2))
    · cases h
  | .fl cs o f, X, e, W, h, hf, tk => by
    unfold chkE2 at h
    split at h
    · simp only [Bool.and_eq_true, decide_eq_true_eq, Bool.not_eq_true', List.all_eq_true] at h
      obtain ⟨⟨⟨rfl, h1⟩, h2⟩, h3⟩ := h
      exact x2_fl hf G (soE2 G C C2 o X _ W h3 hf tk) h2 (base_ok h1)
    · cases h
  | .mt cn f m o es, X, e, W, h, hf, tk => by
    unfold chkE2 at h
    split at h
    · rename_i y nm apos xs pos
      simp only [Bool.and_eq_true, decide_eq_true_eq, Bool.not_eq_true', decide_eq_false_iff_not] at h
      obtain ⟨⟨⟨⟨⟨⟨⟨⟨rfl, h1⟩, h2⟩, h3⟩, h4⟩, h5⟩, h6⟩, h7⟩, h8⟩ := h
      have pa := soEs2 G C C2 es X xs W h8 hf tk
      refine x2_mt hf G C2 tk h1 h2 h3 (soE2 G C C2 o X _ W h7 hf tk) pa (fun e => ?_) (fun e r er => ?_) (base_ok h4) (few_m h8 (by simpa using h6)) h5
      · subst e
        cases es with
        | nil => rfl
        | cons => cases h8
      · subst er
        cases es with
        | nil => cases h8
        | cons b bs =>
          have h8 : (chkE2 Γ.tb Γ.fnOf N sc b e && chkEs2 Γ.tb Γ.fnOf N sc bs r) = true := h8
          rw [Bool.and_eq_true] at h8
          exact ⟨star2 h8.1 X.env r, stars2 h8.2 X.env _⟩
    · cases h
  | .mk cn f es, X, e, W, h, hf, tk => by
    unfold chkE2 at h
    split at h
    · rename_i y p a as pos
      simp only [Bool.and_eq_true, decide_eq_true_eq] at h
      obtain ⟨⟨⟨⟨rfl, h1⟩, h2⟩, h3⟩, h4⟩ := h
      have pa := soEs2 G C C2 es X (a :: as) W h4 hf tk
      cases es with
      | nil => cases h4
      | cons b bs =>
        have h4 : (chkE2 Γ.tb Γ.fnOf N sc b a && chkEs2 Γ.tb Γ.fnOf N sc bs as) = true := h4
        rw [Bool.and_eq_true] at h4
        exact x2_mk hf C2 tk h1 h2 h3 pa (star2 h4.1 X.env as) (stars2 h4.2 X.env _)
    · cases h
  | .pp o, X, e, W, h, hf, tk => by
    unfold chkE2 at h
    split at h
    · simp only [Bool.and_eq_true, decide_eq_true_eq, Bool.not_eq_true'] at h
      obtain ⟨⟨⟨rfl, h1⟩, h2⟩, h3⟩ := h
      exact x2_pp (soE2 G C C2 o X _ W h3 hf tk) (base_ok h1) h2
    · cases h
  | .nt _, X, e, W, h, hf, tk => by cases h
  | .orr _ _, X, e, W, h, hf, tk => by cases h
theorem soEs2 (G : Gk Γ) (C : Cok Γ n c) (C2 : Cok2 Γ n c) : ∀ (a : Es2) (X : Cx) (e : List Expr) (W : WX), chkEs2 Γ.tb Γ.fnOf N sc a e = true → Fx Γ n N sc X → Takes X W → PA X e (spA2 Γ c W a)
  | .nil, X, e, W, h, hf, tk => by
    have h : e.isEmpty = true := h
    rw [List.isEmpty_iff] at h
    subst h
    exact a2_nil
  | .cons a as, X, e, W, h, hf, tk => by
    cases e with
    | nil => cases h
    | cons x xs =>
      have h : (chkE2 Γ.tb Γ.fnOf N sc a x && chkEs2 Γ.tb Γ.fnOf N sc as xs) = true := h
      rw [Bool.and_eq_true] at h
      exact a2_cons (soE2 G C C2 a X x W h.1 hf tk) (soEs2 G C C2 as X xs W h.2 hf tk) (star2 h.1 X.env xs)
end
end
/-- tests -/
def isCll : Expr → Bool
  | .Call _ _ _ _ => true
  | _ => false
def chkT2 (tb : Tb) (fo : Nat → Option Fn) (N : List Str) (sc : Scope) : E2 → Expr → Bool
  | .nt a, x => (match x with
    | .UnaryOp .Not y _ => chkT2 tb fo N sc a y
    | _ => false)
  | .orr a b, x => (match x with
    | .BoolOp .Or [y, z] _ => chkT2 tb fo N sc a y && chkT2 tb fo N sc b z
    | _ => false)
  | .rd e, x => chkE tb N e sc x
  | .pu e, x => chkE tb N e sc x
  | .cp op a b, x => chkE2 tb fo N sc (.cp op a b) x
  | t, x => isCll x && chkE2 tb fo N sc t x
section
variable {Γ : Ctx} {c : Nat → List D → R D} {n : Nat} {N : List Str} {sc : Scope}
theorem soT2v {X : Cx} {W : WX} {t : E2} {x : Expr} (h : isCll x = true) (he : PE X x (spE2 Γ c W t)) : PT X x (spB Γ c W t) := by
  cases x with
  | Call f as ks p => exact t2_val he fun _ => rfl
  | _ => cases h
theorem soT2 (G : Gk Γ) (C : Cok Γ n c) (C2 : Cok2 Γ n c) : ∀ (a : E2) (X : Cx) (e : Expr) (W : WX), chkT2 Γ.tb Γ.fnOf N sc a e = true → Fx Γ n N sc X → Takes X W → PT X e (spB Γ c W a)
  | .nt a, X, e, W, h, hf, tk => by
    unfold chkT2 at h
    split at h
    · exact t2_not (soT2 G C C2 a X _ W h hf tk)
    · cases h
  | .cp op a b, X, e, W, h, hf, tk => by
    have h : chkE2 Γ.tb Γ.fnOf N sc (.cp op a b) e = true := h
    unfold chkE2 at h
    split at h
    · simp only [Bool.and_eq_true, decide_eq_true_eq] at h
      obtain ⟨⟨rfl, h1⟩, h2⟩ := h
      exact t2_cp hf (soE2 G C C2 a X _ W h1 hf tk) (soE2 G C C2 b X _ W h2 hf tk) (marks_of (set2 h2))
    · cases h
  | .orr a b, X, e, W, h, hf, tk => by
    unfold chkT2 at h
    split at h
    · rw [Bool.and_eq_true] at h
      exact t2_or (soT2 G C C2 a X _ W h.1 hf tk) (soT2 G C C2 b X _ W h.2 hf tk)
    · cases h
  | .pu a, X, e, W, h, hf, tk => t2_pu (soE G C a sc X e W h hf tk).2
  | .rd a, X, e, W, h, hf, tk => t2_rd (soE G C a sc X e W h hf tk).2
  | .nw a, X, e, W, h, hf, tk => by
    have h := Bool.and_eq_true_iff.mp (show (isCll e && chkE2 Γ.tb Γ.fnOf N sc (.nw a) e) = true from h)
    exact soT2v h.1 (soE2 G C C2 _ X e W h.2 hf tk)
  | .vr a, X, e, W, h, hf, tk => by
    have h := Bool.and_eq_true_iff.mp (show (isCll e && chkE2 Γ.tb Γ.fnOf N sc (.vr a) e) = true from h)
    exact soT2v h.1 (soE2 G C C2 _ X e W h.2 hf tk)
  | .at a b, X, e, W, h, hf, tk => by
    have h := Bool.and_eq_true_iff.mp (show (isCll e && chkE2 Γ.tb Γ.fnOf N sc (.at a b) e) = true from h)
    exact soT2v h.1 (soE2 G C C2 _ X e W h.2 hf tk)
  | .fl cs a b, X, e, W, h, hf, tk => by
    have h := Bool.and_eq_true_iff.mp (show (isCll e && chkE2 Γ.tb Γ.fnOf N sc (.fl cs a b) e) = true from h)
    exact soT2v h.1 (soE2 G C C2 _ X e W h.2 hf tk)
  | .cl a b, X, e, W, h, hf, tk => by
    have h := Bool.and_eq_true_iff.mp (show (isCll e && chkE2 Γ.tb Γ.fnOf N sc (.cl a b) e) = true from h)
    exact soT2v h.1 (soE2 G C C2 _ X e W h.2 hf tk)
  | .mt a1 a2 a3 a4 a5, X, e, W, h, hf, tk => by
    have h := Bool.and_eq_true_iff.mp (show (isCll e && chkE2 Γ.tb Γ.fnOf N sc (.mt a1 a2 a3 a4 a5) e) = true from h)
    exact soT2v h.1 (soE2 G C C2 _ X e W h.2 hf tk)
  | .mk a1 a2 a3, X, e, W, h, hf, tk => by
    have h := Bool.and_eq_true_iff.mp (show (isCll e && chkE2 Γ.tb Γ.fnOf N sc (.mk a1 a2 a3) e) = true from h)
    exact soT2v h.1 (soE2 G C C2 _ X e W h.2 hf tk)
  | .tp a, X, e, W, h, hf, tk => by
    have h := Bool.and_eq_true_iff.mp (show (isCll e && chkE2 Γ.tb Γ.fnOf N sc (.tp a) e) = true from h)
    exact soT2v h.1 (soE2 G C C2 _ X e W h.2 hf tk)
  | .ls a, X, e, W, h, hf, tk => by
    have h := Bool.and_eq_true_iff.mp (show (isCll e && chkE2 Γ.tb Γ.fnOf N sc (.ls a) e) = true from h)
    exact soT2v h.1 (soE2 G C C2 _ X e W h.2 hf tk)
  | .pp a, X, e, W, h, hf, tk => by
    have h := Bool.and_eq_true_iff.mp (show (isCll e && chkE2 Γ.tb Γ.fnOf N sc (.pp a) e) = true from h)
    exact soT2v h.1 (soE2 G C C2 _ X e W h.2 hf tk)
end
mutual
def chkS2 (tb : Tb) (fo : Nat → Option Fn) (N : List Str) (sc : Scope) : S2 → Stmt → Bool
  | .asg i e, st => (match st with
    | .Assign [.Name x p] v pos => decide (N[i]? = some x) && locB sc x && chkE2 tb fo N sc e v
    | _ => false)
  | .asgT is e, st => (match st with
    | .Assign [.Tuple es k p] v pos => nmsB N sc is es && !isTupE v && !isLc v && chkE2 tb fo N sc e v
    | _ => false)
  | .ex e, st => (match st with
    | .Expr v pos => !isLc v && chkE2 tb fo N sc e v
    | _ => false)
  | .ret e, st => (match st with
    | .Return (some v) pos => chkE2 tb fo N sc e v
    | _ => false)
  | .ife t a b, st => (match st with
    | .If x y z pos => chkE tb N t sc x && chkSs2 tb fo N sc a y && chkSs2 tb fo N sc b z
    | _ => false)
  | .ifx t a b, st => (match st with
    | .If x y z pos => chkT2 tb fo N sc t x && chkSs2 tb fo N sc a y && chkSs2 tb fo N sc b z
    | _ => false)
  | .for tg it body, st => (match st with
    | .For tge ite bd [] pos => tgB N sc tg tge && chkI tb N it sc tge ite && chkSs2 tb fo N sc body bd
    | _ => false)
  | .forR tg e body, st => (match st with
    | .For tge ite bd [] pos => tgB N sc tg tge && frE fo e && chkE tb N e sc ite && chkSs2 tb fo N sc body bd
    | _ => false)
  | .whl m t body, st => (match st with
    | .While x bd [] pos => chkE tb N t sc x && chkSs2 tb fo N sc body bd
    | _ => false)
  | .whx m t body, st => (match st with
    | .While x bd [] pos => chkT2 tb fo N sc t x && chkSs2 tb fo N sc body bd
    | _ => false)
  | .app o e, st => (match st with
    | .Expr (.Call (.Attribute ox m p2) [v] [] cpos) pos => decide (m = ("append" : Str)) && (p2.endLine == cpos.line) && !isCallE ox && chkE2 tb fo N sc o ox && chkE2 tb fo N sc e v
    | _ => false)
  | .put o k e, st => (match st with
    | .Assign [.Subscript ox kx p2] v pos => !isLc v && chkE2 tb fo N sc e v && chkE2 tb fo N sc o ox && chkE2 tb fo N sc k kx
    | _ => false)
  | .raise _ x, st => (match st with
    | .Raise (some (.Call (.Name t p) [.Constant (.str m) j p2] [] cp)) none pos => decide (t = tx x) && tb.xs.contains x && gloB sc t && dbgB t
    | _ => false)
  | .tryK b ys x i k, st => (match st with
    | .Try body [.ExceptHandler (some (.Name t np)) (some nn) [.Assign [.Name kx kp] (.Name nn2 ep) ap] pos'] [] [] pos => decide (t = tx x) && tb.xs.contains x && ys.all (fun y => tb.xs.contains y) && gloB sc t && dbgB t && decide (N[i]? = some nn) && (sc.names.lookup nn == some .local) && decide (N[k]? = some kx) && (sc.names.lookup kx == some .local) && dbgB nn && !decide (i = k) && decide (nn2 = nn) && chkSs2 tb fo N sc b body
    | _ => false)
  | .brk, st => (match st with
    | .Break _ => true
    | _ => false)
  | .ct, st => (match st with
    | .Continue _ => true
    | _ => false)
  | .pass, st => (match st with
    | .Pass _ => true
    | _ => false)
  | .fset cs o f e, st => (match st with
    | .Assign [.Attribute ox nm p2] v pos => decide (nm = tx f) && !isLc v && cs.all (fun k => clB tb k f) && chkE2 tb fo N sc e v && chkE2 tb fo N sc o ox
    | _ => false)
def chkSs2 (tb : Tb) (fo : Nat → Option Fn) (N : List Str) (sc : Scope) : Ss2 → List Stmt → Bool
  | .nil, xs => xs.isEmpty
  | .cons s ss, xs => (match xs with
    | x :: r => chkS2 tb fo N sc s x && chkSs2 tb fo N sc ss r
    | [] => false)
end
section
variable {Γ : Ctx} {c : Nat → List D → R D} {n : Nat} {N : List Str} {sc : Scope}
/-- a comprehension that is stored -/
theorem lc_any (G : Gk Γ) (C : Cok Γ n c) {X : Cx} {W : WX} {pos : Pos} {i : Nat} {x : Str} {p : Pos} {e : E2} {a : E} {v : Expr} (hf : FxS Γ n N sc X) (tk : Takes X W) (h1 : N[i]? = some x) (h2 : locB sc x = true) (h5 : chkE Γ.tb N a sc v = true)
    (he : PE X v (spE2 Γ c W e)) (core : ∀ σ H Q, spE2 Γ c W e σ H Q → spE Γ c W a σ H Q) : PS X (.Assign [.Name x p] v pos) (spS2 Γ c W (.asg i e)) := by
  by_cases hl : isLc v = true
  · obtain ⟨elt, tg, it, cond, el, tge, ite, ifs, scope, vp, rfl, rfl, g1, g2, g3, g4, g5, g6, g7⟩ := chk_lc h5 hl
    have sw := sw_lc (el := el) (gs := [⟨tge, ite, ifs, 0⟩]) (s := scope) (vp := vp) (p := p) (x := x) (l := pos.line) (env := X.env) (by rw [hf.fx.eS]; exact hf.kd)
    cases hw : swB X.env.scope x p vp scope with
    | true =>
      rw [hw] at sw
      obtain ⟨pi, pf⟩ := soI G C it sc X tge ite W g5 hf.fx tk
      have hw : swB sc x p vp scope = true := by rw [← hf.fx.eS]; exact hw
      unfold swB at hw
      simp only [Bool.and_eq_true, beq_iff_eq] at hw
      exact s2_asgLc hf h1 hw.1.1 core sw pi (by rw [hf.fx.eN, hf.fx.eS]; exact blkOk_by g2) g3
        (fun s H Cc cl fp => by
          have z := pg_tg (X := X.blk s H scope (compEnvC scope cl Cc X.env) fp) (by show X.N.Nodup; rw [hf.fx.eN]; exact hf.fx.nd) hf.fx.calm (stot_by (fun i x a b => sto_blk hf.fx s H scope cl Cc fp a b) g4)
          have e : (X.blk s H scope (compEnvC scope cl Cc X.env) fp).K = Γ.K := hf.fx.K
          rw [e] at z
          exact z)
        (fun s H Cc cl fp => soC G C cond (relS scope sc) _ ifs W0 g6 (hf.fx.blk s H scope cl Cc fp) takes0)
        (fun s H Cc cl fp => (soE G C elt (relS scope sc) _ el W0 g7 (hf.fx.blk s H scope cl Cc fp) takes0).1) (pf X.env)
    | false =>
      rw [hw] at sw
      exact s2_asg hf h1 h2 he sw
  · exact s2_asg hf h1 h2 he (sw_no (by simpa using hl))
theorem few2 {tb : Tb} {fo : Nat → Option Fn} {X : Cx} {a : E2} {v : Expr} {cpos : Pos} (h : chkE2 tb fo N sc a v = true) : ((backTo cpos (starEach [v] X.env)).all (fun x => !x.1) && (backToKw cpos (keywordEach [] X.env)).all (fun x => x.1.isSome) && decide ([v].length + ([] : List Keyword).length + (if ([] : List Keyword).isEmpty then 0 else 1) < 30)) = true := by
  rw [star2 h X.env []]
  rfl
theorem lc2 {tb : Tb} {fo : Nat → Option Fn} {a : E2} {v : Expr} (h : chkE2 tb fo N sc a v = true) : isLc v = false ∨ (∃ e, (a = .pu e ∨ a = .rd e ∨ (a = .nw e ∧ frE fo e = true)) ∧ chkE tb N e sc v = true) := by
  cases a with
  | pu e => exact .inr ⟨e, .inl rfl, h⟩
  | rd e => exact .inr ⟨e, .inr (.inl rfl), h⟩
  | nw e =>
    have h : (frE fo e && chkE tb N e sc v) = true := h
    rw [Bool.and_eq_true] at h
    exact .inr ⟨e, .inr (.inr ⟨rfl, h.1⟩), h.2⟩
  | _ => left; cases v <;> first | rfl | cases h
mutual
theorem soS2 (G : Gk Γ) (C : Cok Γ n c) (C2 : Cok2 Γ n c) : ∀ (a : S2) (X : Cx) (W : WX) (st : Stmt), FxS Γ n N sc X → Takes X W → chkS2 Γ.tb Γ.fnOf N sc a st = true → PS X st (spS2 Γ c W a)
  | .asg i e, X, W, st, hf, tk, h => by
    unfold chkS2 at h
    split at h
    · rename_i x p v pos
      simp only [Bool.and_eq_true, decide_eq_true_eq] at h
      obtain ⟨⟨h1, h2⟩, h3⟩ := h
      have he := soE2 G C C2 e X v W h3 hf.fx tk
      rcases lc2 h3 with hl | ⟨e0, q, h5⟩
      · exact s2_asg hf h1 h2 he (sw_no hl)
      · rcases q with rfl | rfl | ⟨rfl, hfr⟩
        · exact lc_any G C hf tk h1 h2 h5 he fun σ H Q q => pu_core q
        · exact lc_any G C hf tk h1 h2 h5 he fun σ H Q q => rd_core q
        · exact lc_any G C hf tk h1 h2 h5 he fun σ H Q q => nw_core hfr q
    · cases h
  | .asgT is e, X, W, st, hf, tk, h => by
    unfold chkS2 at h
    split at h
    · simp only [Bool.and_eq_true, Bool.not_eq_true'] at h
      obtain ⟨⟨⟨h1, h2⟩, h3⟩, h4⟩ := h
      exact s2_asgT hf (pg_def2 hf (tg := .tp is) h1) (soE2 G C C2 e X _ W h4 hf.fx tk) (sole_no h3) (sto_no h2) rfl
    · cases h
  | .ex e, X, W, st, hf, tk, h => by
    unfold chkS2 at h
    split at h
    · simp only [Bool.and_eq_true, Bool.not_eq_true'] at h
      exact s2_ex (soE2 G C C2 e X _ W h.2 hf.fx tk) (sw_no h.1)
    · cases h
  | .ret e, X, W, st, hf, tk, h => by
    unfold chkS2 at h
    split at h
    · exact s2_ret (soE2 G C C2 e X _ W h hf.fx tk)
    · cases h
  | .ife t a b, X, W, st, hf, tk, h => by
    unfold chkS2 at h
    split at h
    · simp only [Bool.and_eq_true] at h
      exact s2_if (soE G C t sc X _ W h.1.1 hf.fx tk).2 (soSs2 G C C2 a X W _ hf tk h.1.2) (soSs2 G C C2 b X W _ hf tk h.2)
    · cases h
  | .ifx t a b, X, W, st, hf, tk, h => by
    unfold chkS2 at h
    split at h
    · simp only [Bool.and_eq_true] at h
      exact s2_ifx (soT2 G C C2 t X _ W h.1.1 hf.fx tk) (soSs2 G C C2 a X W _ hf tk h.1.2) (soSs2 G C C2 b X W _ hf tk h.2)
    · cases h
  | .for tg it body, X, W, st, hf, tk, h => by
    unfold chkS2 at h
    split at h
    · simp only [Bool.and_eq_true] at h
      obtain ⟨⟨h1, h2⟩, h3⟩ := h
      obtain ⟨pi, pf⟩ := soI G C it sc X _ _ W h2 hf.fx tk
      exact s2_for hf (pg_def2 hf h1) pi (soSs2 G C C2 body X W _ hf tk h3) (pf X.env)
    · cases h
  | .forR tg e body, X, W, st, hf, tk, h => by
    unfold chkS2 at h
    split at h
    · simp only [Bool.and_eq_true] at h
      obtain ⟨⟨⟨h1, h2⟩, h3⟩, h4⟩ := h
      exact s2_forR hf h2 (pg_def2 hf h1) (soE G C e sc X _ W h3 hf.fx tk).1 (soSs2 G C C2 body X W _ hf tk h4) (fold_ok (chk_set h3) X.env)
    · cases h
  | .whl m t body, X, W, st, hf, tk, h => by
    unfold chkS2 at h
    split at h
    · simp only [Bool.and_eq_true] at h
      exact s2_whl hf (soE G C t sc X _ W h.1 hf.fx tk).2 (soSs2 G C C2 body X W _ hf tk h.2)
    · cases h
  | .app o e, X, W, st, hf, tk, h => by
    unfold chkS2 at h
    split at h
    · simp only [Bool.and_eq_true, decide_eq_true_eq, Bool.not_eq_true'] at h
      obtain ⟨⟨⟨⟨rfl, h1⟩, h2⟩, h3⟩, h4⟩ := h
      exact s2_app hf (soE2 G C C2 o X _ W h3 hf.fx tk) (soE2 G C C2 e X _ W h4 hf.fx tk) (base_ok h2) (few2 h4) h1 (star2 h4 X.env []) rfl
    · cases h
  | .put o k e, X, W, st, hf, tk, h => by
    unfold chkS2 at h
    split at h
    · simp only [Bool.and_eq_true, Bool.not_eq_true'] at h
      obtain ⟨⟨⟨h1, h2⟩, h3⟩, h4⟩ := h
      exact s2_put hf (soE2 G C C2 o X _ W h3 hf.fx tk) (soE2 G C C2 e X _ W h2 hf.fx tk) (soE2 G C C2 k X _ W h4 hf.fx tk) (sw_no h1)
    · cases h
  | .raise _ x, X, W, st, hf, tk, h => by
    unfold chkS2 at h
    split at h
    · simp only [Bool.and_eq_true, decide_eq_true_eq] at h
      obtain ⟨⟨⟨rfl, h1⟩, h2⟩, h3⟩ := h
      exact s2_raise hf G tk (by simpa using h1) h2 h3
    · cases h
  | .tryK b ys x i k, X, W, st, hf, tk, h => by
    unfold chkS2 at h
    split at h
    · simp only [Bool.and_eq_true, decide_eq_true_eq, Bool.not_eq_true', beq_iff_eq, decide_eq_false_iff_not, List.all_eq_true] at h
      obtain ⟨⟨⟨⟨⟨⟨⟨⟨⟨⟨⟨⟨rfl, h1⟩, h2⟩, h3⟩, h4⟩, h5⟩, h6⟩, h7⟩, h8⟩, h9⟩, h12⟩, rfl⟩, h14⟩ := h
      exact s2_tryK hf G tk (by simpa using h1) (fun y hy => by simpa using h2 y hy) h3 h4 h5 h6 h7 h8 h9 h12 fun W' X' hf' tk' => soSs2 G C C2 b X' W' _ hf' tk' h14
    · cases h
  | .brk, X, W, st, hf, tk, h => by
    unfold chkS2 at h
    split at h
    · exact s2_brk
    · cases h
  | .ct, X, W, st, hf, tk, h => by
    unfold chkS2 at h
    split at h
    · exact s2_ct
    · cases h
  | .pass, X, W, st, hf, tk, h => by
    unfold chkS2 at h
    split at h
    · exact s2_pass
    · cases h
  | .whx m t body, X, W, st, hf, tk, h => by
    unfold chkS2 at h
    split at h
    · simp only [Bool.and_eq_true] at h
      exact s2_whx hf (soT2 G C C2 t X _ W h.1 hf.fx tk) (soSs2 G C C2 body X W _ hf tk h.2)
    · cases h
  | .fset cs o f e, X, W, st, hf, tk, h => by
    unfold chkS2 at h
    split at h
    · simp only [Bool.and_eq_true, decide_eq_true_eq, Bool.not_eq_true', List.all_eq_true] at h
      obtain ⟨⟨⟨⟨rfl, h1⟩, h2⟩, h3⟩, h4⟩ := h
      exact s2_fset hf G (soE2 G C C2 o X _ W h4 hf.fx tk) (soE2 G C C2 e X _ W h3 hf.fx tk) h2 (sw_no h1)
    · cases h
theorem soSs2 (G : Gk Γ) (C : Cok Γ n c) (C2 : Cok2 Γ n c) : ∀ (a : Ss2) (X : Cx) (W : WX) (st : List Stmt), FxS Γ n N sc X → Takes X W → chkSs2 Γ.tb Γ.fnOf N sc a st = true → PSs X st (spSs2 Γ c W a)
  | .nil, X, W, st, hf, tk, h => by
    have h : st.isEmpty = true := h
    rw [List.isEmpty_iff] at h
    subst h
    exact ss2_nil
  | .cons a as, X, W, st, hf, tk, h => by
    cases st with
    | nil => cases h
    | cons x xs =>
      have h : (chkS2 Γ.tb Γ.fnOf N sc a x && chkSs2 Γ.tb Γ.fnOf N sc as xs) = true := h
      rw [Bool.and_eq_true] at h
      exact ss2_cons (soS2 G C C2 a X W x hf tk h.1) (soSs2 G C C2 as X W xs hf tk h.2)
end
end
end Pw

/-! text PwZ4 -/
/-! defs: each keeps its promise -/
namespace Pw
open PySem PySem.Spec PyProof.Rows L2

/-- a def: its name, parameters, all its names, its text, its form -/
structure Df where
  nm : Str
  ps : List Str
  N : List Str
  st : Stmt
  fn : Fn
  cl : Tx := []
/-- its full name -/
def Df.qn (d : Df) : Str := if d.cl.isEmpty then d.nm else tx (d.cl ++ 46 :: d.nm.cps.toList)
def scB (N ps : List Str) (sc : Scope) : Bool := decide (sc.kind = .function) && !sc.isCoroutine && !sc.isGenerator && decide N.Nodup && decide (N.take ps.length = ps) && ps.all (fun x => locB sc x) && sc.names.all (fun y => !(y.2 == .free))
theorem sc_of {N ps : List Str} {sc : Scope} (h : scB N ps sc = true) : FnScope N ps sc := by
  unfold scB at h
  simp only [Bool.and_eq_true, decide_eq_true_eq, Bool.not_eq_true', List.all_eq_true] at h
  obtain ⟨⟨⟨⟨⟨⟨h1, h2⟩, h3⟩, h4⟩, h5⟩, h6⟩, h7⟩ := h
  refine ⟨h1, h2, h3, h4, h5, fun x hx => ?_, fun y hy => ?_⟩
  · have q := h6 x hx
    unfold locB at q
    split at q
    · exact .inl (by assumption)
    · exact .inr (by assumption)
    · cases q
  · have q := h7 y hy
    intro z
    rw [z] at q
    cases q
def chkD (tb : Tb) (fo : Nat → Option Fn) (d : Df) : Bool := decide (d.fn.n = d.N.length) && decide (d.fn.ps = d.ps.length) && scB d.N d.ps (defScope d.st) && d.fn.own.all (fun i => Nat.ble d.ps.length i) && (match d.fn.two with
  | none => chkSs tb fo d.N d.fn.own d.fn.fr (defScope d.st) d.fn.body (defBody d.st)
  | some (_, b) => chkSs2 tb fo d.N (defScope d.st) b (defBody d.st))
def Bd (d : Df) : Prop := ∀ (kV doc pm : Value) (an : Option Addr) (cdv ct : Value) (us : List Value), us.length = d.ps.length → bindArgs (PySem.W.fnOf d.nm d.qn (defArgs d.st) (defBody d.st) (defScope d.st) .none kV doc pm an cdv ct) ⟨us, []⟩ = pure (d.ps.zip us)
abbrev Tab := List (Nat × Df)
def Tab.ds (L : Tab) : List Df := L.map (·.2)
def foOf (L : Tab) (f : Nat) : Option Fn := (L.lookup f).map (·.fn)
def nmOf (L : Tab) (f : Nat) : Option Str := (L.lookup f).bind fun d => if d.fn.store || !d.cl.isEmpty then none else some d.nm
def nm2Of (L : Tab) (f : Nat) : Option Str := (L.lookup f).bind fun d => if d.fn.store && d.cl.isEmpty then some d.nm else none
/-- the methods -/
def mtOf (L : Tab) (f : Nat) : Option (Tx × Tx) := (L.lookup f).bind fun d => if d.fn.store && !d.cl.isEmpty then some (d.cl, d.nm.cps.toList) else none
theorem nmOf_ok {L : Tab} {f : Nat} {x : Str} (h : nmOf L f = some x) : ∃ d, L.lookup f = some d ∧ d.fn.store = false ∧ d.cl.isEmpty = true ∧ d.nm = x := by
  unfold nmOf at h
  cases e : L.lookup f with
  | none => rw [e] at h; cases h
  | some d =>
    rw [e] at h
    have h : (if d.fn.store || !d.cl.isEmpty then none else some d.nm) = some x := h
    split at h
    · cases h
    · rename_i hs
      simp only [Bool.or_eq_true, not_or, Bool.not_eq_true, Bool.not_eq_true', Bool.not_eq_false'] at hs
      exact ⟨d, rfl, hs.1, by simpa using hs.2, Option.some.inj h⟩
theorem nm2Of_ok {L : Tab} {f : Nat} {x : Str} (h : nm2Of L f = some x) : ∃ d, L.lookup f = some d ∧ d.fn.store = true ∧ d.cl.isEmpty = true ∧ d.nm = x := by
  unfold nm2Of at h
  cases e : L.lookup f with
  | none => rw [e] at h; cases h
  | some d =>
    rw [e] at h
    have h : (if d.fn.store && d.cl.isEmpty then some d.nm else none) = some x := h
    split at h
    · rename_i hs
      rw [Bool.and_eq_true] at hs
      exact ⟨d, rfl, hs.1, hs.2, Option.some.inj h⟩
    · cases h
theorem mtOf_ok {L : Tab} {f : Nat} {cn m : Tx} (h : mtOf L f = some (cn, m)) : ∃ d, L.lookup f = some d ∧ d.fn.store = true ∧ d.cl.isEmpty = false ∧ d.cl = cn ∧ d.nm = tx m := by
  unfold mtOf at h
  cases e : L.lookup f with
  | none => rw [e] at h; cases h
  | some d =>
    rw [e] at h
    have h : (if d.fn.store && !d.cl.isEmpty then some (d.cl, d.nm.cps.toList) else none) = some (cn, m) := h
    split at h
    · rename_i hs
      rw [Bool.and_eq_true] at hs
      have h := Option.some.inj h
      injection h with h1 h2
      refine ⟨d, rfl, hs.1, by simpa using hs.2, h1, ?_⟩
      rw [← h2]
    · cases h
theorem Tab.mem {f : Nat} {d : Df} : ∀ {L : Tab}, L.lookup f = some d → d ∈ L.ds
  | [], h => by cases h
  | (g, e) :: r, h => by
    by_cases q : f = g
    · subst q
      rw [List.lookup_cons_self] at h
      cases h
      exact List.mem_cons_self ..
    · rw [List.lookup_cons, beq_eq_false_iff_ne.mpr q] at h
      exact List.mem_cons_of_mem _ (Tab.mem h)
structure Facts (Γ : Ctx) (L : Tab) : Prop where
  nm : Γ.tb.nm = nmOf L
  nm2 : Γ.tb.nm2 = nm2Of L
  mt : Γ.tb.mt = mtOf L
  fo : Γ.fnOf = foOf L
  dk : ∀ d, d ∈ L.ds → d.cl.isEmpty = true → ∃ fa fd, Γ.mg d.nm = some (.ref fa) ∧ FunD Γ.K d.nm d.qn (defArgs d.st) (defBody d.st) (defScope d.st) [] [] fa fd
  dm : ∀ d, d ∈ L.ds → d.cl.isEmpty = false → ∃ fa fd, (d.nm = "__init__" → Mk Γ.K (He.ga Γ.K (tx d.cl)) fa ∧ Γ.mg (tx d.cl) = some (.ref (He.ga Γ.K (tx d.cl)))) ∧ (d.nm ≠ "__init__" → Meth Γ.K (He.ga Γ.K (tx d.cl)) d.nm fa) ∧ FunD Γ.K d.nm d.qn (defArgs d.st) (defBody d.st) (defScope d.st) [] [] fa fd
  bd : ∀ d, d ∈ L.ds → Bd d
  chk : ∀ d, d ∈ L.ds → chkD Γ.tb Γ.fnOf d = true

/-- what a frame begins with -/
theorem start_fi {K : PySem.W.Frag} {O : List Nat} {H : Hp} {N : List Str} {n : Nat} {ds : List D} {vs : List V} (hn : n = N.length) (hO : ∀ i, i ∈ O → ds.length ≤ i) (hr : RpL K Em H ds vs) :
    FI K (fun Y => ZOk Y H ∧ RpL K Y H ds vs) O H H (start N vs) (ds.map some ++ List.replicate (n - ds.length) none) := by
  subst hn
  have hl : ds.length = vs.length := hr.length
  have at_ : ∀ i d, (ds.map some ++ List.replicate (N.length - ds.length) (none : Option D))[i]? = some (some d) → i < ds.length ∧ ds[i]? = some d := fun i d e => by
    by_cases h : i < ds.length
    · rw [List.getElem?_append_left (by rw [List.length_map]; exact h), List.getElem?_map] at e
      obtain ⟨x, e1, e2⟩ := Option.map_eq_some_iff.mp e
      cases e2
      exact ⟨h, e1⟩
    · rw [List.getElem?_append_right (by rw [List.length_map]; omega), List.getElem?_replicate] at e
      split at e <;> cases e
  have no : ∀ a, ¬ own O (start N vs) (ds.map some ++ List.replicate (N.length - ds.length) none) a := by
    rintro a ⟨i, hi, _, es, e, _⟩
    have q := (at_ i _ e).1
    have := hO i hi
    omega
  refine ⟨?_, fun Y hy => ⟨?_, fun i d _ e => ?_⟩, Same.refl H, fun i hi a es _ e _ => ?_, fun i hi j hj ne a es fs _ e _ _ _ _ => ?_, ⟨zok_em, hr⟩, fun Y hy => hy.1⟩
  · unfold L2.start
    rw [List.length_append, List.length_append, List.length_map, List.length_map, List.length_replicate, List.length_replicate, hl]
  · unfold L2.start
    rw [List.length_append, List.length_append, List.length_map, List.length_map, List.length_replicate, List.length_replicate, hl]
  · obtain ⟨h1, h2⟩ := at_ i d e
    obtain ⟨v, e1, r⟩ := hy.2.get h2
    have r : Rp K (zz Y O (start N vs) (ds.map some ++ List.replicate (N.length - ds.length) none)) H d v := r.weak fun b z => z.elim id fun w => (no b w).elim
    refine ⟨v, ?_, r.relax, fun _ => r⟩
    unfold L2.start
    rw [List.getElem?_append_left (by rw [List.length_map]; omega), List.getElem?_map, e1]
    rfl
  · have q := (at_ i _ e).1
    have := hO i hi
    omega
  · have q := (at_ i _ e).1
    have := hO i hi
    omega

theorem Tab.fo {Γ : Ctx} {L : Tab} (F : Facts Γ L) {f : Nat} {d : Df} (h : L.lookup f = some d) : Γ.fnOf f = some d.fn := by
  rw [F.fo]
  unfold foOf
  rw [h]
  rfl
theorem callN_at {T : Nat → Option Fn} {n f : Nat} {fn : Fn} {ds : List D} (h : T f = some fn) : callN T (n + 1) f ds = runFn (callN T n) fn ds := by
  show (match T f with
    | some fn => runFn (callN T n) fn ds
    | none => R.bad) = _
  rw [h]
theorem fn_step {Γ : Ctx} {L : Tab} (G : Gk Γ) (F : Facts Γ L) {n f : Nat} {d : Df} {fa : Addr} {fd : FuncData} (C : Cok Γ n (callN Γ.fnOf n)) (h3 : L.lookup f = some d) (ht : d.fn.two = none) (e2 : FunD Γ.K d.nm d.qn (defArgs d.st) (defBody d.st) (defScope d.st) [] [] fa fd) :
    FnOk Γ.P Γ.w Γ.K Γ.mg Γ.base (L2.CX Γ.P Γ.w) (2 * (n + 1)) fa fd d.ps (spF Γ (callN Γ.fnOf (n + 1)) f d.fn) := by
  have hd : d ∈ L.ds := Tab.mem h3
  have h1 := Tab.fo F h3
  have ck := F.chk d hd
  unfold chkD at ck
  rw [ht] at ck
  simp only [Bool.and_eq_true, decide_eq_true_eq, List.all_eq_true] at ck
  obtain ⟨⟨⟨⟨k1, k2⟩, k3⟩, k4⟩, k5⟩ := ck
  have S := sc_of k3
  refine e2.ok S (fun vs H Q E q => ?_) fun cdv A outer s H vs Q E hr q => ?_
  · obtain ⟨ds, hl, _⟩ := q
    rw [hl, k2]
  · obtain ⟨ds, hl, rp, q⟩ := q
    have hds : ds.length = d.fn.ps := by rw [rp.length, hl]
    refine ⟨spSs Γ (callN Γ.fnOf n) (fun cls dd _ H' => E cls dd H') d.fn.own (fun Y => ZOk Y H ∧ RpL Γ.K Y H ds vs) H d.fn.fr d.fn.body, ?_, ?_⟩
    · refine soSs (n := n) (N := d.N) (sc := defScope d.st) G C d.fn.body _ _ _ ⟨⟨rfl, rfl, rfl, rfl, rfl, rfl, rfl, rfl, hr, S.nd⟩, passes_of rfl, fun _ => rfl, S.kind, rfl, rfl⟩ (takes_of rfl rfl rfl rfl) k5
    · refine ⟨ds.map some ++ List.replicate (d.fn.n - ds.length) none, start_fi k1 (fun i hi => ?_) rp, ?_⟩
      · have z := k4 i hi
        have z : d.ps.length ≤ i := by simpa using z
        omega
      · have q : match runFn1 (callN Γ.fnOf n) d.fn ds with
          | .ok x => ∀ v H', Same H H' → (∀ Y, ZOk Y H → RpL Γ.K Y H ds vs → Rp Γ.K Y H' x v) → (d.fn.fr = true → Fr H H' x v) → Q v H'
          | .ex x => ∀ H', Same H H' → E (Γ.cl x) none H'
          | .bad => False := by
          have e : callN Γ.fnOf (n + 1) f ds = runFn1 (callN Γ.fnOf n) d.fn ds := by
            rw [callN_at h1]
            unfold runFn
            rw [ht]
          rw [← e]
          exact q
        unfold runFn1 at q
        rw [if_pos hds] at q
        rw [hds]
        cases ze : evSs (callN Γ.fnOf n) d.fn.body (ds.map some ++ List.replicate (d.fn.n - d.fn.ps) none) with
        | nx ρ' =>
          rw [ze] at q
          exact fun σ' H' F' ev => q .non H' F'.sam (fun Y _ _ => rfl) fun _ => trivial
        | ret x =>
          rw [ze] at q
          exact fun v H' s' r fr => q v H' s' (fun Y zy ry => r Y ⟨zy, ry⟩) fr
        | brk ρ' => rw [ze] at q; exact q.elim
        | ct ρ' => rw [ze] at q; exact q.elim
        | ex x ρ' =>
          rw [ze] at q
          exact fun σ' H' F' ev => q H' F'.sam
        | bad => rw [ze] at q; exact q.elim
/-! ### by places -/
theorem start_w {K : PySem.W.Frag} {M : List Addr} {H : Hp} {N : List Str} {n : Nat} {ds : List D} {vs : List V} (hn : n = N.length) (hr : RWL K M H ds vs) :
    SlW K M H (start N vs) (ds.map some ++ List.replicate (n - ds.length) none) := by
  subst hn
  have hl : ds.length = vs.length := hr.length
  refine ⟨?_, fun i d e => ?_⟩
  · unfold L2.start
    rw [List.length_append, List.length_append, List.length_map, List.length_map, List.length_replicate, List.length_replicate, hl]
  · by_cases h : i < ds.length
    · rw [List.getElem?_append_left (by rw [List.length_map]; exact h), List.getElem?_map] at e
      obtain ⟨x, e1, e2⟩ := Option.map_eq_some_iff.mp e
      cases e2
      obtain ⟨v, e3, r⟩ := hr.get e1
      refine ⟨v, ?_, r⟩
      unfold L2.start
      rw [List.getElem?_append_left (by rw [List.length_map]; omega), List.getElem?_map, e3]
      rfl
    · rw [List.getElem?_append_right (by rw [List.length_map]; omega), List.getElem?_replicate] at e
      split at e <;> cases e
theorem mapO_P2 {k : Nat} {Ω : Om} {d d' : D} (h : snapR k Ω d = some d') : d'.isP2 = d.isP2 := by
  cases k with
  | zero => cases h
  | succ k =>
    unfold snapR at h
    split at h
    · cases h; rfl
    · split at h
      · split at h
        · obtain ⟨_, _, rfl⟩ := Option.map_eq_some_iff.mp h; rfl
        · obtain ⟨_, _, rfl⟩ := Option.map_eq_some_iff.mp h; rfl
        · cases h
      · rename_i ws _
        obtain ⟨ys, e, rfl⟩ := Option.map_eq_some_iff.mp h
        have l := mapO_len e
        match ws, ys, l with
        | [], [], _ => rfl
        | [_], [_], _ => rfl
        | [_, _], [_, _], _ => rfl
        | _ :: _ :: _ :: _, _ :: _ :: _ :: _, _ => rfl
      · cases h
theorem mapO_prsR {k : Nat} {Ω : Om} : ∀ {xs ys : List D}, mapO (snapR k Ω) xs = some ys → prs ys = prs xs
  | [], ys, h => by cases h; rfl
  | x :: xs, ys, h => by
    unfold mapO at h
    split at h
    · rename_i y e0
      obtain ⟨zs, e, rfl⟩ := Option.map_eq_some_iff.mp h
      unfold prs
      rw [List.all_cons, List.all_cons, mapO_P2 e0]
      have z := mapO_prsR e
      unfold prs at z
      rw [z]
    · cases h
mutual
theorem noC_pl : ∀ d : D, d.noC = true → d.pl = true
  | .loc _, h => by cases h
  | .tup xs, h => noCL_plL xs h
  | .non, _ => rfl
  | .bl _, _ => rfl
  | .int _, _ => rfl
  | .str _, _ => rfl
  | .lst _, _ => rfl
  | .dct _ _, _ => rfl
  | .exc _, _ => rfl
  | .ins _ _ _, _ => rfl
theorem noCL_plL : ∀ ds : List D, D.noCL ds = true → D.plL ds = true
  | [], _ => rfl
  | d :: ds, h => by
    have h : (d.noC && D.noCL ds) = true := h
    rw [Bool.and_eq_true] at h
    show (d.pl && D.plL ds) = true
    rw [noC_pl d h.1, noCL_plL ds h.2]
    rfl
end
theorem snapR_rp {K : PySem.W.Frag} {M : List Addr} {H : Hp} {Ω : Om} {Y : Addr → Prop} (S : SI K M H Ω) (hY : ∀ a, a ∈ M → ¬ Y a) : ∀ (k : Nat) (d d' : D) (v : V), snapR k Ω d = some d' → RW K M H d v → Rp K Y H d' v
  | 0, _, _, _, h, _ => by cases h
  | k + 1, d, d', v, h, r => by
    have ih := snapR_rp S hY k
    unfold snapR at h
    split at h
    · rename_i hp
      cases h
      exact Rp.noC d v hp (RW.to_rp d v (noC_pl d hp) r)
    · split at h
      · rename_i l _
        obtain ⟨a, e1, e2⟩ := r
        subst e2
        cases ho : Ω[l]? with
        | none => rw [ho] at h; cases h
        | some o =>
          obtain ⟨a', u, f1, f2, f3⟩ := S.cell l o ho
          rw [e1] at f1; cases f1
          have na := hY a (List.mem_of_getElem? e1)
          rw [ho] at h
          split at h
          · rename_i ws q
            cases q
            obtain ⟨es, e, rfl⟩ := Option.map_eq_some_iff.mp h
            cases u with
            | lst xs => exact ⟨a, xs, rfl, .inl f2, na, mapO_rp ih e f3⟩
            | _ => exact f3.elim
          · rename_i ks ws q
            cases q
            obtain ⟨es, e, rfl⟩ := Option.map_eq_some_iff.mp h
            cases u with
            | dK kvs => exact ⟨a, kvs, rfl, .inl f2, na, f3.1, f3.2.1, mapO_rp ih e f3.2.2⟩
            | _ => exact f3.elim
          · cases h
      · rename_i ws _
        obtain ⟨es, e, rfl⟩ := Option.map_eq_some_iff.mp h
        obtain ⟨a, xs, e1, e2, e3⟩ := r
        exact ⟨a, xs, e1, ⟨e2.1, fun z => e2.2 (by rw [← mapO_prsR e]; exact z)⟩, mapO_rp ih e e3⟩
      · cases h
theorem snapR_fr {K : PySem.W.Frag} {M : List Addr} {H0 H : Hp} {Ω : Om} (S : SI K M H Ω) (hn : ∀ a, a ∈ M → H0 a = none) {k : Nat} {d d' : D} {v : V} (h : snapR k Ω d = some d') (r : RW K M H d v) : Fr H0 H d' v := by
  cases k with
  | zero => cases h
  | succ k =>
    unfold snapR at h
    split at h
    · rename_i hp
      cases h
      cases d with
      | lst _ => cases hp
      | dct _ _ => cases hp
      | _ => trivial
    · split at h
      · rename_i l _
        obtain ⟨a, e1, e2⟩ := r
        subst e2
        cases ho : Ω[l]? with
        | none => rw [ho] at h; cases h
        | some o =>
          obtain ⟨a', u, f1, f2, f3⟩ := S.cell l o ho
          rw [e1] at f1; cases f1
          have na := hn a (List.mem_of_getElem? e1)
          rw [ho] at h
          split at h
          · rename_i ws q
            cases q
            obtain ⟨es, e, rfl⟩ := Option.map_eq_some_iff.mp h
            cases u with
            | lst xs => exact ⟨a, xs, rfl, na, f2⟩
            | _ => exact f3.elim
          · rename_i ks ws q
            cases q
            obtain ⟨es, e, rfl⟩ := Option.map_eq_some_iff.mp h
            cases u with
            | dK kvs => exact ⟨a, kvs, rfl, na, f2⟩
            | _ => exact f3.elim
          · cases h
      · obtain ⟨es, e, rfl⟩ := Option.map_eq_some_iff.mp h
        trivial
      · cases h
theorem fn_stepP {Γ : Ctx} {L : Tab} (G : Gk Γ) (F : Facts Γ L) {n f : Nat} {d : Df} {b : Ss2} {fa : Addr} {fd : FuncData} (C : Cok Γ n (callN Γ.fnOf n)) (C2 : Cok2 Γ n (callN Γ.fnOf n)) (h3 : L.lookup f = some d) (ht : d.fn.two = some (false, b)) (e2 : FunD Γ.K d.nm d.qn (defArgs d.st) (defBody d.st) (defScope d.st) [] [] fa fd) :
    FnOk Γ.P Γ.w Γ.K Γ.mg Γ.base (L2.CX Γ.P Γ.w) (2 * (n + 1)) fa fd d.ps (spF Γ (callN Γ.fnOf (n + 1)) f d.fn) := by
  have hd : d ∈ L.ds := Tab.mem h3
  have h1 := Tab.fo F h3
  have ck := F.chk d hd
  unfold chkD at ck
  rw [ht] at ck
  simp only [Bool.and_eq_true, decide_eq_true_eq, List.all_eq_true] at ck
  obtain ⟨⟨⟨⟨k1, k2⟩, k3⟩, k4⟩, k5⟩ := ck
  have S := sc_of k3
  refine e2.ok S (fun vs H Q E q => ?_) fun cdv A outer s H vs Q E hr q => ?_
  · obtain ⟨ds, hl, _⟩ := q
    rw [hl, k2]
  · obtain ⟨ds, hl, rp, q⟩ := q
    have hds : ds.length = d.fn.ps := by rw [rp.length, hl]
    have rw0 : RWL Γ.K [] H ds vs := RWL.of_rp ds vs (rp.weak fun a z => by cases z)
    refine ⟨spSs2 Γ (callN Γ.fnOf n) (fun cls dd _ H' => E cls dd H') b, ?_, ?_⟩
    · exact soSs2 (n := n) (N := d.N) (sc := defScope d.st) G C C2 b _ _ _ ⟨⟨rfl, rfl, rfl, rfl, rfl, rfl, rfl, rfl, hr, S.nd⟩, passes_of rfl, fun _ => rfl, S.kind, rfl, rfl⟩ (takes_of rfl rfl rfl rfl) k5
    · refine ⟨[], ds.map some ++ List.replicate (d.fn.n - ds.length) none, [], ⟨rfl, List.nodup_nil, fun l o e => by simp at e⟩, start_w k1 rw0, ?_⟩
      have q : match finP (runW (callN Γ.fnOf n) d.fn b ds []) with
          | .ok x => ∀ v H', Same H H' → (∀ Y, ZOk Y H → RpL Γ.K Y H ds vs → Rp Γ.K Y H' x v) → (d.fn.fr = true → Fr H H' x v) → Q v H'
          | .ex x => ∀ H', Same H H' → E (Γ.cl x) none H'
          | .bad => False := by
        have e : callN Γ.fnOf (n + 1) f ds = finP (runW (callN Γ.fnOf n) d.fn b ds []) := by
          rw [callN_at h1]
          unfold runFn
          rw [ht]
        rw [← e]
        exact q
      unfold runW at q
      rw [if_pos hds] at q
      rw [hds]
      have sam : ∀ {M' : List Addr} {H' : Hp}, Gr [] H M' H' → Same H H' := fun g a u e => (g.keep a u e (by simp)).1
      have new : ∀ {M' : List Addr} {H' : Hp}, Gr [] H M' H' → ∀ a, a ∈ M' → H a = none := fun {M' H'} g a ha => by
        cases e : H a with
        | none => rfl
        | some u => exact absurd ha (g.keep a u e (by simp)).2
      cases ze : evSs2 (callN Γ.fnOf n) b (ds.map some ++ List.replicate (d.fn.n - d.fn.ps) none) [] with
      | nx ρ' Ω' =>
        rw [ze] at q
        exact fun σ' M' H' g S' L' => q .non H' (sam g) (fun Y _ _ => rfl) fun _ => trivial
      | ret x Ω' =>
        rw [ze] at q
        have q : match (ofO (snapR 8 Ω' x) : R D) with
          | .ok x => ∀ v H', Same H H' → (∀ Y, ZOk Y H → RpL Γ.K Y H ds vs → Rp Γ.K Y H' x v) → (d.fn.fr = true → Fr H H' x v) → Q v H'
          | .ex x => ∀ H', Same H H' → E (Γ.cl x) none H'
          | .bad => False := q
        intro v M' H' g S' r
        cases es : snapR 8 Ω' x with
        | none => rw [es] at q; exact (show False from q).elim
        | some x' =>
          rw [es] at q
          refine q v H' (sam g) (fun Y zy _ => snapR_rp S' (fun a ha hy => ?_) 8 x x' v es r) fun _ => snapR_fr S' (new g) es r
          have m := zy a hy
          rw [new g a ha] at m
          exact m
      | brk ρ' Ω' => rw [ze] at q; exact q.elim
      | ct ρ' Ω' => rw [ze] at q; exact q.elim
      | ex x ρ' Ω' =>
        rw [ze] at q
        exact fun σ' M' H' g S' L' => q H' (sam g)
      | bad => rw [ze] at q; exact q.elim
theorem fn_stepW {Γ : Ctx} {L : Tab} (G : Gk Γ) (F : Facts Γ L) {n f : Nat} {d : Df} {b : Ss2} {fa : Addr} {fd : FuncData} (C : Cok Γ n (callN Γ.fnOf n)) (C2 : Cok2 Γ n (callN Γ.fnOf n)) (h3 : L.lookup f = some d) (ht : d.fn.two = some (true, b)) (e2 : FunD Γ.K d.nm d.qn (defArgs d.st) (defBody d.st) (defScope d.st) [] [] fa fd) :
    FnOk Γ.P Γ.w Γ.K Γ.mg Γ.base (L2.CX Γ.P Γ.w) (2 * (n + 1)) fa fd d.ps (sp2 Γ (callN Γ.fnOf (n + 1)) f d.fn) := by
  have hd : d ∈ L.ds := Tab.mem h3
  have h1 := Tab.fo F h3
  have ck := F.chk d hd
  unfold chkD at ck
  rw [ht] at ck
  simp only [Bool.and_eq_true, decide_eq_true_eq, List.all_eq_true] at ck
  obtain ⟨⟨⟨⟨k1, k2⟩, k3⟩, k4⟩, k5⟩ := ck
  have S := sc_of k3
  refine e2.ok S (fun vs H Q E q => ?_) fun cdv A outer s H vs Q E hr q => ?_
  · obtain ⟨M, Ω, ds, hl, _⟩ := q
    rw [hl, k2]
  · obtain ⟨M, Ω, ds, hl, S0, rw0, q⟩ := q
    have hds : ds.length = d.fn.ps := by rw [rw0.length, hl]
    refine ⟨spSs2 Γ (callN Γ.fnOf n) (fun cls dd _ H' => E cls dd H') b, ?_, ?_⟩
    · exact soSs2 (n := n) (N := d.N) (sc := defScope d.st) G C C2 b _ _ _ ⟨⟨rfl, rfl, rfl, rfl, rfl, rfl, rfl, rfl, hr, S.nd⟩, passes_of rfl, fun _ => rfl, S.kind, rfl, rfl⟩ (takes_of rfl rfl rfl rfl) k5
    · refine ⟨M, ds.map some ++ List.replicate (d.fn.n - ds.length) none, Ω, S0, start_w k1 rw0, ?_⟩
      have e : decX (callN Γ.fnOf (n + 1) f (.lst Ω :: ds)) = runW (callN Γ.fnOf n) d.fn b ds Ω := by
        rw [callN_at h1]
        unfold runFn
        rw [ht]
        exact decX_encX _
      rw [e] at q
      unfold runW at q
      rw [if_pos hds] at q
      rw [hds]
      cases ze : evSs2 (callN Γ.fnOf n) b (ds.map some ++ List.replicate (d.fn.n - d.fn.ps) none) Ω with
      | nx ρ' Ω' =>
        rw [ze] at q
        exact fun σ' M' H' g S' L' => q .non M' H' g S' rfl
      | ret x Ω' =>
        rw [ze] at q
        exact fun v M' H' g S' r => q v M' H' g S' r
      | brk ρ' Ω' => rw [ze] at q; exact q.elim
      | ct ρ' Ω' => rw [ze] at q; exact q.elim
      | ex x ρ' Ω' =>
        rw [ze] at q
        exact fun σ' M' H' g S' L' => q M' H' g S'
      | bad => rw [ze] at q; exact q.elim
theorem fn_stepF {Γ : Ctx} {L : Tab} (G : Gk Γ) (F : Facts Γ L) {n f : Nat} {d : Df} {fa : Addr} {fd : FuncData} (C : Cok Γ n (callN Γ.fnOf n) ∧ Cok2 Γ n (callN Γ.fnOf n)) (h3 : L.lookup f = some d) (hs : d.fn.store = false) (e2 : FunD Γ.K d.nm d.qn (defArgs d.st) (defBody d.st) (defScope d.st) [] [] fa fd) :
    FnOk Γ.P Γ.w Γ.K Γ.mg Γ.base (L2.CX Γ.P Γ.w) (2 * (n + 1)) fa fd d.ps (spF Γ (callN Γ.fnOf (n + 1)) f d.fn) := by
  cases ht : d.fn.two with
  | none => exact fn_step G F C.1 h3 ht e2
  | some p =>
    obtain ⟨k, b⟩ := p
    cases k with
    | false => exact fn_stepP G F C.1 C.2 h3 ht e2
    | true =>
      unfold Fn.store at hs
      rw [ht] at hs
      cases hs
theorem cok {Γ : Ctx} {L : Tab} (G : Gk Γ) (F : Facts Γ L) : ∀ n, Cok Γ n (callN Γ.fnOf n) ∧ Cok2 Γ n (callN Γ.fnOf n)
  | 0 => by
    refine ⟨⟨fun f ds fn _ _ h => absurd rfl h, fun f fn x h1 h2 => ?_⟩, ⟨fun f Ω ds fn _ _ h => absurd rfl h, fun f x h2 => ?_, fun f fn x h1 h2 => ?_, fun f fn cn m h1 h2 => ?_, fun f cn m h2 => ?_⟩⟩
    · rw [F.nm] at h2
      obtain ⟨d, h3, hs, hc, rfl⟩ := nmOf_ok h2
      have hd : d ∈ L.ds := Tab.mem h3
      obtain ⟨fa, fd, e1, e2⟩ := F.dk d hd hc
      exact ⟨fa, fd, d.ps, e1, e2.kp, e2.bindsN (F.bd d hd), ⟨fun vs H Q E ⟨_, _, _, q⟩ => q.elim, fun _ _ _ _ _ _ _ _ _ _ _ _ _ ⟨_, _, _, q⟩ => q.elim⟩⟩
    · rw [F.nm2] at h2
      obtain ⟨d, h3, hs, hc, rfl⟩ := nm2Of_ok h2
      exact ⟨d.fn, Tab.fo F h3, hs⟩
    · rw [F.nm2] at h2
      obtain ⟨d, h3, hs, hc, rfl⟩ := nm2Of_ok h2
      have hd : d ∈ L.ds := Tab.mem h3
      obtain ⟨fa, fd, e1, e2⟩ := F.dk d hd hc
      exact ⟨fa, fd, d.ps, e1, e2.kp, e2.bindsN (F.bd d hd), ⟨fun vs H Q E ⟨_, _, _, _, _, _, q⟩ => (show False from q).elim, fun _ _ _ _ _ _ _ _ _ _ _ _ _ ⟨_, _, _, _, _, _, q⟩ => (show False from q).elim⟩⟩
    · rw [F.mt] at h2
      obtain ⟨d, h3, hs, hc, rfl, hm⟩ := mtOf_ok h2
      have hd : d ∈ L.ds := Tab.mem h3
      have h1 : d.fn = fn := Option.some.inj ((Tab.fo F h3).symm.trans h1)
      subst h1
      obtain ⟨fa, fd, m1, m2, e2⟩ := F.dm d hd hc
      rw [hm] at m1 m2
      exact ⟨hs, fa, fd, d.ps, fun z => m1 (by rw [z]; rfl), fun z => m2 fun q => z ((show m = ("__init__" : Str).cps.toList from by simpa [tx] using congrArg (fun x : Str => x.cps.toList) q).trans (by decide)), e2.bindsN (F.bd d hd), ⟨fun vs H Q E ⟨_, _, _, _, _, _, q⟩ => (show False from q).elim, fun _ _ _ _ _ _ _ _ _ _ _ _ _ ⟨_, _, _, _, _, _, q⟩ => (show False from q).elim⟩⟩
    · rw [F.mt] at h2
      obtain ⟨d, h3, hs, hc, rfl, hm⟩ := mtOf_ok h2
      exact ⟨d.fn, Tab.fo F h3⟩
  | n + 1 => by
    have C := cok G F n
    refine ⟨⟨fun f ds fn h1 hs h => ?_, fun f fn x h1 h2 => ?_⟩, ⟨fun f Ω ds fn h1 hs h => ?_, fun f x h2 => ?_, fun f fn x h1 h2 => ?_, fun f fn cn m h1 h2 => ?_, fun f cn m h2 => ?_⟩⟩
    · rw [callN_at h1] at h
      unfold runFn at h
      split at h
      · unfold runFn1 at h
        split at h
        · assumption
        · exact absurd rfl h
      · unfold runW at h
        split at h
        · assumption
        · exact absurd rfl h
      · rename_i b e
        unfold Fn.store at hs
        rw [e] at hs
        cases hs
    · rw [F.nm] at h2
      obtain ⟨d, h3, hs, hc, rfl⟩ := nmOf_ok h2
      have hd : d ∈ L.ds := Tab.mem h3
      have h1 : d.fn = fn := Option.some.inj ((Tab.fo F h3).symm.trans h1)
      subst h1
      obtain ⟨fa, fd, e1, e2⟩ := F.dk d hd hc
      exact ⟨fa, fd, d.ps, e1, e2.kp, e2.bindsN (F.bd d hd), fn_stepF G F C h3 hs e2⟩
    · rw [callN_at h1] at h
      unfold runFn at h
      split at h
      · rename_i e
        unfold Fn.store at hs
        rw [e] at hs
        cases hs
      · rename_i b e
        unfold Fn.store at hs
        rw [e] at hs
        cases hs
      · have h : decX (encX (runW (callN Γ.fnOf n) fn _ ds Ω)) ≠ .bad := h
        rw [decX_encX] at h
        unfold runW at h
        split at h
        · assumption
        · exact absurd rfl h
    · rw [F.nm2] at h2
      obtain ⟨d, h3, hs, hc, rfl⟩ := nm2Of_ok h2
      exact ⟨d.fn, Tab.fo F h3, hs⟩
    · rw [F.nm2] at h2
      obtain ⟨d, h3, hs, hc, rfl⟩ := nm2Of_ok h2
      have hd : d ∈ L.ds := Tab.mem h3
      have h1 : d.fn = fn := Option.some.inj ((Tab.fo F h3).symm.trans h1)
      subst h1
      obtain ⟨fa, fd, e1, e2⟩ := F.dk d hd hc
      cases ht : d.fn.two with
      | none =>
        unfold Fn.store at hs
        rw [ht] at hs
        cases hs
      | some p =>
        obtain ⟨k, b⟩ := p
        cases k with
        | false =>
          unfold Fn.store at hs
          rw [ht] at hs
          cases hs
        | true => exact ⟨fa, fd, d.ps, e1, e2.kp, e2.bindsN (F.bd d hd), fn_stepW G F C.1 C.2 h3 ht e2⟩
    · rw [F.mt] at h2
      obtain ⟨d, h3, hs, hc, rfl, hm⟩ := mtOf_ok h2
      have hd : d ∈ L.ds := Tab.mem h3
      have h1 : d.fn = fn := Option.some.inj ((Tab.fo F h3).symm.trans h1)
      subst h1
      obtain ⟨fa, fd, m1, m2, e2⟩ := F.dm d hd hc
      rw [hm] at m1 m2
      refine ⟨hs, fa, fd, d.ps, fun z => m1 (by rw [z]; rfl), fun z => m2 fun q => z ((show m = ("__init__" : Str).cps.toList from by simpa [tx] using congrArg (fun x : Str => x.cps.toList) q).trans (by decide)), e2.bindsN (F.bd d hd), ?_⟩
      cases ht : d.fn.two with
      | none =>
        unfold Fn.store at hs
        rw [ht] at hs
        cases hs
      | some p =>
        obtain ⟨k, b⟩ := p
        cases k with
        | false =>
          unfold Fn.store at hs
          rw [ht] at hs
          cases hs
        | true => exact fn_stepW G F C.1 C.2 h3 ht e2
    · rw [F.mt] at h2
      obtain ⟨d, h3, hs, hc, rfl, hm⟩ := mtOf_ok h2
      exact ⟨d.fn, Tab.fo F h3⟩
end Pw

/-! text PwH -/
/-! the head: facts by names -/
namespace Pw
open PySem PySem.Spec PyProof.Rows L2

/-- no list stands in K -/
def noLst (K : PySem.W.Frag) : Bool := K.all fun p => match p.2.cls with
  | .type c => !(c == "list")
  | _ => true
theorem lookup_mem {K : PySem.W.Frag} {a : Addr} {o : Obj} : K.lookup a = some o → (a, o) ∈ K := by
  induction K with
  | nil => intro h; cases h
  | cons p r ih =>
    intro h
    obtain ⟨b, u⟩ := p
    by_cases e : a = b
    · subst e
      have h : (match a == a with | true => some u | false => r.lookup a) = some o := h
      rw [beq_self_eq_true] at h
      cases h
      exact List.mem_cons_self ..
    · have h : (match a == b with | true => some u | false => r.lookup a) = some o := h
      rw [beq_eq_false_iff_ne.mpr e] at h
      exact List.mem_cons_of_mem _ (ih h)
theorem noLst_ok {K : PySem.W.Frag} (h : noLst K = true) {a : Addr} {o : Obj} (e : K.lookup a = some o) (z : o.cls = .type "list") : False := by
  have q := List.all_eq_true.mp h _ (lookup_mem e)
  simp only [z] at q
  cases q
/-- what the head looks at in the classes of errors -/
def xcB (K : PySem.W.Frag) (D : Addr) : Bool := He.eqO (PySem.W.findIn K (.ref D) "__getattribute__") (some (some (.builtin "BaseException.__getattribute__"))) && He.eqO (PySem.W.findIn K (.ref D) "__getattr__") (some none) &&
  decide (PySem.W.subIn K (.ref D) (.type "BaseException") = some true) && PySem.W.hasDictIn K D && He.eqO (PySem.W.findIn K (.ref D) "__class__") (some (some (.builtin "object.__class__"))) &&
  He.eqO (PySem.W.specialIn K (.builtin "object.__class__") "__get__") (some (some (.builtin "getset_descriptor.__get__"))) && decide (PySem.W.takesIn K (.builtin "object.__class__") = some true) && decide (PySem.W.mroIn K D (.type "object") = some true)
theorem xcB_ok {K : PySem.W.Frag} {D : Addr} (h : xcB K D = true) : ExcC K D := by
  unfold xcB at h
  simp only [Bool.and_eq_true, decide_eq_true_eq] at h
  obtain ⟨⟨⟨⟨⟨⟨⟨h1, h2⟩, h3⟩, h4⟩, h5⟩, h6⟩, h7⟩, h8⟩ := h
  exact ⟨He.eqO_ok h1, He.eqO_ok h2, h3, h4, He.eqO_ok h5, He.eqO_ok h6, h7, h8⟩
def xsB (K : PySem.W.Frag) (xs : List Tx) : Bool := xs.all fun x => (He.Fa.glo (tx x)).ok K && (He.Fa.exc (tx x)).ok K && xcB K (He.ga K (tx x)) && decide (PySem.W.kitOne K (.ref (He.ga K (tx x))) (.type "ValueError") = some true) &&
  xs.all fun y => (He.Fa.exm (tx x) (tx y) (subX x y)).ok K && decide (PySem.W.kitOne K (.ref (He.ga K (tx x))) (.ref (He.ga K (tx y))) = some (subX x y))
/-- what the head looks at: the library's facts, no list in K, tables -/
abbrev AlP : Type := He.AlD × Bool
def obsP (fa : List He.Fa) (fn : List He.DefD) (ts : List (Str × List He.Dv)) (xs : List Tx) (K : PySem.W.Frag) : AlP := (He.obsD fa fn K, noLst K && (ts.all (fun t => He.tupB K t.1 t.2) && xsB K xs))
def obsPG (n : Nat) (fa : List He.Fa) (fn : List He.DefD) (ts : List (Str × List He.Dv)) (xs : List Tx) (g : Addr → Option Obj) : AlP := obsP fa fn ts xs (He.frG g (He.asD g n))
def hookP (n : Nat) (fa : List He.Fa) (fn : List He.DefD) (ts : List (Str × List He.Dv)) (xs : List Tx) : PySem.W.Hook where
  α := AlP
  obs := fun s => obsPG n fa fn ts xs s.heap.get?
  val := fun _ => (He.valD fn, true)
  says := fun _ h => ∃ K : PySem.W.Frag, K.In h ∧ obsP fa fn ts xs K = (He.valD fn, true)
  of := fun _ _ e => ⟨_, He.frG_in, e⟩
  keeps := fun _ _ _ ⟨K, hK, c⟩ k => ⟨K, PySem.W.Frag.In.keeps hK k, c⟩
theorem obsPG_eq {n : Nat} {fa : List He.Fa} {fn : List He.DefD} {ts : List (Str × List He.Dv)} {xs : List Tx} {g : Addr → Option Obj} {s : Shared} (h : ∀ a, g a = s.heap.get? a) : obsPG n fa fn ts xs g = (hookP n fa fn ts xs).obs s := by
  have e : g = s.heap.get? := funext h
  rw [e] <;> rfl
/-- one def, as the head wants it -/
def dd (d : Df) : He.DefD := ⟨if d.cl.isEmpty then (d.nm, none) else (tx d.cl, some d.nm), d.nm, d.qn, defArgs d.st, defBody d.st, defScope d.st, [], []⟩
/-- the facts that a table asks: its defs, the built-in names, constants -/
inductive Gv where
  | int (i : Int)
  | str (s : Tx)
  | tups (ss : List Tx)
def Gv.d : Gv → D
  | .int i => .int i
  | .str s => .str s
  | .tups ss => .tup (ss.map D.str)
def gvFa (p : Str × Gv) : He.Fa := match p.2 with
  | .int i => .int p.1 i
  | .str s => .str p.1 (tx s)
  | .tups _ => .glo p.1
/-- the tables among the constants -/
def tsOf (gv : List (Str × Gv)) : List (Str × List He.Dv) := gv.filterMap fun p => match p.2 with
  | .tups ss => some (p.1, ss.map fun s => .str (tx s))
  | _ => none
/-- a def's own facts -/
def dfFa (d : Df) : He.Fa := if d.cl.isEmpty then .glo d.nm else if d.nm = "__init__" then .mkr (tx d.cl) else .meth (tx d.cl) d.nm
def csFa (cs : List (Tx × List Tx)) : List He.Fa := cs.flatMap fun p => .glo (tx p.1) :: .cls (tx p.1) :: p.2.map fun f => .noat (tx p.1) (tx f)
def faOf (L : Tab) (gv : List (Str × Gv)) (cs : List (Tx × List Tx)) : List He.Fa := L.ds.map dfFa ++ bnames.map (fun x => .free x) ++ gv.map gvFa ++ csFa cs
def csOk (L : Tab) (cs : List (Tx × List Tx)) : Bool := L.ds.all fun d => d.cl.isEmpty || cs.any fun p => decide (p.1 = d.cl)
def glOf (gv : List (Str × Gv)) : List (Str × D) := gv.map fun p => (p.1, p.2.d)
def gvOk (gv : List (Str × Gv)) : Bool := gv.all fun p => match p.2 with
  | .int _ => true
  | .str s => Nat.ble s.length 10000
  | .tups ss => !ss.isEmpty && ss.all fun s => Nat.ble s.length 10000
def ctx (P : Program) (w : World) (K : PySem.W.Frag) (mg : Str → Option Value) (base : Heap) (L : Tab) (gv : List (Str × Gv)) (xs : List Tx) (cs : List (Tx × List Tx)) : Ctx := ⟨P, w, K, mg, base, ⟨nmOf L, glOf gv, xs, nm2Of L, cs, mtOf L⟩, foOf L, fun x => .ref (He.ga K (tx x))⟩
section
variable {P : Program} {w : World} {K : PySem.W.Frag} {mg : Str → Option Value} {base h : Heap} {L : Tab} {gv : List (Str × Gv)} {ts : List (Str × List He.Dv)} {xs : List Tx} {cs : List (Tx × List Tx)}
theorem says_fact (c : He.SaysD (faOf L gv cs) (L.ds.map dd) K) {f : He.Fa} (hf : f ∈ faOf L gv cs) : f.ok K = true := by
  obtain ⟨i, hi⟩ := List.getElem?_of_mem hf
  exact c.fact i hi
theorem gk_of (X : K.In h) (G : h.Ns mainGlobals mg) (c : He.SaysD (faOf L gv cs) (L.ds.map dd) K) (ct : (tsOf gv).all (fun t => He.tupB K t.1 t.2) = true) (cx : xsB K xs = true) (ok : gvOk gv = true) : Gk (ctx P w K mg base L gv xs cs) := by
  have xf : ∀ x, x ∈ xs → _ := fun x hx => List.all_eq_true.mp cx x hx
  simp only [Bool.and_eq_true, decide_eq_true_eq, List.all_eq_true] at xf
  refine ⟨fun x hx => ?_, fun p hp => ?_, fun f x hf => ?_, fun _ => rfl, fun x hx => ?_, fun x y hx hy => ?_, fun x hx => ?_, fun x y hx hy => ?_, fun p hp => ?_, fun x hx => ?_⟩
  · exact He.free_ok X G (says_fact c (f := .free x) (List.mem_append_left _ (List.mem_append_left _ (List.mem_append_right _ (List.mem_map.mpr ⟨x, hx, rfl⟩)))))
  · obtain ⟨q, hq, rfl⟩ := List.mem_map.mp (show p ∈ glOf gv from hp)
    have z := says_fact c (f := gvFa q) (List.mem_append_left _ (List.mem_append_right _ (List.mem_map.mpr ⟨q, hq, rfl⟩)))
    obtain ⟨x, g⟩ := q
    cases g with
    | int i =>
      obtain ⟨t, e⟩ := He.int_ok X G z
      exact ⟨_, .int i, e, ⟨t, rfl⟩, fun _ _ => rfl⟩
    | str s =>
      obtain ⟨t, e⟩ := He.str_ok X G z
      refine ⟨_, .str (tx s), e, ⟨t, rfl⟩, fun _ _ => ⟨rfl, ?_⟩⟩
      have k := List.all_eq_true.mp ok _ hq
      have k : s.length ≤ 10000 := by simpa using k
      show s.length ≤ sizeLine
      rw [sizeLine_eq]
      omega
    | tups ss =>
      have e := He.glo_ok X G z
      have m : (x, ss.map fun s => He.Dv.str (tx s)) ∈ tsOf gv := List.mem_filterMap.mpr ⟨_, hq, rfl⟩
      have t := He.tupB_ok (List.all_eq_true.mp ct _ m)
      refine ⟨_, .ref (He.ga K x), e, rfl, fun Y H => ⟨He.ga K x, _, rfl, ⟨t H, fun z => ?_⟩, ?_⟩⟩
      · have k := List.all_eq_true.mp ok _ hq
        have k : (!ss.isEmpty && ss.all fun s => Nat.ble s.length 10000) = true := k
        cases ss with
        | nil => cases k
        | cons a r => cases z
      have ev : ((ss.map fun s => He.Dv.str (tx s)).map (He.Dv.v K)) = (ss.map tx).map V.str := by
        rw [List.map_map, List.map_map]
        rfl
      rw [ev]
      refine RpL.of_strs ss fun s hs => ?_
      have k := List.all_eq_true.mp ok _ hq
      have k : (!ss.isEmpty && ss.all fun s => Nat.ble s.length 10000) = true := k
      have k := List.all_eq_true.mp (Bool.and_eq_true_iff.mp k).2 s hs
      have k : s.length ≤ 10000 := by simpa using k
      rw [sizeLine_eq]
      omega
  · obtain ⟨d, e, hs, _, _⟩ := nmOf_ok hf
    exact ⟨d.fn, by show (L.lookup f).map (·.fn) = _; rw [e]; rfl, hs⟩
  · obtain ⟨⟨⟨⟨z1, z2⟩, z3⟩, z4⟩, z5⟩ := xf x hx
    exact ⟨He.glo_ok X G z1, He.exc_ok z2⟩
  · obtain ⟨⟨⟨⟨z1, z2⟩, z3⟩, z4⟩, z5⟩ := xf x hx
    exact He.exm_ok (z5 y hy).1
  · obtain ⟨⟨⟨⟨z1, z2⟩, z3⟩, z4⟩, z5⟩ := xf x hx
    exact xcB_ok z3
  · obtain ⟨⟨⟨⟨z1, z2⟩, z3⟩, z4⟩, z5⟩ := xf x hx
    exact (z5 y hy).2
  · have key : ∀ f, f ∈ (He.Fa.glo (tx p.1) :: He.Fa.cls (tx p.1) :: p.2.map fun f => He.Fa.noat (tx p.1) (tx f)) → f.ok K = true := fun f hf => says_fact c (List.mem_append_right _ (List.mem_flatMap.mpr ⟨p, hp, hf⟩))
    exact ⟨He.cls_ok (key _ (List.mem_cons_of_mem _ (List.mem_cons_self ..))), fun f hf => He.noat_ok (key _ (List.mem_cons_of_mem _ (List.mem_cons_of_mem _ (List.mem_map.mpr ⟨f, hf, rfl⟩))))⟩
  · obtain ⟨⟨⟨⟨z1, z2⟩, z3⟩, z4⟩, z5⟩ := xf x hx
    exact z4
theorem facts_of (X : K.In h) (G : h.Ns mainGlobals mg) (c : He.SaysD (faOf L gv cs) (L.ds.map dd) K) (bd : ∀ d, d ∈ L.ds → Bd d) (chk : L.ds.all (fun d => chkD ⟨nmOf L, glOf gv, xs, nm2Of L, cs, mtOf L⟩ (foOf L) d) = true) (ck : csOk L cs = true) : Facts (ctx P w K mg base L gv xs cs) L := by
  refine ⟨rfl, rfl, rfl, rfl, fun d hd hc => ?_, fun d hd hc => ?_, bd, fun d hd => List.all_eq_true.mp chk d hd⟩
  · obtain ⟨i, hi⟩ := List.getElem?_of_mem hd
    obtain ⟨fd, F⟩ := c.def_ i (d := dd d) (by rw [List.getElem?_map, hi]; rfl)
    have z := says_fact c (f := dfFa d) (List.mem_append_left _ (List.mem_append_left _ (List.mem_append_left _ (List.mem_map.mpr ⟨d, hd, rfl⟩))))
    unfold dfFa at z
    rw [hc] at z
    unfold dd at F
    rw [hc] at F
    exact ⟨_, fd, He.glo_ok X G z, F⟩
  · obtain ⟨i, hi⟩ := List.getElem?_of_mem hd
    obtain ⟨fd, F⟩ := c.def_ i (d := dd d) (by rw [List.getElem?_map, hi]; rfl)
    have z := says_fact c (f := dfFa d) (List.mem_append_left _ (List.mem_append_left _ (List.mem_append_left _ (List.mem_map.mpr ⟨d, hd, rfl⟩))))
    unfold dfFa at z
    rw [hc] at z
    unfold dd at F
    rw [hc] at F
    have k := List.all_eq_true.mp ck d hd
    rw [hc, Bool.false_or] at k
    obtain ⟨p, hp, hq⟩ := List.any_eq_true.mp k
    have hq : p.1 = d.cl := by simpa using hq
    have g := says_fact c (f := .glo (tx p.1)) (List.mem_append_right _ (List.mem_flatMap.mpr ⟨p, hp, List.mem_cons_self ..⟩))
    rw [hq] at g
    refine ⟨_, fd, fun e => ?_, fun e => ?_, F⟩
    · rw [if_neg Bool.false_ne_true, if_pos e] at z
      refine ⟨?_, He.glo_ok X G g⟩
      have m := He.mkr_ok z
      rw [← e] at m
      exact m
    · rw [if_neg Bool.false_ne_true, if_neg e] at z
      exact He.meth_ok z
/-- the script -/
theorem rp_ints {H : Hp} {ns : List Int} : RpL K Em H (ns.map D.int) (ns.map V.int) := by
  induction ns with
  | nil => rfl
  | cons n r ih => exact ⟨_, _, rfl, rfl, ih⟩
theorem cx_end {H : Hp} {s : Shared} {e : Value} {s' : Shared} (h : L2.CX P w [] H s (fun _ _ _ => False) e s') : False := by
  obtain ⟨_, _, _, _, _, _, _, _, _, _, _, _, z⟩ := h
  exact z
/-- the law's def, at the head -/
theorem law_at (xs : List Tx) (cs : List (Tx × List Tx)) {n k f : Nat} {d : Df} {x : Str} {fa : Addr} (hL : L.lookup f = some d) (hns : d.fn.store = false) (hp : d.ps = [x]) (hq : d.fn.ps = 1) (X : K.In h) (G : h.Ns mainGlobals mg) (hmg : mg d.nm = some (.ref fa)) (c : obsP (faOf L gv cs) (L.ds.map dd) (tsOf gv) xs K = (He.valD (L.ds.map dd), true)) (ok : gvOk gv = true) (ck : csOk L cs = true) (hcl : d.cl.isEmpty = true)
    (bd : ∀ d, d ∈ L.ds → Bd d) (chk : L.ds.all (fun d => chkD ⟨nmOf L, glOf gv, xs, nm2Of L, cs, mtOf L⟩ (foOf L) d) = true)
    (law : ∀ ns : List Int, ns.length ≤ n → callN (foOf L) k f [.lst (ns.map D.int)] = .ok (.bl true)) :
    ∃ (K : PySem.W.Frag) (fd : FuncData) (sp : Sp), K.In h ∧ (∀ (s : Shared) (u : Value), BindsTo s fd ⟨[u], []⟩ [(x, u)]) ∧
        (∀ (H : Hp) (a : Addr) (ns : List Int), ns.length ≤ n → Only H → SqL K H a (ns.map V.int) → sp [.ref a] H (fun v _ => v = .bl true) fun _ _ _ => False) ∧
        ∀ base : Heap, K.In base → base.Ns mainGlobals mg → FnOk P w K mg base (L2.CX P w) (2 * k) fa fd [x] sp := by
  have c1 : He.SaysD (faOf L gv cs) (L.ds.map dd) K := congrArg (fun z : AlP => z.1) c
  have c2 : (noLst K && ((tsOf gv).all (fun t => He.tupB K t.1 t.2) && xsB K xs)) = true := congrArg (fun z : AlP => z.2) c
  have nl := (Bool.and_eq_true_iff.mp c2).1
  have ct := (Bool.and_eq_true_iff.mp (Bool.and_eq_true_iff.mp c2).2).1
  have cx := (Bool.and_eq_true_iff.mp (Bool.and_eq_true_iff.mp c2).2).2
  have hd : d ∈ L.ds := Tab.mem hL
  have F := facts_of (P := P) (w := w) (base := h) (xs := xs) (cs := cs) X G c1 bd chk ck
  obtain ⟨fa', fd, e1, e2⟩ := F.dk d hd hcl
  have e1 : mg d.nm = some (.ref fa') := e1
  rw [hmg] at e1
  cases e1
  refine ⟨K, fd, spF (ctx P w K mg h L gv xs cs) (callN (foOf L) k) f d.fn, X, fun s u => ?_, fun H a ns hn hO hS => ?_, fun base Xb Gb => ?_⟩
  · have z := e2.bindsA (F.bd d hd) s [u] (by rw [hp]; rfl)
    rw [hp] at z
    exact z
  · refine ⟨[.lst (ns.map D.int)], by rw [hq]; rfl, ⟨_, _, rfl, ⟨a, _, rfl, ?_, fun z => z, rp_ints⟩, rfl⟩, ?_⟩
    · rcases hS with hS | ⟨o, its, m, h1, h2, _⟩
      · exact hS
      · exact (noLst_ok nl h1 h2).elim
    · rw [law ns hn]
      intro v H' _ r _
      exact r Em zok_em ⟨_, _, rfl, ⟨a, _, rfl, by
        rcases hS with hS | ⟨o, its, m, h1, h2, _⟩
        · exact hS
        · exact (noLst_ok nl h1 h2).elim, fun z => z, rp_ints⟩, rfl⟩
  · have F2 := facts_of (P := P) (w := w) (base := base) (xs := xs) (cs := cs) Xb Gb c1 bd chk ck
    have Gk2 := gk_of (P := P) (w := w) (base := base) (xs := xs) (cs := cs) Xb Gb c1 ct cx ok
    rw [← hp]
    cases k with
    | zero => exact ⟨fun vs H Q E ⟨_, _, _, q⟩ => q.elim, fun _ _ _ _ _ _ _ _ _ _ _ _ _ ⟨_, _, _, q⟩ => q.elim⟩
    | succ k => exact fn_stepF Gk2 F2 (cok Gk2 F2 k) hL hns e2
end
/-- a law's end, where what may leave a def hangs on the world -/
theorem walk_w {l : PySem.W.OpenLaw} {n k : Nat} {q : Program} {ls : List Str} {XP : (Str → Option Value) → Heap → Prop} {YP : World → Heap → Prop} {d : DefRec} {x : Str} (h1 : l.most = some n) (h2 : n ≤ sizeLine) (h3 : d.params.defaults = []) (h4 : Room k callerA)
    (F : ∀ (w : World) (mg : Str → Option Value) (fa : Addr) (h : Heap), YP w h → h.Ns mainGlobals mg → mg d.name = some (.ref fa) → ∃ (K : PySem.W.Frag) (fd : FuncData) (sp : Sp), K.In h ∧ (∀ (s : Shared) (u : Value), BindsTo s fd ⟨[u], []⟩ [(x, u)]) ∧
        (∀ (H : Hp) (a : Addr) (ns : List Int), ns.length ≤ n → Only H → SqL K H a (ns.map V.int) → sp [.ref a] H (fun v _ => v = .bl true) fun _ _ _ => False) ∧
        ∀ base : Heap, K.In base → base.Ns mainGlobals mg → FnOk l.prog w K mg base (L2.CX l.prog w) k fa fd [x] sp) :
    PySem.W.WalkO q ls XP YP l.row.toRowW d [] (fun f vs => PySem.call f vs) := by
  refine Att.attach_call h1 h3 fun w s0 s1 mg mb fa o pm cd doc a vs ns G Y ho hd hcd hmg hobj hints hlen hg => ?_
  obtain ⟨K, fd, sp, KX, hb, hsp, hF⟩ := F w mg fa _ Y G.T.g hmg
  exact law_call KX G.T.g G.T.b G.T.builtins G.T.nolimit hg hobj hints (Nat.le_trans hlen h2) h4 hF hb (fun H hO hS => hsp H a ns hlen hO hS) fun H e s' z => cx_end z
end Pw

/-! text PwL -/
/-! plain tools: what the small language computes -/
namespace Pw

theorem compR_map {f : D → R (Option D)} {g : D → D} : ∀ {xs : List D}, (∀ x, x ∈ xs → f x = .ok (some (g x))) → compR f xs = .ok (xs.map g)
  | [], _ => rfl
  | x :: xs, h => by
    unfold compR
    rw [h x (List.mem_cons_self ..), compR_map (xs := xs) fun y hy => h y (List.mem_cons_of_mem _ hy)]
    rfl
theorem compR_filter {f : D → R (Option D)} {p : D → Bool} {g : D → D} : ∀ {xs : List D}, (∀ x, x ∈ xs → f x = .ok (if p x then some (g x) else none)) → compR f xs = .ok ((xs.filter p).map g)
  | [], _ => rfl
  | x :: xs, h => by
    have ih := compR_filter (xs := xs) fun y hy => h y (List.mem_cons_of_mem _ hy)
    unfold compR
    rw [h x (List.mem_cons_self ..)]
    cases e : p x with
    | true => simp [e, ih]
    | false => simp [e, ih]
theorem callN_eq {T : Nat → Option Fn} {n f : Nat} {fn : Fn} {ds : List D} (h : T f = some fn) : callN T (n + 1) f ds = runFn (callN T n) fn ds := by
  show (match T f with
    | some fn => runFn (callN T n) fn ds
    | none => R.bad) = _
  rw [h]
theorem runFn_one {c : Nat → List D → R D} {fn : Fn} {ds : List D} (ht : fn.two = none) : runFn c fn ds = runFn1 c fn ds := by
  unfold runFn
  rw [ht]
theorem runFn_ret {c : Nat → List D → R D} {fn : Fn} {ds : List D} {d : D} (hl : ds.length = fn.ps) (h : evSs c fn.body (ds.map some ++ List.replicate (fn.n - fn.ps) none) = .ret d) (ht : fn.two = none := by rfl) : runFn c fn ds = .ok d := by
  rw [runFn_one ht]
  unfold runFn1
  rw [if_pos hl, h]
@[simp] theorem mapR_ok_ {A B : Type} (f : A → B) (a : A) : mapR f (.ok a) = .ok (f a) := rfl
@[simp] theorem mapR_bad_ {A B : Type} (f : A → B) : mapR f (.bad : R A) = .bad := rfl
@[simp] theorem get_cons0 (d : D) (ρ : Sl) : get (some d :: ρ) 0 = .ok d := rfl
@[simp] theorem get_consS (o : Option D) (ρ : Sl) (i : Nat) : get (o :: ρ) (i + 1) = get ρ i := rfl
@[simp] theorem noX_bl (b : Bool) : noX (.bl b) = .ok (.bl b) := rfl
@[simp] theorem noX_non : noX .non = .ok .non := rfl
@[simp] theorem noX_int (i : Int) : noX (.int i) = .ok (.int i) := rfl
@[simp] theorem noX_str (s : Tx) : noX (.str s) = .ok (.str s) := rfl
@[simp] theorem noX_lst (s : List D) : noX (.lst s) = .ok (.lst s) := rfl
@[simp] theorem noX_tup (s : List D) : noX (.tup s) = .ok (.tup s) := rfl
@[simp] theorem truth_bl (b : Bool) : (D.bl b).truth = b := rfl
@[simp] theorem truth_non : D.non.truth = false := rfl
@[simp] theorem truth_int (i : Int) : (D.int i).truth = (i != 0) := rfl
@[simp] theorem truth_str (s : Tx) : (D.str s).truth = !s.isEmpty := rfl
@[simp] theorem truth_lst (s : List D) : (D.lst s).truth = !s.isEmpty := rfl
@[simp] theorem truth_tup (s : List D) : (D.tup s).truth = !s.isEmpty := rfl
@[simp] theorem op_add_int (i j : Int) : op2 .add (.int i) (.int j) = .ok (.int (i + j)) := rfl
@[simp] theorem op_sub_int (i j : Int) : op2 .sub (.int i) (.int j) = .ok (.int (i - j)) := rfl
@[simp] theorem op_mul_int (i j : Int) : op2 .mul (.int i) (.int j) = if smallI i || smallI j then .ok (.int (i * j)) else .bad := rfl
@[simp] theorem op_mul_tup (xs : List D) (k : Int) : op2 .mul (.tup xs) (.int k) = if !xs.isEmpty && decide (2 ≤ k) && decide (k ≤ 1000) && Nat.ble xs.length 1000 && !prs xs then .ok (.tup (List.replicate k.toNat xs).flatten) else .bad := rfl
@[simp] theorem op_fdiv_int (i j : Int) : op2 .fdiv (.int i) (.int j) = if decide (0 < j) && decide (j < 1073741824) then .ok (.int (i / j)) else .bad := rfl
@[simp] theorem op_mod_int (i j : Int) : op2 .mod (.int i) (.int j) = if decide (0 < j) then .ok (.int (i % j)) else .bad := rfl
@[simp] theorem op_pow_int (i j : Int) : op2 .pow (.int i) (.int j) = if decide (0 ≤ j) && decide (j ≤ 1000) && Nat.blt i.natAbs 18446744073709551616 then .ok (.int (i ^ j.toNat)) else .bad := rfl
@[simp] theorem op_band_int (i j : Int) : op2 .band (.int i) (.int j) = .ok (.int (PySem.Builtin.bitAnd i j)) := rfl
@[simp] theorem op_add_str (x y : Tx) : op2 .add (.str x) (.str y) = if Nat.ble (x.length + y.length) LIM then .ok (.str (x ++ y)) else .bad := rfl
@[simp] theorem op_add_lst (x y : List D) : op2 .add (.lst x) (.lst y) = if Nat.ble (x.length + y.length) LIM then .ok (.lst (x ++ y)) else .bad := rfl
@[simp] theorem op_add_tup (x y : List D) : op2 .add (.tup x) (.tup y) = if Nat.ble (x.length + y.length) LIM then .ok (.tup (x ++ y)) else .bad := rfl
@[simp] theorem cm_eq (a b : D) : cmpB .eq a b = eqR a b := rfl
@[simp] theorem cm_ne (a b : D) : cmpB .ne a b = mapR (!·) (eqR a b) := rfl
@[simp] theorem cm_lt (i j : Int) : cmpB .lt (.int i) (.int j) = .ok (decide (i < j)) := rfl
@[simp] theorem cm_le (i j : Int) : cmpB .le (.int i) (.int j) = .ok (decide (i ≤ j)) := rfl
@[simp] theorem cm_gt (i j : Int) : cmpB .gt (.int i) (.int j) = .ok (decide (j < i)) := rfl
@[simp] theorem cm_ge (i j : Int) : cmpB .ge (.int i) (.int j) = .ok (decide (j ≤ i)) := rfl
@[simp] theorem cm_in (a b : D) : cmpB .isin a b = inR a b := rfl
@[simp] theorem cm_nin (a b : D) : cmpB .notin a b = mapR (!·) (inR a b) := rfl
@[simp] theorem cm_is (a b : D) : cmpB .is a b = isR a b := rfl
@[simp] theorem cm_isn (a b : D) : cmpB .isnot a b = mapR (!·) (isR a b) := rfl
@[simp] theorem eq_int (i j : Int) : eqR (.int i) (.int j) = .ok (i == j) := rfl
@[simp] theorem eq_str (i j : Tx) : eqR (.str i) (.str j) = .ok (i == j) := rfl
@[simp] theorem eq_bl (i j : Bool) : eqR (.bl i) (.bl j) = .ok (i == j) := rfl
@[simp] theorem is_non (x : D) : isR x .non = .ok x.isNon := by cases x <;> rfl
@[simp] theorem is_bl (a b : Bool) : isR (.bl a) (.bl b) = .ok (decide (a = b)) := rfl
@[simp] theorem in_sign (c : Nat) (s : Tx) : inR (.str [c]) (.str s) = .ok (decide (c ∈ s)) := rfl
@[simp] theorem in_lst (x : D) (xs : List D) : inR x (.lst xs) = memR x xs := by unfold inR; split <;> simp_all
@[simp] theorem in_tup (x : D) (xs : List D) : inR x (.tup xs) = memR x xs := by unfold inR; split <;> simp_all
@[simp] theorem ix_lst (xs : List D) (i : Int) : idxR (.lst xs) (.int i) = ofO (atI xs i) := rfl
@[simp] theorem ix_tup (xs : List D) (i : Int) : idxR (.tup xs) (.int i) = ofO (atI xs i) := rfl
@[simp] theorem ix_str (xs : Tx) (i : Int) : idxR (.str xs) (.int i) = mapR (fun c => .str [c]) (ofO (atI xs i)) := rfl
@[simp] theorem sl_lst (xs : List D) (lo hi : Option Int) : slR (.lst xs) lo hi = .ok (.lst (cut xs lo hi)) := rfl
@[simp] theorem sl_tup (xs : List D) (lo hi : Option Int) : slR (.tup xs) lo hi = .ok (.tup (cut xs lo hi)) := rfl
@[simp] theorem sl_str (xs : Tx) (lo hi : Option Int) : slR (.str xs) lo hi = .ok (.str (cut xs lo hi)) := rfl
@[simp] theorem ofO_some {A : Type} (a : A) : ofO (some a) = .ok a := rfl
@[simp] theorem ofO_none {A : Type} : ofO (none : Option A) = .bad := rfl
@[simp] theorem it_lst (xs : List D) : itemsR (.lst xs) = .ok xs := rfl
@[simp] theorem it_tup (xs : List D) : itemsR (.tup xs) = .ok xs := rfl
@[simp] theorem it_str (s : Tx) : itemsR (.str s) = .ok (s.map fun c => .str [c]) := rfl
@[simp] theorem pr_len_lst (s : List D) : prR .len [.lst s] = .ok (.int s.length) := rfl
@[simp] theorem pr_len_tup (s : List D) : prR .len [.tup s] = .ok (.int s.length) := rfl
@[simp] theorem pr_len_str (s : Tx) : prR .len [.str s] = .ok (.int s.length) := rfl
@[simp] theorem pr_all_lst (s : List D) : prR .all [.lst s] = mapR (fun bs => .bl (bs.all id)) (ofO (bls? s)) := rfl
@[simp] theorem pr_any_lst (s : List D) : prR .any [.lst s] = mapR (fun bs => .bl (bs.any id)) (ofO (bls? s)) := rfl
@[simp] theorem pr_list_1 (d : D) : prR .list [d] = mapR .lst (itemsR d) := rfl
@[simp] theorem pr_tuple_lst (s : List D) : prR .tuple [.lst s] = .ok (.tup s) := rfl
@[simp] theorem pr_tuple_tup (s : List D) : prR .tuple [.tup s] = .ok (.tup s) := rfl
@[simp] theorem pr_sset (d : D) : prR .sortedSet [d] = (itemsR d).bind fun xs => (ofO (strs? xs)).bind fun ss => if Nat.blt ss.length 4000 then .ok (.lst ((sortT ss).map .str)) else .bad := rfl
@[simp] theorem pr_isinst1 (T : String) (d : D) : prR (.isinst T) [d] = mapR .bl (isT T d) := rfl
@[simp] theorem isT_non (T : String) : isT T .non = .ok (T == "NoneType") := rfl
@[simp] theorem isT_bl (T : String) (b : Bool) : isT T (.bl b) = .ok (T == "bool" || T == "int") := rfl
@[simp] theorem isT_int (T : String) (b : Int) : isT T (.int b) = .ok (T == "int") := rfl
@[simp] theorem isT_str (T : String) (b : Tx) : isT T (.str b) = .ok (T == "str") := rfl
@[simp] theorem isT_lst (T : String) (b : List D) : isT T (.lst b) = .ok (T == "list") := rfl
@[simp] theorem isT_tup (T : String) (b : List D) : isT T (.tup b) = .ok (T == "tuple") := rfl
@[simp] theorem neg_int (i : Int) : negR (.int i) = .ok (.int (-i)) := rfl
@[simp] theorem intO_int (i : Int) : intO (.ok (.int i)) = .ok (some i) := rfl
@[simp] theorem range_int (n : Int) : rangeR (.int n) = if decide (n ≤ 16777216) && decide (-16777216 ≤ n) then .ok ((List.range n.toNat).map fun (k : Nat) => .int (k : Int)) else .bad := rfl
@[simp] theorem enum_lst (ds : List D) : enumR (.lst ds) = .ok (enumD ds) := rfl
@[simp] theorem enum_tup (ds : List D) : enumR (.tup ds) = .ok (enumD ds) := rfl
@[simp] theorem bind_nm (i : Nat) (d : D) (ρ : Sl) : bindTg (.nm i) d ρ = some (ρ.set i (some d)) := rfl
@[simp] theorem isNon_non : D.non.isNon = true := rfl
@[simp] theorem isNon_bl (b : Bool) : (D.bl b).isNon = false := rfl
@[simp] theorem isNon_int (b : Int) : (D.int b).isNon = false := rfl
@[simp] theorem isNon_str (b : Tx) : (D.str b).isNon = false := rfl
@[simp] theorem isNon_lst (b : List D) : (D.lst b).isNon = false := rfl
@[simp] theorem isNon_tup (b : List D) : (D.tup b).isNon = false := rfl
@[simp] theorem isNon_exc (b : Tx) : (D.exc b).isNon = false := rfl
@[simp] theorem isNon_dct (b c : List D) : (D.dct b c).isNon = false := rfl
@[simp] theorem isX_exc (cs : List Tx) (x c : Tx) : isX cs x (.exc c) = if cs.contains c then .ok (subX c x) else .bad := rfl
@[simp] theorem isDct_dct (b c : List D) : (D.dct b c).isDct = true := rfl
@[simp] theorem isLst_lst (b : List D) : (D.lst b).isLst = true := rfl
@[simp] theorem isStr_str (b : Tx) : (D.str b).isStr = true := rfl
@[simp] theorem isKey_int (i : Int) : isKey (.int i) = true := rfl
@[simp] theorem isKey_str (i : Tx) : isKey (.str i) = true := rfl
@[simp] theorem dget_dct (ks vs : List D) (k z : D) : dgetR (.dct ks vs) k z = if isKey k then .ok ((dfind k ks vs).getD z) else .bad := rfl
@[simp] theorem lm_cnt (xs : List D) (y : D) : lmR .cnt (.lst xs) y = if y.flat && D.plainL xs then .ok (.int ((xs.countP fun z => z.eqv y : Nat) : Int)) else .bad := rfl
@[simp] theorem lm_idx (xs : List D) (y : D) : lmR .idx (.lst xs) y = if y.flat && D.plainL xs && Nat.ble (D.depL xs) 60 then ofO ((xs.findIdx? fun z => z.eqv y).map fun (j : Nat) => D.int (j : Int)) else .bad := rfl
@[simp] theorem two_max (i j : Int) : twoR true (.int i) (.int j) = .ok (.int (if j > i then j else i)) := rfl
@[simp] theorem two_min (i j : Int) : twoR false (.int i) (.int j) = .ok (.int (if j < i then j else i)) := rfl
@[simp] theorem put_lst (xs : List D) (j : Int) (d : D) : putR (.lst xs) (.int j) d = (ixN xs.length j).map fun m => .lst (xs.set m d) := rfl
@[simp] theorem put_dct (ks vs : List D) (y d : D) : putR (.dct ks vs) y d = if isKey y && Nat.blt ks.length LIM then some (.dct (dputK y ks) (dputV y d ks vs)) else none := rfl
@[simp] theorem pr_len_dct (ks vs : List D) : prR .len [.dct ks vs] = .ok (.int ks.length) := rfl
@[simp] theorem pr_zipL (x y : D) : prR .zipL [x, y] = mapR .lst (zipR x y) := rfl
@[simp] theorem pr_zipT (x y : D) : prR .zipT [x, y] = mapR .tup (zipR x y) := rfl
@[simp] theorem pr_rangeL (n : Int) : prR .rangeL [.int n] = if decide (n ≤ 16777216) && decide (-16777216 ≤ n) then .ok (.lst ((List.range n.toNat).map fun (k : Nat) => .int (k : Int))) else .bad := rfl
@[simp] theorem pr_ikeys_dct (ks vs : List D) : prR .ikeys [.dct ks vs] = .ok (.lst ks) := rfl
@[simp] theorem pr_values_dct (ks vs : List D) : prR .values [.dct ks vs] = .ok (.lst vs) := rfl
@[simp] theorem pr_dict_1 (d : D) : prR .dict [d] = dictR d := rfl
@[simp] theorem pr_sitems_dct (ks vs : List D) : prR .sortedItems [.dct ks vs] = if sortB (dpairs ks vs) then .ok (.lst ((dpairs ks vs).mergeSort leD)) else .bad := rfl
@[simp] theorem pr_int_bl (b : Bool) : prR .int [.bl b] = .ok (.int (if b then 1 else 0)) := rfl
@[simp] theorem pr_int_int (i : Int) : prR .int [.int i] = .ok (.int i) := rfl
@[simp] theorem pr_max_lst (xs : List D) : prR .max [.lst xs] = (ofO (ints? xs)).bind fun ns => ofO ((ns.max?).map D.int) := rfl
@[simp] theorem pr_min_lst (xs : List D) : prR .min [.lst xs] = (ofO (ints? xs)).bind fun ns => ofO ((ns.min?).map D.int) := rfl
@[simp] theorem pr_sum_lst (xs : List D) : prR .sum [.lst xs] = mapR (fun ns => .int ns.sum) (ofO (ints? xs)) := rfl
@[simp] theorem ix_dct (ks vs : List D) (k : D) : idxR (.dct ks vs) k = if isKey k then ofO (dfind k ks vs) else .bad := by cases k <;> rfl
theorem in_dct (x : D) (ks vs : List D) : inR x (.dct ks vs) = if isKey x then .ok (dhas x ks) else .bad := by unfold inR; split <;> simp_all
@[simp] theorem evSs_nil (c : Nat → List D → R D) (ρ : Sl) : evSs c .nil ρ = .nx ρ := rfl
theorem evSs_cons (c : Nat → List D → R D) (s : S) (ss : Ss) (ρ : Sl) : evSs c (.cons s ss) ρ = match evS c s ρ with
    | .nx ρ' => evSs c ss ρ'
    | r => r := rfl
theorem atI_nat {A : Type} (xs : List A) (k : Nat) : atI xs (k : Int) = xs[k]? := by
  unfold atI ixN
  rw [if_pos (Int.natCast_nonneg k)]
  by_cases h : k < xs.length
  · rw [if_pos (by omega)]
    simp
  · rw [if_neg (by omega)]
    simp
    omega
theorem bls_map {A : Type} (f : A → Bool) : ∀ xs : List A, bls? (xs.map fun x => D.bl (f x)) = some (xs.map f)
  | [] => rfl
  | x :: xs => by
    show (bls? (xs.map fun x => D.bl (f x))).map (f x :: ·) = _
    rw [bls_map f xs]
    rfl
theorem strs_map : ∀ xs : List Tx, strs? (xs.map D.str) = some xs
  | [] => rfl
  | x :: xs => by
    show (strs? (xs.map D.str)).map (x :: ·) = _
    rw [strs_map xs]
    rfl

def seqS : Fl → (Sl → Fl) → Fl
  | .nx ρ, f => f ρ
  | r, _ => r
@[simp] theorem seqS_nx (ρ : Sl) (f : Sl → Fl) : seqS (.nx ρ) f = f ρ := rfl
@[simp] theorem seqS_ret (d : D) (f : Sl → Fl) : seqS (.ret d) f = .ret d := rfl
@[simp] theorem seqS_brk (ρ : Sl) (f : Sl → Fl) : seqS (.brk ρ) f = .brk ρ := rfl
@[simp] theorem seqS_ct (ρ : Sl) (f : Sl → Fl) : seqS (.ct ρ) f = .ct ρ := rfl
@[simp] theorem seqS_ex (c : Tx) (ρ : Sl) (f : Sl → Fl) : seqS (.ex c ρ) f = .ex c ρ := rfl
@[simp] theorem seqS_bad (f : Sl → Fl) : seqS .bad f = .bad := rfl
def finR : Fl → R D
  | .nx _ => .ok .non
  | .ret d => .ok d
  | .ex x _ => .ex x
  | _ => .bad
@[simp] theorem finR_nx (ρ : Sl) : finR (.nx ρ) = .ok .non := rfl
@[simp] theorem finR_ret (d : D) : finR (.ret d) = .ok d := rfl
@[simp] theorem finR_ex (c : Tx) (ρ : Sl) : finR (.ex c ρ) = .ex c := rfl
@[simp] theorem finR_bad : finR .bad = .bad := rfl
theorem ss_cons_ (c : Nat → List D → R D) (s : S) (ss : Ss) (ρ : Sl) : evSs c (.cons s ss) ρ = seqS (evS c s ρ) (evSs c ss) := by
  show (match evS c s ρ with
    | .nx ρ' => evSs c ss ρ'
    | r => r) = _
  cases evS c s ρ <;> rfl
theorem callN_run {T : Nat → Option Fn} {n f : Nat} {fn : Fn} {ds : List D} (h : T f = some fn) (hl : ds.length = fn.ps) (ht : fn.two = none := by rfl) : callN T (n + 1) f ds = finR (evSs (callN T n) fn.body (ds.map some ++ List.replicate (fn.n - fn.ps) none)) := by
  rw [callN_eq h, runFn_one ht]
  unfold runFn1
  rw [if_pos hl]
  cases evSs (callN T n) fn.body (ds.map some ++ List.replicate (fn.n - fn.ps) none) <;> rfl
section
variable (c : Nat → List D → R D) (ρ : Sl)
theorem s_asg_ (i : Nat) (e : E) : evS c (.asg i e) ρ = thenS ρ (evE c e ρ) fun d => .nx (ρ.set i (some d)) := rfl
theorem s_ret_ (e : E) : evS c (.ret e) ρ = thenS ρ (evE c e ρ) .ret := rfl
theorem s_ife_ (t : E) (a b : Ss) : evS c (.ife t a b) ρ = thenS ρ ((evE c t ρ).bind noX) fun x => if x.truth then evSs c a ρ else evSs c b ρ := rfl
end
theorem compR_mapped {A : Type} {f : D → R (Option D)} {h : A → D} {g : A → D} {xs : List A} (k : ∀ x, x ∈ xs → f (h x) = .ok (some (g x))) : compR f (xs.map h) = .ok (xs.map g) := by
  induction xs with
  | nil => rfl
  | cons x xs ih =>
    show (match f (h x) with
      | .ok (some y) => (match compR f (xs.map h) with | .ok ys => R.ok (y :: ys) | _ => .bad)
      | .ok none => compR f (xs.map h)
      | _ => .bad) = _
    rw [k x (List.mem_cons_self ..), ih fun y hy => k y (List.mem_cons_of_mem _ hy)]
    rfl
theorem compR_filtered {A : Type} {f : D → R (Option D)} {h : A → D} {p : A → Bool} {g : A → D} {xs : List A} (k : ∀ x, x ∈ xs → f (h x) = .ok (if p x then some (g x) else none)) : compR f (xs.map h) = .ok ((xs.filter p).map g) := by
  induction xs with
  | nil => rfl
  | cons x xs ih =>
    have ih := ih fun y hy => k y (List.mem_cons_of_mem _ hy)
    show (match f (h x) with
      | .ok (some y) => (match compR f (xs.map h) with | .ok ys => R.ok (y :: ys) | _ => .bad)
      | .ok none => compR f (xs.map h)
      | _ => .bad) = _
    rw [k x (List.mem_cons_self ..), ih]
    cases e : p x <;> simp [e]
theorem plain_texts (xs : List Tx) : D.plainL (xs.map D.str) = true ∧ D.depL (xs.map D.str) = 0 := by
  induction xs with
  | nil => exact ⟨rfl, rfl⟩
  | cons x xs ih => exact ⟨by simp [D.plainL, D.plain, ih.1], by simp [D.depL, D.dep, ih.2]⟩
theorem eqv_texts : ∀ xs ys : List Tx, D.eqvL (xs.map D.str) (ys.map D.str) = decide (xs = ys)
  | [], [] => rfl
  | [], _ :: _ => rfl
  | _ :: _, [] => rfl
  | x :: xs, y :: ys => by
    show ((x == y) && D.eqvL (xs.map D.str) (ys.map D.str)) = _
    rw [eqv_texts xs ys]
    by_cases h1 : x = y <;> by_cases h2 : xs = ys <;> simp [h1, h2]
theorem eq_texts (xs ys : List Tx) : eqR (.lst (xs.map D.str)) (.lst (ys.map D.str)) = .ok (decide (xs = ys)) := by
  unfold eqR D.flat
  simp only [D.plain, D.dep, (plain_texts xs).1, (plain_texts xs).2, (plain_texts ys).1, (plain_texts ys).2]
  show R.ok (D.eqvL (xs.map D.str) (ys.map D.str)) = _
  rw [eqv_texts]
theorem signs_map (t : Tx) : (t.map fun c => D.str [c]) = (t.map fun c => [c]).map D.str := by simp
theorem for_ (c : Nat → List D → R D) (tg : Tg) (it : Itr) (body : Ss) (ρ : Sl) : evS c (.for tg it body) ρ = thenS ρ (evI c it ρ) fun items => forL (fun x ρ' => match bindTg tg x ρ' with
    | some ρ'' => evSs c body ρ''
    | none => .bad) items ρ := rfl
theorem of_mem {A : Type} {xs : List A} {i : Nat} (h : i < xs.length) {P : A → Prop} (hp : ∀ x, x ∈ xs → P x) : ∃ x, xs[i]? = some x ∧ P x := ⟨xs[i], List.getElem?_eq_getElem h, hp _ (List.getElem_mem h)⟩
/-- a loop's turn, kept shut -/
def loopF (c : Nat → List D → R D) (tg : Tg) (body : Ss) : D → Sl → Fl := fun x ρ' => match bindTg tg x ρ' with
  | some ρ'' => evSs c body ρ''
  | none => .bad
theorem loopF_nm (c : Nat → List D → R D) (i : Nat) (body : Ss) (x : D) (ρ : Sl) : loopF c (.nm i) body x ρ = evSs c body (ρ.set i (some x)) := rfl
theorem forF_ (c : Nat → List D → R D) (tg : Tg) (it : Itr) (body : Ss) (ρ : Sl) : evS c (.for tg it body) ρ = thenS ρ (evI c it ρ) fun items => forL (loopF c tg body) items ρ := rfl
def nthS : Ss → Nat → S
  | .nil, _ => .pass
  | .cons s _, 0 => s
  | .cons _ ss, n + 1 => nthS ss n
def forB : S → Ss
  | .for _ _ b => b
  | _ => .nil
/-- the body of the loop that is a def's i-th statement -/
def loopB (f : Fn) (i : Nat) : Ss := forB (nthS f.body i)
theorem fin_loop {f : D → Sl → Fl} {xs : List D} {ρ ρ' : Sl} {k : Sl → Fl} {r : R D} (h : forL f xs ρ = .nx ρ') (h2 : finR (k ρ') = r) : finR (seqS (forL f xs ρ) k) = r := by
  rw [h]
  exact h2
theorem pick_at {A : Type} (xs : List A) (p : Nat) (h : 0 < xs.length) : atI xs ((p : Int) % (xs.length : Int)) = xs[p % xs.length]? := by
  have e : (p : Int) % (xs.length : Int) = ((p % xs.length : Nat) : Int) := by omega
  rw [e, atI_nat]
theorem loop_on {f : D → Sl → Fl} {s : D} {o2 : Option D} : ∀ {xs : List D}, (∀ x, x ∈ xs → ∀ o1, ∃ o1', f x [some s, o1, o2] = .nx [some s, o1', o2] ∨ f x [some s, o1, o2] = .brk [some s, o1', o2]) → ∀ o1, ∃ ρ', forL f xs [some s, o1, o2] = .nx ρ'
  | [], _, o1 => ⟨_, rfl⟩
  | x :: xs, h, o1 => by
    obtain ⟨o1', e | e⟩ := h x (List.mem_cons_self ..) o1
    · obtain ⟨ρ', q⟩ := loop_on (fun y hy => h y (List.mem_cons_of_mem _ hy)) o1'
      refine ⟨ρ', ?_⟩
      unfold forL
      rw [e]
      exact q
    · refine ⟨[some s, o1', o2], ?_⟩
      unfold forL
      rw [e]
theorem sIx_nat (n d k : Nat) : sIx n d (some (k : Int)) = min k n := by
  have h : ¬ ((k : Int) < 0) := by omega
  simp [sIx, h]
theorem cut_take {A : Type} (xs : List A) (k : Nat) : cut xs none (some (k : Int)) = xs.take k := by
  unfold cut
  rw [sIx_nat]
  show (xs.drop 0).take (min k xs.length - 0) = _
  simp [List.take_eq_take_iff]
theorem cut_drop {A : Type} (xs : List A) (k : Nat) : cut xs (some (k : Int)) none = xs.drop k := by
  unfold cut
  rw [sIx_nat]
  show (xs.drop (min k xs.length)).take (xs.length - min k xs.length) = _
  rw [List.take_of_length_le (by rw [List.length_drop]; exact Nat.le_refl _)]
  by_cases h : k ≤ xs.length
  · rw [Nat.min_eq_left h]
  · rw [Nat.min_eq_right (by omega), List.drop_eq_nil_of_le (Nat.le_refl _), List.drop_eq_nil_of_le (by omega)]
theorem cut_take1 {A : Type} (xs : List A) (k : Nat) : cut xs none (some ((k : Int) + 1)) = xs.take (k + 1) := cut_take xs (k + 1)
theorem cut_drop1 {A : Type} (xs : List A) (k : Nat) : cut xs (some ((k : Int) + 1)) none = xs.drop (k + 1) := cut_drop xs (k + 1)
theorem ext_ (c : Nat → List D → R D) (i : Nat) (e : E) (ρ : Sl) : evS c (.ext i e) ρ = thenS ρ (get ρ i) fun o => match o with
    | .lst xs => thenS ρ (evE c e ρ) fun d => match d with
      | .lst ys => if Nat.ble (xs.length + ys.length) LIM then .nx (ρ.set i (some (.lst (xs ++ ys)))) else .bad
      | _ => .bad
    | _ => .bad := rfl
theorem asgT_ (c : Nat → List D → R D) (is : List Nat) (e : E) (ρ : Sl) : evS c (.asgT is e) ρ = thenS ρ (evE c e ρ) fun d => match bindTg (.tp is) d ρ with
    | some ρ' => .nx ρ'
    | none => .bad := rfl
theorem app_ (c : Nat → List D → R D) (i : Nat) (e : E) (ρ : Sl) : evS c (.app i e) ρ = thenS ρ (get ρ i) fun o => match o with
    | .lst xs => thenS ρ (evE c e ρ) fun d => if Nat.blt xs.length LIM then .nx (ρ.set i (some (.lst (xs ++ [d])))) else .bad
    | _ => .bad := rfl
@[simp] theorem bind_tp (is : List Nat) (ds : List D) (ρ : Sl) : bindTg (.tp is) (.tup ds) ρ = setAll is ds ρ := rfl
@[simp] theorem setAll_nil (ρ : Sl) : setAll [] [] ρ = some ρ := rfl
@[simp] theorem setAll_cons (i : Nat) (is : List Nat) (d : D) (ds : List D) (ρ : Sl) : setAll (i :: is) (d :: ds) ρ = setAll is ds (ρ.set i (some d)) := rfl
@[simp] theorem pr_ord1 (c : Nat) : prR .ord [.str [c]] = .ok (.int c) := rfl
@[simp] theorem pr_str_str (s : Tx) : prR .str [.str s] = .ok (.str s) := rfl
/-- a number as a text -/
def iT (i : Int) : Tx := (PySem.Str.ofString (toString i)).cps.toList
@[simp] theorem pr_str_int (i : Int) : prR .str [.int i] = if decide (0 ≤ i) && Nat.blt i.toNat 10000000000 then .ok (.str (iT i)) else .bad := rfl
@[simp] theorem pr_sorted_lst (xs : List D) : prR .sorted [.lst xs] = if sortB xs then .ok (.lst (xs.mergeSort leD)) else .bad := by
  rw [← msD_eq]
  rfl
@[simp] theorem pr_lenset (d : D) : prR .lenSet [d] = (itemsR d).bind fun xs => (ofO (strs? xs)).bind fun ss => if Nat.blt ss.length 4000 then .ok (.int (sortT ss).length) else .bad := rfl
@[simp] theorem op_mul_str (s : Tx) (k : Int) : op2 .mul (.str s) (.int k) = if decide (0 ≤ k) && decide (k ≤ 1000) && Nat.ble s.length 1000 then .ok (.str (List.replicate k.toNat s).flatten) else .bad := rfl
@[simp] theorem fmt_str (s : Tx) : fmtR (.str s) = .ok s := rfl
@[simp] theorem fmt_int (i : Int) : fmtR (.int i) = if decide (0 ≤ i) && Nat.blt i.toNat 10000000000 then .ok (iT i) else .bad := rfl
@[simp] theorem okRecv_str (m : Mt) (s : Tx) : okRecv m (.str s) = true := by cases m <;> rfl
@[simp] theorem mt_join_lst (s : Tx) (xs : List D) : mtR .join (.str s) [.lst xs] = joinR s xs := rfl
@[simp] theorem mt_join_tup (s : Tx) (xs : List D) : mtR .join (.str s) [.tup xs] = joinR s xs := rfl
end Pw
namespace Pw
/-- a loop with what holds behind each turn -/
theorem forL_inv {A : Type} {f : D → Sl → Fl} {enc : A → D} {P : List A → Sl → Prop} : ∀ (xs done : List A), (∀ pre x rest ρ, done ++ xs = pre ++ x :: rest → P pre ρ → ∃ ρ', (f (enc x) ρ = .nx ρ' ∨ f (enc x) ρ = .ct ρ') ∧ P (pre ++ [x]) ρ') → ∀ ρ, P done ρ → ∃ ρ', forL f (xs.map enc) ρ = .nx ρ' ∧ P (done ++ xs) ρ'
  | [], done, _, ρ, hp => ⟨ρ, rfl, by simpa using hp⟩
  | x :: xs, done, h, ρ, hp => by
    obtain ⟨ρ1, e, p1⟩ := h done x xs ρ rfl hp
    obtain ⟨ρ2, e2, p2⟩ := forL_inv xs (done ++ [x]) (fun pre y rest ρ e => h pre y rest ρ (by rw [← e]; simp)) ρ1 p1
    refine ⟨ρ2, ?_, by simpa using p2⟩
    rw [List.map_cons]
    unfold forL
    rcases e with e | e
    · rw [e]; exact e2
    · rw [e]; exact e2
theorem loop_inv {A : Type} {f : D → Sl → Fl} {enc : A → D} (P : List A → Sl → Prop) (xs : List A) (h : ∀ pre x rest ρ, xs = pre ++ x :: rest → P pre ρ → ∃ ρ', (f (enc x) ρ = .nx ρ' ∨ f (enc x) ρ = .ct ρ') ∧ P (pre ++ [x]) ρ') (ρ : Sl) (hp : P [] ρ) : ∃ ρ', forL f (xs.map enc) ρ = .nx ρ' ∧ P xs ρ' := by
  have q := forL_inv (P := P) xs [] (fun pre x rest ρ e => h pre x rest ρ (by simpa using e)) ρ hp
  simpa using q
mutual
theorem eqv_refl : ∀ d : D, d.plain = true → d.eqv d = true
  | .non, _ => rfl
  | .bl b, _ => by simp [D.eqv]
  | .int i, _ => by simp [D.eqv]
  | .str s, _ => by simp [D.eqv]
  | .lst xs, h => eqvL_refl xs h
  | .tup xs, h => eqvL_refl xs h
  | .dct _ _, h => by cases h
  | .exc _, h => by cases h
  | .loc _, h => by cases h
  | .ins _ _ _, h => by cases h
theorem eqvL_refl : ∀ d : List D, D.plainL d = true → D.eqvL d d = true
  | [], _ => rfl
  | x :: xs, h => by
    have h : (x.plain && D.plainL xs) = true := h
    rw [Bool.and_eq_true] at h
    show (x.eqv x && D.eqvL xs xs) = true
    rw [eqv_refl x h.1, eqvL_refl xs h.2]
    rfl
end
theorem eqR_refl {d : D} (h : d.flat = true) : eqR d d = .ok true := by
  unfold eqR
  rw [h]
  unfold D.flat at h
  rw [Bool.and_eq_true] at h
  simp [eqv_refl d h.1]
@[simp] theorem memR_nil (x : Tx) : memR (.str x) [] = .ok false := rfl
@[simp] theorem memR_cons (x y : Tx) (ys : List D) : memR (.str x) (.str y :: ys) = (memR (.str x) ys).bind fun b => .ok (y == x || b) := by
  have hf : (D.str x).flat = true := rfl
  unfold memR
  rw [hf]
  have e : D.plainL (.str y :: ys) = D.plainL ys := by show ((D.str y).plain && D.plainL ys) = _; simp [D.plain]
  rw [e]
  cases D.plainL ys with
  | true => simp [D.eqv]
  | false => rfl
theorem cut_tl {A : Type} (x : A) (xs : List A) : cut (x :: xs) (some 1) none = xs := by
  have := cut_drop (x :: xs) 1
  simpa using this
@[simp] theorem atI_0 {A : Type} (x : A) (xs : List A) : atI (x :: xs) 0 = some x := by
  have := atI_nat (x :: xs) 0
  simpa using this
@[simp] theorem atI_1 {A : Type} (x y : A) (xs : List A) : atI (x :: y :: xs) 1 = some y := by
  have := atI_nat (x :: y :: xs) 1
  simpa using this
@[simp] theorem atI_2 {A : Type} (x y z : A) (xs : List A) : atI (x :: y :: z :: xs) 2 = some z := by
  have := atI_nat (x :: y :: z :: xs) 2
  simpa using this
@[simp] theorem atI_3 {A : Type} (x y z u : A) (xs : List A) : atI (x :: y :: z :: u :: xs) 3 = some u := by
  have := atI_nat (x :: y :: z :: u :: xs) 3
  simpa using this
/-- a comprehension's turn, kept shut -/
def compF (c : Nat → List D → R D) (elt : E) (tg : Tg) (cond : Eo) (ρ : Sl) : D → R (Option D) := fun x => match bindTg tg x ρ with
  | none => .bad
  | some ρ' => (evC c cond ρ').bind fun k => if k then mapR some (evE c elt ρ') else .ok none
theorem comp_ (c : Nat → List D → R D) (elt : E) (tg : Tg) (it : Itr) (cond : Eo) (ρ : Sl) : evE c (.comp elt tg it cond) ρ = (evI c it ρ).bind fun items => mapR .lst (compR (compF c elt tg cond ρ) items) := rfl
theorem compF_nm (c : Nat → List D → R D) (elt : E) (i : Nat) (cond : Eo) (ρ : Sl) (x : D) : compF c elt (.nm i) cond ρ x = (evC c cond (ρ.set i (some x))).bind fun k => if k then mapR some (evE c elt (ρ.set i (some x))) else .ok none := rfl
theorem compF_tp {c : Nat → List D → R D} {elt : E} {is : List Nat} {cond : Eo} {ρ ρ' : Sl} {ds : List D} (h : setAll is ds ρ = some ρ') : compF c elt (.tp is) cond ρ (.tup ds) = (evC c cond ρ').bind fun k => if k then mapR some (evE c elt ρ') else .ok none := by
  unfold compF
  rw [bind_tp, h]
/-! the evaluator's equations, none of them by definition alone: so the kernel never runs a whole text -/
section
variable (c : Nat → List D → R D) (ρ : Sl)
theorem x_var_ (i : Nat) : evE c (.var i) ρ = get ρ i := id rfl
theorem x_lit_ (d : D) : evE c (.lit d) ρ = .ok d := id rfl
theorem x_glo_ (x : PySem.Str) (d : D) : evE c (.glo x d) ρ = .ok d := id rfl
theorem x_neg_ (a : E) : evE c (.neg a) ρ = (evE c a ρ).bind negR := id rfl
theorem x_bin_ (op : Op2) (a b : E) : evE c (.bin op a b) ρ = (evE c a ρ).bind fun x => (evE c b ρ).bind fun y => op2 op x y := id rfl
theorem x_cmp_ (op : Cm) (a b : E) : evE c (.cmp op a b) ρ = (evE c a ρ).bind fun x => (evE c b ρ).bind fun y => mapR .bl (cmpB op x y) := id rfl
theorem x_cmp2_ (o1 o2 : Cm) (a b e : E) : evE c (.cmp2 o1 o2 a b e) ρ = (evE c a ρ).bind fun x => (evE c b ρ).bind fun y => (cmpB o1 x y).bind fun k => if k then (evE c e ρ).bind fun z => mapR .bl (cmpB o2 y z) else .ok (.bl false) := id rfl
theorem x_not_ (a : E) : evE c (.not a) ρ = ((evE c a ρ).bind noX).bind fun x => .ok (.bl (!x.truth)) := id rfl
theorem x_and_ (es : Es) : evE c (.and es) ρ = evAnd c es ρ := id rfl
theorem x_or_ (es : Es) : evE c (.or es) ρ = evOr c es ρ := id rfl
theorem x_ite_ (t a b : E) : evE c (.ite t a b) ρ = ((evE c t ρ).bind noX).bind fun x => if x.truth then evE c a ρ else evE c b ρ := id rfl
theorem x_tup_ (es : Es) : evE c (.tup es) ρ = (evEs c es ρ).bind fun ds => .ok (.tup ds) := id rfl
theorem x_lst_ (es : Es) : evE c (.lst es) ρ = (evEs c es ρ).bind fun ds => .ok (.lst ds) := id rfl
theorem x_idx_ (a b : E) : evE c (.idx a b) ρ = (evE c a ρ).bind fun x => (evE c b ρ).bind fun y => idxR x y := id rfl
theorem x_sl_ (a : E) (lo hi : Eo) : evE c (.sl a lo hi) ρ = (evE c a ρ).bind fun x => (evEo c lo ρ).bind fun l => (evEo c hi ρ).bind fun h => slR x l h := id rfl
theorem x_rev_ (a : E) : evE c (.rev a) ρ = (evE c a ρ).bind fun x => match x with
    | .lst xs => .ok (.lst xs.reverse)
    | _ => .bad := id rfl
theorem x_comp_ (elt : E) (tg : Tg) (it : Itr) (cond : Eo) : evE c (.comp elt tg it cond) ρ = (evI c it ρ).bind fun items => mapR .lst (compR (compF c elt tg cond ρ) items) := id rfl
theorem x_call_ (f : Nat) (es : Es) : evE c (.call f es) ρ = (evEs c es ρ).bind fun ds => c f ds := id rfl
theorem x_prim_ (p : Pr) (es : Es) : evE c (.prim p es) ρ = (evEs c es ρ).bind fun ds => prR p ds := id rfl
theorem x_meth_ (m : Mt) (o : E) (es : Es) : evE c (.meth m o es) ρ = (evE c o ρ).bind fun x => if okRecv m x then (evEs c es ρ).bind fun ds => mtR m x ds else .bad := id rfl
theorem x_fstr_ (es : Es) : evE c (.fstr es) ρ = mapR .str (evF c es [] ρ) := id rfl
theorem x_repl_ (o : E) (y z : Tx) : evE c (.repl o y z) ρ = (evE c o ρ).bind (replR y z) := id rfl
theorem x_es0_ : evEs c .nil ρ = .ok [] := id rfl
theorem x_es_ (e : E) (es : Es) : evEs c (.cons e es) ρ = (evE c e ρ).bind fun d => (evEs c es ρ).bind fun ds => .ok (d :: ds) := id rfl
theorem x_f0_ (acc : Tx) : evF c .nil acc ρ = .ok acc := id rfl
theorem x_f_ (e : E) (es : Es) (acc : Tx) : evF c (.cons e es) acc ρ = (evE c e ρ).bind fun d => (fmtR d).bind fun t => if Nat.ble (acc.length + t.length) LIM then evF c es (acc ++ t) ρ else .bad := id rfl
theorem x_and1_ (e : E) : evAnd c (.cons e .nil) ρ = evE c e ρ := id rfl
theorem x_and2_ (e f : E) (es : Es) : evAnd c (.cons e (.cons f es)) ρ = ((evE c e ρ).bind noX).bind fun x => if x.truth then evAnd c (.cons f es) ρ else .ok x := id rfl
theorem x_or1_ (e : E) : evOr c (.cons e .nil) ρ = evE c e ρ := id rfl
theorem x_or2_ (e f : E) (es : Es) : evOr c (.cons e (.cons f es)) ρ = ((evE c e ρ).bind noX).bind fun x => if x.truth then .ok x else evOr c (.cons f es) ρ := id rfl
theorem x_o0_ : evEo c .none ρ = .ok none := id rfl
theorem x_o_ (e : E) : evEo c (.some e) ρ = intO (evE c e ρ) := id rfl
theorem x_c0_ : evC c .none ρ = .ok true := id rfl
theorem x_c_ (e : E) : evC c (.some e) ρ = mapR D.truth ((evE c e ρ).bind noX) := id rfl
theorem x_seq_ (e : E) : evI c (.seq e) ρ = (evE c e ρ).bind itemsR := id rfl
theorem x_range_ (e : E) : evI c (.range e) ρ = (evE c e ρ).bind rangeR := id rfl
theorem x_enum_ (e : E) : evI c (.enum e) ρ = (evE c e ρ).bind enumR := id rfl
theorem x_zip_ (a b : E) : evI c (.zip a b) ρ = (evE c a ρ).bind fun x => (evE c b ρ).bind fun y => zipR x y := id rfl
theorem y_asg_ (i : Nat) (e : E) : evS c (.asg i e) ρ = thenS ρ (evE c e ρ) fun d => .nx (ρ.set i (some d)) := id rfl
theorem y_asgT_ (is : List Nat) (e : E) : evS c (.asgT is e) ρ = thenS ρ (evE c e ρ) fun d => match bindTg (.tp is) d ρ with
    | some ρ' => .nx ρ'
    | none => .bad := id rfl
theorem y_expr_ (e : E) : evS c (.expr e) ρ = thenS ρ (evE c e ρ) fun _ => .nx ρ := id rfl
theorem y_ret_ (e : E) : evS c (.ret e) ρ = thenS ρ (evE c e ρ) .ret := id rfl
theorem y_ife_ (t : E) (a b : Ss) : evS c (.ife t a b) ρ = thenS ρ ((evE c t ρ).bind noX) fun x => if x.truth then evSs c a ρ else evSs c b ρ := id rfl
theorem y_for_ (tg : Tg) (it : Itr) (body : Ss) : evS c (.for tg it body) ρ = thenS ρ (evI c it ρ) fun items => forL (loopF c tg body) items ρ := id rfl
theorem y_brk_ : evS c .brk ρ = .brk ρ := id rfl
theorem y_ct_ : evS c .ct ρ = .ct ρ := id rfl
theorem y_pass_ : evS c .pass ρ = .nx ρ := id rfl
theorem y_app_ (i : Nat) (e : E) : evS c (.app i e) ρ = thenS ρ (get ρ i) fun o => match o with
    | .lst xs => thenS ρ (evE c e ρ) fun d => if Nat.blt xs.length LIM then .nx (ρ.set i (some (.lst (xs ++ [d])))) else .bad
    | _ => .bad := id rfl
theorem y_ext_ (i : Nat) (e : E) : evS c (.ext i e) ρ = thenS ρ (get ρ i) fun o => match o with
    | .lst xs => thenS ρ (evE c e ρ) fun d => match d with
      | .lst ys => if Nat.ble (xs.length + ys.length) LIM then .nx (ρ.set i (some (.lst (xs ++ ys)))) else .bad
      | _ => .bad
    | _ => .bad := id rfl
theorem y_par_ (i j u v : Nat) : evS c (.par i j u v) ρ = thenS ρ (get ρ u) fun x => thenS ρ (get ρ v) fun y => .nx ((ρ.set i (some x)).set j (some y)) := id rfl
theorem y_appPop_ (i j : Nat) (e : E) : evS c (.appPop i j e) ρ = thenS ρ (get ρ i) fun o => thenS ρ (get ρ j) fun o2 => match o, o2 with
    | .lst xs, .lst ys => thenS ρ (evE c e ρ) fun d => match d with
      | .int k => (match popR ys k with
        | some (y, zs) => if Nat.blt xs.length LIM then .nx ((ρ.set j (some (.lst zs))).set i (some (.lst (xs ++ [y])))) else .bad
        | none => .bad)
      | _ => .bad
    | _, _ => .bad := id rfl
theorem y_nil_ : evSs c .nil ρ = .nx ρ := id rfl
theorem x_isx_ (cs : List Tx) (a : E) (x : Tx) : evE c (.isx cs a x) ρ = (evE c a ρ).bind fun d => mapR .bl (isX cs x d) := id rfl
theorem x_dnew_ : evE c .dnew ρ = .ok (.dct [] []) := id rfl
theorem x_dget_ (o k : E) : evE c (.dget o k) ρ = (evE c o ρ).bind fun d => if d.isDct then (evE c k ρ).bind fun y => dgetR d y .non else .bad := id rfl
theorem x_dget2_ (o k z : E) : evE c (.dget2 o k z) ρ = (evE c o ρ).bind fun d => if d.isDct then (evE c k ρ).bind fun y => (evE c z ρ).bind fun w => dgetR d y w else .bad := id rfl
theorem x_lm_ (m : Lm) (o a : E) : evE c (.lm m o a) ρ = (evE c o ρ).bind fun d => if d.isLst then (evE c a ρ).bind fun y => lmR m d y else .bad := id rfl
theorem x_sidx_ (o a : E) : evE c (.sidx o a) ρ = (evE c o ρ).bind fun d => if d.isStr then (evE c a ρ).bind fun y => sidxR d y else .bad := id rfl
theorem x_two_ (m : Bool) (a b : E) : evE c (.two m a b) ρ = (evE c a ρ).bind fun x => (evE c b ρ).bind fun y => twoR m x y := id rfl
theorem x_pur_ (a : E) : evE c (.pur a) ρ = (evE c a ρ).bind fun d => if d.noC then .ok d else .bad := id rfl
theorem x_fld_ (cs : List Tx) (a : E) (f : Tx) : evE c (.fld cs a f) ρ = (evE c a ρ).bind (fldD cs f) := id rfl
theorem y_raise_ (t : PySem.Str) (x : Tx) : evS c (.raise t x) ρ = .ex x ρ := id rfl
theorem y_bad_ : evS c .bad ρ = .bad := id rfl
theorem y_whl_ (m : Nat) (t : E) (b : Ss) : evS c (.whl m t b) ρ = whlL (fun ρ' => mapR D.truth ((evE c t ρ').bind noX)) (evSs c b) m ρ := id rfl
def keepF (ys : List Tx) (x : Tx) (i k : Nat) : Fl → Fl
  | .ex y ρ' => if ys.contains y then (if subX y x then .nx ((ρ'.set k (some (.exc y))).set i none) else .ex y ρ') else .bad
  | r => r
@[simp] theorem keepF_nx (ys : List Tx) (x : Tx) (i k : Nat) (ρ : Sl) : keepF ys x i k (.nx ρ) = .nx ρ := rfl
@[simp] theorem keepF_ret (ys : List Tx) (x : Tx) (i k : Nat) (d : D) : keepF ys x i k (.ret d) = .ret d := rfl
@[simp] theorem keepF_bad (ys : List Tx) (x : Tx) (i k : Nat) : keepF ys x i k .bad = .bad := rfl
@[simp] theorem keepF_ex (ys : List Tx) (x : Tx) (i k : Nat) (y : Tx) (ρ' : Sl) : keepF ys x i k (.ex y ρ') = if ys.contains y then (if subX y x then .nx ((ρ'.set k (some (.exc y))).set i none) else .ex y ρ') else .bad := rfl
theorem y_tryK_ (b : Ss) (ys : List Tx) (x : Tx) (i k : Nat) : evS c (.tryK b ys x i k) ρ = keepF ys x i k (evSs c b ρ) := by
  unfold evS keepF
  cases evSs c b ρ <;> rfl
def backF (ys : List Tx) (x : Tx) (i : Nat) : Fl → Fl
  | .ex y ρ' => if ys.contains y then (if subX y x then thenS ρ' (get ρ' i) .ret else .ex y ρ') else .bad
  | r => r
@[simp] theorem backF_nx (ys : List Tx) (x : Tx) (i : Nat) (ρ : Sl) : backF ys x i (.nx ρ) = .nx ρ := rfl
@[simp] theorem backF_ret (ys : List Tx) (x : Tx) (i : Nat) (d : D) : backF ys x i (.ret d) = .ret d := rfl
@[simp] theorem backF_bad (ys : List Tx) (x : Tx) (i : Nat) : backF ys x i .bad = .bad := rfl
@[simp] theorem backF_ex (ys : List Tx) (x : Tx) (i : Nat) (y : Tx) (ρ' : Sl) : backF ys x i (.ex y ρ') = if ys.contains y then (if subX y x then thenS ρ' (get ρ' i) .ret else .ex y ρ') else .bad := rfl
theorem y_tryV_ (b : Ss) (ys : List Tx) (x : Tx) (i : Nat) : evS c (.tryV b ys x i) ρ = backF ys x i (evSs c b ρ) := by
  unfold evS backF
  cases evSs c b ρ <;> rfl
def putF (ρ : Sl) (i : Nat) : Option D → Fl
  | some o' => .nx (ρ.set i (some o'))
  | none => .bad
@[simp] theorem putF_some (ρ : Sl) (i : Nat) (o : D) : putF ρ i (some o) = .nx (ρ.set i (some o)) := rfl
@[simp] theorem putF_none (ρ : Sl) (i : Nat) : putF ρ i none = .bad := rfl
theorem y_sput_ (i : Nat) (k e : E) : evS c (.sput i k e) ρ = thenS ρ (evE c e ρ) fun d => thenS ρ (get ρ i) fun o => thenS ρ (evE c k ρ) fun y => putF ρ i (putR o y d) := id rfl
theorem y_dpop_ (i : Nat) (k : E) : evS c (.dpop i k) ρ = thenS ρ (get ρ i) fun o => (match o with
    | .dct ks vs => thenS ρ (evE c k ρ) fun y => if isKey y && dhas y ks then .nx (ρ.set i (some (.dct (ddropK y ks) (ddropV y ks vs)))) else .bad
    | _ => .bad) := id rfl
def remF (ρ : Sl) (i : Nat) (xs : List D) : Option Nat → Fl
  | some j => .nx (ρ.set i (some (.lst (xs.eraseIdx j))))
  | none => .bad
@[simp] theorem remF_some (ρ : Sl) (i : Nat) (xs : List D) (j : Nat) : remF ρ i xs (some j) = .nx (ρ.set i (some (.lst (xs.eraseIdx j)))) := rfl
theorem y_rem_ (i : Nat) (e : E) : evS c (.rem i e) ρ = thenS ρ (get ρ i) fun o => (match o with
    | .lst xs => thenS ρ (evE c e ρ) fun y => if y.flat && D.plainL xs then remF ρ i xs (xs.findIdx? fun z => z.eqv y) else .bad
    | _ => .bad) := id rfl
end
theorem add_small {x y : Tx} (h : x.length + y.length ≤ LIM) : op2 .add (.str x) (.str y) = .ok (.str (x ++ y)) := by
  rw [op_add_str, if_pos (by rw [Nat.ble_eq]; exact h)]
/-! a text in two parts -/
def takeS : Nat → Ss → Ss
  | 0, _ => .nil
  | _, .nil => .nil
  | k + 1, .cons s ss => .cons s (takeS k ss)
def dropS : Nat → Ss → Ss
  | 0, ss => ss
  | _, .nil => .nil
  | k + 1, .cons _ ss => dropS k ss
theorem seqS_assoc (f : Fl) (g h : Sl → Fl) : seqS (seqS f g) h = seqS f fun ρ => seqS (g ρ) h := by cases f <;> rfl
theorem split_ (c : Nat → List D → R D) : ∀ (k : Nat) (ss : Ss) (ρ : Sl), evSs c ss ρ = seqS (evSs c (takeS k ss) ρ) (evSs c (dropS k ss))
  | 0, ss, ρ => by cases ss <;> rfl
  | k + 1, .nil, ρ => rfl
  | k + 1, .cons s ss, ρ => by
    rw [takeS, dropS, ss_cons_, ss_cons_, seqS_assoc]
    congr 1
    funext ρ'
    exact split_ c k ss ρ'
theorem in_two {c : Nat → List D → R D} {ss : Ss} {ρ ρ' : Sl} {r : R D} (k : Nat) (h1 : evSs c (takeS k ss) ρ = .nx ρ') (h2 : finR (evSs c (dropS k ss) ρ') = r) : finR (evSs c ss ρ) = r := by
  rw [split_ c k, h1]
  exact h2
end Pw

/-! text PwG1 -/
/-! the laws' draws -/
open Pw
def G._law_cell : Fn := ⟨2, 2, [], false, (.cons (.ife (.cmp .lt (.var 1) (.prim .len (.cons (.var 0) .nil))) (.cons (.ret (.idx (.var 0) (.var 1)))
  .nil) .nil)
  (.cons (.ife (.cmp .eq (.var 0) (.lst .nil)) (.cons (.ret (.lit (.int 0)))
  .nil) .nil)
  (.cons (.ret (.bin .add (.bin .mul (.idx (.var 0) (.bin .mod (.var 1) (.prim .len (.cons (.var 0) .nil)))) (.lit (.int 31))) (.var 1)))
  .nil))), none⟩
def G._law_pick : Fn := ⟨4, 3, [], true, (.cons (.asg 3 (.bin .mod (.bin .mul (.bin .add (.call 6 (.cons (.var 0) (.cons (.var 1) .nil))) (.bin .mul (.lit (.int 6151)) (.bin .add (.var 1) (.lit (.int 1))))) (.lit (.int 40692))) (.lit (.int 2147483399))))
  (.cons (.ret (.bin .mod (.bin .mod (.bin .add (.bin .mul (.var 3) (.var 3)) (.bin .fdiv (.var 3) (.lit (.int 31)))) (.lit (.int 2147483629))) (.var 2)))
  .nil)), none⟩
namespace Pw
theorem ints_plain (xs : List Int) : D.plainL (xs.map D.int) = true ∧ D.depL (xs.map D.int) = 0 := by
  induction xs with
  | nil => exact ⟨rfl, rfl⟩
  | cons x xs ih => exact ⟨by simp [D.plainL, D.plain, ih.1], by simp [D.depL, D.dep, ih.2]⟩
theorem eq_nil_ints (xs : List Int) : eqR (.lst (xs.map D.int)) (.lst []) = .ok (decide (xs = [])) := by
  unfold eqR D.flat
  simp only [D.plain, D.dep, (ints_plain xs).1, (ints_plain xs).2, D.plainL, D.depL]
  cases xs <;> rfl
theorem cell_ok {T : Nat → Option Fn} (hT : T 6 = some G._law_cell) (n : Nat) (ns : List Int) (k : Nat) : ∃ z, callN T (n + 1) 6 [.lst (ns.map D.int), .int k] = .ok (.int z) := by
  rw [callN_eq hT]
  simp only [runFn, runFn1, G._law_cell]
  by_cases h : k < ns.length
  · simp [evSs, evS, evE, evEs, h, atI_nat]
  · by_cases h0 : ns = []
    · subst h0
      have hk : ¬ ((k : Int) < 0) := by omega
      have e := eq_nil_ints []
      simp at e
      simp [evSs, evS, evE, evEs, hk, e]
    · have hl : 0 < ns.length := List.length_pos_iff.mpr h0
      have em : (k : Int) % (ns.length : Int) = ((k % ns.length : Nat) : Int) := by omega
      have hm : k % ns.length < ns.length := Nat.mod_lt _ hl
      have h31 : smallI 31 = true := by decide
      have ha : atI (ns.map D.int) ((k : Int) % (ns.length : Int)) = some (D.int ns[k % ns.length]) := by
        rw [em, atI_nat, List.getElem?_map, List.getElem?_eq_getElem hm]
        rfl
      simp [evSs, evS, evE, evEs, h, eq_nil_ints, h0, hl, ha, h31]
theorem pick_ok {T : Nat → Option Fn} (h6 : T 6 = some G._law_cell) (h7 : T 7 = some G._law_pick) (n : Nat) (ns : List Int) (k : Nat) (many : Int) (hm : 0 < many) :
    ∃ p : Nat, (p : Int) < many ∧ callN T (n + 2) 7 [.lst (ns.map D.int), .int k, .int many] = .ok (.int p) := by
  obtain ⟨z, hz⟩ := cell_ok h6 n ns k
  rw [callN_eq h7]
  simp only [runFn, runFn1, G._law_pick]
  have h1 : smallI 6151 = true := by decide
  have h2 : smallI 40692 = true := by decide
  simp [evSs, evS, evE, evEs, hz, h1, h2, hm]
  generalize hd : (z + 6151 * ((k : Int) + 1)) * 40692 % 2147483399 = d
  have d0 : 0 ≤ d := by omega
  have d1 : d < 2147483399 := by omega
  have h3 : smallI d = true := by
    unfold smallI
    simp
    omega
  simp [h3, hm]
  refine ⟨((d * d + d / 31) % 2147483629 % many).toNat, ?_, ?_⟩
  · have := Int.emod_nonneg ((d * d + d / 31) % 2147483629) (show many ≠ 0 by omega)
    have := Int.emod_lt_of_pos ((d * d + d / 31) % 2147483629) hm
    omega
  · have := Int.emod_nonneg ((d * d + d / 31) % 2147483629) (show many ≠ 0 by omega)
    omega
end Pw


/-! text Q92a -/
namespace Q92
open PySem PySem.Spec PyProof.Rows L2 Pw
def top (i : Nat) : Stmt := PySem.Challenge.pw_partworld_k92_whole_clashes_by_hand.main.body.getD i (.Pass ⟨0, 0, 0, 0⟩)
def _root_.G.fits_kinds : Fn := ⟨4, 2, [], true, (.cons (.ife (.not (.prim .all (.cons (.comp (.cmp .isin (.var 2) (.var 1)) (.nm 2) (.seq (.idx (.var 0) (.lit (.int 0)))) .none) .nil))) (.cons (.ret (.lit (.bl false)))
  .nil) .nil)
  (.cons (.ife (.prim .any (.cons (.comp (.cmp .isin (.var 2) (.var 1)) (.nm 2) (.seq (.idx (.var 0) (.lit (.int 1)))) .none) .nil)) (.cons (.ret (.lit (.bl false)))
  .nil) .nil)
  (.cons (.ret (.prim .all (.cons (.comp (.prim .any (.cons (.comp (.cmp .isin (.var 2) (.var 1)) (.nm 2) (.seq (.var 3)) .none) .nil)) (.nm 3) (.seq (.idx (.var 0) (.lit (.int 2)))) .none) .nil)))
  .nil))), none⟩
def df_fits_kinds : Df := ⟨"fits_kinds", ["query", "kinds"], ["query", "kinds", "kind", "group"], top 6, G.fits_kinds, []⟩
def _root_.G.can_meet : Fn := ⟨4, 2, [], false, (.cons (.asg 2 (.meth .join (.lit (.str [])) (.cons (.comp (.var 3) (.nm 3) (.seq (.glo "KINDS" (.str [97, 98, 99, 100, 101, 102, 103, 104]))) (.some (.cmp .notin (.var 3) (.bin .add (.idx (.var 0) (.lit (.int 1))) (.idx (.var 1) (.lit (.int 1))))))) .nil)))
  (.cons (.ret (.and (.cons (.call 72 (.cons (.var 0) (.cons (.var 2) .nil))) (.cons (.call 72 (.cons (.var 1) (.cons (.var 2) .nil))) .nil))))
  .nil)), none⟩
def df_can_meet : Df := ⟨"can_meet", ["one", "other"], ["one", "other", "free", "kind"], top 7, G.can_meet, []⟩
def _root_.G.joined_kinds : Fn := ⟨2, 2, [], true, (.cons (.ret (.meth .join (.lit (.str [])) (.cons (.prim .sortedSet (.cons (.bin .add (.var 0) (.var 1)) .nil)) .nil)))
  .nil), none⟩
def df_joined_kinds : Df := ⟨"joined_kinds", ["one", "other"], ["one", "other"], top 8, G.joined_kinds, []⟩
def _root_.G.letters_of : Fn := ⟨3, 1, [1], true, (.cons (.ife (.prim (.isinst "int") (.cons (.var 0) .nil)) (.cons (.ret (.lst .nil))
  .nil) .nil)
  (.cons (.ife (.prim (.isinst "str") (.cons (.var 0) .nil)) (.cons (.ret (.lst (.cons (.var 0) .nil)))
  .nil) .nil)
  (.cons (.asg 1 (.lst .nil))
  (.cons (.for (.nm 2) (.seq (.sl (.var 0) (.some (.lit (.int 1))) .none)) (.cons (.ext 1 (.call 124 (.cons (.var 2) .nil)))
  .nil))
  (.cons (.ret (.var 1))
  .nil))))), none⟩
def df_letters_of : Df := ⟨"letters_of", ["expression"], ["expression", "made", "part"], top 10, G.letters_of, []⟩
def _root_.G.expressions_of : Fn := ⟨2, 1, [], true, (.cons (.ife (.cmp .eq (.idx (.var 0) (.lit (.int 0))) (.lit (.str [98, 111, 114, 110]))) (.cons (.ret (.comp (.idx (.var 1) (.lit (.int 1))) (.nm 1) (.seq (.idx (.var 0) (.lit (.int 1)))) .none))
  .nil) .nil)
  (.cons (.ife (.cmp .eq (.prim .len (.cons (.var 0) .nil)) (.lit (.int 3))) (.cons (.ret (.lst (.cons (.idx (.var 0) (.lit (.int 2))) .nil)))
  .nil) .nil)
  (.cons (.ret (.lst .nil))
  .nil))), none⟩
def df_expressions_of : Df := ⟨"expressions_of", ["step"], ["step", "pair"], top 11, G.expressions_of, []⟩
def _root_.G.access_of : Fn := ⟨6, 1, [1, 2, 3], true, (.cons (.asg 1 (.lst .nil))
  (.cons (.asg 2 (.lst .nil))
  (.cons (.asg 3 (.lst .nil))
  (.cons (.for (.nm 4) (.seq (.idx (.var 0) (.lit (.int 2)))) (.cons (.for (.nm 5) (.seq (.call 125 (.cons (.var 4) .nil))) (.cons (.ext 1 (.call 124 (.cons (.var 5) .nil)))
  .nil))
  (.cons (.ife (.or (.cons (.cmp .eq (.idx (.var 4) (.lit (.int 0))) (.lit (.str [112, 117, 116]))) (.cons (.cmp .eq (.idx (.var 4) (.lit (.int 0))) (.lit (.str [115, 104, 97, 114, 101]))) .nil))) (.cons (.app 2 (.idx (.var 4) (.lit (.int 1))))
  .nil) (.cons (.ife (.cmp .eq (.idx (.var 4) (.lit (.int 0))) (.lit (.str [97, 100, 100]))) (.cons (.app 3 (.idx (.var 4) (.lit (.int 1))))
  .nil) .nil)
  .nil))
  .nil)))
  (.cons (.ret (.tup (.cons (.meth .join (.lit (.str [])) (.cons (.prim .sortedSet (.cons (.var 1) .nil)) .nil)) (.cons (.meth .join (.lit (.str [])) (.cons (.prim .sortedSet (.cons (.var 2) .nil)) .nil)) (.cons (.meth .join (.lit (.str [])) (.cons (.prim .sortedSet (.cons (.var 3) .nil)) .nil)) .nil)))))
  .nil))))), none⟩
def df_access_of : Df := ⟨"access_of", ["system"], ["system", "reads", "writes", "adds", "step", "expression"], top 12, G.access_of, []⟩
def _root_.G.letter_clash : Fn := ⟨6, 3, [], false, (.cons (.asg 3 (.comp (.cmp .isin (.var 0) (.var 5)) (.nm 5) (.seq (.var 1)) .none))
  (.cons (.asg 4 (.comp (.cmp .isin (.var 0) (.var 5)) (.nm 5) (.seq (.var 2)) .none))
  (.cons (.ife (.or (.cons (.and (.cons (.idx (.var 3) (.lit (.int 1))) (.cons (.prim .any (.cons (.var 4) .nil)) .nil))) (.cons (.and (.cons (.idx (.var 4) (.lit (.int 1))) (.cons (.prim .any (.cons (.var 3) .nil)) .nil))) .nil))) (.cons (.ret (.lit (.bl true)))
  .nil) .nil)
  (.cons (.ret (.or (.cons (.and (.cons (.idx (.var 3) (.lit (.int 0))) (.cons (.idx (.var 4) (.lit (.int 2))) .nil))) (.cons (.and (.cons (.idx (.var 3) (.lit (.int 2))) (.cons (.idx (.var 4) (.lit (.int 0))) .nil))) .nil))))
  .nil)))), none⟩
def df_letter_clash : Df := ⟨"letter_clash", ["letter", "one", "other"], ["letter", "one", "other", "mine", "yours", "text"], top 14, G.letter_clash, []⟩
def _root_.G.can_meet_with : Fn := ⟨3, 3, [], false, (.cons (.ret (.call 82 (.cons (.tup (.cons (.call 84 (.cons (.idx (.var 1) (.lit (.int 0))) (.cons (.var 0) .nil))) (.cons (.idx (.var 1) (.lit (.int 1))) (.cons (.idx (.var 1) (.lit (.int 2))) .nil)))) (.cons (.var 2) .nil))))
  .nil), none⟩
def df_can_meet_with : Df := ⟨"can_meet_with", ["kind", "one", "other"], ["kind", "one", "other"], top 15, G.can_meet_with, []⟩
def _root_.G.clash_of : Fn := ⟨7, 2, [], false, (.cons (.asg 2 (.call 126 (.cons (.var 0) .nil)))
  (.cons (.asg 3 (.call 126 (.cons (.var 1) .nil)))
  (.cons (.asg 4 (.meth .join (.lit (.str [])) (.cons (.comp (.var 6) (.nm 6) (.seq (.glo "LETTERS" (.str [65, 66, 67, 68]))) (.some (.call 145 (.cons (.var 6) (.cons (.var 2) (.cons (.var 3) .nil)))))) .nil)))
  (.cons (.for (.nm 5) (.seq (.glo "KINDS" (.str [97, 98, 99, 100, 101, 102, 103, 104]))) (.cons (.ife (.and (.cons (.call 145 (.cons (.var 5) (.cons (.var 2) (.cons (.var 3) .nil)))) (.cons (.call 146 (.cons (.var 5) (.cons (.idx (.var 0) (.lit (.int 1))) (.cons (.idx (.var 1) (.lit (.int 1))) .nil)))) .nil))) (.cons (.asg 4 (.bin .add (.var 4) (.var 5)))
  .nil) .nil)
  .nil))
  (.cons (.ret (.var 4))
  .nil))))), none⟩
def df_clash_of : Df := ⟨"clash_of", ["one", "other"], ["one", "other", "mine", "yours", "made", "kind", "letter"], top 16, G.clash_of, []⟩
def _root_.G.names_of : Fn := ⟨2, 1, [], true, (.cons (.ret (.comp (.idx (.var 1) (.lit (.int 0))) (.nm 1) (.seq (.idx (.var 0) (.lit (.int 0)))) .none))
  .nil), none⟩
def df_names_of : Df := ⟨"names_of", ["schedule"], ["schedule", "system"], top 18, G.names_of, []⟩
def _root_.G.system_of : Fn := ⟨2, 2, [], false, (.cons (.ret (.idx (.idx (.var 0) (.lit (.int 0))) (.lm .idx (.call 157 (.cons (.var 0) .nil)) (.var 1))))
  .nil), none⟩
def df_system_of : Df := ⟨"system_of", ["schedule", "name"], ["schedule", "name"], top 19, G.system_of, []⟩
def _root_.G.is_ready : Fn := ⟨4, 3, [], true, (.cons (.ret (.not (.prim .any (.cons (.comp (.and (.cons (.cmp .eq (.idx (.var 3) (.lit (.int 1))) (.var 1)) (.cons (.cmp .isin (.idx (.var 3) (.lit (.int 0))) (.var 2)) .nil))) (.nm 3) (.seq (.idx (.var 0) (.lit (.int 1)))) .none) .nil))))
  .nil), none⟩
def df_is_ready : Df := ⟨"is_ready", ["schedule", "name", "left"], ["schedule", "name", "left", "pair"], top 20, G.is_ready, []⟩
def _root_.G.told_and_left : Fn := ⟨5, 1, [2, 1], true, (.cons (.asg 1 (.call 157 (.cons (.var 0) .nil)))
  (.cons (.asg 2 (.lst .nil))
  (.cons (.asg 3 (.sl (.var 1) .none (.some (.lit (.int 1)))))
  (.cons (.whl 1000000 (.cmp .ne (.var 3) (.lst .nil)) (.cons (.asg 3 (.comp (.var 4) (.nm 4) (.seq (.var 1)) (.some (.call 164 (.cons (.var 0) (.cons (.var 4) (.cons (.var 1) .nil)))))))
  (.cons (.for (.nm 4) (.seq (.sl (.var 3) .none (.some (.lit (.int 1))))) (.cons (.app 2 (.var 4))
  (.cons (.rem 1 (.var 4))
  .nil)))
  .nil)))
  (.cons (.ret (.tup (.cons (.var 2) (.cons (.var 1) .nil))))
  .nil))))), none⟩
def df_told_and_left : Df := ⟨"told_and_left", ["schedule"], ["schedule", "left", "made", "ready", "name"], top 21, G.told_and_left, []⟩
def _root_.G.told_order : Fn := ⟨3, 1, [], false, (.cons (.asgT [1, 2] (.call 165 (.cons (.var 0) .nil)))
  (.cons (.ife (.cmp .ne (.var 2) (.lst .nil)) (.cons (.raise "InRing" [73, 110, 82, 105, 110, 103])
  .nil) .nil)
  (.cons (.ret (.var 1))
  .nil))), none⟩
def df_told_order : Df := ⟨"told_order", ["schedule"], ["schedule", "made", "left"], top 22, G.told_order, []⟩
def _root_.G.ring_in : Fn := ⟨6, 1, [2], true, (.cons (.asg 1 (.idx (.call 165 (.cons (.var 0) .nil)) (.lit (.int 1))))
  (.cons (.ife (.cmp .eq (.var 1) (.lst .nil)) (.cons (.ret (.lst .nil))
  .nil) .nil)
  (.cons (.asg 2 (.sl (.var 1) .none (.some (.lit (.int 1)))))
  (.cons (.whl 1000000 (.cmp .eq (.lm .cnt (.var 2) (.idx (.var 2) (.neg (.lit (.int 1))))) (.lit (.int 1))) (.cons (.asg 4 (.comp (.idx (.var 5) (.lit (.int 0))) (.nm 5) (.seq (.idx (.var 0) (.lit (.int 1)))) (.some (.and (.cons (.cmp .eq (.idx (.var 5) (.lit (.int 1))) (.idx (.var 2) (.neg (.lit (.int 1))))) (.cons (.cmp .isin (.idx (.var 5) (.lit (.int 0))) (.var 1)) .nil))))))
  (.cons (.app 2 (.idx (.var 4) (.lit (.int 0))))
  .nil)))
  (.cons (.asg 3 (.sl (.var 2) (.some (.bin .add (.lm .idx (.var 2) (.idx (.var 2) (.neg (.lit (.int 1))))) (.lit (.int 1)))) .none))
  (.cons (.ret (.rev (.var 3)))
  .nil)))))), none⟩
def df_ring_in : Df := ⟨"ring_in", ["schedule"], ["schedule", "left", "walked", "ring", "ahead", "pair"], top 23, G.ring_in, []⟩
def _root_.G.is_tie : Fn := ⟨3, 3, [], false, (.cons (.ret (.or (.cons (.cmp .isin (.tup (.cons (.var 1) (.cons (.var 2) .nil))) (.idx (.var 0) (.lit (.int 1)))) (.cons (.cmp .ne (.call 147 (.cons (.call 172 (.cons (.var 0) (.cons (.var 1) .nil))) (.cons (.call 172 (.cons (.var 0) (.cons (.var 2) .nil))) .nil))) (.lit (.str []))) .nil))))
  .nil), none⟩
def df_is_tie : Df := ⟨"is_tie", ["schedule", "one", "other"], ["schedule", "one", "other"], top 24, G.is_tie, []⟩
def _root_.G.ties_of : Fn := ⟨6, 1, [2], true, (.cons (.asg 1 (.call 166 (.cons (.var 0) .nil)))
  (.cons (.asg 2 (.lst .nil))
  (.cons (.for (.tp [3, 4]) (.enum (.var 1)) (.cons (.ext 2 (.comp (.tup (.cons (.var 5) (.cons (.var 4) .nil))) (.nm 5) (.seq (.sl (.var 1) .none (.some (.var 3)))) (.some (.call 173 (.cons (.var 0) (.cons (.var 5) (.cons (.var 4) .nil)))))))
  .nil))
  (.cons (.ret (.var 2))
  .nil)))), none⟩
def df_ties_of : Df := ⟨"ties_of", ["schedule"], ["schedule", "order", "made", "at", "other", "one"], top 25, G.ties_of, []⟩
def _root_.G.waves_of : Fn := ⟨7, 1, [], true, .nil, (some (false, (.cons (.asg 1 (.pu (.call 174 (.cons (.var 0) .nil))))
  (.cons (.asg 2 (.nw (.dnew)))
  (.cons (.asg 3 (.nw (.lst .nil)))
  (.cons (.for (.nm 4) (.seq (.call 166 (.cons (.var 0) .nil))) (.cons (.put (.vr 2) (.pu (.var 4)) (.rd (.prim .maxD (.cons (.comp (.bin .add (.idx (.var 2) (.var 5)) (.lit (.int 1))) (.tp [5, 6]) (.seq (.var 1)) (.some (.cmp .eq (.var 6) (.var 4)))) (.cons (.lit (.int 0)) .nil)))))
  (.cons (.ife (.cmp .eq (.idx (.var 2) (.var 4)) (.prim .len (.cons (.var 3) .nil))) (.cons (.app (.vr 3) (.nw (.lst .nil)))
  .nil) .nil)
  (.cons (.app (.at (.vr 3) (.rd (.idx (.var 2) (.var 4)))) (.pu (.var 4)))
  .nil))))
  (.cons (.ret (.vr 3))
  .nil)))))))⟩
def df_waves_of : Df := ⟨"waves_of", ["schedule"], ["schedule", "ties", "depths", "waves", "name", "one", "other"], top 26, G.waves_of, []⟩
def _root_.G.behind_of : Fn := ⟨6, 2, [2], true, (.cons (.asg 2 (.lst (.cons (.var 1) .nil)))
  (.cons (.asg 3 (.lit (.int 0)))
  (.cons (.whl 1000000 (.cmp .lt (.var 3) (.prim .len (.cons (.var 2) .nil))) (.cons (.for (.tp [4, 5]) (.seq (.idx (.var 0) (.lit (.int 1)))) (.cons (.ife (.and (.cons (.cmp .eq (.var 4) (.idx (.var 2) (.var 3))) (.cons (.cmp .notin (.var 5) (.var 2)) .nil))) (.cons (.app 2 (.var 5))
  .nil) .nil)
  .nil))
  (.cons (.asg 3 (.bin .add (.var 3) (.lit (.int 1))))
  .nil)))
  (.cons (.ret (.sl (.var 2) (.some (.lit (.int 1))) .none))
  .nil)))), none⟩
def df_behind_of : Df := ⟨"behind_of", ["schedule", "name"], ["schedule", "name", "made", "at", "one", "other"], top 27, G.behind_of, []⟩
def _root_.G.loose_in : Fn := ⟨7, 1, [2], true, (.cons (.asg 1 (.call 166 (.cons (.var 0) .nil)))
  (.cons (.asg 2 (.lst .nil))
  (.cons (.for (.tp [3, 4]) (.enum (.var 1)) (.cons (.for (.nm 5) (.seq (.sl (.var 1) .none (.some (.var 3)))) (.cons (.asg 6 (.call 147 (.cons (.call 172 (.cons (.var 0) (.cons (.var 5) .nil))) (.cons (.call 172 (.cons (.var 0) (.cons (.var 4) .nil))) .nil))))
  (.cons (.ife (.and (.cons (.cmp .ne (.var 6) (.lit (.str []))) (.cons (.cmp .notin (.var 4) (.call 176 (.cons (.var 0) (.cons (.var 5) .nil)))) .nil))) (.cons (.app 2 (.tup (.cons (.var 5) (.cons (.var 4) .nil))))
  .nil) .nil)
  .nil)))
  .nil))
  (.cons (.ret (.var 2))
  .nil)))), none⟩
def df_loose_in : Df := ⟨"loose_in", ["schedule"], ["schedule", "order", "made", "at", "other", "one", "clash"], top 28, G.loose_in, []⟩
def df__law_cell : Df := ⟨"_law_cell", ["script", "k"], ["script", "k"], top 30, G._law_cell, []⟩
def df__law_pick : Df := ⟨"_law_pick", ["script", "k", "many"], ["script", "k", "many", "drawn"], top 31, G._law_pick, []⟩
def _root_.G._law_born_255 : Fn := ⟨3, 3, [], true, (.cons (.ret (.tup (.cons (.var 0) (.cons (.var 1) (.cons (.tup (.cons (.tup (.cons (.lit (.str [98, 111, 114, 110])) (.cons (.tup (.cons (.tup (.cons (.lit (.str [104])) (.cons (.var 2) .nil))) .nil)) .nil))) .nil)) .nil)))))
  .nil), none⟩
def df__law_born : Df := ⟨"_law_born", ["name", "query", "letter"], ["name", "query", "letter"], top 32, G._law_born_255, []⟩
def _root_.G.law_256 : Fn := ⟨20, 1, [1], false, (.cons (.asgT [12, 13] (.tup (.cons (.idx (.lit (.str [65, 66, 67, 68])) (.call 7 (.cons (.var 0) (.cons (.lit (.int 0)) (.cons (.lit (.int 4)) .nil))))) (.cons (.tup (.cons (.lit (.str [])) (.cons (.lit (.str [])) (.cons (.tup .nil) .nil)))) .nil))))
  (.cons (.asg 1 (.lst (.cons (.tup (.cons (.lit (.str [119])) (.cons (.var 13) (.cons (.tup (.cons (.tup (.cons (.lit (.str [115, 104, 97, 114, 101])) (.cons (.var 12) (.cons (.lit (.int 1)) .nil)))) .nil)) .nil)))) (.cons (.call 255 (.cons (.lit (.str [114])) (.cons (.var 13) (.cons (.var 12) .nil)))) .nil))))
  (.cons (.ext 1 (.lst (.cons (.tup (.cons (.lit (.str [112])) (.cons (.var 13) (.cons (.tup (.cons (.tup (.cons (.lit (.str [97, 100, 100])) (.cons (.var 12) (.cons (.lit (.int 1)) .nil)))) .nil)) .nil)))) (.cons (.tup (.cons (.lit (.str [110])) (.cons (.var 13) (.cons (.tup (.cons (.tup (.cons (.lit (.str [103, 111, 110, 101])) .nil)) .nil)) .nil)))) .nil))))
  (.cons (.for (.nm 2) (.range (.lit (.int 4))) (.cons (.for (.nm 14) (.range (.lit (.int 4))) (.cons (.asg 17 (.ite (.or (.cons (.and (.cons (.cmp .eq (.var 2) (.lit (.int 0))) (.cons (.cmp .lt (.var 14) (.lit (.int 3))) .nil))) (.cons (.and (.cons (.cmp .eq (.var 14) (.lit (.int 0))) (.cons (.cmp .lt (.var 2) (.lit (.int 3))) .nil))) (.cons (.cmp .eq (.prim .sorted (.cons (.lst (.cons (.var 2) (.cons (.var 14) .nil))) .nil)) (.lst (.cons (.lit (.int 1)) (.cons (.lit (.int 2)) .nil)))) .nil)))) (.var 12) (.lit (.str []))))
  (.cons (.asg 19 (.bin .add (.tup (.cons (.lit (.str [120])) .nil)) (.sl (.idx (.var 1) (.var 14)) (.some (.lit (.int 1))) .none)))
  (.cons (.ife (.or (.cons (.cmp .ne (.call 147 (.cons (.idx (.var 1) (.var 2)) (.cons (.var 19) .nil))) (.var 17)) (.cons (.cmp .ne (.call 147 (.cons (.var 19) (.cons (.idx (.var 1) (.var 2)) .nil))) (.var 17)) .nil))) (.cons (.ret (.lit (.bl false)))
  .nil) .nil)
  .nil))))
  .nil))
  (.cons (.asg 3 (.idx (.lit (.str [97, 98, 99])) (.call 7 (.cons (.var 0) (.cons (.lit (.int 1)) (.cons (.lit (.int 3)) .nil))))))
  (.cons (.asg 4 (.tup (.cons (.lit (.str [118])) (.cons (.tup (.cons (.meth .join (.lit (.str [])) (.cons (.prim .sorted (.cons (.bin .add (.var 3) (.lit (.str [100]))) .nil)) .nil)) (.cons (.lit (.str [])) (.cons (.tup .nil) .nil)))) (.cons (.tup (.cons (.tup (.cons (.lit (.str [112, 117, 116])) (.cons (.var 3) (.cons (.lit (.int 1)) .nil)))) .nil)) .nil)))))
  (.cons (.asg 5 (.lst (.cons (.tup (.cons (.bin .add (.var 3) (.lit (.str [101]))) (.cons (.lit (.str [])) (.cons (.var 3) .nil)))) (.cons (.tup (.cons (.bin .add (.var 3) (.lit (.str [101]))) (.cons (.lit (.str [100])) (.cons (.lit (.str [])) .nil)))) (.cons (.tup (.cons (.lit (.str [101])) (.cons (.lit (.str [])) (.cons (.var 3) .nil)))) (.cons (.tup (.cons (.lit (.str [101])) (.cons (.var 3) (.cons (.lit (.str [])) .nil)))) (.cons (.tup (.cons (.var 3) (.cons (.lit (.str [102])) (.cons (.var 3) .nil)))) .nil)))))))
  (.cons (.for (.tp [15, 16, 17]) (.seq (.var 5)) (.cons (.asg 18 (.call 255 (.cons (.lit (.str [121])) (.cons (.tup (.cons (.meth .join (.lit (.str [])) (.cons (.prim .sorted (.cons (.var 15) .nil)) .nil)) (.cons (.var 16) (.cons (.tup .nil) .nil)))) (.cons (.var 3) .nil)))))
  (.cons (.ife (.or (.cons (.cmp .ne (.call 147 (.cons (.var 4) (.cons (.var 18) .nil))) (.var 17)) (.cons (.cmp .ne (.call 147 (.cons (.var 18) (.cons (.var 4) .nil))) (.var 17)) .nil))) (.cons (.ret (.lit (.bl false)))
  .nil) .nil)
  .nil)))
  (.cons (.asg 6 (.tup (.cons (.lit (.str [117])) (.cons (.tup (.cons (.lit (.str [100])) (.cons (.lit (.str [])) (.cons (.tup .nil) .nil)))) (.cons (.tup (.cons (.tup (.cons (.lit (.str [112, 117, 116])) (.cons (.var 3) (.cons (.lit (.int 1)) .nil)))) .nil)) .nil)))))
  (.cons (.ife (.cmp .ne (.call 147 (.cons (.var 6) (.cons (.call 255 (.cons (.lit (.str [121])) (.cons (.tup (.cons (.lit (.str [100])) (.cons (.var 3) (.cons (.tup .nil) .nil)))) (.cons (.var 3) .nil)))) .nil))) (.lit (.str []))) (.cons (.ret (.lit (.bl false)))
  .nil) .nil)
  (.cons (.ife (.cmp .ne (.call 147 (.cons (.var 6) (.cons (.call 255 (.cons (.lit (.str [121])) (.cons (.tup (.cons (.lit (.str [100])) (.cons (.lit (.str [])) (.cons (.tup .nil) .nil)))) (.cons (.var 3) .nil)))) .nil))) (.var 3)) (.cons (.ret (.lit (.bl false)))
  .nil) .nil)
  (.cons (.asg 7 (.tup (.cons (.idx (.var 1) (.lit (.int 0))) (.cons (.idx (.var 1) (.lit (.int 1))) (.cons (.idx (.var 1) (.lit (.int 3))) .nil)))))
  (.cons (.ife (.or (.cons (.cmp .ne (.call 174 (.cons (.tup (.cons (.var 7) (.cons (.tup .nil) .nil))) .nil)) (.lst (.cons (.tup (.cons (.lit (.str [119])) (.cons (.lit (.str [114])) .nil))) .nil))) (.cons (.cmp .ne (.call 177 (.cons (.tup (.cons (.var 7) (.cons (.tup .nil) .nil))) .nil)) (.lst (.cons (.tup (.cons (.lit (.str [119])) (.cons (.lit (.str [114])) .nil))) .nil))) .nil))) (.cons (.ret (.lit (.bl false)))
  .nil) .nil)
  (.cons (.ife (.cmp .ne (.call 175 (.cons (.tup (.cons (.var 7) (.cons (.tup .nil) .nil))) .nil)) (.lst (.cons (.lst (.cons (.lit (.str [119])) (.cons (.lit (.str [110])) .nil))) (.cons (.lst (.cons (.lit (.str [114])) .nil)) .nil)))) (.cons (.ret (.lit (.bl false)))
  .nil) .nil)
  (.cons (.ife (.or (.cons (.cmp .ne (.call 177 (.cons (.tup (.cons (.var 7) (.cons (.tup (.cons (.tup (.cons (.lit (.str [119])) (.cons (.lit (.str [110])) .nil))) (.cons (.tup (.cons (.lit (.str [110])) (.cons (.lit (.str [114])) .nil))) .nil))) .nil))) .nil)) (.lst .nil)) (.cons (.cmp .ne (.call 177 (.cons (.tup (.cons (.var 7) (.cons (.tup (.cons (.tup (.cons (.lit (.str [110])) (.cons (.lit (.str [114])) .nil))) .nil)) .nil))) .nil)) (.lst (.cons (.tup (.cons (.lit (.str [119])) (.cons (.lit (.str [114])) .nil))) .nil))) .nil))) (.cons (.ret (.lit (.bl false)))
  .nil) .nil)
  (.cons (.ife (.or (.cons (.cmp .ne (.call 166 (.cons (.tup (.cons (.var 7) (.cons (.tup (.cons (.tup (.cons (.lit (.str [114])) (.cons (.lit (.str [119])) .nil))) .nil)) .nil))) .nil)) (.lst (.cons (.lit (.str [114])) (.cons (.lit (.str [119])) (.cons (.lit (.str [110])) .nil))))) (.cons (.cmp .ne (.call 174 (.cons (.tup (.cons (.var 7) (.cons (.tup (.cons (.tup (.cons (.lit (.str [114])) (.cons (.lit (.str [119])) .nil))) .nil)) .nil))) .nil)) (.lst (.cons (.tup (.cons (.lit (.str [114])) (.cons (.lit (.str [119])) .nil))) .nil))) .nil))) (.cons (.ret (.lit (.bl false)))
  .nil) .nil)
  (.cons (.asg 8 (.prim .stp (.cons (.lst (.cons (.lit (.str [119])) (.cons (.lit (.str [114])) (.cons (.lit (.str [110])) .nil)))) (.cons (.idx (.lst (.cons (.lit (.int 1)) (.cons (.neg (.lit (.int 1))) .nil))) (.call 7 (.cons (.var 0) (.cons (.lit (.int 2)) (.cons (.lit (.int 2)) .nil))))) .nil))))
  (.cons (.asg 9 (.prim .tuple (.cons (.comp (.tup (.cons (.idx (.var 8) (.var 2)) (.cons (.idx (.var 8) (.bin .mod (.bin .add (.var 2) (.lit (.int 1))) (.lit (.int 3)))) .nil))) (.nm 2) (.range (.lit (.int 3))) .none) .nil)))
  (.cons (.asg 10 (.call 167 (.cons (.tup (.cons (.var 7) (.cons (.var 9) .nil))) .nil)))
  (.cons (.asg 11 (.prim .zipL (.cons (.var 10) (.cons (.bin .add (.sl (.var 10) (.some (.lit (.int 1))) .none) (.sl (.var 10) .none (.some (.lit (.int 1))))) .nil))))
  (.cons (.ret (.and (.cons (.cmp .eq (.prim .sorted (.cons (.var 10) .nil)) (.lst (.cons (.lit (.str [110])) (.cons (.lit (.str [114])) (.cons (.lit (.str [119])) .nil))))) (.cons (.cmp .eq (.prim .sorted (.cons (.var 11) .nil)) (.prim .sorted (.cons (.var 9) .nil))) .nil))))
  .nil))))))))))))))))))))), none⟩
def df_law : Df := ⟨"law", ["script"], ["script", "some", "k", "kind", "writer", "rows", "free", "trio", "names", "pairs", "ring", "gone", "letter", "any_one", "j", "need", "ban", "due", "reader", "other"], top 33, G.law_256, []⟩
def L : Tab := [(72, df_fits_kinds), (82, df_can_meet), (84, df_joined_kinds), (124, df_letters_of), (125, df_expressions_of), (126, df_access_of), (145, df_letter_clash), (146, df_can_meet_with), (147, df_clash_of), (157, df_names_of), (172, df_system_of), (164, df_is_ready), (165, df_told_and_left), (166, df_told_order), (167, df_ring_in), (173, df_is_tie), (174, df_ties_of), (175, df_waves_of), (176, df_behind_of), (177, df_loose_in), (6, df__law_cell), (7, df__law_pick), (255, df__law_born), (256, df_law)]
def cs : List (Tx × List Tx) := []
def xs : List Tx := [[73, 110, 82, 105, 110, 103], [80, 97, 114, 116, 69, 114, 114, 111, 114]]
def gv : List (Str × Gv) := [("KINDS", .str [97, 98, 99, 100, 101, 102, 103, 104]), ("LETTERS", .str [65, 66, 67, 68])]
theorem bd_fits_kinds : Bd df_fits_kinds := fun _ _ _ _ _ _ us hl => match us, hl with | [_, _], _ => rfl
theorem bd_can_meet : Bd df_can_meet := fun _ _ _ _ _ _ us hl => match us, hl with | [_, _], _ => rfl
theorem bd_joined_kinds : Bd df_joined_kinds := fun _ _ _ _ _ _ us hl => match us, hl with | [_, _], _ => rfl
theorem bd_letters_of : Bd df_letters_of := fun _ _ _ _ _ _ us hl => match us, hl with | [_], _ => rfl
theorem bd_expressions_of : Bd df_expressions_of := fun _ _ _ _ _ _ us hl => match us, hl with | [_], _ => rfl
theorem bd_access_of : Bd df_access_of := fun _ _ _ _ _ _ us hl => match us, hl with | [_], _ => rfl
theorem bd_letter_clash : Bd df_letter_clash := fun _ _ _ _ _ _ us hl => match us, hl with | [_, _, _], _ => rfl
theorem bd_can_meet_with : Bd df_can_meet_with := fun _ _ _ _ _ _ us hl => match us, hl with | [_, _, _], _ => rfl
theorem bd_clash_of : Bd df_clash_of := fun _ _ _ _ _ _ us hl => match us, hl with | [_, _], _ => rfl
theorem bd_names_of : Bd df_names_of := fun _ _ _ _ _ _ us hl => match us, hl with | [_], _ => rfl
theorem bd_system_of : Bd df_system_of := fun _ _ _ _ _ _ us hl => match us, hl with | [_, _], _ => rfl
theorem bd_is_ready : Bd df_is_ready := fun _ _ _ _ _ _ us hl => match us, hl with | [_, _, _], _ => rfl
theorem bd_told_and_left : Bd df_told_and_left := fun _ _ _ _ _ _ us hl => match us, hl with | [_], _ => rfl
theorem bd_told_order : Bd df_told_order := fun _ _ _ _ _ _ us hl => match us, hl with | [_], _ => rfl
theorem bd_ring_in : Bd df_ring_in := fun _ _ _ _ _ _ us hl => match us, hl with | [_], _ => rfl
theorem bd_is_tie : Bd df_is_tie := fun _ _ _ _ _ _ us hl => match us, hl with | [_, _, _], _ => rfl
theorem bd_ties_of : Bd df_ties_of := fun _ _ _ _ _ _ us hl => match us, hl with | [_], _ => rfl
theorem bd_waves_of : Bd df_waves_of := fun _ _ _ _ _ _ us hl => match us, hl with | [_], _ => rfl
theorem bd_behind_of : Bd df_behind_of := fun _ _ _ _ _ _ us hl => match us, hl with | [_, _], _ => rfl
theorem bd_loose_in : Bd df_loose_in := fun _ _ _ _ _ _ us hl => match us, hl with | [_], _ => rfl
theorem bd__law_cell : Bd df__law_cell := fun _ _ _ _ _ _ us hl => match us, hl with | [_, _], _ => rfl
theorem bd__law_pick : Bd df__law_pick := fun _ _ _ _ _ _ us hl => match us, hl with | [_, _, _], _ => rfl
theorem bd__law_born : Bd df__law_born := fun _ _ _ _ _ _ us hl => match us, hl with | [_, _, _], _ => rfl
theorem bd_law : Bd df_law := fun _ _ _ _ _ _ us hl => match us, hl with | [_], _ => rfl
theorem bd (d : Df) (h : d ∈ L.ds) : Bd d := by
  unfold L Tab.ds at h
  simp only [List.map_cons, List.map_nil, List.mem_cons, List.not_mem_nil, or_false] at h
  rcases h with rfl | rfl | rfl | rfl | rfl | rfl | rfl | rfl | rfl | rfl | rfl | rfl | rfl | rfl | rfl | rfl | rfl | rfl | rfl | rfl | rfl | rfl | rfl | rfl
  · exact bd_fits_kinds
  · exact bd_can_meet
  · exact bd_joined_kinds
  · exact bd_letters_of
  · exact bd_expressions_of
  · exact bd_access_of
  · exact bd_letter_clash
  · exact bd_can_meet_with
  · exact bd_clash_of
  · exact bd_names_of
  · exact bd_system_of
  · exact bd_is_ready
  · exact bd_told_and_left
  · exact bd_told_order
  · exact bd_ring_in
  · exact bd_is_tie
  · exact bd_ties_of
  · exact bd_waves_of
  · exact bd_behind_of
  · exact bd_loose_in
  · exact bd__law_cell
  · exact bd__law_pick
  · exact bd__law_born
  · exact bd_law
abbrev Rw : PySem.W.OpenRow := PySem.W.OpenLaw.row PySem.Challenge.rw_partworld_k92_whole_clashes_by_hand
def loose : List Str := (["KINDS", "LETTERS", "PartError", "InRing", "fits_kinds", "can_meet", "joined_kinds", "letters_of", "expressions_of", "access_of", "letter_clash", "can_meet_with", "clash_of", "names_of", "system_of", "is_ready", "told_and_left", "told_order", "ring_in", "is_tie", "ties_of", "waves_of", "behind_of", "loose_in"] : List Str) ++ (["_law_cell", "_law_pick", "_law_born"] : List Str)
def lawAt : Nat := 33
def lawIx : Nat := 256
theorem chk : L.ds.all (fun d => chkD ⟨nmOf L, glOf gv, xs, nm2Of L, cs, mtOf L⟩ (foOf L) d) = true := by decide +kernel
end Q92

/-! text PwL2 -/
/-! the second language's evaluator, equation by equation -/
namespace Pw
/-- what is seen of one thing -/
def seeR (Ω : Om) (d : D) : R D := ofO (snap 8 Ω d)
def plR (d : D) : R D := if d.pl then .ok d else .bad
theorem get_seen (Ω : Om) (ρ : Sl) (i : Nat) : get (seen Ω ρ) i = (get ρ i).bind (seeR Ω) := by
  unfold get seen
  rw [List.getElem?_map]
  cases e : ρ[i]? with
  | none => rfl
  | some o =>
    cases o with
    | none => rfl
    | some d =>
      show (match some (snap 8 Ω d) with
        | some (some d) => R.ok d
        | _ => .bad) = ofO (snap 8 Ω d)
      cases snap 8 Ω d <;> rfl
theorem get_pures (ρ : Sl) (i : Nat) : get (pures ρ) i = (get ρ i).bind plR := by
  unfold get pures
  rw [List.getElem?_map]
  cases e : ρ[i]? with
  | none => rfl
  | some o =>
    cases o with
    | none => rfl
    | some d =>
      show (match some (if d.pl then some d else none) with
        | some (some d) => R.ok d
        | _ => .bad) = plR d
      unfold plR
      cases d.pl <;> rfl
theorem see_pl {Ω : Om} {d : D} (h : d.pl = true) : seeR Ω d = .ok d := by
  unfold seeR snap
  rw [if_pos h]
  rfl
theorem plR_pl {d : D} (h : d.pl = true) : plR d = .ok d := by
  unfold plR
  rw [if_pos h]
@[simp] theorem pl_non : D.pl .non = true := rfl
@[simp] theorem pl_bl (b : Bool) : (D.bl b).pl = true := rfl
@[simp] theorem pl_int (b : Int) : (D.int b).pl = true := rfl
@[simp] theorem pl_str (b : Tx) : (D.str b).pl = true := rfl
@[simp] theorem pl_lst (b : List D) : (D.lst b).pl = true := rfl
@[simp] theorem pl_exc (b : Tx) : (D.exc b).pl = true := rfl
@[simp] theorem pl_dct (a b : List D) : (D.dct a b).pl = true := rfl
@[simp] theorem pl_loc (b : Nat) : (D.loc b).pl = false := rfl
@[simp] theorem pl_tup (b : List D) : (D.tup b).pl = D.plL b := rfl
@[simp] theorem plL_nil : D.plL [] = true := rfl
@[simp] theorem plL_cons (d : D) (b : List D) : D.plL (d :: b) = (d.pl && D.plL b) := rfl
@[simp] theorem see_non (Ω : Om) : seeR Ω .non = .ok .non := rfl
@[simp] theorem see_bl (Ω : Om) (b : Bool) : seeR Ω (.bl b) = .ok (.bl b) := rfl
@[simp] theorem see_int (Ω : Om) (b : Int) : seeR Ω (.int b) = .ok (.int b) := rfl
@[simp] theorem see_str (Ω : Om) (b : Tx) : seeR Ω (.str b) = .ok (.str b) := rfl
@[simp] theorem see_lst (Ω : Om) (b : List D) : seeR Ω (.lst b) = .ok (.lst b) := rfl
@[simp] theorem see_exc (Ω : Om) (b : Tx) : seeR Ω (.exc b) = .ok (.exc b) := rfl
@[simp] theorem plR_non : plR .non = .ok .non := rfl
@[simp] theorem plR_bl (b : Bool) : plR (.bl b) = .ok (.bl b) := rfl
@[simp] theorem plR_int (b : Int) : plR (.int b) = .ok (.int b) := rfl
@[simp] theorem plR_str (b : Tx) : plR (.str b) = .ok (.str b) := rfl
@[simp] theorem plR_lst (b : List D) : plR (.lst b) = .ok (.lst b) := rfl
@[simp] theorem plR_exc (b : Tx) : plR (.exc b) = .ok (.exc b) := rfl
@[simp] theorem noC_non : D.noC .non = true := rfl
@[simp] theorem noC_bl (b : Bool) : (D.bl b).noC = true := rfl
@[simp] theorem noC_int (b : Int) : (D.int b).noC = true := rfl
@[simp] theorem noC_str (b : Tx) : (D.str b).noC = true := rfl
@[simp] theorem noC_tup (b : List D) : (D.tup b).noC = D.noCL b := rfl
@[simp] theorem noCL_nil : D.noCL [] = true := rfl
@[simp] theorem noCL_cons (d : D) (b : List D) : D.noCL (d :: b) = (d.noC && D.noCL b) := rfl
theorem noCL_all : ∀ ds : List D, (∀ d, d ∈ ds → d.noC = true) → D.noCL ds = true
  | [], _ => rfl
  | d :: ds, h => by
    rw [noCL_cons, h d (List.mem_cons_self ..), noCL_all ds fun x hx => h x (List.mem_cons_of_mem _ hx)]
    rfl
theorem plL_all : ∀ ds : List D, (∀ d, d ∈ ds → d.pl = true) → D.plL ds = true
  | [], _ => rfl
  | d :: ds, h => by
    rw [plL_cons, h d (List.mem_cons_self ..), plL_all ds fun x hx => h x (List.mem_cons_of_mem _ hx)]
    rfl
theorem mapO_pl {k : Nat} {Ω : Om} : ∀ {ds : List D}, D.plL ds = true → mapO (snap (k + 1) Ω) ds = some ds
  | [], _ => rfl
  | d :: ds, h => by
    rw [plL_cons, Bool.and_eq_true] at h
    have e : snap (k + 1) Ω d = some d := by unfold snap; rw [if_pos h.1]
    unfold mapO
    rw [e]
    show (mapO (snap (k + 1) Ω) ds).map _ = _
    rw [mapO_pl h.2]
    rfl
section
variable (c : Nat → List D → R D) (ρ : Sl) (Ω : Om)
theorem w_pu_ (e : E) : ev2 c (.pu e) ρ Ω = liftR Ω (evE c e (pures ρ)) := id rfl
theorem w_rd_ (e : E) : ev2 c (.rd e) ρ Ω = liftR Ω ((evE c e (seen Ω ρ)).bind fun d => if d.noC then .ok d else .bad) := id rfl
theorem w_nw_ (e : E) : ev2 c (.nw e) ρ Ω = newR (evE c e (seen Ω ρ)) Ω := id rfl
theorem w_vr_ (i : Nat) : ev2 c (.vr i) ρ Ω = liftR Ω (get ρ i) := id rfl
theorem w_at_ (o k : E2) : ev2 c (.at o k) ρ Ω = (ev2 c o ρ Ω).bind fun x Ω1 => (ev2 c k ρ Ω1).bind fun y Ω2 => liftR Ω2 (atR Ω2 x y) := id rfl
theorem w_fl_ (cs : List Tx) (o : E2) (f : Tx) : ev2 c (.fl cs o f) ρ Ω = (ev2 c o ρ Ω).bind fun x Ω1 => liftR Ω1 (flR Ω1 cs f x) := id rfl
theorem w_cl_ (f : Nat) (es : Es2) : ev2 c (.cl f es) ρ Ω = (evs2 c es ρ Ω).bind fun ds Ω1 => decX (c f (.lst Ω1 :: ds)) := id rfl
theorem w_mt_ (cn : Tx) (f : Nat) (m : Tx) (o : E2) (es : Es2) : ev2 c (.mt cn f m o es) ρ Ω = (ev2 c o ρ Ω).bind fun x Ω1 => if mtOk Ω1 cn m x then (evs2 c es ρ Ω1).bind fun ds Ω2 => decX (c f (.lst Ω2 :: x :: ds)) else .bad := id rfl
theorem w_mk_ (n : Tx) (f : Nat) (es : Es2) : ev2 c (.mk n f es) ρ Ω = (evs2 c es ρ Ω).bind fun ds Ω1 => mkR Ω1.length (decX (c f (.lst (Ω1 ++ [.ins n [] []]) :: .loc Ω1.length :: ds))) := id rfl
theorem w_tp_ (es : Es2) : ev2 c (.tp es) ρ Ω = (evs2 c es ρ Ω).bind fun ds Ω1 => .ok (.tup ds) Ω1 := id rfl
theorem w_ls_ (es : Es2) : ev2 c (.ls es) ρ Ω = (evs2 c es ρ Ω).bind fun ds Ω1 => .ok (.loc Ω1.length) (Ω1 ++ [.lst ds]) := id rfl
theorem w_cp_ (op : Cm) (a b : E2) : ev2 c (.cp op a b) ρ Ω = (ev2 c a ρ Ω).bind fun x Ω1 => (ev2 c b ρ Ω1).bind fun y Ω2 => if x.pl && y.pl then liftR Ω2 (mapR .bl (cmpB op x y)) else .bad := id rfl
theorem w_pp_ (o : E2) : ev2 c (.pp o) ρ Ω = (ev2 c o ρ Ω).bind fun x Ω1 => popR2 Ω1 x := id rfl
def notX (x : D) (Ω : Om) : XR D := match x with
  | .bl b => .ok (.bl (!b)) Ω
  | _ => .bad
@[simp] theorem notX_bl (b : Bool) (Ω : Om) : notX (.bl b) Ω = .ok (.bl (!b)) Ω := rfl
theorem w_nt_ (a : E2) : ev2 c (.nt a) ρ Ω = (ev2 c a ρ Ω).bind notX := by
  show ((ev2 c a ρ Ω).bind fun x Ω1 => match x with
    | .bl b => XR.ok (D.bl (!b)) Ω1
    | _ => .bad) = _
  rfl
def orX (f : Om → XR D) (x : D) (Ω : Om) : XR D := match x with
  | .bl true => .ok (.bl true) Ω
  | .bl false => f Ω
  | _ => .bad
@[simp] theorem orX_t (f : Om → XR D) (Ω : Om) : orX f (.bl true) Ω = .ok (.bl true) Ω := rfl
@[simp] theorem orX_f (f : Om → XR D) (Ω : Om) : orX f (.bl false) Ω = f Ω := rfl
theorem w_orr_ (a b : E2) : ev2 c (.orr a b) ρ Ω = (ev2 c a ρ Ω).bind (orX fun Ω1 => ev2 c b ρ Ω1) := by
  show ((ev2 c a ρ Ω).bind fun x Ω1 => match x with
    | .bl true => XR.ok (D.bl true) Ω1
    | .bl false => ev2 c b ρ Ω1
    | _ => .bad) = _
  rfl
theorem w_es0_ : evs2 c .nil ρ Ω = .ok [] Ω := id rfl
theorem w_es_ (e : E2) (es : Es2) : evs2 c (.cons e es) ρ Ω = (ev2 c e ρ Ω).bind fun d Ω1 => (evs2 c es ρ Ω1).bind fun ds Ω2 => .ok (d :: ds) Ω2 := id rfl
def seqS2 (r : Fl2) (f : Sl → Om → Fl2) : Fl2 := match r with
  | .nx ρ Ω => f ρ Ω
  | r => r
@[simp] theorem seqS2_nx (ρ : Sl) (Ω : Om) (f : Sl → Om → Fl2) : seqS2 (.nx ρ Ω) f = f ρ Ω := rfl
@[simp] theorem seqS2_ret (d : D) (Ω : Om) (f : Sl → Om → Fl2) : seqS2 (.ret d Ω) f = .ret d Ω := rfl
@[simp] theorem seqS2_ex (x : Tx) (ρ : Sl) (Ω : Om) (f : Sl → Om → Fl2) : seqS2 (.ex x ρ Ω) f = .ex x ρ Ω := rfl
@[simp] theorem seqS2_brk (ρ : Sl) (Ω : Om) (f : Sl → Om → Fl2) : seqS2 (.brk ρ Ω) f = .brk ρ Ω := rfl
@[simp] theorem seqS2_ct (ρ : Sl) (Ω : Om) (f : Sl → Om → Fl2) : seqS2 (.ct ρ Ω) f = .ct ρ Ω := rfl
@[simp] theorem seqS2_bad (f : Sl → Om → Fl2) : seqS2 .bad f = .bad := rfl
theorem q_nil_ : evSs2 c .nil ρ Ω = .nx ρ Ω := id rfl
theorem q_cons_ (s : S2) (ss : Ss2) : evSs2 c (.cons s ss) ρ Ω = seqS2 (evS2 c s ρ Ω) (evSs2 c ss) := by
  show (match evS2 c s ρ Ω with
    | .nx ρ' Ω' => evSs2 c ss ρ' Ω'
    | r => r) = _
  cases evS2 c s ρ Ω <;> rfl
theorem q_asg_ (i : Nat) (e : E2) : evS2 c (.asg i e) ρ Ω = thenX ρ (ev2 c e ρ Ω) fun d Ω1 => .nx (ρ.set i (some d)) Ω1 := id rfl
def bindX (is : List Nat) (ρ : Sl) (d : D) (Ω : Om) : Fl2 := match bindTg (.tp is) d ρ with
  | some ρ' => .nx ρ' Ω
  | none => .bad
theorem q_asgT_ (is : List Nat) (e : E2) : evS2 c (.asgT is e) ρ Ω = thenX ρ (ev2 c e ρ Ω) (bindX is ρ) := id rfl
theorem q_ex_ (e : E2) : evS2 c (.ex e) ρ Ω = thenX ρ (ev2 c e ρ Ω) fun _ Ω1 => .nx ρ Ω1 := id rfl
theorem q_ret_ (e : E2) : evS2 c (.ret e) ρ Ω = thenX ρ (ev2 c e ρ Ω) fun d Ω1 => .ret d Ω1 := id rfl
theorem q_ife_ (t : E) (a b : Ss2) : evS2 c (.ife t a b) ρ Ω = thenX ρ (liftR Ω (tstE c t ρ Ω)) fun k _ => if k then evSs2 c a ρ Ω else evSs2 c b ρ Ω := id rfl
theorem q_tst_ (t : E) : tstE c t ρ Ω = mapR D.truth ((evE c t (seen Ω ρ)).bind noX) := id rfl
def ifX (f g : Om → Fl2) (d : D) (Ω : Om) : Fl2 := match d with
  | .bl k => if k then f Ω else g Ω
  | _ => .bad
@[simp] theorem ifX_bl (f g : Om → Fl2) (k : Bool) (Ω : Om) : ifX f g (.bl k) Ω = if k then f Ω else g Ω := rfl
theorem q_ifx_ (t : E2) (a b : Ss2) : evS2 c (.ifx t a b) ρ Ω = thenX ρ (ev2 c t ρ Ω) (ifX (fun Ω1 => evSs2 c a ρ Ω1) fun Ω1 => evSs2 c b ρ Ω1) := by
  show thenX ρ (ev2 c t ρ Ω) (fun d Ω1 => match d with
    | .bl k => if k then evSs2 c a ρ Ω1 else evSs2 c b ρ Ω1
    | _ => .bad) = _
  rfl
def loopF2 (tg : Tg) (body : Ss2) (x : D) (ρ' : Sl) (Ω' : Om) : Fl2 := match bindTg tg x ρ' with
  | some ρ'' => evSs2 c body ρ'' Ω'
  | none => .bad
theorem loopF2_nm (i : Nat) (body : Ss2) (x : D) (ρ' : Sl) (Ω' : Om) : loopF2 c (.nm i) body x ρ' Ω' = evSs2 c body (ρ'.set i (some x)) Ω' := rfl
theorem q_for_ (tg : Tg) (it : Itr) (body : Ss2) : evS2 c (.for tg it body) ρ Ω = thenX ρ (liftR Ω (evI c it (pures ρ))) fun items _ => forL2 (loopF2 c tg body) items ρ Ω := id rfl
theorem q_forR_ (tg : Tg) (e : E) (body : Ss2) : evS2 c (.forR tg e body) ρ Ω = thenX ρ (liftR Ω (newL (evE c e (seen Ω ρ)))) fun items _ => forL2 (loopF2 c tg body) items ρ Ω := id rfl
theorem q_whl_ (n : Nat) (t : E) (body : Ss2) : evS2 c (.whl n t body) ρ Ω = whlL2 (tstE c t) (evSs2 c body) n ρ Ω := id rfl
theorem q_whx_ (n : Nat) (t : E2) (body : Ss2) : evS2 c (.whx n t body) ρ Ω = whxL2 (ev2 c t) (evSs2 c body) n ρ Ω := id rfl
theorem q_app_ (o e : E2) : evS2 c (.app o e) ρ Ω = thenX ρ (ev2 c o ρ Ω) fun x Ω1 => if isL2 Ω1 x then thenX ρ (ev2 c e ρ Ω1) fun d Ω2 => nxO ρ (appR2 Ω2 x d) else .bad := id rfl
theorem q_put_ (o k e : E2) : evS2 c (.put o k e) ρ Ω = thenX ρ (ev2 c e ρ Ω) fun d Ω1 => thenX ρ (ev2 c o ρ Ω1) fun x Ω2 => thenX ρ (ev2 c k ρ Ω2) fun y Ω3 => nxO ρ (putR2 Ω3 x y d) := id rfl
theorem q_fset_ (cs : List Tx) (o : E2) (f : Tx) (e : E2) : evS2 c (.fset cs o f e) ρ Ω = thenX ρ (ev2 c e ρ Ω) fun d Ω1 => thenX ρ (ev2 c o ρ Ω1) fun x Ω2 => nxO ρ (fsetR2 Ω2 cs f x d) := id rfl
theorem q_raise_ (t : PySem.Str) (x : Tx) : evS2 c (.raise t x) ρ Ω = .ex x ρ Ω := id rfl
theorem q_brk_ : evS2 c .brk ρ Ω = .brk ρ Ω := id rfl
theorem q_ct_ : evS2 c .ct ρ Ω = .ct ρ Ω := id rfl
theorem q_pass_ : evS2 c .pass ρ Ω = .nx ρ Ω := id rfl
def keepX (ys : List Tx) (x : Tx) (i k : Nat) : Fl2 → Fl2
  | .ex y ρ' Ω' => if ys.contains y then (if subX y x then .nx ((ρ'.set k (some (.exc y))).set i none) Ω' else .ex y ρ' Ω') else .bad
  | r => r
@[simp] theorem keepX_nx (ys : List Tx) (x : Tx) (i k : Nat) (ρ : Sl) (Ω : Om) : keepX ys x i k (.nx ρ Ω) = .nx ρ Ω := rfl
@[simp] theorem keepX_ret (ys : List Tx) (x : Tx) (i k : Nat) (d : D) (Ω : Om) : keepX ys x i k (.ret d Ω) = .ret d Ω := rfl
@[simp] theorem keepX_bad (ys : List Tx) (x : Tx) (i k : Nat) : keepX ys x i k .bad = .bad := rfl
@[simp] theorem keepX_ex (ys : List Tx) (x : Tx) (i k : Nat) (y : Tx) (ρ' : Sl) (Ω' : Om) : keepX ys x i k (.ex y ρ' Ω') = if ys.contains y then (if subX y x then .nx ((ρ'.set k (some (.exc y))).set i none) Ω' else .ex y ρ' Ω') else .bad := rfl
theorem q_tryK_ (b : Ss2) (ys : List Tx) (x : Tx) (i k : Nat) : evS2 c (.tryK b ys x i k) ρ Ω = keepX ys x i k (evSs2 c b ρ Ω) := by
  unfold evS2 keepX
  cases evSs2 c b ρ Ω <;> rfl
end
@[simp] theorem finX_nx (ρ : Sl) (Ω : Om) : finX (.nx ρ Ω) = .ok .non Ω := rfl
@[simp] theorem finX_ret (d : D) (Ω : Om) : finX (.ret d Ω) = .ok d Ω := rfl
@[simp] theorem finX_ex (x : Tx) (ρ : Sl) (Ω : Om) : finX (.ex x ρ Ω) = .ex x Ω := rfl
/-- a def by places -/
theorem callW {T : Nat → Option Fn} {n f : Nat} {fn : Fn} {b : Ss2} {ds : List D} {Ω : Om} (h : T f = some fn) (hb : fn.two = some (true, b)) (hl : ds.length = fn.ps) : callN T (n + 1) f (.lst Ω :: ds) = encX (finX (evSs2 (callN T n) b (ds.map some ++ List.replicate (fn.n - fn.ps) none) Ω)) := by
  rw [callN_eq h]
  unfold runFn
  rw [hb]
  show encX (runW _ _ _ _ _) = _
  unfold runW
  rw [if_pos hl]
/-- a def as data -/
theorem callP {T : Nat → Option Fn} {n f : Nat} {fn : Fn} {b : Ss2} {ds : List D} (h : T f = some fn) (hb : fn.two = some (false, b)) (hl : ds.length = fn.ps) : callN T (n + 1) f ds = finP (finX (evSs2 (callN T n) b (ds.map some ++ List.replicate (fn.n - fn.ps) none) [])) := by
  rw [callN_eq h]
  unfold runFn
  rw [hb]
  show finP (runW _ _ _ _ _) = _
  unfold runW
  rw [if_pos hl]
@[simp] theorem dec_ok (d : D) (Ω : Om) : decX (.ok (.tup [d, .lst Ω])) = .ok d Ω := by
  cases d <;> rfl
@[simp] theorem enc_ok (d : D) (Ω : Om) : encX (.ok d Ω) = .ok (.tup [d, .lst Ω]) := rfl
@[simp] theorem enc_ex (x : Tx) (Ω : Om) : encX (.ex x Ω) = .ok (.tup [.exc x, .lst Ω, .non]) := rfl
@[simp] theorem dec_ex (x : Tx) (Ω : Om) : decX (.ok (.tup [.exc x, .lst Ω, .non])) = .ex x Ω := rfl
@[simp] theorem mkR_ok (l : Nat) (Ω : Om) : mkR l (.ok .non Ω) = .ok (.loc l) Ω := rfl
@[simp] theorem finP_ok (d : D) (Ω : Om) : finP (.ok d Ω) = ofO (snapR 8 Ω d) := rfl
@[simp] theorem finP_ex (x : Tx) (Ω : Om) : finP (.ex x Ω) = .ex x := rfl
@[simp] theorem snapR_bl (Ω : Om) (b : Bool) : snapR 8 Ω (.bl b) = some (.bl b) := rfl
/-- loops by places -/
theorem forL2_inv {A : Type} {f : D → Sl → Om → Fl2} {enc : A → D} {P : List A → Sl → Om → Prop} : ∀ (xs pre : List A), (∀ p x rest ρ Ω, pre ++ xs = p ++ x :: rest → P p ρ Ω → ∃ ρ' Ω', (f (enc x) ρ Ω = .nx ρ' Ω' ∨ f (enc x) ρ Ω = .ct ρ' Ω') ∧ P (p ++ [x]) ρ' Ω') → ∀ ρ Ω, P pre ρ Ω → ∃ ρ' Ω', forL2 f (xs.map enc) ρ Ω = .nx ρ' Ω' ∧ P (pre ++ xs) ρ' Ω'
  | [], pre, _, ρ, Ω, hp => ⟨ρ, Ω, rfl, by simpa using hp⟩
  | x :: xs, pre, h, ρ, Ω, hp => by
    obtain ⟨ρ1, Ω1, e, p1⟩ := h pre x xs ρ Ω rfl hp
    obtain ⟨ρ2, Ω2, e2, p2⟩ := forL2_inv xs (pre ++ [x]) (fun p y rest ρ Ω q => h p y rest ρ Ω (by simpa using q)) ρ1 Ω1 p1
    refine ⟨ρ2, Ω2, ?_, by simpa using p2⟩
    show forL2 f (enc x :: xs.map enc) ρ Ω = _
    unfold forL2
    rcases e with e | e
    · rw [e]; exact e2
    · rw [e]; exact e2
theorem loop2_inv {A : Type} {f : D → Sl → Om → Fl2} {enc : A → D} (P : List A → Sl → Om → Prop) (xs : List A) (h : ∀ p x rest ρ Ω, xs = p ++ x :: rest → P p ρ Ω → ∃ ρ' Ω', (f (enc x) ρ Ω = .nx ρ' Ω' ∨ f (enc x) ρ Ω = .ct ρ' Ω') ∧ P (p ++ [x]) ρ' Ω') (ρ : Sl) (Ω : Om) (hp : P [] ρ Ω) : ∃ ρ' Ω', forL2 f (xs.map enc) ρ Ω = .nx ρ' Ω' ∧ P xs ρ' Ω' := by
  have q := forL2_inv (P := P) xs [] (fun p x rest ρ Ω e => h p x rest ρ Ω (by simpa using e)) ρ Ω hp
  simpa using q
/-- a text, statement by statement -/
def nthS2 : Nat → Ss2 → S2
  | 0, .cons s _ => s
  | n + 1, .cons _ ss => nthS2 n ss
  | _, .nil => .pass
def forB2 : S2 → Ss2
  | .for _ _ b => b
  | .forR _ _ b => b
  | .whl _ _ b => b
  | .whx _ _ b => b
  | _ => .nil
def bodyW (fn : Fn) : Ss2 := match fn.two with
  | some (_, b) => b
  | none => .nil
def loopB2 (fn : Fn) (i : Nat) : Ss2 := forB2 (nthS2 i (bodyW fn))
def takeS2 : Nat → Ss2 → Ss2
  | 0, _ => .nil
  | n + 1, .cons s ss => .cons s (takeS2 n ss)
  | _, .nil => .nil
def dropS2 : Nat → Ss2 → Ss2
  | 0, ss => ss
  | n + 1, .cons _ ss => dropS2 n ss
  | _, .nil => .nil
theorem cut_two (c : Nat → List D → R D) : ∀ (k : Nat) (ss : Ss2) (ρ : Sl) (Ω : Om), evSs2 c ss ρ Ω = seqS2 (evSs2 c (takeS2 k ss) ρ Ω) (evSs2 c (dropS2 k ss))
  | 0, ss, ρ, Ω => rfl
  | k + 1, .nil, ρ, Ω => rfl
  | k + 1, .cons s ss, ρ, Ω => by
    show evSs2 c (.cons s ss) ρ Ω = seqS2 (evSs2 c (.cons s (takeS2 k ss)) ρ Ω) (evSs2 c (dropS2 k ss))
    rw [q_cons_, q_cons_]
    cases e : evS2 c s ρ Ω with
    | nx ρ' Ω' =>
      rw [seqS2_nx, seqS2_nx]
      exact cut_two c k ss ρ' Ω'
    | _ => rfl
end Pw

/-! text Q92m -/
/-! k92: the cases, computed -/
namespace Q92
open PySem PySem.Spec PyProof.Rows L2 Pw
abbrev C : Nat → List D → R D := callN (foOf L) 12
def B : Ss := G.law_256.body
def r1 (sc : D) (p : Nat) : Sl := [some sc, none, none, none, none, none, none, none, none, none, none, none, some (.str [65 + p]), some (.tup [.str [], .str [], .tup []]), none, none, none, none, none, none]
def nxO : Fl → Sl
  | .nx ρ => ρ
  | _ => []
def anyQ : D := .tup [.str [], .str [], .tup []]
def bornD (nm q l : D) : D := .tup [nm, q, .tup [.tup [.str [98, 111, 114, 110], .tup [.tup [.str [104], l]]]]]
def sW (l : D) : D := .tup [.str [119], anyQ, .tup [.tup [.str [115, 104, 97, 114, 101], l, .int 1]]]
def sR (l : D) : D := bornD (.str [114]) anyQ l
def sP (l : D) : D := .tup [.str [112], anyQ, .tup [.tup [.str [97, 100, 100], l, .int 1]]]
def sN : D := .tup [.str [110], anyQ, .tup [.tup [.str [103, 111, 110, 101]]]]
def sX : D := .tup [.str [120], anyQ, .tup [.tup [.str [103, 111, 110, 101]]]]
def e2 (sc : D) (p : Nat) : Sl := [some sc, some (.lst [sW (.str [65 + p]), sR (.str [65 + p]), sP (.str [65 + p]), sN]), some (.int 3), none, none, none, none, none, none, none, none, none, some (.str [65 + p]), some anyQ, some (.int 3), none, none, some (.str []), none, some sX]
def putD (nm q k : D) : D := .tup [nm, q, .tup [.tup [.str [112, 117, 116], k, .int 1]]]
def e3 (sc : D) (p q : Nat) : Sl := [some sc, some (.lst [sW (.str [65 + p]), sR (.str [65 + p]), sP (.str [65 + p]), sN]), some (.int 3), some (.str [97 + q]), some (putD (.str [118]) (.tup [.str [97 + q, 100], .str [], .tup []]) (.str [97 + q])),
  some (.lst [.tup [.str [97 + q, 101], .str [], .str [97 + q]], .tup [.str [97 + q, 101], .str [100], .str []], .tup [.str [101], .str [], .str [97 + q]], .tup [.str [101], .str [97 + q], .str []], .tup [.str [97 + q], .str [102], .str [97 + q]]]),
  some (putD (.str [117]) (.tup [.str [100], .str [], .tup []]) (.str [97 + q])), some (.tup [sW (.str [65 + p]), sR (.str [65 + p]), sN]), none, none, none, none, some (.str [65 + p]), some anyQ, some (.int 3), some (.str [97 + q]), some (.str [102]), some (.str [97 + q]), some (bornD (.str [121]) (.tup [.str [97 + q], .str [102], .tup []]) (.str [97 + q])), some sX]
def stp3 : Nat → D
  | 0 => .lst [.str [119], .str [114], .str [110]]
  | _ => .lst [.str [110], .str [114], .str [119]]
theorem m1_0 (sc : D) : evSs C (takeS 3 (dropS 1 B)) (r1 sc 0) = .nx (e2 sc 0) ∧ Pw.get (e2 sc 0) 0 = .ok sc := ⟨by kernel_rfl, by kernel_rfl⟩
theorem m1_1 (sc : D) : evSs C (takeS 3 (dropS 1 B)) (r1 sc 1) = .nx (e2 sc 1) ∧ Pw.get (e2 sc 1) 0 = .ok sc := ⟨by kernel_rfl, by kernel_rfl⟩
theorem m1_2 (sc : D) : evSs C (takeS 3 (dropS 1 B)) (r1 sc 2) = .nx (e2 sc 2) ∧ Pw.get (e2 sc 2) 0 = .ok sc := ⟨by kernel_rfl, by kernel_rfl⟩
theorem m1_3 (sc : D) : evSs C (takeS 3 (dropS 1 B)) (r1 sc 3) = .nx (e2 sc 3) ∧ Pw.get (e2 sc 3) 0 = .ok sc := ⟨by kernel_rfl, by kernel_rfl⟩
theorem m2_00 (sc : D) : evSs C (takeS 11 (dropS 5 B)) ((e2 sc 0).set 3 (some (.str [97 + 0]))) = .nx (e3 sc 0 0) ∧ Pw.get (e3 sc 0 0) 0 = .ok sc := ⟨by kernel_rfl, by kernel_rfl⟩
theorem m2_01 (sc : D) : evSs C (takeS 11 (dropS 5 B)) ((e2 sc 0).set 3 (some (.str [97 + 1]))) = .nx (e3 sc 0 1) ∧ Pw.get (e3 sc 0 1) 0 = .ok sc := ⟨by kernel_rfl, by kernel_rfl⟩
theorem m2_02 (sc : D) : evSs C (takeS 11 (dropS 5 B)) ((e2 sc 0).set 3 (some (.str [97 + 2]))) = .nx (e3 sc 0 2) ∧ Pw.get (e3 sc 0 2) 0 = .ok sc := ⟨by kernel_rfl, by kernel_rfl⟩
theorem m2_10 (sc : D) : evSs C (takeS 11 (dropS 5 B)) ((e2 sc 1).set 3 (some (.str [97 + 0]))) = .nx (e3 sc 1 0) ∧ Pw.get (e3 sc 1 0) 0 = .ok sc := ⟨by kernel_rfl, by kernel_rfl⟩
theorem m2_11 (sc : D) : evSs C (takeS 11 (dropS 5 B)) ((e2 sc 1).set 3 (some (.str [97 + 1]))) = .nx (e3 sc 1 1) ∧ Pw.get (e3 sc 1 1) 0 = .ok sc := ⟨by kernel_rfl, by kernel_rfl⟩
theorem m2_12 (sc : D) : evSs C (takeS 11 (dropS 5 B)) ((e2 sc 1).set 3 (some (.str [97 + 2]))) = .nx (e3 sc 1 2) ∧ Pw.get (e3 sc 1 2) 0 = .ok sc := ⟨by kernel_rfl, by kernel_rfl⟩
theorem m2_20 (sc : D) : evSs C (takeS 11 (dropS 5 B)) ((e2 sc 2).set 3 (some (.str [97 + 0]))) = .nx (e3 sc 2 0) ∧ Pw.get (e3 sc 2 0) 0 = .ok sc := ⟨by kernel_rfl, by kernel_rfl⟩
theorem m2_21 (sc : D) : evSs C (takeS 11 (dropS 5 B)) ((e2 sc 2).set 3 (some (.str [97 + 1]))) = .nx (e3 sc 2 1) ∧ Pw.get (e3 sc 2 1) 0 = .ok sc := ⟨by kernel_rfl, by kernel_rfl⟩
theorem m2_22 (sc : D) : evSs C (takeS 11 (dropS 5 B)) ((e2 sc 2).set 3 (some (.str [97 + 2]))) = .nx (e3 sc 2 2) ∧ Pw.get (e3 sc 2 2) 0 = .ok sc := ⟨by kernel_rfl, by kernel_rfl⟩
theorem m2_30 (sc : D) : evSs C (takeS 11 (dropS 5 B)) ((e2 sc 3).set 3 (some (.str [97 + 0]))) = .nx (e3 sc 3 0) ∧ Pw.get (e3 sc 3 0) 0 = .ok sc := ⟨by kernel_rfl, by kernel_rfl⟩
theorem m2_31 (sc : D) : evSs C (takeS 11 (dropS 5 B)) ((e2 sc 3).set 3 (some (.str [97 + 1]))) = .nx (e3 sc 3 1) ∧ Pw.get (e3 sc 3 1) 0 = .ok sc := ⟨by kernel_rfl, by kernel_rfl⟩
theorem m2_32 (sc : D) : evSs C (takeS 11 (dropS 5 B)) ((e2 sc 3).set 3 (some (.str [97 + 2]))) = .nx (e3 sc 3 2) ∧ Pw.get (e3 sc 3 2) 0 = .ok sc := ⟨by kernel_rfl, by kernel_rfl⟩
theorem m3_000 (sc : D) : finR (evSs C (dropS 17 B) ((e3 sc 0 0).set 8 (some (stp3 0)))) = .ok (.bl true) := by kernel_rfl
theorem m3_001 (sc : D) : finR (evSs C (dropS 17 B) ((e3 sc 0 0).set 8 (some (stp3 1)))) = .ok (.bl true) := by kernel_rfl
theorem m3_010 (sc : D) : finR (evSs C (dropS 17 B) ((e3 sc 0 1).set 8 (some (stp3 0)))) = .ok (.bl true) := by kernel_rfl
theorem m3_011 (sc : D) : finR (evSs C (dropS 17 B) ((e3 sc 0 1).set 8 (some (stp3 1)))) = .ok (.bl true) := by kernel_rfl
theorem m3_020 (sc : D) : finR (evSs C (dropS 17 B) ((e3 sc 0 2).set 8 (some (stp3 0)))) = .ok (.bl true) := by kernel_rfl
theorem m3_021 (sc : D) : finR (evSs C (dropS 17 B) ((e3 sc 0 2).set 8 (some (stp3 1)))) = .ok (.bl true) := by kernel_rfl
theorem m3_100 (sc : D) : finR (evSs C (dropS 17 B) ((e3 sc 1 0).set 8 (some (stp3 0)))) = .ok (.bl true) := by kernel_rfl
theorem m3_101 (sc : D) : finR (evSs C (dropS 17 B) ((e3 sc 1 0).set 8 (some (stp3 1)))) = .ok (.bl true) := by kernel_rfl
theorem m3_110 (sc : D) : finR (evSs C (dropS 17 B) ((e3 sc 1 1).set 8 (some (stp3 0)))) = .ok (.bl true) := by kernel_rfl
theorem m3_111 (sc : D) : finR (evSs C (dropS 17 B) ((e3 sc 1 1).set 8 (some (stp3 1)))) = .ok (.bl true) := by kernel_rfl
theorem m3_120 (sc : D) : finR (evSs C (dropS 17 B) ((e3 sc 1 2).set 8 (some (stp3 0)))) = .ok (.bl true) := by kernel_rfl
theorem m3_121 (sc : D) : finR (evSs C (dropS 17 B) ((e3 sc 1 2).set 8 (some (stp3 1)))) = .ok (.bl true) := by kernel_rfl
theorem m3_200 (sc : D) : finR (evSs C (dropS 17 B) ((e3 sc 2 0).set 8 (some (stp3 0)))) = .ok (.bl true) := by kernel_rfl
theorem m3_201 (sc : D) : finR (evSs C (dropS 17 B) ((e3 sc 2 0).set 8 (some (stp3 1)))) = .ok (.bl true) := by kernel_rfl
theorem m3_210 (sc : D) : finR (evSs C (dropS 17 B) ((e3 sc 2 1).set 8 (some (stp3 0)))) = .ok (.bl true) := by kernel_rfl
theorem m3_211 (sc : D) : finR (evSs C (dropS 17 B) ((e3 sc 2 1).set 8 (some (stp3 1)))) = .ok (.bl true) := by kernel_rfl
theorem m3_220 (sc : D) : finR (evSs C (dropS 17 B) ((e3 sc 2 2).set 8 (some (stp3 0)))) = .ok (.bl true) := by kernel_rfl
theorem m3_221 (sc : D) : finR (evSs C (dropS 17 B) ((e3 sc 2 2).set 8 (some (stp3 1)))) = .ok (.bl true) := by kernel_rfl
theorem m3_300 (sc : D) : finR (evSs C (dropS 17 B) ((e3 sc 3 0).set 8 (some (stp3 0)))) = .ok (.bl true) := by kernel_rfl
theorem m3_301 (sc : D) : finR (evSs C (dropS 17 B) ((e3 sc 3 0).set 8 (some (stp3 1)))) = .ok (.bl true) := by kernel_rfl
theorem m3_310 (sc : D) : finR (evSs C (dropS 17 B) ((e3 sc 3 1).set 8 (some (stp3 0)))) = .ok (.bl true) := by kernel_rfl
theorem m3_311 (sc : D) : finR (evSs C (dropS 17 B) ((e3 sc 3 1).set 8 (some (stp3 1)))) = .ok (.bl true) := by kernel_rfl
theorem m3_320 (sc : D) : finR (evSs C (dropS 17 B) ((e3 sc 3 2).set 8 (some (stp3 0)))) = .ok (.bl true) := by kernel_rfl
theorem m3_321 (sc : D) : finR (evSs C (dropS 17 B) ((e3 sc 3 2).set 8 (some (stp3 1)))) = .ok (.bl true) := by kernel_rfl
theorem lt4 {p : Nat} (h : (p : Int) < 4) : p = 0 ∨ p = 1 ∨ p = 2 ∨ p = 3 := by omega
theorem lt3 {p : Nat} (h : (p : Int) < 3) : p = 0 ∨ p = 1 ∨ p = 2 := by omega
theorem lt2 {p : Nat} (h : (p : Int) < 2) : p = 0 ∨ p = 1 := by omega
theorem m1 (sc : D) {p : Nat} (h : (p : Int) < 4) : evSs C (takeS 3 (dropS 1 B)) (r1 sc p) = .nx (e2 sc p) ∧ Pw.get (e2 sc p) 0 = .ok sc := by
  rcases lt4 h with rfl | rfl | rfl | rfl
  · exact m1_0 sc
  · exact m1_1 sc
  · exact m1_2 sc
  · exact m1_3 sc
theorem m2 (sc : D) {p q : Nat} (h : (p : Int) < 4) (h2 : (q : Int) < 3) : evSs C (takeS 11 (dropS 5 B)) ((e2 sc p).set 3 (some (.str [97 + q]))) = .nx (e3 sc p q) ∧ Pw.get (e3 sc p q) 0 = .ok sc := by
  rcases lt4 h with rfl | rfl | rfl | rfl <;> rcases lt3 h2 with rfl | rfl | rfl
  · exact m2_00 sc
  · exact m2_01 sc
  · exact m2_02 sc
  · exact m2_10 sc
  · exact m2_11 sc
  · exact m2_12 sc
  · exact m2_20 sc
  · exact m2_21 sc
  · exact m2_22 sc
  · exact m2_30 sc
  · exact m2_31 sc
  · exact m2_32 sc
theorem m3 (sc : D) {p q w : Nat} (h : (p : Int) < 4) (h2 : (q : Int) < 3) (h3 : (w : Int) < 2) : finR (evSs C (dropS 17 B) ((e3 sc p q).set 8 (some (stp3 w)))) = .ok (.bl true) := by
  rcases lt4 h with rfl | rfl | rfl | rfl <;> rcases lt3 h2 with rfl | rfl | rfl <;> rcases lt2 h3 with rfl | rfl
  · exact m3_000 sc
  · exact m3_001 sc
  · exact m3_010 sc
  · exact m3_011 sc
  · exact m3_020 sc
  · exact m3_021 sc
  · exact m3_100 sc
  · exact m3_101 sc
  · exact m3_110 sc
  · exact m3_111 sc
  · exact m3_120 sc
  · exact m3_121 sc
  · exact m3_200 sc
  · exact m3_201 sc
  · exact m3_210 sc
  · exact m3_211 sc
  · exact m3_220 sc
  · exact m3_221 sc
  · exact m3_300 sc
  · exact m3_301 sc
  · exact m3_310 sc
  · exact m3_311 sc
  · exact m3_320 sc
  · exact m3_321 sc
end Q92


/-! text Q92k -/
/-! k92: the cases, computed -/
namespace Q92
open PySem PySem.Spec PyProof.Rows L2 Pw
theorem p0 {c : Nat → List D → R D} {sc : D} {p : Nat} (h : (p : Int) < 4) (e : c 7 [sc, .int 0, .int 4] = .ok (.int p)) : evSs c (takeS 1 B) ([sc].map some ++ List.replicate (G.law_256.n - G.law_256.ps) none) = .nx (r1 sc p) := by
  have a : Pw.atI ([65, 66, 67, 68] : List Nat) (p : Int) = some (65 + p) := by
    rcases lt4 h with rfl | rfl | rfl | rfl <;> rfl
  generalize hx : 65 + p = x at a
  unfold r1
  rw [hx]
  simp [ss_cons_, y_nil_, y_asg_, y_asgT_, y_expr_, y_ret_, y_ife_, y_for_, y_brk_, y_ct_, y_pass_, y_app_, y_ext_, y_par_, y_appPop_, y_raise_, y_tryK_, y_tryV_, y_sput_, y_dpop_, y_rem_, x_isx_, x_dnew_, x_dget_, x_dget2_, x_lm_, x_sidx_, x_two_, x_pur_, x_fld_, x_var_, x_lit_, x_glo_, x_neg_, x_bin_, x_cmp_, x_cmp2_, x_not_, x_and_, x_or_, x_ite_, x_tup_, x_lst_, x_idx_, x_sl_, x_rev_, x_comp_, x_call_, x_prim_, x_meth_, x_fstr_, x_repl_, x_es0_, x_es_, x_f0_, x_f_, x_and1_, x_and2_, x_or1_, x_or2_, x_o0_, x_o_, x_c0_, x_c_, x_seq_, x_range_, x_enum_, x_zip_, B, G.law_256, takeS, e, a]
theorem p1 {c : Nat → List D → R D} {sc : D} {ρ : Sl} {p : Nat} (hg : Pw.get ρ 0 = .ok sc) (h : (p : Int) < 3) (e : c 7 [sc, .int 1, .int 3] = .ok (.int p)) : evSs c (takeS 1 (dropS 4 B)) ρ = .nx (ρ.set 3 (some (.str [97 + p]))) := by
  have a : Pw.atI ([97, 98, 99] : List Nat) (p : Int) = some (97 + p) := by
    rcases lt3 h with rfl | rfl | rfl <;> rfl
  generalize 97 + p = x at a
  simp [ss_cons_, y_nil_, y_asg_, y_asgT_, y_expr_, y_ret_, y_ife_, y_for_, y_brk_, y_ct_, y_pass_, y_app_, y_ext_, y_par_, y_appPop_, y_raise_, y_tryK_, y_tryV_, y_sput_, y_dpop_, y_rem_, x_isx_, x_dnew_, x_dget_, x_dget2_, x_lm_, x_sidx_, x_two_, x_pur_, x_fld_, x_var_, x_lit_, x_glo_, x_neg_, x_bin_, x_cmp_, x_cmp2_, x_not_, x_and_, x_or_, x_ite_, x_tup_, x_lst_, x_idx_, x_sl_, x_rev_, x_comp_, x_call_, x_prim_, x_meth_, x_fstr_, x_repl_, x_es0_, x_es_, x_f0_, x_f_, x_and1_, x_and2_, x_or1_, x_or2_, x_o0_, x_o_, x_c0_, x_c_, x_seq_, x_range_, x_enum_, x_zip_, B, G.law_256, takeS, dropS, hg, e, a]
theorem p2 {c : Nat → List D → R D} {sc : D} {ρ : Sl} {p : Nat} (hg : Pw.get ρ 0 = .ok sc) (h : (p : Int) < 2) (e : c 7 [sc, .int 2, .int 2] = .ok (.int p)) : evSs c (takeS 1 (dropS 16 B)) ρ = .nx (ρ.set 8 (some (stp3 p))) := by
  rcases lt2 h with rfl | rfl
  · have a : Pw.atI [D.int 1, D.int (-1)] ((0 : Nat) : Int) = some (.int 1) := rfl
    have b : prR .stp [.lst [.str [119], .str [114], .str [110]], .int 1] = .ok (.lst [.str [119], .str [114], .str [110]]) := rfl
    simp at e a
    simp [ss_cons_, y_nil_, y_asg_, y_asgT_, y_expr_, y_ret_, y_ife_, y_for_, y_brk_, y_ct_, y_pass_, y_app_, y_ext_, y_par_, y_appPop_, y_raise_, y_tryK_, y_tryV_, y_sput_, y_dpop_, y_rem_, x_isx_, x_dnew_, x_dget_, x_dget2_, x_lm_, x_sidx_, x_two_, x_pur_, x_fld_, x_var_, x_lit_, x_glo_, x_neg_, x_bin_, x_cmp_, x_cmp2_, x_not_, x_and_, x_or_, x_ite_, x_tup_, x_lst_, x_idx_, x_sl_, x_rev_, x_comp_, x_call_, x_prim_, x_meth_, x_fstr_, x_repl_, x_es0_, x_es_, x_f0_, x_f_, x_and1_, x_and2_, x_or1_, x_or2_, x_o0_, x_o_, x_c0_, x_c_, x_seq_, x_range_, x_enum_, x_zip_, B, G.law_256, takeS, dropS, hg, e, a, b, stp3]
  · have a : Pw.atI [D.int 1, D.int (-1)] ((1 : Nat) : Int) = some (.int (-1)) := rfl
    have b : prR .stp [.lst [.str [119], .str [114], .str [110]], .int (-1)] = .ok (.lst [.str [110], .str [114], .str [119]]) := rfl
    simp at e a
    simp [ss_cons_, y_nil_, y_asg_, y_asgT_, y_expr_, y_ret_, y_ife_, y_for_, y_brk_, y_ct_, y_pass_, y_app_, y_ext_, y_par_, y_appPop_, y_raise_, y_tryK_, y_tryV_, y_sput_, y_dpop_, y_rem_, x_isx_, x_dnew_, x_dget_, x_dget2_, x_lm_, x_sidx_, x_two_, x_pur_, x_fld_, x_var_, x_lit_, x_glo_, x_neg_, x_bin_, x_cmp_, x_cmp2_, x_not_, x_and_, x_or_, x_ite_, x_tup_, x_lst_, x_idx_, x_sl_, x_rev_, x_comp_, x_call_, x_prim_, x_meth_, x_fstr_, x_repl_, x_es0_, x_es_, x_f0_, x_f_, x_and1_, x_and2_, x_or1_, x_or2_, x_o0_, x_o_, x_c0_, x_c_, x_seq_, x_range_, x_enum_, x_zip_, B, G.law_256, takeS, dropS, hg, e, a, b, stp3]
theorem law92 (ns : List Int) : callN (foOf L) 13 lawIx [.lst (ns.map D.int)] = .ok (.bl true) := by
  obtain ⟨p, hp, ep⟩ := pick_ok (T := foOf L) rfl rfl 10 ns 0 4 (by decide)
  obtain ⟨q, hq, eq⟩ := pick_ok (T := foOf L) rfl rfl 10 ns 1 3 (by decide)
  obtain ⟨w, hw, ew⟩ := pick_ok (T := foOf L) rfl rfl 10 ns 2 2 (by decide)
  show callN (foOf L) (12 + 1) 256 _ = _
  rw [callN_run (fn := G.law_256) rfl rfl]
  generalize D.lst (ns.map D.int) = sc at ep eq ew
  refine in_two 1 (p0 hp ep) ?_
  refine in_two 3 (m1 sc hp).1 ?_
  refine in_two (ss := dropS 4 B) 1 (p1 (m1 sc hp).2 hq eq) ?_
  refine in_two (ss := dropS 5 B) 11 (m2 sc hp hq).1 ?_
  refine in_two (ss := dropS 16 B) 1 (p2 (m2 sc hp hq).2 hw ew) ?_
  exact m3 sc hp hq hw
end Q92


/-! text Q92h -/
namespace Q92
open PySem PySem.Spec PyProof.Rows L2 Pw
abbrev hk : PySem.W.Hook := hookP 4 (faOf L gv cs) (L.ds.map dd) (tsOf gv) xs
def ob (s : PySem.W.SharedT) : AlP := obsPG 4 (faOf L gv cs) (L.ds.map dd) (tsOf gv) xs (HandSHeadRun.getT s)
theorem ob_eq (s : PySem.W.SharedT) : ob s = hk.obs s.abs := obsPG_eq (HandSHeadRun.getT_eq s)
theorem run (w : World) : HandSHeadRun.RunEq Rw (PySem.W.view Rw.prog [lawAt]) hk ob 9000 loose w := by
  intro os
  kernel_rfl
theorem lawAll : ∀ ns : List Int, ns.length ≤ 63 → callN (foOf L) 13 lawIx [.lst (ns.map D.int)] = .ok (.bl true) := fun ns hn =>
  law92 ns
end Q92
open PySem PySem.W PySem.Calls PyProof.Rows
theorem PySem.Challenge.cw_partworld_k92_whole_clashes_by_hand_holds : PySem.Challenge.rw_partworld_k92_whole_clashes_by_hand.Holds := by
  w_on; o_law
  refine HandSHeadRun.head_any (r := OpenLaw.row PySem.Challenge.rw_partworld_k92_whole_clashes_by_hand) (q := view (OpenLaw.row PySem.Challenge.rw_partworld_k92_whole_clashes_by_hand).prog [Q92.lawAt]) (H := Q92.hk) (ob := Q92.ob) (M := 9000) (loose := Q92.loose) (d := HandSHeadRun.topDef (OpenLaw.row PySem.Challenge.rw_partworld_k92_whole_clashes_by_hand).prog Q92.lawAt) (kwd := []) Q92.ob_eq
    (by kernel_rfl) (fun s => by kernel_rfl) Q92.run (by kernel_rfl) (by kernel_rfl) (by kernel_rfl) (by rfl) (by first | assumption | decide +kernel) (by decide +kernel) ⟨rfl, rfl, rfl, rfl, rfl, by decide +kernel⟩ ?hw ?hc
  case hw => w_witness2
  case hc =>
    refine Pw.walk_w (l := PySem.Challenge.rw_partworld_k92_whole_clashes_by_hand) (n := 63) (k := 2 * 13) (x := "script") rfl (by decide) (by kernel_rfl) ⟨rfl, by decide, by decide⟩ ?F
    intro w mg fa h Y G hmg0
    obtain ⟨K, KX, c⟩ := Y
    have hmg : mg ("law" : PySem.Str) = some (.ref fa) := by
      have e : (HandSHeadRun.topDef (OpenLaw.row PySem.Challenge.rw_partworld_k92_whole_clashes_by_hand).prog Q92.lawAt).name = ("law" : PySem.Str) := by kernel_rfl
      rw [← e]
      exact hmg0
    exact Pw.law_at Q92.xs Q92.cs (d := Q92.df_law) (f := Q92.lawIx) rfl rfl rfl rfl KX G hmg c rfl rfl rfl Q92.bd Q92.chk Q92.lawAll

