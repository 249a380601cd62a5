import PyProof.Rows.All
import Wide.All
import OpenK.AllK
import Wide.FinOn
import HandS.ForMost
import HandS.ForExc
import HandS.ExcIs
import HandS.Wide
import HandS.Zip
import HandS.Rev
import HandS.IsInst
import HandS.SortInts
import HandS.More
import HandS.NoneIn
import HandS.SortKw
import HandS.Style
import PyProof.LongRange
import HandS.Text
import HandS.WideBits
import HandS.EndBits
import PyProof.StrBlock2
import KE.GoesEnum
import HandS.Conv
import HandS.Strs
import HandS.Set
import KE.DataMinMax
import HandS.Deep
import HandS.TupAny
import HandS.RaiseMore
import KE.KDictDisplayH
import HandS.WordsDict
import HandS.Iter
import PySem.Challenge.RW_beaconvale_k16_whole_valleys_turned
set_option Elab.async false
set_option linter.all false
set_option maxRecDepth 100000
/-! values, code, and what a code asks (a predicate transformer on plain data) -/
namespace Vd
open PySem

inductive D where
  | non | bl (b : Bool) | int (i : Int) | str (x : Str)
  | tup (xs : List D) | vl (xs : List D) | vi (c : String) (ns : List String) (vs : List D)
  | ref (n : Nat) | exc (c : String) | sv (xs : List D)
noncomputable instance : Inhabited D := ⟨.non⟩

inductive Ob where
  | lst (xs : List D) | ins (c : String) (ns : List String) (vs : List D)
  | dk (z : Bool) (kvs : List (L2.Key × D)) | dt (z : Bool) (kvs : List (List L2.Key × D))
noncomputable abbrev Hd := List Ob
noncomputable abbrev DSt := List (Option D)
noncomputable abbrev DK := D → Hd → Prop
noncomputable abbrev EK := String → Hd → Prop

inductive Op2 where | add | sub | mul | fdiv | mod | pow | shl | shr | band | bxor
  deriving DecidableEq
inductive Cm where | lt | le | gt | ge | eq | ne | is | isn | isin | nin
  deriving DecidableEq
inductive Tg where | nm (i : Nat) | tp (is : List Nat)
  deriving DecidableEq
mutual
inductive E where
  | var (i : Nat) | int (i : Int) | str (s : String) | bl (b : Bool) | non | glob (x : String)
  | bin (m : Bool) (o : Op2) (a b : E) | neg (a : E) | not (a : E)
  | cmp (o : Cm) (a b : E) | chain (o o' : Cm) (a b c : E)
  | and (es : Es) | or (es : Es) | ife (c a b : E)
  | tup (es : Es) | lst (m : Bool) (es : Es)
  | idx (a i : E) | slc (m : Bool) (a : E) (lo hi : Oe)
  | fld (a : E) (f : String) | isi (a : E) (t : String)
  | call (f : String) (es : Es) | make (c : String) (es : Es) | meth (o : E) (f : String) (es : Es)
  | bi (f : String) (m : Bool) (es : Es) | bm (f : String) (o : E) (es : Es)
  | comp (m : Bool) (elt : E) (tg : Tg) (it : It) (cond : Oe) (vs : List Nat)
  | stp (a : E) (lo c : Nat) | mdef (mx : Bool) (a : E) | ise (i : Nat) (t : String) | lrg (m : Bool) (a b : E)
  | lset (a : E) | lrev (m : Bool) (a : E) | srs (m : Bool) (a : E) | mpr (mx : Bool) (a : E) | lrb (m : Bool) (a b : E)
  | dnew (t : Bool) | dget (o i : E) | din (n : Bool) (i o : E) | ddsp (k v : E) | dln (a : E)
inductive Es where | nil | cons (e : E) (r : Es)
inductive Oe where | none | some (e : E)
inductive It where | val (e : E) | rng1 (a : E) | rng2 (a b : E) | rng3 (a b c : E) | zip (a b : E) | enum (a : E) | rev (a : E) | rngb (a b : E) | chs (a : E) | kys (a : E)
end
mutual
inductive S where
  | set (t : Tg) (e : E) | par (i j : Nat) (a b : E)
  | sub (o i e : E) | dput (o i e : E) | fset (o : E) (f : String) (e : E) | aug (i : Nat) (o : Op2) (e : E)
  | ex (e : E) | ret (e : E) | retN
  | ite (c : E) (a b : Ss) | whl (c : E) (b : Ss) | fr (t : Tg) (it : It) (b : Ss)
  | raise (c : String) | try (b : Ss) (c : String) (as : Option Nat) (h : Ss)
  | pass | brk | cont
inductive Ss where | nil | cons (s : S) (r : Ss)
end

/-- a key as data -/
noncomputable def keyV : L2.Key → D
  | .inl i => .int i
  | .inr x => .str x
/-! ### reading data -/
noncomputable def rdM (h : Hd) : D → Option (List D)
  | .vl xs => some xs
  | .ref r => match h[r]? with
    | some (.lst xs) => some xs
    | _ => none
  | _ => none
noncomputable def rdL (h : Hd) : D → Option (List D)
  | .vl xs => some xs
  | .sv xs => some xs
  | .ref r => match h[r]? with
    | some (.lst xs) => some xs
    | _ => none
  | _ => none
noncomputable def rdS (h : Hd) : D → Option (List D)
  | .tup xs => some xs
  | d => rdL h d
@[simp] theorem rdM_vl (h : Hd) (xs) : rdM h (.vl xs) = some xs := rfl
@[simp] theorem rdL_sv (h : Hd) (xs) : rdL h (.sv xs) = some xs := rfl
@[simp] theorem rdS_sv (h : Hd) (xs) : rdS h (.sv xs) = some xs := rfl
@[simp] theorem rdL_vl (h : Hd) (xs) : rdL h (.vl xs) = some xs := rfl
@[simp] theorem rdS_vl (h : Hd) (xs) : rdS h (.vl xs) = some xs := rfl
@[simp] theorem rdS_tup (h : Hd) (xs) : rdS h (.tup xs) = some xs := rfl
theorem rdS_ref (h : Hd) (r) : rdS h (.ref r) = rdL h (.ref r) := rfl
theorem rdL_ref {h : Hd} {r xs} (e : h[r]? = some (.lst xs)) : rdL h (.ref r) = some xs := by simp [rdL, e]
theorem rdM_ref {h : Hd} {r xs} (e : h[r]? = some (.lst xs)) : rdM h (.ref r) = some xs := by simp [rdM, e]
theorem rdS_ref' {h : Hd} {r xs} (e : h[r]? = some (.lst xs)) : rdS h (.ref r) = some xs := rdL_ref e

/-- two lists or two tuples -/
noncomputable def rd2 (h : Hd) (x y : D) : Option (List D × List D) := match rdL h x, rdL h y with
  | some a, some b => some (a, b)
  | _, _ => match x, y with
    | .tup a, .tup b => some (a, b)
    | _, _ => none
@[simp] theorem rd2_tup (h : Hd) (a b) : rd2 h (.tup a) (.tup b) = some (a, b) := rfl
theorem rd2_L {h : Hd} {x y a b} (e : rdL h x = some a) (f : rdL h y = some b) : rd2 h x y = some (a, b) := by simp [rd2, e, f]
theorem rd2_inv {h : Hd} {x y a b} (e : rd2 h x y = some (a, b)) : (rdL h x = some a ∧ rdL h y = some b) ∨ (x = .tup a ∧ y = .tup b) := by
  unfold rd2 at e
  split at e
  · rename_i a' b' e1 e2
    cases e
    exact .inl ⟨e1, e2⟩
  · split at e
    · cases e; exact .inr ⟨rfl, rfl⟩
    · cases e
noncomputable def flook : List String → List D → String → Option D
  | n :: ns, v :: vs, f => if n = f then some v else flook ns vs f
  | _, _, _ => none
noncomputable def fput : List String → List D → String → D → List String × List D
  | n :: ns, v :: vs, f, d => if n = f then (n :: ns, d :: vs) else ((n :: (fput ns vs f d).1), (v :: (fput ns vs f d).2))
  | _, _, f, d => ([f], [d])
/-- an instance's class and fields -/
noncomputable def rdI (h : Hd) : D → Option (String × List String × List D)
  | .vi c ns vs => some (c, ns, vs)
  | .ref r => match h[r]? with
    | some (.ins c ns vs) => some (c, ns, vs)
    | _ => none
  | _ => none
@[simp] theorem rdI_vi (h : Hd) (c ns vs) : rdI h (.vi c ns vs) = some (c, ns, vs) := rfl
theorem rdI_ref {h : Hd} {r c ns vs} (e : h[r]? = some (.ins c ns vs)) : rdI h (.ref r) = some (c, ns, vs) := by simp [rdI, e]

/-- a new list: kept as a value, or an object that may change -/
noncomputable def mkL : Bool → List D → Hd → DK → Prop
  | false, xs, h, Q => xs.length ≤ sizeLine ∧ Q (.vl xs) h
  | true, xs, h, Q => xs.length ≤ sizeLine ∧ Q (.ref h.length) (h ++ [.lst xs])

/-! ### equality of data -/
mutual
/-- == of data without objects that change -/
noncomputable def deq : D → D → Bool
  | .non, .non => true
  | .bl a, .bl b => a == b
  | .int a, .int b => a == b
  | .bl a, .int b => (if a then 1 else 0) == b
  | .int a, .bl b => a == (if b then 1 else 0)
  | .str a, .str b => decide (a = b)
  | .tup a, .tup b => deqs a b
  | .vl a, .vl b => deqs a b
  | _, _ => false
noncomputable def deqs : List D → List D → Bool
  | [], [] => true
  | a :: as, b :: bs => deq a b && deqs as bs
  | _, _ => false
end
/-- plain data: none, bools, whole numbers, texts, and tuples and lists of such, not too deep -/
noncomputable def pl : Nat → D → Bool
  | _, .non => true
  | _, .bl _ => true
  | _, .int _ => true
  | _, .str x => PyData.strOk x
  | k + 1, .tup xs => xs.all (pl k)
  | k + 1, .vl xs => xs.all (pl k)
  | _, _ => false
noncomputable def flat : D → Bool
  | .non => true
  | .bl _ => true
  | .int _ => true
  | .str _ => true
  | _ => false
/-- a value with the list at it read -/
noncomputable def seen (h : Hd) : D → D
  | .ref r => match h[r]? with
    | some (.lst xs) => .vl xs
    | _ => .ref r
  | d => d

/-! ### operators -/
noncomputable def MulOk (i j : Int) : Prop := L2.CMul i j ∨ L2.CMulW i j ∨ L2.CMulX i j
noncomputable def DivOk (j : Int) : Prop := j ≠ 0 ∧ j.natAbs.log2 < 9000
noncomputable def PowOk (i j : Int) : Prop := L2.CPow i j
noncomputable def bopW (m : Bool) : Op2 → D → D → Hd → DK → Prop
  | .add, .int i, .int j, h, Q => Q (.int (i + j)) h
  | .sub, .int i, .int j, h, Q => Q (.int (i - j)) h
  | .mul, .int i, .int j, h, Q => MulOk i j ∧ Q (.int (i * j)) h
  | .fdiv, .int i, .int j, h, Q => DivOk j ∧ Q (.int (i.fdiv j)) h
  | .mod, .int i, .int j, h, Q => j ≠ 0 ∧ Q (.int (i.fmod j)) h
  | .pow, .int i, .int j, h, Q => PowOk i j ∧ Q (.int (i ^ j.toNat)) h
  | .shl, .int i, .int j, h, Q => PowOk i j ∧ Q (.int (i * 2 ^ j.toNat)) h
  | .shr, .int i, .int j, h, Q => 0 ≤ j ∧ Q (.int (i / 2 ^ j.toNat)) h
  | .band, .int i, .int j, h, Q => Q (.int (Builtin.bitAnd i j)) h
  | .bxor, .int i, .int j, h, Q => Q (.int (Builtin.bitXor i j)) h
  | .add, .str x, .str y, h, Q => x.length + y.length ≤ sizeLine ∧ Q (.str (x ++ y)) h
  | .add, .tup xs, .tup ys, h, Q => xs.length + ys.length ≤ sizeLine ∧ Q (.tup (xs ++ ys)) h
  | .add, a, b, h, Q => ∃ xs ys, rdL h a = some xs ∧ rdL h b = some ys ∧ xs.length + ys.length ≤ sizeLine ∧ mkL m (xs ++ ys) h Q
  | .mul, .str x, .int k, h, Q => -(2 ^ 63) ≤ k ∧ k < 2 ^ 63 ∧ x.length * k.toNat ≤ sizeLine ∧ Q (.str (Txt.mul x k)) h
  | .mul, a, .int k, h, Q => ∃ xs, rdM h a = some xs ∧ -(2 ^ 63) ≤ k ∧ k < 2 ^ 63 ∧ xs.length * k.toNat ≤ sizeLine ∧ mkL m (List.replicate k.toNat xs).flatten h Q
  | _, _, _, _, _ => False
/-- comparisons -/
noncomputable def cmpW : Cm → D → D → Hd → (Bool → Prop) → Prop
  | .lt, .int i, .int j, _, Q => Q (decide (i < j))
  | .le, .int i, .int j, _, Q => Q (decide (i ≤ j))
  | .gt, .int i, .int j, _, Q => Q (decide (j < i))
  | .ge, .int i, .int j, _, Q => Q (decide (j ≤ i))
  | .eq, .int i, .int j, _, Q => Q (decide (i = j))
  | .ne, .int i, .int j, _, Q => Q (!decide (i = j))
  | .eq, a, b, h, Q => pl 16 (seen h a) = true ∧ pl 16 (seen h b) = true ∧ Q (deq (seen h a) (seen h b))
  | .ne, a, b, h, Q => pl 16 (seen h a) = true ∧ pl 16 (seen h b) = true ∧ Q (!deq (seen h a) (seen h b))
  | .is, .non, .non, _, Q => Q true
  | .is, .bl a, .bl b, _, Q => Q (decide (a = b))
  | .isn, .bl a, .bl b, _, Q => Q (!decide (a = b))
  | .is, _, .non, _, Q => Q false
  | .isn, .non, .non, _, Q => Q false
  | .isn, _, .non, _, Q => Q true
  | .isin, .str x, .str y, _, Q => Q (!(Builtin.Str.occurrences y x 0 y.length 1).isEmpty)
  | .nin, .str x, .str y, _, Q => Q (!(!(Builtin.Str.occurrences y x 0 y.length 1).isEmpty))
  | .isin, a, .tup xs, h, Q => flat a = true ∧ xs.all flat = true ∧ Q (xs.any fun y => deq y a)
  | .nin, a, .tup xs, h, Q => flat a = true ∧ xs.all flat = true ∧ Q (!xs.any fun y => deq y a)
  | .isin, a, b, h, Q => ∃ xs, rdM h b = some xs ∧ pl 15 a = true ∧ xs.all (pl 15) = true ∧ Q (xs.any fun y => deq y a)
  | .nin, a, b, h, Q => ∃ xs, rdM h b = some xs ∧ pl 15 a = true ∧ xs.all (pl 15) = true ∧ Q (!xs.any fun y => deq y a)
  | _, _, _, _, _ => False
/-- an item -/
noncomputable def idxW : D → D → Hd → DK → Prop
  | .str z, .int i, h, Q => ∃ c, z.length ≤ sizeLine ∧ L2.atI z.cps.toList i = some c ∧ Q (.str ⟨#[c]⟩) h
  | a, .int i, h, Q => ∃ xs v, rdS h a = some xs ∧ L2.atI xs i = some v ∧ Q v h
  | _, _, _, _ => False
/-- a slice -/
noncomputable def cut {α : Type} (xs : List α) (lo hi : Option Int) : List α := (xs.drop (HT.sIx xs.length 0 lo)).take (HT.sIx xs.length xs.length hi - HT.sIx xs.length 0 lo)
noncomputable def slcW (m : Bool) : D → Option Int → Option Int → Hd → DK → Prop
  | .tup xs, lo, hi, h, Q => Q (.tup (cut xs lo hi)) h
  | .str z, lo, hi, h, Q => z.length ≤ sizeLine ∧ Q (.str (L2.cutS z lo hi)) h
  | a, lo, hi, h, Q => ∃ xs, rdL h a = some xs ∧ mkL m (cut xs lo hi) h Q
/-- xs[lo::c] -/
noncomputable def stpL {α : Type} (xs : List α) (lo c : Nat) : List α := (PySem.sliceRange (max 0 (min (lo : Int) xs.length)) xs.length (c : Int)).filterMap (xs[·]?)
noncomputable def tyD : D → String
  | .non => "NoneType" | .bl _ => "bool" | .int _ => "int" | .str _ => "str" | .tup _ => "tuple" | .vl _ => "list" | _ => ""
noncomputable def isiS : String → String → Option Bool
  | "NoneType", "int" => some false | "NoneType", "tuple" => some false | "NoneType", "bool" => some false | "NoneType", "list" => some false | "NoneType", "str" => some false
  | "bool", "int" => some true | "bool", "tuple" => some false | "bool", "bool" => some true | "bool", "list" => some false | "bool", "str" => some false
  | "int", "int" => some true | "int", "tuple" => some false | "int", "bool" => some false | "int", "list" => some false | "int", "str" => some false
  | "str", "int" => some false | "str", "tuple" => some false | "str", "bool" => some false | "str", "list" => some false | "str", "str" => some true
  | "tuple", "int" => some false | "tuple", "tuple" => some true | "tuple", "bool" => some false | "tuple", "list" => some false | "tuple", "str" => some false
  | "list", "int" => some false | "list", "tuple" => some false | "list", "bool" => some false | "list", "list" => some true | "list", "str" => some false
  | _, _ => none
noncomputable def isiB (d : D) (t : String) : Option Bool := isiS (tyD d) t
noncomputable def tyN (t : String) : Bool := t == "int" || t == "bool" || t == "str" || t == "list" || t == "tuple"

/-! ### built-in functions by name -/
noncomputable def intsD : List D → Option (List Int)
  | [] => some []
  | .int i :: r => (intsD r).map (i :: ·)
  | _ => none
noncomputable def blsD : List D → Option (List Bool)
  | [] => some []
  | .bl i :: r => (blsD r).map (i :: ·)
  | _ => none
noncomputable def pairsD : List D → Option (List (Int × Int))
  | [] => some []
  | .tup [.int i, .int j] :: r => (pairsD r).map ((i, j) :: ·)
  | _ => none
noncomputable def lexLe (p q : Int × Int) : Prop := p.1 < q.1 ∨ (p.1 = q.1 ∧ p.2 ≤ q.2)
noncomputable def pairD (p : Int × Int) : D := .tup [.int p.1, .int p.2]
noncomputable def biW (m : Bool) : String → List D → Hd → DK → Prop
  | "abs", [.int i], h, Q => Q (.int (if i < 0 then -i else i)) h
  | "int", [.int i], h, Q => Q (.int i) h
  | "int", [.bl b], h, Q => Q (.int (if b then 1 else 0)) h
  | "int", [.str x], h, Q => ∃ n, PySem.intText? x = some n ∧ x.length ≤ 640 ∧ Q (.int n) h
  | "str", [.int i], h, Q => i.natAbs.log2 < 1920 ∧ Q (.str (Str.ofString (toString i))) h
  | "str", [.str x], h, Q => Q (.str x) h
  | "bool", [.int i], h, Q => Q (.bl (i != 0)) h
  | "bool", [.bl b], h, Q => Q (.bl b) h
  | "max", [.int i, .int j], h, Q => Q (.int (if j > i then j else i)) h
  | "min", [.int i, .int j], h, Q => Q (.int (if j < i then j else i)) h
  | "len", [.str z], h, Q => z.length ≤ sizeLine ∧ Q (.int z.length) h
  | "len", [d], h, Q => ∃ xs, rdS h d = some xs ∧ Q (.int xs.length) h
  | "list", [d], h, Q => ∃ xs, rdS h d = some xs ∧ mkL m xs h Q
  | "tuple", [.tup xs], h, Q => Q (.tup xs) h
  | "tuple", [d], h, Q => ∃ xs, rdL h d = some xs ∧ Q (.tup xs) h
  | "sum", [d], h, Q => ∃ xs ns, rdL h d = some xs ∧ intsD xs = some ns ∧ Q (.int ns.sum) h
  | "max", [d], h, Q => ∃ xs ns, rdL h d = some xs ∧ intsD xs = some ns ∧ 0 < ns.length ∧ ∀ k, k ∈ ns → (∀ y, y ∈ ns → y ≤ k) → Q (.int k) h
  | "min", [d], h, Q => ∃ xs ns, rdL h d = some xs ∧ intsD xs = some ns ∧ 0 < ns.length ∧ ∀ k, k ∈ ns → (∀ y, y ∈ ns → k ≤ y) → Q (.int k) h
  | "any", [d], h, Q => ∃ xs bs, rdL h d = some xs ∧ blsD xs = some bs ∧ Q (.bl (bs.any id)) h
  | "all", [d], h, Q => ∃ xs bs, rdL h d = some xs ∧ blsD xs = some bs ∧ Q (.bl (bs.all id)) h
  | "sorted", [d], h, Q => (∃ xs ns, rdL h d = some xs ∧ intsD xs = some ns ∧ ∀ ns' : List Int, ns'.Perm ns → ns'.Pairwise (· ≤ ·) → mkL m (ns'.map .int) h Q) ∨
      (∃ xs ps, rdL h d = some xs ∧ pairsD xs = some ps ∧ ∀ ps' : List (Int × Int), ps'.Perm ps → ps'.Pairwise lexLe → mkL m (ps'.map pairD) h Q)
  | _, _, _, _ => False
noncomputable def mdW (mx : Bool) (d : D) (h : Hd) (Q : DK) : Prop := ∃ xs ns, rdL h d = some xs ∧ intsD xs = some ns ∧ (ns = [] → Q .non h) ∧ ∀ k, k ∈ ns → (∀ y, y ∈ ns → if mx = true then y ≤ k else k ≤ y) → Q (.int k) h
/-- len(set(xs)), xs texts or whole numbers -/
noncomputable def strsD : List D → Option (List Str)
  | [] => some []
  | .str i :: r => (strsD r).map (i :: ·)
  | _ => none
noncomputable def ddA {κ : Type} [DecidableEq κ] (acc : List κ) (x : κ) : List κ := if x ∈ acc then acc else acc ++ [x]
/-- a list without doubles, in the order of the first ones -/
noncomputable def dd {κ : Type} [DecidableEq κ] (xs : List κ) : List κ := xs.foldl ddA []
/-- sorted(set(xs)), xs whole numbers -/
noncomputable def srsW (m : Bool) (d : D) (h : Hd) (Q : DK) : Prop := ∃ xs ns, rdL h d = some xs ∧ intsD xs = some ns ∧ ns.length ≤ 4000 ∧ (dd ns).length < 64 ∧ ∀ os : List Int, os.Pairwise (· < ·) → (∀ k, k ∈ os ↔ k ∈ ns) → mkL m (os.map .int) h Q
noncomputable def lsetW (d : D) (h : Hd) (Q : DK) : Prop := (∃ xs ns, rdL h d = some xs ∧ strsD xs = some ns ∧ ns.length ≤ 4000 ∧ Q (.int (dd ns).length) h) ∨ (∃ xs ns, rdL h d = some xs ∧ intsD xs = some ns ∧ ns.length ≤ 4000 ∧ Q (.int (dd ns).length) h)
/-- max or min of pairs -/
noncomputable def mprW (mx : Bool) (d : D) (h : Hd) (Q : DK) : Prop := ∃ xs ps, rdL h d = some xs ∧ pairsD xs = some ps ∧ 0 < ps.length ∧ ∀ k, k ∈ ps → (∀ y, y ∈ ps → if mx = true then lexLe y k else lexLe k y) → Q (pairD k) h
noncomputable def chsD (z : Str) : List D := z.cps.toList.map fun c => .str ⟨#[c]⟩
/-- what extend takes -/
noncomputable def rdE (h : Hd) : D → Option (List D)
  | .vl xs => some xs
  | .tup xs => some xs
  | .ref r => match h[r]? with
    | some (.lst xs) => some xs
    | _ => none
  | _ => none
@[simp] theorem rdE_tup (h : Hd) (xs : List D) : rdE h (.tup xs) = some xs := rfl
@[simp] theorem rdE_vl (h : Hd) (xs : List D) : rdE h (.vl xs) = some xs := rfl
/-- methods of built-in types -/
noncomputable def bmW : String → D → List D → Hd → DK → Prop
  | "append", .ref r, [d], h, Q => ∃ xs, h[r]? = some (.lst xs) ∧ xs.length < sizeLine ∧ Q .non (h.set r (.lst (xs ++ [d])))
  | "pop", .ref r, [], h, Q => ∃ xs y, h[r]? = some (.lst xs) ∧ xs[xs.length - 1]? = some y ∧ Q y (h.set r (.lst xs.dropLast))
  | "extend", .ref r, [d], h, Q => ∃ xs ys, h[r]? = some (.lst xs) ∧ rdE h d = some ys ∧ xs.length + ys.length ≤ sizeLine ∧ Q .non (h.set r (.lst (xs ++ ys)))
  | "insert", .ref r, [.int i, d], h, Q => ∃ xs, h[r]? = some (.lst xs) ∧ xs.length < sizeLine ∧ 0 ≤ i ∧ i < 2 ^ 63 ∧ Q .non (h.set r (.lst (xs.take i.toNat ++ [d] ++ xs.drop i.toNat)))
  | "pop", .ref r, [.int i], h, Q => ∃ xs k y, h[r]? = some (.lst xs) ∧ 0 ≤ i ∧ i.toNat = k ∧ k < 2 ^ 62 ∧ xs[k]? = some y ∧ Q y (h.set r (.lst (xs.eraseIdx k)))
  | "index", d, [y], h, Q => ∃ xs j z, rdM h d = some xs ∧ pl 15 y = true ∧ xs.all (pl 15) = true ∧ xs[j]? = some z ∧ deq z y = true ∧ (∀ m z', m < j → xs[m]? = some z' → deq z' y = false) ∧ Q (.int (j : Nat)) h
  | "join", .str x, [d], h, Q => ∃ xs ys, rdL h d = some xs ∧ strsD xs = some ys ∧ (ys.map (·.length)).sum + ys.length * x.length ≤ 16777216 ∧ Q (.str (Txt.join x ys)) h
  | "split", .str x, [.str y], h, Q => (y.length == 0) = false ∧ x.length + 2 ≤ sizeLine ∧ (Txt.split x y).length ≤ sizeLine ∧ Q (.vl ((Txt.split x y).map .str)) h
  | "clear", .ref r, [], h, Q => ∃ xs, h[r]? = some (.lst xs) ∧ Q .non (h.set r (.lst []))
  | "reverse", .ref r, [], h, Q => ∃ xs, h[r]? = some (.lst xs) ∧ Q .non (h.set r (.lst xs.reverse))
  | _, _, _, _, _ => False

/-! ### tables -/
noncomputable def getA {κ : Type} [DecidableEq κ] (kvs : List (κ × D)) (k : κ) : Option D := (kvs.find? fun kv => decide (kv.1 = k)).map (·.2)
/-- in its place, or at the end -/
noncomputable def putA {κ : Type} [DecidableEq κ] (kvs : List (κ × D)) (k : κ) (d : D) : List (κ × D) :=
  if (kvs.any fun kv => decide (kv.1 = k)) = true then kvs.map (fun kv => if kv.1 = k then (kv.1, d) else kv) else kvs ++ [(k, d)]
noncomputable def keyD : D → Option L2.Key
  | .int i => some (.inl i)
  | .str x => some (.inr x)
  | _ => none
noncomputable def keysD : List D → Option (List L2.Key)
  | [] => some []
  | x :: r => match keyD x, keysD r with
    | some k, some ks => some (k :: ks)
    | _, _ => none
/-- what a table holds at a key -/
noncomputable def dgetW : D → D → Hd → (Option D → Prop) → Prop
  | .ref r, .tup ys, h, Q => ∃ z kvs k, h[r]? = some (.dt z kvs) ∧ keysD ys = some k ∧ Q (getA kvs k)
  | .ref r, y, h, Q => ∃ z kvs k, h[r]? = some (.dk z kvs) ∧ keyD y = some k ∧ Q (getA kvs k)
  | _, _, _, _ => False
noncomputable def dputW : D → D → D → Hd → (Hd → Prop) → Prop
  | .ref r, .tup ys, v, h, Q => ∃ kvs k, h[r]? = some (.dt false kvs) ∧ keysD ys = some k ∧ kvs.length < sizeLine ∧ Q (h.set r (.dt false (putA kvs k v)))
  | .ref r, y, v, h, Q => ∃ kvs k, h[r]? = some (.dk false kvs) ∧ keyD y = some k ∧ kvs.length < sizeLine ∧ Q (h.set r (.dk false (putA kvs k v)))
  | _, _, _, _, _ => False
noncomputable def recOk : String → D → Hd → Prop
  | "join", x, _ => ∃ z, x = .str z
  | "split", x, _ => ∃ z, x = .str z
  | "upper", x, _ => ∃ z, x = .str z
  | _, x, h => ∃ ys, rdL h x = some ys
/-! ### what is around -/
structure Gam where
  fn : String → List D → Hd → DK → EK → Prop
  isFn : String → Bool
  gl : String → Option D
  fldOk : String → String → Bool
  sub : String → String → Option Bool
  /-- methods: class, name -/
  me : String → String → List D → Hd → DK → EK → Prop
  isMe : String → String → Bool
  /-- a class called -/
  mkc : String → List D → Hd → DK → EK → Prop
  isMk : String → Bool
  /-- exception classes that are raised; whether an except clause takes them -/
  isEx : String → Bool
  exm : String → String → Option Bool
  isTr : String → Bool
  /-- the exception that a suite holds: slot, class -/
  xs : Option (Nat × String)
noncomputable abbrev Gam.inx (G : Gam) (i : Nat) (c : String) : Gam := { G with xs := some (i, c) }

/-- the targets of a loop -/
noncomputable def tgW : Tg → D → DSt → Hd → (DSt → Prop) → Prop
  | .nm i, d, σ, _, K => K (σ.set i (some d))
  | .tp is, d, σ, h, K => ∃ xs, rdS h d = some xs ∧ xs.length = is.length ∧ K ((is.zip xs).foldl (fun s p => s.set p.1 (some p.2)) σ)
noncomputable def wipe (σ : DSt) : List Nat → DSt
  | [] => σ
  | v :: vs => (wipe σ vs).set v none
/-- what is walked: the items, and what must stay at each turn -/
structure Itm where
  xs : List D
  stay : Hd → Prop
noncomputable def rngN (lo hi : Int) : List D := (List.range (hi - lo).toNat).map fun (k : Nat) => D.int (lo + (k : Int))
/-- lo, lo + c, .. (n of them) -/
noncomputable def rngC (lo c : Int) (n : Nat) : List D := (List.range n).map fun (k : Nat) => .int (lo + (k : Int) * c)
noncomputable def Rg3 (i j c : Int) (n : Nat) : Prop := c ≠ 0 ∧ c.natAbs < 1073741824 ∧ Builtin.Range.rangeSize i j c = n
noncomputable def R62 (i : Int) : Prop := -(2 ^ 62) ≤ i ∧ i < 2 ^ 62
/-- a comprehension's turns -/
noncomputable def compL (stay : Hd → Prop) (t : D → Hd → (Option D → Hd → Prop) → Prop) : List D → List D → Hd → (List D → Hd → Prop) → Prop
  | [], acc, h, Q => stay h ∧ Q acc h
  | x :: xs, acc, h, Q => stay h ∧ t x h fun o h' => match o with
    | some y => acc.length < sizeLine ∧ compL stay t xs (acc ++ [y]) h' Q
    | none => compL stay t xs acc h' Q

mutual
noncomputable def wpE (G : Gam) : E → DSt → Hd → DK → EK → Prop
  | .var i, σ, h, Q, _ => ∃ d, σ[i]? = some (some d) ∧ Q d h
  | .int i, _, h, Q, _ => Q (.int i) h
  | .str x, _, h, Q, _ => Q (.str (Str.ofString x)) h
  | .bl b, _, h, Q, _ => Q (.bl b) h
  | .non, _, h, Q, _ => Q .non h
  | .glob x, _, h, Q, _ => ∃ d, G.gl x = some d ∧ Q d h
  | .bin m o a b, σ, h, Q, X => wpE G a σ h (fun x h1 => wpE G b σ h1 (fun y h2 => bopW m o x y h2 Q) X) X
  | .neg a, σ, h, Q, X => wpE G a σ h (fun x h1 => ∃ i, x = .int i ∧ Q (.int (-i)) h1) X
  | .not a, σ, h, Q, X => wpE G a σ h (fun x h1 => ∃ b, x = .bl b ∧ Q (.bl (!b)) h1) X
  | .cmp o a b, σ, h, Q, X => wpE G a σ h (fun x h1 => wpE G b σ h1 (fun y h2 => cmpW o x y h2 fun c => Q (.bl c) h2) X) X
  | .chain o o' a b c, σ, h, Q, X => wpE G a σ h (fun x h1 => wpE G b σ h1 (fun y h2 => cmpW o x y h2 fun k =>
      if k = true then wpE G c σ h2 (fun z h3 => cmpW o' y z h3 fun k' => Q (.bl k') h3) X else Q (.bl false) h2) X) X
  | .and es, σ, h, Q, X => wpAnd G es σ h Q X
  | .or es, σ, h, Q, X => wpOr G es σ h Q X
  | .ife c a b, σ, h, Q, X => wpE G c σ h (fun x h1 => ∃ k, x = .bl k ∧ if k = true then wpE G a σ h1 Q X else wpE G b σ h1 Q X) X
  | .tup es, σ, h, Q, X => wpEs G es σ h (fun xs h1 => xs.length ≤ sizeLine ∧ Q (.tup xs) h1) X
  | .lst m es, σ, h, Q, X => wpEs G es σ h (fun xs h1 => mkL m xs h1 Q) X
  | .idx a i, σ, h, Q, X => wpE G a σ h (fun x h1 => wpE G i σ h1 (fun y h2 => idxW x y h2 Q) X) X
  | .stp a lo c, σ, h, Q, X => wpE G a σ h (fun x h1 => ∃ xs, rdL h1 x = some xs ∧ mkL false (stpL xs lo c) h1 Q) X
  | .lrg m a b, σ, h, Q, X => wpE G a σ h (fun x h1 => wpE G b σ h1 (fun y h2 => ∃ i j, x = .int i ∧ y = .int j ∧ R62 i ∧ R62 j ∧ (j - i).toNat ≤ 16777216 ∧ mkL m (rngN i j) h2 Q) X) X
  | .lrb m a b, σ, h, Q, X => wpE G a σ h (fun x h1 => wpE G b σ h1 (fun y h2 => ∃ i j, x = .int i ∧ y = .int j ∧ (j - i).toNat ≤ 16777216 ∧ mkL m (rngN i j) h2 Q) X) X
  | .lset a, σ, h, Q, X => wpE G a σ h (fun x h1 => lsetW x h1 Q) X
  | .lrev m a, σ, h, Q, X => wpE G a σ h (fun x h1 => ∃ xs, rdL h1 x = some xs ∧ mkL m xs.reverse h1 Q) X
  | .srs m a, σ, h, Q, X => wpE G a σ h (fun x h1 => srsW m x h1 Q) X
  | .mpr mx a, σ, h, Q, X => wpE G a σ h (fun x h1 => mprW mx x h1 Q) X
  | .dnew t, _, h, Q, _ => Q (.ref h.length) (h ++ [if t = true then .dt false [] else .dk false []])
  | .ddsp k v, σ, h, Q, X => wpE G k σ (h ++ [.dt false []]) (fun x h1 => wpE G v σ h1 (fun y h2 => ∃ ys ks, x = .tup ys ∧ keysD ys = some ks ∧ h2[h.length]? = some (.dt false []) ∧ Q (.ref h.length) (h2.set h.length (.dt false (putA [] ks y)))) X) X
  | .dln a, σ, h, Q, X => wpE G a σ h (fun x h1 => ∃ r z kvs, x = .ref r ∧ h1[r]? = some (.dk z kvs) ∧ Q (.int kvs.length) h1) X
  | .dget o i, σ, h, Q, X => wpE G o σ h (fun x h1 => wpE G i σ h1 (fun y h2 => dgetW x y h2 fun o => ∃ d, o = some d ∧ Q d h2) X) X
  | .din n i o, σ, h, Q, X => wpE G i σ h (fun y h1 => wpE G o σ h1 (fun x h2 => dgetW x y h2 fun o => Q (.bl (if n = true then !o.isSome else o.isSome)) h2) X) X
  | .mdef mx a, σ, h, Q, X => wpE G a σ h (fun x h1 => mdW mx x h1 Q) X
  | .slc m a lo hi, σ, h, Q, X => wpE G a σ h (fun x h1 => wpO G lo σ h1 (fun l h2 => wpO G hi σ h2 (fun u h3 => slcW m x l u h3 Q) X) X) X
  | .fld a f, σ, h, Q, X => wpE G a σ h (fun x h1 => ∃ c ns vs d, rdI h1 x = some (c, ns, vs) ∧ G.fldOk c f = true ∧ flook ns vs f = some d ∧ Q d h1) X
  | .isi a t, σ, h, Q, X => wpE G a σ h (fun x h1 => ∃ b, isiB (seen h1 x) t = some b ∧ Q (.bl b) h1) X
  | .call f es, σ, h, Q, X => G.isFn f = true ∧ wpEs G es σ h (fun xs h1 => G.fn f xs h1 Q X) X
  | .make c es, σ, h, Q, X => G.isMk c = true ∧ wpEs G es σ h (fun xs h1 => G.mkc c xs h1 Q X) X
  | .meth o f es, σ, h, Q, X => wpE G o σ h (fun x h1 => ∃ c ns vs, rdI h1 x = some (c, ns, vs) ∧ G.isMe c f = true ∧ flook ns vs f = none ∧ wpEs G es σ h1 (fun xs h2 => G.me c f (x :: xs) h2 Q X) X) X
  | .ise i t, σ, h, Q, _ => ∃ c b, σ[i]? = some none ∧ G.xs = some (i, c) ∧ G.sub c t = some b ∧ Q (.bl b) h
  | .bi f m es, σ, h, Q, X => wpEs G es σ h (fun xs h1 => biW m f xs h1 Q) X
  | .bm f o es, σ, h, Q, X => wpE G o σ h (fun x h1 => recOk f x h1 ∧ wpEs G es σ h1 (fun xs h2 => bmW f x xs h2 Q) X) X
  | .comp m elt tg it cond vs, σ, h, Q, X => wpI G it σ h (fun J h1 => compL J.stay (fun x h2 K => tgW tg x (wipe σ vs) h2 fun σ2 =>
      wpC G cond σ2 h2 (fun b h3 => if b = true then wpE G elt σ2 h3 (fun y h4 => K (some y) h4) (fun _ _ => False) else K none h3) (fun _ _ => False)) J.xs [] h1 (fun acc h5 => mkL m acc h5 Q)) X
noncomputable def wpEs (G : Gam) : Es → DSt → Hd → (List D → Hd → Prop) → EK → Prop
  | .nil, _, h, Q, _ => Q [] h
  | .cons e r, σ, h, Q, X => wpE G e σ h (fun x h1 => wpEs G r σ h1 (fun xs h2 => Q (x :: xs) h2) X) X
noncomputable def wpO (G : Gam) : Oe → DSt → Hd → (Option Int → Hd → Prop) → EK → Prop
  | .none, _, h, Q, _ => Q none h
  | .some e, σ, h, Q, X => wpE G e σ h (fun x h1 => ∃ i, x = .int i ∧ Q (some i) h1) X
noncomputable def wpC (G : Gam) : Oe → DSt → Hd → (Bool → Hd → Prop) → EK → Prop
  | .none, _, h, Q, _ => Q true h
  | .some e, σ, h, Q, X => wpE G e σ h (fun x h1 => ∃ b, x = .bl b ∧ Q b h1) X
noncomputable def wpI (G : Gam) : It → DSt → Hd → (Itm → Hd → Prop) → EK → Prop
  | .val e, σ, h, Q, X => wpE G e σ h (fun x h1 => ∃ xs, rdS h1 x = some xs ∧ Q ⟨xs, fun h' => rdS h' x = some xs⟩ h1) X
  | .rng1 a, σ, h, Q, X => wpE G a σ h (fun x h1 => ∃ j, x = .int j ∧ R62 j ∧ Q ⟨rngN 0 j, fun _ => True⟩ h1) X
  | .rng2 a b, σ, h, Q, X => wpE G a σ h (fun x h1 => wpE G b σ h1 (fun y h2 => ∃ i j, x = .int i ∧ y = .int j ∧ R62 i ∧ R62 j ∧ Q ⟨rngN i j, fun _ => True⟩ h2) X) X
  | .rng3 a b c, σ, h, Q, X => wpE G a σ h (fun x h1 => wpE G b σ h1 (fun y h2 => wpE G c σ h2 (fun z h3 => ∃ i j k n, x = .int i ∧ y = .int j ∧ z = .int k ∧ Rg3 i j k n ∧ Q ⟨rngC i k n, fun _ => True⟩ h3) X) X) X
  | .rngb a b, σ, h, Q, X => wpE G a σ h (fun x h1 => wpE G b σ h1 (fun y h2 => ∃ i j, x = .int i ∧ y = .int j ∧ Q ⟨rngN i j, fun _ => True⟩ h2) X) X
  | .zip a b, σ, h, Q, X => wpE G a σ h (fun x h1 => wpE G b σ h1 (fun y h2 => ∃ xs ys, rd2 h2 x y = some (xs, ys) ∧
      Q ⟨(xs.zip ys).map fun p => .tup [p.1, p.2], fun h' => rd2 h' x y = some (xs, ys)⟩ h2) X) X
  | .enum a, σ, h, Q, X => wpE G a σ h (fun x h1 => ∃ xs, rdS h1 x = some xs ∧ Q ⟨xs.zipIdx.map fun p => .tup [.int p.2, p.1], fun h' => rdS h' x = some xs⟩ h1) X
  | .chs a, σ, h, Q, X => wpE G a σ h (fun x h1 => ∃ z, x = .str z ∧ Q ⟨chsD z, fun _ => True⟩ h1) X
  | .kys a, σ, h, Q, X => wpE G a σ h (fun x h1 => ∃ r kvs, x = .ref r ∧ h1[r]? = some (.dk false kvs) ∧ Q ⟨kvs.map fun kv => keyV kv.1, fun h' => h'[r]? = some (.dk true kvs)⟩ (h1.set r (.dk true kvs))) X
  | .rev a, σ, h, Q, X => wpE G a σ h (fun x h1 => ∃ xs, rdS h1 x = some xs ∧ Q ⟨xs.reverse, fun h' => rdS h' x = some xs⟩ h1) X
noncomputable def wpAnd (G : Gam) : Es → DSt → Hd → DK → EK → Prop
  | .nil, _, _, _, _ => False
  | .cons e r, σ, h, Q, X => match r with
    | .nil => wpE G e σ h Q X
    | r => wpE G e σ h (fun x h1 => ∃ b, x = .bl b ∧ if b = true then wpAnd G r σ h1 Q X else Q (.bl false) h1) X
noncomputable def wpOr (G : Gam) : Es → DSt → Hd → DK → EK → Prop
  | .nil, _, _, _, _ => False
  | .cons e r, σ, h, Q, X => match r with
    | .nil => wpE G e σ h Q X
    | r => wpE G e σ h (fun x h1 => ∃ b, x = .bl b ∧ if b = true then Q (.bl true) h1 else wpOr G r σ h1 Q X) X
end
/-- a test -/
noncomputable def wpT (G : Gam) (e : E) (σ : DSt) (h : Hd) (Q : Bool → Hd → Prop) (X : EK) : Prop := wpE G e σ h (fun x h1 => ∃ b, x = .bl b ∧ Q b h1) X

/-! ### statements -/
structure Ends where
  nx : DSt → Hd → Prop
  rt : DK
  bk : DSt → Hd → Prop := fun _ _ => False
  ct : DSt → Hd → Prop := fun _ _ => False
noncomputable abbrev XS := String → DSt → Hd → Prop
noncomputable def forL (stay : Hd → Prop) (t : D → DSt → Hd → Ends → Prop) : List D → DSt → Hd → Ends → Prop
  | [], σ, h, K => stay h ∧ K.nx σ h
  | x :: xs, σ, h, K => stay h ∧ t x σ h { K with nx := fun σ' h' => forL stay t xs σ' h' K, ct := fun σ' h' => forL stay t xs σ' h' K, bk := K.nx }
noncomputable def whlL (c : DSt → Hd → (Bool → Hd → Prop) → Prop) (t : DSt → Hd → Ends → Prop) : Nat → DSt → Hd → Ends → Prop
  | 0, _, _, _ => False
  | n + 1, σ, h, K => c σ h fun b h1 => if b = true then t σ h1 { K with nx := fun σ' h' => whlL c t n σ' h' K, ct := fun σ' h' => whlL c t n σ' h' K, bk := K.nx } else K.nx σ h1
mutual
noncomputable def wpS (G : Gam) : S → DSt → Hd → Ends → XS → Prop
  | .set t e, σ, h, K, X => wpE G e σ h (fun x h1 => tgW t x σ h1 fun σ' => K.nx σ' h1) (fun c h' => X c σ h')
  | .par i j a b, σ, h, K, X => wpE G a σ h (fun x h1 => wpE G b σ h1 (fun y h2 => K.nx ((σ.set i (some x)).set j (some y)) h2) (fun c h' => X c σ h')) (fun c h' => X c σ h')
  | .sub o i e, σ, h, K, X => wpE G e σ h (fun v h1 => wpE G o σ h1 (fun x h2 => wpE G i σ h2 (fun y h3 => ∃ r k xs j, x = .ref r ∧ y = .int k ∧ h3[r]? = some (.lst xs) ∧ L2.ixN xs.length k = some j ∧
      K.nx σ (h3.set r (.lst (xs.set j v)))) (fun c h' => X c σ h')) (fun c h' => X c σ h')) (fun c h' => X c σ h')
  | .dput o i e, σ, h, K, X => wpE G e σ h (fun v h1 => wpE G o σ h1 (fun x h2 => wpE G i σ h2 (fun y h3 => dputW x y v h3 fun h4 => K.nx σ h4) (fun c h' => X c σ h')) (fun c h' => X c σ h')) (fun c h' => X c σ h')
  | .fset o f e, σ, h, K, X => wpE G e σ h (fun v h1 => wpE G o σ h1 (fun x h2 => ∃ r c ns vs, x = .ref r ∧ h2[r]? = some (.ins c ns vs) ∧ G.fldOk c f = true ∧ ns.length < 1000 ∧
      K.nx σ (h2.set r (.ins c (fput ns vs f v).1 (fput ns vs f v).2))) (fun c h' => X c σ h')) (fun c h' => X c σ h')
  | .aug i o e, σ, h, K, X => ∃ x, σ[i]? = some (some x) ∧ wpE G e σ h (fun y h1 => ∃ a b, x = .int a ∧ y = .int b ∧ ((o = .add ∧ K.nx (σ.set i (some (.int (a + b)))) h1) ∨ (o = .sub ∧ K.nx (σ.set i (some (.int (a - b)))) h1))) (fun c h' => X c σ h')
  | .ex e, σ, h, K, X => wpE G e σ h (fun _ h1 => K.nx σ h1) (fun c h' => X c σ h')
  | .ret e, σ, h, K, X => wpE G e σ h K.rt (fun c h' => X c σ h')
  | .retN, _, h, K, _ => K.rt .non h
  | .ite c a b, σ, h, K, X => wpT G c σ h (fun k h1 => if k = true then wpSs G a σ h1 K X else wpSs G b σ h1 K X) (fun c h' => X c σ h')
  | .whl c b, σ, h, K, X => ∃ n, whlL (fun σ h Q => wpT G c σ h Q (fun c h' => X c σ h')) (fun σ h K => wpSs G b σ h K X) n σ h K
  | .fr t it b, σ, h, K, X => wpI G it σ h (fun J h1 => forL J.stay (fun x σ h K => tgW t x σ h fun σ' => wpSs G b σ' h K X) J.xs σ h1 K) (fun c h' => X c σ h')
  | .raise c, σ, h, _, X => G.isEx c = true ∧ X c σ h
  | .try b c as hh, σ, h, K, X => G.isTr c = true ∧ wpSs G b σ h K (fun c' σ' h' => match G.exm c' c, as with
    | some true, some i => wpSs (G.inx i c') hh (σ'.set i none) h' { nx := fun s => K.nx (s.set i none), rt := K.rt, bk := fun s => K.bk (s.set i none), ct := fun s => K.ct (s.set i none) } (fun _ _ _ => False)
    | some true, none => wpSs G hh σ' h' K (fun _ _ _ => False)
    | some false, _ => X c' σ' h'
    | none, _ => False)
  | .pass, σ, h, K, _ => K.nx σ h
  | .brk, σ, h, K, _ => K.bk σ h
  | .cont, σ, h, K, _ => K.ct σ h
noncomputable def wpSs (G : Gam) : Ss → DSt → Hd → Ends → XS → Prop
  | .nil, σ, h, K, _ => K.nx σ h
  | .cons s r, σ, h, K, X => wpS G s σ h { K with nx := fun σ' h' => wpSs G r σ' h' K X } X
end
end Vd

set_option Elab.async false
set_option linter.all false
set_option maxRecDepth 100000
/-! min(xs, default=None), max(xs, default=None) of lists of ints; printed by genmm.py -/
namespace VdMm
open PySem PySem.Spec PyProof.Rows
section
variable {prog : Program} {w : World} {A : Around} {E : Value → Shared → Prop} {s : Shared}
theorem tree_kw {id : String} {b : Builtin} {args : List Value} {kw : List (Str × Value)} {Q : Value → Shared → Prop} (hk : builtinKind id = none) (hp : plainId id = true)
    (hb : entryFor table id = some b) (ha : argsOk id ⟨args, kw⟩)
    (hc : wpAny (model prog w) A.in1 (b ⟨args, kw⟩) (fun fin s' => match fin with
      | .done f => (match (Except.ok f : Result) with | .ok (.ret v) => Q v s' | .ok _ => False | .error e => E e s')
      | .again c' => c'.quiet = true ∧ codeAny (model prog w) A c' (fun r s' => match r with | .ok (.ret v) => Q v s' | .ok _ => False | .error e => E e s') s') E s) :
    wpAny (model prog w) A (call (.builtin id) args kw) Q E s := by
  refine wpAny_call (codeAny_call_builtin hp hb ?_)
  simp only [checkBuiltinCall, hk]
  cases hsig : Manifest.signature? id with
  | none => exact wpAny_pure hc
  | some sig =>
    simp only [argsOk, hsig] at ha
    have h2 : Bind.checkArgs id sig ⟨args, kw⟩ = pure () := ha
    show wpAny _ A.in1 (Bind.checkArgs id sig ⟨args, kw⟩) _ _ s
    rw [h2]; exact wpAny_pure hc
end

section
variable {prog : Program} {w : World} {A : Around} {R : Result → Shared → Prop} {I : Addr} {fp wr : List Addr} {n : Nat} {P : Nat → Value → Prop} {St : Nat → Heap → Prop}
theorem maxd_loop (W : Walks prog w A.in1 I fp wr n P St) (bt : Nat → Nat → Bool) (hcmp : CmpOf prog w A.in1 .Gt P bt) (S : Addr) (hSf : S ∉ fp) (kw : List (Str × Value)) :
    ∀ (k j : Nat) (s : Shared) (vb : Value) (c : Nat), n - (j + 1) = k → j + 1 ≤ n → St (j + 1) s.heap → P (argBest bt j) vb →
    s.heap.get? S = some { cls := .type "list", dict := none, data := .seq #[vb, vb] c, slots := #[] } →
    (∀ v h' tk, P (argBest bt (n - 1)) v → (∀ b o, b ∉ wr → b ≠ S → s.heap.get? b = some o → h'.get? b = some o) → R (.ok (.ret v)) { s with heap := h', toks := tk }) →
    codeAny (model prog w) A (.builtin "max.loop" ⟨[.ref I, .none, .ref S], kw⟩) R s := by
  have hSw : S ∉ wr := fun h => hSf (W.sub _ h)
  have hname : (toString "max" ++ toString ".loop" : String) = "max.loop" := by decide
  intro k
  induction k with
  | zero =>
    intro j s vb c hk hj hst hPb hS hR
    have hin : j + 1 = n := by omega
    refine codeAny_builtin F.entry_max_loop ?_
    rw [Around.under_plainId F.plain_max_loop _]
    show wpAny _ A.in1 (seqItems? (.ref S) >>= _) _ _ s
    refine wpAny_bind (wpAny_seqItems hS rfl ?_)
    show wpAny _ A.in1 (tryCatch (pyNext (.ref I)) _ >>= _) _ _ s
    refine wpAny_bind (wpAny_tryCatch (W.done s _ _ (hin ▸ hst) fun h' tk hk' => ?_))
    have hS' := hk' S _ hSw hS
    show wpAny _ A.in1 (updateSeq S (fun _ => #[]) >>= _) _ _ _
    refine wpAny_bind ?_
    refine wpAny_updateSeq hS' rfl (wpAny_bind (wpAny_letGo (wpAny_pure ?_)))
    refine hR vb _ tk (by rw [← hin]; exact hPb) fun b o hbw hbS e => (Heap.get?_update_other _ _ (Ne.symm hbS)).trans (hk' b o hbw e)
  | succ k ih =>
    intro j s vb c hk hj hst hPb hS hR
    have hlt : j + 1 < n := by omega
    refine codeAny_builtin F.entry_max_loop ?_
    rw [Around.under_plainId F.plain_max_loop _]
    show wpAny _ A.in1 (seqItems? (.ref S) >>= _) _ _ s
    refine wpAny_bind (wpAny_seqItems hS rfl ?_)
    show wpAny _ A.in1 (tryCatch (pyNext (.ref I)) _ >>= _) _ _ s
    refine wpAny_bind (wpAny_tryCatch (W.item (j + 1) s _ _ hlt hst fun v h' tk hP hst' hk' => ?_))
    have hS' := hk' S _ hSw hS
    show wpAny _ A.in1 (tryCatch (holding [v, v] (richCompare .Gt v vb >>= _)) _ >>= _) _ _ _
    refine wpAny_bind (wpAny_tryCatch (wpAny_holding (wpAny_bind (hcmp (j + 1) (argBest bt j) v vb _ _ _ hP hPb ?_))))
    refine wpAny_bind (wpAny_holding (wpAny_truthy_bool ?_))
    refine wpAny_bind (wpAny_letGo (wpAny_pure ?_))
    cases hb : bt (j + 1) (argBest bt j) with
    | true =>
      simp only [if_true]
      refine wpAny_bind ?_
      refine wpAny_updateSeq hS' rfl (wpAny_bind (wpAny_letGo ?_))
      rw [hname]
      refine wpAny_pure ⟨plainId_quiet F.plain_max_loop _, ih (j + 1) _ v _ (by omega) hlt (W.frame _ _ _ hst' fun b hbf o e => ?_) (by simp only [argBest, hb, if_true]; exact hP) (Heap.get?_update_self _ hS' rfl)
        fun v' h'' tk'' hP' hk'' => ?_⟩
      · exact (Heap.get?_update_other _ _ (fun h : S = b => hSf (by rw [h]; exact hbf))).trans e
      · exact hR v' h'' tk'' hP' fun b o hbw hbS e => hk'' b o hbw hbS ((Heap.get?_update_other _ _ (Ne.symm hbS)).trans (hk' b o hbw e))
    | false =>
      simp only [Bool.false_eq_true, if_false]
      refine wpAny_bind (wpAny_letGo ?_)
      rw [hname]
      refine wpAny_pure ⟨plainId_quiet F.plain_max_loop _, ih (j + 1) _ vb c (by omega) hlt hst' (by simp only [argBest, hb, Bool.false_eq_true, if_false]; exact hPb) hS' fun v' h'' tk'' hP' hk'' => ?_⟩
      exact hR v' h'' tk'' hP' fun b o hbw hbS e => hk'' b o hbw hbS (hk' b o hbw e)
theorem maxd_first (W : Walks prog w A.in1 I fp wr n P St) (bt : Nat → Nat → Bool) (hcmp : CmpOf prog w A.in1 .Gt P bt) (S : Addr) (hSf : S ∉ fp) (kw : List (Str × Value)) (hn : 0 < n) {s : Shared} {c : Nat} (hst : St 0 s.heap)
    (hS : s.heap.get? S = some { cls := .type "list", dict := none, data := .seq #[] c, slots := #[] })
    (hR : ∀ v h' tk, P (argBest bt (n - 1)) v → (∀ b o, b ∉ wr → b ≠ S → s.heap.get? b = some o → h'.get? b = some o) → R (.ok (.ret v)) { s with heap := h', toks := tk }) :
    codeAny (model prog w) A (.builtin "max.loop" ⟨[.ref I, .none, .ref S], kw⟩) R s := by
  have hSw : S ∉ wr := fun h => hSf (W.sub _ h)
  have hname : (toString "max" ++ toString ".loop" : String) = "max.loop" := by decide
  refine codeAny_builtin F.entry_max_loop ?_
  rw [Around.under_plainId F.plain_max_loop _]
  show wpAny _ A.in1 (seqItems? (.ref S) >>= _) _ _ s
  refine wpAny_bind (wpAny_seqItems hS rfl ?_)
  show wpAny _ A.in1 (tryCatch (pyNext (.ref I)) _ >>= _) _ _ s
  refine wpAny_bind (wpAny_tryCatch (W.item 0 s _ _ hn hst fun v h' tk hP hst' hk' => ?_))
  have hS' := hk' S _ hSw hS
  show wpAny _ A.in1 (updateSeq S (fun _ => #[v, v]) >>= _) _ _ _
  refine wpAny_bind ?_
  refine wpAny_updateSeq hS' rfl ?_
  rw [hname]
  refine wpAny_pure ⟨plainId_quiet F.plain_max_loop _, maxd_loop W bt hcmp S hSf kw _ 0 _ v _ rfl hn (W.frame _ _ _ hst' fun b hbf o e => ?_) hP (Heap.get?_update_self _ hS' rfl) fun v' h'' tk'' hP' hk'' => ?_⟩
  · exact (Heap.get?_update_other _ _ (fun h : S = b => hSf (by rw [h]; exact hbf))).trans e
  · exact hR v' h'' tk'' hP' fun b o hbw hbS e => hk'' b o hbw hbS ((Heap.get?_update_other _ _ (Ne.symm hbS)).trans (hk' b o hbw e))
theorem maxd_none (W : Walks prog w A.in1 I fp wr 0 P St) (S : Addr) (hSf : S ∉ fp) (k : Str) (d : Value) {s : Shared} {c : Nat} (hst : St 0 s.heap)
    (hS : s.heap.get? S = some { cls := .type "list", dict := none, data := .seq #[] c, slots := #[] })
    (hR : ∀ h' tk, (∀ b o, b ∉ wr → b ≠ S → s.heap.get? b = some o → h'.get? b = some o) → R (.ok (.ret d)) { s with heap := h', toks := tk }) :
    codeAny (model prog w) A (.builtin "max.loop" ⟨[.ref I, .none, .ref S], [(k, d)]⟩) R s := by
  have hSw : S ∉ wr := fun h => hSf (W.sub _ h)
  refine codeAny_builtin F.entry_max_loop ?_
  rw [Around.under_plainId F.plain_max_loop _]
  show wpAny _ A.in1 (seqItems? (.ref S) >>= _) _ _ s
  refine wpAny_bind (wpAny_seqItems hS rfl ?_)
  show wpAny _ A.in1 (tryCatch (pyNext (.ref I)) _ >>= _) _ _ s
  refine wpAny_bind (wpAny_tryCatch (W.done s _ _ hst fun h' tk hk' => ?_))
  show wpAny _ A.in1 (PySem.rule _ >>= _) _ _ _
  refine wpAny_bind (wpAny_rule (wpAny_pure ?_))
  exact hR _ tk fun b o hbw hbS e => hk' b o hbw e
end
section
variable {prog : Program} {w : World} {A : Around} {E : Value → Shared → Prop} {s : Shared} {l : Addr} {xs : Array (Int × Tok)}
theorem args_maxd (a d : Value) : argsOk "max" ⟨[a], [("default", d)]⟩ := by unfold argsOk; kernel_rfl
theorem maxd_list {d : Value} {Q : Value → Shared → Prop} (hh : A.handled = none) (hl : s.heap.IsList l (intItems xs))
    (h0 : xs.size = 0 → ∀ h' tk, (∀ b o, s.heap.get? b = some o → h'.get? b = some o) → Q d { s with heap := h', toks := tk })
    (h : 0 < xs.size → ∀ v h' tk, (intItems xs)[argBest (fun i j => decide (numAt xs i > numAt xs j)) (xs.size - 1)]? = some v → (∀ b o, s.heap.get? b = some o → h'.get? b = some o) → Q v { s with heap := h', toks := tk }) :
    wpAny (model prog w) A (call (.builtin "max") [.ref l] [("default", d)]) Q E s := by
  have hname : (toString "max" ++ toString ".loop" : String) = "max.loop" := by decide
  refine tree_kw F.kind_max F.plain_max F.entry_max (args_maxd _ _) ?_
  show wpAny _ A.in1 (Builtin.Builtins.bindParams "max" ["key", "default"] 0 ⟨[], [("default", d)]⟩ >>= _) _ _ s
  refine wpAny_bind (wpAny_of_eq (show Builtin.Builtins.bindParams "max" ["key", "default"] 0 ⟨[], [("default", d)]⟩ = pure [none, some d] from rfl) ?_)
  refine wpAny_bind (wpAny_pure ?_)
  refine wpAny_bind (iter_intList hl fun s₂ e st hfp hlI => ?_)
  refine wpAny_bind (wpAny_newObj_type ?_)
  have hSf : s₂.heap.objs.size ∉ [s.heap.objs.size, l] := fun hm => Nat.lt_irrefl _ (hfp _ hm)
  rw [hname]
  subst e
  have W := Walks.list (prog := prog) (w := w) (A := A.in1) hh s.heap.objs.size l hlI (intItems xs)
  refine wpAny_pure ⟨plainId_quiet F.plain_max_loop _, ?_⟩
  by_cases hz : xs.size = 0
  · have hz' : (intItems xs).size = 0 := by simpa [intItems] using hz
    rw [hz'] at W
    refine maxd_none W _ hSf _ d (W.frame _ _ _ st fun b _ o e => Heap.get?_push_of_some _ e) (Heap.get?_push_size _ rfl) fun h' tk hk => ?_
    exact h0 hz h' tk (old_kept fun b o hbw e => hk b o hbw (Nat.ne_of_lt (Heap.lt_size e)) (Heap.get?_push_of_some _ e))
  · refine maxd_first W _ (CmpOf.ints_gt (numAt xs) (fun _ _ => intItems_at)) _ hSf _ (by simp [intItems]; omega) (W.frame _ _ _ st fun b _ o e => Heap.get?_push_of_some _ e) (Heap.get?_push_size _ rfl) fun v h' tk hP hk => ?_
    exact h (by omega) v h' tk (by simpa [intItems] using hP) (old_kept fun b o hbw e => hk b o hbw (Nat.ne_of_lt (Heap.lt_size e)) (Heap.get?_push_of_some _ e))
end

section
variable {prog : Program} {w : World} {A : Around} {R : Result → Shared → Prop} {I : Addr} {fp wr : List Addr} {n : Nat} {P : Nat → Value → Prop} {St : Nat → Heap → Prop}
theorem mind_loop (W : Walks prog w A.in1 I fp wr n P St) (bt : Nat → Nat → Bool) (hcmp : CmpOf prog w A.in1 .Lt P bt) (S : Addr) (hSf : S ∉ fp) (kw : List (Str × Value)) :
    ∀ (k j : Nat) (s : Shared) (vb : Value) (c : Nat), n - (j + 1) = k → j + 1 ≤ n → St (j + 1) s.heap → P (argBest bt j) vb →
    s.heap.get? S = some { cls := .type "list", dict := none, data := .seq #[vb, vb] c, slots := #[] } →
    (∀ v h' tk, P (argBest bt (n - 1)) v → (∀ b o, b ∉ wr → b ≠ S → s.heap.get? b = some o → h'.get? b = some o) → R (.ok (.ret v)) { s with heap := h', toks := tk }) →
    codeAny (model prog w) A (.builtin "min.loop" ⟨[.ref I, .none, .ref S], kw⟩) R s := by
  have hSw : S ∉ wr := fun h => hSf (W.sub _ h)
  have hname : (toString "min" ++ toString ".loop" : String) = "min.loop" := by decide
  intro k
  induction k with
  | zero =>
    intro j s vb c hk hj hst hPb hS hR
    have hin : j + 1 = n := by omega
    refine codeAny_builtin F.entry_min_loop ?_
    rw [Around.under_plainId F.plain_min_loop _]
    show wpAny _ A.in1 (seqItems? (.ref S) >>= _) _ _ s
    refine wpAny_bind (wpAny_seqItems hS rfl ?_)
    show wpAny _ A.in1 (tryCatch (pyNext (.ref I)) _ >>= _) _ _ s
    refine wpAny_bind (wpAny_tryCatch (W.done s _ _ (hin ▸ hst) fun h' tk hk' => ?_))
    have hS' := hk' S _ hSw hS
    show wpAny _ A.in1 (updateSeq S (fun _ => #[]) >>= _) _ _ _
    refine wpAny_bind ?_
    refine wpAny_updateSeq hS' rfl (wpAny_bind (wpAny_letGo (wpAny_pure ?_)))
    refine hR vb _ tk (by rw [← hin]; exact hPb) fun b o hbw hbS e => (Heap.get?_update_other _ _ (Ne.symm hbS)).trans (hk' b o hbw e)
  | succ k ih =>
    intro j s vb c hk hj hst hPb hS hR
    have hlt : j + 1 < n := by omega
    refine codeAny_builtin F.entry_min_loop ?_
    rw [Around.under_plainId F.plain_min_loop _]
    show wpAny _ A.in1 (seqItems? (.ref S) >>= _) _ _ s
    refine wpAny_bind (wpAny_seqItems hS rfl ?_)
    show wpAny _ A.in1 (tryCatch (pyNext (.ref I)) _ >>= _) _ _ s
    refine wpAny_bind (wpAny_tryCatch (W.item (j + 1) s _ _ hlt hst fun v h' tk hP hst' hk' => ?_))
    have hS' := hk' S _ hSw hS
    show wpAny _ A.in1 (tryCatch (holding [v, v] (richCompare .Lt v vb >>= _)) _ >>= _) _ _ _
    refine wpAny_bind (wpAny_tryCatch (wpAny_holding (wpAny_bind (hcmp (j + 1) (argBest bt j) v vb _ _ _ hP hPb ?_))))
    refine wpAny_bind (wpAny_holding (wpAny_truthy_bool ?_))
    refine wpAny_bind (wpAny_letGo (wpAny_pure ?_))
    cases hb : bt (j + 1) (argBest bt j) with
    | true =>
      simp only [if_true]
      refine wpAny_bind ?_
      refine wpAny_updateSeq hS' rfl (wpAny_bind (wpAny_letGo ?_))
      rw [hname]
      refine wpAny_pure ⟨plainId_quiet F.plain_min_loop _, ih (j + 1) _ v _ (by omega) hlt (W.frame _ _ _ hst' fun b hbf o e => ?_) (by simp only [argBest, hb, if_true]; exact hP) (Heap.get?_update_self _ hS' rfl)
        fun v' h'' tk'' hP' hk'' => ?_⟩
      · exact (Heap.get?_update_other _ _ (fun h : S = b => hSf (by rw [h]; exact hbf))).trans e
      · exact hR v' h'' tk'' hP' fun b o hbw hbS e => hk'' b o hbw hbS ((Heap.get?_update_other _ _ (Ne.symm hbS)).trans (hk' b o hbw e))
    | false =>
      simp only [Bool.false_eq_true, if_false]
      refine wpAny_bind (wpAny_letGo ?_)
      rw [hname]
      refine wpAny_pure ⟨plainId_quiet F.plain_min_loop _, ih (j + 1) _ vb c (by omega) hlt hst' (by simp only [argBest, hb, Bool.false_eq_true, if_false]; exact hPb) hS' fun v' h'' tk'' hP' hk'' => ?_⟩
      exact hR v' h'' tk'' hP' fun b o hbw hbS e => hk'' b o hbw hbS (hk' b o hbw e)
theorem mind_first (W : Walks prog w A.in1 I fp wr n P St) (bt : Nat → Nat → Bool) (hcmp : CmpOf prog w A.in1 .Lt P bt) (S : Addr) (hSf : S ∉ fp) (kw : List (Str × Value)) (hn : 0 < n) {s : Shared} {c : Nat} (hst : St 0 s.heap)
    (hS : s.heap.get? S = some { cls := .type "list", dict := none, data := .seq #[] c, slots := #[] })
    (hR : ∀ v h' tk, P (argBest bt (n - 1)) v → (∀ b o, b ∉ wr → b ≠ S → s.heap.get? b = some o → h'.get? b = some o) → R (.ok (.ret v)) { s with heap := h', toks := tk }) :
    codeAny (model prog w) A (.builtin "min.loop" ⟨[.ref I, .none, .ref S], kw⟩) R s := by
  have hSw : S ∉ wr := fun h => hSf (W.sub _ h)
  have hname : (toString "min" ++ toString ".loop" : String) = "min.loop" := by decide
  refine codeAny_builtin F.entry_min_loop ?_
  rw [Around.under_plainId F.plain_min_loop _]
  show wpAny _ A.in1 (seqItems? (.ref S) >>= _) _ _ s
  refine wpAny_bind (wpAny_seqItems hS rfl ?_)
  show wpAny _ A.in1 (tryCatch (pyNext (.ref I)) _ >>= _) _ _ s
  refine wpAny_bind (wpAny_tryCatch (W.item 0 s _ _ hn hst fun v h' tk hP hst' hk' => ?_))
  have hS' := hk' S _ hSw hS
  show wpAny _ A.in1 (updateSeq S (fun _ => #[v, v]) >>= _) _ _ _
  refine wpAny_bind ?_
  refine wpAny_updateSeq hS' rfl ?_
  rw [hname]
  refine wpAny_pure ⟨plainId_quiet F.plain_min_loop _, mind_loop W bt hcmp S hSf kw _ 0 _ v _ rfl hn (W.frame _ _ _ hst' fun b hbf o e => ?_) hP (Heap.get?_update_self _ hS' rfl) fun v' h'' tk'' hP' hk'' => ?_⟩
  · exact (Heap.get?_update_other _ _ (fun h : S = b => hSf (by rw [h]; exact hbf))).trans e
  · exact hR v' h'' tk'' hP' fun b o hbw hbS e => hk'' b o hbw hbS ((Heap.get?_update_other _ _ (Ne.symm hbS)).trans (hk' b o hbw e))
theorem mind_none (W : Walks prog w A.in1 I fp wr 0 P St) (S : Addr) (hSf : S ∉ fp) (k : Str) (d : Value) {s : Shared} {c : Nat} (hst : St 0 s.heap)
    (hS : s.heap.get? S = some { cls := .type "list", dict := none, data := .seq #[] c, slots := #[] })
    (hR : ∀ h' tk, (∀ b o, b ∉ wr → b ≠ S → s.heap.get? b = some o → h'.get? b = some o) → R (.ok (.ret d)) { s with heap := h', toks := tk }) :
    codeAny (model prog w) A (.builtin "min.loop" ⟨[.ref I, .none, .ref S], [(k, d)]⟩) R s := by
  have hSw : S ∉ wr := fun h => hSf (W.sub _ h)
  refine codeAny_builtin F.entry_min_loop ?_
  rw [Around.under_plainId F.plain_min_loop _]
  show wpAny _ A.in1 (seqItems? (.ref S) >>= _) _ _ s
  refine wpAny_bind (wpAny_seqItems hS rfl ?_)
  show wpAny _ A.in1 (tryCatch (pyNext (.ref I)) _ >>= _) _ _ s
  refine wpAny_bind (wpAny_tryCatch (W.done s _ _ hst fun h' tk hk' => ?_))
  show wpAny _ A.in1 (PySem.rule _ >>= _) _ _ _
  refine wpAny_bind (wpAny_rule (wpAny_pure ?_))
  exact hR _ tk fun b o hbw hbS e => hk' b o hbw e
end
section
variable {prog : Program} {w : World} {A : Around} {E : Value → Shared → Prop} {s : Shared} {l : Addr} {xs : Array (Int × Tok)}
theorem args_mind (a d : Value) : argsOk "min" ⟨[a], [("default", d)]⟩ := by unfold argsOk; kernel_rfl
theorem mind_list {d : Value} {Q : Value → Shared → Prop} (hh : A.handled = none) (hl : s.heap.IsList l (intItems xs))
    (h0 : xs.size = 0 → ∀ h' tk, (∀ b o, s.heap.get? b = some o → h'.get? b = some o) → Q d { s with heap := h', toks := tk })
    (h : 0 < xs.size → ∀ v h' tk, (intItems xs)[argBest (fun i j => decide (numAt xs i < numAt xs j)) (xs.size - 1)]? = some v → (∀ b o, s.heap.get? b = some o → h'.get? b = some o) → Q v { s with heap := h', toks := tk }) :
    wpAny (model prog w) A (call (.builtin "min") [.ref l] [("default", d)]) Q E s := by
  have hname : (toString "min" ++ toString ".loop" : String) = "min.loop" := by decide
  refine tree_kw F.kind_min F.plain_min F.entry_min (args_mind _ _) ?_
  show wpAny _ A.in1 (Builtin.Builtins.bindParams "min" ["key", "default"] 0 ⟨[], [("default", d)]⟩ >>= _) _ _ s
  refine wpAny_bind (wpAny_of_eq (show Builtin.Builtins.bindParams "min" ["key", "default"] 0 ⟨[], [("default", d)]⟩ = pure [none, some d] from rfl) ?_)
  refine wpAny_bind (wpAny_pure ?_)
  refine wpAny_bind (iter_intList hl fun s₂ e st hfp hlI => ?_)
  refine wpAny_bind (wpAny_newObj_type ?_)
  have hSf : s₂.heap.objs.size ∉ [s.heap.objs.size, l] := fun hm => Nat.lt_irrefl _ (hfp _ hm)
  rw [hname]
  subst e
  have W := Walks.list (prog := prog) (w := w) (A := A.in1) hh s.heap.objs.size l hlI (intItems xs)
  refine wpAny_pure ⟨plainId_quiet F.plain_min_loop _, ?_⟩
  by_cases hz : xs.size = 0
  · have hz' : (intItems xs).size = 0 := by simpa [intItems] using hz
    rw [hz'] at W
    refine mind_none W _ hSf _ d (W.frame _ _ _ st fun b _ o e => Heap.get?_push_of_some _ e) (Heap.get?_push_size _ rfl) fun h' tk hk => ?_
    exact h0 hz h' tk (old_kept fun b o hbw e => hk b o hbw (Nat.ne_of_lt (Heap.lt_size e)) (Heap.get?_push_of_some _ e))
  · refine mind_first W _ (CmpOf.ints_lt (numAt xs) (fun _ _ => intItems_at)) _ hSf _ (by simp [intItems]; omega) (W.frame _ _ _ st fun b _ o e => Heap.get?_push_of_some _ e) (Heap.get?_push_size _ rfl) fun v h' tk hP hk => ?_
    exact h (by omega) v h' tk (by simpa [intItems] using hP) (old_kept fun b o hbw e => hk b o hbw (Nat.ne_of_lt (Heap.lt_size e)) (Heap.get?_push_of_some _ e))
end
end VdMm

namespace L2
open PySem PySem.Spec PyProof.Rows VdMm
section
variable {X : Cx}
/-- min or max of a list of ints, default=None -/
noncomputable def rMd (K : PySem.W.Frag) (mx : Bool) : List V → List V → Hp → VK → Prop := fun vs zs H Q => ∃ (a : Addr) (ns : List Int), vs = [V.ref a] ∧ zs = [V.non] ∧ SqL K H a (ns.map V.int) ∧ (ns = [] → Q .non H) ∧ ∀ m, m ∈ ns → (∀ y, y ∈ ns → if mx = true then y ≤ m else m ≤ y) → Q (.int m) H
theorem vals_non {ws : List Value} (r : Vals [V.non] ws) : ws = [Value.none] := by
  cases r with
  | cons r t => cases t; cases r; rfl
theorem cr_maxd (hc : X.calm = true) : CallRK X (.builtin "max") ["default"] (rMd X.K true) := by
  intro pins s σ H vs zs us ws Q I r rz h
  obtain ⟨a, ns, rfl, rfl, hs, hn, q⟩ := h
  obtain ⟨its, rv, hl, _⟩ := I.list hs
  rw [Vals.ref1 r, vals_non rz]
  have hi := rv.ints
  obtain ⟨xs, e⟩ := hi.allInts.items
  have hns : ns = xs.toList.map (·.1) := by
    rw [← hi.numsOf, ← nums_intItems, ← e]
  have hl' := hl.isList
  rw [e] at hl'
  have hz : xs.size = ns.length := by rw [hns, List.length_map, Array.length_toList]
  refine maxd_list (I.ok.hd hc) hl' (fun h0 h' tk hk => ⟨.non, H, I.kept hk, rfl, hn (List.length_eq_zero_iff.mp (by omega))⟩) fun h0 v h' tk hv hk => ?_
  obtain ⟨t, rfl⟩ := intItems_at hv
  obtain ⟨h1, h2⟩ := argBest_gt (numAt xs) (xs.size - 1)
  refine ⟨.int _, H, I.kept hk, ⟨_, rfl⟩, q _ ?_ fun b hb => ?_⟩
  · rw [hns, numAt_eq]; exact getD_mem (by rw [List.length_map, Array.length_toList]; omega)
  · rw [hns] at hb
    obtain ⟨j, hj, rfl⟩ := mem_getD hb
    rw [List.length_map, Array.length_toList] at hj
    rw [← numAt_eq]; exact h2 j (by omega)
theorem cr_mind (hc : X.calm = true) : CallRK X (.builtin "min") ["default"] (rMd X.K false) := by
  intro pins s σ H vs zs us ws Q I r rz h
  obtain ⟨a, ns, rfl, rfl, hs, hn, q⟩ := h
  obtain ⟨its, rv, hl, _⟩ := I.list hs
  rw [Vals.ref1 r, vals_non rz]
  have hi := rv.ints
  obtain ⟨xs, e⟩ := hi.allInts.items
  have hns : ns = xs.toList.map (·.1) := by
    rw [← hi.numsOf, ← nums_intItems, ← e]
  have hl' := hl.isList
  rw [e] at hl'
  have hz : xs.size = ns.length := by rw [hns, List.length_map, Array.length_toList]
  refine mind_list (I.ok.hd hc) hl' (fun h0 h' tk hk => ⟨.non, H, I.kept hk, rfl, hn (List.length_eq_zero_iff.mp (by omega))⟩) fun h0 v h' tk hv hk => ?_
  obtain ⟨t, rfl⟩ := intItems_at hv
  obtain ⟨h1, h2⟩ := argBest_lt (numAt xs) (xs.size - 1)
  refine ⟨.int _, H, I.kept hk, ⟨_, rfl⟩, q _ ?_ fun b hb => ?_⟩
  · rw [hns, numAt_eq]; exact getD_mem (by rw [List.length_map, Array.length_toList]; omega)
  · rw [hns] at hb
    obtain ⟨j, hj, rfl⟩ := mem_getD hb
    rw [List.length_map, Array.length_toList] at hj
    rw [← numAt_eq]; exact h2 j (by omega)
end
end L2

set_option Elab.async false
set_option linter.all false
set_option maxRecDepth 100000
/-! enumerate over a tuple (the proof follows the kit's for lists) -/
namespace VdEn
open PySem PySem.Spec PyProof.Rows L2
noncomputable def IteT (K : PySem.W.Frag) (a : Addr) : It :=
  ⟨fun i H => ∃ (xs : List V) (x : V), SqT K H a xs ∧ xs[i]? = some x, fun i H v H' => ∃ T x, v = .ref T ∧ H T = none ∧ H' = upd H T (.tup [.int (i : Nat), x]) ∧ ∀ xs, SqT K H a xs → xs[i]? = some x, fun i H => ∃ xs : List V, SqT K H a xs ∧ xs.length ≤ i⟩
section
variable {prog : Program} {w : World} {A : Around} {E : Value → Shared → Prop} {s : Shared}
theorem enumT_end {e it l : Addr} {i : Nat} {items : Array Value} {old : Value} {Q : Option Value → Shared → Prop} (hh : A.handled = none)
    (he : IsEnum s.heap e it i old) (hit : s.heap.IsTupleIter it l i) (hl : s.heap.IsTuple l items) (hx : items[i]? = none)
    (hQ : ∀ h', Heap.ExtBut it s.heap h' → Q none { s with heap := h' }) : wpAny (model prog w) A (pyNext (.ref e)) Q E s := by
  have hT : s.TypeIs (.ref e) "enumerate" := ⟨_, he, rfl⟩
  unfold pyNext
  refine wpAny_bind (wpAny_attempt (wpAny_callSpecial?_slot (name := Str.ofString "__next__") hT F.slot_enumerate_next
    (wpAny_call_entry F.slot_enumerate_next hT F.entry_enumerate_next ?_ (F.args_enumerate_next_1 _))))
  show wpAny _ _ (field (.ref e) 2 >>= _) _ _ _
  refine wpAny_bind (wpAny_field he rfl (x := .ref it) rfl ?_)
  refine wpAny_bind (wpAny_nextOf_tuple_end hh hit hl hx fun h' x he' hx' => ?_)
  obtain ⟨o, ho, hc⟩ := hx'
  refine wpAny_bind (wpAny_isInstance (T := "StopIteration") (b := true) ⟨o, ho, hc⟩ isSubtype_stop ?_)
  exact wpAny_pure (hQ _ he')
end
set_option maxHeartbeats 1000000 in
theorem meets_enum1 {v : Value} {o : Obj} {H : Heap → Prop} (B : Begins v o H) :
    Meets (Builtin.«enumerate.__new__» ⟨[.type "enumerate", v], []⟩) (fun _ R s => H s.heap ∧
      R (.ok (.ret (.ref (s.heap.push o).objs.size))) { s with heap := (s.heap.push o).push { cls := .type "enumerate", data := .fields #[.none, .bool false, .ref s.heap.objs.size, rawInt 0, .none, .none] } }) :=
  .of_wp fun prog w A R s h => by
    obtain ⟨hp, g, d, tk, os⟩ := s; obtain ⟨h1, h⟩ := h
    have hsub := sub_enumerate
    have q1 : ∀ {A' : Around} {E : Value → Shared → Prop} {Q : Value → Shared → Prop}, Q (.ref hp.objs.size) ⟨hp.push o, g, d, tk, os⟩ → wpAny (model prog w) A' (pyIter v) Q E ⟨hp, g, d, tk, os⟩ :=
      fun q => B.iter prog w _ _ ⟨hp, g, d, tk, os⟩ _ h1 q
    wp_walk using q1
    refine wpAny_stack_any fun st => wpAny_pure ?_
    split
    · rename_i c _ _ _ _ _
      cases (c == Value.type "enumerate")
      · wp_walk using q1
        exact ⟨_, rfl, h⟩
      · wp_walk using q1
        exact ⟨_, rfl, h⟩
    · wp_walk using q1
      exact ⟨_, rfl, h⟩
section
variable {prog : Program} {w : World} {A : Around} {E : Value → Shared → Prop} {s : Shared}
theorem enum_begins1 {v : Value} {o : Obj} {H : Heap → Prop} {Q : Value → Shared → Prop} (B : Begins v o H) (h1 : H s.heap)
    (h : ∀ h', IsEnum h' (s.heap.objs.size + 1) s.heap.objs.size 0 .none → h'.get? s.heap.objs.size = some o → h'.objs.size = s.heap.objs.size + 2 →
      (∀ b o, s.heap.get? b = some o → h'.get? b = some o) → Q (.ref (s.heap.objs.size + 1)) { s with heap := h' }) :
    wpAny (model prog w) A (call (.type "enumerate") [v]) Q E s := by
  refine callType_new F.called_enumerate (by decide) (F.typeCall_enumerate_1 _) (F.newCall_enumerate_1 _) (fun obj => F.args_object_init_2 obj _) F.entry_enumerate_new
    (meets_enum1 B) ⟨h1, ?_⟩
  have hz : (s.heap.push o).objs.size = s.heap.objs.size + 1 := Heap.size_push ..
  show _ ∧ _
  rw [hz]
  have he : IsEnum ((s.heap.push o).push { cls := .type "enumerate", data := .fields #[.none, .bool false, .ref s.heap.objs.size, rawInt 0, .none, .none] }) (s.heap.objs.size + 1) s.heap.objs.size 0 .none := by
    have := Heap.get?_push_size (s.heap.push o) (o := { cls := .type "enumerate", data := .fields #[.none, .bool false, .ref s.heap.objs.size, rawInt 0, .none, .none] }) rfl
    rw [hz] at this; exact this
  refine ⟨⟨_, he, rfl⟩, h _ he (Heap.get?_push_of_some _ (Heap.get?_push_size _ B.free)) (by rw [Heap.size_push, hz]) fun b o x => Heap.get?_push_of_some _ (Heap.get?_push_of_some _ x)⟩
end
theorem turn_enumT {P : Program} {w : World} {K : PySem.W.Frag} {elts : List Expr} {kk : Nat} {tpos : Pos} (a e it : Addr) :
    Turn P w K (.Tuple elts kk tpos) (IteT K a) [e, it] e (fun i h => (∃ old, IsEnum h e it ((i : Nat) : Int) old) ∧ h.IsTupleIter it a i ∧ e ≠ it) where
  mem := by simp
  obj := fun i h st b hb => by
    obtain ⟨⟨old, he⟩, ⟨o, ho, hc, hd⟩, _⟩ := st
    have e' : b = e ∨ b = it := by simpa using hb
    rcases e' with z | z
    · rw [z]; exact ⟨_, he, fun v q => nomatch q⟩
    · rw [z]; exact ⟨o, ho, fun v q => by rw [hd] at q; cases q⟩
  keep := fun i h h' st k => let ⟨⟨old, he⟩, hi, hne⟩ := st; ⟨⟨old, k e (by simp) _ he⟩, hi.at fun o q => k it (by simp) o q, hne⟩
  item := by
    intro X hP hw hK hc i pins s σ H E I hf st hg
    subst hP hw hK
    obtain ⟨⟨old, he⟩, hit, hne⟩ := st
    obtain ⟨xs, x, hq, hx⟩ := hg
    obtain ⟨its, rv, p, hz⟩ := I.tuple hq
    obtain ⟨u, hu, ru⟩ := rv.get hx
    have hel : e < s.heap.objs.size := Heap.lt_size he
    have hil : it < s.heap.objs.size := by obtain ⟨_, q, _⟩ := hit; exact Heap.lt_size q
    have hta : s.heap.IsTuple a its.toArray := p
    have hai : a ≠ it := fun z => by
      obtain ⟨o1, q1, c1, _⟩ := hta
      obtain ⟨o2, q2, c2, _⟩ := hit
      rw [z, q2] at q1
      cases q1
      rw [c2] at c1
      exact absurd c1 (by decide)
    have hae : a ≠ e := fun z => by
      obtain ⟨o1, q1, c1, _⟩ := hta
      rw [z] at q1
      have he' := he
      unfold IsEnum at he'
      rw [he'] at q1
      cases q1
      have c1 : (Value.type "enumerate") = Value.type "tuple" := c1
      exact absurd c1 (by decide)
    have hilt : i < its.toArray.size := by
      have := List.getElem?_eq_some_iff.mp hu
      simpa using this.1
    refine wpAny_pyNext_enum_itemD (Draws.tuple (prog := X.prog) (w := X.w) (A := X.A.in1) (I.ok.hd hc) it a hai its.toArray) he ⟨hit, hta⟩ hilt hne (by simp [hne, Ne.symm hae]) fun x' h' tk hx' ho hst' hT hsz hk => ?_
    obtain ⟨hit', _⟩ := hst'
    have ex : x' = u := by
      have h1 : its.toArray[i]? = some u := by simpa using hu
      rw [h1] at hx'
      exact (Option.some.inj hx').symm
    subst ex
    refine ⟨_, rfl, wpAny_letOwnedTupleGo_enum (s := { s with heap := h', toks := tk + 1 }) ho fun h'' he' sb => ?_⟩
    have hT2 : h''.get? s.heap.objs.size = some { cls := .type "tuple", data := .seq #[.int i tk, x'] } := (sb.2 _ (Nat.ne_of_gt hel)).trans hT
    have new : ObjOk X.prog X.w (upd H s.heap.objs.size (.tup [.int (i : Nat), x])) h'' s.heap.objs.size (.tup [.int (i : Nat), x]) :=
      ⟨by show 2 ≤ sizeLine; decide, [.int i tk, x'], .cons ⟨_, rfl⟩ (.cons ru .nil), ⟨_, hT2, rfl, _, rfl⟩⟩
    have I1 : Inv X pins σ (upd H s.heap.objs.size (.tup [.int (i : Nat), x])) { s with heap := h'', toks := tk + 1 } :=
      I.turnedNew (ch := [e, it]) (fun b ob hb q => (sb.2 b (fun z => hb (by simp [z]))).trans (hk b ob (fun z => hb (by simp [z])) (fun z => hb (by simp [z])) q)) hf (Nat.le_refl _) new
    refine ⟨.ref s.heap.objs.size, _, I1, rfl, ⟨_, x, rfl, I.hok.fresh (Nat.le_refl _), rfl, fun ys hy => by rw [I.tuple_inj hy hq]; exact hx⟩, ⟨⟨x', ?_⟩, hit'.at fun o q => (sb.2 it (Ne.symm hne)).trans q, hne⟩, fun b hb => ?_⟩
    · have e1 : ((i + 1 : Nat) : Int) = (i : Int) + 1 := by omega
      rw [e1]; exact he'
    · have hb' : b < s.heap.objs.size := by
        have e' : b = e ∨ b = it := by simpa using hb
        rcases e' with z | z
        · rw [z]; exact hel
        · rw [z]; exact hil
      rw [upd_ne (Nat.ne_of_lt hb')]
      exact (hf b hb).1
  done := by
    intro X hP hw hK hc i pins s σ H E I hf st hg
    subst hP hw hK
    obtain ⟨⟨old, he⟩, hit, hne⟩ := st
    obtain ⟨xs, hq, hx⟩ := hg
    obtain ⟨its, rv, p, hz⟩ := I.tuple hq
    obtain ⟨f0, f1, f2, f3, f4, f5⟩ := hf it (by simp)
    have hl := rv.length
    have hta : s.heap.IsTuple a its.toArray := p
    exact enumT_end (I.ok.hd hc) he hit hta (by simp; omega) fun h' eb => ⟨rfl, I.turned (t' := s.toks) (fun b o hb q => eb b o hb q) f0 f1 f3 f4 f5⟩
  self := fun A i s Q E st h => let ⟨⟨_, he⟩, _⟩ := st; wpAny_pyIter_enum he h
noncomputable def iEnumA (K : PySem.W.Frag) (ta : TA) : TI := fun σ H R => ta σ H fun vs H1 => ∃ a xs, vs = [.ref a] ∧ ((SqL K H1 a xs ∧ R (Ite K a) H1) ∨ (SqT K H1 a xs ∧ R (IteT K a) H1))
theorem pi_enumA {X : Cx} {e : Expr} {ta : TA} {p pos tpos : Pos} {elts : List Expr} {kk : Nat} (hg : Gl X "enumerate") (hm : X.mg "enumerate" = none) (ha : PA X [e] ta) (hs : starEach [e] X.env = [(false, eval e X.env)] := by rfl) :
    PI X (.Tuple elts kk tpos) (.Call (.Name "enumerate" p) [e] [] pos) (iEnumA X.K ta) := by
  refine ⟨fun pins s σ H R I h => ?_⟩
  refine Call_ (ld_blt I hg hm boot_enumerate (PyProof.Rows.callWith_type1 (thn (ha.run pos pins s σ H _ I h) fun us s1 ⟨vs, H1, I1, r1, q1⟩ => ?_) hs rfl))
  obtain ⟨a, xs, ex, q1⟩ := q1
  subst ex
  have fr : ∀ b, b ∈ [s1.heap.objs.size + 1, s1.heap.objs.size] → FpOk X pins H1 b := fun b hb => by
    have e' : b = s1.heap.objs.size + 1 ∨ b = s1.heap.objs.size := by simpa using hb
    have hle : s1.heap.objs.size ≤ b := by
      rcases e' with z | z
      · rw [z]; exact Nat.le_add_right _ _
      · rw [z]; exact Nat.le_refl _
    exact I1.fpOk hle (I1.hok.fresh hle)
  cases r1 with
  | cons r rr =>
    cases rr
    cases r
    rcases q1 with ⟨hq, q⟩ | ⟨hq, q⟩
    · obtain ⟨its, rv, p', hz⟩ := I1.list hq
      refine call_enumerate_list p'.isList fun h' he hit hsz hk => wpAny_pyIter_enum he ?_
      have I2 : Inv X pins σ H1 { s1 with heap := h' } := I1.kept (t' := s1.toks) hk
      exact ⟨s1.heap.objs.size + 1, [s1.heap.objs.size + 1, s1.heap.objs.size], _, _, H1, rfl, I2, turn_enum a (s1.heap.objs.size + 1) s1.heap.objs.size, ⟨⟨.none, he⟩, hit, Nat.succ_ne_self _⟩, fr, q⟩
    · obtain ⟨its, rv, p', hz⟩ := I1.tuple hq
      refine enum_begins1 (begins_tuple a its.toArray) p' fun h' he hit hsz hk => wpAny_pyIter_enum he ?_
      have I2 : Inv X pins σ H1 { s1 with heap := h' } := I1.kept (t' := s1.toks) hk
      exact ⟨s1.heap.objs.size + 1, [s1.heap.objs.size + 1, s1.heap.objs.size], _, _, H1, rfl, I2, turn_enumT a (s1.heap.objs.size + 1) s1.heap.objs.size, ⟨⟨.none, he⟩, ⟨_, hit, rfl, rfl⟩, Nat.succ_ne_self _⟩, fr, q⟩
end VdEn

set_option Elab.async false
set_option linter.all false
set_option maxRecDepth 100000
/-! range(a, b) of bounds of any size (the proofs follow the kit's for small ones) -/
namespace VdRg
open PySem PySem.Spec PyProof.Rows L2
theorem turn_long {P : Program} {w : World} {K : PySem.W.Frag} {tg : Expr} (it : Addr) (lo : Int) (n : Nat) : Turn P w K tg (Itr lo n) [it] it (fun i h => IsLongIter h it (lo + (i : Nat) * 1) ((n : Int) - (i : Nat)) 1) where
  mem := by simp
  obj := fun i h st b hb => by
    have e : b = it := by simpa using hb
    subst e
    exact ⟨_, st, fun v z => by
      have z' : Data.fields _ = Data.cell v := z
      cases z'⟩
  keep := fun i h h' st k => k it (by simp) _ st
  item := by
    intro X hP hw hK hc i pins s σ H E I hf st hg
    subst hP hw hK
    obtain ⟨f0, f1, f2, f3, f4, f5⟩ := hf it (by simp)
    have W := Walks.longrange (prog := X.prog) (w := X.w) (I.ok.hd hc) it lo 1 n
    refine W.item i s _ _ hg st fun v h' tk hv st' kk => ?_
    obtain ⟨t, rfl⟩ := hv
    have I1 : Inv X pins σ H { s with heap := h', toks := tk } := I.turned (fun b o hb e => kk b o (by simpa using hb) e) f0 f1 f3 f4 f5
    refine ⟨_, rfl, go_of (s := { s with heap := h', toks := tk }) (n := "longrange_iterator") st' rfl rfl (by decide) ⟨.int (lo + i), H, I1, ⟨t, ?_⟩, ⟨rfl, rfl⟩, st', fun b hb => (hf b hb).1⟩⟩
    rw [Int.mul_one]
  done := by
    intro X hP hw hK hc i pins s σ H E I hf st hg
    subst hP hw hK
    obtain ⟨f0, f1, f2, f3, f4, f5⟩ := hf it (by simp)
    exact wpAny_pyNext_long_end (I.ok.hd hc) st (by have : n ≤ i := hg; omega) fun h' eb => ⟨rfl, I.turned (t' := s.toks) (fun b o hb e => eb b o hb e) f0 f1 f3 f4 f5⟩
  self := fun _ _ _ _ _ st h => wpAny_pyIter_longiter st h
theorem turn_longC {P : Program} {w : World} {K : PySem.W.Frag} {tg : Expr} (it : Addr) (lo c : Int) (n : Nat) : Turn P w K tg (Itc lo c n) [it] it (fun i h => IsLongIter h it (lo + (i : Nat) * c) ((n : Int) - (i : Nat)) c) where
  mem := by simp
  obj := fun i h st b hb => by
    have e : b = it := by simpa using hb
    subst e
    exact ⟨_, st, fun v z => by
      have z' : Data.fields _ = Data.cell v := z
      cases z'⟩
  keep := fun i h h' st k => k it (by simp) _ st
  item := by
    intro X hP hw hK hc i pins s σ H E I hf st hg
    subst hP hw hK
    obtain ⟨f0, f1, f2, f3, f4, f5⟩ := hf it (by simp)
    have W := Walks.longrange (prog := X.prog) (w := X.w) (I.ok.hd hc) it lo c n
    refine W.item i s _ _ hg st fun v h' tk hv st' kk => ?_
    obtain ⟨t, rfl⟩ := hv
    have I1 : Inv X pins σ H { s with heap := h', toks := tk } := I.turned (fun b o hb e => kk b o (by simpa using hb) e) f0 f1 f3 f4 f5
    exact ⟨_, rfl, go_of (s := { s with heap := h', toks := tk }) (n := "longrange_iterator") st' rfl rfl (by decide) ⟨.int (lo + (i : Nat) * c), H, I1, ⟨t, rfl⟩, ⟨rfl, rfl⟩, st', fun b hb => (hf b hb).1⟩⟩
  done := by
    intro X hP hw hK hc i pins s σ H E I hf st hg
    subst hP hw hK
    obtain ⟨f0, f1, f2, f3, f4, f5⟩ := hf it (by simp)
    exact wpAny_pyNext_long_end (I.ok.hd hc) st (by have : n ≤ i := hg; omega) fun h' eb => ⟨rfl, I.turned (t' := s.toks) (fun b o hb e => eb b o hb e) f0 f1 f3 f4 f5⟩
  self := fun _ _ _ _ _ st h => wpAny_pyIter_longiter st h
variable {X : Cx} {tg : Expr}
theorem range_itA {pins : List (Addr × Obj)} {σ : L2.St} {H : Hp} {s : Shared} {R : It → Hp → Prop} {E : Value → Shared → Prop} {lo hi : Int} {t u v : Tok} {tk : Nat} (I : Inv X pins σ H s)
    (q : R (Itr lo (hi - lo).toNat) H) : wpAny (model X.prog X.w) X.A (pyIter (.ref s.heap.objs.size)) (PIE X pins σ tg R) E { s with heap := s.heap.push { cls := .type "range", data := .fields #[.int lo t, .int hi u, .int 1 v] }, toks := tk } := by
  have I1 : Inv X pins σ H { s with heap := s.heap.push { cls := .type "range", data := .fields #[.int lo t, .int hi u, .int 1 v] }, toks := tk } := I.kept fun b o e => Heap.get?_push_of_some _ e
  have e1 : lo + ((0 : Nat) : Int) * 1 = lo := by simp
  have e2 : (((hi - lo).toNat : Nat) : Int) - ((0 : Nat) : Int) = Builtin.Range.rangeSize lo hi 1 := by rw [rangeSize_one]; split <;> omega
  have fr : ∀ b, b ∈ [(s.heap.push { cls := .type "range", data := .fields #[.int lo t, .int hi u, .int 1 v] }).objs.size] → FpOk X pins H b := fun b hb => by
    have e : b = (s.heap.push { cls := .type "range", data := .fields #[.int lo t, .int hi u, .int 1 v] }).objs.size := by simpa using hb
    subst e
    exact I1.fpOk (Nat.le_refl _) (I1.hok.fresh (Nat.le_refl _))
  by_cases hsm : Builtin.Range.small lo hi 1 = true
  · refine wpAny_pyIter_range (IsRange.new ..) hsm ?_
    refine ⟨(s.heap.push { cls := .type "range", data := .fields #[.int lo t, .int hi u, .int 1 v] }).objs.size, [(s.heap.push { cls := .type "range", data := .fields #[.int lo t, .int hi u, .int 1 v] }).objs.size], _, _, H, rfl,
      I1.kept (t' := tk) fun b o e => Heap.get?_push_of_some _ e, turn_range _ lo (hi - lo).toNat, ?_, fr, q⟩
    show IsRangeIter _ _ (lo + ((0 : Nat) : Int) * 1) ((((hi - lo).toNat : Nat) : Int) - ((0 : Nat) : Int)) 1
    rw [e1, e2]
    exact Heap.get?_push_size _ rfl
  · refine wpAny_pyIter_longrange (IsRange.new ..) (by simpa using hsm) ?_
    refine ⟨(s.heap.push { cls := .type "range", data := .fields #[.int lo t, .int hi u, .int 1 v] }).objs.size, [(s.heap.push { cls := .type "range", data := .fields #[.int lo t, .int hi u, .int 1 v] }).objs.size], _, _, H, rfl,
      I1.kept (t' := tk) fun b o e => Heap.get?_push_of_some _ e, turn_long _ lo (hi - lo).toNat, ?_, fr, q⟩
    show IsLongIter _ _ (lo + ((0 : Nat) : Int) * 1) ((((hi - lo).toNat : Nat) : Int) - ((0 : Nat) : Int)) 1
    rw [e1, e2]
    exact Heap.get?_push_size _ rfl
noncomputable def iRngA (ta : TA) : TI := fun σ H R => ta σ H fun vs H1 => ∃ i j : Int, vs = [.int i, .int j] ∧ R (Itr i (j - i).toNat) H1
theorem pi_rangeA {a b : Expr} {ta : TA} {p pos : Pos} (hg : Gl X "range") (hm : X.mg "range" = none) (ha : PA X [a, b] ta) (hs : starEach [a, b] X.env = [(false, eval a X.env), (false, eval b X.env)] := by rfl) (hs2 : starEach [b] X.env = [(false, eval b X.env)] := by rfl) :
    PI X tg (.Call (.Name "range" p) [a, b] [] pos) (iRngA ta) := by
  refine ⟨fun pins s σ H R I h => ?_⟩
  refine Call_ (ld_blt I hg hm boot_range (PyProof.Rows.callWith_type1 (thn (ha.run pos pins s σ H _ I h) fun us s1 ⟨vs, H1, I1, r1, q1⟩ => ?_) (by rw [hs, hs2]) (by rw [hs2]; rfl)))
  obtain ⟨i, j, e, q⟩ := q1
  subst e
  cases r1 with
  | cons r rr =>
    cases rr with
    | cons r' rr =>
      cases rr
      obtain ⟨t, rfl⟩ := r
      obtain ⟨t', rfl⟩ := r'
      exact call_range_2 (range_itA I1 q)
/-- range(i, j, c): bounds of any size, n items -/
noncomputable def RgA (i j c : Int) (n : Nat) : Prop := c ≠ 0 ∧ c.natAbs < 1073741824 ∧ Builtin.Range.rangeSize i j c = n
noncomputable def iRngB (ta : TA) : TI := fun σ H R => ta σ H fun vs H1 => ∃ (i j c : Int) (n : Nat), vs = [.int i, .int j, .int c] ∧ RgA i j c n ∧ R (Itc i c n) H1
theorem pi_rangeB {a b c : Expr} {ta : TA} {p pos : Pos} (hg : Gl X "range") (hm : X.mg "range" = none) (ha : PA X [a, b, c] ta)
    (hs : starEach [a, b, c] X.env = (false, eval a X.env) :: starEach [b, c] X.env := by rfl) (hpl : (backTo pos (starEach [b, c] X.env)).any (·.1) = false := by rfl) :
    PI X tg (.Call (.Name "range" p) [a, b, c] [] pos) (iRngB ta) := by
  refine ⟨fun pins s σ H R I h => ?_⟩
  refine Call_ (ld_blt I hg hm boot_range (PyProof.Rows.callWith_type1 (thn (ha.run pos pins s σ H _ I h) fun us s1 ⟨vs, H1, I1, r1, q1⟩ => ?_) hs hpl))
  obtain ⟨i, j, k, n, e, ⟨c0, c1, c3⟩, q⟩ := q1
  subst e
  cases r1 with
  | cons r rr =>
    cases rr with
    | cons r' rr =>
      cases rr with
      | cons r'' rr =>
        cases rr
        obtain ⟨t, rfl⟩ := r
        obtain ⟨t', rfl⟩ := r'
        obtain ⟨t'', rfl⟩ := r''
        refine call_range_3 c0 ?_ (.inl (PyProof.noPylong_small c1))
        have I2 : Inv X pins σ H1 { s1 with heap := s1.heap.push { cls := .type "range", data := .fields #[.int i t, .int j t', .int k t''] } } := I1.kept (t' := s1.toks) fun b o e => Heap.get?_push_of_some _ e
        have e1 : i + ((0 : Nat) : Int) * k = i := by simp
        have e2 : (n : Int) - ((0 : Nat) : Int) = Builtin.Range.rangeSize i j k := by rw [c3]; simp
        by_cases hsm : Builtin.Range.small i j k = true
        · refine wpAny_pyIter_range (IsRange.new ..) hsm ?_
          refine pi_one (tk := s1.toks) I2 _ (turn_rangeC _ i k n) ?_ q
          show IsRangeIter _ _ (i + ((0 : Nat) : Int) * k) ((n : Int) - ((0 : Nat) : Int)) k
          rw [e1, e2]
          exact Heap.get?_push_size _ rfl
        · refine wpAny_pyIter_longrange (IsRange.new ..) (by simpa using hsm) ?_
          refine pi_one (tk := s1.toks) I2 _ (turn_longC _ i k n) ?_ q
          show IsLongIter _ _ (i + ((0 : Nat) : Int) * k) ((n : Int) - ((0 : Nat) : Int)) k
          rw [e1, e2]
          exact Heap.get?_push_size _ rfl
end VdRg

set_option Elab.async false
set_option linter.all false
set_option maxRecDepth 100000
/-! list(range(a, b)) of bounds of any size -/
namespace VdLr
open PySem PySem.Spec PyProof.Rows L2
section
variable {prog : Program} {w : World} {A : Around} {E : Value → Shared → Prop} {s : Shared}
noncomputable abbrev itO (a b c : Int) : Obj := { cls := .type "longrange_iterator", data := .fields #[rawInt a, rawInt (Builtin.Range.rangeSize a b c), rawInt c] }
theorem ext_long {R : Result → Shared → Prop} {r S : Addr} {a b c : Int} {t u v : Tok} {n c0 : Nat} (hh : A.handled = none) (hr : IsRange s.heap r a b c t u v) (hb : Builtin.Range.small a b c = false)
    (hn : Builtin.Range.rangeSize a b c = n) (hl : n ≤ 2 ^ 24) (hS : s.heap.get? S = some { cls := .type "list", data := .seq #[] c0 })
    (hR : ∀ h' tk acc c', (∀ b o, b ≠ S → s.heap.get? b = some o → h'.get? b = some o) → h'.get? S = some { cls := .type "list", dict := none, data := .seq acc c', slots := #[] } → ItemsOf (fun i v => ∃ t, v = .int (a + i * c) t) acc n → R (.ok (.ret .none)) { s with heap := h', toks := tk }) :
    wpAny (model prog w) A.in1 (Builtin.List.listExtendWith (.ref S) (.ref r) .none)
      (fun fin s' => match fin with | .done f => R (.ok f) s' | .again c' => c'.quiet = true ∧ codeAny (model prog w) A c' R s') (fun e s' => R (.error e) s') s := by
  have n1 : S ≠ r := fun e => by rw [e, hr] at hS; simp at hS
  have n2 : S < s.heap.objs.size := Heap.lt_size hS
  have n3 : S ≠ s.heap.objs.size := Nat.ne_of_lt n2
  have n4 : S ∉ [s.heap.objs.size] := fun z => n3 (List.mem_singleton.mp z)
  have W := (Walks.longrange (prog := prog) (w := w) (A := A.in1) hh s.heap.objs.size a c n).toS
  have run : ∀ (h : Heap) (c1 tk : Nat), IsLongIter h s.heap.objs.size (a + ((0 : Nat) : Int) * c) ((n : Int) - ((0 : Nat) : Int)) c → (∀ b o, b ≠ S → s.heap.get? b = some o → h.get? b = some o) →
      h.get? S = some { cls := .type "list", data := .seq #[] c1 } → codeAny (model prog w) A (.builtin "list.extend.loop" ⟨[.ref S, .ref s.heap.objs.size, .none], []⟩) R { s with heap := h, toks := tk } := by
    intro h c1 tk i1 i2 i3
    refine codeAny_extend_loopS W (by rw [sizeLine_eq]; omega) S n4 .none n 0 _ #[] c1 rfl (Nat.zero_le _) i1 i3 (ItemsOf.nil _) fun s1 acc c2 mv e1 e2 => ?_
    rw [Moved.eq_with mv]
    refine hR s1.heap s1.toks acc c2 (fun b o hb e => mv.heap b o (fun z => ?_) (i2 b o hb e)) e1 e2
    rcases List.mem_cons.mp z with z | z
    · exact hb z
    · exact absurd (Heap.lt_size e) (by rw [List.mem_singleton.mp z]; exact Nat.lt_irrefl _)
  unfold Builtin.List.listExtendWith
  refine wpAny_bind (wpAny_typeOf (T := "range") ⟨_, hr, rfl⟩ ?_)
  rw [if_neg (by simp [Builtin.List.listSameRef, n1])]
  refine wpAny_bind (wpAny_pyIter_longrange hr hb ?_)
  have kp : ∀ b o, s.heap.get? b = some o → (s.heap.push (itO a b c)).get? b = some o := fun b o e => Heap.get?_push_of_some _ e
  refine wpAny_bind (wpAny_holding (wpAny_hint_range (n := n) (Heap.get?_push_of_some _ hr) hn hl ?_))
  have j1 : IsLongIter (s.heap.push (itO a b c)) s.heap.objs.size (a + ((0 : Nat) : Int) * c) ((n : Int) - ((0 : Nat) : Int)) c := by
    rw [show a + ((0 : Nat) : Int) * c = a by simp, show (n : Int) - ((0 : Nat) : Int) = Builtin.Range.rangeSize a b c by rw [hn]; simp]
    exact Heap.get?_push_size _ rfl
  have j2 := Heap.get?_push_of_some (itO a b c) hS
  refine wpAny_ite_split (fun _ => ?_) (fun _ => wpAny_pure ⟨plainId_quiet F.plain_extend_loop _, run _ c0 _ j1 (fun b o _ e => Heap.get?_push_of_some _ e) j2⟩)
  refine wpAny_bind (wpAny_rule (wpAny_bind ?_))
  show wpAny _ _ (updateSeq S (·.push .none) >>= fun _ => updateSeq S (·.pop)) _ _ _
  refine wpAny_bind (wpAny_updateSeq j2 rfl ?_)
  have j3 := Heap.get?_update_self (Obj.mapSeq (·.push Value.none)) j2 rfl
  refine wpAny_updateSeq (hz := by seq_fits) j3 rfl ?_
  have j4 := Heap.get?_update_self (Obj.mapSeq (·.pop)) j3 rfl
  refine wpAny_pure ⟨plainId_quiet F.plain_extend_loop _, run _ _ _ ?_ (fun b o hb e => ?_) j4⟩
  · exact (Heap.get?_update_other _ _ n3).trans ((Heap.get?_update_other _ _ n3).trans j1)
  · exact (Heap.get?_update_other _ _ (Ne.symm hb)).trans ((Heap.get?_update_other _ _ (Ne.symm hb)).trans (Heap.get?_push_of_some _ e))
theorem init_long {R : Result → Shared → Prop} {r S : Addr} {a b c : Int} {t u v : Tok} {n : Nat} (hh : A.handled = none) (hr : IsRange s.heap r a b c t u v) (hb : Builtin.Range.small a b c = false)
    (hn : Builtin.Range.rangeSize a b c = n) (hl : n ≤ 2 ^ 24) (hS : s.heap.get? S = some { cls := .type "list", data := .seq #[] })
    (hR : ∀ h' tk acc c', (∀ b o, b ≠ S → s.heap.get? b = some o → h'.get? b = some o) → h'.get? S = some { cls := .type "list", dict := none, data := .seq acc c', slots := #[] } → ItemsOf (fun i v => ∃ t, v = .int (a + i * c) t) acc n → R (.ok (.ret .none)) { s with heap := h', toks := tk }) :
    wpAny (model prog w) A.in1 (Builtin.«list.__init__» ⟨[.ref S, .ref r], []⟩)
      (fun fin s' => match fin with | .done f => R (.ok f) s' | .again c' => c'.quiet = true ∧ codeAny (model prog w) A c' R s') (fun e s' => R (.error e) s') s := by
  have n1 : S ≠ r := fun e => by rw [e, hr] at hS; simp at hS
  show wpAny _ _ (do let old ← Builtin.List.listItems (.ref S); Builtin.List.listUpdate (.ref S) (fun _ => #[]); letGo old.toList.reverse; Builtin.List.listExtendWith (.ref S) (.ref r) .none) _ _ s
  refine wpAny_bind ?_
  unfold Builtin.List.listItems
  refine wpAny_bind (wpAny_seqItems hS rfl (wpAny_pure ?_))
  show wpAny _ A.in1 (updateSeq S (fun _ => #[]) >>= fun _ => letGo (#[] : Array Value).toList.reverse >>= fun _ => Builtin.List.listExtendWith (.ref S) (.ref r) .none) _ _ s
  refine wpAny_bind (wpAny_updateSeq hS rfl (wpAny_bind (wpAny_letGo ?_)))
  have j := Heap.get?_update_self (Obj.mapSeq (fun _ => (#[] : Array Value))) hS rfl
  have oth : ∀ b o, b ≠ S → s.heap.get? b = some o → (s.heap.update S (Obj.mapSeq (fun _ => (#[] : Array Value)))).get? b = some o := fun b o hb e => (Heap.get?_update_other _ _ (Ne.symm hb)).trans e
  exact ext_long (s := { s with heap := s.heap.update S (Obj.mapSeq (fun _ => (#[] : Array Value))) }) hh (oth r _ (Ne.symm n1) hr) hb hn hl j fun h' tk acc c' hk e1 e2 => hR h' tk acc c' (fun b o h1 e => hk b o h1 (oth b o h1 e)) e1 e2
theorem call_list_rg {Q : Value → Shared → Prop} {r : Addr} {a b c : Int} {t u v : Tok} {n : Nat} (hh : A.handled = none) (hr : IsRange s.heap r a b c t u v)
    (hn : Builtin.Range.rangeSize a b c = n) (hl : n ≤ 2 ^ 24)
    (hQ : ∀ h' tk acc c', (∀ b o, s.heap.get? b = some o → h'.get? b = some o) → h'.get? s.heap.objs.size = some { cls := .type "list", dict := none, data := .seq acc c', slots := #[] } → ItemsOf (fun i v => ∃ t, v = .int (a + i * c) t) acc n → Q (.ref s.heap.objs.size) { s with heap := h', toks := tk }) :
    wpAny (model prog w) A (call (.type "list") [.ref r]) Q E s := by
  by_cases hb : Builtin.Range.small a b c = true
  · exact call_list_range hh hr hb hn hl hQ
  · refine callType_codes (Q₁ := fun obj s₁ => obj = .ref s.heap.objs.size ∧ s₁ = { s with heap := s.heap.push { cls := .type "list", data := .seq #[] } }) F.called_list (F.typeCall_list_1 _) F.entry_list_init
      (code_list_new _ ⟨rfl, rfl⟩) fun obj s1 h1 => ?_
    obtain ⟨rfl, rfl⟩ := h1
    have hS : (s.heap.push { cls := .type "list", data := .seq #[] }).get? s.heap.objs.size = some { cls := .type "list", data := .seq #[] } := Heap.get?_push_size _ rfl
    refine ⟨⟨_, hS, rfl⟩, F.args_list_init_2 _ _, init_long (A := A.in1) (s := { s with heap := s.heap.push { cls := .type "list", data := .seq #[] } }) hh (Heap.get?_push_of_some _ hr) (by simpa using hb) hn hl hS fun h' tk acc c' hk e1 e2 => ?_⟩
    exact ⟨rfl, hQ h' tk acc c' (fun b o e => hk b o (Nat.ne_of_lt (Heap.lt_size e)) (Heap.get?_push_of_some _ e)) e1 e2⟩
end
variable {X : Cx} {e : Expr} {te : L2.St → Hp → (Int → Int → Hp → Prop) → Prop}
noncomputable def tLstRgA (te : L2.St → Hp → (Int → Int → Hp → Prop) → Prop) : TE := fun σ H Q => te σ H fun a b H1 => (b - a).toNat ≤ 2 ^ 24 ∧ ∀ q, H1 q = none → Q (.ref q) (upd H1 q (.lst (rgV a b)))
theorem pe_listRgA {p pos : Pos} (hc : X.calm = true) (hg : Gl X "list") (hm : X.mg "list" = none) (he : PRg X e te) (na : starEach [e] X.env = (false, eval e X.env) :: starEach [] X.env := by rfl) : PE X (.Call (.Name "list" p) [e] [] pos) (tLstRgA te) := by
  refine ⟨fun pins s σ H Q I h => Call_ (ld_blt I hg hm boot_list (PyProof.Rows.callWith_type1 (args_cons (thn (he pins s σ H _ I h) fun x s1 ⟨r, a, b, t, u, v, H1, ex, hr, I1, ok, q⟩ => args_nil ?_) na) na))⟩
  subst ex
  refine call_list_rg (n := (b - a).toNat) (I1.ok.hd hc) hr (rangeSize_nat a b) ok fun h' tk acc c' hk e' hi => ?_
  have bl : (rgV a b).length ≤ sizeLine := by rw [rgV_length, sizeLine_eq]; omega
  exact ⟨.ref s1.heap.objs.size, upd H1 s1.heap.objs.size (.lst (rgV a b)), I1.laid hk (Nat.le_refl _) (show ObjOk X.prog X.w _ _ _ (.lst (rgV a b)) from ⟨bl, acc.toList, c', vals_rg hi, by rw [Array.toArray_toList]; exact e'⟩), rfl, q _ (I1.hok.fresh (Nat.le_refl _))⟩
end VdLr

set_option Elab.async false
set_option linter.all false
set_option maxRecDepth 100000
/-! len(set(xs)): xs a list of texts, or of whole numbers (the steps follow the kit's rule for ints) -/
namespace VdSt
open PySem PySem.Spec PyProof.Rows L2
open Vd
theorem dd_snoc {κ : Type} [DecidableEq κ] (xs : List κ) (x : κ) : dd (xs ++ [x]) = ddA (dd xs) x := by unfold dd; rw [List.foldl_append]; rfl
theorem dd_all {κ : Type} [DecidableEq κ] (xs : List κ) : (dd xs).Nodup ∧ (dd xs).length ≤ xs.length ∧ ∀ y, y ∈ dd xs ↔ y ∈ xs := by
  have key : ∀ (n : Nat) (xs : List κ), xs.length = n → (dd xs).Nodup ∧ (dd xs).length ≤ xs.length ∧ ∀ y, y ∈ dd xs ↔ y ∈ xs := by
    intro n
    induction n with
    | zero => intro xs h; have : xs = [] := List.eq_nil_of_length_eq_zero h; subst this; exact ⟨List.nodup_nil, Nat.le_refl _, fun y => Iff.rfl⟩
    | succ n ih =>
      intro xs h
      obtain ⟨ys, y, rfl⟩ : ∃ ys y, xs = ys ++ [y] := ⟨xs.dropLast, xs.getLast (by intro z; subst z; cases h), (List.dropLast_concat_getLast _).symm⟩
      rw [List.length_append, List.length_singleton] at h
      obtain ⟨a, b, c⟩ := ih ys (by omega)
      rw [dd_snoc]
      unfold ddA
      by_cases hy : y ∈ dd ys
      · rw [if_pos hy]
        refine ⟨a, by rw [List.length_append]; omega, fun z => ?_⟩
        rw [List.mem_append, List.mem_singleton, c]
        constructor
        · exact .inl
        · rintro (q | q)
          · exact q
          · subst q; exact (c z).mp hy
      · rw [if_neg hy]
        refine ⟨?_, by rw [List.length_append, List.length_append, List.length_singleton]; omega, fun z => by rw [List.mem_append, List.mem_append, c]⟩
        rw [List.nodup_append]
        refine ⟨a, by simp, fun u hu v hv => ?_⟩
        rw [List.mem_singleton.mp hv]
        rintro rfl
        exact hy hu
  exact key _ xs rfl
noncomputable abbrev set0 (led : Bool) : Obj := { cls := .type "set", dict := none, data := .set #[] 0 (.fresh 0 0 led) }
section
variable {prog : Program} {w : World} {κ : Type} [DecidableEq κ] {knd : KeyKind prog w κ}
theorem setOf_as {h : Heap} {a : Addr} {S S' : κ → Bool} {n n' : Nat} (r : h.SetOf knd a S n) (e : ∀ k, S k = S' k) (en : n = n') : h.SetOf knd a S' n' := by
  have e2 : S = S' := funext e
  rw [← e2, ← en]; exact r
variable {A : Around} {R : Result → Shared → Prop} {I : Addr} {fp wr : List Addr} {G : Array GenState → Array GenState → Prop} {n : Nat} {P : Nat → Value → Prop} {St : Nat → Shared → Prop}
theorem loopG (W : WalksS prog w A.in1 I fp wr G n P St) (S : Addr) (hSf : S ∉ fp) (ks : List κ) (hsz : ks.length = n) (hn1 : n + 1 < scanBound)
    (hval : ∀ i v, P i v → ∃ k, ks[i]? = some k ∧ knd.is k v = true ∧ v.scannable = true) :
    ∀ (m i : Nat) (s : Shared), n - i = m → i ≤ n → St i s → s.heap.SetOf knd S (fun k => decide (k ∈ ks.take i)) (dd (ks.take i)).length →
      (∀ s', Moved (S :: wr) G s s' → s'.heap.SetOf knd S (fun k => decide (k ∈ ks)) (dd ks).length → R (.ok (.ret .none)) s') →
      codeAny (model prog w) A (.builtin "set.update.loop" ⟨[.ref S, .ref I], []⟩) R s := by
  have sw : S ∉ wr := fun q => hSf (W.sub _ q)
  have up : ∀ b ∈ wr, b ∈ S :: wr := fun b q => List.mem_cons_of_mem _ q
  intro m
  induction m with
  | zero =>
    intro i s hk hi hst hS hR
    have hin : i = n := by omega
    rw [hin] at hst hS
    rw [← hsz, List.take_length] at hS
    refine codeAny_builtin PyProof.Rows.F.entry_set_update_loop ?_
    rw [Around.under_plainId PyProof.Rows.F.plain_set_update_loop _]
    show wpAny _ A.in1 (pyNext (.ref I) >>= _) _ _ s
    refine wpAny_bind (W.done s _ _ hst fun s1 mv => ?_)
    show wpAny _ A.in1 (ret Value.none) _ _ s1
    refine wpAny_pure (hR s1 (mv.mono up) ?_)
    obtain ⟨o, es, ep, t, ho, q⟩ := hS
    exact ⟨o, es, ep, t, mv.heap S _ sw ho, q⟩
  | succ m ih =>
    intro i s hk hi hst hS hR
    have lt : i < n := by omega
    refine codeAny_builtin PyProof.Rows.F.entry_set_update_loop ?_
    rw [Around.under_plainId PyProof.Rows.F.plain_set_update_loop _]
    show wpAny _ A.in1 (pyNext (.ref I) >>= _) _ _ s
    refine wpAny_bind (W.item i s _ _ lt hst fun v s1 hP st1 mv => ?_)
    obtain ⟨k, hk2, hkey, hsc⟩ := hval i v hP
    have S1 : s1.heap.SetOf knd S (fun k => decide (k ∈ ks.take i)) (dd (ks.take i)).length := by
      obtain ⟨o, es, ep, t, ho, q⟩ := hS
      exact ⟨o, es, ep, t, mv.heap S _ sw ho, q⟩
    have et : ks.take (i + 1) = ks.take i ++ [k] := by rw [List.take_add_one, hk2]; rfl
    have room : (dd (ks.take i)).length + 1 < scanBound := by
      have := (dd_all (ks.take i)).2.1
      rw [List.length_take] at this
      omega
    show wpAny _ A.in1 (holding [v] (setAdd S v) >>= _) _ _ s1
    refine wpAny_bind (wpAny_holding ?_)
    unfold setAdd
    refine wpAny_holding (wpAny_bind (knd.pyHash hkey ?_))
    refine wpAny_setAddHashed_of (knd := knd) (s := { s1 with toks := s1.toks + 1 }) hkey hsc S1 room fun h2 sb S2 => ?_
    have S3 : h2.SetOf knd S (fun k => decide (k ∈ ks.take (i + 1))) (dd (ks.take (i + 1))).length := by
      refine setOf_as S2 (fun k' => ?_) ?_
      · rw [et]
        simp [List.mem_append]
      · rw [et, dd_snoc]
        unfold ddA
        have iff := (dd_all (ks.take i)).2.2 k
        by_cases c : k ∈ ks.take i
        · rw [if_pos (decide_eq_true c), if_pos (iff.mpr c)]
        · rw [if_neg (fun z => c (of_decide_eq_true z)), if_neg (fun z => c (iff.mp z)), List.length_append, List.length_singleton]
    refine wpAny_pure ⟨plainId_quiet PyProof.Rows.F.plain_set_update_loop _, ih (i + 1) _ (by omega) lt (W.frame _ s1 _ _ st1 (Nat.le_succ _) fun b hb o e => ?_) S3 fun s4 m4 S4 => hR s4 (Moved.trans W.gtrans ((mv.mono up).then_heap (Nat.le_succ _) fun b o hb e => ?_) m4) S4⟩
    · exact (sb.2 b fun q => hSf (q ▸ hb)).trans e
    · exact (sb.2 b fun q => hb (by rw [q]; exact List.mem_cons_self)).trans e
variable {E : Value → Shared → Prop} {s : Shared}
set_option maxHeartbeats 4000000 in
theorem call_set_of {l : Addr} {items : Array Value} {ks : List κ} {Q : Value → Shared → Prop} (hh : A.handled = none) (hl : s.heap.IsList l items) (hz : ks.length = items.size) (hn1 : items.size + 1 < scanBound)
    (hval : ∀ (i : Nat) (v : Value), items[i]? = some v → ∃ k, ks[i]? = some k ∧ knd.is k v = true ∧ v.scannable = true)
    (q : ∀ (h' : Heap) (tk : Nat), h'.SetOf knd s.heap.objs.size (fun k => decide (k ∈ ks)) (dd ks).length → (∀ b o, b < s.heap.objs.size → s.heap.get? b = some o → h'.get? b = some o) → Q (.ref s.heap.objs.size) { s with heap := h', toks := tk }) :
    wpAny (model prog w) A (call (.type "set") [.ref l]) Q E s := by
  obtain ⟨c, tl, hmro⟩ := PySem.F.called_set.mro
  have k1 := PySem.F.called_set.made
  have k2 := PySem.F.called_set.sub
  have k3 := PySem.F.called_set.notType
  have k4 := PySem.F.called_set.canCreate
  have k5 := PySem.F.typeCall_set_1 (.ref l)
  refine wpAny_call (codeAny_of_tree ?_)
  show wpAny _ _ (callAny (.type "set") _) _ _ _
  refine wpAny_pure ⟨Code.quiet_builtin _ (by decide +kernel), codeAny_builtin PySem.F.entry_type_call ?_⟩
  rw [Around.under_plain (weight_type_call_type "set" [.ref l] []) rfl]
  repeat (any_goals (first | assumption | wp_step))
  refine codeAny_mono (code_set_new_1 (.ref l) (E := E) (Q₁ := fun u s1 => ∃ led : Bool, u = .ref s.heap.objs.size ∧ s1 = { s with heap := s.heap.push (set0 led) }) fun led => ⟨led, rfl, rfl⟩) fun r s1 hr => ?_
  cases r with
  | error e => exact hr
  | ok fl =>
    cases fl with
    | ret obj =>
      obtain ⟨led, rfl, rfl⟩ := hr
      have hS : (s.heap.push (set0 led)).get? s.heap.objs.size = some (set0 led) := Heap.get?_push_size _ rfl
      have hT : Shared.TypeIs { s with heap := s.heap.push (set0 led) } (.ref s.heap.objs.size) "set" := ⟨_, hS, rfl⟩
      have k6 := PySem.F.called_set.init.lookup
      have k7 := PySem.F.called_set.init.bind (.ref s.heap.objs.size)
      repeat (any_goals (first | assumption | wp_step))
      refine codeAny_mono (codeAny_call_builtin (R := wants (fun r s2 => r = .none ∧ ∃ h' tk, s2 = { s with heap := h', toks := tk } ∧ h'.SetOf knd s.heap.objs.size (fun k => decide (k ∈ ks)) (dd ks).length ∧
          (∀ b o, b < s.heap.objs.size → s.heap.get? b = some o → h'.get? b = some o)) E) PySem.F.called_set.init.plain PySem.F.entry_set_init (check_set_init_1 hT ?_)) fun r2 s2 hr2 => ?_
      · obtain ⟨ol, hol, hcl, nl, hdl⟩ := hl
        obtain ⟨ocls, odict, odata, oslots⟩ := ol
        simp only at hcl hdl
        subst hcl
        subst hdl
        have hol2 : (s.heap.push (set0 led)).get? l = some { cls := .type "list", dict := odict, data := .seq items nl, slots := oslots } := Heap.get?_push_of_some _ hol
        have k8 := PySem.F.sub_list_set
        have k9 := PySem.F.sub_list_frozenset
        have k10 : (Value.type "list" == Value.type "dict") = false := by decide
        have hl1 : (s.heap.push (set0 led)).IsList l items := ⟨_, hol2, rfl, nl, rfl⟩
        unfold Builtin.«set.__init__» noKeywords Builtin.Frozenset.updateFrom
        generalize hPI : pyIter = PI
        wp_walk
        subst hPI
        refine wpAny_pyIter_list hl1 (wpAny_bind (wpAny_runValue ?_))
        have hlS : l < s.heap.objs.size := Heap.lt_size hol
        have hh3 : A.in1.in1.in1.handled = none := by simp [hh]
        have hz1 : (s.heap.push (set0 led)).objs.size = s.heap.objs.size + 1 := Heap.size_push ..
        have hneI : l ≠ (s.heap.push (set0 led)).objs.size := by rw [hz1]; exact Nat.ne_of_lt (Nat.lt_succ_of_lt hlS)
        have hSf : s.heap.objs.size ∉ [(s.heap.push (set0 led)).objs.size, l] := by
          rw [hz1]
          intro z
          simp only [List.mem_cons, List.not_mem_nil, or_false] at z
          rcases z with z | z
          · exact Nat.ne_of_lt (Nat.lt_succ_self _) z
          · exact Nat.ne_of_gt hlS z
        refine loopG ((Walks.list hh3 _ l hneI items).toS) s.heap.objs.size hSf ks hz hn1 hval (items.size - 0) 0 _ (by omega) (Nat.zero_le _)
          ⟨⟨_, Heap.get?_push_size _ rfl, rfl, rfl⟩, (hl1.push _)⟩ ?hS0 ?hR
        case hS0 => exact setOf_as ((PyProof.Rows.setObjOf_fresh (knd := knd) led).setOf (Heap.get?_push_of_some _ hS) (by unfold scanBound; omega)) (fun _ => by simp) rfl
        case hR =>
          intro s4 mv S4
          obtain ⟨h', g', d', tk', os'⟩ := s4
          have eg : g' = s.gens := mv.gens
          have ed : d' = s.drawn := mv.drawn
          have eo : os' = s.os := mv.os
          subst eg
          subst ed
          subst eo
          show wpAny _ _ _ _ _ _
          refine wpAny_pure ?_
          show wpAny _ _ (ret Value.none) _ _ _
          refine wpAny_pure ⟨rfl, h', tk', rfl, S4, fun b o hb e => mv.heap b o (fun z => ?_) (Heap.get?_push_of_some _ (Heap.get?_push_of_some _ e))⟩
          simp only [List.mem_cons, List.not_mem_nil, or_false] at z
          rw [hz1] at z
          rcases z with z | z
          · exact Nat.ne_of_lt hb z
          · exact Nat.ne_of_lt (Nat.lt_succ_of_lt hb) z
      · cases r2 with
        | error e => exact hr2
        | ok fl2 =>
          cases fl2 with
          | ret r =>
            obtain ⟨rfl, h', tk, rfl, S4, hk⟩ := hr2
            repeat (any_goals (first | assumption | wp_step))
            exact q _ _ S4 hk
          | _ => exact hr2.elim
    | _ => exact hr.elim
end
/-! ### len(set(xs)) -/
noncomputable def tLenSetG (K : PySem.W.Frag) (ta : TE) : TE := fun σ H Q => ta σ H fun x H1 =>
  (∃ l, ∃ xs : List Str, x = .ref l ∧ SqL K H1 l (xs.map V.str) ∧ xs.length ≤ 4000 ∧ Q (.int (dd xs).length) H1) ∨
  (∃ l, ∃ xs : List Int, x = .ref l ∧ SqL K H1 l (xs.map V.int) ∧ xs.length ≤ 4000 ∧ Q (.int (dd xs).length) H1)
section
variable {X : Cx}
theorem vals_at {α : Type} {f : α → V} : ∀ {ys : List α} {us : List Value}, Vals (ys.map f) us → ∀ (i : Nat) (u : Value), us[i]? = some u → ∃ y, ys[i]? = some y ∧ RelV (f y) u
  | [], _, .nil, i, u, h => by simp at h
  | y :: ys, _, .cons r t, 0, u, h => by simp at h; subst h; exact ⟨y, rfl, r⟩
  | y :: ys, _, .cons r t, i + 1, u, h => vals_at t i u h
theorem pe_lenSetG {a : Expr} {ta : TE} {p p2 q pos : Pos} (hc : X.calm = true) (hg : Gl X "len") (hm : X.mg "len" = none) (hg2 : Gl X "set") (hm2 : X.mg "set" = none) (ha : PE X a ta)
    (na : starEach [a] X.env = (false, eval a X.env) :: starEach [] X.env) : PE X (.Call (.Name "len" p) [.Call (.Name "set" p2) [a] [] q] [] pos) (tLenSetG X.K ta) := by
  refine ⟨fun pins s σ H Q I h => ?_⟩
  refine Call_ (ld_blt I hg hm boot_len (PyProof.Rows.callWith_builtin1 (PyProof.Rows.args_cons ?_ rfl) rfl rfl))
  refine Call_ (ld_blt I hg2 hm2 boot_set (PyProof.Rows.callWith_type1 (PyProof.Rows.args_cons (thn (ha.run pins s σ H _ I h) fun v s1 ⟨x, H1, I1, r1, q1⟩ => PyProof.Rows.args_nil ?_) na) na rfl))
  have fin : ∀ {κ : Type} [DecidableEq κ] (knd : KeyKind X.prog X.w κ) (f : κ → V) (hf : ∀ k u, RelV (f k) u → knd.is k u = true ∧ u.scannable = true) (l : Addr) (xs : List κ), x = .ref l → SqL X.K H1 l (xs.map f) → xs.length ≤ 4000 → Q (.int (dd xs).length) H1 →
      wpAny (model X.prog X.w) X.A (call (.type "set") [v]) (fun u s2 => wpAny (model X.prog X.w) X.A (spliced (backTo pos (starEach [] X.env))) (fun vs s₂ => wpAny (model X.prog X.w) X.A (call (.builtin "len") (u :: vs)) (EP X pins σ Q) X.xe s₂) X.xe s2) X.xe s1 := by
    intro κ _ knd f hf l xs ex hq hl qq
    subst ex
    cases r1
    obtain ⟨its, r, pl, hz⟩ := I1.list hq
    have e1 : xs.length = its.toArray.size := by rw [List.size_toArray, ← r.length, List.length_map]
    refine call_set_of (knd := knd) (ks := xs) (I1.ok.hd hc) pl.isList e1 (by unfold scanBound; omega) (fun i u hu => ?_) fun h' tk hS hk => PyProof.Rows.args_nil ?_
    · obtain ⟨y, h1, h2⟩ := vals_at r i u (by simpa using hu)
      exact ⟨y, h1, hf y u h2⟩
    · obtain ⟨o, es, ep, t, ho, hex, hd, _, _, _, hf2, hn⟩ := hS
      have I2 : Inv X pins σ H1 { s1 with heap := h', toks := tk } := I1.kept fun b o e => hk b o (Heap.lt_size e) e
      have le := (dd_all xs).2.1
      exact call_len_set ho hex hd hf2 (by rw [hn]; omega) ⟨.int (dd xs).length, H1, I2.tok _, ⟨_, by rw [hn]⟩, qq⟩
  rcases q1 with ⟨l, xs, e, hq, hl, q1⟩ | ⟨l, xs, e, hq, hl, q1⟩
  · refine fin (PySem.strKind X.prog X.w) V.str (fun k u r => ?_) l xs e hq hl q1
    obtain ⟨t, rfl⟩ := r
    exact ⟨strKind_is _ _ _ _, rfl⟩
  · refine fin (PySem.intKind X.prog X.w) V.int (fun k u r => ?_) l xs e hq hl q1
    obtain ⟨t, rfl⟩ := r
    exact ⟨intKind_is _ _ _ _, rfl⟩
end
end VdSt

set_option Elab.async false
set_option linter.all false
set_option maxRecDepth 100000
/-! sorted(set(xs)), xs a list of whole numbers -/
namespace VdSt
open PySem PySem.Spec PyProof.Rows L2
open Vd
section
variable {prog : Program} {w : World}
variable {A : Around} {R : Result → Shared → Prop} {I : Addr} {fp wr : List Addr} {G : Array GenState → Array GenState → Prop} {n : Nat} {P : Nat → Value → Prop} {St : Nat → Shared → Prop}
theorem loopR (W : WalksS prog w A.in1 I fp wr G n P St) (S : Addr) (hSf : S ∉ fp) (ks : List Int) (hsz : ks.length = n) (hn1 : n + 1 < scanBound)
    (hval : ∀ i v, P i v → ∃ k tk, ks[i]? = some k ∧ v = Value.int k tk) :
    ∀ (m i : Nat) (s : Shared), n - i = m → i ≤ n → St i s → SetR w s.heap S (fun k => decide (k ∈ ks.take i)) (dd (ks.take i)).length →
      (∀ s', Moved (S :: wr) G s s' → SetR w s'.heap S (fun k => decide (k ∈ ks)) (dd ks).length → R (.ok (.ret .none)) s') →
      codeAny (model prog w) A (.builtin "set.update.loop" ⟨[.ref S, .ref I], []⟩) R s := by
  have sw : S ∉ wr := fun q => hSf (W.sub _ q)
  have up : ∀ b ∈ wr, b ∈ S :: wr := fun b q => List.mem_cons_of_mem _ q
  intro m
  induction m with
  | zero =>
    intro i s hk hi hst hS hR
    have hin : i = n := by omega
    rw [hin] at hst hS
    rw [← hsz, List.take_length] at hS
    refine codeAny_builtin PyProof.Rows.F.entry_set_update_loop ?_
    rw [Around.under_plainId PyProof.Rows.F.plain_set_update_loop _]
    show wpAny _ A.in1 (pyNext (.ref I) >>= _) _ _ s
    refine wpAny_bind (W.done s _ _ hst fun s1 mv => ?_)
    show wpAny _ A.in1 (ret Value.none) _ _ s1
    refine wpAny_pure (hR s1 (mv.mono up) ?_)
    exact hS.at fun o ho => mv.heap S _ sw ho
  | succ m ih =>
    intro i s hk hi hst hS hR
    have lt : i < n := by omega
    refine codeAny_builtin PyProof.Rows.F.entry_set_update_loop ?_
    rw [Around.under_plainId PyProof.Rows.F.plain_set_update_loop _]
    show wpAny _ A.in1 (pyNext (.ref I) >>= _) _ _ s
    refine wpAny_bind (W.item i s _ _ lt hst fun v s1 hP st1 mv => ?_)
    obtain ⟨k, tk, hk2, rfl⟩ := hval i v hP
    have hkey : (intKind prog w).is k (.int k tk) = true := intKind_is prog w k tk
    have S1 : SetR w s1.heap S (fun k => decide (k ∈ ks.take i)) (dd (ks.take i)).length := hS.at fun o ho => mv.heap S _ sw ho
    have et : ks.take (i + 1) = ks.take i ++ [k] := by rw [List.take_add_one, hk2]; rfl
    have room : (dd (ks.take i)).length + 1 < scanBound := by
      have := (dd_all (ks.take i)).2.1
      rw [List.length_take] at this
      omega
    show wpAny _ A.in1 (holding [Value.int k tk] (setAdd S (Value.int k tk)) >>= _) _ _ s1
    refine wpAny_bind (wpAny_holding ?_)
    unfold setAdd
    refine wpAny_holding (wpAny_bind ((intKind prog w).pyHash hkey ?_))
    refine setR_add_hashed (P := prog) (s := { s1 with toks := s1.toks + 1 }) S1 room fun h2 sb S2 => ?_
    have S3 : SetR w h2 S (fun k => decide (k ∈ ks.take (i + 1))) (dd (ks.take (i + 1))).length := by
      have en : (if decide (k ∈ ks.take i) = true then (dd (ks.take i)).length else (dd (ks.take i)).length + 1) = (dd (ks.take (i + 1))).length := by
        rw [et, dd_snoc]
        unfold ddA
        have iff := (dd_all (ks.take i)).2.2 k
        by_cases c : k ∈ ks.take i
        · rw [if_pos (decide_eq_true c), if_pos (iff.mpr c)]
        · rw [if_neg (fun z => c (of_decide_eq_true z)), if_neg (fun z => c (iff.mp z)), List.length_append, List.length_singleton]
      rw [← en]
      refine S2.congr fun k' => ?_
      rw [et]
      simp [List.mem_append]
    refine wpAny_pure ⟨plainId_quiet PyProof.Rows.F.plain_set_update_loop _, ih (i + 1) _ (by omega) lt (W.frame _ s1 _ _ st1 (Nat.le_succ _) fun b hb o e => ?_) S3 fun s4 m4 S4 => hR s4 (Moved.trans W.gtrans ((mv.mono up).then_heap (Nat.le_succ _) fun b o hb e => ?_) m4) S4⟩
    · exact (sb.2 b fun q => hSf (q ▸ hb)).trans e
    · exact (sb.2 b fun q => hb (by rw [q]; exact List.mem_cons_self)).trans e
variable {E : Value → Shared → Prop} {s : Shared}
theorem code_set_led1 (a : Value) {Q₁ : Value → Shared → Prop}
    (h : Q₁ (.ref s.heap.objs.size) { s with heap := s.heap.push (set0 (!w.params.followText "set-order")) }) :
    codeAny (model prog w) A (.call (.builtin "set.__new__") ⟨[.type "set", a], []⟩) (wants Q₁ E) s := by
  refine codeAny_of_tree ?_
  show wpAny _ A.in1 (do checkBuiltinCall "set.__new__" ⟨[.type "set", a], []⟩; again (.builtin "set.__new__" ⟨[.type "set", a], []⟩)) _ _ s
  refine wpAny_bind (wpAny_of_eq (F.newCall_set_1 a) (wpAny_pure ⟨plainId_quiet F.plain_set_new _, codeAny_builtin F.entry_set_new ?_⟩))
  rw [Around.under_plainId F.plain_set_new _]
  unfold Builtin.«set.__new__» Builtin.Frozenset.newClass
  have hsub := sub_set_self
  obtain ⟨hp, g, d, tk, os⟩ := s
  dsimp only
  wp_walk
  refine wpAny_askSetting (wpAny_pure ?_)
  dsimp only
  simp only [newObj]
  refine wpAny_bind (wpAny_alloc (wpAny_pure ?_))
  exact wpAny_pure h
set_option maxHeartbeats 4000000 in
theorem call_setI_of {l : Addr} {items : Array Value} {ks : List Int} {Q : Value → Shared → Prop} (hh : A.handled = none) (hl : s.heap.IsList l items) (hz : ks.length = items.size) (hn1 : items.size + 1 < scanBound)
    (hval : ∀ (i : Nat) (v : Value), items[i]? = some v → ∃ k tk, ks[i]? = some k ∧ v = Value.int k tk)
    (q : ∀ (h' : Heap) (tk : Nat), SetR w h' s.heap.objs.size (fun k => decide (k ∈ ks)) (dd ks).length → (∀ b o, b < s.heap.objs.size → s.heap.get? b = some o → h'.get? b = some o) → Q (.ref s.heap.objs.size) { s with heap := h', toks := tk }) :
    wpAny (model prog w) A (call (.type "set") [.ref l]) Q E s := by
  obtain ⟨c, tl, hmro⟩ := PySem.F.called_set.mro
  have k1 := PySem.F.called_set.made
  have k2 := PySem.F.called_set.sub
  have k3 := PySem.F.called_set.notType
  have k4 := PySem.F.called_set.canCreate
  have k5 := PySem.F.typeCall_set_1 (.ref l)
  refine wpAny_call (codeAny_of_tree ?_)
  show wpAny _ _ (callAny (.type "set") _) _ _ _
  refine wpAny_pure ⟨Code.quiet_builtin _ (by decide +kernel), codeAny_builtin PySem.F.entry_type_call ?_⟩
  rw [Around.under_plain (weight_type_call_type "set" [.ref l] []) rfl]
  repeat (any_goals (first | assumption | wp_step))
  refine codeAny_mono (code_set_led1 (.ref l) (E := E) (Q₁ := fun u s1 => u = .ref s.heap.objs.size ∧ s1 = { s with heap := s.heap.push (set0 (!w.params.followText "set-order")) }) ⟨rfl, rfl⟩) fun r s1 hr => ?_
  cases r with
  | error e => exact hr
  | ok fl =>
    cases fl with
    | ret obj =>
      obtain ⟨rfl, rfl⟩ := hr
      generalize hled : (!w.params.followText "set-order") = led
      have hS : (s.heap.push (set0 led)).get? s.heap.objs.size = some (set0 led) := Heap.get?_push_size _ rfl
      have hT : Shared.TypeIs { s with heap := s.heap.push (set0 led) } (.ref s.heap.objs.size) "set" := ⟨_, hS, rfl⟩
      have k6 := PySem.F.called_set.init.lookup
      have k7 := PySem.F.called_set.init.bind (.ref s.heap.objs.size)
      repeat (any_goals (first | assumption | wp_step))
      refine codeAny_mono (codeAny_call_builtin (R := wants (fun r s2 => r = .none ∧ ∃ h' tk, s2 = { s with heap := h', toks := tk } ∧ SetR w h' s.heap.objs.size (fun k => decide (k ∈ ks)) (dd ks).length ∧
          (∀ b o, b < s.heap.objs.size → s.heap.get? b = some o → h'.get? b = some o)) E) PySem.F.called_set.init.plain PySem.F.entry_set_init (check_set_init_1 hT ?_)) fun r2 s2 hr2 => ?_
      · obtain ⟨ol, hol, hcl, nl, hdl⟩ := hl
        obtain ⟨ocls, odict, odata, oslots⟩ := ol
        simp only at hcl hdl
        subst hcl
        subst hdl
        have hol2 : (s.heap.push (set0 led)).get? l = some { cls := .type "list", dict := odict, data := .seq items nl, slots := oslots } := Heap.get?_push_of_some _ hol
        have k8 := PySem.F.sub_list_set
        have k9 := PySem.F.sub_list_frozenset
        have k10 : (Value.type "list" == Value.type "dict") = false := by decide
        have hl1 : (s.heap.push (set0 led)).IsList l items := ⟨_, hol2, rfl, nl, rfl⟩
        unfold Builtin.«set.__init__» noKeywords Builtin.Frozenset.updateFrom
        generalize hPI : pyIter = PI
        wp_walk
        subst hPI
        refine wpAny_pyIter_list hl1 (wpAny_bind (wpAny_runValue ?_))
        have hlS : l < s.heap.objs.size := Heap.lt_size hol
        have hh3 : A.in1.in1.in1.handled = none := by simp [hh]
        have hz1 : (s.heap.push (set0 led)).objs.size = s.heap.objs.size + 1 := Heap.size_push ..
        have hneI : l ≠ (s.heap.push (set0 led)).objs.size := by rw [hz1]; exact Nat.ne_of_lt (Nat.lt_succ_of_lt hlS)
        have hSf : s.heap.objs.size ∉ [(s.heap.push (set0 led)).objs.size, l] := by
          rw [hz1]
          intro z
          simp only [List.mem_cons, List.not_mem_nil, or_false] at z
          rcases z with z | z
          · exact Nat.ne_of_lt (Nat.lt_succ_self _) z
          · exact Nat.ne_of_gt hlS z
        refine loopR ((Walks.list hh3 _ l hneI items).toS) s.heap.objs.size hSf ks hz hn1 hval (items.size - 0) 0 _ (by omega) (Nat.zero_le _)
          ⟨⟨_, Heap.get?_push_size _ rfl, rfl, rfl⟩, (hl1.push _)⟩ ?hS0 ?hR
        case hS0 =>
          have h0 := setR_fresh (h := s.heap) w
          rw [hled] at h0
          exact (h0.at fun o e => Heap.get?_push_of_some _ e).congr fun _ => by simp
        case hR =>
          intro s4 mv S4
          obtain ⟨h', g', d', tk', os'⟩ := s4
          have eg : g' = s.gens := mv.gens
          have ed : d' = s.drawn := mv.drawn
          have eo : os' = s.os := mv.os
          subst eg
          subst ed
          subst eo
          show wpAny _ _ _ _ _ _
          refine wpAny_pure ?_
          show wpAny _ _ (ret Value.none) _ _ _
          refine wpAny_pure ⟨rfl, h', tk', rfl, S4, fun b o hb e => mv.heap b o (fun z => ?_) (Heap.get?_push_of_some _ (Heap.get?_push_of_some _ e))⟩
          simp only [List.mem_cons, List.not_mem_nil, or_false] at z
          rw [hz1] at z
          rcases z with z | z
          · exact Nat.ne_of_lt hb z
          · exact Nat.ne_of_lt (Nat.lt_succ_of_lt hb) z
      · cases r2 with
        | error e => exact hr2
        | ok fl2 =>
          cases fl2 with
          | ret r =>
            obtain ⟨rfl, h', tk, rfl, S4, hk⟩ := hr2
            repeat (any_goals (first | assumption | wp_step))
            exact q _ _ S4 hk
          | _ => exact hr2.elim
    | _ => exact hr.elim
end
noncomputable def tSortSet (K : PySem.W.Frag) (te : TE) : TE := fun σ H Q => te σ H fun x H1 => ∃ (l : Addr) (xs : List Int), x = .ref l ∧ SqL K H1 l (xs.map V.int) ∧ xs.length ≤ 4000 ∧ (dd xs).length < 64 ∧
  ∀ ns : List Int, ns.Pairwise (· < ·) → (∀ k, k ∈ ns ↔ k ∈ xs) → ∀ q, H1 q = none → Q (.ref q) (upd H1 q (.lst (ns.map V.int)))
section
variable {X : Cx}
theorem pe_sortSet {a : Expr} {ta : TE} {p p2 q pos : Pos} (hc : X.calm = true) (hg : Gl X "sorted") (hm : X.mg "sorted" = none) (hg2 : Gl X "set") (hm2 : X.mg "set" = none) (ha : PE X a ta)
    (na : starEach [a] X.env = (false, eval a X.env) :: starEach [] X.env) : PE X (.Call (.Name "sorted" p) [.Call (.Name "set" p2) [a] [] q] [] pos) (tSortSet X.K ta) := by
  refine ⟨fun pins s σ H Q I h => ?_⟩
  refine Call_ (ld_blt I hg hm boot_sorted (PyProof.Rows.callWith_builtin1 (PyProof.Rows.args_cons ?_ rfl) rfl rfl))
  refine Call_ (ld_blt I hg2 hm2 boot_set (PyProof.Rows.callWith_type1 (PyProof.Rows.args_cons (thn (ha.run pins s σ H _ I h) fun v s1 ⟨x, H1, I1, r1, q1⟩ => PyProof.Rows.args_nil ?_) na) na rfl))
  obtain ⟨l, xs, ex, hq, hl, h64, qq⟩ := q1
  subst ex
  cases r1
  obtain ⟨its, r, pl, hz⟩ := I1.list hq
  have e1 : xs.length = its.toArray.size := by rw [List.size_toArray, ← r.length, List.length_map]
  refine call_setI_of (ks := xs) (I1.ok.hd hc) pl.isList e1 (by unfold scanBound; omega) (fun i u hu => ?_) fun h' tk hS hk => PyProof.Rows.args_nil ?_
  · obtain ⟨y, h1, h2⟩ := vals_at r i u (by simpa using hu)
    obtain ⟨t, rfl⟩ := h2
    exact ⟨y, t, h1, rfl⟩
  · have I2 : Inv X pins σ H1 { s1 with heap := h', toks := tk } := I1.kept fun b o e => hk b o (Heap.lt_size e) e
    refine sorted_set hS (I2.ok.hd hc) h64 fun s' p out c ns k g o hp hg hi hs hm hl2 => ?_
    have hlen : (ns.map V.int).length ≤ sizeLine := by rw [List.length_map, hl2, sizeLine_eq]; omega
    have hn : H1 p = none := I2.hok.fresh hp
    have new : ObjOk X.prog X.w (upd H1 p (.lst (ns.map V.int))) s'.heap p (.lst (ns.map V.int)) := ⟨hlen, out.toList, c, vals_of_ints hi, hg⟩
    have J := Inv.call (s := ({ s1 with heap := h', toks := tk } : Shared)) (h' := s'.heap) (g' := s'.gens) (d' := s'.drawn) (t' := s'.toks) (ch := []) I2 (Un.laid (h := h') k hp hn) (I2.hok.laid (h := h') k hp new) (by rw [g]; exact I2.bare) (fun _ z => nomatch z)
    have e : s' = { s1 with heap := s'.heap, gens := s'.gens, drawn := s'.drawn, toks := s'.toks } := by
      cases s'
      cases s1
      cases o
      rfl
    rw [e]
    exact ⟨.ref p, _, J, rfl, qq ns hs (fun k => by rw [hm k, decide_eq_true_eq]) p hn⟩
end
end VdSt

set_option Elab.async false
set_option linter.all false
set_option maxRecDepth 100000
/-! list(reversed(xs)), xs a list; max and min of pairs (the steps follow the kit's for texts and for tuples) -/
namespace VdRv
open PySem PySem.Spec PyProof.Rows L2
section
variable {prog : Program} {w : World} {A : Around} {E : Value → Shared → Prop} {s : Shared}
noncomputable abbrev revP (items : Array Value) : Nat → Value → Prop := fun i v => items[items.size - 1 - i]? = some v
theorem ext_rev {R : Result → Shared → Prop} {S it l : Addr} {items : Array Value} {c0 : Nat} (hh : A.handled = none) (hit : s.heap.IsRevIter it l ((items.size : Int) - 1)) (hl : s.heap.IsList l items) (hne : l ≠ it) (hSi : S ≠ it) (hSl : S ≠ l) (hn : items.size ≤ sizeLine)
    (hS : s.heap.get? S = some { cls := .type "list", data := .seq #[] c0 })
    (hR : ∀ h' tk acc c', (∀ b o, b ≠ S → b ≠ it → s.heap.get? b = some o → h'.get? b = some o) → h'.get? S = some { cls := .type "list", dict := none, data := .seq acc c', slots := #[] } → ItemsOf (revP items) acc items.size → R (.ok (.ret .none)) { s with heap := h', toks := tk }) :
    wpAny (model prog w) A.in1 (Builtin.List.listExtendWith (.ref S) (.ref it) .none)
      (fun fin s' => match fin with | .done f => R (.ok f) s' | .again c' => c'.quiet = true ∧ codeAny (model prog w) A c' R s') (fun e s' => R (.error e) s') s := by
  have W := (Walks.listRev (prog := prog) (w := w) (A := A.in1) hh it l hne items).toS
  have sf : S ∉ [it, l] := fun z => by
    rcases List.mem_cons.mp z with z | z
    · exact hSi z
    · exact hSl (List.mem_singleton.mp z)
  have ty : s.TypeIs (.ref it) "list_reverseiterator" := hit.typeIs
  have same : Builtin.List.listSameRef (.ref S) (.ref it) = false := by simp [Builtin.List.listSameRef, hSi]
  unfold Builtin.List.listExtendWith
  refine wpAny_bind (wpAny_typeOf ty ?_)
  rw [if_neg (by rw [same]; decide)]
  refine wpAny_bind (wpAny_pyIter_revIter hit (wpAny_bind (wpAny_holding ?_)))
  unfold Builtin.List.listLengthHint
  refine wpAny_bind (wpAny_specialOf ty RT.nolen_lri ?_)
  show wpAny _ A.in1 (specialOf (Value.ref it) (Str.ofString "__length_hint__") >>= _) _ _ _
  refine wpAny_bind (wpAny_specialOf ty RT.hint_lri ?_)
  generalize hid : ("list_reverseiterator.__length_hint__" : String) = id0
  wp_delta
  rw [show splitId id0 = some ("list_reverseiterator", "__length_hint__") from by subst hid; decide +kernel]
  subst hid
  refine wpAny_bind (wpAny_isInstance (b := true) ty (by rw [isSubtype_type]; kernel_rfl) (wpAny_pure ?_))
  rw [if_neg (by decide)]
  have e0 : ((items.size : Nat) : Int) - 1 - ((0 : Nat) : Int) = (items.size : Int) - 1 := by omega
  refine wpAny_pure ⟨plainId_quiet F.plain_extend_loop _, codeAny_extend_loopS W hn _ sf _ items.size 0 _ _ _ rfl (Nat.zero_le _) ⟨Nat.zero_le _, by rw [e0]; exact hit, hl⟩ hS (ItemsOf.nil _) fun s1 acc c1 mv hS1 ha => ?_⟩
  rw [Moved.eq_with mv]
  refine hR s1.heap s1.toks acc c1 (fun b o h1 h2 e => mv.heap b o (fun z => ?_) e) hS1 ha
  rcases List.mem_cons.mp z with z | z
  · exact h1 z
  · exact h2 (List.mem_singleton.mp z)
theorem init_rev {R : Result → Shared → Prop} {S it l : Addr} {items : Array Value} (hh : A.handled = none) (hit : s.heap.IsRevIter it l ((items.size : Int) - 1)) (hl : s.heap.IsList l items) (hne : l ≠ it) (hSi : S ≠ it) (hSl : S ≠ l) (hn : items.size ≤ sizeLine)
    (hS : s.heap.get? S = some { cls := .type "list", data := .seq #[] })
    (hR : ∀ h' tk acc c', (∀ b o, b ≠ S → b ≠ it → s.heap.get? b = some o → h'.get? b = some o) → h'.get? S = some { cls := .type "list", dict := none, data := .seq acc c', slots := #[] } → ItemsOf (revP items) acc items.size → R (.ok (.ret .none)) { s with heap := h', toks := tk }) :
    wpAny (model prog w) A.in1 (Builtin.«list.__init__» ⟨[.ref S, .ref it], []⟩)
      (fun fin s' => match fin with | .done f => R (.ok f) s' | .again c' => c'.quiet = true ∧ codeAny (model prog w) A c' R s') (fun e s' => R (.error e) s') s := by
  show wpAny _ _ (do let old ← Builtin.List.listItems (.ref S); Builtin.List.listUpdate (.ref S) (fun _ => #[]); letGo old.toList.reverse; Builtin.List.listExtendWith (.ref S) (.ref it) .none) _ _ s
  refine wpAny_bind ?_
  unfold Builtin.List.listItems
  refine wpAny_bind (wpAny_seqItems hS rfl (wpAny_pure ?_))
  show wpAny _ A.in1 (updateSeq S (fun _ => #[]) >>= fun _ => letGo (#[] : Array Value).toList.reverse >>= fun _ => Builtin.List.listExtendWith (.ref S) (.ref it) .none) _ _ s
  refine wpAny_bind (wpAny_updateSeq hS rfl (wpAny_bind (wpAny_letGo ?_)))
  have hS2 := Heap.get?_update_self (Obj.mapSeq (fun _ => (#[] : Array Value))) hS rfl
  have oth : ∀ b o, b ≠ S → s.heap.get? b = some o → (s.heap.update S (Obj.mapSeq (fun _ => (#[] : Array Value)))).get? b = some o := fun b o hb e => (Heap.get?_update_other _ _ (Ne.symm hb)).trans e
  refine ext_rev (s := { s with heap := s.heap.update S (Obj.mapSeq (fun _ => (#[] : Array Value))) }) hh (hit.at fun o e => oth it o (Ne.symm hSi) e) (hl.at fun o e => oth l o (Ne.symm hSl) e) hne hSi hSl hn hS2 fun h' tk acc c' hk hS' ha => ?_
  exact hR h' tk acc c' (fun b o h1 h2 e => hk b o h1 h2 (oth b o h1 e)) hS' ha
theorem call_list_rev {it l : Addr} {items : Array Value} {Q : Value → Shared → Prop} (hh : A.handled = none) (hit : s.heap.IsRevIter it l ((items.size : Int) - 1)) (hl : s.heap.IsList l items) (hne : l ≠ it) (hn : items.size ≤ sizeLine)
    (hQ : ∀ h' tk acc c', (∀ b o, b ≠ it → s.heap.get? b = some o → h'.get? b = some o) → h'.get? s.heap.objs.size = some { cls := .type "list", dict := none, data := .seq acc c', slots := #[] } → ItemsOf (revP items) acc items.size → Q (.ref s.heap.objs.size) { s with heap := h', toks := tk }) :
    wpAny (model prog w) A (call (.type "list") [.ref it]) Q E s := by
  obtain ⟨oi, hoi, _⟩ := id hit
  obtain ⟨ol, hol, _⟩ := id hl
  refine callType_codes (Q₁ := fun obj s₁ => obj = .ref s.heap.objs.size ∧ s₁ = { s with heap := s.heap.push { cls := .type "list", data := .seq #[] } }) F.called_list (F.typeCall_list_1 _) F.entry_list_init
    (code_list_new _ ⟨rfl, rfl⟩) fun obj s1 h1 => ?_
  obtain ⟨rfl, rfl⟩ := h1
  have hS : (s.heap.push { cls := .type "list", data := .seq #[] }).get? s.heap.objs.size = some { cls := .type "list", data := .seq #[] } := Heap.get?_push_size _ rfl
  refine ⟨⟨_, hS, rfl⟩, F.args_list_init_2 _ _, init_rev (A := A.in1) (s := { s with heap := s.heap.push { cls := .type "list", data := .seq #[] } }) hh (hit.at fun o e => Heap.get?_push_of_some _ e) (hl.push _) hne (Nat.ne_of_gt (Heap.lt_size hoi)) (Nat.ne_of_gt (Heap.lt_size hol)) hn hS fun h' tk acc c' hk hS' ha => ?_⟩
  exact ⟨rfl, hQ h' tk acc c' (fun b o hb e => hk b o (Nat.ne_of_lt (Heap.lt_size e)) hb (Heap.get?_push_of_some _ e)) hS' ha⟩
end
noncomputable def tListRev (K : PySem.W.Frag) (te : TE) : TE := fun σ H Q => te σ H fun v H1 => ∃ (a : Addr) (xs : List V), v = .ref a ∧ SqL K H1 a xs ∧ ∀ q, H1 q = none → Q (.ref q) (upd H1 q (.lst xs.reverse))
section
variable {X : Cx}
theorem pe_listRev {e : Expr} {te : TE} {p p2 pos pos2 : Pos} (hc : X.calm = true) (hg : Gl X "list") (hm : X.mg "list" = none) (hg2 : Gl X "reversed") (hm2 : X.mg "reversed" = none) (he : PE X e te)
    (na : starEach [e] X.env = (false, eval e X.env) :: starEach [] X.env) : PE X (.Call (.Name "list" p) [.Call (.Name "reversed" p2) [e] [] pos2] [] pos) (tListRev X.K te) := by
  refine ⟨fun pins s σ H Q I h => ?_⟩
  refine Call_ (ld_blt I hg hm boot_list (PyProof.Rows.callWith_type1 (args_cons (Call_ (ld_blt I hg2 hm2 PyProof.Rows.boot_reversed (PyProof.Rows.callWith_type1 (args_cons (thn (he.run pins s σ H _ I h) fun u s1 ⟨v, H1, I1, r1, q1⟩ => args_nil ?_) na) na rfl))) rfl) rfl rfl))
  obtain ⟨a, xs, ev, hq, q⟩ := q1
  subst ev
  obtain rfl : u = Value.ref a := r1
  obtain ⟨its, rv, pl, hz⟩ := I1.list hq
  have hl := pl.isList
  refine call_reversed_list hl (args_nil ?_)
  have I2 : Inv X pins σ H1 { s1 with heap := s1.heap.push (revObj a ((its.toArray.size : Int) - 1)) } := I1.kept (t' := s1.toks) fun b o e => Heap.get?_push_of_some _ e
  have hf : ∀ b ∈ [s1.heap.objs.size], FpOk X pins H1 b := fun b hb => by
    rw [List.mem_singleton.mp hb]
    exact I1.fpOk (Nat.le_refl _) (I1.hok.fresh (Nat.le_refl _))
  obtain ⟨ol, hol, _⟩ := id hl
  have hne : a ≠ s1.heap.objs.size := Nat.ne_of_lt (Heap.lt_size hol)
  have hn : its.toArray.size ≤ sizeLine := by rw [List.size_toArray, ← rv.length]; exact hz
  refine call_list_rev (s := { s1 with heap := s1.heap.push (revObj a ((its.toArray.size : Int) - 1)) }) (I1.ok.hd hc) ⟨_, Heap.get?_push_size _ rfl, rfl, rfl⟩ (hl.push _) hne hn fun h' tk acc c' hk e' hi => ?_
  have fr : H1 (s1.heap.push (revObj a ((its.toArray.size : Int) - 1))).objs.size = none := I2.hok.fresh (Nat.le_refl _)
  have z : xs.reverse.length ≤ sizeLine := by rw [List.length_reverse]; exact hz
  have new : ObjOk X.prog X.w (upd H1 (s1.heap.push (revObj a ((its.toArray.size : Int) - 1))).objs.size (.lst xs.reverse)) h' (s1.heap.push (revObj a ((its.toArray.size : Int) - 1))).objs.size (.lst xs.reverse) := ⟨z, acc.toList, c', RT.vals_rev rv hi, by rw [Array.toArray_toList]; exact e'⟩
  exact ⟨.ref _, _, I2.turnedNew (t' := tk) (ch := [s1.heap.objs.size]) (fun b o hb e => hk b o (fun z => hb (by rw [z]; exact List.mem_singleton_self _)) e) hf (Nat.le_refl _) new, rfl, q _ fr⟩
end
end VdRv

set_option Elab.async false
set_option linter.all false
set_option maxRecDepth 100000
/-! max and min of a list of pairs of whole numbers -/
namespace VdMp
open PySem PySem.Spec PySem.SeqAt PySem.W PyProof.Rows L2
open Vd (lexLe)
noncomputable def pyP (p : Int × Int) : PyData := .tuple [.int p.1, .int p.2]
noncomputable def lexB (p q : Int × Int) : Bool := decide (p.1 < q.1 ∨ (p.1 = q.1 ∧ p.2 < q.2))
theorem int_blt (a b : Int) (h : a ≠ b) (l m : List (Int ⊕ List Nat)) : PyProof.Rows.lexLt itemOrd (.inl a :: l) (.inl b :: m) = decide (a < b) := by
  rw [lex_diff (O := itemOrd) (by intro z; cases z; exact h rfl)]
  rfl
theorem lt_pair (p q : Int × Int) : dataLt (pyP p) (pyP q) = lexB p q := by
  unfold dataLt pyP lexB
  simp only [keyToks, keyToksAll, List.singleton_append]
  rw [lex_self (O := itemOrd)]
  by_cases c : p.1 = q.1
  · rw [c, lex_self (O := itemOrd), lex_self (O := itemOrd)]
    by_cases d : p.2 = q.2
    · rw [d, lex_self (O := itemOrd), lex_self (O := itemOrd)]
      have e : PyProof.Rows.lexLt itemOrd [] [] = false := rfl
      rw [e]
      symm
      exact decide_eq_false (by omega)
    · rw [int_blt _ _ d]
      by_cases e : p.2 < q.2
      · rw [decide_eq_true e, decide_eq_true (.inr ⟨rfl, e⟩)]
      · rw [decide_eq_false e, decide_eq_false (by omega)]
  · rw [int_blt _ _ c]
    by_cases e : p.1 < q.1
    · rw [decide_eq_true e, decide_eq_true (.inl e)]
    · rw [decide_eq_false e, decide_eq_false (by omega)]
theorem alike_pair (p q : Int × Int) : alike (pyP p) (pyP q) = true := by simp [pyP, alike, alikeAll]
theorem alikeP (ps : List (Int × Int)) : AlikeAll (ps.map pyP) := by
  refine ⟨fun x hx y hy => ?_, fun x hx => ?_⟩
  · obtain ⟨p, _, rfl⟩ := List.mem_map.mp hx
    obtain ⟨q, _, rfl⟩ := List.mem_map.mp hy
    exact alike_pair p q
  · obtain ⟨p, _, rfl⟩ := List.mem_map.mp hx
    exact fun z => nomatch z
theorem depthP : ∀ ps : List (Int × Int), PyData.depthAll (ps.map pyP) ≤ 2
  | [] => by simp [PyData.depthAll]
  | p :: ps => by
    have := depthP ps
    simp only [List.map_cons, PyData.depthAll, pyP, PyData.depth]
    omega
/-- the one that a pick leaves -/
noncomputable def bst (f : Int × Int → Int × Int → Bool) (p : Int × Int) (ps : List (Int × Int)) : Int × Int := ps.foldl (fun a y => if f y a = true then y else a) p
theorem bst_py (mx : Bool) (ps : List (Int × Int)) : ∀ p, (ps.map pyP).foldl (fun a y => if (if mx = true then dataLt a y else dataLt y a) = true then y else a) (pyP p) = pyP (bst (fun y a => if mx = true then lexB a y else lexB y a) p ps) := by
  induction ps with
  | nil => intro p; rfl
  | cons q ps ih =>
    intro p
    show (ps.map pyP).foldl _ (if (if mx = true then dataLt (pyP p) (pyP q) else dataLt (pyP q) (pyP p)) = true then pyP q else pyP p) = pyP (bst _ (if (if mx = true then lexB p q else lexB q p) = true then q else p) ps)
    rw [lt_pair, lt_pair]
    by_cases c : (if mx = true then lexB p q else lexB q p) = true
    · rw [if_pos c, if_pos c]; exact ih q
    · rw [if_neg c, if_neg c]; exact ih p
theorem bst_least (mx : Bool) (ps : List (Int × Int)) : ∀ p, bst (fun y a => if mx = true then lexB a y else lexB y a) p ps ∈ p :: ps ∧ ∀ y ∈ p :: ps, if mx = true then lexLe y (bst (fun y a => if mx = true then lexB a y else lexB y a) p ps) else lexLe (bst (fun y a => if mx = true then lexB a y else lexB y a) p ps) y := by
  have rfl' : ∀ p : Int × Int, if mx = true then lexLe p p else lexLe p p := fun p => by split <;> (unfold lexLe; omega)
  induction ps with
  | nil => intro p; exact ⟨List.mem_singleton_self _, fun y hy => by rw [List.mem_singleton.mp hy]; exact rfl' p⟩
  | cons q ps ih =>
    intro p
    show bst _ (if (if mx = true then lexB p q else lexB q p) = true then q else p) ps ∈ _ ∧ _
    have e : bst (fun y a => if mx = true then lexB a y else lexB y a) p (q :: ps) = bst (fun y a => if mx = true then lexB a y else lexB y a) (if (if mx = true then lexB p q else lexB q p) = true then q else p) ps := rfl
    rw [e]
    obtain ⟨h1, h2⟩ := ih (if (if mx = true then lexB p q else lexB q p) = true then q else p)
    generalize bst (fun y a => if mx = true then lexB a y else lexB y a) (if (if mx = true then lexB p q else lexB q p) = true then q else p) ps = b at h1 h2
    refine ⟨?_, fun y hy => ?_⟩
    · rcases List.mem_cons.mp h1 with z | z
      · rw [z]
        by_cases c : (if mx = true then lexB p q else lexB q p) = true
        · rw [if_pos c]; exact List.mem_cons_of_mem _ (List.mem_cons_self)
        · rw [if_neg c]; exact List.mem_cons_self
      · exact List.mem_cons_of_mem _ (List.mem_cons_of_mem _ z)
    · have h0 := h2 _ List.mem_cons_self
      have tr : ∀ u v w : Int × Int, lexLe u v → lexLe v w → lexLe u w := fun u v w a b => by unfold lexLe at *; omega
      have pick : ∀ y, y = p ∨ y = q → if mx = true then lexLe y (if (if mx = true then lexB p q else lexB q p) = true then q else p) else lexLe (if (if mx = true then lexB p q else lexB q p) = true then q else p) y := by
        intro y hy
        cases mx with
        | true =>
          simp only [if_true]
          cases c : lexB p q with
          | true => have := of_decide_eq_true c; rcases hy with rfl | rfl <;> simp only [if_true] <;> (unfold lexLe; omega)
          | false => have := of_decide_eq_false c; rcases hy with rfl | rfl <;> simp only [Bool.false_eq_true, if_false] <;> (unfold lexLe; omega)
        | false =>
          simp only [Bool.false_eq_true, if_false]
          cases c : lexB q p with
          | true => have := of_decide_eq_true c; rcases hy with rfl | rfl <;> simp only [if_true] <;> (unfold lexLe; omega)
          | false => have := of_decide_eq_false c; rcases hy with rfl | rfl <;> simp only [Bool.false_eq_true, if_false] <;> (unfold lexLe; omega)
      have go : y = p ∨ y = q → if mx = true then lexLe y b else lexLe b y := fun hy => by
        have a := pick y hy
        cases mx with
        | true => exact tr _ _ _ a h0
        | false => exact tr _ _ _ h0 a
      rcases List.mem_cons.mp hy with z | z
      · exact go (.inl z)
      · rcases List.mem_cons.mp z with z | z
        · exact go (.inr z)
        · exact h2 y (List.mem_cons_of_mem _ z)
noncomputable def rMpr (K : PySem.W.Frag) (mx : Bool) : List V → Hp → VK → Prop := fun vs H Q => ∃ (a : Addr) (xs : List V) (ps : List (Int × Int)), vs = [.ref a] ∧ SqL K H a xs ∧ DpAll K H xs (ps.map pyP) ∧ 0 < ps.length ∧
  ∀ (i : Nat) (k : Int × Int) (x : V), xs[i]? = some x → ps[i]? = some k → (∀ y ∈ ps, if mx = true then lexLe y k else lexLe k y) → Q x H
variable {X : Cx}
theorem mpr_fin {pins : List (Addr × Obj)} {σ : L2.St} {H : Hp} {s : Shared} {Q : VK} {mx : Bool} (I : Inv X pins σ H s) {xs : List V} {its : List Value} {p : Int × Int} {ps : List (Int × Int)} {as : List Addr} (rv : Vals xs its) (hr : ReadsAll s.heap its ((p :: ps).map pyP) as)
    (q : ∀ (i : Nat) (k : Int × Int) (x : V), xs[i]? = some x → (p :: ps)[i]? = some k → (∀ y ∈ p :: ps, if mx = true then lexLe y k else lexLe k y) → Q x H)
    (i : Nat) (v : Value) (h' : Heap) (tk : Nat) (bs : List Addr) (hv : its.toArray[i]? = some v) (rd : Reads h' v (pyP (bst (fun y a => if mx = true then lexB a y else lexB y a) p ps)) bs) (hk : ∀ b o, s.heap.get? b = some o → h'.get? b = some o) : EP X pins σ Q v { s with heap := h', toks := tk } := by
  have hv' : its[i]? = some v := by simpa using hv
  obtain ⟨cs, r1, r2, r3, r4⟩ := readsAll_at hr i v hv'
  rw [List.length_map] at r2
  obtain ⟨k, hkk⟩ : ∃ k, (p :: ps)[i]? = some k := ⟨_, List.getElem?_eq_getElem r2⟩
  have ek : ((p :: ps).map pyP).getD i .none = pyP k := by
    rw [List.getD_eq_getElem?_getD, List.getElem?_map, hkk]; rfl
  rw [ek] at r1
  have eq := alike_unique _ _ _ _ _ (alike_pair _ _) (reads_keeps hk r1) rd
  have eq2 : k = bst (fun y a => if mx = true then lexB a y else lexB y a) p ps := by
    unfold pyP at eq
    injection eq with e1
    injection e1 with e2 e3
    injection e2 with e2
    injection e3 with e3
    injection e3 with e3
    exact Prod.ext e2 e3
  have hxl : i < xs.length := by rw [rv.length]; exact (List.getElem?_eq_some_iff.mp hv').1
  obtain ⟨u, hu, ru⟩ := rv.get (i := i) (x := xs[i]) (List.getElem?_eq_getElem hxl)
  rw [hv'] at hu
  cases hu
  exact ⟨xs[i], H, I.kept (t' := tk) hk, ru, q i k _ (List.getElem?_eq_getElem hxl) hkk (by rw [eq2]; exact (bst_least mx ps p).2)⟩
theorem cr_mpr (hc : X.calm = true) (hu : X.A.units + 65 < cLine) (mx : Bool) : CallR X (.builtin (if mx = true then "max" else "min")) (rMpr X.K mx) := by
  intro pins s σ H vs us Q I r h
  obtain ⟨a, xs, ps, rfl, hq, hd, hp, q⟩ := h
  obtain ⟨u, rfl, rx⟩ := vals1 r
  cases rx
  obtain ⟨its, rv, pl, hz⟩ := I.list hq
  obtain ⟨as, hr⟩ := Dp.readsAll I _ _ _ hd rv
  cases ps with
  | nil => cases hp
  | cons p ps =>
    have hdp := depthP (p :: ps)
    cases mx with
    | true =>
      refine max_list_data (x := pyP p) (xs := ps.map pyP) (I.ok.hd hc) pl.isList (by simpa using hr) (alikeP (p :: ps)) (by show _ + 1 + PyData.depthAll ((p :: ps).map pyP) < _; omega) fun i v h' tk bs hv rd hk => ?_
      have e := bst_py true ps p
      simp only [if_true] at e
      refine mpr_fin (mx := true) I rv hr q i v h' tk bs hv ?_ hk
      simp only [if_true]
      rw [← e]
      exact rd
    | false =>
      refine min_list_data (x := pyP p) (xs := ps.map pyP) (I.ok.hd hc) pl.isList (by simpa using hr) (alikeP (p :: ps)) (by show _ + 1 + PyData.depthAll ((p :: ps).map pyP) < _; omega) fun i v h' tk bs hv rd hk => ?_
      have e := bst_py false ps p
      simp only [Bool.false_eq_true, if_false] at e
      refine mpr_fin (mx := false) I rv hr q i v h' tk bs hv ?_ hk
      simp only [Bool.false_eq_true, if_false]
      rw [← e]
      exact rd
end VdMp

set_option Elab.async false
set_option linter.all false
set_option maxRecDepth 100000
/-! how plain data lies in the abstract heap -/
namespace Vd
open PySem PySem.Spec PyProof.Rows L2

structure Wd where
  K : PySem.W.Frag
  mg : Str → Option Value
  xs : Option (Nat × Addr × String)
  fb : List Addr
/-- an address that is not written -/
noncomputable def Off (W : Wd) (φ : List Addr) (a : Addr) : Prop := a ∉ φ ∧ a ∉ W.fb
noncomputable def clOf (mg : Str → Option Value) (c : String) : Option Addr := match mg (Str.ofString c) with
  | some (.ref C) => some C
  | _ => none

noncomputable def SvAt (W : Wd) (φ : List Addr) (H : Hp) (a : Addr) (vs : List V) : Prop :=
  (Rd H a (.lst vs) ∧ Off W φ a) ∨ ∃ (o : Obj) (its : Array Value) (n : Nat), W.K.lookup a = some o ∧ o.cls = .type "list" ∧ o.dict = none ∧ o.data = .seq its n ∧ its.size ≤ sizeLine ∧ Vals vs its.toList
mutual
inductive Rep (W : Wd) (φ : List Addr) (H : Hp) : D → V → Prop
  | non : Rep W φ H .non .non
  | bl (b : Bool) : Rep W φ H (.bl b) (.bl b)
  | int (i : Int) : Rep W φ H (.int i) (.int i)
  | str (x : Str) : Rep W φ H (.str x) (.str x)
  | tup {a vs xs} : H a = some (.tup vs) → Off W φ a → Reps W φ H xs vs → Rep W φ H (.tup xs) (.ref a)
  | vl {a vs xs} : H a = some (.lst vs) → Off W φ a → Reps W φ H xs vs → Rep W φ H (.vl xs) (.ref a)
  | sv {a vs xs} : SvAt W φ H a vs → Reps W φ H xs vs → Rep W φ H (.sv xs) (.ref a)
  | vi {a C dx c ns vs xs} {fs : List (Str × V)} : H a = some (.ins C dx fs) → Off W φ a → clOf W.mg c = some C → fs = (ns.map Str.ofString).zip vs → Reps W φ H xs vs → ns.length = vs.length → Rep W φ H (.vi c ns xs) (.ref a)
  | ref {n a} : φ[n]? = some a → Rep W φ H (.ref n) (.ref a)
inductive Reps (W : Wd) (φ : List Addr) (H : Hp) : List D → List V → Prop
  | nil : Reps W φ H [] []
  | cons {x v xs vs} : Rep W φ H x v → Reps W φ H xs vs → Reps W φ H (x :: xs) (v :: vs)
end
structure Ext (φ φ' : List Addr) (H H' : Hp) : Prop where
  pre : ∃ l, φ' = φ ++ l ∧ ∀ p ∈ l, H p = none
  keep : ∀ a o, a ∉ φ → H a = some o → H' a = some o
  there : ∀ a, H a ≠ none → H' a ≠ none
  frz : ∀ a o u, H a = some (.frz o u) → H' a = some (.frz o u)

theorem Ext.out {φ φ' H H'} (e : Ext φ φ' H H') {a : Addr} {o : HO} (n : a ∉ φ) (h : H a = some o) : a ∉ φ' := by
  obtain ⟨l, rfl, hl⟩ := e.pre
  intro hm
  rcases List.mem_append.mp hm with z | z
  · exact n z
  · rw [hl a z] at h; cases h
theorem Ext.refl {φ H} : Ext φ φ H H := ⟨⟨[], by simp, by simp⟩, fun _ _ _ h => h, fun _ h => h, fun _ _ _ h => h⟩
theorem Ext.trans {φ φ1 φ2 H H1 H2} (a : Ext φ φ1 H H1) (b : Ext φ1 φ2 H1 H2) : Ext φ φ2 H H2 := by
  obtain ⟨l, e1, hl⟩ := a.pre
  obtain ⟨m, e2, hm⟩ := b.pre
  refine ⟨⟨l ++ m, by rw [e2, e1, List.append_assoc], fun p hp => ?_⟩, fun c o n h => ?_, fun c h => b.there c (a.there c h), fun c o u h => b.frz c o u (a.frz c o u h)⟩
  · rcases List.mem_append.mp hp with z | z
    · exact hl p z
    · have h1 := hm p z
      cases q : H p with
      | none => rfl
      | some o => exact absurd h1 (a.there p (by rw [q]; simp))
  · exact b.keep c o (a.out n h) (a.keep c o n h)

section
variable {W : Wd} {φ φ' : List Addr} {H H' : Hp}
mutual
theorem Rep.ext (e : Ext φ φ' H H') : ∀ {d v}, Rep W φ H d v → Rep W φ' H' d v
  | _, _, .non => .non
  | _, _, .bl b => .bl b
  | _, _, .int i => .int i
  | _, _, .str x => .str x
  | _, _, .tup h n r => .tup (e.keep _ _ n.1 h) ⟨e.out n.1 h, n.2⟩ (Reps.ext e r)
  | _, _, .vl h n r => .vl (e.keep _ _ n.1 h) ⟨e.out n.1 h, n.2⟩ (Reps.ext e r)
  | _, _, .sv h r => .sv (by
      rcases h with ⟨h, n⟩ | h
      · rcases h with h | ⟨o, h⟩
        · exact .inl ⟨.inl (e.keep _ _ n.1 h), e.out n.1 h, n.2⟩
        · exact .inl ⟨.inr ⟨o, e.keep _ _ n.1 h⟩, e.out n.1 h, n.2⟩
      · exact .inr h) (Reps.ext e r)
  | _, _, .vi h n c m r l => .vi (e.keep _ _ n.1 h) ⟨e.out n.1 h, n.2⟩ c m (Reps.ext e r) l
  | _, _, .ref h => .ref (by
      obtain ⟨l, rfl, _⟩ := e.pre
      rw [List.getElem?_append_left]
      · exact h
      · exact (List.getElem?_eq_some_iff.mp h).1)
theorem Reps.ext (e : Ext φ φ' H H') : ∀ {ds vs}, Reps W φ H ds vs → Reps W φ' H' ds vs
  | _, _, .nil => .nil
  | _, _, .cons a b => .cons (Rep.ext e a) (Reps.ext e b)
end
theorem Reps.len : ∀ {ds vs}, Reps W φ H ds vs → ds.length = vs.length
  | _, _, .nil => rfl
  | _, _, .cons _ b => by simp [Reps.len b]
theorem Reps.get : ∀ {ds vs} {i : Nat} {d}, Reps W φ H ds vs → ds[i]? = some d → ∃ v, vs[i]? = some v ∧ Rep W φ H d v
  | _, _, _, _, .nil, h => by simp at h
  | _, _, 0, _, .cons a _, h => by simp at h; subst h; exact ⟨_, rfl, a⟩
  | _, _, i + 1, _, .cons _ b, h => by
    obtain ⟨v, h1, h2⟩ := Reps.get (i := i) b (by simpa using h)
    exact ⟨v, by simpa using h1, h2⟩
theorem Reps.get' : ∀ {ds vs} {i : Nat} {v}, Reps W φ H ds vs → vs[i]? = some v → ∃ d, ds[i]? = some d ∧ Rep W φ H d v
  | _, _, _, _, .nil, h => by simp at h
  | _, _, 0, _, .cons a _, h => by simp at h; subst h; exact ⟨_, rfl, a⟩
  | _, _, i + 1, _, .cons _ b, h => by
    obtain ⟨v, h1, h2⟩ := Reps.get' (i := i) b (by simpa using h)
    exact ⟨v, by simpa using h1, h2⟩
theorem Reps.append : ∀ {ds vs es us}, Reps W φ H ds vs → Reps W φ H es us → Reps W φ H (ds ++ es) (vs ++ us)
  | _, _, _, _, .nil, s => s
  | _, _, _, _, .cons a b, s => .cons a (Reps.append b s)
theorem Reps.drop : ∀ {ds vs} (n : Nat), Reps W φ H ds vs → Reps W φ H (ds.drop n) (vs.drop n)
  | _, _, 0, r => r
  | _, _, n + 1, .nil => .nil
  | _, _, n + 1, .cons _ b => Reps.drop n b
theorem Reps.take : ∀ {ds vs} (n : Nat), Reps W φ H ds vs → Reps W φ H (ds.take n) (vs.take n)
  | _, _, 0, _ => .nil
  | _, _, n + 1, .nil => .nil
  | _, _, n + 1, .cons a b => .cons a (Reps.take n b)
theorem Reps.set {d v} (r : Rep W φ H d v) : ∀ {ds vs} (i : Nat), Reps W φ H ds vs → Reps W φ H (ds.set i d) (vs.set i v)
  | _, _, _, .nil => .nil
  | _, _, 0, .cons _ b => .cons r b
  | _, _, i + 1, .cons a b => .cons a (Reps.set r i b)
theorem Reps.dropLast {ds vs} (r : Reps W φ H ds vs) : Reps W φ H ds.dropLast vs.dropLast := by
  rw [List.dropLast_eq_take, List.dropLast_eq_take, r.len]; exact r.take _
theorem Reps.reverse : ∀ {ds vs}, Reps W φ H ds vs → Reps W φ H ds.reverse vs.reverse
  | _, _, .nil => .nil
  | _, _, .cons a b => by rw [List.reverse_cons, List.reverse_cons]; exact (Reps.reverse b).append (.cons a .nil)
theorem Reps.rep {ds vs} (r : Reps W φ H ds vs) : ∀ k : Nat, Reps W φ H (List.replicate k ds).flatten (List.replicate k vs).flatten
  | 0 => .nil
  | k + 1 => by rw [List.replicate_succ, List.replicate_succ, List.flatten_cons, List.flatten_cons]; exact r.append (Reps.rep r k)
theorem Reps.single {d v} (r : Rep W φ H d v) : Reps W φ H [d] [v] := .cons r .nil

/-! ### inversions -/
theorem Rep.int_inv {i v} (r : Rep W φ H (.int i) v) : v = .int i := by cases r; rfl
theorem Rep.bl_inv {i v} (r : Rep W φ H (.bl i) v) : v = .bl i := by cases r; rfl
theorem Rep.str_inv {i v} (r : Rep W φ H (.str i) v) : v = .str i := by cases r; rfl
theorem Rep.non_inv {v} (r : Rep W φ H .non v) : v = .non := by cases r; rfl

/-- written, or locked -/
noncomputable def HzD : Bool → Hp → Addr → HO → Prop
  | false, H, a, u => H a = some u
  | true, H, a, u => ∃ o, H a = some (.frz o u)
theorem HzD.rd {z : Bool} {H : Hp} {a : Addr} {u : HO} (h : HzD z H a u) : Rd H a u := by
  cases z with
  | false => exact .inl h
  | true => exact .inr h
theorem HzD.there {z : Bool} {H : Hp} {a : Addr} {u : HO} (h : HzD z H a u) : H a ≠ none := by
  cases z with
  | false => rw [show H a = some u from h]; simp
  | true => obtain ⟨o, h⟩ := h; rw [h]; simp
theorem HzD.same {z : Bool} {H H' : Hp} {a : Addr} {u : HO} (e : H' a = H a) (h : HzD z H a u) : HzD z H' a u := by
  cases z with
  | false => exact e.trans h
  | true => obtain ⟨o, h⟩ := h; exact ⟨o, e.trans h⟩
noncomputable def RepO (W : Wd) (φ : List Addr) (H : Hp) (a : Addr) : Ob → Prop
  | .lst xs => ∃ vs, H a = some (.lst vs) ∧ Reps W φ H xs vs
  | .ins c ns xs => ∃ C dx vs, H a = some (.ins C dx ((ns.map Str.ofString).zip vs)) ∧ clOf W.mg c = some C ∧ Reps W φ H xs vs ∧ ns.length = vs.length
  | .dk z kvs => ∃ vs, HzD z H a (.dK ((kvs.map (·.1)).zip vs)) ∧ Reps W φ H (kvs.map (·.2)) vs
  | .dt z kvs => ∃ vs, HzD z H a (.dT ((kvs.map (·.1)).zip vs)) ∧ Reps W φ H (kvs.map (·.2)) vs
structure Sim (W : Wd) (φ : List Addr) (hd : Hd) (H : Hp) : Prop where
  len : φ.length = hd.length
  nd : φ.Nodup
  fbt : ∀ a ∈ W.fb, H a ≠ none
  fbn : ∀ a ∈ W.fb, a ∉ φ
  obj : ∀ (n : Nat) (o : Ob), hd[n]? = some o → ∃ a, φ[n]? = some a ∧ RepO W φ H a o
theorem RepO.there {a o} (r : RepO W φ H a o) : H a ≠ none := by
  cases o with
  | lst xs => obtain ⟨vs, h, _⟩ := r; rw [h]; simp
  | ins c ns xs => obtain ⟨C, dx, vs, h, _⟩ := r; rw [h]; simp
  | dk z kvs => obtain ⟨vs, h, _⟩ := r; exact h.there
  | dt z kvs => obtain ⟨vs, h, _⟩ := r; exact h.there
theorem Sim.there {hd} (s : Sim W φ hd H) {a} (h : a ∈ φ) : H a ≠ none := by
  obtain ⟨n, hn, e⟩ := List.getElem_of_mem h
  have : n < hd.length := by rw [← s.len]; exact hn
  obtain ⟨b, hb, r⟩ := s.obj n hd[n] (by simp [this])
  rw [List.getElem?_eq_getElem hn, e] at hb
  cases hb
  exact r.there
theorem RepO.ext {a o} (e : Ext φ φ' H H') (h : H' a = H a) (r : RepO W φ H a o) : RepO W φ' H' a o := by
  cases o with
  | lst xs => obtain ⟨vs, q, r⟩ := r; exact ⟨vs, by rw [h]; exact q, r.ext e⟩
  | ins c ns xs => obtain ⟨C, dx, vs, q, c, r, l⟩ := r; exact ⟨C, dx, vs, by rw [h]; exact q, c, r.ext e, l⟩
  | dk z kvs => obtain ⟨vs, q, r⟩ := r; exact ⟨vs, q.same h, r.ext e⟩
  | dt z kvs => obtain ⟨vs, q, r⟩ := r; exact ⟨vs, q.same h, r.ext e⟩

/-- a new object that is not to change -/
theorem Ext.new {p : Addr} {o : HO} (hp : H p = none) : Ext φ φ H (upd H p o) := ⟨⟨[], by simp, by simp⟩, fun a u _ h => by rw [upd_ne (ne_of_none h hp)]; exact h, fun a h => by
  by_cases e : a = p
  · subst e; rw [upd_same]; simp
  · rw [upd_ne e]; exact h, fun a u v h => by rw [upd_ne (ne_of_none h hp)]; exact h⟩
theorem Sim.notin {hd} (s : Sim W φ hd H) {p : Addr} (hp : H p = none) : p ∉ φ := fun h => s.there h hp
theorem Sim.off {hd} (s : Sim W φ hd H) {p : Addr} (hp : H p = none) : Off W φ p := ⟨s.notin hp, fun h => s.fbt p h hp⟩
theorem Sim.new {hd} (s : Sim W φ hd H) {p : Addr} {o : HO} (hp : H p = none) : Sim W φ hd (upd H p o) := by
  refine ⟨s.len, s.nd, fun a h => (Ext.new (φ := φ) hp).there a (s.fbt a h), s.fbn, fun n u h => ?_⟩
  obtain ⟨a, ha, r⟩ := s.obj n u h
  refine ⟨a, ha, r.ext (Ext.new hp) ?_⟩
  refine upd_ne fun e => ?_
  subst e
  exact r.there hp
/-- a new list that may change -/
theorem Ext.alloc {p : Addr} {o : HO} (hp : H p = none) : Ext φ (φ ++ [p]) H (upd H p o) := ⟨⟨[p], rfl, by simpa using hp⟩, (Ext.new (φ := φ) hp).keep, (Ext.new (φ := φ) hp).there, (Ext.new (φ := φ) hp).frz⟩
theorem Sim.alloc {hd} (s : Sim W φ hd H) {p : Addr} {o : HO} {ob : Ob} (hp : H p = none) (r : RepO W (φ ++ [p]) (upd H p o) p ob) : Sim W (φ ++ [p]) (hd ++ [ob]) (upd H p o) := by
  refine ⟨by simp [s.len], ?_, fun a h => (Ext.new (φ := φ) hp).there a (s.fbt a h), fun a h z => ?_, fun n u h => ?_⟩
  rotate_left
  · rcases List.mem_append.mp z with z | z
    · exact s.fbn a h z
    · have : a = p := by simpa using z
      exact s.fbt a h (by rw [this]; exact hp)
  rotate_left
  · rw [List.nodup_append]
    refine ⟨s.nd, by simp, fun a ha b hb => ?_⟩
    have : b = p := by simpa using hb
    subst this
    exact fun e => s.notin hp (e ▸ ha)
  · by_cases hn : n < hd.length
    · rw [List.getElem?_append_left hn] at h
      obtain ⟨a, ha, q⟩ := s.obj n u h
      refine ⟨a, by rw [List.getElem?_append_left (by rw [s.len]; exact hn)]; exact ha, q.ext (Ext.alloc hp) (upd_ne fun e => ?_)⟩
      subst e
      exact q.there hp
    · have e : n = hd.length := by
        have := (List.getElem?_eq_some_iff.mp h).1
        simp at this; omega
      subst e
      simp at h
      subst h
      exact ⟨p, by rw [← s.len]; simp, r⟩
theorem nofrz {H : Hp} {p : Addr} {u : HO} (e : H p = some u) (n : ∀ o v, u ≠ .frz o v) (od : Obj) (v : HO) : H p ≠ some (.frz od v) := fun z => n od v (Option.some.inj (e.symm.trans z))
/-- an object that may change is written -/
theorem Ext.write {p : Addr} {o : HO} (hp : p ∈ φ) (hz : ∀ od u, H p ≠ some (.frz od u)) : Ext φ φ H (upd H p o) := ⟨⟨[], by simp, by simp⟩, fun a u n h => by rw [upd_ne (fun (e : a = p) => n (by rw [e]; exact hp))]; exact h, fun a h => by
  by_cases e : a = p
  · subst e; rw [upd_same]; simp
  · rw [upd_ne e]; exact h, fun a u v h => by rw [upd_ne (fun (e : a = p) => hz u v (by rw [← e]; exact h))]; exact h⟩
theorem Sim.write {hd} (s : Sim W φ hd H) {p : Addr} {k : Nat} {o : HO} {ob : Ob} (hk : φ[k]? = some p) (hz : ∀ od u, H p ≠ some (.frz od u)) (r : RepO W φ (upd H p o) p ob) : Sim W φ (hd.set k ob) (upd H p o) := by
  have hkl := (List.getElem?_eq_some_iff.mp hk).1
  refine ⟨by simp [s.len], s.nd, fun a h => (Ext.write (List.mem_of_getElem? hk) hz).there a (s.fbt a h), s.fbn, fun n u h => ?_⟩
  by_cases e : n = k
  · subst e
    rw [List.getElem?_set_self (by rw [← s.len]; exact hkl)] at h
    cases h
    exact ⟨p, hk, r⟩
  · rw [List.getElem?_set_ne (Ne.symm e)] at h
    obtain ⟨a, ha, q⟩ := s.obj n u h
    refine ⟨a, ha, q.ext (Ext.write (List.mem_of_getElem? hk) hz) (upd_ne fun z => ?_)⟩
    subst z
    obtain ⟨h1, e1⟩ := List.getElem?_eq_some_iff.mp hk
    obtain ⟨h2, e2⟩ := List.getElem?_eq_some_iff.mp ha
    exact e ((List.getElem_inj s.nd).mp (e2.trans e1.symm))

/-! ### a list under way, that no value knows -/
noncomputable abbrev Wd.more (W : Wd) (p : Addr) : Wd := { W with fb := p :: W.fb }
mutual
theorem Rep.more {p : Addr} (hp : H p = none) : ∀ {d v}, Rep W φ H d v → Rep (W.more p) φ H d v
  | _, _, .non => .non
  | _, _, .bl b => .bl b
  | _, _, .int i => .int i
  | _, _, .str x => .str x
  | _, _, .tup h n r => .tup h ⟨n.1, by simp only [List.mem_cons, not_or]; exact ⟨ne_of_none h hp, n.2⟩⟩ (Reps.more hp r)
  | _, _, .vl h n r => .vl h ⟨n.1, by simp only [List.mem_cons, not_or]; exact ⟨ne_of_none h hp, n.2⟩⟩ (Reps.more hp r)
  | _, _, .sv h r => .sv (by
      rcases h with ⟨h, n⟩ | h
      · refine .inl ⟨h, n.1, ?_⟩
        simp only [List.mem_cons, not_or]
        refine ⟨?_, n.2⟩
        rcases h with h | ⟨o, h⟩ <;> exact ne_of_none h hp
      · exact .inr h) (Reps.more hp r)
  | _, _, .vi h n c m r l => .vi h ⟨n.1, by simp only [List.mem_cons, not_or]; exact ⟨ne_of_none h hp, n.2⟩⟩ c m (Reps.more hp r) l
  | _, _, .ref h => .ref h
theorem Reps.more {p : Addr} (hp : H p = none) : ∀ {ds vs}, Reps W φ H ds vs → Reps (W.more p) φ H ds vs
  | _, _, .nil => .nil
  | _, _, .cons a b => .cons (Rep.more hp a) (Reps.more hp b)
end
mutual
theorem Rep.less {p : Addr} : ∀ {d v}, Rep (W.more p) φ H d v → Rep W φ H d v
  | _, _, .non => .non
  | _, _, .bl b => .bl b
  | _, _, .int i => .int i
  | _, _, .str x => .str x
  | _, _, .tup h n r => .tup h ⟨n.1, fun z => n.2 (List.mem_cons_of_mem _ z)⟩ (Reps.less r)
  | _, _, .vl h n r => .vl h ⟨n.1, fun z => n.2 (List.mem_cons_of_mem _ z)⟩ (Reps.less r)
  | _, _, .sv h r => .sv (by
      rcases h with ⟨h, n⟩ | h
      · exact .inl ⟨h, n.1, fun z => n.2 (List.mem_cons_of_mem _ z)⟩
      · exact .inr h) (Reps.less r)
  | _, _, .vi h n c m r l => .vi h ⟨n.1, fun z => n.2 (List.mem_cons_of_mem _ z)⟩ c m (Reps.less r) l
  | _, _, .ref h => .ref h
theorem Reps.less {p : Addr} : ∀ {ds vs}, Reps (W.more p) φ H ds vs → Reps W φ H ds vs
  | _, _, .nil => .nil
  | _, _, .cons a b => .cons (Rep.less a) (Reps.less b)
end
theorem off_ne {W : Wd} {p a : Addr} (hp : p ∈ W.fb) (n : Off W φ a) : a ≠ p := fun e => n.2 (by rw [e]; exact hp)
mutual
theorem Rep.poke {p : Addr} {o : HO} (hp : p ∈ W.fb) : ∀ {d v}, Rep W φ H d v → Rep W φ (upd H p o) d v
  | _, _, .non => .non
  | _, _, .bl b => .bl b
  | _, _, .int i => .int i
  | _, _, .str x => .str x
  | _, _, .tup h n r => .tup (by rw [upd_ne (off_ne hp n)]; exact h) n (Reps.poke hp r)
  | _, _, .vl h n r => .vl (by rw [upd_ne (off_ne hp n)]; exact h) n (Reps.poke hp r)
  | _, _, .sv h r => .sv (by
      rcases h with ⟨h, n⟩ | h
      · refine .inl ⟨?_, n⟩
        rcases h with h | ⟨o, h⟩
        · exact .inl (by rw [upd_ne (off_ne hp n)]; exact h)
        · exact .inr ⟨o, by rw [upd_ne (off_ne hp n)]; exact h⟩
      · exact .inr h) (Reps.poke hp r)
  | _, _, .vi h n c m r l => .vi (by rw [upd_ne (off_ne hp n)]; exact h) n c m (Reps.poke hp r) l
  | _, _, .ref h => .ref h
theorem Reps.poke {p : Addr} {o : HO} (hp : p ∈ W.fb) : ∀ {ds vs}, Reps W φ H ds vs → Reps W φ (upd H p o) ds vs
  | _, _, .nil => .nil
  | _, _, .cons a b => .cons (Rep.poke hp a) (Reps.poke hp b)
end
theorem RepO.imp {W' : Wd} {H' : Hp} {a : Addr} {o : Ob} (hm : W'.mg = W.mg) (h : H' a = H a) (f : ∀ ds vs, Reps W φ H ds vs → Reps W' φ H' ds vs) (r : RepO W φ H a o) : RepO W' φ H' a o := by
  cases o with
  | lst xs => obtain ⟨vs, q, r⟩ := r; exact ⟨vs, by rw [h]; exact q, f _ _ r⟩
  | ins c ns xs => obtain ⟨C, dx, vs, q, c, r, l⟩ := r; exact ⟨C, dx, vs, by rw [h]; exact q, by rw [hm]; exact c, f _ _ r, l⟩
  | dk z kvs => obtain ⟨vs, q, r⟩ := r; exact ⟨vs, q.same h, f _ _ r⟩
  | dt z kvs => obtain ⟨vs, q, r⟩ := r; exact ⟨vs, q.same h, f _ _ r⟩
theorem Sim.more {hd} {p : Addr} {o : HO} (s : Sim W φ hd H) (hp : H p = none) : Sim (W.more p) φ hd (upd H p o) := by
  have s' := s.new (o := o) hp
  have e := Ext.new (φ := φ) (o := o) hp
  refine ⟨s.len, s.nd, fun a h => ?_, fun a h => ?_, fun n u h => ?_⟩
  · rcases List.mem_cons.mp h with rfl | h
    · rw [upd_same]; simp
    · exact s'.fbt a h
  · rcases List.mem_cons.mp h with rfl | h
    · exact s.notin hp
    · exact s.fbn a h
  · obtain ⟨a, ha, r⟩ := s.obj n u h
    refine ⟨a, ha, RepO.imp (W := W) (W' := W.more p) (φ := φ) (H := H) (H' := upd H p o) rfl (upd_ne fun z => r.there (by rw [z]; exact hp)) (fun ds vs q => ?_) r⟩
    exact Reps.ext (W := W.more p) e (Reps.more (W := W) hp q)
theorem Sim.less {hd} {p : Addr} (s : Sim (W.more p) φ hd H) : Sim W φ hd H := by
  refine ⟨s.len, s.nd, fun a h => s.fbt a (List.mem_cons_of_mem _ h), fun a h => s.fbn a (List.mem_cons_of_mem _ h), fun n u h => ?_⟩
  obtain ⟨a, ha, r⟩ := s.obj n u h
  exact ⟨a, ha, RepO.imp (W := W.more p) (W' := W) (φ := φ) (H := H) (H' := H) rfl rfl (fun ds vs q => Reps.less (W := W) q) r⟩
theorem Sim.poke {hd} {p : Addr} {o : HO} (s : Sim W φ hd H) (hp : p ∈ W.fb) (hn : p ∉ φ) : Sim W φ hd (upd H p o) := by
  refine ⟨s.len, s.nd, fun a h => ?_, s.fbn, fun n u h => ?_⟩
  · by_cases e : a = p
    · subst e; rw [upd_same]; simp
    · rw [upd_ne e]; exact s.fbt a h
  · obtain ⟨a, ha, r⟩ := s.obj n u h
    exact ⟨a, ha, RepO.imp (W := W) (W' := W) (φ := φ) (H := H) (H' := upd H p o) rfl (upd_ne fun z => hn (by rw [← z]; exact List.mem_of_getElem? ha)) (fun ds vs q => q.poke hp) r⟩

/-! ### slots -/
structure RepSt (W : Wd) (φ : List Addr) (H : Hp) (σd : DSt) (σ : L2.St) : Prop where
  len : σd.length = σ.length
  get : ∀ (i : Nat) d, σd[i]? = some (some d) → ∃ v, σ[i]? = some (some v) ∧ Rep W φ H d v
  xs : ∀ p, W.xs = some p → σd[p.1]? = some none → σ[p.1]? = some (some (.ref p.2.1))
theorem RepSt.ext {σd σ} (e : Ext φ φ' H H') (r : RepSt W φ H σd σ) : RepSt W φ' H' σd σ :=
  ⟨r.len, fun i d h => let ⟨v, h1, h2⟩ := r.get i d h; ⟨v, h1, h2.ext e⟩, r.xs⟩
theorem RepSt.set {σd σ d v} (r : RepSt W φ H σd σ) (i : Nat) (q : Rep W φ H d v) : RepSt W φ H (σd.set i (some d)) (σ.set i (some v)) := by
  refine ⟨by simp [r.len], fun j e h => ?_, fun p hp h => ?_⟩
  rotate_left
  · by_cases hj : i = p.1
    · rw [hj] at h
      have hl : p.1 < σd.length := by
        have := (List.getElem?_eq_some_iff.mp h).1
        simpa using this
      rw [List.getElem?_set_self hl] at h
      cases h
    · rw [List.getElem?_set_ne hj] at h ⊢
      exact r.xs p hp h
  by_cases hj : i = j
  · subst hj
    have hl : i < σd.length := by
      have := (List.getElem?_eq_some_iff.mp h).1
      simpa using this
    rw [List.getElem?_set_self hl] at h
    cases h
    exact ⟨v, by rw [List.getElem?_set_self (by rw [← r.len]; exact hl)], q⟩
  · rw [List.getElem?_set_ne hj] at h
    obtain ⟨w, h1, h2⟩ := r.get j e h
    exact ⟨w, by rw [List.getElem?_set_ne hj]; exact h1, h2⟩
theorem RepSt.wipe1 {σd σ} (hx : W.xs = none) (r : RepSt W φ H σd σ) (i : Nat) (o : Option V) : RepSt W φ H (σd.set i none) (σ.set i o) := by
  refine ⟨by simp [r.len], fun j e h => ?_, fun p hp => by rw [hx] at hp; cases hp⟩
  by_cases hj : i = j
  · subst hj
    have hl : i < σd.length := by
      have := (List.getElem?_eq_some_iff.mp h).1
      simpa using this
    rw [List.getElem?_set_self hl] at h
    cases h
  · rw [List.getElem?_set_ne hj] at h
    obtain ⟨w, h1, h2⟩ := r.get j e h
    exact ⟨w, by rw [List.getElem?_set_ne hj]; exact h1, h2⟩
theorem RepSt.wipe {σd σ} (hx : W.xs = none) (r : RepSt W φ H σd σ) : ∀ vs : List Nat, RepSt W φ H (Vd.wipe σd vs) (L2.wipe σ vs)
  | [] => r
  | v :: vs => RepSt.wipe1 hx (RepSt.wipe hx r vs) v none
theorem RepSt.imp {W' : Wd} {φ' : List Addr} {H' : Hp} {σd σ} (r : RepSt W φ H σd σ) (f : ∀ d v, Rep W φ H d v → Rep W' φ' H' d v) (hx : W'.xs = W.xs := by rfl) : RepSt W' φ' H' σd σ :=
  ⟨r.len, fun i d h => let ⟨v, h1, h2⟩ := r.get i d h; ⟨v, h1, f d v h2⟩, fun p hp => r.xs p (by rw [← hx]; exact hp)⟩
end
end Vd

set_option Elab.async false
set_option linter.all false
set_option maxRecDepth 100000
/-! the operators of plain data are the machine's -/
namespace Vd
open PySem PySem.Spec PyProof.Rows L2

noncomputable def QOk (W : Wd) (φ : List Addr) (H : Hp) (Qd : DK) (Q : VK) : Prop := ∀ φ' hd' H' d v, Ext φ φ' H H' → Sim W φ' hd' H' → Rep W φ' H' d v → Qd d hd' → Q v H'
noncomputable def XOk (W : Wd) (WX : L2.WX) (φ : List Addr) (H : Hp) (σ : L2.St) (Xd : EK) : Prop := ∀ φ' hd' H' c C, Ext φ φ' H H' → Sim W φ' hd' H' → clOf W.mg c = some C → Xd c hd' → WX (.ref C) none σ H'
structure At (W : Wd) (φ : List Addr) (hd : Hd) (H : Hp) (σd : DSt) (σ : L2.St) : Prop where
  sim : Sim W φ hd H
  st : RepSt W φ H σd σ
section
variable {W : Wd} {WX : L2.WX} {φ φ' : List Addr} {hd : Hd} {H H' : Hp} {σd : DSt} {σ : L2.St} {Qd : DK} {Q : VK} {Xd : EK}
theorem QOk.ext (q : QOk W φ H Qd Q) (e : Ext φ φ' H H') : QOk W φ' H' Qd Q := fun φ2 h2 H2 d v e2 s r w => q φ2 h2 H2 d v (e.trans e2) s r w
theorem XOk.ext (q : XOk W WX φ H σ Xd) (e : Ext φ φ' H H') : XOk W WX φ' H' σ Xd := fun φ2 h2 H2 d v e2 s r w => q φ2 h2 H2 d v (e.trans e2) s r w
theorem QOk.now (q : QOk W φ H Qd Q) (s : Sim W φ hd H) {d v} (r : Rep W φ H d v) (w : Qd d hd) : Q v H := q φ hd H d v .refl s r w

/-! ### reading -/
theorem rdM_ok {d xs v} (s : Sim W φ hd H) (r : Rep W φ H d v) (e : rdM hd d = some xs) : ∃ a vs, v = .ref a ∧ H a = some (.lst vs) ∧ Reps W φ H xs vs := by
  cases r with
  | vl h n q => simp [rdM] at e; subst e; exact ⟨_, _, rfl, h, q⟩
  | @ref n a h =>
    have e : (match hd[n]? with
      | some (.lst xs) => some xs
      | _ => none) = some xs := e
    cases o : hd[n]? with
    | none => rw [o] at e; cases e
    | some ob =>
      rw [o] at e
      cases ob with
      | lst ys =>
        cases e
        obtain ⟨b, hb, vs, h1, h2⟩ := s.obj n _ o
        rw [h] at hb; cases hb
        exact ⟨_, vs, rfl, h1, h2⟩
      | ins _ _ _ => cases e
      | dk _ _ => cases e
      | dt _ _ => cases e
  | non => cases e
  | bl => cases e
  | int => cases e
  | str => cases e
  | tup => cases e
  | sv => cases e
  | vi => cases e
theorem rdL_ok {d xs v} (s : Sim W φ hd H) (r : Rep W φ H d v) (e : rdL hd d = some xs) : ∃ a vs, v = .ref a ∧ SqL W.K H a vs ∧ Reps W φ H xs vs := by
  cases r with
  | @sv a vs xs' h q =>
    cases e
    refine ⟨_, vs, rfl, ?_, q⟩
    rcases h with ⟨h, _⟩ | h
    · exact .inl h
    · exact .inr h
  | vl h n q => cases e; exact ⟨_, _, rfl, .of h, q⟩
  | @ref n a h =>
    obtain ⟨b, vs, e1, h1, h2⟩ := rdM_ok s (.ref h) (show rdM hd (.ref n) = some xs from e)
    exact ⟨b, vs, e1, .of h1, h2⟩
  | non => cases e
  | bl => cases e
  | int => cases e
  | str => cases e
  | tup => cases e
  | vi => cases e
theorem rdS_ok {d xs v} (s : Sim W φ hd H) (r : Rep W φ H d v) (e : rdS hd d = some xs) : ∃ a vs, v = .ref a ∧ (SqL W.K H a vs ∨ SqT W.K H a vs) ∧ Reps W φ H xs vs := by
  cases r with
  | tup h n q => cases e; exact ⟨_, _, rfl, .inr (.of h), q⟩
  | sv h q =>
    obtain ⟨a, vs, e1, h1, h2⟩ := rdL_ok s (.sv h q) (show rdL hd (.sv _) = some xs from e)
    exact ⟨a, vs, e1, .inl h1, h2⟩
  | vl h n q =>
    obtain ⟨a, vs, e1, h1, h2⟩ := rdL_ok s (.vl h n q) (show rdL hd (.vl _) = some xs from e)
    exact ⟨a, vs, e1, .inl h1, h2⟩
  | ref h =>
    obtain ⟨a, vs, e1, h1, h2⟩ := rdL_ok s (.ref h) (show rdL hd (.ref _) = some xs from e)
    exact ⟨a, vs, e1, .inl h1, h2⟩
  | non => cases e
  | bl => cases e
  | int => cases e
  | str => cases e
  | vi => cases e
/-- a new list -/
theorem mkL_ok {m xs vs} (s : Sim W φ hd H) (r : Reps W φ H xs vs) (q : QOk W φ H Qd Q) (w : mkL m xs hd Qd) : vs.length ≤ sizeLine ∧ ∀ p, H p = none → Q (.ref p) (upd H p (.lst vs)) := by
  cases m with
  | false =>
    obtain ⟨z, w⟩ := w
    refine ⟨by rw [← r.len]; exact z, fun p hp => q φ hd _ _ _ (Ext.new hp) (s.new hp) (.vl upd_same (s.off hp) (r.ext (Ext.new hp))) w⟩
  | true =>
    obtain ⟨z, w⟩ := w
    refine ⟨by rw [← r.len]; exact z, fun p hp => q (φ ++ [p]) _ _ _ _ (Ext.alloc hp) (s.alloc hp (show RepO W (φ ++ [p]) _ p (.lst xs) from ⟨vs, upd_same, r.ext (Ext.alloc hp)⟩)) (.ref ?_) w⟩
    rw [← s.len]; simp
theorem mkT_ok {xs vs} (s : Sim W φ hd H) (r : Reps W φ H xs vs) (q : QOk W φ H Qd Q) (w : Qd (.tup xs) hd) : ∀ p, H p = none → Q (.ref p) (upd H p (.tup vs)) :=
  fun p hp => q φ hd _ _ _ (Ext.new hp) (s.new hp) (.tup upd_same (s.off hp) (r.ext (Ext.new hp))) w

/-! ### equality -/
mutual
noncomputable def py : D → PyData
  | .bl b => .bool b
  | .int i => .int i
  | .str x => .str x
  | .tup xs => .tuple (pys xs)
  | .vl xs => .list (pys xs)
  | _ => .none
noncomputable def pys : List D → List PyData
  | [] => []
  | x :: xs => py x :: pys xs
end
theorem pys_map : ∀ xs : List D, pys xs = xs.map py
  | [] => rfl
  | x :: xs => by rw [pys, pys_map xs]; rfl
theorem pl_lay : ∀ (k : Nat) (d : D), pl k d = true → (py d).canLay0 = true ∧ (py d).depth ≤ k := by
  intro k
  induction k with
  | zero =>
    intro d h
    cases d <;> simp [pl] at h <;> simp [py, PyData.canLay0, PyData.depth, h]
  | succ k ih =>
    have ihs : ∀ xs : List D, xs.all (pl k) = true → PyData.canLayAll0 (pys xs) = true ∧ PyData.depthAll (pys xs) ≤ k := by
      intro xs
      induction xs with
      | nil => intro _; simp [pys, PyData.canLayAll0, PyData.depthAll]
      | cons x xs ihx =>
        intro h
        rw [List.all_cons, Bool.and_eq_true] at h
        obtain ⟨h1, h2⟩ := ih x h.1
        obtain ⟨h3, h4⟩ := ihx h.2
        simp only [pys, PyData.canLayAll0, PyData.depthAll, h1, h3, Bool.and_self, true_and]
        omega
    intro d h
    cases d with
    | tup xs => obtain ⟨h1, h2⟩ := ihs xs h; simp only [py, PyData.canLay0, PyData.depth, h1, true_and]; omega
    | vl xs => obtain ⟨h1, h2⟩ := ihs xs h; simp only [py, PyData.canLay0, PyData.depth, h1, true_and]; omega
    | _ => simp [pl] at h <;> simp [py, PyData.canLay0, PyData.depth, h]
theorem pl_shaped {k : Nat} {d : D} (hk : k ≤ 64) (h : pl k d = true) : SeqAt.shaped (py d) = true := by
  obtain ⟨h1, h2⟩ := pl_lay k d h
  unfold SeqAt.shaped
  rw [h1, decide_eq_true (show (py d).depth ≤ 64 by omega)]; rfl
theorem pls_shaped {k : Nat} {xs : List D} (hk : k + 1 ≤ 64) (h : xs.all (pl k) = true) : SeqAt.shaped (.list (pys xs)) = true :=
  pl_shaped (d := .vl xs) (k := k + 1) hk h
/-- equal as plain data -/
theorem deq_py : ∀ (k : Nat) (a b : D), pl k a = true → pl k b = true → PyData.eqv (py a) (py b) = deq a b := by
  intro k
  induction k with
  | zero => intro a b ha hb; cases a <;> simp [pl] at ha <;> cases b <;> simp [pl] at hb <;> simp [py, PyData.eqv, deq] <;> rfl
  | succ k ih =>
    have ihs : ∀ xs ys : List D, xs.all (pl k) = true → ys.all (pl k) = true → PyData.eqvAll (pys xs) (pys ys) = deqs xs ys := by
      intro xs
      induction xs with
      | nil => intro ys _ _; cases ys <;> simp [pys, PyData.eqvAll, deqs]
      | cons x xs ihx =>
        intro ys h1 h2
        cases ys with
        | nil => simp [pys, PyData.eqvAll, deqs]
        | cons y ys =>
          rw [List.all_cons, Bool.and_eq_true] at h1 h2
          simp only [pys, PyData.eqvAll, deqs, ih x y h1.1 h2.1, ihx ys h1.2 h2.2]
    intro a b ha hb
    cases a with
    | tup xs => cases b with
      | tup ys => simp only [py, PyData.eqv, deq]; exact ihs xs ys ha hb
      | _ => simp [pl] at hb <;> simp [py, PyData.eqv, deq]
    | vl xs => cases b with
      | vl ys => simp only [py, PyData.eqv, deq]; exact ihs xs ys ha hb
      | _ => simp [pl] at hb <;> simp [py, PyData.eqv, deq]
    | _ => cases b <;> simp [pl] at ha hb <;> simp [py, PyData.eqv, deq] <;> rfl
theorem rep_dp : ∀ (k : Nat) {d v}, pl k d = true → Rep W φ H d v → Dp W.K H v (py d) := by
  intro k
  induction k with
  | zero => intro d v h r; cases r <;> simp [pl] at h <;> constructor
  | succ k ih =>
    have ihs : ∀ {xs vs}, xs.all (pl k) = true → Reps W φ H xs vs → DpAll W.K H vs (pys xs) := by
      intro xs
      induction xs with
      | nil => intro vs _ r; cases r; exact .nil
      | cons x xs ihx =>
        intro vs h r
        cases r with
        | cons a b =>
          rw [List.all_cons, Bool.and_eq_true] at h
          exact .cons (ih h.1 a) (ihx h.2 b)
    intro d v h r
    cases r with
    | tup e n q => exact .tup (.of e) (ihs h q)
    | vl e n q => exact .lst (.of e) (ihs h q)
    | non => exact .non
    | bl => exact .bl _
    | int => exact .int _
    | str => exact .str _
    | sv => simp [pl] at h
    | vi => simp [pl] at h
    | ref => simp [pl] at h
theorem seen_rep {d v} (s : Sim W φ hd H) (r : Rep W φ H d v) (h : pl 16 (seen hd d) = true) : Dp W.K H v (py (seen hd d)) := by
  cases r with
  | @ref n a e =>
    have hn : seen hd (.ref n) = match hd[n]? with
      | some (.lst xs) => .vl xs
      | _ => .ref n := rfl
    cases o : hd[n]? with
    | none => rw [hn, o] at h; simp [pl] at h
    | some ob => cases ob with
      | ins _ _ _ => rw [hn, o] at h; simp [pl] at h
      | dk _ _ => rw [hn, o] at h; simp [pl] at h
      | dt _ _ => rw [hn, o] at h; simp [pl] at h
      | lst xs =>
        rw [hn, o] at h ⊢
        obtain ⟨b, hb, vs, h1, h2⟩ := s.obj n _ o
        rw [e] at hb; cases hb
        have h' : xs.all (pl 15) = true := h
        refine .lst (.of h1) ?_
        have : ∀ {xs vs}, xs.all (pl 15) = true → Reps W φ H xs vs → DpAll W.K H vs (pys xs) := by
          intro xs
          induction xs with
          | nil => intro vs _ r; cases r; exact .nil
          | cons x xs ihx =>
            intro vs h r
            cases r with
            | cons a b =>
              rw [List.all_cons, Bool.and_eq_true] at h
              exact .cons (rep_dp 15 h.1 a) (ihx h.2 b)
        exact this h' h2
  | non => exact rep_dp (φ := φ) 16 h .non
  | bl b => exact rep_dp (φ := φ) 16 h (.bl b)
  | int i => exact rep_dp (φ := φ) 16 h (.int i)
  | str x => exact rep_dp (φ := φ) 16 h (.str x)
  | tup a b c => exact rep_dp 16 h (.tup a b c)
  | vl a b c => exact rep_dp 16 h (.vl a b c)
  | sv a b => exact rep_dp 16 h (.sv a b)
  | vi a b c d e f => exact rep_dp 16 h (.vi a b c d e f)
theorem reps_dp {xs vs} (k : Nat) (h : xs.all (pl k) = true) (r : Reps W φ H xs vs) : DpAll W.K H vs (pys xs) := by
  induction xs generalizing vs with
  | nil => cases r; exact .nil
  | cons x xs ihx =>
    cases r with
    | cons a b =>
      rw [List.all_cons, Bool.and_eq_true] at h
      exact .cons (rep_dp k h.1 a) (ihx h.2 b)
theorem flat_V {d v} (r : Rep W φ H d v) (h : flat d = true) : flatV v = true := by cases r <;> simp [flat] at h <;> rfl
theorem flats_V {xs vs} (r : Reps W φ H xs vs) (h : xs.all flat = true) : vs.all flatV = true := by
  induction xs generalizing vs with
  | nil => cases r; rfl
  | cons x xs ih =>
    cases r with
    | cons a b =>
      rw [List.all_cons, Bool.and_eq_true] at h ⊢
      exact ⟨flat_V a h.1, ih b h.2⟩
theorem deq_eqV {a b u v} (ra : Rep W φ H a u) (rb : Rep W φ H b v) (ha : flat a = true) (hb : flat b = true) : eqV u v = deq a b := by
  cases ra <;> simp [flat] at ha <;> cases rb <;> simp [flat] at hb <;> simp [eqV, deq] <;> rfl
theorem any_inV {a u xs vs} (ra : Rep W φ H a u) (r : Reps W φ H xs vs) (ha : flat a = true) (h : xs.all flat = true) : inV u vs = xs.any fun y => deq y a := by
  unfold inV
  induction xs generalizing vs with
  | nil => cases r; rfl
  | cons x xs ih =>
    cases r with
    | cons p q =>
      rw [List.all_cons, Bool.and_eq_true] at h
      rw [List.any_cons, List.any_cons, deq_eqV p ra h.1 ha, ih q h.2]
theorem any_inD {a xs} (k : Nat) (ha : pl k a = true) (h : xs.all (pl k) = true) : ((pys xs).any fun z => PyData.eqv z (py a)) = xs.any fun y => deq y a := by
  induction xs with
  | nil => rfl
  | cons x xs ih =>
    rw [List.all_cons, Bool.and_eq_true] at h
    rw [pys, List.any_cons, List.any_cons, deq_py k x a h.1 ha, ih h.2]
end
end Vd

set_option Elab.async false
set_option linter.all false
set_option maxRecDepth 100000
set_option maxHeartbeats 1000000
namespace Vd
open PySem PySem.Spec PyProof.Rows L2
noncomputable def opOf : Op2 → Operator
  | .add => .Add | .sub => .Sub | .mul => .Mult | .fdiv => .FloorDiv | .mod => .Mod | .pow => .Pow | .shl => .LShift | .shr => .RShift | .band => .BitAnd | .bxor => .BitXor
noncomputable def cmOf : Cm → CmpOp
  | .lt => .Lt | .le => .LtE | .gt => .Gt | .ge => .GtE | .eq => .Eq | .ne => .NotEq | .is => .Is | .isn => .IsNot | .isin => .In | .nin => .NotIn
section
variable {W : Wd} {X : Cx}
noncomputable def rD (W : Wd) (op : D → D → Hd → DK → Prop) : R2 := fun xv yv H Q => ∃ φ hd x y Qd, Sim W φ hd H ∧ Rep W φ H x xv ∧ Rep W φ H y yv ∧ op x y hd Qd ∧ QOk W φ H Qd Q
theorem mul_wide : OpR X (binaryOp .Mult) (rI (fun i j => MulOk i j) fun i j => .int (i * j)) := fun pins s σ H x y v u Q I rx ry h => by
  obtain ⟨i, j, e1, e2, c, q⟩ := h
  rcases c with c | c | c
  · exact op_mul pins s σ H x y v u Q I rx ry ⟨i, j, e1, e2, c, q⟩
  · exact op_mulW pins s σ H x y v u Q I rx ry ⟨i, j, e1, e2, c, q⟩
  · exact op_mulX pins s σ H x y v u Q I rx ry ⟨i, j, e1, e2, c, q⟩
theorem div_wide : OpR X (binaryOp .FloorDiv) (rI (fun _ j => DivOk j) fun i j => .int (i.fdiv j)) := opI fun _ _ _ _ _ _ _ hc q => floordiv_int hc.1 q (.inl (PyProof.noPylong_of_log2 hc.2))
noncomputable def rCatK (K : PySem.W.Frag) : R2 := fun x y H Q => ∃ l b xs zs, x = .ref l ∧ y = .ref b ∧ SqL K H l xs ∧ SqL K H b zs ∧ xs.length + zs.length ≤ sizeLine ∧ ∀ p, H p = none → Q (.ref p) (upd H p (.lst (xs ++ zs)))
theorem op_catK : OpR X (binaryOp .Add) (rCatK X.K) := by
  intro pins s σ H x y v u Q I rx ry h
  obtain ⟨l, b, xs, zs, rfl, rfl, hH, hB, hz, q⟩ := h
  cases rx
  cases ry
  obtain ⟨its, r, hl, z⟩ := I.list hH
  obtain ⟨its2, r2, hl2, z2⟩ := I.list hB
  obtain ⟨⟨cls, dd, data, sl⟩, ho, hc, n, hd⟩ := hl.isList
  obtain ⟨⟨cls2, dd2, data2, sl2⟩, ho2, hc2, n2, hd2⟩ := hl2.isList
  simp only at hc hd hc2 hd2
  subst hc hd hc2 hd2
  have e : its.toArray ++ its2.toArray = (its ++ its2).toArray := by simp
  have hz' : its.toArray.size + its2.toArray.size ≤ sizeLine := by rw [List.size_toArray, List.size_toArray, ← r.length, ← r2.length]; exact hz
  refine concat_meets ⟨_, ho, rfl⟩ ⟨_, ho2, rfl⟩ noFill_list_add seq_list_add PySem.F.slot_list_add PySem.F.entry_list_add (PySem.F.args_list_add_2 _ _) (list_addW l b its.toArray its2.toArray n n2 dd dd2 sl sl2 hz') ⟨ho, ho2, ?_⟩
  rw [e]
  exact ⟨.ref _, _, I.lnew (t' := s.toks) (r.append r2) (by rw [List.length_append]; omega), rfl, q _ I.fresh⟩
theorem txtMul_ok {z : Str} {k : Int} (h1 : -(2 ^ 63) ≤ k) (h2 : k < 2 ^ 63) (h3 : z.length * k.toNat ≤ sizeLine) : PySem.MulOk z k := by
  have hl := sizeLine_eq
  refine ⟨?_, fun a b => ?_, fun a b => ?_⟩
  · rw [decide_eq_false (by omega), decide_eq_false (by omega)]; rfl
  · have hk : 0 < k := by omega
    have e : ((z.length * k.toNat : Nat) : Int) = (z.length : Int) * k := by
      rw [Int.natCast_mul, Int.toNat_of_nonneg (by omega)]
    have : (z.length : Int) ≤ (2 ^ 63 - 1) / k := (Int.le_ediv_iff_mul_le hk).mpr (by omega)
    omega
  · unfold Builtin.Str.tooLong
    exact decide_eq_false (by omega)
theorem op_mulStr : OpR X (binaryOp .Mult) (fun x y H Q => ∃ z k, x = V.str z ∧ y = V.int k ∧ PySem.MulOk z k ∧ Q (.str (Txt.mul z k)) H) := by
  intro pins s σ H x y v u Q I rx ry h
  obtain ⟨z, k, rfl, rfl, ok, q⟩ := h
  obtain ⟨t, rfl⟩ := rx
  obtain ⟨t2, rfl⟩ := ry
  exact SB.mul ok fun t3 tk => ⟨.str _, H, I.tok _, ⟨_, rfl⟩, q⟩
theorem bop_ok (hK : X.K = W.K) (m : Bool) (o : Op2) : OpR X (binaryOp (opOf o)) (rD W (bopW m o)) := by
  intro pins s σ H xv yv v u Q I rx ry h
  obtain ⟨φ, hd, x, y, Qd, S, rx', ry', w, q⟩ := h
  have cat : ∀ a b, (∃ xs ys, rdL hd a = some xs ∧ rdL hd b = some ys ∧ xs.length + ys.length ≤ sizeLine ∧ mkL m (xs ++ ys) hd Qd) → Rep W φ H a xv → Rep W φ H b yv → wpAny (model X.prog X.w) X.A (binaryOp .Add v u) (EP X pins σ Q) X.xe s := fun a b w ra rb => by
    obtain ⟨xs, ys, e1, e2, z, w⟩ := w
    obtain ⟨p, vs, rfl, h1, r1⟩ := rdL_ok S ra e1
    obtain ⟨p2, us, rfl, h2, r2⟩ := rdL_ok S rb e2
    have z2 := mkL_ok S (r1.append r2) q w
    exact op_catK pins s σ H _ _ v u Q I rx ry ⟨p, p2, vs, us, rfl, rfl, by rw [hK]; exact h1, by rw [hK]; exact h2, by rw [← r1.len, ← r2.len]; exact z, z2.2⟩
  cases o with
  | add =>
    cases rx' with
    | int i =>
      cases ry' with
      | int j => exact op_add pins s σ H _ _ v u Q I rx ry ⟨i, j, rfl, rfl, q.now S (.int _) w⟩
      | _ => first | exact cat _ _ w (.int i) (by constructor <;> assumption) | (exact w.elim)
    | str i =>
      cases ry' with
      | str j => exact op_add_str pins s σ H _ _ v u Q I rx ry ⟨i, j, rfl, rfl, w.1, q.now S (.str _) w.2⟩
      | _ => exact cat _ _ w (.str i) (by constructor <;> assumption)
    | tup ha na ra =>
      cases ry' with
      | tup hb nb rb =>
        refine op_catA pins s σ H _ _ v u Q I rx ry ⟨_, _, _, _, rfl, rfl, .of ha, .of hb, by rw [← ra.len, ← rb.len]; exact w.1, fun e => ?_, fun _ e => ?_, fun _ _ => ?_⟩
        · subst e
          cases ra
          exact q.now S (.tup hb nb rb) w.2
        · subst e
          cases rb
          have w2 := w.2
          rw [List.append_nil] at w2
          exact q.now S (.tup ha na ra) w2
        · exact mkT_ok S (ra.append rb) q w.2
      | _ => exact cat _ _ w (.tup ha na ra) (by constructor <;> assumption)
    | non => exact cat _ _ (by cases ry' <;> exact w) .non ry'
    | bl b => exact cat _ _ (by cases ry' <;> exact w) (.bl b) ry'
    | vl a b c => exact cat _ _ (by cases ry' <;> exact w) (.vl a b c) ry'
    | sv a b => exact cat _ _ (by cases ry' <;> exact w) (.sv a b) ry'
    | vi a b c d e f => exact cat _ _ (by cases ry' <;> exact w) (.vi a b c d e f) ry'
    | ref a => exact cat _ _ (by cases ry' <;> exact w) (.ref a) ry'
  | sub => cases rx' <;> cases ry' <;> first | exact w.elim | exact op_sub pins s σ H _ _ v u Q I rx ry ⟨_, _, rfl, rfl, q.now S (.int _) w⟩
  | mul =>
    have rep : ∀ a k, (∃ xs, rdM hd a = some xs ∧ -(2 ^ 63) ≤ k ∧ k < 2 ^ 63 ∧ xs.length * k.toNat ≤ sizeLine ∧ mkL m (List.replicate k.toNat xs).flatten hd Qd) → Rep W φ H a xv → yv = .int k → wpAny (model X.prog X.w) X.A (binaryOp .Mult v u) (EP X pins σ Q) X.xe s := fun a k w ra ek => by
      subst ek
      obtain ⟨xs, e1, k1, k2, z, w⟩ := w
      obtain ⟨p, vs, rfl, h1, r1⟩ := rdM_ok S ra e1
      have z2 := mkL_ok S (r1.rep k.toNat) q w
      exact op_rep pins s σ H _ _ v u Q I rx ry ⟨p, k, vs, rfl, rfl, h1, k1, k2, by rw [← r1.len]; exact z, z2.2⟩
    cases ry' with
    | int j =>
      cases rx' with
      | int i => exact mul_wide pins s σ H _ _ v u Q I rx ry ⟨i, j, rfl, rfl, w.1, q.now S (.int _) w.2⟩
      | non => exact rep _ j w .non rfl
      | bl b => exact rep _ j w (.bl b) rfl
      | str b => exact op_mulStr pins s σ H _ _ v u Q I rx ry ⟨b, j, rfl, rfl, txtMul_ok w.1 w.2.1 w.2.2.1, q.now S (.str _) w.2.2.2⟩
      | tup a b c => exact rep _ j w (.tup a b c) rfl
      | vl a b c => exact rep _ j w (.vl a b c) rfl
      | sv a b => exact rep _ j w (.sv a b) rfl
      | vi a b c d e f => exact rep _ j w (.vi a b c d e f) rfl
      | ref a => exact rep _ j w (.ref a) rfl
    | _ => cases rx' <;> exact w.elim
  | fdiv => cases rx' <;> cases ry' <;> first | exact w.elim | exact div_wide pins s σ H _ _ v u Q I rx ry ⟨_, _, rfl, rfl, w.1, q.now S (.int _) w.2⟩
  | mod => cases rx' <;> cases ry' <;> first | exact w.elim | exact op_modN pins s σ H _ _ v u Q I rx ry ⟨_, _, rfl, rfl, w.1, q.now S (.int _) w.2⟩
  | pow => cases rx' <;> cases ry' <;> first | exact w.elim | exact op_pow pins s σ H _ _ v u Q I rx ry ⟨_, _, rfl, rfl, w.1, q.now S (.int _) w.2⟩
  | shl => cases rx' <;> cases ry' <;> first | exact w.elim | exact op_shl pins s σ H _ _ v u Q I rx ry ⟨_, _, rfl, rfl, w.1, q.now S (.int _) w.2⟩
  | shr => cases rx' <;> cases ry' <;> first | exact w.elim | exact op_shr pins s σ H _ _ v u Q I rx ry ⟨_, _, rfl, rfl, w.1, q.now S (.int _) w.2⟩
  | band => cases rx' <;> cases ry' <;> first | exact w.elim | exact op_and pins s σ H _ _ v u Q I rx ry ⟨_, _, rfl, rfl, q.now S (.int _) w⟩
  | bxor => cases rx' <;> cases ry' <;> first | exact w.elim | exact op_xor pins s σ H _ _ v u Q I rx ry ⟨_, _, rfl, rfl, q.now S (.int _) w⟩
/-- comparisons -/
noncomputable def rC (W : Wd) (o : Cm) : R2 := fun xv yv H Q => ∃ φ hd x y Qd, Sim W φ hd H ∧ Rep W φ H x xv ∧ Rep W φ H y yv ∧ cmpW o x y hd (fun k => Qd (.bl k) hd) ∧ QOk W φ H Qd Q
theorem cmp_ok (hK : X.K = W.K) (hu : X.A.units + 65 < cLine) (o : Cm) : OpR X (compareOp (cmOf o)) (rC W o) := by
  intro pins s σ H xv yv v u Q I rx ry h
  obtain ⟨φ, hd, x, y, Qd, S, rx', ry', w, q⟩ := h
  have fin : ∀ {k}, Qd (.bl k) hd → Q (.bl k) H := fun {k} w => q.now S (.bl k) w
  have geq : ∀ x y, pl 16 (seen hd x) = true ∧ pl 16 (seen hd y) = true ∧ Qd (.bl (deq (seen hd x) (seen hd y))) hd → Rep W φ H x xv → Rep W φ H y yv → wpAny (model X.prog X.w) X.A (compareOp .Eq v u) (EP X pins σ Q) X.xe s := fun x y w r1 r2 => by
    obtain ⟨p1, p2, w⟩ := w
    exact op_eqD (by omega) pins s σ H _ _ v u Q I rx ry ⟨_, _, by rw [hK]; exact seen_rep S r1 p1, by rw [hK]; exact seen_rep S r2 p2, pl_shaped (by decide) p1, pl_shaped (by decide) p2, by rw [deq_py 16 _ _ p1 p2]; exact fin w⟩
  have gne : ∀ x y, pl 16 (seen hd x) = true ∧ pl 16 (seen hd y) = true ∧ Qd (.bl (!deq (seen hd x) (seen hd y))) hd → Rep W φ H x xv → Rep W φ H y yv → wpAny (model X.prog X.w) X.A (compareOp .NotEq v u) (EP X pins σ Q) X.xe s := fun x y w r1 r2 => by
    obtain ⟨p1, p2, w⟩ := w
    exact op_neD (by omega) pins s σ H _ _ v u Q I rx ry ⟨_, _, by rw [hK]; exact seen_rep S r1 p1, by rw [hK]; exact seen_rep S r2 p2, pl_shaped (by decide) p1, pl_shaped (by decide) p2, by rw [deq_py 16 _ _ p1 p2]; exact fin w⟩
  cases o with
  | lt => cases rx' <;> cases ry' <;> first | exact w.elim | exact op_lt pins s σ H _ _ v u Q I rx ry ⟨_, _, rfl, rfl, fin w⟩
  | le => cases rx' <;> cases ry' <;> first | exact w.elim | exact op_le pins s σ H _ _ v u Q I rx ry ⟨_, _, rfl, rfl, fin w⟩
  | gt => cases rx' <;> cases ry' <;> first | exact w.elim | exact op_gt pins s σ H _ _ v u Q I rx ry ⟨_, _, rfl, rfl, fin w⟩
  | ge => cases rx' <;> cases ry' <;> first | exact w.elim | exact op_ge pins s σ H _ _ v u Q I rx ry ⟨_, _, rfl, rfl, fin w⟩
  | eq =>
    have go : (∃ i j, x = .int i ∧ y = .int j) ∨ (pl 16 (seen hd x) = true ∧ pl 16 (seen hd y) = true ∧ Qd (.bl (deq (seen hd x) (seen hd y))) hd) := by
      cases x <;> cases y <;> first | exact .inl ⟨_, _, rfl, rfl⟩ | exact .inr w
    rcases go with ⟨i, j, rfl, rfl⟩ | go
    · cases rx'; cases ry'
      refine op_eq pins s σ H _ _ v u Q I rx ry ⟨rfl, ?_⟩
      rw [dec_int, Bool.beq_eq_decide_eq]
      exact fin w
    · exact geq x y go rx' ry'
  | ne =>
    have go : (∃ i j, x = .int i ∧ y = .int j) ∨ (pl 16 (seen hd x) = true ∧ pl 16 (seen hd y) = true ∧ Qd (.bl (!deq (seen hd x) (seen hd y))) hd) := by
      cases x <;> cases y <;> first | exact .inl ⟨_, _, rfl, rfl⟩ | exact .inr w
    rcases go with ⟨i, j, rfl, rfl⟩ | go
    · cases rx'; cases ry'
      refine op_ne pins s σ H _ _ v u Q I rx ry ⟨rfl, ?_⟩
      rw [dec_int, Bool.beq_eq_decide_eq]
      exact fin w
    · exact gne x y go rx' ry'
  | is =>
    cases ry' with
    | non =>
      refine op_isN pins s σ H _ _ v u Q I rx ry ⟨rfl, ?_⟩
      cases rx' <;> first | (rw [decide_eq_true rfl]; exact fin w) | (rw [decide_eq_false (by intro h; cases h)]; exact fin w)
    | bl b =>
      cases rx' with
      | bl a => exact op_isBl pins s σ H _ _ v u Q I rx ry ⟨_, _, rfl, rfl, fin w⟩
      | _ => exact w.elim
    | _ => cases rx' <;> exact w.elim
  | isn =>
    cases ry' with
    | non =>
      refine op_notN pins s σ H _ _ v u Q I rx ry ⟨rfl, ?_⟩
      cases rx' <;> first | (rw [decide_eq_true rfl]; exact fin w) | (rw [decide_eq_false (by intro h; cases h)]; exact fin w)
    | bl b =>
      cases rx' with
      | bl a => exact op_notBl pins s σ H _ _ v u Q I rx ry ⟨_, _, rfl, rfl, fin w⟩
      | _ => exact w.elim
    | _ => cases rx' <;> exact w.elim
  | isin =>
    have go : ∀ a b, (∃ xs, rdM hd b = some xs ∧ pl 15 a = true ∧ xs.all (pl 15) = true ∧ Qd (.bl (xs.any fun y => deq y a)) hd) → Rep W φ H a xv → Rep W φ H b yv → wpAny (model X.prog X.w) X.A (compareOp .In v u) (EP X pins σ Q) X.xe s := fun a b w r1 r2 => by
      obtain ⟨xs, e, p1, p2, w⟩ := w
      obtain ⟨p, vs, rfl, h1, r3⟩ := rdM_ok S r2 e
      exact op_inD hu pins s σ H _ _ v u Q I rx ry ⟨py a, pys xs, by rw [hK]; exact rep_dp 15 p1 r1, .lst (.of h1) (by rw [hK]; exact reps_dp 15 p2 r3), pl_shaped (by decide) p1, pls_shaped (by decide) p2, by rw [any_inD 15 p1 p2]; exact fin w⟩
    cases y with
    | str t => cases x with
      | str z => cases rx'; cases ry'; exact op_in_str pins s σ H _ _ v u Q I rx ry ⟨_, _, rfl, rfl, fin w⟩
      | _ => exact go _ _ w rx' ry'
    | tup xs =>
      have w' : flat x = true ∧ xs.all flat = true ∧ Qd (.bl (xs.any fun y => deq y x)) hd := by cases x <;> exact w
      cases ry' with
      | tup ha na ra => exact op_in_seq pins s σ H _ _ v u Q I rx ry ⟨_, _, rfl, .inr (.of ha), flat_V rx' w'.1, flats_V ra w'.2.1, by rw [any_inV rx' ra w'.1 w'.2.1]; exact fin w'.2.2⟩
    | _ => exact go _ _ (by cases x <;> exact w) rx' ry'
  | nin =>
    have go : ∀ a b, (∃ xs, rdM hd b = some xs ∧ pl 15 a = true ∧ xs.all (pl 15) = true ∧ Qd (.bl (!xs.any fun y => deq y a)) hd) → Rep W φ H a xv → Rep W φ H b yv → wpAny (model X.prog X.w) X.A (compareOp .NotIn v u) (EP X pins σ Q) X.xe s := fun a b w r1 r2 => by
      obtain ⟨xs, e, p1, p2, w⟩ := w
      obtain ⟨p, vs, rfl, h1, r3⟩ := rdM_ok S r2 e
      exact op_notInD hu pins s σ H _ _ v u Q I rx ry ⟨py a, pys xs, by rw [hK]; exact rep_dp 15 p1 r1, .lst (.of h1) (by rw [hK]; exact reps_dp 15 p2 r3), pl_shaped (by decide) p1, pls_shaped (by decide) p2, by rw [any_inD 15 p1 p2]; exact fin w⟩
    cases y with
    | str t => cases x with
      | str z => cases rx'; cases ry'; exact op_notin_str pins s σ H _ _ v u Q I rx ry ⟨_, _, rfl, rfl, fin w⟩
      | _ => exact go _ _ w rx' ry'
    | tup xs =>
      have w' : flat x = true ∧ xs.all flat = true ∧ Qd (.bl (!xs.any fun y => deq y x)) hd := by cases x <;> exact w
      cases ry' with
      | tup ha na ra => exact op_notIn_seq pins s σ H _ _ v u Q I rx ry ⟨_, _, rfl, .inr (.of ha), flat_V rx' w'.1, flats_V ra w'.2.1, by rw [any_inV rx' ra w'.1 w'.2.1]; exact fin w'.2.2⟩
    | _ => exact go _ _ (by cases x <;> exact w) rx' ry'
end
end Vd

set_option Elab.async false
set_option linter.all false
set_option maxRecDepth 100000
set_option maxHeartbeats 1000000
namespace PySem
open PySem PySem.Spec PySem.AutoSeq1
theorem list_extend_tupG (l : Addr) (items : Array Value) (n : Nat) (b : Addr) (items2 : Array Value) (n2 : Nat) (dict : Option Addr) (slots : Array (Option Value)) (hs0 : ¬(!items.isEmpty && Builtin.List.listTooLong (items.size + items2.size)) = true) (hs1 : items.size ≤ sizeLine) (hs2 : items.size + items2.size ≤ sizeLine + 1) :
    Meets (Builtin.«list.extend» ⟨[.ref l, .ref b], []⟩) (fun _ R s => s.heap.get? l = some { cls := .type "list", dict := none, data := .seq items n, slots := #[] } ∧ s.heap.get? b = some { cls := .type "tuple", dict := dict, data := .seq items2 n2, slots := slots } ∧ R (.ok (.ret Value.none)) { s with heap := s.heap.update l (Obj.mapSeq fun x => x ++ items2), toks := s.toks }) :=
  .of_wp fun prog w A R s h => by
    obtain ⟨hp, g, d, tk, os⟩ := s; obtain ⟨hl, hb, h⟩ := h; have f1 := idx_int; have f2 := sub_tuple_tuple; have f3 := sub_list_list; have f4 := sub_tuple_list; have f5 := sub_list_tuple;
    have hz' : (items ++ items2).size ≤ sizeLine + 1 := by rw [Array.size_append]; exact hs2
    wp_walk using (wpAny_updateSeq hl rfl (hz := hs1) (_hz' := hz')), wpAny_loadPart' hl, wpAny_loadPart' hb; exact ⟨_, rfl, h⟩
end PySem
namespace Vd
open PySem PySem.Spec PyProof.Rows L2
section
variable {W : Wd} {X : Cx} {φ : List Addr} {hd : Hd} {H : Hp} {Qd : DK} {Q : VK}
theorem atI_rep {xs vs d} {i : Int} (r : Reps W φ H xs vs) (h : L2.atI xs i = some d) : ∃ v, L2.atI vs i = some v ∧ Rep W φ H d v := by
  unfold L2.atI at h ⊢
  rw [← r.len]
  cases e : L2.ixN xs.length i with
  | none => rw [e] at h; cases h
  | some j =>
    rw [e] at h
    exact r.get h
theorem cut_rep {xs vs} (r : Reps W φ H xs vs) (lo hi : Option Int) : Reps W φ H (cut xs lo hi) (cutV vs lo hi) := by
  unfold cut cutV
  rw [← r.len]
  exact (r.drop _).take _
theorem ints_rep : ∀ {xs vs ns}, Reps W φ H xs vs → intsD xs = some ns → vs = ns.map V.int
  | _, _, _, .nil, h => by cases h; rfl
  | _, _, _, .cons (x := x) a b, h => by
    cases x with
    | int i =>
      simp only [intsD, Option.map_eq_some_iff] at h
      obtain ⟨ms, h1, rfl⟩ := h
      cases a
      rw [ints_rep b h1]; rfl
    | _ => cases h
theorem bls_rep : ∀ {xs vs ns}, Reps W φ H xs vs → blsD xs = some ns → vs = ns.map V.bl
  | _, _, _, .nil, h => by cases h; rfl
  | _, _, _, .cons (x := x) a b, h => by
    cases x with
    | bl i =>
      simp only [blsD, Option.map_eq_some_iff] at h
      obtain ⟨ms, h1, rfl⟩ := h
      cases a
      rw [bls_rep b h1]; rfl
    | _ => cases h
theorem rep_ints : ∀ ns : List Int, Reps W φ H (ns.map D.int) (ns.map V.int)
  | [] => .nil
  | n :: ns => .cons (.int n) (rep_ints ns)
theorem strs_rep : ∀ {xs vs ns}, Reps W φ H xs vs → strsD xs = some ns → vs = ns.map V.str
  | _, _, _, .nil, h => by cases h; rfl
  | _, _, _, .cons (x := x) a b, h => by
    cases x with
    | str i =>
      simp only [strsD, Option.map_eq_some_iff] at h
      obtain ⟨ms, h1, rfl⟩ := h
      cases a
      rw [strs_rep b h1]; rfl
    | _ => cases h
theorem rep_strs : ∀ ns : List Str, Reps W φ H (ns.map D.str) (ns.map V.str)
  | [] => .nil
  | n :: ns => .cons (.str n) (rep_strs ns)
theorem Reps.eraseIdx {ds vs} (r : Reps W φ H ds vs) (k : Nat) : Reps W φ H (ds.eraseIdx k) (vs.eraseIdx k) := by
  rw [List.eraseIdx_eq_take_drop_succ, List.eraseIdx_eq_take_drop_succ]
  exact (r.take k).append (r.drop (k + 1))
/-- the two numbers of a pair -/
noncomputable def pkV (H : Hp) : V → Int × Int
  | .ref t => match H t with
    | some (.tup [.int a, .int b]) => (a, b)
    | _ => (0, 0)
  | _ => (0, 0)
theorem pairs_rep : ∀ {xs vs ps}, Reps W φ H xs vs → pairsD xs = some ps → vs.map (pkV H) = ps ∧ ∀ v ∈ vs, Rep W φ H (pairD (pkV H v)) v ∧ ∃ t, v = V.ref t ∧ H t = some (.tup [.int (pkV H v).1, .int (pkV H v).2])
  | _, _, _, .nil, h => by cases h; exact ⟨rfl, fun v hv => by simp at hv⟩
  | _, _, _, .cons (x := x) (v := v) a b, h => by
    unfold pairsD at h
    split at h
    · rename_i q; cases q
    · rename_i i j r q
      cases q
      simp only [Option.map_eq_some_iff] at h
      obtain ⟨ms, h1, rfl⟩ := h
      obtain ⟨k1, k2⟩ := pairs_rep b h1
      have a' := a
      cases a with
      | @tup t us _ ha na ra =>
        have eu : us = [V.int i, V.int j] := by
          cases ra with
          | cons x1 r1 => cases r1 with
            | cons x2 r2 => cases r2; cases x1; cases x2; rfl
        have ek : pkV H (.ref t) = (i, j) := by
          show (match H t with | some (.tup [.int a, .int b]) => (a, b) | _ => (0, 0)) = _
          rw [ha, eu]
        refine ⟨by rw [List.map_cons, k1, ek], fun v hv => ?_⟩
        rcases List.mem_cons.mp hv with rfl | hv
        · rw [ek]
          exact ⟨a', t, rfl, by rw [ha, eu]⟩
        · exact k2 v hv
    · cases h
theorem reps_pk : ∀ {vs : List V}, (∀ v ∈ vs, Rep W φ H (pairD (pkV H v)) v) → Reps W φ H ((vs.map (pkV H)).map pairD) vs
  | [], _ => .nil
  | v :: vs, h => .cons (h v (by simp)) (reps_pk fun x hx => h x (by simp [hx]))
/-! ### items, slices -/
theorem ix_ok (hK : X.K = W.K) : IxR X (rD W idxW) := by
  intro value slice pins s σ H xv yv v u Q I rx ry h hs
  obtain ⟨φ, hd, x, y, Qd, S, rx', ry', w, q⟩ := h
  have go : ∀ a i, (∃ xs d, rdS hd a = some xs ∧ L2.atI xs i = some d ∧ Qd d hd) → Rep W φ H a xv → yv = .int i → wpAny (model X.prog X.w) X.A (subscriptTail value slice v u) (EP X pins σ Q) X.xe s := fun a i w ra ey => by
    subst ey
    obtain ⟨xs, d, e1, e2, w⟩ := w
    obtain ⟨p, vs, rfl, h1, r1⟩ := rdS_ok S ra e1
    obtain ⟨dv, e3, r2⟩ := atI_rep r1 e2
    rcases h1 with h1 | h1
    · exact ix_list value slice pins s σ H _ _ v u Q I rx ry ⟨p, vs, i, dv, rfl, rfl, by rw [hK]; exact h1, e3, q.now S r2 w⟩ hs
    · exact ix_tup value slice pins s σ H _ _ v u Q I rx ry ⟨p, vs, i, dv, rfl, rfl, by rw [hK]; exact h1, e3, q.now S r2 w⟩ hs
  cases y with
  | int i =>
    have ey := ry'.int_inv
    cases x with
    | str z =>
      obtain ⟨c, z1, e, w⟩ := w
      cases rx'
      subst ey
      exact ix_str value slice pins s σ H _ _ v u Q I rx ry ⟨z, i, c, rfl, rfl, z1, e, q.now S (.str _) w⟩ hs
    | _ => exact go _ _ w rx' ey
  | _ => cases x <;> exact w.elim
noncomputable def rSl (W : Wd) (m : Bool) : V → Option Int → Option Int → Hp → VK → Prop := fun xv lo hi H Q => ∃ φ hd x Qd, Sim W φ hd H ∧ Rep W φ H x xv ∧ slcW m x lo hi hd Qd ∧ QOk W φ H Qd Q
theorem cutV_whole (vs : List V) (lo hi : Option Int) (h : HT.sIx vs.length 0 lo = 0 ∧ HT.sIx vs.length vs.length hi = vs.length) : cutV vs lo hi = vs := by
  unfold cutV
  rw [h.1, h.2]
  simp
theorem cut_whole {α : Type} (vs : List α) (lo hi : Option Int) (h : HT.sIx vs.length 0 lo = 0 ∧ HT.sIx vs.length vs.length hi = vs.length) : cut vs lo hi = vs := by
  unfold cut
  rw [h.1, h.2]
  simp
theorem sl_ok (hK : X.K = W.K) (m : Bool) : SlR X (rSl W m) := by
  intro pins s σ H xv v vl vu lo hi sl Q I rx hsl pl pu h
  obtain ⟨φ, hd, x, Qd, S, rx', w, q⟩ := h
  have go : ∀ a, (∃ xs, rdL hd a = some xs ∧ mkL m (cut xs lo hi) hd Qd) → Rep W φ H a xv →
    ∃ T id, typeLookup (.type T) "__getitem__" = pure (some (.builtin id)) ∧ s.TypeIs v T ∧ wpAny (model X.prog X.w) X.A (getItem v (.ref sl)) (EP X pins σ Q) X.xe s := fun a w ra => by
    obtain ⟨xs, e1, w⟩ := w
    obtain ⟨p, vs, rfl, h1, r1⟩ := rdL_ok S ra e1
    have z := mkL_ok S (cut_rep r1 lo hi) q w
    exact sl_list pins s σ H _ v vl vu lo hi sl Q I rx hsl pl pu ⟨p, vs, rfl, by rw [hK]; exact h1, z.2⟩
  cases x with
  | tup xs =>
    cases rx' with
    | tup ha na ra =>
      refine sl_tupA pins s σ H _ v vl vu lo hi sl Q I rx hsl pl pu ⟨_, _, rfl, .of ha, fun e => ?_, fun e => mkT_ok S (cut_rep ra lo hi) q w⟩
      have e' := e
      rw [← ra.len] at e'
      have w' : Qd (.tup (cut xs lo hi)) hd := w
      rw [cut_whole xs lo hi e'] at w'
      exact q.now S (.tup ha na ra) w'
  | str z =>
    cases rx'
    exact sl_str pins s σ H _ v vl vu lo hi sl Q I rx hsl pl pu ⟨z, rfl, w.1, q.now S (.str _) w.2⟩
  | _ => exact go _ w rx'
/-! ### built-in functions -/
noncomputable def biV : String → Option Value
  | "abs" => some (.builtin "abs") | "max" => some (.builtin "max") | "min" => some (.builtin "min") | "len" => some (.builtin "len") | "sum" => some (.builtin "sum") | "any" => some (.builtin "any") | "all" => some (.builtin "all")
  | "int" => some (.type "int") | "bool" => some (.type "bool") | "list" => some (.type "list") | "tuple" => some (.type "tuple")
  | "sorted" => some (.builtin "sorted")
  | "str" => some (.type "str")
  | "set" => some (.type "set")
  | _ => none
theorem biV_boot {f v} (h : biV f = some v) : bootBuiltins (Str.ofString f) = some v := by
  unfold biV at h
  split at h <;> first | (cases h; decide +kernel) | cases h
noncomputable def rB (W : Wd) (m : Bool) (f : String) : List V → Hp → VK → Prop := fun vs H Q => ∃ φ hd xs Qd, Sim W φ hd H ∧ Reps W φ H xs vs ∧ biW m f xs hd Qd ∧ QOk W φ H Qd Q
theorem reps1 {vs} {x : D} (r : Reps W φ H [x] vs) : ∃ v, vs = [v] ∧ Rep W φ H x v := by
  cases r with
  | cons a b => cases b; exact ⟨_, rfl, a⟩
theorem reps2 {vs} {x y : D} (r : Reps W φ H [x, y] vs) : ∃ v u, vs = [v, u] ∧ Rep W φ H x v ∧ Rep W φ H y u := by
  cases r with
  | cons a b => cases b with
    | cons c d => cases d; exact ⟨_, _, rfl, a, c⟩
theorem bi_ok (hK : X.K = W.K) (hc : X.calm = true) (m : Bool) (f : String) (v : Value) (hv : biV f = some v) : CallR X v (rB W m f) := by
  intro pins s σ H vs us Q I r h
  obtain ⟨φ, hd, xs, Qd, S, rx, w, q⟩ := h
  unfold biW at w
  split at w
  · cases hv
    obtain ⟨_, rfl, a⟩ := reps1 rx
    cases a
    exact call_abs pins s σ H _ us Q I r ⟨_, rfl, q.now S (.int _) w⟩
  · cases hv
    obtain ⟨_, rfl, a⟩ := reps1 rx
    cases a
    exact call_int1 pins s σ H _ us Q I r (.inl ⟨_, rfl, q.now S (.int _) w⟩)
  · cases hv
    obtain ⟨_, rfl, a⟩ := reps1 rx
    cases a
    exact call_int1 pins s σ H _ us Q I r (.inr ⟨_, rfl, q.now S (.int _) w⟩)
  · cases hv
    obtain ⟨_, rfl, a⟩ := reps1 rx
    cases a
    obtain ⟨n, h1, h2, w⟩ := w
    exact call_int_str pins s σ H _ us Q I r ⟨_, n, rfl, h1, h2, q.now S (.int _) w⟩
  · cases hv
    obtain ⟨_, rfl, a⟩ := reps1 rx
    cases a
    exact call_str_int pins s σ H _ us Q I r ⟨_, rfl, w.1, q.now S (.str _) w.2⟩
  · cases hv
    obtain ⟨_, rfl, a⟩ := reps1 rx
    cases a
    exact SkE.call_str_str pins s σ H _ us Q I r ⟨_, rfl, q.now S (.str _) w⟩
  · cases hv
    obtain ⟨_, rfl, a⟩ := reps1 rx
    cases a
    exact call_bool1 pins s σ H _ us Q I r (.inl ⟨_, rfl, q.now S (.bl _) w⟩)
  · cases hv
    obtain ⟨_, rfl, a⟩ := reps1 rx
    cases a
    exact call_bool1 pins s σ H _ us Q I r (.inr ⟨_, rfl, q.now S (.bl _) w⟩)
  · cases hv
    obtain ⟨_, _, rfl, a, b⟩ := reps2 rx
    cases a; cases b
    exact call_max2 hc pins s σ H _ us Q I r ⟨_, _, rfl, q.now S (.int _) w⟩
  · cases hv
    obtain ⟨_, _, rfl, a, b⟩ := reps2 rx
    cases a; cases b
    exact call_min2 hc pins s σ H _ us Q I r ⟨_, _, rfl, q.now S (.int _) w⟩
  · cases hv
    obtain ⟨_, rfl, a⟩ := reps1 rx
    cases a
    exact call_len_str pins s σ H _ us Q I r ⟨_, rfl, w.1, q.now S (.int _) w.2⟩
  · cases hv
    obtain ⟨_, rfl, a⟩ := reps1 rx
    obtain ⟨ys, e, w⟩ := w
    obtain ⟨p, ws, rfl, h1, r1⟩ := rdS_ok S a e
    exact call_len_seq pins s σ H _ us Q I r ⟨p, ws, rfl, by rw [hK]; exact h1, by rw [← r1.len]; exact q.now S (.int _) w⟩
  · cases hv
    obtain ⟨_, rfl, a⟩ := reps1 rx
    obtain ⟨ys, e, w⟩ := w
    obtain ⟨p, ws, rfl, h1, r1⟩ := rdS_ok S a e
    have z := mkL_ok S r1 q w
    exact call_list_of pins s σ H _ us Q I r ⟨p, ws, rfl, by rw [hK]; exact h1, z.2⟩
  · cases hv
    obtain ⟨_, rfl, a⟩ := reps1 rx
    cases a with
    | tup ha na ra => exact call_tupleT pins s σ H _ us Q I r ⟨_, _, rfl, .of ha, q.now S (.tup ha na ra) w⟩
  · cases hv
    obtain ⟨_, rfl, a⟩ := reps1 rx
    obtain ⟨ys, e, w⟩ := w
    obtain ⟨p, ws, rfl, h1, r1⟩ := rdL_ok S a e
    exact call_tuple_of pins s σ H _ us Q I r ⟨p, ws, rfl, .inl ⟨by rw [hK]; exact h1, mkT_ok S r1 q w⟩⟩
  · cases hv
    obtain ⟨_, rfl, a⟩ := reps1 rx
    obtain ⟨ys, ns, e, e2, w⟩ := w
    obtain ⟨p, ws, rfl, h1, r1⟩ := rdL_ok S a e
    exact cr_sum hc pins s σ H _ us Q I r ⟨p, ns, rfl, by rw [hK, ← ints_rep r1 e2]; exact h1, q.now S (.int _) w⟩
  · cases hv
    obtain ⟨_, rfl, a⟩ := reps1 rx
    obtain ⟨ys, ns, e, e2, z, w⟩ := w
    obtain ⟨p, ws, rfl, h1, r1⟩ := rdL_ok S a e
    exact cr_max hc pins s σ H _ us Q I r ⟨p, ns, rfl, by rw [hK, ← ints_rep r1 e2]; exact h1, z, fun k h1 h2 => q.now S (.int _) (w k h1 h2)⟩
  · cases hv
    obtain ⟨_, rfl, a⟩ := reps1 rx
    obtain ⟨ys, ns, e, e2, z, w⟩ := w
    obtain ⟨p, ws, rfl, h1, r1⟩ := rdL_ok S a e
    exact cr_min hc pins s σ H _ us Q I r ⟨p, ns, rfl, by rw [hK, ← ints_rep r1 e2]; exact h1, z, fun k h1 h2 => q.now S (.int _) (w k h1 h2)⟩
  · cases hv
    obtain ⟨_, rfl, a⟩ := reps1 rx
    obtain ⟨ys, ns, e, e2, w⟩ := w
    obtain ⟨p, ws, rfl, h1, r1⟩ := rdL_ok S a e
    exact cr_any hc pins s σ H _ us Q I r ⟨p, ns, rfl, by rw [hK, ← bls_rep r1 e2]; exact h1, q.now S (.bl _) w⟩
  · cases hv
    obtain ⟨_, rfl, a⟩ := reps1 rx
    obtain ⟨ys, ns, e, e2, w⟩ := w
    obtain ⟨p, ws, rfl, h1, r1⟩ := rdL_ok S a e
    exact cr_all hc pins s σ H _ us Q I r ⟨p, ns, rfl, by rw [hK, ← bls_rep r1 e2]; exact h1, q.now S (.bl _) w⟩
  · cases hv
    obtain ⟨_, rfl, a⟩ := reps1 rx
    rcases w with ⟨ys, ns, e, e2, w⟩ | ⟨ys, ps, e, e2, w⟩
    · obtain ⟨p, ws, rfl, h1, r1⟩ := rdL_ok S a e
      exact cr_sortedI pins s σ H _ us Q I r ⟨p, ns, rfl, by rw [hK, ← ints_rep r1 e2]; exact h1, fun ns' q' hp hs hq => (mkL_ok S (rep_ints ns') q (w ns' hp hs)).2 q' hq⟩
    · obtain ⟨p, ws, rfl, h1, r1⟩ := rdL_ok S a e
      obtain ⟨ek, hr⟩ := pairs_rep r1 e2
      refine cr_sortedPO pins s σ H _ us Q I r ⟨p, ws, pkV H, rfl, by rw [hK]; exact h1, fun x hx => (hr x hx).2, fun zs q' hs hb hq => ?_⟩
      have hz : Reps W φ H ((zs.map (pkV H)).map pairD) zs := reps_pk fun x hx => (hr x (hb.perm.mem_iff.mp hx)).1
      refine (mkL_ok S hz q (w _ (by rw [← ek]; exact hb.perm.map _) (List.pairwise_map.mpr (hs.imp fun {x y} h => ?_)))).2 q' hq
      have := SrtO.lexB_no.mp h
      unfold lexLe
      omega
  · exact w.elim
/-! ### methods of lists -/
theorem ref_lst {r xs v} (S : Sim W φ hd H) (a : Rep W φ H (.ref r) v) (e : hd[r]? = some (.lst xs)) : ∃ p vs, v = .ref p ∧ φ[r]? = some p ∧ H p = some (.lst vs) ∧ Reps W φ H xs vs := by
  cases a with
  | ref h =>
    obtain ⟨b, hb, vs, h1, h2⟩ := S.obj r _ e
    rw [h] at hb; cases hb
    exact ⟨_, vs, rfl, h, h1, h2⟩
/-- extend by a tuple -/
theorem mt_extendT {b l : Addr} {xs zs : List V} {pins : List (Addr × Obj)} {s : Shared} {σ : L2.St} {v : Value} {us : List Value} (I : Inv X pins σ H s) (rx : RelV (.ref l) v) (rv : Vals [.ref b] us) (hH : H l = some (.lst xs)) (hB : H b = some (.tup zs)) (hz : xs.length + zs.length ≤ sizeLine) (q : Q .non (upd H l (.lst (xs ++ zs)))) :
    wpAny (model X.prog X.w) X.A (call (.builtin "list.extend") (v :: us)) (EP X pins σ Q) X.xe s := by
  cases rx
  obtain ⟨u, rfl, ru⟩ := rv.one
  cases ru
  obtain ⟨z, its, n, r, hl, e⟩ := I.lstM hH
  obtain ⟨z2, its2, r2, o, ho, hc, n2, hd⟩ := I.hok b _ hB
  obtain ⟨cls, dict, data, slots⟩ := o
  simp only at hc hd
  subst hc hd
  have hl2 : zs.length = its2.length := r2.length
  have hsz : its.toArray.size + its2.toArray.size ≤ sizeLine := by rw [List.size_toArray, List.size_toArray]; omega
  have hlong : ¬ (!its.toArray.isEmpty && Builtin.List.listTooLong (its.toArray.size + its2.toArray.size)) = true := by
    rw [notLongL hsz, Bool.and_false]
    exact Bool.false_ne_true
  refine call_meets PySem.F.slot_list_extend ⟨_, e, rfl⟩ PySem.F.entry_list_extend (PySem.F.args_list_extend_2 _ _)
    (PySem.list_extend_tupG l its.toArray n b its2.toArray n2 dict slots hlong (by rw [List.size_toArray]; omega) (by omega)) ⟨e, ho, ?_⟩
  refine ⟨.non, _, I.lset (its' := its ++ its2) hH e (by simp) (r.append r2) ?_, rfl, q⟩
  rw [List.length_append]
  omega
theorem rdE_ok {d v ys} (S : Sim W φ hd H) (a : Rep W φ H d v) (e : rdE hd d = some ys) : ∃ b bs, v = .ref b ∧ (H b = some (.lst bs) ∨ H b = some (.tup bs)) ∧ Reps W φ H ys bs := by
  unfold rdE at e
  split at e
  · cases e
    cases a with
    | vl ha na ra => exact ⟨_, _, rfl, .inl ha, ra⟩
  · cases e
    cases a with
    | tup ha na ra => exact ⟨_, _, rfl, .inr ha, ra⟩
  · split at e
    · cases e
      obtain ⟨p, vs, rfl, _, h1, r1⟩ := ref_lst S a (by assumption)
      exact ⟨p, vs, rfl, .inl h1, r1⟩
    · cases e
  · cases e
theorem put_lst {r ys ws ws0} {p : Addr} {d v} (S : Sim W φ hd H) (hp : φ[r]? = some p) (h0 : H p = some (.lst ws0)) (rs : Reps W φ H ys ws) (rd : Rep W φ H d v) (q : QOk W φ H Qd Q) (w : Qd d (hd.set r (.lst ys))) : Q v (upd H p (.lst ws)) := by
  have E := Ext.write (φ := φ) (H := H) (o := .lst ws) (List.mem_of_getElem? hp) (nofrz h0 (fun _ _ z => nomatch z))
  exact q φ _ _ _ _ E (S.write hp (nofrz h0 (fun _ _ z => nomatch z)) (show RepO W φ _ p (.lst ys) from ⟨ws, upd_same, rs.ext E⟩)) (rd.ext E) w
noncomputable def bmT : String → Option (String × Nat)
  | "append" => some ("list.append", 1) | "pop" => some ("list.pop", 0) | "clear" => some ("list.clear", 0) | "reverse" => some ("list.reverse", 0)
  | "extend" => some ("list.extend", 1) | "insert" => some ("list.insert", 2) | "index" => some ("list.index", 1)
  | "join" => some ("str.join", 1) | "split" => some ("str.split", 1)
  | _ => none
noncomputable def rM (W : Wd) (f : String) : V → List V → Hp → VK → Prop := fun xv vs H Q => ∃ φ hd x xs Qd, Sim W φ hd H ∧ Rep W φ H x xv ∧ Reps W φ H xs vs ∧ bmW f x xs hd Qd ∧ QOk W φ H Qd Q
theorem sqix {i : Int} {k n : Nat} (h0 : 0 ≤ i) (h1 : i.toNat = k) (h2 : k < n) : seqIndex? i n = some k := by
  unfold seqIndex?
  have e : (if i < 0 then i + (n : Int) else i) = i := if_neg (by omega)
  simp only [e]
  rw [if_pos (by rw [decide_eq_true h0, decide_eq_true (show i < (n : Int) by omega)]; rfl), h1]
theorem bm_ok (hK : X.K = W.K) (hu : X.A.units + 65 < cLine) (f id : String) (n : Nat) (hv : bmT f = some (id, n)) : MtR X id (rM W f) := by
  intro pins s σ H xv vs v us Q I rv r h
  obtain ⟨φ, hd, x, xs, Qd, S, rx, rs, w, q⟩ := h
  unfold bmW at w
  split at w
  · cases hv
    obtain ⟨ys, e, z, w⟩ := w
    obtain ⟨p, ws, rfl, hp, h1, r1⟩ := ref_lst S rx e
    obtain ⟨dv, rfl, rd⟩ := reps1 rs
    exact mt_append pins s σ H _ _ v us Q I rv r ⟨p, ws, dv, rfl, rfl, h1, by rw [← r1.len]; exact z, put_lst S hp h1 (r1.append (.single rd)) .non q w⟩
  · cases hv
    obtain ⟨ys, y, e, e2, w⟩ := w
    obtain ⟨p, ws, rfl, hp, h1, r1⟩ := ref_lst S rx e
    cases rs
    obtain ⟨yv, e3, ry⟩ := r1.get e2
    exact mt_pop pins s σ H _ _ v us Q I rv r ⟨p, ws, yv, rfl, rfl, h1, by rw [← r1.len]; exact e3, put_lst S hp h1 r1.dropLast ry q w⟩
  · cases hv
    obtain ⟨ys, zs, e, e2, z, w⟩ := w
    obtain ⟨p, ws, rfl, hp, h1, r1⟩ := ref_lst S rx e
    obtain ⟨dv, rfl, rd⟩ := reps1 rs
    obtain ⟨b, bs, rfl, hb, rb⟩ := rdE_ok S rd e2
    rcases hb with hb | hb
    · exact mt_extend pins s σ H _ _ v us Q I rv r ⟨p, b, ws, bs, rfl, rfl, h1, hb, by rw [← r1.len, ← rb.len]; exact z, put_lst S hp h1 (r1.append rb) .non q w⟩
    · exact mt_extendT I rv r h1 hb (by rw [← r1.len, ← rb.len]; exact z) (put_lst S hp h1 (r1.append rb) .non q w)
  · cases hv
    obtain ⟨ys, e, z, z1, z2, w⟩ := w
    obtain ⟨p, ws, rfl, hp, h1, r1⟩ := ref_lst S rx e
    obtain ⟨iv, dv, rfl, ri, rd⟩ := reps2 rs
    cases ri
    exact mt_insert pins s σ H _ _ v us Q I rv r ⟨p, ws, _, dv, rfl, rfl, h1, by rw [← r1.len]; exact z, z1, z2, put_lst S hp h1 (((r1.take _).append (.single rd)).append (r1.drop _)) .non q w⟩
  · cases hv
    obtain ⟨ys, k, y, e, z1, z2, z3, e2, w⟩ := w
    obtain ⟨p, ws, rfl, hp, h1, r1⟩ := ref_lst S rx e
    obtain ⟨iv, rfl, ri⟩ := reps1 rs
    cases ri
    obtain ⟨yv, e3, ry⟩ := r1.get e2
    have hlt := (List.getElem?_eq_some_iff.mp e3).1
    exact mt_popAt pins s σ H _ _ v us Q I rv r ⟨p, ws, _, k, yv, rfl, rfl, h1, by omega, by omega, sqix z1 z2 hlt, e3, put_lst S hp h1 (r1.eraseIdx k) ry q w⟩
  · cases hv
    obtain ⟨ys, j, z, e, py1, py2, e2, dz, dn, w⟩ := w
    obtain ⟨yv, rfl, ry⟩ := reps1 rs
    obtain ⟨p, ws, rfl, h1, r1⟩ := rdM_ok S rx e
    refine mt_indexD hu pins s σ H _ _ v us Q I rv r ⟨p, yv, py _, pys ys, j, py z, rfl, rfl, ?_, by rw [hK]; exact rep_dp 15 py1 ry, pls_shaped (k := 15) (by decide) py2, pl_shaped (k := 15) (by decide) py1, ?_, ?_, ?_, q.now S (.int _) w⟩
    · rw [hK]
      exact .lst (.of h1) (reps_dp 15 py2 r1)
    · rw [pys_map, List.getElem?_map, e2]; rfl
    · rw [deq_py 15 _ _ (List.all_eq_true.mp py2 z (List.mem_of_getElem? e2)) py1]; exact dz
    · intro m z' hm hz'
      rw [pys_map, List.getElem?_map] at hz'
      cases o : ys[m]? with
      | none => rw [o] at hz'; cases hz'
      | some y2 =>
        rw [o] at hz'
        have hz' : py y2 = z' := Option.some.inj hz'
        subst hz'
        rw [deq_py 15 _ _ (List.all_eq_true.mp py2 y2 (List.mem_of_getElem? o)) py1]; exact dn m y2 hm o
  · cases hv
    obtain ⟨xs, ys, e, e2, z, w⟩ := w
    obtain ⟨dv, rfl, rd⟩ := reps1 rs
    cases rx
    obtain ⟨p, vs, rfl, h1, r1⟩ := rdL_ok S rd e
    exact mt_join pins s σ H _ _ v us Q I rv r ⟨_, p, ys, rfl, rfl, .inl (by rw [hK, ← strs_rep r1 e2]; exact h1), z, q.now S (.str _) w⟩
  · cases hv
    obtain ⟨z, z2, z3, w⟩ := w
    obtain ⟨dv, rfl, rd⟩ := reps1 rs
    cases rx
    cases rd
    exact mt_split pins s σ H _ _ v us Q I rv r ⟨_, _, rfl, rfl, z, z2, (mkL_ok (m := false) S (rep_strs (Txt.split _ _)) q ⟨by rw [List.length_map]; exact z3, w⟩).2⟩
  · cases hv
    obtain ⟨ys, e, w⟩ := w
    obtain ⟨p, ws, rfl, hp, h1, r1⟩ := ref_lst S rx e
    cases rs
    exact mt_clear pins s σ H _ _ v us Q I rv r ⟨p, ws, rfl, rfl, h1, put_lst S hp h1 .nil .non q w⟩
  · cases hv
    obtain ⟨ys, e, w⟩ := w
    obtain ⟨p, ws, rfl, hp, h1, r1⟩ := ref_lst S rx e
    cases rs
    exact mt_reverse pins s σ H _ _ v us Q I rv r ⟨p, ws, rfl, rfl, h1, put_lst S hp h1 r1.reverse .non q w⟩
  · exact w.elim
/-- o[i] = v -/
noncomputable def subW (o i d : D) (h : Hd) (K : Hd → Prop) : Prop := ∃ r k xs j, o = .ref r ∧ i = .int k ∧ h[r]? = some (.lst xs) ∧ L2.ixN xs.length k = some j ∧ K (h.set r (.lst (xs.set j d)))
end
end Vd

set_option Elab.async false
set_option linter.all false
set_option maxRecDepth 100000
set_option maxHeartbeats 2000000
/-! the code that stands in the text, and that what it asks suffices: expressions -/
namespace Vd
open PySem PySem.Spec PyProof.Rows L2

/-! ### looks at the text -/
noncomputable def visB (sc : Scope) (x : Str) : Bool := match sc.names.lookup x with
  | some .local => true | some .cell => true | some .free => true | _ => false
noncomputable def glB (sc : Scope) (x : Str) : Bool := match sc.names.lookup x with
  | some .globalImplicit => true | _ => false
noncomputable def okN (x : Str) : Bool := !(x == ("__debug__" : Str)) && !(x == ("__classdict__" : Str)) && !(x == ("__name__" : Str))
noncomputable def tgB (os sc : Scope) (x : Str) : Bool := match os.names.lookup x, sc.names.lookup x with
  | some .local, some .local => true | some .cell, some .cell => true | _, _ => false
noncomputable def starB : Expr → Bool | .Starred .. => true | _ => false
noncomputable def sliceB : Expr → Bool | .Slice .. => true | _ => false
noncomputable def setB : Expr → Bool | .Set .. => true | _ => false
noncomputable def compB : Expr → Bool | .ListComp .. => true | .SetComp .. => true | .DictComp .. => true | _ => false
noncomputable def plainT : Expr → Bool | .UnaryOp .Not _ _ => false | .BoolOp .. => false | .IfExp .. => false | .Compare .. => false | _ => true
noncomputable def baseB : Expr → Bool | .Call (.Name _ _) [] [] _ => false | _ => true
theorem star_cons {e : Expr} {es : List Expr} {env : Env} (h : starB e = false) : starEach (e :: es) env = (false, eval e env) :: starEach es env := by
  cases e <;> first | rfl | (simp [starB] at h)
theorem star_any {env : Env} {pos : Pos} : ∀ {es : List Expr}, es.all (fun e => !starB e) = true → (backTo pos (starEach es env)).any (·.1) = false
  | [], _ => rfl
  | e :: es, h => by
    rw [List.all_cons, Bool.and_eq_true] at h
    rw [star_cons (by simpa using h.1)]
    show (false || (backTo pos (starEach es env)).any (·.1)) = false
    rw [star_any h.2]; rfl
theorem ix_plain {e : Expr} (h : sliceB e = false) : PlainIx e := by
  intro o i
  cases e <;> first | rfl | (simp [sliceB] at h)
theorem test_plain {e : Expr} {env : Env} (h : plainT e = true) : ∀ whole, isTrue e env whole = (do let v ← whole; standAt e.pos; holding [v] (truthy v)) := by
  intro w
  cases e with
  | UnaryOp op a p => cases op <;> first | rfl | (simp [plainT] at h)
  | BoolOp => simp [plainT] at h
  | IfExp => simp [plainT] at h
  | Compare => simp [plainT] at h
  | _ => rfl
theorem set_plain {e : Expr} {env : Env} (h : setB e = false) : ∀ x, foldedSetIterable e env x = pure x := by
  intro x
  cases e <;> first | rfl | (simp [setB] at h)
theorem comp_plain {e : Expr} {t : Option Expr} {l : Nat} {env : Env} (h : compB e = false) : swapsWith e t l env = pure false := by
  cases e <;> first | rfl | (simp [compB] at h)
theorem base_plain {e : Expr} {f : Str} {env : Env} (h : baseB e = true) : attributeBase e f env (eval e env) = eval e env := by
  cases e with
  | Call fn args kws pos =>
    cases fn with
    | Name x p =>
      cases args with
      | nil => cases kws with
        | nil => simp [baseB] at h
        | cons => rfl
      | cons => rfl
    | _ => rfl
  | _ => rfl
theorem mark_plain {op : CmpOp} {e : Expr} (h : setB e = false) : behindInMarks op e = false := by
  cases e <;> first | rfl | (simp [setB] at h)

noncomputable def opB : Op2 → Operator → Bool
  | .add, .Add => true | .sub, .Sub => true | .mul, .Mult => true | .fdiv, .FloorDiv => true | .mod, .Mod => true | .pow, .Pow => true | .shl, .LShift => true | .shr, .RShift => true | .band, .BitAnd => true | .bxor, .BitXor => true
  | _, _ => false
theorem opB_eq {a b} (h : opB a b = true) : b = opOf a := by
  cases a <;> cases b <;> first | rfl | (simp [opB] at h)
noncomputable def cmB : Cm → CmpOp → Bool
  | .lt, .Lt => true | .le, .LtE => true | .gt, .Gt => true | .ge, .GtE => true | .eq, .Eq => true | .ne, .NotEq => true | .is, .Is => true | .isn, .IsNot => true | .isin, .In => true | .nin, .NotIn => true
  | _, _ => false
theorem cmB_eq {a b} (h : cmB a b = true) : b = cmOf a := by
  cases a <;> cases b <;> first | rfl | (simp [cmB] at h)

/-- where one stands -/
structure Pl where
  cm : Bool
  N : List Str
  sc : Scope
  os : Scope
  ex : Bool := false
noncomputable def nmB (P : Pl) (i : Nat) (x : Str) : Bool := decide (P.N[i]? = some x) && tgB P.os P.sc x
noncomputable def tgC (P : Pl) : Tg → Expr → Bool
  | .nm i, .Name x _ => nmB P i x
  | .tp is, .Tuple es _ _ => P.cm && decide (is.length = es.length) && (is.zip es).all fun p => match p.2 with
    | .Name x _ => nmB P p.1 x
    | _ => false
  | _, _ => false
/-- what a comprehension's block is -/
noncomputable def blkB (P : Pl) (scope : Scope) (vs : List Nat) : Bool := blkC P.N P.sc scope (vs.filterMap fun i => (P.N[i]?).map fun x => (x, i)) && vs.all fun i => (P.N[i]?).isSome
noncomputable def Pl.blk (P : Pl) (scope : Scope) : Pl := { P with sc := relS scope P.sc, os := scope, ex := false }
mutual
noncomputable def chkE (P : Pl) : E → Expr → Bool
  | .var i, e0 => match e0 with
    | .Name x _ => decide (P.N[i]? = some x) && visB P.sc x && okN x
    | _ => false
  | .int i, e0 => match e0 with
    | .Constant (.int j) _ _ => decide (i = j)
    | _ => false
  | .str s, e0 => match e0 with
    | .Constant (.str x) _ _ => decide (x = Str.ofString s)
    | _ => false
  | .bl b, e0 => match e0 with
    | .Constant (.bool c) _ _ => b == c
    | _ => false
  | .non, e0 => match e0 with
    | .Constant .none _ _ => true
    | _ => false
  | .glob x, e0 => match e0 with
    | .Name y _ => decide (y = Str.ofString x) && glB P.sc y && okN y
    | _ => false
  | .bin _ o a b, e0 => match e0 with
    | .BinOp a' o' b' _ => opB o o' && chkE P a a' && chkE P b b'
    | _ => false
  | .neg a, e0 => match e0 with
    | .UnaryOp .USub a' _ => chkE P a a'
    | _ => false
  | .not a, e0 => match e0 with
    | .UnaryOp .Not a' _ => chkE P a a'
    | _ => false
  | .cmp o a b, e0 => match e0 with
    | .Compare a' [o'] [b'] _ => cmB o o' && chkE P a a' && chkE P b b' && !setB b'
    | _ => false
  | .chain o p a b c, e0 => match e0 with
    | .Compare a' [o', p'] [b', c'] _ => cmB o o' && cmB p p' && chkE P a a' && chkE P b b' && chkE P c c' && !setB b' && !setB c'
    | _ => false
  | .and es, e0 => match e0 with
    | .BoolOp .And vs _ => chkEs P es vs
    | _ => false
  | .or es, e0 => match e0 with
    | .BoolOp .Or vs _ => chkEs P es vs
    | _ => false
  | .ife c a b, e0 => match e0 with
    | .IfExp c' a' b' _ => chkE P c c' && tstB c && chkE P a a' && chkE P b b'
    | _ => false
  | .tup es, e0 => match e0 with
    | .Tuple vs _ _ => chkEs P es vs
    | _ => false
  | .lst _ es, e0 => match e0 with
    | .List vs _ => chkEs P es vs
    | _ => false
  | .idx a i, e0 => match e0 with
    | .Subscript a' i' _ => !sliceB i' && chkE P a a' && chkE P i i'
    | _ => false
  | .slc _ a lo hi, e0 => match e0 with
    | .Subscript a' (.Slice lo' hi' none _) _ => chkE P a a' && chkO P lo lo' && chkO P hi hi'
    | _ => false
  | .stp a lo c, e0 => match e0 with
    | .Subscript a' (.Slice lo' none (some (.Constant (.int c') _ _)) _) _ => chkE P a a' && decide (c' = (c : Int)) && decide (0 < c) && (match lo' with
        | none => decide (lo = 0)
        | some (.Constant (.int l) _ _) => decide (l = (lo : Int))
        | _ => false)
    | _ => false
  | .lrg _ a b, e0 => match e0 with
    | .Call (.Name x _) [.Call (.Name y _) [a', b'] [] _] [] _ => P.cm && decide (x = Str.ofString "list") && glB P.sc x && decide (y = Str.ofString "range") && glB P.sc y && !starB a' && !starB b' && chkE P a a' && chkE P b b'
    | _ => false
  | .lrb _ a b, e0 => match e0 with
    | .Call (.Name x _) [.Call (.Name y _) [a', b'] [] _] [] _ => P.cm && decide (x = Str.ofString "list") && glB P.sc x && decide (y = Str.ofString "range") && glB P.sc y && !starB a' && !starB b' && chkE P a a' && chkE P b b'
    | _ => false
  | .lset a, e0 => match e0 with
    | .Call (.Name x _) [.Call (.Name y _) [a'] [] _] [] _ => P.cm && decide (x = Str.ofString "len") && glB P.sc x && decide (y = Str.ofString "set") && glB P.sc y && !starB a' && chkE P a a'
    | _ => false
  | .srs _ a, e0 => match e0 with
    | .Call (.Name x _) [.Call (.Name y _) [a'] [] _] [] _ => P.cm && decide (x = Str.ofString "sorted") && glB P.sc x && decide (y = Str.ofString "set") && glB P.sc y && !starB a' && chkE P a a'
    | _ => false
  | .lrev _ a, e0 => match e0 with
    | .Call (.Name x _) [.Call (.Name y _) [a'] [] _] [] _ => P.cm && decide (x = Str.ofString "list") && glB P.sc x && decide (y = Str.ofString "reversed") && glB P.sc y && !starB a' && chkE P a a'
    | _ => false
  | .dnew _, e0 => match e0 with
    | .Dict [] [] _ => true
    | _ => false
  | .ddsp k v, e0 => match e0 with
    | .Dict [some k'] [v'] _ => chkE P k k' && chkE P v v'
    | _ => false
  | .dln a, e0 => match e0 with
    | .Call (.Name x _) [a'] [] _ => P.cm && decide (x = Str.ofString "len") && glB P.sc x && okN x && !starB a' && chkE P a a'
    | _ => false
  | .dget o i, e0 => match e0 with
    | .Subscript o' i' _ => !sliceB i' && chkE P o o' && chkE P i i'
    | _ => false
  | .din n i o, e0 => match e0 with
    | .Compare i' [op] [o'] _ => (if n = true then cmB .nin op else cmB .isin op) && chkE P i i' && chkE P o o' && !setB o'
    | _ => false
  | .mpr mx a, e0 => match e0 with
    | .Call (.Name x _) [v] [] _ => P.cm && decide (x = Str.ofString (if mx = true then "max" else "min")) && glB P.sc x && okN x && !starB v && chkE P a v
    | _ => false
  | .mdef mx a, e0 => match e0 with
    | .Call (.Name x _) [v] [⟨some k, .Constant .none _ _, _⟩] _ => P.cm && decide (x = Str.ofString (if mx = true then "max" else "min")) && glB P.sc x && okN x && !starB v && decide (k = Str.ofString "default") && chkE P a v
    | _ => false
  | .fld a f, e0 => match e0 with
    | .Attribute a' g _ => decide (g = Str.ofString f) && baseB a' && chkE P a a'
    | _ => false
  | .isi a t, e0 => match e0 with
    | .Call (.Name x _) [a', .Name t' _] [] _ => decide (x = Str.ofString "isinstance") && glB P.sc x && decide (t' = Str.ofString t) && tyN t && glB P.sc t' && okN t' && !starB a' && chkE P a a'
    | _ => false
  | .call f es, e0 => match e0 with
    | .Call (.Name x _) (v :: vs) [] _ => P.cm && decide (x = Str.ofString f) && glB P.sc x && okN x && (v :: vs).all (fun e => !starB e) && chkEs P es (v :: vs)
    | _ => false
  | .make c es, e0 => match e0 with
    | .Call (.Name x _) (v :: vs) [] _ => P.cm && decide (x = Str.ofString c) && glB P.sc x && okN x && (v :: vs).all (fun e => !starB e) && chkEs P es (v :: vs)
    | _ => false
  | .meth o f es, e0 => match e0 with
    | .Call (.Attribute o' g ap) vs [] cp => P.cm && decide (g = Str.ofString f) && (ap.endLine == cp.line) && decide (vs.length < 20) && baseB o' && chkE P o o' && vs.all (fun e => !starB e) && chkEs P es vs
    | _ => false
  | .ise i t, e0 => match e0 with
    | .Call (.Name x _) [.Name y _, .Name t' _] [] _ => P.ex && decide (x = Str.ofString "isinstance") && glB P.sc x && decide (P.N[i]? = some y) && visB P.sc y && okN y && decide (t' = Str.ofString t) && glB P.sc t' && okN t'
    | _ => false
  | .bi f _ es, e0 => match e0 with
    | .Call (.Name x _) (v :: vs) [] _ => P.cm && decide (x = Str.ofString f) && glB P.sc x && okN x && (biV f).isSome && (v :: vs).all (fun e => !starB e) && chkEs P es (v :: vs)
    | _ => false
  | .bm f o es, e0 => match e0 with
    | .Call (.Attribute o' g ap) vs [] cp => decide (g = Str.ofString f) && (ap.endLine == cp.line) && decide (vs.length < 20) && baseB o' && chkE P o o' && vs.all (fun e => !starB e) && chkEs P es vs && (bmT f).isSome
    | _ => false
  | .comp _ elt tg it cond vs, e0 => match e0 with
    | .ListComp elt' [⟨tg', it', ifs, 0⟩] scope _ => P.cm && blkB P scope vs && chkI P it it' tg' && tgC (P.blk scope) tg tg' && chkC (P.blk scope) cond ifs && chkE (P.blk scope) elt elt' && tgIn tg vs
    | _ => false
noncomputable def chkEs (P : Pl) : Es → List Expr → Bool
  | .nil, [] => true
  | .cons e r, v :: vs => chkE P e v && chkEs P r vs
  | _, _ => false
noncomputable def chkO (P : Pl) : Oe → Option Expr → Bool
  | .none, none => true
  | .some e, some v => chkE P e v
  | _, _ => false
noncomputable def chkC (P : Pl) : Oe → List Expr → Bool
  | .none, [] => true
  | .some e, [v] => chkE P e v && tstB e
  | _, _ => false
noncomputable def chkI (P : Pl) : It → Expr → Expr → Bool
  | .val e, v, _ => chkE P e v && !setB v
  | .chs e, v, _ => chkE P e v && !setB v
  | .kys e, v, _ => chkE P e v && !setB v
  | .rng1 a, e0, e1 => match e0, e1 with
    | .Call (.Name x _) [a'] [] _, _ => decide (x = Str.ofString "range") && glB P.sc x && !starB a' && chkE P a a'
    | _, _ => false
  | .rng3 a b c, e0, e1 => match e0, e1 with
    | .Call (.Name x _) [a', b', c'] [] _, _ => decide (x = Str.ofString "range") && glB P.sc x && !starB a' && !starB b' && !starB c' && chkE P a a' && chkE P b b' && chkE P c c'
    | _, _ => false
  | .rngb a b, e0, e1 => match e0, e1 with
    | .Call (.Name x _) [a', b'] [] _, _ => decide (x = Str.ofString "range") && glB P.sc x && !starB a' && !starB b' && chkE P a a' && chkE P b b'
    | _, _ => false
  | .rng2 a b, e0, e1 => match e0, e1 with
    | .Call (.Name x _) [a', b'] [] _, _ => decide (x = Str.ofString "range") && glB P.sc x && !starB a' && !starB b' && chkE P a a' && chkE P b b'
    | _, _ => false
  | .zip a b, e0, e1 => match e0, e1 with
    | .Call (.Name x _) [a', b'] [] _, .Tuple _ _ _ => decide (x = Str.ofString "zip") && glB P.sc x && !starB a' && !starB b' && chkE P a a' && chkE P b b'
    | _, _ => false
  | .enum a, e0, e1 => match e0, e1 with
    | .Call (.Name x _) [a'] [] _, .Tuple _ _ _ => decide (x = Str.ofString "enumerate") && glB P.sc x && !starB a' && chkE P a a'
    | _, _ => false
  | .rev a, e0, e1 => match e0, e1 with
    | .Call (.Name x _) [a'] [] _, _ => decide (x = Str.ofString "reversed") && glB P.sc x && !starB a' && chkE P a a'
    | _, _ => false
/-- may stand as a test -/
noncomputable def tstB : E → Bool
  | .ife _ _ _ => false
  | .and es => tstsB es
  | .or es => tstsB es
  | .not a => tstB a
  | _ => true
noncomputable def tstsB : Es → Bool
  | .nil => true
  | .cons e r => tstB e && tstsB r
noncomputable def tgIn : Tg → List Nat → Bool
  | .nm i, vs => vs.contains i
  | .tp is, vs => is.all fun i => vs.contains i
end
end Vd

set_option Elab.async false
set_option linter.all false
set_option maxRecDepth 100000
set_option maxHeartbeats 4000000
namespace Vd
open PySem PySem.Spec PyProof.Rows L2
/-! ### a value behind a call: no object that changes goes with it -/
mutual
inductive Fz (n : Nat) (h : Hd) : D → D → Prop
  | non : Fz n h .non .non
  | bl (b : Bool) : Fz n h (.bl b) (.bl b)
  | int (i : Int) : Fz n h (.int i) (.int i)
  | str (x : Str) : Fz n h (.str x) (.str x)
  | tup {xs ys} : Fzs n h xs ys → Fz n h (.tup xs) (.tup ys)
  | vl {xs ys} : Fzs n h xs ys → Fz n h (.vl xs) (.vl ys)
  | vi {c ns xs ys} : Fzs n h xs ys → Fz n h (.vi c ns xs) (.vi c ns ys)
  | sv {xs ys} : Fzs n h xs ys → Fz n h (.sv xs) (.sv ys)
  | old {r} : r < n → Fz n h (.ref r) (.ref r)
  | lst {r xs ys} : n ≤ r → h[r]? = some (.lst xs) → Fzs n h xs ys → Fz n h (.ref r) (.vl ys)
  | ins {r c ns xs ys} : n ≤ r → h[r]? = some (.ins c ns xs) → Fzs n h xs ys → Fz n h (.ref r) (.vi c ns ys)
inductive Fzs (n : Nat) (h : Hd) : List D → List D → Prop
  | nil : Fzs n h [] []
  | cons {x y xs ys} : Fz n h x y → Fzs n h xs ys → Fzs n h (x :: xs) (y :: ys)
end
mutual
inductive Bd (n : Nat) : D → Prop
  | non : Bd n .non
  | bl (b : Bool) : Bd n (.bl b)
  | int (i : Int) : Bd n (.int i)
  | str (x : Str) : Bd n (.str x)
  | tup {xs} : Bds n xs → Bd n (.tup xs)
  | vl {xs} : Bds n xs → Bd n (.vl xs)
  | vi {c ns xs} : Bds n xs → Bd n (.vi c ns xs)
  | sv {xs} : Bds n xs → Bd n (.sv xs)
  | ref {r} : r < n → Bd n (.ref r)
inductive Bds (n : Nat) : List D → Prop
  | nil : Bds n []
  | cons {x xs} : Bd n x → Bds n xs → Bds n (x :: xs)
end
mutual
theorem Bd.fz {n h} : ∀ {d}, Bd n d → Fz n h d d
  | _, .non => .non
  | _, .bl b => .bl b
  | _, .int b => .int b
  | _, .str b => .str b
  | _, .tup r => .tup (Bds.fz r)
  | _, .vl r => .vl (Bds.fz r)
  | _, .vi r => .vi (Bds.fz r)
  | _, .sv r => .sv (Bds.fz r)
  | _, .ref r => .old r
theorem Bds.fz {n h} : ∀ {ds}, Bds n ds → Fzs n h ds ds
  | _, .nil => .nil
  | _, .cons a b => .cons (Bd.fz a) (Bds.fz b)
end
noncomputable def BdO (n : Nat) : Ob → Prop
  | .lst xs => Bds n xs
  | .ins _ _ xs => Bds n xs
  | .dk _ kvs => Bds n (kvs.map (·.2))
  | .dt _ kvs => Bds n (kvs.map (·.2))
/-- the ways behind a call that began at h0 -/
inductive Exit (h0 : Hd) (v : D) (h' : Hd) (Q : DK) : Prop
  | raw : Q v h' → Exit h0 v h' Q
  | pure {v'} : Fz h0.length h' v v' → h0 <+: h' → Q v' h0 → Exit h0 v h' Q
  | fresh {r xs} : v = .ref r → h0.length ≤ r → h'[r]? = some (.lst xs) → Bds h0.length xs → h0 <+: h' → Q (.ref h0.length) (h0 ++ [.lst xs]) → Exit h0 v h' Q
  | keep {v'} : Fz h0.length h' v v' → (∀ o ∈ h'.take h0.length, BdO h0.length o) → Q v' (h'.take h0.length) → Exit h0 v h' Q

end Vd

set_option Elab.async false
set_option linter.all false
set_option maxRecDepth 100000
set_option maxHeartbeats 2000000
namespace Vd
open PySem PySem.Spec PyProof.Rows L2

noncomputable abbrev GR (α β : Type) := List Addr → Hp → α → β → Prop
noncomputable def GOk {α β : Type} (W : Wd) (R : GR α β) (φ : List Addr) (H : Hp) (Qd : α → Hd → Prop) (Q : β → Hp → Prop) : Prop :=
  ∀ φ' hd' H' d v, Ext φ φ' H H' → Sim W φ' hd' H' → R φ' H' d v → Qd d hd' → Q v H'
noncomputable def Ter {α β : Type} (W : Wd) (R : GR α β) (WX : L2.WX) (w : DSt → Hd → (α → Hd → Prop) → EK → Prop) : L2.St → Hp → (β → Hp → Prop) → Prop := fun σ H Q =>
  ∃ φ hd σd Qd Xd, At W φ hd H σd σ ∧ w σd hd Qd Xd ∧ GOk W R φ H Qd Q ∧ XOk W WX φ H σ Xd
noncomputable abbrev rV (W : Wd) : GR D V := fun φ H d v => Rep W φ H d v
noncomputable abbrev rA (W : Wd) : GR (List D) (List V) := fun φ H d v => Reps W φ H d v
noncomputable abbrev rQ {α : Type} : GR α α := fun _ _ a b => a = b
theorem GOk.ext {α β : Type} {W R φ φ' H H'} {Qd : α → Hd → Prop} {Q : β → Hp → Prop} (q : GOk W R φ H Qd Q) (e : Ext φ φ' H H') : GOk W R φ' H' Qd Q :=
  fun φ2 h2 H2 d v e2 s r w => q φ2 h2 H2 d v (e.trans e2) s r w
section
variable {W : Wd} {WX : L2.WX} {φ : List Addr} {hd : Hd} {H : Hp} {σd : DSt} {σ : L2.St} {Xd : EK}
theorem Ter.go {α β : Type} {R : GR α β} {wa : DSt → Hd → (α → Hd → Prop) → EK → Prop} {Qd1 : α → Hd → Prop} {Q1 : β → Hp → Prop} (A : At W φ hd H σd σ) (x : XOk W WX φ H σ Xd) (w : wa σd hd Qd1 Xd)
    (k : ∀ φ1 h1 H1 d v, Ext φ φ1 H H1 → At W φ1 h1 H1 σd σ → R φ1 H1 d v → Qd1 d h1 → Q1 v H1) : Ter W R WX wa σ H Q1 :=
  ⟨φ, hd, σd, Qd1, Xd, A, w, fun φ1 h1 H1 d v e s r w1 => k φ1 h1 H1 d v e ⟨s, A.st.ext e⟩ r w1, x⟩
end

theorem pe_imp {X : Cx} {e : Expr} {t t' : TE} (h : PE X e t) (i : ∀ σ H Q, t' σ H Q → t σ H Q) : PE X e t' := ⟨fun pins s σ H Q I q => h.run pins s σ H Q I (i _ _ _ q)⟩
theorem pt_imp {X : Cx} {e : Expr} {t t' : TT} (h : PT X e t) (i : ∀ σ H Q, t' σ H Q → t σ H Q) : PT X e t' := ⟨fun pins s σ H Q I q => h.run pins s σ H Q I (i _ _ _ q)⟩
theorem pw_imp {X : Cx} {e : Expr} {t t' : TT} (h : PW X e t) (i : ∀ σ H Q, t' σ H Q → t σ H Q) : PW X e t' := ⟨fun w pins s σ H Q I q => h.run w pins s σ H Q I (i _ _ _ q)⟩
theorem pa_imp {X : Cx} {e : List Expr} {t t' : TA} (h : PA X e t) (i : ∀ σ H Q, t' σ H Q → t σ H Q) : PA X e t' := ⟨fun p pins s σ H Q I q => h.run p pins s σ H Q I (i _ _ _ q)⟩
theorem po_imp {X : Cx} {e : Option Expr} {t t' : TO} (h : PO X e t) (i : ∀ σ H Q, t' σ H Q → t σ H Q) : PO X e t' := ⟨fun pins s σ H Q I q => h.run pins s σ H Q I (i _ _ _ q)⟩
theorem pts_imp {X : Cx} {e : List Expr} {t t' : TT} (h : PTs X e t) (i : ∀ σ H Q, t' σ H Q → t σ H Q) : PTs X e t' := ⟨fun pins s σ H Q I q => h.run pins s σ H Q I (i _ _ _ q)⟩
theorem pi_imp {X : Cx} {tg e : Expr} {t t' : TI} (h : PI X tg e t) (i : ∀ σ H R, t' σ H R → t σ H R) : PI X tg e t' := ⟨fun pins s σ H R I q => h.run pins s σ H R I (i _ _ _ q)⟩
theorem pg_imp {X : Cx} {e : Expr} {t t' : TG} (h : PG X e t) (i : ∀ v σ H Q, t' v σ H Q → t v σ H Q) : PG X e t' := ⟨fun pins s σ H v u Q I r q => h.run pins s σ H v u Q I r (i _ _ _ _ q)⟩
theorem pgs_imp {X : Cx} {e : List Expr} {t t' : TGs} (h : PGs X e t) (i : ∀ v σ H Q, t' v σ H Q → t v σ H Q) : PGs X e t' := ⟨fun pins s σ H v u Q I r q => h.run pins s σ H v u Q I r (i _ _ _ _ q)⟩

/-! ### what a def promises, by plain data -/
noncomputable def SPd (W : Wd) (s : List D → Hd → DK → EK → Prop) : Sp := fun vs H Q E => ∃ fb φ hd ds Qd Xd, Sim { W with fb := fb } φ hd H ∧ Reps { W with fb := fb } φ H ds vs ∧ s ds hd Qd Xd ∧ GOk { W with fb := fb } (rV { W with fb := fb }) φ H Qd Q ∧
  ∀ φ' hd' H' c C, Ext φ φ' H H' → Sim { W with fb := fb } φ' hd' H' → clOf W.mg c = some C → Xd c hd' → E (.ref C) none H'
noncomputable def FnHere (W : Wd) (G : Gam) (lv : Nat) (X : Cx) (f : String) : Prop := ∃ (fa : Addr) (fd : FuncData) (ps : List Str), X.mg (Str.ofString f) = some (.ref fa) ∧ PySem.W.keepIn X.K (.ref fa) = true ∧ Binds X.K fd ps [] ∧
  FnOk X.prog X.w X.K X.mg X.base (CX X.prog X.w) lv fa fd ps (SPd W (G.fn f))
/-- a method, a class, as the top has made them -/
noncomputable def MeHere (W : Wd) (G : Gam) (lv : Nat) (X : Cx) (c m : String) : Prop := ∃ (C fa : Addr) (fd : FuncData) (ps : List Str), clOf W.mg c = some C ∧ Cls X.K C ∧ Meth X.K C (Str.ofString m) fa ∧ Binds X.K fd ps [] ∧
  FnOk X.prog X.w X.K X.mg X.base (CX X.prog X.w) lv fa fd ps (SPd W (G.me c m))
/-- what a class called asks, by what its __init__ asks -/
noncomputable def mkW (me : String → String → List D → Hd → DK → EK → Prop) (c : String) (xs : List D) (h : Hd) (Q : DK) (X : EK) : Prop :=
  me c "__init__" (.ref h.length :: xs) (h ++ [.ins c [] []]) (fun v h2 => v = .non ∧ Exit h (.ref h.length) h2 Q) (fun e h2 => X e h2 ∨ (h <+: h2 ∧ X e h))
noncomputable def MkHere (W : Wd) (G : Gam) (lv : Nat) (X : Cx) (c : String) : Prop := ∃ (C fa : Addr) (fd : FuncData) (ps : List Str) (k : Nat) (me : String → String → List D → Hd → DK → EK → Prop), lv = k + 1 ∧ X.mg (Str.ofString c) = some (.ref C) ∧ Mk X.K C fa ∧ Binds X.K fd ps [] ∧
  FnOk X.prog X.w X.K X.mg X.base (CX X.prog X.w) k fa fd ps (SPd W (me c "__init__")) ∧ G.mkc c = mkW me c
structure Cok (W : Wd) (G : Gam) (lv : Nat) (P : Pl) (WX : L2.WX) (X : Cx) : Prop where
  K : X.K = W.K
  mg : X.mg = W.mg
  N : X.N = P.N
  nd : P.N.Nodup
  sc : X.env.scope = P.sc
  calm : P.cm = true → X.calm = true
  room : P.cm = true → Room lv X.A
  hu : X.A.units + 65 < cLine
  fn : ∀ x, P.os.names.lookup x = some .cell → X.fn x = true
  bn : ∀ f v, biV f = some v → X.mg (Str.ofString f) = none
  bn2 : X.mg (Str.ofString "range") = none ∧ X.mg (Str.ofString "zip") = none ∧ X.mg (Str.ofString "enumerate") = none ∧ X.mg (Str.ofString "reversed") = none ∧ X.mg (Str.ofString "isinstance") = none
  bn3 : X.mg (Str.ofString "int") = none ∧ X.mg (Str.ofString "bool") = none ∧ X.mg (Str.ofString "str") = none ∧ X.mg (Str.ofString "list") = none ∧ X.mg (Str.ofString "tuple") = none
  tk : Takes X WX
  fns : P.cm = true → ∀ f, G.isFn f = true → FnHere W G lv X f
  gl : ∀ x d, G.gl x = some d → ∃ u v, X.mg (Str.ofString x) = some u ∧ RelV v u ∧ ∀ (W' : Wd) φ H, Rep W' φ H d v
  fld : ∀ c f, G.fldOk c f = true → ∀ C, clOf W.mg c = some C → Cls X.K C ∧ NoAttr X.K C (Str.ofString f)
  mes : P.cm = true → ∀ c m, G.isMe c m = true → MeHere W G lv X c m
  mks : P.cm = true → ∀ c, G.isMk c = true → MkHere W G lv X c
  xn : P.cm = true → W.xs = none
  exs : ∀ c, G.isEx c = true → ∃ C, X.mg (Str.ofString c) = some (.ref C) ∧ ExcC X.K C ∧ PySem.W.excIn X.K C [.type "ValueError", .type "Exception", .type "BaseException", .type "object"] "ValueError.__new__" = true ∧ PySem.W.keepIn X.K (.ref C) = true ∧ PySem.W.typeIn X.K (.ref C) = some (.type "type")
  exm : ∀ c t b, G.exm c t = some b → ∀ C, clOf W.mg c = some C → ExcC X.K C ∧ ∃ T, X.mg (Str.ofString t) = some (.ref T) ∧ PySem.W.exmOne X.K (.ref C) (.ref T) = some b
  sub : ∀ c t b, G.sub c t = some b → ∀ C, clOf W.mg c = some C → (∃ T, X.mg (Str.ofString t) = some (.ref T) ∧ PySem.W.kitOne X.K (.ref C) (.ref T) = some b) ∨ (t = "ValueError" ∧ X.mg (Str.ofString t) = none ∧ PySem.W.kitOne X.K (.ref C) (.type "ValueError") = some b)
  xe : P.ex = true → ∀ i c, G.xs = some (i, c) → ∃ a C, W.xs = some (i, a, c) ∧ clOf W.mg c = some C ∧ CallR X (.builtin "isinstance") (rIsE X.K C a)
  isn : X.mg (Str.ofString "isinstance") = none
  trs : ∀ c, G.isTr c = true → ∃ T, X.mg (Str.ofString c) = some (.ref T)
section
variable {W : Wd} {G : Gam} {lv : Nat} {P : Pl} {WX : L2.WX} {X : Cx}
theorem Cok.vis (C : Cok W G lv P WX X) {x : Str} (h : visB P.sc x = true) : Vis X.env.scope x := by
  rw [C.sc]
  unfold visB at h
  unfold Vis
  cases e : P.sc.names.lookup x with
  | none => rw [e] at h; cases h
  | some k => rw [e] at h; cases k <;> first | exact .inl rfl | exact .inr (.inl rfl) | exact .inr (.inr rfl) | cases h
theorem Cok.gl' (C : Cok W G lv P WX X) {x : Str} (h : glB P.sc x = true) : Gl X x := by
  show X.env.scope.names.lookup x = some .globalImplicit
  rw [C.sc]
  unfold glB at h
  cases e : P.sc.names.lookup x with
  | none => rw [e] at h; cases h
  | some k => rw [e] at h; cases k <;> first | rfl | cases h
theorem okN_inv {x : Str} (h : okN x = true) : (x == ("__debug__" : Str)) = false ∧ (x == ("__classdict__" : Str)) = false ∧ x ≠ "__name__" := by
  unfold okN at h
  simp only [Bool.and_eq_true, Bool.not_eq_true'] at h
  exact ⟨h.1.1, h.1.2, by simpa using h.2⟩
/-- the target of a store -/
theorem Cok.nm (C : Cok W G lv P WX X) {i : Nat} {x : Str} (h : nmB P i x = true) : X.N.Nodup ∧ X.N[i]? = some x ∧ L2.Loc X.env.scope x ∧ (X.fn x = true ∨ X.env.scope.names.lookup x = some .local) := by
  unfold nmB at h
  rw [Bool.and_eq_true, decide_eq_true_eq] at h
  obtain ⟨h1, h2⟩ := h
  refine ⟨by rw [C.N]; exact C.nd, by rw [C.N]; exact h1, ?_⟩
  rw [C.sc]
  unfold tgB at h2
  unfold L2.Loc
  cases e1 : P.os.names.lookup x with
  | none => rw [e1] at h2; cases h2
  | some k1 =>
    cases e2 : P.sc.names.lookup x with
    | none => rw [e1, e2] at h2; cases k1 <;> cases h2
    | some k2 =>
      rw [e1, e2] at h2
      cases k1 <;> first | (cases k2 <;> first | exact ⟨.inl rfl, .inr rfl⟩ | exact ⟨.inr rfl, .inl (C.fn x e1)⟩ | cases h2) | cases h2
end

noncomputable def SndE (c : E) : Prop := ∀ {W : Wd} {G : Gam} {lv : Nat} {P : Pl} {WX : L2.WX} {X : Cx}, Cok W G lv P WX X → ∀ e, chkE P c e = true → PE X e (Ter W (rV W) WX (wpE G c)) ∧ (tstB c = true → PT X e (Ter W rQ WX (wpT G c)))
noncomputable def SndEs (c : Es) : Prop := ∀ {W : Wd} {G : Gam} {lv : Nat} {P : Pl} {WX : L2.WX} {X : Cx}, Cok W G lv P WX X → ∀ vs, chkEs P c vs = true →
  (vs.all (fun e => !starB e) = true → PA X vs (Ter W (rA W) WX (wpEs G c))) ∧
  (vs ≠ [] → ∀ pos, PE X (.BoolOp .And vs pos) (Ter W (rV W) WX (wpAnd G c)) ∧ PE X (.BoolOp .Or vs pos) (Ter W (rV W) WX (wpOr G c)) ∧
    (tstsB c = true → PW X (.BoolOp .And vs pos) (Ter W rQ WX (fun σ h Q X => wpAnd G c σ h (fun x h1 => ∃ b, x = .bl b ∧ Q b h1) X)) ∧ PW X (.BoolOp .Or vs pos) (Ter W rQ WX (fun σ h Q X => wpOr G c σ h (fun x h1 => ∃ b, x = .bl b ∧ Q b h1) X))))
noncomputable def SndO (c : Oe) : Prop := ∀ {W : Wd} {G : Gam} {lv : Nat} {P : Pl} {WX : L2.WX} {X : Cx}, Cok W G lv P WX X → (∀ e, chkO P c e = true → PO X e (Ter W rQ WX (wpO G c))) ∧ (∀ e, chkC P c e = true → PTs X e (Ter W rQ WX (wpC G c)))
section
variable {W : Wd} {G : Gam} {lv : Nat} {P : Pl} {WX : L2.WX} {X : Cx}
/-- the plain tests follow from the value -/
theorem tst_of {c : E} {e : Expr} (h : PE X e (Ter W (rV W) WX (wpE G c))) (he : plainT e = true) : PT X e (Ter W rQ WX (wpT G c)) := by
  refine pt_imp (pt_val h (test_plain he)) fun σ H Q hq => ?_
  obtain ⟨φ, hd, σd, Qd, Xd, A, w, q, x⟩ := hq
  refine Ter.go A x w fun φ1 h1 H1 d v e1 A1 r1 w1 => ?_
  obtain ⟨b, rfl, w1⟩ := w1
  cases r1
  exact ⟨b, rfl, q φ1 h1 H1 b b e1 A1.sim rfl w1⟩
theorem ok_var (i : Nat) : SndE (.var i) := by
  intro W G lv P WX X C e h
  cases e with
  | Name x pos =>
    simp only [chkE, Bool.and_eq_true, decide_eq_true_eq] at h
    obtain ⟨⟨h1, h2⟩, h3⟩ := h
    obtain ⟨o1, o2, _⟩ := okN_inv h3
    have p : PE X (.Name x pos) (Ter W (rV W) WX (wpE G (.var i))) := by
      refine pe_imp (pe_var (i := i) (by rw [C.N]; exact h1) (C.vis h2) o1 o2) fun σ H Q hq => ?_
      obtain ⟨φ, hd, σd, Qd, Xd, A, ⟨d, hd', w⟩, q, x⟩ := hq
      obtain ⟨v, hv, r⟩ := A.st.get i d hd'
      exact ⟨v, hv, q φ hd H d v .refl A.sim r w⟩
    exact ⟨p, fun _ => tst_of p rfl⟩
  | _ => simp [chkE] at h
theorem ok_int (i : Int) : SndE (.int i) := by
  intro W G lv P WX X C e h
  cases e with
  | Constant k j pos =>
    cases k with
    | int m =>
      have h' : i = m := by simpa [chkE] using h
      subst h'
      have p : PE X (.Constant (.int i) j pos) (Ter W (rV W) WX (wpE G (.int i))) := pe_imp pe_int fun σ H Q hq => by
        obtain ⟨φ, hd, σd, Qd, Xd, A, w, q, x⟩ := hq
        exact q φ hd H _ _ .refl A.sim (.int i) w
      exact ⟨p, fun _ => tst_of p rfl⟩
    | _ => simp [chkE] at h
  | _ => simp [chkE] at h
theorem ok_bl (i : Bool) : SndE (.bl i) := by
  intro W G lv P WX X C e h
  cases e with
  | Constant k j pos =>
    cases k with
    | bool m =>
      have h' : i = m := by simpa [chkE] using h
      subst h'
      have p : PE X (.Constant (.bool i) j pos) (Ter W (rV W) WX (wpE G (.bl i))) := pe_imp pe_bl fun σ H Q hq => by
        obtain ⟨φ, hd, σd, Qd, Xd, A, w, q, x⟩ := hq
        exact q φ hd H _ _ .refl A.sim (.bl i) w
      exact ⟨p, fun _ => tst_of p rfl⟩
    | _ => simp [chkE] at h
  | _ => simp [chkE] at h
theorem ok_str (i : String) : SndE (.str i) := by
  intro W G lv P WX X C e h
  cases e with
  | Constant k j pos =>
    cases k with
    | str m =>
      have h' : m = Str.ofString i := by simpa [chkE] using h
      subst h'
      have p : PE X (.Constant (.str (Str.ofString i)) j pos) (Ter W (rV W) WX (wpE G (.str i))) := pe_imp pe_str fun σ H Q hq => by
        obtain ⟨φ, hd, σd, Qd, Xd, A, w, q, x⟩ := hq
        exact q φ hd H _ _ .refl A.sim (.str _) w
      exact ⟨p, fun _ => tst_of p rfl⟩
    | _ => simp [chkE] at h
  | _ => simp [chkE] at h
theorem ok_non : SndE .non := by
  intro W G lv P WX X C e h
  cases e with
  | Constant k j pos =>
    cases k with
    | none =>
      have p : PE X (.Constant .none j pos) (Ter W (rV W) WX (wpE G .non)) := pe_imp pe_non fun σ H Q hq => by
        obtain ⟨φ, hd, σd, Qd, Xd, A, w, q, x⟩ := hq
        exact q φ hd H _ _ .refl A.sim .non w
      exact ⟨p, fun _ => tst_of p rfl⟩
    | _ => simp [chkE] at h
  | _ => simp [chkE] at h
theorem ok_glob (n : String) : SndE (.glob n) := by
  intro W G lv P WX X C e h
  cases e with
  | Name y pos =>
    simp only [chkE, Bool.and_eq_true, decide_eq_true_eq] at h
    obtain ⟨⟨rfl, h2⟩, h3⟩ := h
    obtain ⟨o1, o2, _⟩ := okN_inv h3
    have p : PE X (.Name (Str.ofString n) pos) (Ter W (rV W) WX (wpE G (.glob n))) := by
      cases e : G.gl n with
      | none =>
        refine ⟨fun pins s σ H Q I hq => ?_⟩
        obtain ⟨φ, hd, σd, Qd, Xd, A, ⟨d, e1, w⟩, q, x⟩ := hq
        rw [e] at e1; cases e1
      | some d =>
        obtain ⟨u, v, hm, hr, rp⟩ := C.gl n d e
        refine pe_imp (pe_glob (C.gl' h2) hm hr o1) fun σ H Q hq => ?_
        obtain ⟨φ, hd, σd, Qd, Xd, A, ⟨d', e1, w⟩, q, x⟩ := hq
        rw [e] at e1; cases e1
        exact q φ hd H _ _ .refl A.sim (rp W φ H) w
    exact ⟨p, fun _ => tst_of p rfl⟩
  | _ => simp [chkE] at h
theorem ok_bin {m o a b} (ha : SndE a) (hb : SndE b) : SndE (.bin m o a b) := by
  intro W G lv P WX X C e h
  cases e with
  | BinOp a' o' b' pos =>
    simp only [chkE, Bool.and_eq_true] at h
    obtain ⟨⟨h1, h2⟩, h3⟩ := h
    have eo := opB_eq h1
    subst eo
    have p : PE X (.BinOp a' (opOf o) b' pos) (Ter W (rV W) WX (wpE G (.bin m o a b))) := pe_imp (pe_op (bop_ok (W := W) C.K m o) (ha C a' h2).1 (hb C b' h3).1) fun σ H Q hq => by
      obtain ⟨φ, hd, σd, Qd, Xd, A, w, q, x⟩ := hq
      exact Ter.go A x w fun φ1 h1 H1 d v e1 A1 r1 w1 => Ter.go A1 (x.ext e1) w1 fun φ2 h2 H2 d2 v2 e2 A2 r2 w2 => ⟨φ2, h2, d, d2, Qd, A2.sim, r1.ext e2, r2, w2, q.ext (e1.trans e2)⟩
    exact ⟨p, fun _ => tst_of p rfl⟩
  | _ => simp [chkE] at h
theorem ok_neg {a} (ha : SndE a) : SndE (.neg a) := by
  intro W G lv P WX X C e h
  cases e with
  | UnaryOp o' a' pos =>
    cases o' with
    | USub =>
      have h' : chkE P a a' = true := h
      have p : PE X (.UnaryOp .USub a' pos) (Ter W (rV W) WX (wpE G (.neg a))) := pe_imp (pe_un un_neg (ha C a' h').1) fun σ H Q hq => by
        obtain ⟨φ, hd, σd, Qd, Xd, A, w, q, x⟩ := hq
        refine Ter.go A x w fun φ1 h1 H1 d v e1 A1 r1 w1 => ?_
        obtain ⟨i, rfl, w1⟩ := w1
        cases r1
        exact ⟨i, rfl, q φ1 h1 H1 _ _ e1 A1.sim (.int _) w1⟩
      exact ⟨p, fun _ => tst_of p rfl⟩
    | _ => simp [chkE] at h
  | _ => simp [chkE] at h
theorem ok_not {a} (ha : SndE a) : SndE (.not a) := by
  intro W G lv P WX X C e h
  cases e with
  | UnaryOp o' a' pos =>
    cases o' with
    | Not =>
      have h' : chkE P a a' = true := h
      refine ⟨pe_imp (pe_not (ha C a' h').1) fun σ H Q hq => ?_, fun ht => pt_imp (pt_not ((ha C a' h').2 ht)) fun σ H Q hq => ?_⟩
      · obtain ⟨φ, hd, σd, Qd, Xd, A, w, q, x⟩ := hq
        refine Ter.go A x w fun φ1 h1 H1 d v e1 A1 r1 w1 => ?_
        obtain ⟨i, rfl, w1⟩ := w1
        cases r1
        exact ⟨i, rfl, q φ1 h1 H1 _ _ e1 A1.sim (.bl _) w1⟩
      · obtain ⟨φ, hd, σd, Qd, Xd, A, w, q, x⟩ := hq
        refine Ter.go (wa := wpT G a) (Qd1 := fun b h1 => Qd (!b) h1) A x ?_ fun φ1 h1 H1 d v e1 A1 r1 w1 => ?_
        · have w' : wpE G a σd hd (fun x h1 => ∃ b, x = .bl b ∧ (∃ b', D.bl (!b) = .bl b' ∧ Qd b' h1)) Xd := w
          have e : (fun (x : D) (h1 : Hd) => ∃ b, x = .bl b ∧ (∃ b', D.bl (!b) = .bl b' ∧ Qd b' h1)) = fun x h1 => ∃ b, x = .bl b ∧ Qd (!b) h1 := by
            funext x h1
            exact propext ⟨fun ⟨b, e, b', e2, z⟩ => ⟨b, e, by cases e2; exact z⟩, fun ⟨b, e, z⟩ => ⟨b, e, _, rfl, z⟩⟩
          rw [e] at w'
          exact w'
        · cases r1
          exact q φ1 h1 H1 _ _ e1 A1.sim rfl w1
    | _ => simp [chkE] at h
  | _ => simp [chkE] at h
theorem ok_cmp {o a b} (ha : SndE a) (hb : SndE b) : SndE (.cmp o a b) := by
  intro W G lv P WX X C e h
  cases e with
  | Compare a' os bs pos =>
    match os, bs, h with
    | [o'], [b'], h =>
      simp only [chkE, Bool.and_eq_true, Bool.not_eq_true'] at h
      obtain ⟨⟨⟨h1, h2⟩, h3⟩, h4⟩ := h
      have eo := cmB_eq h1
      subst eo
      have ho := cmp_ok (W := W) C.K C.hu o
      refine ⟨pe_imp (pe_cmpR ho (ha C a' h2).1 (hb C b' h3).1 (mark_plain h4)) fun σ H Q hq => ?_, fun _ => pt_imp (pt_cmpR ho (ha C a' h2).1 (hb C b' h3).1 (mark_plain h4)) fun σ H Q hq => ?_⟩
      · obtain ⟨φ, hd, σd, Qd, Xd, A, w, q, x⟩ := hq
        exact Ter.go A x w fun φ1 h1 H1 d v e1 A1 r1 w1 => Ter.go A1 (x.ext e1) w1 fun φ2 h2 H2 d2 v2 e2 A2 r2 w2 => ⟨φ2, h2, d, d2, Qd, A2.sim, r1.ext e2, r2, w2, q.ext (e1.trans e2)⟩
      · obtain ⟨φ, hd, σd, Qd, Xd, A, w, q, x⟩ := hq
        exact Ter.go A x w fun φ1 h1 H1 d v e1 A1 r1 w1 => Ter.go A1 (x.ext e1) w1 fun φ2 h2 H2 d2 v2 e2 A2 r2 w2 => ⟨φ2, h2, d, d2, fun z h' => ∃ b, z = .bl b ∧ Qd b h', A2.sim, r1.ext e2, r2, w2, fun φ3 h3 H3 d3 v3 e3 S3 r3 w3 => by
          obtain ⟨b, rfl, w3⟩ := w3
          cases r3
          exact ⟨b, rfl, q φ3 h3 H3 _ _ (e1.trans (e2.trans e3)) S3 rfl w3⟩⟩
    | [], _, h => simp [chkE] at h
    | [_], [], h => simp [chkE] at h
    | [_], _ :: _ :: _, h => simp [chkE] at h
    | _ :: _ :: _, _, h => simp [chkE] at h
  | _ => simp [chkE] at h
theorem ok_chain {o p a b c} (ha : SndE a) (hb : SndE b) (hc : SndE c) : SndE (.chain o p a b c) := by
  intro W G lv P WX X C e h
  cases e with
  | Compare a' os bs pos =>
    match os, bs, h with
    | [o', p'], [b', c'], h =>
      simp only [chkE, Bool.and_eq_true, Bool.not_eq_true'] at h
      obtain ⟨⟨⟨⟨⟨⟨h1, h2⟩, h3⟩, h4⟩, h5⟩, h6⟩, h7⟩ := h
      have eo := cmB_eq h1
      subst eo
      have ep := cmB_eq h2
      subst ep
      have ho := cmp_ok (W := W) C.K C.hu o
      have hp := cmp_ok (W := W) C.K C.hu p
      refine ⟨pe_imp (pe_chain ho hp (ha C a' h3).1 (hb C b' h4).1 (hc C c' h5).1 (mark_plain (op := cmOf p) h7)) fun σ H Q hq => ?_, fun _ => pt_imp (pt_chain ho hp (ha C a' h3).1 (hb C b' h4).1 (hc C c' h5).1 (mark_plain (op := cmOf p) h7)) fun σ H Q hq => ?_⟩
      · obtain ⟨φ, hd, σd, Qd, Xd, A, w, q, x⟩ := hq
        refine Ter.go A x w fun φ1 h1 H1 d v e1 A1 r1 w1 => Ter.go A1 (x.ext e1) w1 fun φ2 h2 H2 d2 v2 e2 A2 r2 w2 => ?_
        refine ⟨φ2, h2, d, d2, fun z h' => ∃ k, z = .bl k ∧ h' = h2 ∧ (if k = true then wpE G c σd h2 (fun z h3 => cmpW p d2 z h3 fun k' => Qd (.bl k') h3) Xd else Qd (.bl false) h2), A2.sim, r1.ext e2, r2, ?_, fun φ3 h3 H3 d3 v3 e3 S3 r3 w3 => ?_⟩
        · refine cast ?_ w2
          congr 1
          funext k
          exact propext ⟨fun z => ⟨k, rfl, rfl, z⟩, fun ⟨k', e, _, z⟩ => by cases e; exact z⟩
        · obtain ⟨k, rfl, rfl, w3⟩ := w3
          cases r3
          refine ⟨k, rfl, ?_⟩
          cases k with
          | true =>
            rw [if_pos rfl] at w3 ⊢
            exact Ter.go ⟨S3, A2.st.ext e3⟩ (x.ext (e1.trans (e2.trans e3))) w3 fun φ4 h4 H4 d4 v4 e4 A4 r4 w4 => ⟨φ4, h4, d2, d4, Qd, A4.sim, r2.ext (e3.trans e4), r4, w4, q.ext (e1.trans (e2.trans (e3.trans e4)))⟩
          | false =>
            rw [if_neg Bool.false_ne_true] at w3 ⊢
            exact q φ3 h3 H3 _ _ (e1.trans (e2.trans e3)) S3 (.bl _) w3
      · obtain ⟨φ, hd, σd, Qd, Xd, A, w, q, x⟩ := hq
        refine Ter.go A x w fun φ1 h1 H1 d v e1 A1 r1 w1 => Ter.go A1 (x.ext e1) w1 fun φ2 h2 H2 d2 v2 e2 A2 r2 w2 => ?_
        refine ⟨φ2, h2, d, d2, fun z h' => ∃ k, z = .bl k ∧ h' = h2 ∧ (if k = true then wpE G c σd h2 (fun z h3 => cmpW p d2 z h3 fun k' => ∃ b, D.bl k' = .bl b ∧ Qd b h3) Xd else ∃ b, D.bl false = .bl b ∧ Qd b h2), A2.sim, r1.ext e2, r2, ?_, fun φ3 h3 H3 d3 v3 e3 S3 r3 w3 => ?_⟩
        · refine cast ?_ w2
          congr 1
          funext k
          exact propext ⟨fun z => ⟨k, rfl, rfl, z⟩, fun ⟨k', e, _, z⟩ => by cases e; exact z⟩
        · obtain ⟨k, rfl, rfl, w3⟩ := w3
          cases r3
          refine ⟨k, rfl, ?_⟩
          cases k with
          | true =>
            rw [if_pos rfl] at w3 ⊢
            refine Ter.go ⟨S3, A2.st.ext e3⟩ (x.ext (e1.trans (e2.trans e3))) w3 fun φ4 h4 H4 d4 v4 e4 A4 r4 w4 => ⟨φ4, h4, d2, d4, fun z h' => ∃ b, z = .bl b ∧ Qd b h', A4.sim, r2.ext (e3.trans e4), r4, w4, fun φ5 h5 H5 d5 v5 e5 S5 r5 w5 => ?_⟩
            obtain ⟨b, rfl, w5⟩ := w5
            cases r5
            exact ⟨b, rfl, q φ5 h5 H5 _ _ (e1.trans (e2.trans (e3.trans (e4.trans e5)))) S5 rfl w5⟩
          | false =>
            rw [if_neg Bool.false_ne_true] at w3 ⊢
            obtain ⟨b, e, w3⟩ := w3
            cases e
            exact ⟨false, rfl, q φ3 h3 H3 _ _ (e1.trans (e2.trans e3)) S3 rfl w3⟩
    | [], _, h => simp [chkE] at h
    | [_], _, h => simp [chkE] at h
    | [_, _], [], h => simp [chkE] at h
    | [_, _], [_], h => simp [chkE] at h
    | [_, _], _ :: _ :: _ :: _, h => simp [chkE] at h
    | _ :: _ :: _ :: _, _, h => simp [chkE] at h
  | _ => simp [chkE] at h
end
end Vd

set_option Elab.async false
set_option linter.all false
set_option maxRecDepth 100000
set_option maxHeartbeats 4000000
namespace Vd
open PySem PySem.Spec PyProof.Rows L2
section
variable {W : Wd} {φ l : List Addr} {H H' : Hp}
mutual
theorem Rep.bd : ∀ {d v}, Rep W φ H d v → Bd φ.length d
  | _, _, .non => .non
  | _, _, .bl b => .bl b
  | _, _, .int i => .int i
  | _, _, .str x => .str x
  | _, _, .tup h n r => .tup (Reps.bd r)
  | _, _, .vl h n r => .vl (Reps.bd r)
  | _, _, .sv h r => .sv (Reps.bd r)
  | _, _, .vi h n c m r l => .vi (Reps.bd r)
  | _, _, .ref h => .ref (List.getElem?_eq_some_iff.mp h).1
theorem Reps.bd : ∀ {ds vs}, Reps W φ H ds vs → Bds φ.length ds
  | _, _, .nil => .nil
  | _, _, .cons a b => .cons (Rep.bd a) (Reps.bd b)
end
/-- fewer objects are known -/
theorem Off.sub {φ' : List Addr} {a : Addr} (hs : ∀ p ∈ φ', p ∈ φ) (n : Off W φ a) : Off W φ' a := ⟨fun z => n.1 (hs a z), n.2⟩
mutual
theorem Rep.sub {φ' : List Addr} (hs : ∀ p ∈ φ', p ∈ φ) (m : Nat) (hi : ∀ i, i < m → φ'[i]? = φ[i]?) : ∀ {d v}, Rep W φ H d v → Bd m d → Rep W φ' H d v
  | _, _, .non, _ => .non
  | _, _, .bl b, _ => .bl b
  | _, _, .int i, _ => .int i
  | _, _, .str x, _ => .str x
  | _, _, .tup h n r, .tup b => .tup h (n.sub hs) (Reps.sub hs m hi r b)
  | _, _, .vl h n r, .vl b => .vl h (n.sub hs) (Reps.sub hs m hi r b)
  | _, _, .sv h r, .sv b => .sv (by
      rcases h with ⟨h, n⟩ | h
      · exact .inl ⟨h, n.sub hs⟩
      · exact .inr h) (Reps.sub hs m hi r b)
  | _, _, .vi h n c m' r l, .vi b => .vi h (n.sub hs) c m' (Reps.sub hs m hi r b) l
  | _, _, .ref h, .ref b => .ref (by rw [hi _ b]; exact h)
theorem Reps.sub {φ' : List Addr} (hs : ∀ p ∈ φ', p ∈ φ) (m : Nat) (hi : ∀ i, i < m → φ'[i]? = φ[i]?) : ∀ {ds vs}, Reps W φ H ds vs → Bds m ds → Reps W φ' H ds vs
  | _, _, .nil, _ => .nil
  | _, _, .cons a b, .cons p q => .cons (Rep.sub hs m hi a p) (Reps.sub hs m hi b q)
end
theorem take_sub (φ : List Addr) (n : Nat) : (∀ p ∈ φ.take n, p ∈ φ) ∧ ∀ i, i < n → (φ.take n)[i]? = φ[i]? :=
  ⟨fun p h => List.mem_of_mem_take h, fun i h => by rw [List.getElem?_take_of_lt h]⟩
/-- frozen -/
theorem Off.take {hd : Hd} (S : Sim W φ hd H) {n r : Nat} {a : Addr} (hn : n ≤ r) (h : φ[r]? = some a) : Off W (φ.take n) a := by
  refine ⟨fun hm => ?_, fun hm => S.fbn a hm (List.mem_of_getElem? h)⟩
  obtain ⟨i, hi, e⟩ := List.getElem_of_mem hm
  obtain ⟨hr, er⟩ := List.getElem?_eq_some_iff.mp h
  have hi' : i < φ.length := by simp at hi; omega
  have e2 : φ[i] = φ[r] := by
    rw [List.getElem_take] at e
    rw [e, er]
  have := (List.getElem_inj S.nd).mp e2
  simp at hi
  omega
mutual
theorem Rep.fz {hd : Hd} {n : Nat} (S : Sim W φ hd H) : ∀ {d d' v}, Fz n hd d d' → Rep W φ H d v → Rep W (φ.take n) H d' v
  | _, _, _, .non, .non => .non
  | _, _, _, .bl _, .bl b => .bl b
  | _, _, _, .int _, .int b => .int b
  | _, _, _, .str _, .str b => .str b
  | _, _, _, .tup f, .tup h o r => .tup h (o.sub (take_sub φ n).1) (Reps.fz S f r)
  | _, _, _, .vl f, .vl h o r => .vl h (o.sub (take_sub φ n).1) (Reps.fz S f r)
  | _, _, _, .vi f, .vi h o c m r l => .vi h (o.sub (take_sub φ n).1) c m (Reps.fz S f r) l
  | _, _, _, .sv f, .sv h r => .sv (by
      rcases h with ⟨h, o⟩ | h
      · exact .inl ⟨h, o.sub (take_sub φ n).1⟩
      · exact .inr h) (Reps.fz S f r)
  | _, _, _, .old hr, .ref h => .ref (by rw [List.getElem?_take_of_lt hr]; exact h)
  | _, _, _, .lst (xs := xs) hr e f, .ref h => by
      obtain ⟨a, ha, vs, h1, h2⟩ := S.obj _ _ e
      rw [h] at ha; cases ha
      exact .vl h1 (Off.take S hr h) (Reps.fz S f h2)
  | _, _, _, .ins hr e f, .ref h => by
      obtain ⟨a, ha, C, dx, vs, h1, h2, h3, h4⟩ := S.obj _ _ e
      rw [h] at ha; cases ha
      exact .vi h1 (Off.take S hr h) h2 rfl (Reps.fz S f h3) h4
theorem Reps.fz {hd : Hd} {n : Nat} (S : Sim W φ hd H) : ∀ {ds ds' vs}, Fzs n hd ds ds' → Reps W φ H ds vs → Reps W (φ.take n) H ds' vs
  | _, _, _, .nil, .nil => .nil
  | _, _, _, .cons f g, .cons a b => .cons (Rep.fz S f a) (Reps.fz S g b)
end
theorem Sim.take {hd : Hd} {n : Nat} (S : Sim W φ hd H) (hb : ∀ o ∈ hd.take n, BdO n o) (hn : n ≤ hd.length) : Sim W (φ.take n) (hd.take n) H := by
  have hl : n ≤ φ.length := by rw [S.len]; exact hn
  refine ⟨by simp [S.len], S.nd.sublist (List.take_sublist _ _), S.fbt, fun a h z => S.fbn a h ((take_sub φ n).1 a z), fun m o h => ?_⟩
  have hm : m < n := by
    have := (List.getElem?_eq_some_iff.mp h).1
    simp at this; omega
  rw [List.getElem?_take_of_lt hm] at h
  obtain ⟨a, ha, r⟩ := S.obj m o h
  refine ⟨a, by rw [List.getElem?_take_of_lt hm]; exact ha, ?_⟩
  have hbo := hb o (List.mem_of_getElem? (show (hd.take n)[m]? = some o by rw [List.getElem?_take_of_lt hm]; exact h))
  have hlen : n ≤ (φ.take n).length := by simp; omega
  cases o with
  | lst xs => obtain ⟨vs, q1, q2⟩ := r; exact ⟨vs, q1, q2.sub (take_sub φ n).1 n (take_sub φ n).2 hbo⟩
  | ins c ns xs => obtain ⟨C, dx, vs, q1, q2, q3, q4⟩ := r; exact ⟨C, dx, vs, q1, q2, q3.sub (take_sub φ n).1 n (take_sub φ n).2 hbo, q4⟩
  | dk z kvs => obtain ⟨vs, q1, q2⟩ := r; exact ⟨vs, q1, q2.sub (take_sub φ n).1 n (take_sub φ n).2 hbo⟩
  | dt z kvs => obtain ⟨vs, q1, q2⟩ := r; exact ⟨vs, q1, q2.sub (take_sub φ n).1 n (take_sub φ n).2 hbo⟩
theorem Sim.bdo {hd : Hd} (S : Sim W φ hd H) : ∀ o ∈ hd, BdO hd.length o := by
  intro o ho
  obtain ⟨m, hm, e⟩ := List.getElem_of_mem ho
  obtain ⟨a, ha, r⟩ := S.obj m o (by rw [List.getElem?_eq_getElem hm, e])
  rw [← S.len]
  cases o with
  | lst xs => obtain ⟨vs, q1, q2⟩ := r; exact q2.bd
  | ins c ns xs => obtain ⟨C, dx, vs, q1, q2, q3, q4⟩ := r; exact q3.bd
  | dk z kvs => obtain ⟨vs, q1, q2⟩ := r; exact q2.bd
  | dt z kvs => obtain ⟨vs, q1, q2⟩ := r; exact q2.bd
/-- what holds behind a call -/
theorem Exit.ok {hd h' : Hd} {φ' : List Addr} {v : D} {vv : V} {Qd : DK} {Q : VK} (S0 : Sim W φ hd H) (e : Ext φ φ' H H') (S : Sim W φ' h' H') (r : Rep W φ' H' v vv) (x : Exit hd v h' Qd) (q : GOk W (rV W) φ H Qd Q) : Q vv H' := by
  obtain ⟨l, el, hl⟩ := e.pre
  have ht : φ'.take hd.length = φ := by rw [el, ← S0.len]; simp
  have pre : hd <+: h' → h'.take hd.length = hd := fun ⟨t, et⟩ => by rw [← et]; simp
  have e0 : Ext φ φ H H' := ⟨⟨[], by simp, by simp⟩, e.keep, e.there, e.frz⟩
  cases x with
  | raw w => exact q φ' h' H' v vv e S r w
  | pure f p w =>
    have hle : hd.length ≤ h'.length := p.length_le
    have S2 := S.take (n := hd.length) (by rw [pre p]; exact S0.bdo) hle
    rw [ht, pre p] at S2
    have r2 := Rep.fz S f r
    rw [ht] at r2
    exact q φ hd H' _ vv e0 S2 r2 w
  | keep f b w =>
    have hle : hd.length ≤ h'.length := by
      rw [← S0.len, ← S.len, el]; simp
    have S2 := S.take (n := hd.length) b hle
    rw [ht] at S2
    have r2 := Rep.fz S f r
    rw [ht] at r2
    exact q φ _ H' _ vv e0 S2 r2 w
  | @fresh r' xs ev hr ex b p w =>
    subst ev
    cases r with
    | @ref _ a ha =>
    obtain ⟨a', ha', vs, h1, h2⟩ := S.obj _ _ ex
    rw [ha] at ha'; cases ha'
    have hle : hd.length ≤ h'.length := p.length_le
    have hsub : ∀ p ∈ φ ++ [a], p ∈ φ' := fun p hp => by
      rcases List.mem_append.mp hp with z | z
      · rw [el]; exact List.mem_append_left _ z
      · have : p = a := by simpa using z
        rw [this]; exact List.mem_of_getElem? ha
    have hanφ : a ∉ φ := fun z => by
      have o := Off.take S hr ha
      rw [ht] at o
      exact o.1 z
    have old : ∀ m, m < φ.length → (φ ++ [a])[m]? = φ'[m]? := fun m hm => by
      rw [List.getElem?_append_left hm, el, List.getElem?_append_left hm]
    have rsub : ∀ {xs vs}, Bds hd.length xs → Reps W φ' H' xs vs → Reps W (φ ++ [a]) H' xs vs := fun {xs vs} hb rr => rr.sub hsub hd.length (fun i hi => old i (by rw [S0.len]; exact hi)) hb
    have han : H a = none := by
      have : a ∈ φ ++ l := by rw [← el]; exact List.mem_of_getElem? ha
      rcases List.mem_append.mp this with z | z
      · exact absurd z hanφ
      · exact hl a z
    have e1 : Ext φ (φ ++ [a]) H H' := ⟨⟨[a], rfl, by simpa using han⟩, e.keep, e.there, e.frz⟩
    have S1 : Sim W (φ ++ [a]) (hd ++ [.lst xs]) H' := by
      refine ⟨by simp [S0.len], ?_, S.fbt, fun c h z => S.fbn c h (hsub c z), fun m o h => ?_⟩
      · rw [List.nodup_append]
        refine ⟨S0.nd, by simp, fun c hc d hd' z => ?_⟩
        have : d = a := by simpa using hd'
        exact hanφ (by rw [← this, ← z]; exact hc)
      · by_cases hm : m < hd.length
        · rw [List.getElem?_append_left hm] at h
          have h2 : h'[m]? = some o := by
            obtain ⟨t, et⟩ := p
            rw [← et, List.getElem?_append_left hm]; exact h
          obtain ⟨c, hc, rr⟩ := S.obj m o h2
          have hb := S0.bdo o (List.mem_of_getElem? h)
          refine ⟨c, by rw [old m (by rw [S0.len]; exact hm)]; exact hc, ?_⟩
          cases o with
          | lst ys => obtain ⟨us, q1, q2⟩ := rr; exact ⟨us, q1, rsub hb q2⟩
          | ins cc ns ys => obtain ⟨C, dx, us, q1, q2, q3, q4⟩ := rr; exact ⟨C, dx, us, q1, q2, rsub hb q3, q4⟩
          | dk z kvs => obtain ⟨us, q1, q2⟩ := rr; exact ⟨us, q1, rsub hb q2⟩
          | dt z kvs => obtain ⟨us, q1, q2⟩ := rr; exact ⟨us, q1, rsub hb q2⟩
        · have em : m = hd.length := by
            have := (List.getElem?_eq_some_iff.mp h).1
            simp at this; omega
          subst em
          simp at h
          subst h
          exact ⟨a, by rw [← S0.len]; simp, vs, h1, rsub b h2⟩
    exact q (φ ++ [a]) _ H' _ _ e1 S1 (.ref (by rw [← S0.len]; simp)) w
end

end Vd

set_option Elab.async false
set_option linter.all false
set_option maxRecDepth 100000
set_option maxHeartbeats 2000000
namespace Vd
open PySem PySem.Spec PyProof.Rows L2
section
variable {W : Wd} {G : Gam} {lv : Nat} {P : Pl} {WX : L2.WX} {X : Cx}
theorem ok_ife {c a b} (hc : SndE c) (ha : SndE a) (hb : SndE b) : SndE (.ife c a b) := by
  intro W G lv P WX X C e h
  cases e with
  | IfExp c' a' b' pos =>
    simp only [chkE, Bool.and_eq_true] at h
    obtain ⟨⟨⟨h1, h2⟩, h3⟩, h4⟩ := h
    refine ⟨pe_imp (pe_ifExp ((hc C c' h1).2 h2) (ha C a' h3).1 (hb C b' h4).1) fun σ H Q hq => ?_, fun ht => by simp [tstB] at ht⟩
    obtain ⟨φ, hd, σd, Qd, Xd, A, w, q, x⟩ := hq
    refine Ter.go (wa := wpT G c) (Qd1 := fun k h1 => if k = true then wpE G a σd h1 Qd Xd else wpE G b σd h1 Qd Xd) A x w fun φ1 h1 H1 d v e1 A1 r1 w1 => ?_
    cases r1
    cases d with
    | true =>
      rw [if_pos rfl] at w1 ⊢
      exact Ter.go A1 (x.ext e1) w1 fun φ2 h2 H2 d2 v2 e2 A2 r2 w2 => q φ2 h2 H2 _ _ (e1.trans e2) A2.sim r2 w2
    | false =>
      rw [if_neg Bool.false_ne_true] at w1 ⊢
      exact Ter.go A1 (x.ext e1) w1 fun φ2 h2 H2 d2 v2 e2 A2 r2 w2 => q φ2 h2 H2 _ _ (e1.trans e2) A2.sim r2 w2
  | _ => simp [chkE] at h
theorem nostar {es : Es} {vs : List Expr} (h : chkEs P es vs = true) : vs.all (fun e => !starB e) = true := by
  have one : ∀ (c : E) (e : Expr), chkE P c e = true → starB e = false := fun c e h => by
    cases e <;> first | rfl | (cases c <;> simp [chkE] at h)
  induction vs generalizing es with
  | nil => rfl
  | cons v vs ih =>
    cases es with
    | nil => simp [chkEs] at h
    | cons e r =>
      simp only [chkEs, Bool.and_eq_true] at h
      rw [List.all_cons, one e v h.1, ih h.2]; rfl
theorem ok_tup {es} (hs : SndEs es) : SndE (.tup es) := by
  intro W G lv P WX X C e h
  cases e with
  | Tuple vs k pos =>
    have h' : chkEs P es vs = true := h
    have p : PE X (.Tuple vs k pos) (Ter W (rV W) WX (wpE G (.tup es))) := pe_imp (pe_tup ((hs C vs h').1 (nostar h'))) fun σ H Q hq => by
      obtain ⟨φ, hd, σd, Qd, Xd, A, w, q, x⟩ := hq
      refine Ter.go A x w fun φ1 h1 H1 d v e1 A1 r1 w1 => ⟨by rw [← r1.len]; exact w1.1, mkT_ok A1.sim r1 (q.ext e1) w1.2⟩
    exact ⟨p, fun _ => tst_of p rfl⟩
  | _ => simp [chkE] at h
theorem ok_lst {m es} (hs : SndEs es) : SndE (.lst m es) := by
  intro W G lv P WX X C e h
  cases e with
  | List vs pos =>
    have h' : chkEs P es vs = true := h
    have p : PE X (.List vs pos) (Ter W (rV W) WX (wpE G (.lst m es))) := pe_imp (pe_lst ((hs C vs h').1 (nostar h'))) fun σ H Q hq => by
      obtain ⟨φ, hd, σd, Qd, Xd, A, w, q, x⟩ := hq
      exact Ter.go A x w fun φ1 h1 H1 d v e1 A1 r1 w1 => mkL_ok A1.sim r1 (q.ext e1) w1
    exact ⟨p, fun _ => tst_of p rfl⟩
  | _ => simp [chkE] at h
theorem ok_idx {a i} (ha : SndE a) (hi : SndE i) : SndE (.idx a i) := by
  intro W G lv P WX X C e h
  cases e with
  | Subscript a' i' pos =>
    simp only [chkE, Bool.and_eq_true, Bool.not_eq_true'] at h
    obtain ⟨⟨h1, h2⟩, h3⟩ := h
    have p : PE X (.Subscript a' i' pos) (Ter W (rV W) WX (wpE G (.idx a i))) := pe_imp (pe_ix (ix_ok (W := W) C.K) (ha C a' h2).1 (hi C i' h3).1 (ix_plain h1)) fun σ H Q hq => by
      obtain ⟨φ, hd, σd, Qd, Xd, A, w, q, x⟩ := hq
      exact Ter.go A x w fun φ1 h1 H1 d v e1 A1 r1 w1 => Ter.go A1 (x.ext e1) w1 fun φ2 h2 H2 d2 v2 e2 A2 r2 w2 => ⟨φ2, h2, d, d2, Qd, A2.sim, r1.ext e2, r2, w2, q.ext (e1.trans e2)⟩
    exact ⟨p, fun _ => tst_of p rfl⟩
  | _ => simp [chkE] at h
theorem ok_slc {m a lo hi} (ha : SndE a) (hl : SndO lo) (hh : SndO hi) : SndE (.slc m a lo hi) := by
  intro W G lv P WX X C e h
  cases e with
  | Subscript a' i' pos =>
    cases i' with
    | Slice lo' hi' st p2 =>
      cases st with
      | some _ => simp [chkE] at h
      | none =>
        simp only [chkE, Bool.and_eq_true, Bool.not_eq_true'] at h
        obtain ⟨⟨h1, h2⟩, h3⟩ := h
        have p : PE X (.Subscript a' (.Slice lo' hi' none p2) pos) (Ter W (rV W) WX (wpE G (.slc m a lo hi))) := pe_imp (pe_slice (sl_ok (W := W) C.K m) (ha C a' h1).1 ((hl C).1 lo' h2) ((hh C).1 hi' h3)) fun σ H Q hq => by
          obtain ⟨φ, hd, σd, Qd, Xd, A, w, q, x⟩ := hq
          refine Ter.go A x w fun φ1 h1 H1 d v e1 A1 r1 w1 => Ter.go A1 (x.ext e1) w1 fun φ2 h2 H2 d2 v2 e2 A2 r2 w2 => ?_
          cases r2
          refine Ter.go A2 (x.ext (e1.trans e2)) w2 fun φ3 h3 H3 d3 v3 e3 A3 r3 w3 => ?_
          cases r3
          exact ⟨φ3, h3, d, Qd, A3.sim, r1.ext (e2.trans e3), w3, q.ext (e1.trans (e2.trans e3))⟩
        exact ⟨p, fun _ => tst_of p rfl⟩
    | _ => simp [chkE] at h
  | _ => simp [chkE] at h
/-- xs[lo::c] -/
theorem vals_fm {xs : List V} {its : List Value} (r : Vals xs its) : ∀ ks : List Nat, Vals (ks.filterMap (xs[·]?)) (ks.filterMap (its[·]?))
  | [] => .nil
  | k :: ks => by
    have hl := r.length
    cases hx : xs[k]? with
    | none =>
      have hk : its[k]? = none := by
        rw [List.getElem?_eq_none_iff] at hx ⊢
        omega
      simp only [List.filterMap_cons, hx, hk]
      exact vals_fm r ks
    | some x =>
      obtain ⟨u, hu, ru⟩ := r.get hx
      simp only [List.filterMap_cons, hx, hu]
      exact .cons ru (vals_fm r ks)
theorem reps_fm {W : Wd} {φ : List Addr} {H : Hp} {xs : List D} {vs : List V} (r : Reps W φ H xs vs) : ∀ ks : List Nat, Reps W φ H (ks.filterMap (xs[·]?)) (ks.filterMap (vs[·]?))
  | [] => .nil
  | k :: ks => by
    have hl := r.len
    cases hx : xs[k]? with
    | none =>
      have hk : vs[k]? = none := by
        rw [List.getElem?_eq_none_iff] at hx ⊢
        omega
      simp only [List.filterMap_cons, hx, hk]
      exact reps_fm r ks
    | some x =>
      obtain ⟨u, hu, ru⟩ := r.get hx
      simp only [List.filterMap_cons, hx, hu]
      exact .cons ru (reps_fm r ks)
noncomputable def tStpL (K : PySem.W.Frag) (lo c : Nat) (te : TE) : TE := fun σ H Q => te σ H fun x H1 => ∃ a xs, x = .ref a ∧ SqL K H1 a xs ∧ (stpL xs lo c).length ≤ sizeLine ∧ ∀ p, H1 p = none → Q (.ref p) (upd H1 p (.lst (stpL xs lo c)))
theorem pe_stpL {X : Cx} {e : Expr} {lo' : Option Expr} {te : TE} {tlo : TO} {k lo c : Nat} {l : Option Int} {p1 p3 pos : Pos} (he : PE X e te) (hlo : PO X lo' tlo) (ht : ∀ σ H, tlo σ H fun o H2 => o = l ∧ H2 = H) (hc : 0 < c) (hl : l.getD 0 = (lo : Int)) : PE X (.Subscript e (.Slice lo' none (some (.Constant (.int (c : Int)) k p1)) p3) pos) (tStpL X.K lo c te) := by
  refine ⟨fun pins s σ H Q I h => ?_⟩
  refine Subscript_ (thn (he.run pins s σ H _ I h) fun v s1 ⟨x, H1, I1, r1, q1⟩ => ?_)
  obtain ⟨a, xs, ex, hx, hsz, q⟩ := q1
  subst ex
  cases r1
  have hst : PO X (some (.Constant (.int (c : Int)) k p1)) (tPart (tC (.int (c : Int)))) := po_some pe_int
  refine wpAny_Slice (thn (hlo.run pins s1 σ H1 (fun o H2 => o = l ∧ H2 = H1) I1 (ht σ H1)) fun vl s2 ⟨l', H2, I2, pl, el, e2⟩ => ?_)
  subst el e2
  refine thn (po_none.run pins s2 σ H2 (fun o H3 => o = none ∧ H3 = H2) I2 ⟨rfl, rfl⟩) fun vu s3 ⟨u, H3, I3, pu, eu, e3⟩ => ?_
  subst eu e3
  refine thn (hst.run pins s3 σ H3 (fun o H4 => o = some (c : Int) ∧ H4 = H3) I3 ⟨_, rfl, rfl, rfl⟩) fun vs s4 ⟨o, H4, I4, ps, eo, e4⟩ => ?_
  subst eo e4
  have I5 : Inv X pins σ H4 { s4 with heap := s4.heap.push { cls := .type "slice", data := .fields #[vl, vu, vs] } } := I4.kept (t' := s4.toks) fun b ob q => Heap.get?_push_of_some _ q
  obtain ⟨its, r, ht, hz⟩ := I5.list hx
  have hlen := r.length
  show wpAny (model X.prog X.w) X.A (subscriptTail e (.Slice lo' none (some (.Constant (.int (c : Int)) k p1)) p3) (.ref a) (.ref s4.heap.objs.size)) (EP X pins σ Q) X.xe { s4 with heap := s4.heap.push { cls := .type "slice", data := .fields #[vl, vu, vs] } }
  refine tail_any (ops := [.ref a, .ref s4.heap.objs.size]) ht.isList.typeIs (PySem.slot_list_getitem.lookup) ?_ (by with_unfolding_all rfl)
  refine wpAny_getItem_list_slice ht.isList (Heap.IsSliceOf.new _ vl vu vs) pl pu ps (by simp; omega) ?_ (by rw [List.size_toArray]; omega)
  have hp : slicePick its.toArray l' none (some (c : Int)) = (stpL its lo c).toArray := by
    unfold slicePick stpL
    have hb : sliceBounds l' none (some (c : Int)) its.toArray.size = (max 0 (min (lo : Int) its.length), (its.length : Int), (c : Int)) := by
      have hc' : (c : Int) > 0 := by omega
      cases l' with
      | none =>
        have : (lo : Int) = 0 := by simpa using hl.symm
        simp [sliceBounds, hc', this]
        omega
      | some i =>
        have : i = (lo : Int) := by simpa using hl
        subst this
        have : ¬ ((lo : Int) < 0) := by omega
        have hc0 : c ≠ 0 := by omega
        simp [sliceBounds, this, hc0]
    have hf : (fun i : Nat => its.toArray[i]?) = fun i : Nat => its[i]? := by funext i; simp
    rw [hb]
    show ((sliceRange _ _ _).filterMap (fun i : Nat => its.toArray[i]?)).toArray = _
    rw [hf]
  rw [hp]
  have hvr : Vals (stpL xs lo c) (stpL its lo c) := by
    unfold stpL
    rw [hlen]
    exact vals_fm r _
  refine ⟨.ref _, _, I5.laid (t' := s4.toks) (o := .lst (stpL xs lo c)) (fun b ob q => Heap.get?_push_of_some _ q) (Nat.le_refl _) ?_, rfl, q _ (I5.hok.fresh (Nat.le_refl _))⟩
  exact ⟨hsz, _, 0, hvr, Heap.get?_push_size _ rfl⟩
theorem ok_stp {a lo c} (ha : SndE a) : SndE (.stp a lo c) := by
  intro W G lv P WX X C e h
  cases e with
  | Subscript a' i' pos =>
    cases i' with
    | Slice lo' hi' st p2 =>
      cases hi' with
      | some _ => simp [chkE] at h
      | none =>
      cases st with
      | none => simp [chkE] at h
      | some st =>
      cases st with
      | Constant cv j p3 =>
        cases cv with
        | int c' =>
          simp only [chkE, Bool.and_eq_true, decide_eq_true_eq] at h
          obtain ⟨⟨⟨h1, h2⟩, h3⟩, h4⟩ := h
          subst h2
          have fin : ∀ {tlo : TO} {l : Option Int}, PO X lo' tlo → (∀ σ H, tlo σ H fun o H2 => o = l ∧ H2 = H) → l.getD 0 = (lo : Int) → PE X (.Subscript a' (.Slice lo' none (some (.Constant (.int (c : Int)) j p3)) p2) pos) (Ter W (rV W) WX (wpE G (.stp a lo c))) := fun hlo ht hl => pe_imp (pe_stpL (ha C a' h1).1 hlo ht h3 hl) fun σ H Q hq => by
            obtain ⟨φ, hd, σd, Qd, Xd, A, w, q, x⟩ := hq
            refine Ter.go A x w fun φ1 h1 H1 d v e1 A1 r1 w1 => ?_
            obtain ⟨xs, e2, w1⟩ := w1
            obtain ⟨p, vs, rfl, hq, rs⟩ := rdL_ok A1.sim r1 e2
            have hr : Reps W φ1 H1 (stpL xs lo c) (stpL vs lo c) := by
              unfold stpL
              rw [rs.len]
              exact reps_fm rs _
            have z := mkL_ok A1.sim hr (q.ext e1) w1
            exact ⟨p, vs, rfl, by rw [C.K]; exact hq, z.1, z.2⟩
          have p : PE X (.Subscript a' (.Slice lo' none (some (.Constant (.int (c : Int)) j p3)) p2) pos) (Ter W (rV W) WX (wpE G (.stp a lo c))) := by
            split at h4
            · exact fin po_none (l := none) (fun σ H => ⟨rfl, rfl⟩) (by have := of_decide_eq_true h4; show (0 : Int) = lo; omega)
            · rename_i l _ _
              exact fin (po_some pe_int) (l := some l) (fun σ H => ⟨_, rfl, rfl, rfl⟩) (of_decide_eq_true h4)
            · cases h4
          exact ⟨p, fun _ => tst_of p rfl⟩
        | _ => simp [chkE] at h
      | _ => simp [chkE] at h
    | _ => simp [chkE] at h
  | _ => simp [chkE] at h
theorem ok_call {f es} (hs : SndEs es) : SndE (.call f es) := by
  intro W G lv P WX X C e h
  cases e with
  | Call fn args kws pos =>
    match fn, args, kws, h with
    | .Name x p, v :: vs, [], h =>
      simp only [chkE, Bool.and_eq_true, decide_eq_true_eq] at h
      obtain ⟨⟨⟨⟨⟨hc, rfl⟩, h2⟩, h3⟩, h4⟩, h5⟩ := h
      have pr : PE X (.Call (.Name (Str.ofString f) p) (v :: vs) [] pos) (Ter W (rV W) WX (wpE G (.call f es))) := by
        cases ef : G.isFn f with
        | false =>
          refine ⟨fun pins s σ H Q I hq => ?_⟩
          obtain ⟨φ, hd, σd, Qd, Xd, A, ⟨w, _⟩, q, x⟩ := hq
          rw [ef] at w; cases w
        | true =>
          obtain ⟨fa, fd, ps, hm, hk, hb, F⟩ := C.fns hc f ef
          have h4' : starB v = false ∧ vs.all (fun e => !starB e) = true := by
            rw [List.all_cons, Bool.and_eq_true] at h4
            exact ⟨by simpa using h4.1, h4.2⟩
          refine pe_imp (pe_callS F (C.room hc) (C.gl' h2) hm hk hb (fun σ => passAt C.tk σ) ((hs C (v :: vs) h5).1 h4) (okN_inv h3).1 (star_cons h4'.1) (star_any h4'.2)) fun σ H Q hq => ?_
          obtain ⟨φ, hd, σd, Qd, Xd, A, ⟨_, w⟩, q, x⟩ := hq
          exact Ter.go A x w fun φ1 h1 H1 d v e1 A1 r1 w1 => ⟨W.fb, φ1, h1, d, Qd, Xd, A1.sim, r1, w1, q.ext e1, x.ext e1⟩
      exact ⟨pr, fun _ => tst_of pr rfl⟩
    | .Name x p, [], _, h => simp [chkE] at h
    | .Name x p, _ :: _, _ :: _, h => simp [chkE] at h
    | .BoolOp .., _, _, h => simp [chkE] at h
    | .NamedExpr .., _, _, h => simp [chkE] at h
    | .BinOp .., _, _, h => simp [chkE] at h
    | .UnaryOp .., _, _, h => simp [chkE] at h
    | .Lambda .., _, _, h => simp [chkE] at h
    | .IfExp .., _, _, h => simp [chkE] at h
    | .Dict .., _, _, h => simp [chkE] at h
    | .Set .., _, _, h => simp [chkE] at h
    | .ListComp .., _, _, h => simp [chkE] at h
    | .SetComp .., _, _, h => simp [chkE] at h
    | .DictComp .., _, _, h => simp [chkE] at h
    | .GeneratorExp .., _, _, h => simp [chkE] at h
    | .Await .., _, _, h => simp [chkE] at h
    | .Yield .., _, _, h => simp [chkE] at h
    | .YieldFrom .., _, _, h => simp [chkE] at h
    | .Compare .., _, _, h => simp [chkE] at h
    | .Call .., _, _, h => simp [chkE] at h
    | .FormattedValue .., _, _, h => simp [chkE] at h
    | .JoinedStr .., _, _, h => simp [chkE] at h
    | .Constant .., _, _, h => simp [chkE] at h
    | .Attribute .., _, _, h => simp [chkE] at h
    | .Subscript .., _, _, h => simp [chkE] at h
    | .Starred .., _, _, h => simp [chkE] at h
    | .List .., _, _, h => simp [chkE] at h
    | .Tuple .., _, _, h => simp [chkE] at h
    | .Slice .., _, _, h => simp [chkE] at h
  | _ => simp [chkE] at h
end
end Vd

set_option Elab.async false
set_option linter.all false
set_option maxRecDepth 100000
set_option maxHeartbeats 2000000
namespace Vd
open PySem PySem.Spec PyProof.Rows L2
theorem ofString_inj {a b : String} (h : Str.ofString a = Str.ofString b) : a = b := by
  rw [Str.ofString_eq_toList, Str.ofString_eq_toList] at h
  injection h with h
  have h2 : a.toList.map Char.toNat = b.toList.map Char.toNat := by simpa using h
  have inj : ∀ {x y : Char}, x.toNat = y.toNat → x = y := fun {x y} e => Char.ext (UInt32.toNat_inj.mp e)
  have h3 : a.toList = b.toList := by
    generalize a.toList = as at h2
    generalize b.toList = bs at h2
    induction as generalizing bs with
    | nil => cases bs with
      | nil => rfl
      | cons => simp at h2
    | cons x xs ih => cases bs with
      | nil => simp at h2
      | cons y ys =>
        simp only [List.map_cons, List.cons.injEq] at h2
        rw [inj h2.1, ih ys h2.2]
  exact String.toList_inj.mp h3
section
variable {W : Wd} {G : Gam} {lv : Nat} {P : Pl} {WX : L2.WX} {X : Cx} {φ : List Addr} {hd : Hd} {H : Hp}
theorem flook_rep {ns xs vs f d} (r : Reps W φ H xs vs) (l : ns.length = vs.length) (h : flook ns xs f = some d) : ∃ v, ((ns.map Str.ofString).zip vs).lookup (Str.ofString f) = some v ∧ Rep W φ H d v := by
  induction ns generalizing xs vs with
  | nil => simp [flook] at h
  | cons n ns ih =>
    cases r with
    | nil => simp at l
    | @cons x v xs vs a b =>
      simp only [flook] at h
      show ∃ w, List.lookup (Str.ofString f) ((Str.ofString n, v) :: (ns.map Str.ofString).zip vs) = some w ∧ _
      by_cases e : n = f
      · subst e
        rw [if_pos rfl] at h
        cases h
        exact ⟨v, by simp [List.lookup_cons], a⟩
      · rw [if_neg e] at h
        have ne : (Str.ofString f == Str.ofString n) = false := by
          rw [beq_eq_false_iff_ne]
          exact fun z => e (ofString_inj z).symm
        rw [List.lookup_cons, ne]
        exact ih b (by simpa using l) h
theorem fld_inv {a : E} {f : String} {e : Expr} (h : chkE P (.fld a f) e = true) : ∃ a' g pos, e = .Attribute a' g pos ∧ (decide (g = Str.ofString f) && baseB a' && chkE P a a') = true := by
  unfold chkE at h
  split at h <;> first | (rename_i q; cases q; done) | (injections; subst_vars; exact ⟨_, _, _, rfl, h⟩) | cases h
theorem ok_fld {a f} (ha : SndE a) : SndE (.fld a f) := by
  intro W G lv P WX X C e h
  obtain ⟨a', g, pos, rfl, k⟩ := fld_inv h
  simp only [Bool.and_eq_true, decide_eq_true_eq] at k
  obtain ⟨⟨rfl, h2⟩, h3⟩ := k
  have p : PE X (.Attribute a' (Str.ofString f) pos) (Ter W (rV W) WX (wpE G (.fld a f))) := pe_imp (pe_fld (ha C a' h3).1 (base_plain h2)) fun σ H Q hq => by
    obtain ⟨φ, hd, σd, Qd, Xd, A, w, q, x⟩ := hq
    refine Ter.go A x w fun φ1 h1 H1 d v e1 A1 r1 w1 => ?_
    obtain ⟨c, ns, vs, y, e, hf, l, w1⟩ := w1
    have fin : ∀ {C' dx ws} {p : Addr}, H1 p = some (.ins C' dx ((ns.map Str.ofString).zip ws)) → clOf W.mg c = some C' → Reps W φ1 H1 vs ws → ns.length = ws.length → v = .ref p →
        ∃ a C dx fs v', v = .ref a ∧ H1 a = some (.ins C dx fs) ∧ Cls X.K C ∧ NoAttr X.K C (Str.ofString f) ∧ fs.lookup (Str.ofString f) = some v' ∧ Q v' H1 := by
      intro C' dx ws p e2 hc rs ll ev
      obtain ⟨k1, k2⟩ := C.fld c f hf C' hc
      obtain ⟨v', l1, l2⟩ := flook_rep rs ll l
      exact ⟨p, C', dx, _, v', ev, e2, k1, k2, l1, q φ1 h1 H1 _ _ e1 A1.sim l2 w1⟩
    cases r1 with
    | vi e2 n hc ef rs ll =>
      cases e
      subst ef
      exact fin e2 hc rs ll rfl
    | @ref n p hp =>
      have e : (match h1[n]? with
        | some (.ins c ns vs) => some (c, ns, vs)
        | _ => none) = some (c, ns, vs) := e
      cases o : h1[n]? with
      | none => rw [o] at e; cases e
      | some ob =>
        rw [o] at e
        cases ob with
        | lst => cases e
        | dk => cases e
        | dt => cases e
        | ins c' ns' vs' =>
          cases e
          obtain ⟨b, hb, C', dx, ws, e2, hc, rs, ll⟩ := A1.sim.obj _ _ o
          rw [hp] at hb; cases hb
          exact fin e2 hc rs ll rfl
    | _ => cases e
  exact ⟨p, fun _ => tst_of p rfl⟩

theorem pe_callV {x : Str} {v : Value} {r : List V → Hp → VK → Prop} {e : Expr} {es : List Expr} {t : TA} {p pos : Pos} (hv : (∃ id, v = .builtin id) ∨ ∃ T, v = .type T) (hc : CallR X v r) (hg : Gl X x) (hm : X.mg x = none) (hb : bootBuiltins x = some v) (ha : PA X (e :: es) t)
    (hn : x ≠ "__name__") (hdb : (x == ("__debug__" : Str)) = false) (he : starEach (e :: es) X.env = (false, eval e X.env) :: starEach es X.env) (hpl : (backTo pos (starEach es X.env)).any (·.1) = false) : PE X (.Call (.Name x p) (e :: es) [] pos) (tCB r t) := by
  rcases hv with ⟨id, rfl⟩ | ⟨T, rfl⟩
  · exact pe_callB hc hg hm hb ha hn hdb he hpl
  · exact pe_callTy hc hg hm hb ha hn hdb he hpl
theorem biV_kind {f v} (h : biV f = some v) : (∃ id, v = .builtin id) ∨ ∃ T, v = .type T := by
  unfold biV at h
  split at h <;> first | (cases h; exact .inl ⟨_, rfl⟩) | (cases h; exact .inr ⟨_, rfl⟩) | cases h
theorem bi_inv {f : String} {m : Bool} {es : Es} {e : Expr} (h : chkE P (.bi f m es) e = true) : ∃ x p v vs pos, e = .Call (.Name x p) (v :: vs) [] pos ∧
    (P.cm && decide (x = Str.ofString f) && glB P.sc x && okN x && (biV f).isSome && (v :: vs).all (fun e => !starB e) && chkEs P es (v :: vs)) = true := by
  unfold chkE at h
  split at h <;> first | (rename_i q; cases q; done) | (injections; subst_vars; exact ⟨_, _, _, _, _, rfl, h⟩) | cases h
theorem ok_bi {f m es} (hs : SndEs es) : SndE (.bi f m es) := by
  intro W G lv P WX X C e h
  obtain ⟨x, p, v, vs, pos, rfl, k⟩ := bi_inv h
  simp only [Bool.and_eq_true, decide_eq_true_eq] at k
  obtain ⟨⟨⟨⟨⟨⟨hc, rfl⟩, h2⟩, h3⟩, hb⟩, h4⟩, h5⟩ := k
  obtain ⟨bv, hbv⟩ := Option.isSome_iff_exists.mp hb
  have h4' : starB v = false ∧ vs.all (fun e => !starB e) = true := by
    rw [List.all_cons, Bool.and_eq_true] at h4
    exact ⟨by simpa using h4.1, h4.2⟩
  have pr : PE X (.Call (.Name (Str.ofString f) p) (v :: vs) [] pos) (Ter W (rV W) WX (wpE G (.bi f m es))) :=
    pe_imp (pe_callV (biV_kind hbv) (bi_ok (W := W) C.K (C.calm hc) m f bv hbv) (C.gl' h2) (C.bn f bv hbv) (biV_boot hbv) ((hs C (v :: vs) h5).1 h4) (okN_inv h3).2.2 (okN_inv h3).1 (star_cons h4'.1) (star_any h4'.2)) fun σ H Q hq => by
      obtain ⟨φ, hd, σd, Qd, Xd, A, w, q, x⟩ := hq
      exact Ter.go A x w fun φ1 h1 H1 d v e1 A1 r1 w1 => ⟨φ1, h1, d, Qd, A1.sim, r1, w1, q.ext e1⟩
  exact ⟨pr, fun _ => tst_of pr rfl⟩

theorem ok_mdef {mx a} (ha : SndE a) : SndE (.mdef mx a) := by
  intro W G lv P WX X C e h
  obtain ⟨x, p, v, k, j, p2, kp, pos, rfl, hh⟩ : ∃ x p v k j p2 kp pos, e = .Call (.Name x p) [v] [⟨some k, .Constant .none j p2, kp⟩] pos ∧ (P.cm && decide (x = Str.ofString (if mx = true then "max" else "min")) && glB P.sc x && okN x && !starB v && decide (k = Str.ofString "default") && chkE P a v) = true := by
    unfold chkE at h
    split at h <;> first | (rename_i q; cases q; done) | (injections; subst_vars; exact ⟨_, _, _, _, _, _, _, _, rfl, h⟩) | cases h
  simp only [Bool.and_eq_true, decide_eq_true_eq, Bool.not_eq_true'] at hh
  obtain ⟨⟨⟨⟨⟨⟨hc, rfl⟩, h2⟩, h3⟩, h4⟩, rfl⟩, h5⟩ := hh
  have ck : CallRK X (.builtin (if mx = true then "max" else "min")) ["default"] (rMd X.K mx) := by
    cases mx with
    | true => exact cr_maxd (C.calm hc)
    | false => exact cr_mind (C.calm hc)
  have hbv : bootBuiltins (Str.ofString (if mx = true then "max" else "min")) = some (.builtin (if mx = true then "max" else "min")) := by
    cases mx with
    | true => exact biV_boot (f := "max") rfl
    | false => exact biV_boot (f := "min") rfl
  have hbn : X.mg (Str.ofString (if mx = true then "max" else "min")) = none := by
    cases mx with
    | true => exact C.bn "max" _ rfl
    | false => exact C.bn "min" _ rfl
  have pr : PE X (.Call (.Name (Str.ofString (if mx = true then "max" else "min")) p) [v] [⟨some (Str.ofString "default"), .Constant .none j p2, kp⟩] pos) (Ter W (rV W) WX (wpE G (.mdef mx a))) :=
    pe_imp (pe_callBK (pos := pos) ck (C.gl' h2) hbn hbv (pa_cons (ha C v h5).1 pa_nil (star_cons h4)) (pk_cons pe_non pk_nil) (okN_inv h3).2.2 (okN_inv h3).1 (by rw [star_cons h4]; rfl) (by rw [star_cons h4]; rfl)) fun σ H Q hq => by
      obtain ⟨φ, hd, σd, Qd, Xd, A, w, q, x⟩ := hq
      refine Ter.go A x w fun φ1 h1 H1 d v e1 A1 r1 w1 => ?_
      obtain ⟨xs, ns, e2, e3, wn, w1⟩ := w1
      obtain ⟨p, vs, rfl, hq, rs⟩ := rdL_ok A1.sim r1 e2
      have qe := q.ext e1
      exact ⟨p, ns, rfl, rfl, by rw [C.K, ← ints_rep rs e3]; exact hq, fun hn => qe φ1 h1 H1 .non .non .refl A1.sim .non (wn hn), fun m hm hy => qe φ1 h1 H1 (.int m) (.int m) .refl A1.sim (.int m) (w1 m hm hy)⟩
  exact ⟨pr, fun _ => tst_of pr rfl⟩
/-! ### methods of lists -/
theorem bm_inv {f : String} {o : E} {es : Es} {e : Expr} (h : chkE P (.bm f o es) e = true) : ∃ o' g ap vs cp, e = .Call (.Attribute o' g ap) vs [] cp ∧
    (decide (g = Str.ofString f) && (ap.endLine == cp.line) && decide (vs.length < 20) && baseB o' && chkE P o o' && vs.all (fun e => !starB e) && chkEs P es vs && (bmT f).isSome) = true := by
  unfold chkE at h
  split at h <;> first | (rename_i q; cases q; done) | (injections; subst_vars; exact ⟨_, _, _, _, _, rfl, h⟩) | cases h
theorem bm_plain {env : Env} {es : List Expr} {cp : Pos} (hl : es.length < 20) (hs : es.all (fun e => !starB e) = true) : ((backTo cp (starEach es env)).all (fun x => !x.1) && (backToKw cp (keywordEach [] env)).all (fun x => x.1.isSome)
      && decide (es.length + ([] : List Keyword).length + (if ([] : List Keyword).isEmpty then 0 else 1) < 30)) = true := by
  have h1 : (backTo cp (starEach es env)).all (fun x => !x.1) = true := by
    induction es with
    | nil => rfl
    | cons e es ih =>
      rw [List.all_cons, Bool.and_eq_true] at hs
      rw [star_cons (by simpa using hs.1)]
      show (true && (backTo cp (starEach es env)).all (fun x => !x.1)) = true
      rw [ih (by simp at hl; omega) hs.2]; rfl
  rw [h1]
  have h2 : (backToKw cp (keywordEach [] env)).all (fun x => x.1.isSome) = true := rfl
  rw [h2]
  simp
  omega
/-- the facts of a method's name -/
structure BmF (f : String) (T id : String) : Prop where
  pa : PlainAttrs T
  slot : Slot T (Str.ofString f) id
  ty : typeOf (.builtin id) = pure (.type "method_descriptor")
noncomputable def bmK (f : String) : String := if f = "join" ∨ f = "split" then "str" else "list"
theorem bmF {f id n} (h : bmT f = some (id, n)) : BmF f (bmK f) id := by
  unfold bmT at h
  split at h
  · cases h; exact ⟨PySem.F.plainAttrs_list, PySem.F.slot_list_append, PySem.F.type_list_append⟩
  · cases h; exact ⟨PySem.F.plainAttrs_list, PySem.F.slot_list_pop, PySem.F.type_list_pop⟩
  · cases h; exact ⟨PySem.F.plainAttrs_list, PySem.F.slot_list_clear, PySem.F.type_list_clear⟩
  · cases h; exact ⟨PySem.F.plainAttrs_list, PySem.F.slot_list_reverse, PySem.F.type_list_reverse⟩
  · cases h; exact ⟨PySem.F.plainAttrs_list, PySem.F.slot_list_extend, PySem.F.type_list_extend⟩
  · cases h; exact ⟨PySem.F.plainAttrs_list, PySem.F.slot_list_insert, PySem.F.type_list_insert⟩
  · cases h; exact ⟨PySem.F.plainAttrs_list, PySem.F.slot_list_index, PySem.F.type_list_index⟩
  · cases h; exact ⟨PySem.F.plainAttrs_str, PySem.F.slot_str_join, PySem.F.type_str_join⟩
  · cases h; exact ⟨PySem.F.plainAttrs_str, PySem.F.slot_str_split, PySem.F.type_str_split⟩
  · cases h
theorem recOk_ty {f id n x h v} (hb : bmT f = some (id, n)) (S : Sim W φ h H) (r : Rep W φ H x v) (k : recOk f x h) : tyV W.K (bmK f) v H := by
  have go : (∃ ys, rdL h x = some ys) → tyV W.K "list" v H := fun k' => by
    obtain ⟨ys, e⟩ := k'
    obtain ⟨a, vs, rfl, h1, _⟩ := rdL_ok S r e
    exact .inl ⟨rfl, _, h1⟩
  have gos : (∃ z, x = .str z) → tyV W.K "str" v H := fun k' => by
    obtain ⟨z, rfl⟩ := k'
    cases r
    rfl
  unfold bmT at hb
  split at hb
  all_goals first | exact go k | exact gos k | cases hb
theorem ok_bm {f o es} (ho : SndE o) (hs : SndEs es) : SndE (.bm f o es) := by
  intro W G lv P WX X C e h
  obtain ⟨o', g, ap, vs, cp, rfl, k⟩ := bm_inv h
  simp only [Bool.and_eq_true, decide_eq_true_eq] at k
  obtain ⟨⟨⟨⟨⟨⟨⟨rfl, hl⟩, hn⟩, h1⟩, h2⟩, h3⟩, h4⟩, h5⟩ := k
  cases hb : bmT f with
  | none => rw [hb] at h5; cases h5
  | some idn =>
    obtain ⟨id, n⟩ := idn
    have F := bmF hb
    have M := bm_ok (W := W) (X := X) C.K C.hu f id n hb
    have po := (ho C o' h2).1
    have pa := (hs C vs h4).1 h3
    cases vs with
    | nil =>
      have p : PE X (.Call (.Attribute o' (Str.ofString f) ap) [] [] cp) (Ter W (rV W) WX (wpE G (.bm f o es))) := pe_imp (pe_bm0 F.pa F.slot F.ty M po (base_plain h1) hl) fun σ H Q hq => by
        obtain ⟨φ, hd, σd, Qd, Xd, A, w, q, x⟩ := hq
        refine Ter.go A x w fun φ1 h1 H1 d v e1 A1 r1 w1 => ⟨by rw [C.K]; exact recOk_ty hb A1.sim r1 w1.1, ?_⟩
        cases es with
        | nil => exact ⟨φ1, h1, d, [], Qd, A1.sim, r1, .nil, w1.2, q.ext e1⟩
        | cons => simp [chkEs] at h4
      exact ⟨p, fun _ => tst_of p rfl⟩
    | cons v vs =>
      have h4' : starB v = false ∧ vs.all (fun e => !starB e) = true := by
        rw [List.all_cons, Bool.and_eq_true] at h3
        exact ⟨by simpa using h3.1, h3.2⟩
      have p : PE X (.Call (.Attribute o' (Str.ofString f) ap) (v :: vs) [] cp) (Ter W (rV W) WX (wpE G (.bm f o es))) := pe_imp (pe_bm F.pa F.slot F.ty M po pa (base_plain h1) (bm_plain hn h3) hl (star_cons h4'.1) (star_any h4'.2)) fun σ H Q hq => by
        obtain ⟨φ, hd, σd, Qd, Xd, A, w, q, x⟩ := hq
        refine Ter.go A x w fun φ1 h1 H1 d v e1 A1 r1 w1 => ⟨by rw [C.K]; exact recOk_ty hb A1.sim r1 w1.1, ?_⟩
        exact Ter.go A1 (x.ext e1) w1.2 fun φ2 h2 H2 d2 v2 e2 A2 r2 w2 => ⟨φ2, h2, d, d2, Qd, A2.sim, r1.ext e2, r2, w2, q.ext (e1.trans e2)⟩
      exact ⟨p, fun _ => tst_of p rfl⟩

/-! ### isinstance against a built-in type -/
theorem isiB_kit {d : D} {t : String} {b : Bool} (h : isiB d t = some b) : kitB (tyD d) t = some b ∧ tyD d ≠ "" := by
  unfold isiB at h
  generalize tyD d = s at h ⊢
  unfold isiS at h
  split at h <;> first | (cases h; exact ⟨by decide +kernel, by decide⟩) | cases h
theorem tyN_boot {t : String} (h : tyN t = true) : (t = "int" ∨ t = "bool" ∨ t = "str" ∨ t = "list" ∨ t = "tuple") ∧ bootBuiltins (Str.ofString t) = some (.type t) := by
  unfold tyN at h
  simp only [Bool.or_eq_true, beq_iff_eq] at h
  rcases h with (((rfl | rfl) | rfl) | rfl) | rfl
  · exact ⟨by simp, boot_int⟩
  · exact ⟨by simp, boot_bool⟩
  · exact ⟨by simp, boot_str⟩
  · exact ⟨by simp, boot_list⟩
  · exact ⟨by simp, boot_tuple⟩
theorem isi_inv {a : E} {t : String} {e : Expr} (h : chkE P (.isi a t) e = true) : ∃ x p a' t' p' pos, e = .Call (.Name x p) [a', .Name t' p'] [] pos ∧
    (decide (x = Str.ofString "isinstance") && glB P.sc x && decide (t' = Str.ofString t) && tyN t && glB P.sc t' && okN t' && !starB a' && chkE P a a') = true := by
  unfold chkE at h
  split at h <;> first | (rename_i q; cases q; done) | (injections; subst_vars; exact ⟨_, _, _, _, _, _, rfl, h⟩) | cases h
theorem seen_ty {d : D} {v : V} (S : Sim W φ hd H) (r : Rep W φ H d v) (h : tyD (seen hd d) ≠ "") : TyOf W.K H v (.type (tyD (seen hd d))) := by
  cases r with
  | non => exact .non
  | bl b => exact .bl b
  | int i => exact .int i
  | str x => exact .str x
  | tup a b c => exact .tup a
  | vl a b c => exact .lst a
  | sv => exact absurd rfl h
  | vi => exact absurd rfl h
  | @ref n a e =>
    have hn : seen hd (.ref n) = match hd[n]? with
      | some (.lst xs) => .vl xs
      | _ => .ref n := rfl
    cases o : hd[n]? with
    | none => rw [hn, o] at h; exact absurd rfl h
    | some ob => cases ob with
      | ins _ _ _ => rw [hn, o] at h; exact absurd rfl h
      | dk _ _ => rw [hn, o] at h; exact absurd rfl h
      | dt _ _ => rw [hn, o] at h; exact absurd rfl h
      | lst xs =>
        rw [hn, o]
        obtain ⟨b, hb, vs, h1, h2⟩ := S.obj n _ o
        rw [e] at hb; cases hb
        exact .lst h1
theorem ok_isi {a t} (ha : SndE a) : SndE (.isi a t) := by
  intro W G lv P WX X C e h
  obtain ⟨x, p, a', t', p', pos, rfl, k⟩ := isi_inv h
  simp only [Bool.and_eq_true, decide_eq_true_eq, Bool.not_eq_true'] at k
  obtain ⟨⟨⟨⟨⟨⟨⟨rfl, h1⟩, rfl⟩, h0⟩, h2⟩, h3⟩, h4⟩, h5⟩ := k
  obtain ⟨ht, hb⟩ := tyN_boot h0
  have hm : X.mg (Str.ofString t) = none := by
    obtain ⟨b1, b2, b3, b4, b5⟩ := C.bn3
    rcases ht with rfl | rfl | rfl | rfl | rfl <;> assumption
  have pt : PE X (.Name (Str.ofString t) p') (tC (.ty t)) := pe_bltn (C.gl' h2) hm hb rfl (okN_inv h3).2.2 (okN_inv h3).1
  have pa : PA X [a', .Name (Str.ofString t) p'] _ := pa_cons (ha C a' h5).1 (pa_cons pt pa_nil) (star_cons h4)
  have pr : PE X (.Call (.Name (Str.ofString "isinstance") p) [a', .Name (Str.ofString t) p'] [] pos) (Ter W (rV W) WX (wpE G (.isi a t))) := by
    refine pe_imp (pe_callB call_isi (C.gl' h1) C.bn2.2.2.2.2 boot_isinstance pa (by decide) (by decide) (star_cons h4) rfl) fun σ H Q hq => ?_
    obtain ⟨φ, hd, σd, Qd, Xd, A, w, q, x⟩ := hq
    refine Ter.go A x w fun φ1 h1 H1 d v e1 A1 r1 w1 => ?_
    obtain ⟨b, hb', w1⟩ := w1
    obtain ⟨k1, k3⟩ := isiB_kit hb'
    exact ⟨v, .ty t, _, _, b, rfl, .ty t, .base (by rw [C.K]; exact seen_ty A1.sim r1 k3), kit_ty k1, q φ1 h1 H1 _ _ e1 A1.sim (.bl _) w1⟩
  exact ⟨pr, fun _ => tst_of pr rfl⟩
theorem lrg_inv {m : Bool} {a b : E} {e : Expr} (h : chkE P (.lrg m a b) e = true) : ∃ x p y p2 a' b' q pos, e = .Call (.Name x p) [.Call (.Name y p2) [a', b'] [] q] [] pos ∧
    (P.cm && decide (x = Str.ofString "list") && glB P.sc x && decide (y = Str.ofString "range") && glB P.sc y && !starB a' && !starB b' && chkE P a a' && chkE P b b') = true := by
  unfold chkE at h
  split at h <;> first | (rename_i q; cases q; done) | (injections; subst_vars; exact ⟨_, _, _, _, _, _, _, _, rfl, h⟩) | cases h
theorem ok_lrg {m a b} (ha : SndE a) (hb : SndE b) : SndE (.lrg m a b) := by
  intro W G lv P WX X C e h
  obtain ⟨x, p, y, p2, a', b', q, pos, rfl, k⟩ := lrg_inv h
  simp only [Bool.and_eq_true, decide_eq_true_eq, Bool.not_eq_true'] at k
  obtain ⟨⟨⟨⟨⟨⟨⟨⟨h0, rfl⟩, h1⟩, rfl⟩, h2⟩, h3⟩, h4⟩, h5⟩, h6⟩ := k
  have pr : PE X (.Call (.Name (Str.ofString "list") p) [.Call (.Name (Str.ofString "range") p2) [a', b'] [] q] [] pos) (Ter W (rV W) WX (wpE G (.lrg m a b))) := by
    refine pe_imp (pe_listRg (C.calm h0) (C.gl' h1) C.bn3.2.2.2.1 (prg_2 (C.gl' h2) C.bn2.1 (ha C a' h5).1 (hb C b' h6).1 (star_cons h3) (star_cons h4) (star_any (es := [b']) (by simp [h4]))) rfl) fun σ H Q hq => ?_
    obtain ⟨φ, hd, σd, Qd, Xd, A, w, q, x⟩ := hq
    refine Ter.go A x w fun φ1 h1 H1 d v e1 A1 r1 w1 => Ter.go A1 (x.ext e1) w1 fun φ2 h2 H2 d2 v2 e2 A2 r2 w2 => ?_
    obtain ⟨i, j, rfl, rfl, g1, g2, g3, w2⟩ := w2
    cases r1
    cases r2
    refine ⟨i, j, rfl, rfl, ⟨g1.1, g1.2, g2.1, g2.2, g3⟩, ?_⟩
    have er : Reps W φ2 H2 (rngN i j) (rgV i j) := by
      unfold rngN rgV
      generalize List.range (j - i).toNat = l
      induction l with
      | nil => exact .nil
      | cons t l ih => exact .cons (.int _) ih
    exact (mkL_ok A2.sim er (q.ext (e1.trans e2)) w2).2
  exact ⟨pr, fun _ => tst_of pr rfl⟩
theorem lrb_inv {m : Bool} {a b : E} {e : Expr} (h : chkE P (.lrb m a b) e = true) : ∃ x p y p2 a' b' q pos, e = .Call (.Name x p) [.Call (.Name y p2) [a', b'] [] q] [] pos ∧
    (P.cm && decide (x = Str.ofString "list") && glB P.sc x && decide (y = Str.ofString "range") && glB P.sc y && !starB a' && !starB b' && chkE P a a' && chkE P b b') = true := by
  unfold chkE at h
  split at h <;> first | (rename_i q; cases q; done) | (injections; subst_vars; exact ⟨_, _, _, _, _, _, _, _, rfl, h⟩) | cases h
theorem ok_lrb {m a b} (ha : SndE a) (hb : SndE b) : SndE (.lrb m a b) := by
  intro W G lv P WX X C e h
  obtain ⟨x, p, y, p2, a', b', q, pos, rfl, k⟩ := lrb_inv h
  simp only [Bool.and_eq_true, decide_eq_true_eq, Bool.not_eq_true'] at k
  obtain ⟨⟨⟨⟨⟨⟨⟨⟨h0, rfl⟩, h1⟩, rfl⟩, h2⟩, h3⟩, h4⟩, h5⟩, h6⟩ := k
  have pr : PE X (.Call (.Name (Str.ofString "list") p) [.Call (.Name (Str.ofString "range") p2) [a', b'] [] q] [] pos) (Ter W (rV W) WX (wpE G (.lrb m a b))) := by
    refine pe_imp (VdLr.pe_listRgA (C.calm h0) (C.gl' h1) C.bn3.2.2.2.1 (prg_2 (C.gl' h2) C.bn2.1 (ha C a' h5).1 (hb C b' h6).1 (star_cons h3) (star_cons h4) (star_any (es := [b']) (by simp [h4]))) rfl) fun σ H Q hq => ?_
    obtain ⟨φ, hd, σd, Qd, Xd, A, w, q, x⟩ := hq
    refine Ter.go A x w fun φ1 h1 H1 d v e1 A1 r1 w1 => Ter.go A1 (x.ext e1) w1 fun φ2 h2 H2 d2 v2 e2 A2 r2 w2 => ?_
    obtain ⟨i, j, rfl, rfl, g3, w2⟩ := w2
    cases r1
    cases r2
    refine ⟨i, j, rfl, rfl, g3, ?_⟩
    have er : Reps W φ2 H2 (rngN i j) (rgV i j) := by
      unfold rngN rgV
      generalize List.range (j - i).toNat = l
      induction l with
      | nil => exact .nil
      | cons t l ih => exact .cons (.int _) ih
    exact (mkL_ok A2.sim er (q.ext (e1.trans e2)) w2).2
  exact ⟨pr, fun _ => tst_of pr rfl⟩
theorem lset_inv {a : E} {e : Expr} (h : chkE P (.lset a) e = true) : ∃ x p y p2 a' q pos, e = .Call (.Name x p) [.Call (.Name y p2) [a'] [] q] [] pos ∧
    (P.cm && decide (x = Str.ofString "len") && glB P.sc x && decide (y = Str.ofString "set") && glB P.sc y && !starB a' && chkE P a a') = true := by
  unfold chkE at h
  split at h <;> first | (rename_i q; cases q; done) | (injections; subst_vars; exact ⟨_, _, _, _, _, _, _, rfl, h⟩) | cases h
theorem ok_lset {a} (ha : SndE a) : SndE (.lset a) := by
  intro W G lv P WX X C e h
  obtain ⟨x, p, y, p2, a', q, pos, rfl, k⟩ := lset_inv h
  simp only [Bool.and_eq_true, decide_eq_true_eq, Bool.not_eq_true'] at k
  obtain ⟨⟨⟨⟨⟨⟨h0, rfl⟩, h1⟩, rfl⟩, h2⟩, h3⟩, h4⟩ := k
  have pr : PE X (.Call (.Name (Str.ofString "len") p) [.Call (.Name (Str.ofString "set") p2) [a'] [] q] [] pos) (Ter W (rV W) WX (wpE G (.lset a))) := by
    refine pe_imp (VdSt.pe_lenSetG (C.calm h0) (C.gl' h1) (C.bn "len" _ rfl) (C.gl' h2) (C.bn "set" _ rfl) (ha C a' h4).1 (star_cons h3)) fun σ H Q hq => ?_
    obtain ⟨φ, hd, σd, Qd, Xd, A, w, q, x⟩ := hq
    refine Ter.go A x w fun φ1 h1 H1 d v e1 A1 r1 w1 => ?_
    rcases w1 with ⟨xs, ns, e, e2, l, w1⟩ | ⟨xs, ns, e, e2, l, w1⟩
    · obtain ⟨p, vs, rfl, hq, rs⟩ := rdL_ok A1.sim r1 e
      exact .inl ⟨p, ns, rfl, by rw [C.K, ← strs_rep rs e2]; exact hq, l, q φ1 h1 H1 _ _ e1 A1.sim (.int _) w1⟩
    · obtain ⟨p, vs, rfl, hq, rs⟩ := rdL_ok A1.sim r1 e
      exact .inr ⟨p, ns, rfl, by rw [C.K, ← ints_rep rs e2]; exact hq, l, q φ1 h1 H1 _ _ e1 A1.sim (.int _) w1⟩
  exact ⟨pr, fun _ => tst_of pr rfl⟩
theorem srs_inv {m : Bool} {a : E} {e : Expr} (h : chkE P (.srs m a) e = true) : ∃ x p y p2 a' q pos, e = .Call (.Name x p) [.Call (.Name y p2) [a'] [] q] [] pos ∧
    (P.cm && decide (x = Str.ofString "sorted") && glB P.sc x && decide (y = Str.ofString "set") && glB P.sc y && !starB a' && chkE P a a') = true := by
  unfold chkE at h
  split at h <;> first | (rename_i q; cases q; done) | (injections; subst_vars; exact ⟨_, _, _, _, _, _, _, rfl, h⟩) | cases h
theorem ints_reps {W : Wd} {φ : List Addr} {H : Hp} : ∀ ns : List Int, Reps W φ H (ns.map D.int) (ns.map V.int)
  | [] => .nil
  | _ :: ns => .cons (.int _) (ints_reps ns)
theorem ok_srs {m a} (ha : SndE a) : SndE (.srs m a) := by
  intro W G lv P WX X C e h
  obtain ⟨x, p, y, p2, a', q, pos, rfl, k⟩ := srs_inv h
  simp only [Bool.and_eq_true, decide_eq_true_eq, Bool.not_eq_true'] at k
  obtain ⟨⟨⟨⟨⟨⟨h0, rfl⟩, h1⟩, rfl⟩, h2⟩, h3⟩, h4⟩ := k
  have pr : PE X (.Call (.Name (Str.ofString "sorted") p) [.Call (.Name (Str.ofString "set") p2) [a'] [] q] [] pos) (Ter W (rV W) WX (wpE G (.srs m a))) := by
    refine pe_imp (VdSt.pe_sortSet (C.calm h0) (C.gl' h1) (C.bn "sorted" _ rfl) (C.gl' h2) (C.bn "set" _ rfl) (ha C a' h4).1 (star_cons h3)) fun σ H Q hq => ?_
    obtain ⟨φ, hd, σd, Qd, Xd, A, w, q, x⟩ := hq
    refine Ter.go A x w fun φ1 h1 H1 d v e1 A1 r1 w1 => ?_
    obtain ⟨xs, ns, e, e2, l, l2, w1⟩ := w1
    obtain ⟨p, vs, rfl, hq, rs⟩ := rdL_ok A1.sim r1 e
    exact ⟨p, ns, rfl, by rw [C.K, ← ints_rep rs e2]; exact hq, l, l2, fun os s1 s2 => (mkL_ok A1.sim (ints_reps os) (q.ext e1) (w1 os s1 s2)).2⟩
  exact ⟨pr, fun _ => tst_of pr rfl⟩
theorem lrev_inv {m : Bool} {a : E} {e : Expr} (h : chkE P (.lrev m a) e = true) : ∃ x p y p2 a' q pos, e = .Call (.Name x p) [.Call (.Name y p2) [a'] [] q] [] pos ∧
    (P.cm && decide (x = Str.ofString "list") && glB P.sc x && decide (y = Str.ofString "reversed") && glB P.sc y && !starB a' && chkE P a a') = true := by
  unfold chkE at h
  split at h <;> first | (rename_i q; cases q; done) | (injections; subst_vars; exact ⟨_, _, _, _, _, _, _, rfl, h⟩) | cases h
theorem ok_lrev {m a} (ha : SndE a) : SndE (.lrev m a) := by
  intro W G lv P WX X C e h
  obtain ⟨x, p, y, p2, a', q, pos, rfl, k⟩ := lrev_inv h
  simp only [Bool.and_eq_true, decide_eq_true_eq, Bool.not_eq_true'] at k
  obtain ⟨⟨⟨⟨⟨⟨h0, rfl⟩, h1⟩, rfl⟩, h2⟩, h3⟩, h4⟩ := k
  have pr : PE X (.Call (.Name (Str.ofString "list") p) [.Call (.Name (Str.ofString "reversed") p2) [a'] [] q] [] pos) (Ter W (rV W) WX (wpE G (.lrev m a))) := by
    refine pe_imp (VdRv.pe_listRev (C.calm h0) (C.gl' h1) C.bn3.2.2.2.1 (C.gl' h2) C.bn2.2.2.2.1 (ha C a' h4).1 (star_cons h3)) fun σ H Q hq => ?_
    obtain ⟨φ, hd, σd, Qd, Xd, A, w, q, x⟩ := hq
    refine Ter.go A x w fun φ1 h1 H1 d v e1 A1 r1 w1 => ?_
    obtain ⟨xs, e, w1⟩ := w1
    obtain ⟨p, vs, rfl, hq, rs⟩ := rdL_ok A1.sim r1 e
    exact ⟨p, vs, rfl, by rw [C.K]; exact hq, (mkL_ok A1.sim rs.reverse (q.ext e1) w1).2⟩
  exact ⟨pr, fun _ => tst_of pr rfl⟩
theorem pairs_py : ∀ {xs ps}, pairsD xs = some ps → xs.all (pl 2) = true ∧ pys xs = ps.map VdMp.pyP
  | [], _, h => by cases h; exact ⟨rfl, rfl⟩
  | x :: xs, _, h => by
    unfold pairsD at h
    split at h
    · rename_i q; cases q
    · rename_i i j r q
      cases q
      simp only [Option.map_eq_some_iff] at h
      obtain ⟨ms, h1, rfl⟩ := h
      obtain ⟨k1, k2⟩ := pairs_py h1
      refine ⟨?_, ?_⟩
      · rw [List.all_cons, k1]; rfl
      · rw [pys, k2]; rfl
    · cases h
theorem pairsD_get : ∀ {xs : List D} {ps : List (Int × Int)} {i : Nat} {k : Int × Int}, pairsD xs = some ps → ps[i]? = some k → xs[i]? = some (pairD k)
  | [], _, i, k, h, hk => by cases h; simp at hk
  | x :: xs, _, i, k, h, hk => by
    unfold pairsD at h
    split at h
    · rename_i q; cases q
    · rename_i a b r q
      cases q
      simp only [Option.map_eq_some_iff] at h
      obtain ⟨ms, h1, rfl⟩ := h
      cases i with
      | zero => simp at hk; subst hk; rfl
      | succ i =>
        rw [List.getElem?_cons_succ] at hk ⊢
        exact pairsD_get h1 hk
    · cases h
theorem mpr_inv {mx : Bool} {a : E} {e : Expr} (h : chkE P (.mpr mx a) e = true) : ∃ x p v pos, e = .Call (.Name x p) [v] [] pos ∧
    (P.cm && decide (x = Str.ofString (if mx = true then "max" else "min")) && glB P.sc x && okN x && !starB v && chkE P a v) = true := by
  unfold chkE at h
  split at h <;> first | (rename_i q; cases q; done) | (injections; subst_vars; exact ⟨_, _, _, _, rfl, h⟩) | cases h
theorem ok_mpr {mx a} (ha : SndE a) : SndE (.mpr mx a) := by
  intro W G lv P WX X C e h
  obtain ⟨x, p, v, pos, rfl, k⟩ := mpr_inv h
  simp only [Bool.and_eq_true, decide_eq_true_eq, Bool.not_eq_true'] at k
  obtain ⟨⟨⟨⟨⟨hc, rfl⟩, h2⟩, h3⟩, h4⟩, h5⟩ := k
  have hbv : biV (if mx = true then "max" else "min") = some (.builtin (if mx = true then "max" else "min")) := by cases mx <;> rfl
  have pr : PE X (.Call (.Name (Str.ofString (if mx = true then "max" else "min")) p) [v] [] pos) (Ter W (rV W) WX (wpE G (.mpr mx a))) := by
    refine pe_imp (pe_callB (VdMp.cr_mpr (C.calm hc) C.hu mx) (C.gl' h2) (C.bn _ _ hbv) (biV_boot hbv) (pa_cons (ha C v h5).1 pa_nil (star_cons h4)) (okN_inv h3).2.2 (okN_inv h3).1 (star_cons h4) rfl) fun σ H Q hq => ?_
    obtain ⟨φ, hd, σd, Qd, Xd, A, w, q, x⟩ := hq
    refine Ter.go A x w fun φ1 h1 H1 d v e1 A1 r1 w1 => ?_
    obtain ⟨xs, ps, e, e2, l, w1⟩ := w1
    obtain ⟨p, vs, rfl, hq, rs⟩ := rdL_ok A1.sim r1 e
    obtain ⟨k1, k2⟩ := pairs_py e2
    refine ⟨p, vs, ps, rfl, by rw [C.K]; exact hq, by rw [C.K, ← k2]; exact reps_dp 2 k1 rs, l, fun i k x hx hk hy => ?_⟩
    obtain ⟨d, hd', rd⟩ := rs.get' hx
    have ed : d = pairD k := by
      have := pairsD_get e2 hk
      rw [hd'] at this
      exact Option.some.inj this
    subst ed
    exact q φ1 h1 H1 _ _ e1 A1.sim rd (w1 k (List.mem_of_getElem? hk) hy)
  exact ⟨pr, fun _ => tst_of pr rfl⟩
end
end Vd

set_option Elab.async false
set_option linter.all false
set_option maxRecDepth 100000
set_option maxHeartbeats 2000000
/-! tables (dicts) -/
namespace Vd
open PySem PySem.Spec PyProof.Rows L2
section
variable {W : Wd} {φ φ' : List Addr} {H : Hp} {hd : Hd} {κ : Type} [DecidableEq κ]
theorem getA_cons {p : κ × D} {r : List (κ × D)} {k : κ} : getA (p :: r) k = if p.1 = k then some p.2 else getA r k := by
  unfold getA
  by_cases e : p.1 = k <;> simp [List.find?_cons, e]
theorem getA_any (k : κ) : ∀ kvs : List (κ × D), (kvs.any fun kv => decide (kv.1 = k)) = (getA kvs k).isSome
  | [] => rfl
  | p :: r => by
    rw [List.any_cons, getA_cons]
    by_cases e : p.1 = k
    · simp [e]
    · simp [e, getA_any k r]
theorem getA_rep (k : κ) : ∀ {kvs : List (κ × D)} {vs : List V}, Reps W φ H (kvs.map (·.2)) vs → match getA kvs k, L2.valV ((kvs.map (·.1)).zip vs) k with
    | some d, some v => Rep W φ H d v
    | none, none => True
    | _, _ => False
  | [], _, r => by cases r; exact True.intro
  | p :: r, vs, h => by
    rw [List.map_cons] at h
    cases h with
    | @cons x v xs vs a b =>
      rw [getA_cons, List.map_cons, List.zip_cons_cons]
      by_cases e : p.1 = k
      · rw [if_pos e, L2.valV_pos (p := (p.1, v)) e]; exact a
      · rw [if_neg e, L2.valV_neg (p := (p.1, v)) e]; exact getA_rep k b
theorem zipA_any (k : κ) : ∀ {kvs : List (κ × D)} {vs : List V}, Reps W φ H (kvs.map (·.2)) vs → (((kvs.map (·.1)).zip vs).any fun kv => decide (kv.1 = k)) = kvs.any fun kv => decide (kv.1 = k)
  | [], _, r => by cases r; rfl
  | p :: r, vs, h => by
    rw [List.map_cons] at h
    cases h with
    | @cons x v xs vs a b => rw [List.map_cons, List.zip_cons_cons, List.any_cons, List.any_cons, zipA_any k b]
theorem putA_rep (k : κ) {kvs : List (κ × D)} {vs : List V} {d : D} {v : V} (h : Reps W φ H (kvs.map (·.2)) vs) (hv : Rep W φ H d v) :
    ∃ vs', L2.putK ((kvs.map (·.1)).zip vs) k v = ((putA kvs k d).map (·.1)).zip vs' ∧ Reps W φ H ((putA kvs k d).map (·.2)) vs' := by
  unfold L2.putK putA
  rw [zipA_any k h]
  by_cases e : (kvs.any fun kv => decide (kv.1 = k)) = true
  · rw [if_pos e, if_pos e]
    clear e
    induction kvs generalizing vs with
    | nil => cases h; exact ⟨[], rfl, .nil⟩
    | cons p r ih =>
      rw [List.map_cons] at h
      cases h with
      | @cons x w xs vs a b =>
        obtain ⟨vs', e1, r1⟩ := ih b
        by_cases e : p.1 = k
        · refine ⟨v :: vs', ?_, ?_⟩
          · simp only [List.map_cons, List.zip_cons_cons, if_pos e]
            rw [e1]
          · simp only [List.map_cons, if_pos e]
            exact .cons hv r1
        · refine ⟨w :: vs', ?_, ?_⟩
          · simp only [List.map_cons, List.zip_cons_cons, if_neg e]
            rw [e1]
          · simp only [List.map_cons, if_neg e]
            exact .cons a r1
  · rw [if_neg e, if_neg e]
    refine ⟨vs ++ [v], ?_, ?_⟩
    · rw [List.map_append, List.zip_append (by simpa using h.len)]; rfl
    · rw [List.map_append]; exact h.append (.cons hv .nil)
theorem putA_len (k : κ) (kvs : List (κ × D)) (d : D) : (putA kvs k d).length ≤ kvs.length + 1 := by
  unfold putA
  split
  · simp
  · simp
theorem getA_map (k j : κ) (y : D) : ∀ kvs : List (κ × D), getA (kvs.map fun kv => if kv.1 = k then (kv.1, y) else kv) j = (getA kvs j).map fun x => if j = k then y else x
  | [] => rfl
  | p :: r => by
    have ih := getA_map k j y r
    rw [List.map_cons, getA_cons, getA_cons, ih]
    by_cases h : p.1 = k
    · rw [if_pos h]
      by_cases e : p.1 = j
      · simp only [if_pos e]; rw [Option.map_some, if_pos (e.symm.trans h)]
      · simp only [if_neg e]
    · rw [if_neg h]
      by_cases e : p.1 = j
      · simp only [if_pos e]; rw [Option.map_some, if_neg (fun z => h (e.trans z))]
      · simp only [if_neg e]
theorem getA_app (k : κ) (as bs : List (κ × D)) : getA (as ++ bs) k = (getA as k).or (getA bs k) := by
  induction as with
  | nil => rfl
  | cons p r ih =>
    rw [List.cons_append, getA_cons, getA_cons, ih]
    by_cases e : p.1 = k
    · simp [e]
    · simp [e]
theorem getA_put (kvs : List (κ × D)) (k j : κ) (y : D) : getA (putA kvs k y) j = if j = k then some y else getA kvs j := by
  unfold putA
  by_cases a : (kvs.any fun kv => decide (kv.1 = k)) = true
  · rw [if_pos a, getA_map]
    rw [getA_any] at a
    obtain ⟨x, hx⟩ := Option.isSome_iff_exists.mp a
    by_cases e : j = k
    · subst e; simp [hx]
    · simp only [if_neg e]; cases getA kvs j <;> rfl
  · rw [if_neg a, getA_app]
    rw [getA_any] at a
    have hn : getA kvs k = none := by simpa using a
    rw [show getA [(k, y)] j = if k = j then some y else none from getA_cons]
    by_cases e : j = k
    · subst e; simp [hn]
    · rw [if_neg e, if_neg (fun z => e z.symm)]; simp
theorem putA_new {kvs : List (κ × D)} {k : κ} (y : D) (h : getA kvs k = none) : putA kvs k y = kvs ++ [(k, y)] := by
  unfold putA
  rw [getA_any, h]
  exact if_neg (by decide)
theorem keyD_rep {y : D} {v : V} {k : L2.Key} (r : Rep W φ H y v) (e : keyD y = some k) : v = kV k := by
  cases r with
  | int i => cases e; rfl
  | str x => cases e; rfl
  | _ => cases e
theorem keysD_rep : ∀ {ys : List D} {vs : List V} {k : List L2.Key}, Reps W φ H ys vs → keysD ys = some k → vs = k.map kV
  | [], _, _, r, e => by cases r; cases e; rfl
  | y :: ys, vs, k, r, e => by
    cases r with
    | @cons x v xs vs a b =>
      unfold keysD at e
      split at e
      · rename_i k1 ks e1 e2
        cases e
        rw [List.map_cons, keyD_rep a e1, keysD_rep b e2]
      · cases e
theorem zipA_len {kvs : List (κ × D)} {vs : List V} (h : Reps W φ H (kvs.map (·.2)) vs) : ((kvs.map (·.1)).zip vs).length = kvs.length := by
  have := h.len
  simp at this
  simp; omega
theorem dget_ok {x y : D} {v u : V} {Q : Option D → Prop} (S : Sim W φ hd H) (rx : Rep W φ H x v) (ry : Rep W φ H y u) (w : dgetW x y hd Q) :
    ∃ a o' o, v = .ref a ∧ DGet H a u o' ∧ Q o ∧ match o, o' with
    | some d, some v => Rep W φ H d v
    | none, none => True
    | _, _ => False := by
  unfold dgetW at w
  split at w
  · rename_i r ys
    obtain ⟨z, kvs, k, e, ek, w⟩ := w
    obtain ⟨b, hb, vs, h1, h2⟩ := S.obj _ _ e
    cases rx with
    | ref hp =>
      rw [hp] at hb; cases hb
      cases ry with
      | tup t1 t2 t3 =>
        have ev := keysD_rep t3 ek
        subst ev
        exact ⟨_, _, _, rfl, .inr ⟨_, _, _, h1.rd, rfl, t1, rfl⟩, w, getA_rep k h2⟩
  · rename_i r y' hy
    obtain ⟨z, kvs, k, e, ek, w⟩ := w
    obtain ⟨b, hb, vs, h1, h2⟩ := S.obj _ _ e
    cases rx with
    | ref hp =>
      rw [hp] at hb; cases hb
      exact ⟨_, _, _, rfl, .inl ⟨_, _, h1.rd, keyD_rep ry ek, rfl⟩, w, getA_rep k h2⟩
  · exact w.elim
end
theorem dput_cases {x y v : D} {h : Hd} {Q : Hd → Prop} (w : dputW x y v h Q) : ∃ r, x = .ref r ∧ ((∃ ys kvs k, y = .tup ys ∧ h[r]? = some (.dt false kvs) ∧ keysD ys = some k ∧ kvs.length < sizeLine ∧ Q (h.set r (.dt false (putA kvs k v)))) ∨
    ∃ kvs k, h[r]? = some (.dk false kvs) ∧ keyD y = some k ∧ kvs.length < sizeLine ∧ Q (h.set r (.dk false (putA kvs k v)))) := by
  unfold dputW at w
  split at w
  · obtain ⟨kvs, k, e, ek, hl, w3⟩ := w
    exact ⟨_, rfl, .inl ⟨_, kvs, k, rfl, e, ek, hl, w3⟩⟩
  · obtain ⟨kvs, k, e, ek, hl, w3⟩ := w
    exact ⟨_, rfl, .inr ⟨kvs, k, e, ek, hl, w3⟩⟩
  · exact w.elim
theorem nosl {i : Expr} (h : sliceB i = false) : NoSl i := by
  intro ov iv
  cases i <;> first | rfl | (simp [sliceB] at h)
theorem dnew_inv {P : Pl} {t : Bool} {e : Expr} (h : chkE P (.dnew t) e = true) : ∃ pos, e = .Dict [] [] pos := by
  unfold chkE at h
  split at h <;> first | (rename_i q; cases q; done) | (injections; subst_vars; exact ⟨_, rfl⟩) | cases h
theorem ok_dnew {t} : SndE (.dnew t) := by
  intro W G lv P WX X C e h
  obtain ⟨pos, rfl⟩ := dnew_inv h
  have p : PE X (.Dict [] [] pos) (Ter W (rV W) WX (wpE G (.dnew t))) := by
    cases t with
    | false =>
      refine pe_imp pe_dnewK fun σ H Q hq => ?_
      obtain ⟨φ, hd, σd, Qd, Xd, A, w, q, x⟩ := hq
      exact fun p hp => q (φ ++ [p]) _ _ _ _ (Ext.alloc hp) (A.sim.alloc hp (show RepO W (φ ++ [p]) _ p (.dk false []) from ⟨[], upd_same, .nil⟩)) (.ref (by rw [← A.sim.len]; simp)) w
    | true =>
      refine pe_imp pe_dnewT fun σ H Q hq => ?_
      obtain ⟨φ, hd, σd, Qd, Xd, A, w, q, x⟩ := hq
      exact fun p hp => q (φ ++ [p]) _ _ _ _ (Ext.alloc hp) (A.sim.alloc hp (show RepO W (φ ++ [p]) _ p (.dt false []) from ⟨[], upd_same, .nil⟩)) (.ref (by rw [← A.sim.len]; simp)) w
  exact ⟨p, fun _ => tst_of p rfl⟩
theorem dget_inv {P : Pl} {o i : E} {e : Expr} (h : chkE P (.dget o i) e = true) : ∃ o' i' pos, e = .Subscript o' i' pos ∧ (!sliceB i' && chkE P o o' && chkE P i i') = true := by
  unfold chkE at h
  split at h <;> first | (rename_i q; cases q; done) | (injections; subst_vars; exact ⟨_, _, _, rfl, h⟩) | cases h
theorem ok_dget {o i} (ho : SndE o) (hi : SndE i) : SndE (.dget o i) := by
  intro W G lv P WX X C e h
  obtain ⟨o', i', pos, rfl, k⟩ := dget_inv h
  simp only [Bool.and_eq_true, Bool.not_eq_true'] at k
  obtain ⟨⟨h1, h2⟩, h3⟩ := k
  have p : PE X (.Subscript o' i' pos) (Ter W (rV W) WX (wpE G (.dget o i))) := pe_imp (pe_dget (by have := C.hu; omega) (ho C o' h2).1 (hi C i' h3).1 (nosl h1)) fun σ H Q hq => by
    obtain ⟨φ, hd, σd, Qd, Xd, A, w, q, x⟩ := hq
    refine Ter.go A x w fun φ1 h1 H1 d v e1 A1 r1 w1 => Ter.go A1 (x.ext e1) w1 fun φ2 h2 H2 d2 v2 e2 A2 r2 w2 => ?_
    obtain ⟨a, o', o, ev, g, ⟨d3, rfl, w3⟩, m⟩ := dget_ok A2.sim (r1.ext e2) r2 w2
    cases o' with
    | none => exact m.elim
    | some v3 => exact ⟨a, v3, ev, g, q φ2 h2 H2 _ _ (e1.trans e2) A2.sim m w3⟩
  exact ⟨p, fun _ => tst_of p rfl⟩
theorem din_inv {P : Pl} {n : Bool} {i o : E} {e : Expr} (h : chkE P (.din n i o) e = true) : ∃ i' op o' pos, e = .Compare i' [op] [o'] pos ∧ ((if n = true then cmB .nin op else cmB .isin op) && chkE P i i' && chkE P o o' && !setB o') = true := by
  unfold chkE at h
  split at h <;> first | (rename_i q; cases q; done) | (injections; subst_vars; exact ⟨_, _, _, _, rfl, h⟩) | cases h
theorem ok_din {n i o} (hi : SndE i) (ho : SndE o) : SndE (.din n i o) := by
  intro W G lv P WX X C e h
  obtain ⟨i', op, o', pos, rfl, k⟩ := din_inv h
  simp only [Bool.and_eq_true, Bool.not_eq_true'] at k
  obtain ⟨⟨⟨h1, h2⟩, h3⟩, h4⟩ := k
  have hu : X.A.units + 1 < cLine := by have := C.hu; omega
  have bit : ∀ {W : Wd} {φ : List Addr} {H : Hp} {o : Option D} {o' : Option V}, (match o, o' with
    | some d, some v => Rep W φ H d v
    | none, none => True
    | _, _ => False) → o'.isSome = o.isSome := fun {W φ H o o'} m => by
    cases o <;> cases o' <;> first | rfl | exact m.elim
  cases n with
  | false =>
    have eo := cmB_eq (a := .isin) h1
    subst eo
    have pc := pc_din hu (hi C i' h2).1 (ho C o' h3).1
    refine ⟨pe_imp (pe_cmp (op := .In) pc (mark_plain h4)) fun σ H Q hq => ?_, fun _ => pt_imp (pt_cmp (op := .In) pc (mark_plain h4)) fun σ H Q hq => ?_⟩
    · obtain ⟨φ, hd, σd, Qd, Xd, A, w, q, x⟩ := hq
      refine Ter.go A x w fun φ1 h1 H1 d v e1 A1 r1 w1 => Ter.go A1 (x.ext e1) w1 fun φ2 h2 H2 d2 v2 e2 A2 r2 w2 => ?_
      obtain ⟨a, o', o, ev, g, w3, m⟩ := dget_ok A2.sim r2 (r1.ext e2) w2
      exact ⟨a, o', ev, g, by rw [bit m]; exact q φ2 h2 H2 _ _ (e1.trans e2) A2.sim (.bl _) w3⟩
    · obtain ⟨φ, hd, σd, Qd, Xd, A, w, q, x⟩ := hq
      refine Ter.go A x w fun φ1 h1 H1 d v e1 A1 r1 w1 => Ter.go A1 (x.ext e1) w1 fun φ2 h2 H2 d2 v2 e2 A2 r2 w2 => ?_
      obtain ⟨a, o', o, ev, g, ⟨b, eb, w3⟩, m⟩ := dget_ok A2.sim r2 (r1.ext e2) w2
      cases eb
      exact ⟨a, o', ev, g, _, rfl, by rw [bit m]; exact q φ2 h2 H2 _ _ (e1.trans e2) A2.sim rfl w3⟩
  | true =>
    have eo := cmB_eq (a := .nin) h1
    subst eo
    have pc := pc_dnotin hu (hi C i' h2).1 (ho C o' h3).1
    refine ⟨pe_imp (pe_cmp (op := .NotIn) pc (mark_plain h4)) fun σ H Q hq => ?_, fun _ => pt_imp (pt_cmp (op := .NotIn) pc (mark_plain h4)) fun σ H Q hq => ?_⟩
    · obtain ⟨φ, hd, σd, Qd, Xd, A, w, q, x⟩ := hq
      refine Ter.go A x w fun φ1 h1 H1 d v e1 A1 r1 w1 => Ter.go A1 (x.ext e1) w1 fun φ2 h2 H2 d2 v2 e2 A2 r2 w2 => ?_
      obtain ⟨a, o', o, ev, g, w3, m⟩ := dget_ok A2.sim r2 (r1.ext e2) w2
      exact ⟨a, o', ev, g, by rw [bit m]; exact q φ2 h2 H2 _ _ (e1.trans e2) A2.sim (.bl _) w3⟩
    · obtain ⟨φ, hd, σd, Qd, Xd, A, w, q, x⟩ := hq
      refine Ter.go A x w fun φ1 h1 H1 d v e1 A1 r1 w1 => Ter.go A1 (x.ext e1) w1 fun φ2 h2 H2 d2 v2 e2 A2 r2 w2 => ?_
      obtain ⟨a, o', o, ev, g, ⟨b, eb, w3⟩, m⟩ := dget_ok A2.sim r2 (r1.ext e2) w2
      cases eb
      exact ⟨a, o', ev, g, _, rfl, by rw [bit m]; exact q φ2 h2 H2 _ _ (e1.trans e2) A2.sim rfl w3⟩
end Vd

set_option Elab.async false
set_option linter.all false
set_option maxRecDepth 100000
set_option maxHeartbeats 2000000
/-! a table's display of one entry with a tuple for its key -/
namespace Vd
open PySem PySem.Spec PyProof.Rows L2
noncomputable def tDisp1 (tk tv : TE) : TE := fun σ H Q => ∀ p, H p = none → tk σ (upd H p (.dT [])) fun x H1 => tv σ H1 fun y H2 => ∃ b k, x = .ref b ∧ H2 b = some (.tup (k.map kV)) ∧ H2 p = some (.dT []) ∧ Q (.ref p) (upd H2 p (.dT (L2.putK [] k y)))
noncomputable def dspQ (p : Addr) (Q : VK) : List (V × V) → Hp → Prop
  | [(x, y)], H2 => ∃ b k, x = .ref b ∧ H2 b = some (.tup (k.map kV)) ∧ H2 p = some (.dT []) ∧ Q (.ref p) (upd H2 p (.dT (L2.putK [] k y)))
  | _, _ => False
theorem pe_disp1 {X : Cx} {pos : Pos} {k v : Expr} {tk tv : TE} (hu : X.A.units < cLine) (hk : PE X k tk) (hv : PE X v tv) : PE X (.Dict [some k] [v] pos) (tDisp1 tk tv) := by
  refine ⟨fun pins s σ H Q I q => ?_⟩
  have hn := I.hok.fresh (Nat.le_refl s.heap.objs.size)
  have I1 := I.laid (a := s.heap.objs.size) (o := .dT []) (h' := s.heap.push { cls := .type "dict", data := .dict #[] }) (t' := s.toks) (fun _ _ q => Heap.get?_push_of_some _ q) (Nat.le_refl _) (dt_empty s.heap I.big)
  have hl := pairTrees_length [some k] [v] X.env pos rfl rfl
  have hl1 : (pairTrees [some k] [v] X.env pos).length = 1 := hl
  rw [arm_eval_Dict, zip_pairTrees [some k] [v] X.env pos rfl rfl, dictDisplay_pairs (pairTrees [some k] [v] X.env pos) (fun e => by rw [e] at hl1; cases hl1) (by rw [hl1]; decide)]
  refine wpAny_bind (wpAny_standAt (wpAny_bind (wpAny_subDictH (knd := tupleKind (mixKind X.prog X.w)) (Q := fun d s' => wpAny (model X.prog X.w) X.A (pure (Value.ref d)) (fun u s' => ∃ d, ∃ H', Inv X pins σ H' s' ∧ RelV d u ∧ Q d H') X.xe s') hu (by rw [hl1]; decide) ?_)))
  have q0 : tPairs [(tk, tv)] σ (upd H s.heap.objs.size (.dT [])) (dspQ s.heap.objs.size Q) := q _ hn
  refine thn ((pps_cons hk hv pps_nil).run pins _ σ _ _ I1 q0) fun ws s2 ⟨ps, H2, I2, rel, q2⟩ => ?_
  match ps, q2, rel with
  | [(x, y)], q2, rel =>
    obtain ⟨b, kk, ex, eb, e, q3⟩ := q2
    rcases rel with _ | @⟨_, ⟨u, w2⟩, _, _, ⟨rx, ry⟩, _ | _⟩
    replace rx : RelV x u := rx
    subst ex
    cases (show u = Value.ref b from rx)
    obtain ⟨z, hd, xs, r0, dd⟩ := dt_of I2.hok e
    have ex : xs = [] := by cases r0; rfl
    subst ex
    refine ⟨[(kk, b, w2)], ⟨rfl, rfl, key_of I2.hok eb, trivial⟩, dd, fun h' tk dd' hs => wpAny_pure ⟨.ref s.heap.objs.size, _, ?_, rfl, q3⟩⟩
    have dd2 : h'.DictOfH (tupleKind (mixKind X.prog X.w)) s.heap.objs.size (storedH [] kk b w2) := dd'
    obtain ⟨q, es, ep, hq, h2, h3, h4, _, h5⟩ := dd2
    have hl : (L2.putK [] kk y).length ≤ sizeLine := by have := length_putK ([] : List (List L2.Key × V)) kk y; rw [sizeLine_eq]; simp at this; omega
    refine d_write I2 (by rw [e]; exact True.intro) hs ⟨q, hq⟩ ⟨hl, hd, _, (r0.put kk eb ry).keeps fun c ys ec => ?_, q, es, ep, hq, h2, h3, h4, h5⟩
    rw [upd_ne (ne_of ec e (fun z => nomatch z))]
    exact ec
theorem ddsp_inv {P : Pl} {k v : E} {e : Expr} (h : chkE P (.ddsp k v) e = true) : ∃ k' v' pos, e = .Dict [some k'] [v'] pos ∧ (chkE P k k' && chkE P v v') = true := by
  unfold chkE at h
  split at h <;> first | (rename_i q; cases q; done) | (injections; subst_vars; exact ⟨_, _, _, rfl, h⟩) | cases h
theorem ok_ddsp {k v} (hk : SndE k) (hv : SndE v) : SndE (.ddsp k v) := by
  intro W G lv P WX X C e h
  obtain ⟨k', v', pos, rfl, kk⟩ := ddsp_inv h
  simp only [Bool.and_eq_true] at kk
  obtain ⟨h2, h3⟩ := kk
  have p : PE X (.Dict [some k'] [v'] pos) (Ter W (rV W) WX (wpE G (.ddsp k v))) := pe_imp (pe_disp1 (by have := C.hu; omega) (hk C k' h2).1 (hv C v' h3).1) fun σ H Q hq => by
    obtain ⟨φ, hd, σd, Qd, Xd, A, w, q, x⟩ := hq
    intro p hp
    have e0 : Ext φ (φ ++ [p]) H (upd H p (.dT [])) := Ext.alloc hp
    have A0 : At W (φ ++ [p]) (hd ++ [.dt false []]) (upd H p (.dT [])) σd σ := ⟨A.sim.alloc hp (show RepO W (φ ++ [p]) _ p (.dt false []) from ⟨[], upd_same, .nil⟩), A.st.ext e0⟩
    have r0 : Rep W (φ ++ [p]) (upd H p (.dT [])) (.ref hd.length) (.ref p) := .ref (by rw [← A.sim.len]; simp)
    refine Ter.go A0 (x.ext e0) w fun φ1 h1 H1 d v e1 A1 r1 w1 => Ter.go A1 (x.ext (e0.trans e1)) w1 fun φ2 h2 H2 d2 v2 e2 A2 r2 w2 => ?_
    have r1 := r1.ext e2
    have r0 := r0.ext (e1.trans e2)
    obtain ⟨ys, ks, rfl, ek, eh, w3⟩ := w2
    obtain ⟨b, hb, vs, q1, q2⟩ := A2.sim.obj _ _ eh
    cases r0 with
    | ref hp2 =>
      rw [hp2] at hb; cases hb
      cases r1 with
      | tup t1 t2 t3 =>
        have ev := keysD_rep t3 ek
        subst ev
        obtain ⟨vs', p1, p2⟩ := putA_rep ks q2 r2
        have q3 : H2 p = some (.dT []) := q1
        refine ⟨_, ks, rfl, t1, q3, ?_⟩
        have E := Ext.write (φ := φ2) (H := H2) (o := .dT (L2.putK [] ks v2)) (List.mem_of_getElem? hp2) (nofrz q3 (fun _ _ z => nomatch z))
        exact q φ2 _ _ _ _ (e0.trans (e1.trans (e2.trans E))) (A2.sim.write hp2 (nofrz q3 (fun _ _ z => nomatch z)) (show RepO W φ2 _ _ (.dt false (putA [] ks d2)) from ⟨vs', by rw [← p1]; exact upd_same, p2.ext E⟩)) (.ref hp2) w3
  exact ⟨p, fun _ => tst_of p rfl⟩
/-! ### len of a table; its keys walked (it is locked from there on) -/
theorem dln_inv {P : Pl} {a : E} {e : Expr} (h : chkE P (.dln a) e = true) : ∃ x p a' pos, e = .Call (.Name x p) [a'] [] pos ∧ (P.cm && decide (x = Str.ofString "len") && glB P.sc x && okN x && !starB a' && chkE P a a') = true := by
  unfold chkE at h
  split at h <;> first | (rename_i q; cases q; done) | (injections; subst_vars; exact ⟨_, _, _, _, rfl, h⟩) | cases h
theorem cr_dlen {X : Cx} : CallR X (.builtin "len") (fun xs H Q => ∃ a kvs, xs = [V.ref a] ∧ Rd H a (.dK kvs) ∧ Q (.int kvs.length) H) := by
  intro pins s σ H xs us Q I r h
  obtain ⟨a, kvs, rfl, ha, q⟩ := h
  cases r with
  | cons ru rr =>
    cases rr
    cases ru
    exact d_len I ha fun t s' I' => ⟨.int kvs.length, H, I', ⟨t, rfl⟩, q⟩
theorem ok_dln {a} (ha : SndE a) : SndE (.dln a) := by
  intro W G lv P WX X C e h
  obtain ⟨x, p, a', pos, rfl, k⟩ := dln_inv h
  simp only [Bool.and_eq_true, decide_eq_true_eq, Bool.not_eq_true'] at k
  obtain ⟨⟨⟨⟨⟨hc, rfl⟩, h2⟩, h3⟩, h4⟩, h5⟩ := k
  have pr : PE X (.Call (.Name (Str.ofString "len") p) [a'] [] pos) (Ter W (rV W) WX (wpE G (.dln a))) :=
    pe_imp (pe_callV (.inl ⟨"len", rfl⟩) cr_dlen (C.gl' h2) (C.bn "len" _ rfl) (biV_boot (f := "len") rfl) (pa_cons (ha C a' h5).1 pa_nil (star_cons h4)) (okN_inv h3).2.2 (okN_inv h3).1 (star_cons h4) (star_any (es := []) rfl)) fun σ H Q hq => by
      obtain ⟨φ, hd, σd, Qd, Xd, A, w, q, x⟩ := hq
      refine Ter.go A x w fun φ1 h1 H1 d v e1 A1 r1 w1 => ?_
      obtain ⟨r, z, kvs, rfl, er, w1⟩ := w1
      obtain ⟨b, hb, vs, q1, q2⟩ := A1.sim.obj _ _ er
      cases r1 with
      | ref hp =>
        rw [hp] at hb; cases hb
        refine ⟨_, _, rfl, q1.rd, ?_⟩
        rw [zipA_len q2]
        exact q φ1 h1 H1 _ _ e1 A1.sim (.int _) w1
  exact ⟨pr, fun _ => tst_of pr rfl⟩
noncomputable def iKysL (td : TE) : TI := fun σ H R => td σ H fun x H1 => ∃ d kvs, x = .ref d ∧ H1 d = some (.dK kvs) ∧ ∀ od, R (Itk d od kvs) (upd H1 d (.frz od (.dK kvs)))
theorem pi_kysL {X : Cx} {tg e : Expr} {td : TE} (he : PE X e td) : PI X tg e (iKysL td) := by
  refine ⟨fun pins s σ H R I h => ?_⟩
  refine thn (he.run pins s σ H _ I h) fun u s1 ⟨x, H1, I1, rx, d, kvs, ex, hd, q⟩ => ?_
  subst ex
  obtain rfl : u = Value.ref d := rx
  obtain ⟨od, I2⟩ := I1.lock hd (show Mut (some (HO.dK kvs)) from True.intro)
  obtain ⟨hs, hgd, hx, es, ep, vs, hdt, hsz, kv, hm⟩ := I2.frzK upd_same
  refine iter_keys hs hgd hx hdt (pi_one (tk := s1.toks) I2 _ (turn_keys _ hdt) ⟨_, Heap.get?_push_size _ rfl, rfl, ?_⟩ (q od))
  rw [hsz] <;> rfl
end Vd

set_option Elab.async false
set_option linter.all false
set_option maxRecDepth 100000
set_option maxHeartbeats 4000000
/-! classes called, methods, isinstance of the exception at hand -/
namespace Vd
open PySem PySem.Spec PyProof.Rows L2
section
variable {X : Cx} {CT : CXT} {k : Nat} {g Cc : Addr} {gd : FuncData} {ps : List Str} {sp : Sp} {EE : L2.St → L2.XK} {nm m : Str} {p1 p2 p3 : Pos} {a1 o1 : Expr} {as : List Expr} {tr : TE} {tas : TA}
/-- a def's promise, run at the slots σ -/
theorem go_fn {pn : List (Addr × Obj)} {σ : L2.St} {H : Hp} {s : Shared} {Q : VK} {us : List Value} {vs : List V} (F : FnOk X.prog X.w X.K X.mg X.base CT k g gd ps sp) (hr : Room k X.A) (hb : Binds X.K gd ps []) (hx : PassesAt CT X σ (EE σ)) (I : Inv X pn σ H s) (rv : Vals vs us) (hq : sp vs H Q (EE σ)) :
    wpAny (model X.prog X.w) X.A (call (.ref g) us) (EP X pn σ Q) X.xe s := run_fnS F hr hb hx I rv hq
/-- what the class at Cc promises of its method m -/
noncomputable def MAt (X : Cx) (m : Str) (Cc : Addr) (sp : Sp) : Prop := Cls X.K Cc ∧ ∃ (g : Addr) (gd : FuncData) (ps : List Str) (k : Nat), Meth X.K Cc m g ∧ FnOk X.prog X.w X.K X.mg X.base (CX X.prog X.w) k g gd ps sp ∧ Room k X.A ∧ Binds X.K gd ps []
/-- o.m(a, ..), that may raise; the class is the one that o is of -/
theorem pe_methR {pl : Sem Bool} (he : PE X o1 tr) (hx : ∀ σ, PassesAt (CX X.prog X.w) X σ (EE σ)) (ha : PA X (a1 :: as) tas)
    (hst : starEach (a1 :: as) X.env = (false, eval a1 X.env) :: starEach as X.env) (hpl : (backTo p3 (starEach as X.env)).any (·.1) = false)
    (hev : eval (.Call (.Attribute o1 m p2) (a1 :: as) [] p3) X.env = (do
      let w ← eval o1 X.env
      standAt p2.atName
      let (ff, fst) ← holding [w] (getMethod w m pl)
      callWith p3 ff fst (backTo p3 (starEach (a1 :: as) X.env)) (backToKw p3 (keywordEach [] X.env)))) :
    PE X (.Call (.Attribute o1 m p2) (a1 :: as) [] p3) (fun σ H Q => tr σ H fun x H1 => ∃ a Cc dx fs sp, x = .ref a ∧ H1 a = some (.ins Cc dx fs) ∧ MAt X m Cc sp ∧ fs.lookup m = none ∧ tas σ H1 fun vs H2 => sp (x :: vs) H2 Q (EE σ)) := by
  constructor
  intro pn s σ H Q I h
  refine PySem.W.methodCall_KW (pl := pl) (thn (he.run pn s σ H _ I h) fun u s1 hh => ?_) hev
  obtain ⟨x, H1, I1, rx, a, Cc, dx, fs, sp, ex, ea, ⟨hc, g, gd, ps, k, hm, F, hr, hb⟩, l, q⟩ := hh
  subst ex
  cases (show u = Value.ref a from rx)
  refine getmeth_ok I1 ea hc hm l ?_
  refine PySem.W.callWith_K (first := [.ref a]) (h₀ := X.base) I.ok.mod.kin hm.kp (thn (ha.run p3 pn s1 σ H1 _ I1 q) fun us s2 hh => ?_) hst hpl
  obtain ⟨vs, H2, I2, r, q2⟩ := hh
  exact ⟨I2.kIn, go_fn (us := .ref a :: us) (vs := .ref a :: vs) F hr hb (hx σ) I2 (.cons rfl r) q2⟩
/-- o.m(), that may raise -/
theorem pe_methR0 {pl : Sem Bool} (he : PE X o1 tr) (hx : ∀ σ, PassesAt (CX X.prog X.w) X σ (EE σ))
    (hev : eval (.Call (.Attribute o1 m p2) [] [] p3) X.env = (do
      let w ← eval o1 X.env
      standAt p2.atName
      let (ff, fst) ← holding [w] (getMethod w m pl)
      callWith p3 ff fst (backTo p3 (starEach [] X.env)) (backToKw p3 (keywordEach [] X.env)))) :
    PE X (.Call (.Attribute o1 m p2) [] [] p3) (fun σ H Q => tr σ H fun x H1 => ∃ a Cc dx fs sp, x = .ref a ∧ H1 a = some (.ins Cc dx fs) ∧ MAt X m Cc sp ∧ fs.lookup m = none ∧ sp [x] H1 Q (EE σ)) := by
  constructor
  intro pn s σ H Q I h
  refine PySem.W.methodCall_KW (pl := pl) (thn (he.run pn s σ H _ I h) fun u s1 hh => ?_) hev
  obtain ⟨x, H1, I1, rx, a, Cc, dx, fs, sp, ex, ea, ⟨hc, g, gd, ps, k, hm, F, hr, hb⟩, l, q⟩ := hh
  subst ex
  cases (show u = Value.ref a from rx)
  refine getmeth_ok I1 ea hc hm l ?_
  exact PySem.W.callWith_K0 (first := [.ref a]) I1.kIn hm.kp (go_fn (us := [.ref a]) (vs := [.ref a]) F hr hb (hx σ) I1 (.cons rfl .nil) q)
/-- C(a, ..), that may raise -/
theorem go_make {pn : List (Addr × Obj)} {σ : L2.St} {H : Hp} {s : Shared} {Q : VK} {us : List Value} {vs : List V} (M : Mk X.K Cc g) (F : FnOk X.prog X.w X.K X.mg X.base CT k g gd ps sp) (hr : Room (k + 1) X.A) (hb : Binds X.K gd ps []) (hx : PassesAt CT X σ (EE σ)) (I : Inv X pn σ H s) (rv : Vals vs us)
    (hq : ∀ x dx, H x = none → H dx = none → dx ≠ x → sp (.ref x :: vs) (upd (upd H dx (.own x)) x (.ins Cc dx [])) (fun v H2 => v = .non ∧ Q (.ref x) H2) (EE σ)) :
    wpAny (model X.prog X.w) X.A (call (.ref Cc) us) (EP X pn σ Q) X.xe s := by
  have go := hq (s.heap.objs.size + 1) s.heap.objs.size (I.hok.fresh (Nat.le_succ _)) (I.hok.fresh (Nat.le_refl _)) (Nat.ne_of_lt (Nat.lt_succ_self _))
  have J := Inv.made (C := Cc) I
  have rv2 : Vals (V.ref (s.heap.objs.size + 1) :: vs) (Value.ref (s.heap.objs.size + 1) :: us) := .cons rfl rv
  have hlen : (Value.ref (s.heap.objs.size + 1) :: us).length = ps.length := by
    rw [← rv2.length]
    exact F.len _ _ _ _ go
  have bb := hb _ (Value.ref (s.heap.objs.size + 1) :: us) J.kIn (by rw [List.append_nil]; exact hlen)
  rw [List.append_nil] at bb
  have run := F.run _ X.stack _ _ ⟨Value.ref (s.heap.objs.size + 1) :: us, []⟩ (Value.ref (s.heap.objs.size + 1) :: us) _ _ (EE σ) (hr.make Cc us []) (J.env0.make Cc us []) bb rv2 go
  refine wpAny_call (make_map (f := g) I.kIn M.makes M.init (beq_iff_eq.mp M.fn) (codeAny_mono run fun r s' hw => ?_))
  match r, hw with
  | .error e, hw => exact hx pn _ _ e s' J hw
  | .ok (.ret u), hw =>
    obtain ⟨v, H', I3, r3, ev, q3⟩ := J.after hw
    subst ev
    exact ⟨r3, V.ref (s.heap.objs.size + 1), H', I3, rfl, q3⟩
  | .ok .next, hw => exact False.elim hw
  | .ok .brk, hw => exact False.elim hw
  | .ok .cont, hw => exact False.elim hw
theorem pe_makeR (M : Mk X.K Cc g) (F : FnOk X.prog X.w X.K X.mg X.base CT k g gd ps sp) (hr : Room (k + 1) X.A) (hg : Gl X nm) (hmg : X.mg nm = some (.ref Cc)) (hb : Binds X.K gd ps []) (hx : ∀ σ, PassesAt CT X σ (EE σ)) (ha : PA X (a1 :: as) tas)
    (hdb : (nm == ("__debug__" : Str)) = false) (hst : starEach (a1 :: as) X.env = (false, eval a1 X.env) :: starEach as X.env) (hpl : (backTo p3 (starEach as X.env)).any (·.1) = false) :
    PE X (.Call (.Name nm p1) (a1 :: as) [] p3) (fun σ H Q => tas σ H fun vs H1 => ∀ x dx, H1 x = none → H1 dx = none → dx ≠ x → sp (.ref x :: vs) (upd (upd H1 dx (.own x)) x (.ins Cc dx [])) (fun v H2 => v = .non ∧ Q (.ref x) H2) (EE σ)) := by
  constructor
  intro pn s σ H Q I h
  refine wpAny_Call_Name_kw (ld_glob I hg hmg ?_ hdb)
  refine PySem.W.callWith_K (h₀ := X.base) I.ok.mod.kin M.kp (thn (ha.run p3 pn s σ H _ I h) fun us s1 hh => ?_) hst hpl
  obtain ⟨vs, H1, I1, r, q⟩ := hh
  exact ⟨I1.kIn, go_make M F hr hb (hx σ) I1 r q⟩
end
section
variable {W : Wd} {G : Gam} {lv : Nat} {P : Pl} {WX : L2.WX} {X : Cx}
theorem make_inv {c : String} {es : Es} {e : Expr} (h : chkE P (.make c es) e = true) : ∃ x p v vs pos, e = .Call (.Name x p) (v :: vs) [] pos ∧ (P.cm && decide (x = Str.ofString c) && glB P.sc x && okN x && (v :: vs).all (fun e => !starB e) && chkEs P es (v :: vs)) = true := by
  unfold chkE at h
  split at h <;> first | (rename_i q; cases q; done) | (injections; subst_vars; exact ⟨_, _, _, _, _, rfl, h⟩) | cases h
theorem ok_make {c es} (hs : SndEs es) : SndE (.make c es) := by
  intro W G lv P WX X C e h
  obtain ⟨x, p, v, vs, pos, rfl, k⟩ := make_inv h
  simp only [Bool.and_eq_true, decide_eq_true_eq] at k
  obtain ⟨⟨⟨⟨⟨hc, rfl⟩, h2⟩, h3⟩, h4⟩, h5⟩ := k
  have pr : PE X (.Call (.Name (Str.ofString c) p) (v :: vs) [] pos) (Ter W (rV W) WX (wpE G (.make c es))) := by
    cases ef : G.isMk c with
    | false =>
      refine ⟨fun pins s σ H Q I hq => ?_⟩
      obtain ⟨φ, hd, σd, Qd, Xd, A, ⟨w, _⟩, q, x⟩ := hq
      rw [ef] at w; cases w
    | true =>
      obtain ⟨Ca, fa, fd, ps, kk, me, hlv, hm, M, hb, F, hG⟩ := C.mks hc c ef
      have h4' : starB v = false ∧ vs.all (fun e => !starB e) = true := by
        rw [List.all_cons, Bool.and_eq_true] at h4
        exact ⟨by simpa using h4.1, h4.2⟩
      have hcl : clOf W.mg c = some Ca := by
        unfold clOf
        rw [← C.mg, hm]
      refine pe_imp (pe_makeR M F (by rw [← hlv]; exact C.room hc) (C.gl' h2) hm hb (fun σ => passAt C.tk σ) ((hs C (v :: vs) h5).1 h4) (okN_inv h3).1 (star_cons h4'.1) (star_any h4'.2)) fun σ H Q hq => ?_
      obtain ⟨φ, hd, σd, Qd, Xd, A, ⟨_, w⟩, q, x⟩ := hq
      refine Ter.go A x w fun φ1 h1 H1 d vv e1 A1 r1 w1 => ?_
      intro xa dx nx ndx nex
      rw [hG] at w1
      have s1 : Sim W φ1 h1 (upd H1 dx (.own xa)) := A1.sim.new ndx
      have e2 : Ext φ1 φ1 H1 (upd H1 dx (.own xa)) := Ext.new ndx
      have nx2 : (upd H1 dx (.own xa)) xa = none := by rw [upd_ne (Ne.symm nex)]; exact nx
      have e3 : Ext φ1 (φ1 ++ [xa]) (upd H1 dx (.own xa)) (upd (upd H1 dx (.own xa)) xa (.ins Ca dx [])) := Ext.alloc nx2
      have s2 : Sim W (φ1 ++ [xa]) (h1 ++ [.ins c [] []]) (upd (upd H1 dx (.own xa)) xa (.ins Ca dx [])) := s1.alloc nx2 ⟨Ca, dx, [], upd_same, hcl, .nil, rfl⟩
      have e4 := e2.trans e3
      unfold mkW at w1
      refine ⟨W.fb, φ1 ++ [xa], h1 ++ [.ins c [] []], .ref h1.length :: d, _, _, s2, .cons (.ref (by rw [← A1.sim.len]; simp)) (r1.ext e4), w1, ?_, ?_⟩
      · intro φ' hd' H' dv vv' e5 s5 r5 w5
        obtain ⟨rfl, w5⟩ := w5
        cases r5
        refine ⟨rfl, ?_⟩
        have e6 := e4.trans e5
        have hx : φ'[h1.length]? = some xa := by
          obtain ⟨l, el, _⟩ := e5.pre
          rw [el, List.getElem?_append_left (by simp [A1.sim.len]), ← A1.sim.len]
          simp
        exact Exit.ok (W := W) A1.sim e6 s5 (.ref hx) w5 (q.ext e1)
      · intro φ' hd' H' cc CC e5 s5 hk w5
        have e6 := e4.trans e5
        rcases w5 with w5 | ⟨pp, w5⟩
        · exact x φ' hd' H' cc CC (e1.trans e6) s5 hk w5
        · obtain ⟨l, el, hl⟩ := e6.pre
          have ht : φ'.take h1.length = φ1 := by rw [el, ← A1.sim.len]; simp
          have pre : hd'.take h1.length = h1 := by
            obtain ⟨t, et⟩ := pp
            rw [← et]; simp
          have S2 := s5.take (n := h1.length) (by rw [pre]; exact A1.sim.bdo) pp.length_le
          rw [ht, pre] at S2
          have e7 : Ext φ1 φ1 H1 H' := ⟨⟨[], by simp, by simp⟩, e6.keep, e6.there, e6.frz⟩
          exact x φ1 h1 H' cc CC (e1.trans e7) S2 hk w5
  exact ⟨pr, fun _ => tst_of pr rfl⟩
theorem meth_inv {o : E} {f : String} {es : Es} {e : Expr} (h : chkE P (.meth o f es) e = true) : ∃ o' g ap vs cp, e = .Call (.Attribute o' g ap) vs [] cp ∧ (P.cm && decide (g = Str.ofString f) && (ap.endLine == cp.line) && decide (vs.length < 20) && baseB o' && chkE P o o' && vs.all (fun e => !starB e) && chkEs P es vs) = true := by
  unfold chkE at h
  split at h <;> first | (rename_i q; cases q; done) | (injections; subst_vars; exact ⟨_, _, _, _, _, rfl, h⟩) | cases h
theorem flook_none {ns : List String} {vs : List D} {ws : List V} {f : String} (h : flook ns vs f = none) (l1 : ns.length = ws.length) (l2 : vs.length = ws.length) : ((ns.map Str.ofString).zip ws).lookup (Str.ofString f) = none := by
  induction ns generalizing vs ws with
  | nil => rfl
  | cons n ns ih =>
    cases ws with
    | nil => cases l1
    | cons w ws =>
      cases vs with
      | nil => cases l2
      | cons v vs =>
        simp only [flook] at h
        show List.lookup (Str.ofString f) ((Str.ofString n, w) :: (ns.map Str.ofString).zip ws) = none
        by_cases e : n = f
        · rw [if_pos e] at h
          cases h
        · rw [if_neg e] at h
          have ne : (Str.ofString f == Str.ofString n) = false := by
            rw [beq_eq_false_iff_ne]
            exact fun z => e (ofString_inj z).symm
          rw [List.lookup_cons, ne]
          exact ih h (by simpa using l1) (by simpa using l2)
theorem meth_ev {o : Expr} {name : Str} {ap pos : Pos} {es : List Expr} {env : Env} (hbase : attributeBase o name env (eval o env) = eval o env) (hn : es.length < 20) (hs : es.all (fun e => !starB e) = true) (hline : (ap.endLine == pos.line) = true) :
    eval (.Call (.Attribute o name ap) es [] pos) env = (do
      let w ← eval o env
      standAt ap.atName
      let (ff, fst) ← holding [w] (getMethod w name (do return (← importBound o env).getD true))
      callWith pos ff fst (backTo pos (starEach es env)) (backToKw pos (keywordEach [] env))) := by
  have hform : methodCallForm (es.length + ([] : List Keyword).length) (backTo pos (starEach es env)) (backToKw pos (keywordEach [] env)) = true := bm_plain hn hs
  have hpos : methodCallPos true o env ap pos = pure pos := by unfold methodCallPos; simp [hline]
  rw [arm_eval_Call, hbase]
  unfold methodCall
  rw [hform]
  unfold calleeOf
  rw [hpos]
  rfl
theorem ok_meth {o f es} (ho : SndE o) (hs : SndEs es) : SndE (.meth o f es) := by
  intro W G lv P WX X C e h
  obtain ⟨o', g, ap, vs, cp, rfl, k⟩ := meth_inv h
  simp only [Bool.and_eq_true, decide_eq_true_eq] at k
  obtain ⟨⟨⟨⟨⟨⟨⟨hc, rfl⟩, hl⟩, hn⟩, h1⟩, h2⟩, h3⟩, h4⟩ := k
  have pr : PE X (.Call (.Attribute o' (Str.ofString f) ap) vs [] cp) (Ter W (rV W) WX (wpE G (.meth o f es))) := by
    have cls : ∀ {φ1 h1 H1 d v c ns vs0 σ σd}, At W φ1 h1 H1 σd σ → Rep W φ1 H1 d v → rdI h1 d = some (c, ns, vs0) → G.isMe c f = true → flook ns vs0 f = none →
        ∃ a Cc dx fs, v = .ref a ∧ H1 a = some (.ins Cc dx fs) ∧ MAt X (Str.ofString f) Cc (SPd W (G.me c f)) ∧ fs.lookup (Str.ofString f) = none := by
      intro φ1 h1 H1 d v c ns vs0 σ σd A1 r1 ec hme hl'
      obtain ⟨Cm, fa, fd, ps, m1, m2, m3, m4, m5⟩ := C.mes hc c f hme
      have fin : ∀ {C' dx ws} {p : Addr}, H1 p = some (.ins C' dx ((ns.map Str.ofString).zip ws)) → clOf W.mg c = some C' → Reps W φ1 H1 vs0 ws → ns.length = ws.length → v = .ref p →
          ∃ a Cc dx fs, v = .ref a ∧ H1 a = some (.ins Cc dx fs) ∧ MAt X (Str.ofString f) Cc (SPd W (G.me c f)) ∧ fs.lookup (Str.ofString f) = none := by
        intro C' dx ws p e2 hcc rs ll ev
        rw [m1] at hcc
        cases hcc
        exact ⟨p, Cm, dx, _, ev, e2, ⟨m2, fa, fd, ps, lv, m3, m5, C.room hc, m4⟩, flook_none hl' ll rs.len⟩
      cases r1 with
      | vi e2 n hcc ef rs ll =>
        cases ec
        subst ef
        exact fin e2 hcc rs ll rfl
      | @ref n p hp =>
        have e : (match h1[n]? with
          | some (.ins c ns vs) => some (c, ns, vs)
          | _ => none) = some (c, ns, vs0) := ec
        cases eo : h1[n]? with
        | none => rw [eo] at e; cases e
        | some ob =>
          rw [eo] at e
          cases ob with
          | lst => cases e
          | dk => cases e
          | dt => cases e
          | ins c2 ns2 vs2 =>
            cases e
            obtain ⟨b, hb, C', dx, ws, q1, q2, q3, q4⟩ := A1.sim.obj n _ eo
            rw [hp] at hb; cases hb
            exact fin q1 q2 q3 q4 rfl
      | _ => cases ec
    cases vs with
    | nil =>
      refine pe_imp (pe_methR0 (ho C o' h2).1 (fun σ => passAt C.tk σ) (meth_ev (base_plain h1) hn h3 hl)) fun σ H Q hq => ?_
      obtain ⟨φ, hd, σd, Qd, Xd, A, w, q, x⟩ := hq
      refine Ter.go A x w fun φ1 h1 H1 d v e1 A1 r1 w1 => ?_
      obtain ⟨c, ns, vs0, ec, hme, hl', w1⟩ := w1
      obtain ⟨a, Cc, dx, fs, ev, ea, ma, lk⟩ := cls A1 r1 ec hme hl'
      refine ⟨a, Cc, dx, fs, _, ev, ea, ma, lk, ?_⟩
      cases es with
      | nil => exact ⟨W.fb, φ1, h1, [d], Qd, Xd, A1.sim, .cons r1 .nil, w1, q.ext e1, x.ext e1⟩
      | cons => simp [chkEs] at h4
    | cons v vs =>
      have h4' : starB v = false ∧ vs.all (fun e => !starB e) = true := by
        rw [List.all_cons, Bool.and_eq_true] at h3
        exact ⟨by simpa using h3.1, h3.2⟩
      refine pe_imp (pe_methR (ho C o' h2).1 (fun σ => passAt C.tk σ) ((hs C (v :: vs) h4).1 h3) (star_cons h4'.1) (star_any h4'.2) (meth_ev (base_plain h1) hn h3 hl)) fun σ H Q hq => ?_
      obtain ⟨φ, hd, σd, Qd, Xd, A, w, q, x⟩ := hq
      refine Ter.go A x w fun φ1 h1 H1 d v e1 A1 r1 w1 => ?_
      obtain ⟨c, ns, vs0, ec, hme, hl', w1⟩ := w1
      obtain ⟨a, Cc, dx, fs, ev, ea, ma, lk⟩ := cls A1 r1 ec hme hl'
      refine ⟨a, Cc, dx, fs, _, ev, ea, ma, lk, ?_⟩
      exact Ter.go A1 (x.ext e1) w1 fun φ2 h2 H2 d2 v2 e2 A2 r2 w2 => ⟨W.fb, φ2, h2, d :: d2, Qd, Xd, A2.sim, .cons (r1.ext e2) r2, w2, q.ext (e1.trans e2), x.ext (e1.trans e2)⟩
  exact ⟨pr, fun _ => tst_of pr rfl⟩
/-! ### isinstance of the exception -/
theorem ise_inv {i : Nat} {t : String} {e : Expr} (h : chkE P (.ise i t) e = true) : ∃ x p y py t' p' pos, e = .Call (.Name x p) [.Name y py, .Name t' p'] [] pos ∧
    (P.ex && decide (x = Str.ofString "isinstance") && glB P.sc x && decide (P.N[i]? = some y) && visB P.sc y && okN y && decide (t' = Str.ofString t) && glB P.sc t' && okN t') = true := by
  unfold chkE at h
  split at h <;> first | (rename_i q; cases q; done) | (injections; subst_vars; exact ⟨_, _, _, _, _, _, _, rfl, h⟩) | cases h
theorem ok_ise {i t} : SndE (.ise i t) := by
  intro W G lv P WX X C e h
  obtain ⟨x, p, y, py, t', p', pos, rfl, k⟩ := ise_inv h
  simp only [Bool.and_eq_true, decide_eq_true_eq] at k
  obtain ⟨⟨⟨⟨⟨⟨⟨⟨hx, rfl⟩, h1⟩, h2⟩, h3⟩, h4⟩, rfl⟩, h5⟩, h6⟩ := k
  have pv : PE X (.Name y py) _ := pe_var (i := i) (by rw [C.N]; exact h2) (C.vis h3) (okN_inv h4).1 (okN_inv h4).2.1
  have pr : PE X (.Call (.Name (Str.ofString "isinstance") p) [.Name y py, .Name (Str.ofString t) p'] [] pos) (Ter W (rV W) WX (wpE G (.ise i t))) := by
    refine ⟨fun pins s σ H Q I hq => ?_⟩
    obtain ⟨φ, hd, σd, Qd, Xd, A, ⟨c, b, w1, w2, w3, w4⟩, q, xx⟩ := hq
    obtain ⟨a, Ca, z1, z2, z3⟩ := C.xe hx i c w2
    have hσ : σ[i]? = some (some (.ref a)) := A.st.xs _ z1 w1
    have fin : Q (.bl b) H := q φ hd H _ _ .refl A.sim (.bl b) w4
    rcases C.sub c t b w3 Ca z2 with ⟨T, t1, t2⟩ | ⟨rfl, t1, t2⟩
    · have pt : PE X (.Name (Str.ofString t) p') _ := pe_glob (v := .ref T) (C.gl' h5) t1 rfl (okN_inv h6).1
      have pa : PA X [.Name y py, .Name (Str.ofString t) p'] _ := pa_cons pv (pa_cons pt pa_nil)
      exact (pe_callB z3 (C.gl' h1) C.isn boot_isinstance pa (by decide) (by decide)).run pins s σ H Q I ⟨_, hσ, .ref T, .ref T, b, rfl, fun u r => r, t2, fin⟩
    · have pt : PE X (.Name (Str.ofString "ValueError") p') (tC (.ty "ValueError")) := pe_bltn (C.gl' h5) t1 (by decide +kernel) rfl (okN_inv h6).2.2 (okN_inv h6).1
      have pa : PA X [.Name y py, .Name (Str.ofString "ValueError") p'] _ := pa_cons pv (pa_cons pt pa_nil)
      exact (pe_callB z3 (C.gl' h1) C.isn boot_isinstance pa (by decide) (by decide)).run pins s σ H Q I ⟨_, hσ, .ty "ValueError", .type "ValueError", b, rfl, fun u r => r, t2, fin⟩
  exact ⟨pr, fun _ => tst_of pr rfl⟩
end
end Vd

set_option Elab.async false
set_option linter.all false
set_option maxRecDepth 100000
set_option maxHeartbeats 2000000
namespace Vd
open PySem PySem.Spec PyProof.Rows L2
theorem starE {P : Pl} {c : E} {e : Expr} (h : chkE P c e = true) : starB e = false := by
  cases e <;> first | rfl | (cases c <;> simp [chkE] at h)
theorem ok_nil : SndEs .nil := by
  intro W G lv P WX X C vs h
  cases vs with
  | nil =>
    refine ⟨fun _ => pa_imp pa_nil fun σ H Q hq => ?_, fun h => absurd rfl h⟩
    obtain ⟨φ, hd, σd, Qd, Xd, A, w, q, x⟩ := hq
    exact q φ hd H [] [] .refl A.sim .nil w
  | cons => simp [chkEs] at h
theorem ok_cons {c r} (hc : SndE c) (hr : SndEs r) : SndEs (.cons c r) := by
  intro W G lv P WX X C vs h
  cases vs with
  | nil => simp [chkEs] at h
  | cons v vs =>
    simp only [chkEs, Bool.and_eq_true] at h
    obtain ⟨h1, h2⟩ := h
    obtain ⟨pv, pt⟩ := hc C v h1
    obtain ⟨ra, rb⟩ := hr C vs h2
    refine ⟨fun hs => ?_, fun _ pos => ?_⟩
    · rw [List.all_cons, Bool.and_eq_true] at hs
      refine pa_imp (pa_cons pv (ra hs.2) (star_cons (by simpa using hs.1))) fun σ H Q hq => ?_
      obtain ⟨φ, hd, σd, Qd, Xd, A, w, q, x⟩ := hq
      exact Ter.go A x w fun φ1 h1 H1 d v e1 A1 r1 w1 => Ter.go A1 (x.ext e1) w1 fun φ2 h2 H2 d2 v2 e2 A2 r2 w2 => q φ2 h2 H2 _ _ (e1.trans e2) A2.sim (.cons (r1.ext e2) r2) w2
    · cases vs with
      | nil =>
        cases r with
        | cons => simp [chkEs] at h2
        | nil =>
          refine ⟨pe_imp (pe_one pv) fun _ _ _ h => h, pe_imp (pe_one pv) fun _ _ _ h => h, fun ht => ?_⟩
          have ht' : tstB c = true := by simp only [tstsB, Bool.and_eq_true] at ht; exact ht.1
          exact ⟨pw_imp (pw_and1 (pt ht')) fun _ _ _ h => h, pw_imp (pw_or1 (pt ht')) fun _ _ _ h => h⟩
      | cons u us =>
        obtain ⟨i1, i2, i3⟩ := rb (by simp) pos
        cases r with
        | nil => simp [chkEs] at h2
        | cons c2 r2 =>
          refine ⟨pe_imp (pe_and pv i1) fun σ H Q hq => ?_, pe_imp (pe_or pv i2) fun σ H Q hq => ?_, fun ht => ?_⟩
          · obtain ⟨φ, hd, σd, Qd, Xd, A, w, q, x⟩ := hq
            refine Ter.go A x w fun φ1 h1 H1 d v e1 A1 r1 w1 => ?_
            obtain ⟨b, rfl, w1⟩ := w1
            cases r1
            refine ⟨b, rfl, ?_⟩
            cases b with
            | true =>
              rw [if_pos rfl] at w1 ⊢
              exact Ter.go A1 (x.ext e1) w1 fun φ2 h2 H2 d2 v2 e2 A2 r2 w2 => q φ2 h2 H2 _ _ (e1.trans e2) A2.sim r2 w2
            | false =>
              rw [if_neg Bool.false_ne_true] at w1 ⊢
              exact q φ1 h1 H1 _ _ e1 A1.sim (.bl _) w1
          · obtain ⟨φ, hd, σd, Qd, Xd, A, w, q, x⟩ := hq
            refine Ter.go A x w fun φ1 h1 H1 d v e1 A1 r1 w1 => ?_
            obtain ⟨b, rfl, w1⟩ := w1
            cases r1
            refine ⟨b, rfl, ?_⟩
            cases b with
            | true =>
              rw [if_pos rfl] at w1 ⊢
              exact q φ1 h1 H1 _ _ e1 A1.sim (.bl _) w1
            | false =>
              rw [if_neg Bool.false_ne_true] at w1 ⊢
              exact Ter.go A1 (x.ext e1) w1 fun φ2 h2 H2 d2 v2 e2 A2 r2 w2 => q φ2 h2 H2 _ _ (e1.trans e2) A2.sim r2 w2
          · have ht' : tstB c = true ∧ tstsB (.cons c2 r2) = true := by
              have ht2 : (tstB c && tstsB (.cons c2 r2)) = true := ht
              rw [Bool.and_eq_true] at ht2
              exact ht2
            obtain ⟨j1, j2⟩ := i3 ht'.2
            refine ⟨pw_imp (pw_and (pt ht'.1) j1) fun σ H Q hq => ?_, pw_imp (pw_or (pt ht'.1) j2) fun σ H Q hq => ?_⟩
            · obtain ⟨φ, hd, σd, Qd, Xd, A, w, q, x⟩ := hq
              refine Ter.go (wa := wpT G c) (Qd1 := fun b h1 => if b = true then wpAnd G (.cons c2 r2) σd h1 (fun x h1 => ∃ b, x = .bl b ∧ Qd b h1) Xd else ∃ b, D.bl false = .bl b ∧ Qd b h1) A x w fun φ1 h1 H1 d v e1 A1 r1 w1 => ?_
              cases r1
              cases d with
              | true =>
                rw [if_pos rfl] at w1 ⊢
                exact ⟨φ1, h1, σd, Qd, Xd, A1, w1, q.ext e1, x.ext e1⟩
              | false =>
                rw [if_neg Bool.false_ne_true] at w1 ⊢
                obtain ⟨b, e, w1⟩ := w1
                cases e
                exact q φ1 h1 H1 _ _ e1 A1.sim rfl w1
            · obtain ⟨φ, hd, σd, Qd, Xd, A, w, q, x⟩ := hq
              refine Ter.go (wa := wpT G c) (Qd1 := fun b h1 => if b = true then (∃ b, D.bl true = .bl b ∧ Qd b h1) else wpOr G (.cons c2 r2) σd h1 (fun x h1 => ∃ b, x = .bl b ∧ Qd b h1) Xd) A x w fun φ1 h1 H1 d v e1 A1 r1 w1 => ?_
              cases r1
              cases d with
              | true =>
                rw [if_pos rfl] at w1 ⊢
                obtain ⟨b, e, w1⟩ := w1
                cases e
                exact q φ1 h1 H1 _ _ e1 A1.sim rfl w1
              | false =>
                rw [if_neg Bool.false_ne_true] at w1 ⊢
                exact ⟨φ1, h1, σd, Qd, Xd, A1, w1, q.ext e1, x.ext e1⟩
section
variable {W : Wd} {G : Gam} {lv : Nat} {P : Pl} {WX : L2.WX} {X : Cx}
theorem chkEs_ne {es : Es} {vs : List Expr} (h : chkEs P es vs = true) (hn : es ≠ .nil) : vs ≠ [] := fun e => by
  subst e
  cases es with
  | nil => exact hn rfl
  | cons => simp [chkEs] at h
theorem and_inv {es : Es} {e : Expr} (h : chkE P (.and es) e = true) : ∃ vs pos, e = .BoolOp .And vs pos ∧ chkEs P es vs = true := by
  unfold chkE at h
  split at h <;> first | (rename_i q; cases q; done) | (injections; subst_vars; exact ⟨_, _, rfl, h⟩) | cases h
theorem or_inv {es : Es} {e : Expr} (h : chkE P (.or es) e = true) : ∃ vs pos, e = .BoolOp .Or vs pos ∧ chkEs P es vs = true := by
  unfold chkE at h
  split at h <;> first | (rename_i q; cases q; done) | (injections; subst_vars; exact ⟨_, _, rfl, h⟩) | cases h
theorem pe_no {e : Expr} {t : TE} (h : ∀ σ H Q, ¬ t σ H Q) : PE X e t := ⟨fun _ _ _ _ _ _ q => (h _ _ _ q).elim⟩
theorem pt_no {e : Expr} {t : TT} (h : ∀ σ H Q, ¬ t σ H Q) : PT X e t := ⟨fun _ _ _ _ _ _ q => (h _ _ _ q).elim⟩
theorem ok_and {es} (hs : SndEs es) : SndE (.and es) := by
  intro W G lv P WX X C e h
  obtain ⟨vs, pos, rfl, k⟩ := and_inv h
  cases es with
  | nil => exact ⟨pe_no fun _ _ _ ⟨_, _, _, _, _, _, w, _⟩ => w, fun _ => pt_no fun _ _ _ ⟨_, _, _, _, _, _, w, _⟩ => w⟩
  | cons c r =>
    obtain ⟨i1, i2, i3⟩ := (hs C vs k).2 (chkEs_ne k (by simp)) pos
    exact ⟨i1, fun ht => pt_imp (i3 ht).1.pt fun _ _ _ h => h⟩
theorem ok_or {es} (hs : SndEs es) : SndE (.or es) := by
  intro W G lv P WX X C e h
  obtain ⟨vs, pos, rfl, k⟩ := or_inv h
  cases es with
  | nil => exact ⟨pe_no fun _ _ _ ⟨_, _, _, _, _, _, w, _⟩ => w, fun _ => pt_no fun _ _ _ ⟨_, _, _, _, _, _, w, _⟩ => w⟩
  | cons c r =>
    obtain ⟨i1, i2, i3⟩ := (hs C vs k).2 (chkEs_ne k (by simp)) pos
    exact ⟨i2, fun ht => pt_imp (i3 ht).2.pt fun _ _ _ h => h⟩
theorem ok_onone : SndO .none := by
  intro W G lv P WX X C
  refine ⟨fun e h => ?_, fun e h => ?_⟩
  · cases e with
    | none =>
        refine po_imp po_none fun σ H Q hq => ?_
        obtain ⟨φ, hd, σd, Qd, Xd, A, w, q, x⟩ := hq
        exact q φ hd H _ _ .refl A.sim rfl w
    | some => simp [chkO] at h
  · cases e with
    | nil =>
        refine pts_imp pts_nil fun σ H Q hq => ?_
        obtain ⟨φ, hd, σd, Qd, Xd, A, w, q, x⟩ := hq
        exact q φ hd H _ _ .refl A.sim rfl w
    | cons => simp [chkC] at h
theorem ok_osome {c} (hc : SndE c) : SndO (.some c) := by
  intro W G lv P WX X C
  refine ⟨fun e h => ?_, fun e h => ?_⟩
  · cases e with
    | none => simp [chkO] at h
    | some v =>
        refine po_imp (po_some (hc C v h).1) fun σ H Q hq => ?_
        obtain ⟨φ, hd, σd, Qd, Xd, A, w, q, x⟩ := hq
        refine Ter.go A x w fun φ1 h1 H1 d v e1 A1 r1 w1 => ?_
        obtain ⟨i, rfl, w1⟩ := w1
        cases r1
        exact ⟨i, rfl, q φ1 h1 H1 _ _ e1 A1.sim rfl w1⟩
  · match e, h with
    | [], h => simp [chkC] at h
    | [v], h =>
      simp only [chkC, Bool.and_eq_true] at h
      exact pts_imp (pts_one ((hc C v h.1).2 h.2)) fun σ H Q hq => hq
    | _ :: _ :: _, h => simp [chkC] at h

/-! ### targets -/
noncomputable def TgOk (W : Wd) (X : Cx) (t : Tg) (e : Expr) : Prop := PG X e (fun v σ H Q => ∃ (φ : List Addr) (hd : Hd) (d : D) (σd : DSt) (K : DSt → Prop), Sim W φ hd H ∧ RepSt W φ H σd σ ∧ Rep W φ H d v ∧ tgW t d σd hd K ∧ ∀ σd' σ', RepSt W φ H σd' σ' → K σd' → Q σ' H)
theorem ok_tgs (C : Cok W G lv P WX X) : ∀ (is : List Nat) (es : List Expr), is.length = es.length → ((is.zip es).all fun p => match p.2 with
    | .Name x _ => nmB P p.1 x
    | _ => false) = true → PGs X es (fun vs σ H Q => ∃ (φ : List Addr) (hd : Hd) (ds : List D) (σd : DSt) (K : DSt → Prop), Sim W φ hd H ∧ RepSt W φ H σd σ ∧ Reps W φ H ds vs ∧ ds.length = is.length ∧ K ((is.zip ds).foldl (fun s p => s.set p.1 (some p.2)) σd) ∧ ∀ σd' σ', RepSt W φ H σd' σ' → K σd' → Q σ' H)
  | [], [], _, _ => pgs_imp pgs_nil fun vs σ H Q h => by
      obtain ⟨φ, hd, ds, σd, K, S, rs, r, l, w, k⟩ := h
      cases ds with
      | nil => cases r; exact ⟨rfl, k σd σ rs w⟩
      | cons => simp at l
  | i :: is, e :: es, hl, h => by
      rw [List.zip_cons_cons, List.all_cons, Bool.and_eq_true] at h
      obtain ⟨h1, h2⟩ := h
      cases e with
      | Name x pos =>
        obtain ⟨n1, n2, n3, n4⟩ := C.nm h1
        refine pgs_imp (pgs_cons (pg_name (i := i) n1 n2 n3 n4) (ok_tgs C is es (by simpa using hl) h2)) fun vs σ H Q h => ?_
        obtain ⟨φ, hd, ds, σd, K, S, rs, r, l, w, k⟩ := h
        cases r with
        | nil => simp at l
        | @cons d v ds vs a b => exact ⟨v, vs, rfl, φ, hd, ds, σd.set i (some d), K, S, rs.set i a, b, by simpa using l, w, k⟩
      | _ => cases h1
  | [], _ :: _, h, _ => by simp at h
  | _ :: _, [], h, _ => by simp at h
theorem pg_or {X : Cx} {e : Expr} {g1 g2 : TG} (h1 : PG X e g1) (h2 : PG X e g2) : PG X e (fun v σ H Q => g1 v σ H Q ∨ g2 v σ H Q) :=
  ⟨fun pins s σ H v u Q I r hw => hw.elim (h1.run pins s σ H v u Q I r) (h2.run pins s σ H v u Q I r)⟩
theorem ok_tg (C : Cok W G lv P WX X) {t : Tg} {e : Expr} (h : tgC P t e = true) : TgOk W X t e := by
  cases t with
  | nm i =>
    cases e with
    | Name x pos =>
      obtain ⟨n1, n2, n3, n4⟩ := C.nm (show nmB P i x = true from h)
      refine pg_imp (pg_name (i := i) n1 n2 n3 n4) fun v σ H Q h => ?_
      obtain ⟨φ, hd, d, σd, K, S, rs, r, w, k⟩ := h
      exact k _ _ (rs.set i r) w
    | _ => simp [tgC] at h
  | tp is =>
    cases e with
    | Tuple es k pos =>
      simp only [tgC, Bool.and_eq_true, decide_eq_true_eq] at h
      obtain ⟨⟨hc, h1⟩, h2⟩ := h
      have hst : (assignEach es X.env).findIdx? (·.1) = none ∧ (assignEach es X.env).length = es.length := by
        have all : ∀ (is : List Nat) (es : List Expr), is.length = es.length → ((is.zip es).all fun p => match p.2 with
            | .Name x _ => nmB P p.1 x
            | _ => false) = true → (assignEach es X.env).findIdx? (·.1) = none ∧ (assignEach es X.env).length = es.length := by
          intro is es
          induction es generalizing is with
          | nil => intro _ _; exact ⟨rfl, rfl⟩
          | cons e es ih =>
            intro hl h
            cases is with
            | nil => simp at hl
            | cons i is =>
              rw [List.zip_cons_cons, List.all_cons, Bool.and_eq_true] at h
              obtain ⟨i1, i2⟩ := ih is (by simpa using hl) h.2
              cases e with
              | Name x pos =>
                have e1 : assignEach (.Name x pos :: es) X.env = (false, assign (.Name x pos) X.env) :: assignEach es X.env := rfl
                rw [e1]
                refine ⟨?_, by simp [i2]⟩
                rw [List.findIdx?_cons]
                simp [i1]
              | _ => cases h.1
        exact all is es h1 h2
      refine pg_imp (pg_or (pg_tup (C.calm hc) (ok_tgs C is es h1 h2) hst.2 hst.1) (pg_unl (C.calm hc) (ok_tgs C is es h1 h2) hst.2 hst.1)) fun v σ H Q h => ?_
      obtain ⟨φ, hd, d, σd, K, S, rs, r, w, k⟩ := h
      obtain ⟨xs, e, l, w⟩ := w
      obtain ⟨a, us, rfl, hq, ra⟩ := rdS_ok S r e
      rcases hq with hq | hq
      · exact .inr ⟨a, us, rfl, by rw [C.K]; exact hq, by rw [← ra.len, l, h1], φ, hd, xs, σd, K, S, rs, ra, l, w, k⟩
      · exact .inl ⟨a, us, rfl, by rw [C.K]; exact hq, by rw [← ra.len, l, h1], φ, hd, xs, σd, K, S, rs, ra, l, w, k⟩
    | _ => simp [tgC] at h
end
end Vd

set_option Elab.async false
set_option linter.all false
set_option maxRecDepth 100000
set_option maxHeartbeats 2000000
namespace Vd
open PySem PySem.Spec PyProof.Rows L2
section
variable {W : Wd} {φ : List Addr} {H : Hp}
theorem Off.fbs {fb : List Addr} {a : Addr} {o : HO} (hf : ∀ p ∈ fb, p ∈ W.fb ∨ H p = none) (h : H a = some o) (n : Off W φ a) : Off { W with fb := fb } φ a :=
  ⟨n.1, fun hm => by
    rcases hf a hm with z | z
    · exact n.2 z
    · rw [h] at z; cases z⟩
mutual
theorem Rep.fbs {fb : List Addr} (hf : ∀ p ∈ fb, p ∈ W.fb ∨ H p = none) : ∀ {d v}, Rep W φ H d v → Rep { W with fb := fb } φ H d v
  | _, _, .non => .non
  | _, _, .bl b => .bl b
  | _, _, .int i => .int i
  | _, _, .str x => .str x
  | _, _, .tup h n r => .tup h (Off.fbs hf h n) (Reps.fbs hf r)
  | _, _, .vl h n r => .vl h (Off.fbs hf h n) (Reps.fbs hf r)
  | _, _, .sv h r => .sv (by
      rcases h with ⟨h, n⟩ | h
      · refine .inl ⟨h, ?_⟩
        rcases h with h | ⟨o, h⟩
        · exact Off.fbs hf h n
        · exact Off.fbs hf h n
      · exact .inr h) (Reps.fbs hf r)
  | _, _, .vi h n c m r l => .vi h (Off.fbs hf h n) c m (Reps.fbs hf r) l
  | _, _, .ref h => .ref h
theorem Reps.fbs {fb : List Addr} (hf : ∀ p ∈ fb, p ∈ W.fb ∨ H p = none) : ∀ {ds vs}, Reps W φ H ds vs → Reps { W with fb := fb } φ H ds vs
  | _, _, .nil => .nil
  | _, _, .cons a b => .cons (Rep.fbs hf a) (Reps.fbs hf b)
end
end

/-- an iterator that walks the items -/
noncomputable def ItW (W : Wd) (φ0 : List Addr) (H0 : Hp) (J : Itm) (Jv : L2.It) : Prop := ∀ fb, (∀ p ∈ fb, p ∈ W.fb ∨ H0 p = none) → ∀ φ hd H i, Ext φ0 φ H0 H → Sim { W with fb := fb } φ hd H → J.stay hd →
  (i < J.xs.length → Jv.go i H ∧ ∀ x H', Jv.yld i H x H' → ∃ d, J.xs[i]? = some d ∧ Ext φ φ H H' ∧ Sim { W with fb := fb } φ hd H' ∧ Rep { W with fb := fb } φ H' d x) ∧ (i = J.xs.length → Jv.stop i H)
noncomputable abbrev rI (W : Wd) : GR Itm L2.It := fun φ H J Jv => ItW W φ H J Jv
noncomputable def SndI (c : It) : Prop := ∀ {W : Wd} {G : Gam} {lv : Nat} {P : Pl} {WX : L2.WX} {X : Cx}, Cok W G lv P WX X → ∀ e tg, chkI P c e tg = true → PI X tg e (Ter W (rI W) WX (wpI G c))

section
variable {X : Cx} {tg : Expr}
noncomputable def iSeq (K : PySem.W.Frag) (tl : TE) : TI := fun σ H R => tl σ H fun x H1 => ∃ a, x = .ref a ∧ (((∃ xs, SqL K H1 a xs) ∧ R (Itl K a) H1) ∨ ((∃ xs, SqT K H1 a xs) ∧ R (Itt K a) H1))
theorem pi_seq {l : Expr} {tl : TE} (hl : PE X l tl) : PI X tg l (iSeq X.K tl) := by
  refine ⟨fun pins s σ H R I h => ?_⟩
  refine thn (hl.run pins s σ H _ I h) fun v s1 ⟨x, H1, I1, r1, q1⟩ => ?_
  obtain ⟨a, e, q⟩ := q1
  subst e
  cases r1
  rcases q with ⟨⟨xs, hq⟩, q⟩ | ⟨⟨xs, hq⟩, q⟩
  · obtain ⟨its, rv, p, hz⟩ := I1.list hq
    refine wpAny_pyIter_list p.isList ?_
    refine ⟨s1.heap.objs.size, [s1.heap.objs.size], _, _, H1, rfl, I1.kept (t' := s1.toks) fun b o e => Heap.get?_push_of_some _ e, turn_list a _, ⟨_, Heap.get?_push_size _ rfl, rfl, rfl⟩, fun b hb => ?_, q⟩
    have e : b = s1.heap.objs.size := by simpa using hb
    subst e
    exact I1.fpOk (Nat.le_refl _) (I1.hok.fresh (Nat.le_refl _))
  · obtain ⟨its, rv, p, hz⟩ := I1.tuple hq
    refine wpAny_pyIter_tuple (show s1.heap.IsTuple a its.toArray from p) ?_
    refine ⟨s1.heap.objs.size, [s1.heap.objs.size], _, _, H1, rfl, I1.kept (t' := s1.toks) fun b o e => Heap.get?_push_of_some _ e, turn_tuple a _, ⟨_, Heap.get?_push_size _ rfl, rfl, rfl⟩, fun b hb => ?_, q⟩
    have e : b = s1.heap.objs.size := by simpa using hb
    subst e
    exact I1.fpOk (Nat.le_refl _) (I1.hok.fresh (Nat.le_refl _))
end
section
variable {W : Wd} {φ : List Addr} {hd : Hd} {H : Hp}
theorem itw_list {d : D} {v : V} {a : Addr} {xs : List D} (r : Rep W φ H d v) (ev : v = .ref a) : ItW W φ H ⟨xs, fun h' => rdL h' d = some xs⟩ (Itl W.K a) := by
  intro fb hf φ2 h2 H2 i E S st
  have r2 := (Rep.fbs hf r).ext (W := { W with fb := fb }) E
  obtain ⟨a', vs, e, hq, rs⟩ := rdL_ok S r2 st
  rw [ev] at e; cases e
  refine ⟨fun hi => ?_, fun hi => ⟨vs, hq, by rw [← rs.len]; exact Nat.le_of_eq hi.symm⟩⟩
  obtain ⟨x, hx, _⟩ := rs.get (List.getElem?_eq_getElem hi)
  refine ⟨⟨vs, x, hq, hx⟩, fun x' H' y => ?_⟩
  obtain ⟨e, y⟩ := y
  subst e
  obtain ⟨d', h1, h2⟩ := rs.get' (y vs hq)
  exact ⟨d', h1, .refl, S, h2⟩
theorem itw_tup {v : V} {a : Addr} {xs : List D} (r : Rep W φ H (.tup xs) v) (ev : v = .ref a) (st : Hd → Prop) : ItW W φ H ⟨xs, st⟩ (Itt W.K a) := by
  intro fb hf φ2 h2 H2 i E S _
  have r2 := (Rep.fbs hf r).ext (W := { W with fb := fb }) E
  subst ev
  cases r2 with
  | @tup a vs xs hq n rs =>
    have hq' : SqT W.K H2 _ vs := .of hq
    refine ⟨fun hi => ?_, fun hi => ⟨vs, hq', by rw [← rs.len]; exact Nat.le_of_eq hi.symm⟩⟩
    obtain ⟨x, hx, _⟩ := rs.get (List.getElem?_eq_getElem hi)
    refine ⟨⟨vs, x, hq', hx⟩, fun x' H' y => ?_⟩
    obtain ⟨e, y⟩ := y
    subst e
    obtain ⟨d', h1, h2⟩ := rs.get' (y vs hq')
    exact ⟨d', h1, .refl, S, h2⟩
theorem rdS_cases {h : Hd} {d : D} {xs : List D} (e : rdS h d = some xs) : (d = .tup xs) ∨ (rdL h d = some xs ∧ ∀ h', rdS h' d = rdL h' d) := by
  cases d with
  | tup ys => cases e; exact .inl rfl
  | _ => first | exact .inr ⟨e, fun _ => rfl⟩
theorem itw_stay {J J' : Itm} {Jv : L2.It} (h : ItW W φ H J Jv) (e : J.xs = J'.xs) (s : ∀ h, J'.stay h → J.stay h) : ItW W φ H J' Jv := by
  intro fb hf φ2 h2 H2 i E S st
  have q := h fb hf φ2 h2 H2 i E S (s _ st)
  rw [e] at q
  exact q
theorem seq_it {d : D} {v : V} {xs : List D} (S : Sim W φ hd H) (r : Rep W φ H d v) (e : rdS hd d = some xs) {R : L2.It → Hp → Prop} (k : ∀ Jv, ItW W φ H ⟨xs, fun h' => rdS h' d = some xs⟩ Jv → R Jv H) :
    ∃ a, v = .ref a ∧ (((∃ xs, SqL W.K H a xs) ∧ R (Itl W.K a) H) ∨ ((∃ xs, SqT W.K H a xs) ∧ R (Itt W.K a) H)) := by
  rcases rdS_cases e with rfl | ⟨e', hs⟩
  · cases r with
    | tup ha na ra => exact ⟨_, rfl, .inr ⟨⟨_, .of ha⟩, k _ (itw_tup (.tup ha na ra) rfl _)⟩⟩
  · obtain ⟨a, vs, ev, hq, rs⟩ := rdL_ok S r e'
    exact ⟨a, ev, .inl ⟨⟨vs, hq⟩, k _ (itw_stay (itw_list r ev) rfl fun h st => (show rdL h d = some xs by rw [← hs]; exact st))⟩⟩
theorem itw_range (lo : Int) (n : Nat) (xs : List D) (hx : xs = (List.range n).map fun (k : Nat) => D.int (lo + (k : Int))) : ItW W φ H ⟨xs, fun _ => True⟩ (Itr lo n) := by
  subst hx
  intro fb hf φ2 h2 H2 i E S _
  have hl : ((List.range n).map fun (k : Nat) => D.int (lo + (k : Int))).length = n := by simp
  refine ⟨fun hi => ?_, fun hi => ?_⟩
  · have hi' : i < n := by rw [hl] at hi; exact hi
    refine ⟨hi', fun x H' y => ?_⟩
    obtain ⟨e, y⟩ := y
    subst e y
    exact ⟨.int (lo + i), by simp [hi'], .refl, S, .int _⟩
  · have : i = n := by rw [hl] at hi; exact hi
    exact Nat.le_of_eq this.symm
theorem itw_rangeC (lo c : Int) (n : Nat) : ItW W φ H ⟨rngC lo c n, fun _ => True⟩ (Itc lo c n) := by
  intro fb hf φ2 h2 H2 i E S _
  have hl : (rngC lo c n).length = n := by unfold rngC; simp
  refine ⟨fun hi => ?_, fun hi => ?_⟩
  · have hi' : i < n := by rw [hl] at hi; exact hi
    refine ⟨hi', fun x H' y => ?_⟩
    obtain ⟨e, y⟩ := y
    subst e y
    exact ⟨.int (lo + i * c), by simp [hi', rngC], .refl, S, .int _⟩
  · have : i = n := by rw [hl] at hi; exact hi
    exact Nat.le_of_eq this.symm
theorem itw_rev {d : D} {v : V} {a : Addr} {xs : List D} (r : Rep W φ H d v) (ev : v = .ref a) : ItW W φ H ⟨xs.reverse, fun h' => rdL h' d = some xs⟩ (Itv W.K a xs.length) := by
  intro fb hf φ2 h2 H2 i E S st
  have r2 := (Rep.fbs hf r).ext (W := { W with fb := fb }) E
  obtain ⟨a', vs, e, hq, rs⟩ := rdL_ok S r2 st
  rw [ev] at e; cases e
  have hl : (xs.reverse).length = xs.length := List.length_reverse
  refine ⟨fun hi => ?_, fun hi => ?_⟩
  · have hi' : i < xs.length := by rw [hl] at hi; exact hi
    have hj : xs.length - 1 - i < xs.length := by omega
    obtain ⟨x, hx, _⟩ := rs.get (List.getElem?_eq_getElem hj)
    refine ⟨⟨hi', vs, x, hq, hx⟩, fun x' H' y => ?_⟩
    obtain ⟨e, y⟩ := y
    subst e
    obtain ⟨d', h1, h2⟩ := rs.get' (y vs hq)
    exact ⟨d', by rw [List.getElem?_reverse hi']; exact h1, .refl, S, h2⟩
  · have : i = xs.length := by rw [hl] at hi; exact hi
    exact Nat.le_of_eq this.symm
theorem itw_revT {v : V} {a : Addr} {xs : List D} (r : Rep W φ H (.tup xs) v) (ev : v = .ref a) (st : Hd → Prop) : ItW W φ H ⟨xs.reverse, st⟩ (RT.ItvT W.K a xs.length) := by
  intro fb hf φ2 h2 H2 i E S _
  have r2 := (Rep.fbs hf r).ext (W := { W with fb := fb }) E
  subst ev
  cases r2 with
  | @tup a vs xs hq n rs =>
    have hq' : SqT W.K H2 _ vs := .of hq
    have hl : (xs.reverse).length = xs.length := List.length_reverse
    refine ⟨fun hi => ?_, fun hi => ?_⟩
    · have hi' : i < xs.length := by rw [hl] at hi; exact hi
      have hj : xs.length - 1 - i < xs.length := by omega
      obtain ⟨x, hx, _⟩ := rs.get (List.getElem?_eq_getElem hj)
      refine ⟨⟨hi', vs, x, hq', hx⟩, fun x' H' y => ?_⟩
      obtain ⟨e, y⟩ := y
      subst e
      obtain ⟨d', h1, h2⟩ := rs.get' (y vs hq')
      exact ⟨d', by rw [List.getElem?_reverse hi']; exact h1, .refl, S, h2⟩
    · have : i = xs.length := by rw [hl] at hi; exact hi
      exact Nat.le_of_eq this.symm
theorem pair_new {i x : D} {T : Addr} {xi xv : V} (S : Sim W φ hd H) (hT : H T = none) (ri : Rep W φ H i xi) (rx : Rep W φ H x xv) : Ext φ φ H (upd H T (.tup [xi, xv])) ∧ Sim W φ hd (upd H T (.tup [xi, xv])) ∧ Rep W φ (upd H T (.tup [xi, xv])) (.tup [i, x]) (.ref T) :=
  ⟨Ext.new hT, S.new hT, .tup upd_same (S.off hT) (.cons (ri.ext (Ext.new hT)) (.cons (rx.ext (Ext.new hT)) .nil))⟩
theorem itw_enum {d : D} {v : V} {a : Addr} {xs : List D} (r : Rep W φ H d v) (ev : v = .ref a) : ItW W φ H ⟨xs.zipIdx.map fun p => .tup [.int p.2, p.1], fun h' => rdL h' d = some xs⟩ (Ite W.K a) := by
  intro fb hf φ2 h2 H2 i E S st
  have r2 := (Rep.fbs hf r).ext (W := { W with fb := fb }) E
  obtain ⟨a', vs, e, hq, rs⟩ := rdL_ok S r2 st
  rw [ev] at e; cases e
  have hl : (xs.zipIdx.map fun p => D.tup [.int p.2, p.1]).length = xs.length := by simp
  refine ⟨fun hi => ?_, fun hi => ?_⟩
  · have hi' : i < xs.length := by rw [hl] at hi; exact hi
    obtain ⟨x, hx, _⟩ := rs.get (List.getElem?_eq_getElem hi')
    refine ⟨⟨vs, x, hq, hx⟩, fun x' H' y => ?_⟩
    obtain ⟨T, x2, rfl, hT, rfl, y⟩ := y
    obtain ⟨d', h1, h2⟩ := rs.get' (y vs hq)
    obtain ⟨p1, p2, p3⟩ := pair_new S hT (.int (i : Nat)) h2
    refine ⟨_, ?_, p1, p2, p3⟩
    have e : xs[i] = d' := by
      rw [List.getElem?_eq_getElem hi'] at h1
      exact Option.some.inj h1
    simp [hi', e]
  · have : i = xs.length := by rw [hl] at hi; exact hi
    exact ⟨vs, hq, by rw [← rs.len]; exact Nat.le_of_eq this.symm⟩
theorem itw_enumT {v : V} {a : Addr} {xs : List D} (r : Rep W φ H (.tup xs) v) (ev : v = .ref a) (st : Hd → Prop) : ItW W φ H ⟨xs.zipIdx.map fun p => .tup [.int p.2, p.1], st⟩ (VdEn.IteT W.K a) := by
  intro fb hf φ2 h2 H2 i E S _
  have r2 := (Rep.fbs hf r).ext (W := { W with fb := fb }) E
  subst ev
  cases r2 with
  | @tup a vs xs hq0 n rs =>
  have hq : SqT W.K H2 _ vs := .of hq0
  have hl : (xs.zipIdx.map fun p => D.tup [.int p.2, p.1]).length = xs.length := by simp
  refine ⟨fun hi => ?_, fun hi => ?_⟩
  · have hi' : i < xs.length := by rw [hl] at hi; exact hi
    obtain ⟨x, hx, _⟩ := rs.get (List.getElem?_eq_getElem hi')
    refine ⟨⟨vs, x, hq, hx⟩, fun x' H' y => ?_⟩
    obtain ⟨T, x2, rfl, hT, rfl, y⟩ := y
    obtain ⟨d', h1, h2⟩ := rs.get' (y vs hq)
    obtain ⟨p1, p2, p3⟩ := pair_new S hT (.int (i : Nat)) h2
    refine ⟨_, ?_, p1, p2, p3⟩
    have e : xs[i] = d' := by
      rw [List.getElem?_eq_getElem hi'] at h1
      exact Option.some.inj h1
    simp [hi', e]
  · have : i = xs.length := by rw [hl] at hi; exact hi
    exact ⟨vs, hq, by rw [← rs.len]; exact Nat.le_of_eq this.symm⟩
theorem itw_zip {d e : D} {v u : V} {a b : Addr} {xs ys : List D} (r : Rep W φ H d v) (r' : Rep W φ H e u) (ev : v = .ref a) (eu : u = .ref b) : ItW W φ H ⟨(xs.zip ys).map fun p => .tup [p.1, p.2], fun h' => rdL h' d = some xs ∧ rdL h' e = some ys⟩ (Itz W.K a b) := by
  intro fb hf φ2 h2 H2 i E S st
  have r2 := (Rep.fbs hf r).ext (W := { W with fb := fb }) E
  have r3 := (Rep.fbs hf r').ext (W := { W with fb := fb }) E
  obtain ⟨a', vs, e1, hq, rs⟩ := rdL_ok S r2 st.1
  obtain ⟨b', us, e2, hp, ps⟩ := rdL_ok S r3 st.2
  rw [ev] at e1; cases e1
  rw [eu] at e2; cases e2
  have hl : ((xs.zip ys).map fun p => D.tup [p.1, p.2]).length = min xs.length ys.length := by simp
  refine ⟨fun hi => ?_, fun hi => ?_⟩
  · have hi1 : i < xs.length := by rw [hl] at hi; omega
    have hi2 : i < ys.length := by rw [hl] at hi; omega
    obtain ⟨x, hx, _⟩ := rs.get (List.getElem?_eq_getElem hi1)
    obtain ⟨y, hy, _⟩ := ps.get (List.getElem?_eq_getElem hi2)
    refine ⟨⟨vs, us, x, y, hq, hp, hx, hy⟩, fun x' H' z => ?_⟩
    obtain ⟨T, x2, y2, rfl, hT, rfl, z1, z2⟩ := z
    obtain ⟨d', h1, h2⟩ := rs.get' (z1 vs hq)
    obtain ⟨d2, h3, h4⟩ := ps.get' (z2 us hp)
    obtain ⟨p1, p2, p3⟩ := pair_new S hT h2 h4
    refine ⟨_, ?_, p1, p2, p3⟩
    have e1 : xs[i] = d' := by
      rw [List.getElem?_eq_getElem hi1] at h1
      exact Option.some.inj h1
    have e2 : ys[i] = d2 := by
      rw [List.getElem?_eq_getElem hi2] at h3
      exact Option.some.inj h3
    have hz : i < (xs.zip ys).length := by simp; omega
    rw [List.getElem?_map, List.getElem?_eq_getElem hz]
    simp [e1, e2]
  · have : i = min xs.length ys.length := by rw [hl] at hi; exact hi
    refine ⟨vs, us, hq, hp, ?_⟩
    rw [← rs.len, ← ps.len]
    omega
theorem itw_zipT {v u : V} {a b : Addr} {xs ys : List D} (r : Rep W φ H (.tup xs) v) (r' : Rep W φ H (.tup ys) u) (ev : v = .ref a) (eu : u = .ref b) (st : Hd → Prop) : ItW W φ H ⟨(xs.zip ys).map fun p => .tup [p.1, p.2], st⟩ (RZ.ItzT W.K a b) := by
  intro fb hf φ2 h2 H2 i E S _
  have r2 := (Rep.fbs hf r).ext (W := { W with fb := fb }) E
  have r3 := (Rep.fbs hf r').ext (W := { W with fb := fb }) E
  subst ev
  subst eu
  cases r2 with
  | @tup a vs xs hq0 n rs =>
  cases r3 with
  | @tup b us ys hp0 n' ps =>
  have hq : SqT W.K H2 _ vs := .of hq0
  have hp : SqT W.K H2 _ us := .of hp0
  have hl : ((xs.zip ys).map fun p => D.tup [p.1, p.2]).length = min xs.length ys.length := by simp
  refine ⟨fun hi => ?_, fun hi => ?_⟩
  · have hi1 : i < xs.length := by rw [hl] at hi; omega
    have hi2 : i < ys.length := by rw [hl] at hi; omega
    obtain ⟨x, hx, _⟩ := rs.get (List.getElem?_eq_getElem hi1)
    obtain ⟨y, hy, _⟩ := ps.get (List.getElem?_eq_getElem hi2)
    refine ⟨⟨vs, us, x, y, hq, hp, hx, hy⟩, fun x' H' z => ?_⟩
    obtain ⟨T, x2, y2, rfl, hT, rfl, z1, z2⟩ := z
    obtain ⟨d', h1, h2⟩ := rs.get' (z1 vs hq)
    obtain ⟨d2, h3, h4⟩ := ps.get' (z2 us hp)
    obtain ⟨p1, p2, p3⟩ := pair_new S hT h2 h4
    refine ⟨_, ?_, p1, p2, p3⟩
    have e1 : xs[i] = d' := by
      rw [List.getElem?_eq_getElem hi1] at h1
      exact Option.some.inj h1
    have e2 : ys[i] = d2 := by
      rw [List.getElem?_eq_getElem hi2] at h3
      exact Option.some.inj h3
    have hz : i < (xs.zip ys).length := by simp; omega
    rw [List.getElem?_map, List.getElem?_eq_getElem hz]
    simp [e1, e2]
  · have : i = min xs.length ys.length := by rw [hl] at hi; exact hi
    refine ⟨vs, us, hq, hp, ?_⟩
    rw [← rs.len, ← ps.len]
    omega
end
section
variable {W : Wd} {G : Gam} {lv : Nat} {P : Pl} {WX : L2.WX} {X : Cx}
theorem ok_ival {c} (hc : SndE c) : SndI (.val c) := by
  intro W G lv P WX X C e tg h
  have h' : chkE P c e = true ∧ setB e = false := by
    have h2 : (chkE P c e && !setB e) = true := h
    simpa using h2
  refine pi_imp (pi_seq (hc C e h'.1).1) fun σ H R hq => ?_
  obtain ⟨φ, hd, σd, Qd, Xd, A, w, q, x⟩ := hq
  refine Ter.go A x w fun φ1 h1 H1 d v e1 A1 r1 w1 => ?_
  obtain ⟨xs, e, w1⟩ := w1
  have := seq_it (R := R) A1.sim r1 e fun Jv hJ => q φ1 h1 H1 _ Jv e1 A1.sim hJ w1
  rw [C.K]
  exact this
theorem itw_chs (z : Str) : ItW W φ H ⟨chsD z, fun _ => True⟩ (Its z) := by
  intro fb hf φ2 h2 H2 i E S _
  have hl : (chsD z).length = z.cps.size := by unfold chsD; simp
  refine ⟨fun hi => ?_, fun hi => ?_⟩
  · have hi' : i < z.cps.size := by rw [hl] at hi; exact hi
    refine ⟨hi', fun x H' y => ?_⟩
    obtain ⟨e, c, hc, rfl⟩ := y
    subst e
    refine ⟨.str ⟨#[c]⟩, ?_, .refl, S, .str _⟩
    show (z.cps.toList.map fun c => D.str ⟨#[c]⟩)[i]? = _
    rw [List.getElem?_map, Array.getElem?_toList, hc]; rfl
  · have : i = z.cps.size := by rw [hl] at hi; exact hi
    exact Nat.le_of_eq this.symm
theorem ok_ichs {c} (hc : SndE c) : SndI (.chs c) := by
  intro W G lv P WX X C e tg h
  have h' : chkE P c e = true ∧ setB e = false := by
    have h2 : (chkE P c e && !setB e) = true := h
    simpa using h2
  refine pi_imp (pi_str (hc C e h'.1).1) fun σ H R hq => ?_
  obtain ⟨φ, hd, σd, Qd, Xd, A, w, q, x⟩ := hq
  refine Ter.go A x w fun φ1 h1 H1 d v e1 A1 r1 w1 => ?_
  obtain ⟨z, rfl, w1⟩ := w1
  cases r1
  exact ⟨z, rfl, q φ1 h1 H1 _ _ e1 A1.sim (itw_chs z) w1⟩
theorem rng1_inv {a : E} {e tg : Expr} (h : chkI P (.rng1 a) e tg = true) : ∃ x p a' pos, e = .Call (.Name x p) [a'] [] pos ∧ (decide (x = Str.ofString "range") && glB P.sc x && !starB a' && chkE P a a') = true := by
  unfold chkI at h
  split at h <;> first | (rename_i q; cases q; done) | (injections; subst_vars; exact ⟨_, _, _, _, rfl, h⟩) | cases h
theorem rng2_inv {a b : E} {e tg : Expr} (h : chkI P (.rng2 a b) e tg = true) : ∃ x p a' b' pos, e = .Call (.Name x p) [a', b'] [] pos ∧ (decide (x = Str.ofString "range") && glB P.sc x && !starB a' && !starB b' && chkE P a a' && chkE P b b') = true := by
  unfold chkI at h
  split at h <;> first | (rename_i q; cases q; done) | (injections; subst_vars; exact ⟨_, _, _, _, _, rfl, h⟩) | cases h
theorem rngb_inv {a b : E} {e tg : Expr} (h : chkI P (.rngb a b) e tg = true) : ∃ x p a' b' pos, e = .Call (.Name x p) [a', b'] [] pos ∧ (decide (x = Str.ofString "range") && glB P.sc x && !starB a' && !starB b' && chkE P a a' && chkE P b b') = true := by
  unfold chkI at h
  split at h <;> first | (rename_i q; cases q; done) | (injections; subst_vars; exact ⟨_, _, _, _, _, rfl, h⟩) | cases h
theorem rng3_inv {a b c : E} {e tg : Expr} (h : chkI P (.rng3 a b c) e tg = true) : ∃ x p a' b' c' pos, e = .Call (.Name x p) [a', b', c'] [] pos ∧ (decide (x = Str.ofString "range") && glB P.sc x && !starB a' && !starB b' && !starB c' && chkE P a a' && chkE P b b' && chkE P c c') = true := by
  unfold chkI at h
  split at h <;> first | (rename_i q; cases q; done) | (injections; subst_vars; exact ⟨_, _, _, _, _, _, rfl, h⟩) | cases h
theorem zip_inv {a b : E} {e tg : Expr} (h : chkI P (.zip a b) e tg = true) : ∃ x p a' b' pos es k tp, e = .Call (.Name x p) [a', b'] [] pos ∧ tg = .Tuple es k tp ∧ (decide (x = Str.ofString "zip") && glB P.sc x && !starB a' && !starB b' && chkE P a a' && chkE P b b') = true := by
  unfold chkI at h
  split at h <;> first | (rename_i q; cases q; done) | (injections; subst_vars; exact ⟨_, _, _, _, _, _, _, _, rfl, rfl, h⟩) | cases h
theorem enum_inv {a : E} {e tg : Expr} (h : chkI P (.enum a) e tg = true) : ∃ x p a' pos es k tp, e = .Call (.Name x p) [a'] [] pos ∧ tg = .Tuple es k tp ∧ (decide (x = Str.ofString "enumerate") && glB P.sc x && !starB a' && chkE P a a') = true := by
  unfold chkI at h
  split at h <;> first | (rename_i q; cases q; done) | (injections; subst_vars; exact ⟨_, _, _, _, _, _, _, rfl, rfl, h⟩) | cases h
theorem rev_inv {a : E} {e tg : Expr} (h : chkI P (.rev a) e tg = true) : ∃ x p a' pos, e = .Call (.Name x p) [a'] [] pos ∧ (decide (x = Str.ofString "reversed") && glB P.sc x && !starB a' && chkE P a a') = true := by
  unfold chkI at h
  split at h <;> first | (rename_i q; cases q; done) | (injections; subst_vars; exact ⟨_, _, _, _, rfl, h⟩) | cases h
theorem ok_irng1 {a} (ha : SndE a) : SndI (.rng1 a) := by
  intro W G lv P WX X C e tg h
  obtain ⟨x, p, a', pos, rfl, k⟩ := rng1_inv h
  simp only [Bool.and_eq_true, decide_eq_true_eq, Bool.not_eq_true'] at k
  obtain ⟨⟨⟨rfl, h1⟩, h2⟩, h3⟩ := k
  refine pi_imp (pi_range1 (C.gl' h1) C.bn2.1 (pa_cons (ha C a' h3).1 pa_nil (star_cons h2)) (star_cons h2)) fun σ H R hq => ?_
  obtain ⟨φ, hd, σd, Qd, Xd, A, w, q, x⟩ := hq
  refine Ter.go A x w fun φ1 h1 H1 d v e1 A1 r1 w1 => ?_
  obtain ⟨j, rfl, b1, w1⟩ := w1
  cases r1
  exact ⟨j, rfl, b1.1, b1.2, q φ1 h1 H1 _ (Itr 0 j.toNat) e1 A1.sim (itw_range 0 j.toNat _ (by unfold rngN; rw [Int.sub_zero])) w1⟩
theorem ok_irng2 {a b} (ha : SndE a) (hb : SndE b) : SndI (.rng2 a b) := by
  intro W G lv P WX X C e tg h
  obtain ⟨x, p, a', b', pos, rfl, k⟩ := rng2_inv h
  simp only [Bool.and_eq_true, decide_eq_true_eq, Bool.not_eq_true'] at k
  obtain ⟨⟨⟨⟨⟨rfl, h1⟩, h2⟩, h2'⟩, h3⟩, h4⟩ := k
  refine pi_imp (pi_range2 (C.gl' h1) C.bn2.1 (pa_cons (ha C a' h3).1 (pa_cons (hb C b' h4).1 pa_nil (star_cons h2')) (star_cons h2)) (by rw [star_cons h2, star_cons h2']; rfl) (by rw [star_cons h2']; rfl)) fun σ H R hq => ?_
  obtain ⟨φ, hd, σd, Qd, Xd, A, w, q, x⟩ := hq
  refine Ter.go A x w fun φ1 h1 H1 d v e1 A1 r1 w1 => Ter.go A1 (x.ext e1) w1 fun φ2 h2 H2 d2 v2 e2 A2 r2 w2 => ?_
  obtain ⟨i, j, rfl, rfl, b1, b2, w2⟩ := w2
  cases r1
  cases r2
  exact ⟨i, j, rfl, ⟨b1.1, b1.2, b2.1, b2.2⟩, q φ2 h2 H2 _ (Itr i (j - i).toNat) (e1.trans e2) A2.sim (itw_range i _ _ rfl) w2⟩
theorem ok_irngb {a b} (ha : SndE a) (hb : SndE b) : SndI (.rngb a b) := by
  intro W G lv P WX X C e tg h
  obtain ⟨x, p, a', b', pos, rfl, k⟩ := rngb_inv h
  simp only [Bool.and_eq_true, decide_eq_true_eq, Bool.not_eq_true'] at k
  obtain ⟨⟨⟨⟨⟨rfl, h1⟩, h2⟩, h2'⟩, h3⟩, h4⟩ := k
  refine pi_imp (VdRg.pi_rangeA (C.gl' h1) C.bn2.1 (pa_cons (ha C a' h3).1 (pa_cons (hb C b' h4).1 pa_nil (star_cons h2')) (star_cons h2)) (by rw [star_cons h2, star_cons h2']; rfl) (by rw [star_cons h2']; rfl)) fun σ H R hq => ?_
  obtain ⟨φ, hd, σd, Qd, Xd, A, w, q, x⟩ := hq
  refine Ter.go A x w fun φ1 h1 H1 d v e1 A1 r1 w1 => Ter.go A1 (x.ext e1) w1 fun φ2 h2 H2 d2 v2 e2 A2 r2 w2 => ?_
  obtain ⟨i, j, rfl, rfl, w2⟩ := w2
  cases r1
  cases r2
  exact ⟨i, j, rfl, q φ2 h2 H2 _ (Itr i (j - i).toNat) (e1.trans e2) A2.sim (itw_range i _ _ rfl) w2⟩
theorem ok_irng3 {a b c} (ha : SndE a) (hb : SndE b) (hc : SndE c) : SndI (.rng3 a b c) := by
  intro W G lv P WX X C e tg h
  obtain ⟨x, p, a', b', c', pos, rfl, k⟩ := rng3_inv h
  simp only [Bool.and_eq_true, decide_eq_true_eq, Bool.not_eq_true'] at k
  obtain ⟨⟨⟨⟨⟨⟨⟨rfl, h1⟩, h2⟩, h2'⟩, h2''⟩, h3⟩, h4⟩, h5⟩ := k
  refine pi_imp (VdRg.pi_rangeB (C.gl' h1) C.bn2.1 (pa_cons (ha C a' h3).1 (pa_cons (hb C b' h4).1 (pa_cons (hc C c' h5).1 pa_nil (star_cons h2'')) (star_cons h2')) (star_cons h2)) (by rw [star_cons h2]) (by rw [star_cons h2', star_cons h2'']; rfl)) fun σ H R hq => ?_
  obtain ⟨φ, hd, σd, Qd, Xd, A, w, q, x⟩ := hq
  refine Ter.go A x w fun φ1 h1 H1 d v e1 A1 r1 w1 => Ter.go A1 (x.ext e1) w1 fun φ2 h2 H2 d2 v2 e2 A2 r2 w2 => Ter.go A2 (x.ext (e1.trans e2)) w2 fun φ3 h3 H3 d3 v3 e3 A3 r3 w3 => ?_
  obtain ⟨i, j, k, n, rfl, rfl, rfl, b1, w3⟩ := w3
  cases r1
  cases r2
  cases r3
  exact ⟨i, j, k, n, rfl, b1, q φ3 h3 H3 _ (Itc i k n) ((e1.trans e2).trans e3) A3.sim (itw_rangeC i k n) w3⟩
theorem ok_ienum {a} (ha : SndE a) : SndI (.enum a) := by
  intro W G lv P WX X C e tg h
  obtain ⟨x, p, a', pos, es, kk, tp, rfl, rfl, k⟩ := enum_inv h
  simp only [Bool.and_eq_true, decide_eq_true_eq, Bool.not_eq_true'] at k
  obtain ⟨⟨⟨rfl, h1⟩, h2⟩, h3⟩ := k
  refine pi_imp (VdEn.pi_enumA (C.gl' h1) C.bn2.2.2.1 (pa_cons (ha C a' h3).1 pa_nil (star_cons h2)) (star_cons h2)) fun σ H R hq => ?_
  obtain ⟨φ, hd, σd, Qd, Xd, A, w, q, x⟩ := hq
  refine Ter.go A x w fun φ1 h1 H1 d v e1 A1 r1 w1 => ?_
  obtain ⟨xs, e, w1⟩ := w1
  rcases rdS_cases e with rfl | ⟨e', hs⟩
  · have r1' := r1
    cases r1 with
    | @tup a vs _ ha na ra =>
      refine ⟨_, vs, rfl, .inr ⟨.of ha, ?_⟩⟩
      rw [C.K]
      exact q φ1 h1 H1 _ _ e1 A1.sim (itw_enumT r1' rfl _) w1
  · obtain ⟨p, vs, ev, hq, rs⟩ := rdL_ok A1.sim r1 e'
    refine ⟨p, vs, by rw [ev], .inl ⟨by rw [C.K]; exact hq, ?_⟩⟩
    rw [C.K]
    simp only [hs] at w1
    exact q φ1 h1 H1 _ _ e1 A1.sim (itw_enum r1 ev) w1
theorem ok_irev {a} (ha : SndE a) : SndI (.rev a) := by
  intro W G lv P WX X C e tg h
  obtain ⟨x, p, a', pos, rfl, k⟩ := rev_inv h
  simp only [Bool.and_eq_true, decide_eq_true_eq, Bool.not_eq_true'] at k
  obtain ⟨⟨⟨rfl, h1⟩, h2⟩, h3⟩ := k
  refine pi_imp (RT.pi_revA (C.gl' h1) C.bn2.2.2.2.1 (ha C a' h3).1 (star_cons h2)) fun σ H R hq => ?_
  obtain ⟨φ, hd, σd, Qd, Xd, A, w, q, x⟩ := hq
  refine Ter.go A x w fun φ1 h1 H1 d v e1 A1 r1 w1 => ?_
  obtain ⟨xs, e, w1⟩ := w1
  rcases rdS_cases e with rfl | ⟨e', hs⟩
  · have r1' := r1
    cases r1 with
    | @tup a vs _ ha na ra =>
      refine ⟨_, vs, rfl, .inr ⟨.of ha, ?_⟩⟩
      rw [C.K, ← ra.len]
      exact q φ1 h1 H1 _ _ e1 A1.sim (itw_revT r1' rfl _) w1
  · obtain ⟨p, vs, ev, hq, rs⟩ := rdL_ok A1.sim r1 e'
    refine ⟨p, vs, ev, .inl ⟨by rw [C.K]; exact hq, ?_⟩⟩
    rw [C.K, ← rs.len]
    exact q φ1 h1 H1 _ _ e1 A1.sim (itw_stay (J' := ⟨xs.reverse, fun h' => rdS h' d = some xs⟩) (itw_rev r1 ev) rfl fun h st => (show rdL h d = some xs by rw [← hs]; exact st)) w1
theorem ok_izip {a b} (ha : SndE a) (hb : SndE b) : SndI (.zip a b) := by
  intro W G lv P WX X C e tg h
  obtain ⟨x, p, a', b', pos, es, kk, tp, rfl, rfl, k⟩ := zip_inv h
  simp only [Bool.and_eq_true, decide_eq_true_eq, Bool.not_eq_true'] at k
  obtain ⟨⟨⟨⟨⟨rfl, h1⟩, h2⟩, h2'⟩, h3⟩, h4⟩ := k
  refine pi_imp (RZ.pi_zipA (C.gl' h1) C.bn2.2.1 (pa_cons (ha C a' h3).1 (pa_cons (hb C b' h4).1 pa_nil (star_cons h2')) (star_cons h2)) (star_cons h2) (star_any (by simpa using h2'))) fun σ H R hq => ?_
  obtain ⟨φ, hd, σd, Qd, Xd, A, w, q, x⟩ := hq
  refine Ter.go A x w fun φ1 h1 H1 d v e1 A1 r1 w1 => Ter.go A1 (x.ext e1) w1 fun φ2 h2 H2 d2 v2 e2 A2 r2 w2 => ?_
  obtain ⟨xs, ys, e, w2⟩ := w2
  have r1' := r1.ext e2
  rcases rd2_inv e with ⟨ea, eb⟩ | ⟨rfl, rfl⟩
  · obtain ⟨p, vs, ev, hq, rs⟩ := rdL_ok A2.sim r1' ea
    obtain ⟨p', us, eu, hp, ps⟩ := rdL_ok A2.sim r2 eb
    refine ⟨p, p', vs, us, by rw [ev, eu], .inl ⟨by rw [C.K]; exact hq, by rw [C.K]; exact hp, ?_⟩⟩
    rw [C.K]
    refine q φ2 h2 H2 _ _ (e1.trans e2) A2.sim (itw_stay (J' := ⟨(xs.zip ys).map fun p => .tup [p.1, p.2], fun h' => rd2 h' d d2 = some (xs, ys)⟩) (itw_zip r1' r2 ev eu) rfl fun h st => ?_) w2
    rcases rd2_inv st with z | ⟨rfl, rfl⟩
    · exact z
    · cases ea
  · have r1c := r1'
    have r2c := r2
    cases r1' with
    | @tup a vs _ ha na ra =>
    cases r2 with
    | @tup b us _ hb nb rb =>
      refine ⟨_, _, vs, us, rfl, .inr ⟨.of ha, .of hb, ?_⟩⟩
      rw [C.K]
      exact q φ2 h2 H2 _ _ (e1.trans e2) A2.sim (itw_zipT r1c r2c rfl rfl _) w2
end
theorem itw_keys {W : Wd} {φ : List Addr} {H : Hp} {d : Addr} {od : Obj} {kvs : List (L2.Key × D)} {vs : List V} (hl : kvs.length = vs.length) (hd : H d = some (.frz od (.dK ((kvs.map (·.1)).zip vs)))) (st : Hd → Prop) : ItW W φ H ⟨kvs.map fun kv => keyV kv.1, st⟩ (Itk d od ((kvs.map (·.1)).zip vs)) := by
  intro fb hf φ2 h2 H2 i E S _
  have hd2 := E.frz _ _ _ hd
  have hn : ((kvs.map (·.1)).zip vs).length = kvs.length := by simp; omega
  have hm : (kvs.map fun kv => keyV kv.1).length = kvs.length := List.length_map _
  refine ⟨fun hi => ?_, fun hi => ⟨hd2, ?_⟩⟩
  rotate_left
  · replace hi : i = (kvs.map fun kv => keyV kv.1).length := hi
    rw [hn, ← hm, hi]
    exact Nat.le_refl _
  replace hi : i < (kvs.map fun kv => keyV kv.1).length := hi
  have hi' : i < kvs.length := by rw [hm] at hi; exact hi
  refine ⟨⟨hd2, by rw [hn]; exact hi'⟩, fun x H' y => ?_⟩
  obtain ⟨rfl, k, v, hk, rfl⟩ := y
  have e1 : kvs[i]?.map (·.1) = some k := by
    rw [List.getElem?_zip_eq_some] at hk
    have := hk.1
    rw [List.getElem?_map] at this
    exact this
  obtain ⟨p, hp, rfl⟩ := Option.map_eq_some_iff.mp e1
  refine ⟨keyV p.1, by rw [List.getElem?_map, hp]; rfl, .refl, S, ?_⟩
  cases p.1 with
  | inl i => exact .int i
  | inr x => exact .str x
theorem ok_ikys {c} (hc : SndE c) : SndI (.kys c) := by
  intro W G lv P WX X C e tg h
  have h' : chkE P c e = true ∧ setB e = false := by
    have h2 : (chkE P c e && !setB e) = true := h
    simpa using h2
  refine pi_imp (pi_kysL (hc C e h'.1).1) fun σ H R hq => ?_
  obtain ⟨φ, hd, σd, Qd, Xd, A, w, q, x⟩ := hq
  refine Ter.go A x w fun φ1 h1 H1 d v e1 A1 r1 w1 => ?_
  obtain ⟨r, kvs, rfl, er, w1⟩ := w1
  obtain ⟨b, hb, vs, q1, q2⟩ := A1.sim.obj _ _ er
  cases r1 with
  | ref hp =>
    rw [hp] at hb; cases hb
    refine ⟨_, _, rfl, q1, fun od => ?_⟩
    have E := Ext.write (φ := φ1) (H := H1) (o := .frz od (.dK ((kvs.map (·.1)).zip vs))) (List.mem_of_getElem? hp) (nofrz q1 (fun _ _ z => nomatch z))
    have hl : kvs.length = vs.length := by have := q2.len; simpa using this
    exact q φ1 _ _ _ _ (e1.trans E) (A1.sim.write hp (nofrz q1 (fun _ _ z => nomatch z)) (show RepO W φ1 _ _ (.dk true kvs) from ⟨vs, ⟨od, upd_same⟩, q2.ext E⟩)) (itw_keys hl upd_same _) w1
end Vd

set_option Elab.async false
set_option linter.all false
set_option maxRecDepth 100000
set_option maxHeartbeats 4000000
/-! comprehensions; all expressions -/
namespace Vd
open PySem PySem.Spec PyProof.Rows L2
theorem filterMap_snd (N : List Str) : ∀ vs : List Nat, vs.all (fun i => (N[i]?).isSome) = true → (vs.filterMap fun i => (N[i]?).map fun x => (x, i)).map (·.2) = vs
  | [], _ => rfl
  | v :: vs, h => by
    rw [List.all_cons, Bool.and_eq_true] at h
    obtain ⟨x, hx⟩ := Option.isSome_iff_exists.mp h.1
    rw [List.filterMap_cons, hx]
    show v :: _ = _
    rw [filterMap_snd N vs h.2]
section
variable {W : Wd} {G : Gam} {lv : Nat} {P : Pl} {WX : L2.WX} {X : Cx}
theorem Cok.blk (C : Cok W G lv P WX X) (s : Shared) (H : Hp) (scope : Scope) (Cc : Addr) (cl : List (Str × Addr)) (fp : List Addr) (W' : Wd) (hK : W'.K = W.K) (hm : W'.mg = W.mg) (fb : W = { W' with fb := W.fb }) :
    Cok W' G lv (P.blk scope) (fun _ _ _ _ => False) (X.blk s H scope (compEnvC scope cl Cc X.env) fp) where
  K := by rw [hK]; exact C.K
  mg := by rw [hm]; exact C.mg
  N := C.N
  nd := C.nd
  sc := by
    show relS scope X.env.scope = relS scope P.sc
    rw [C.sc]
  calm := C.calm
  room := C.room
  hu := C.hu
  fn := fun x h => by
    show (scope.names.lookup x == some .cell) = true
    rw [show scope.names.lookup x = some .cell from h]; rfl
  bn := C.bn
  bn2 := C.bn2
  bn3 := C.bn3
  tk := takes0
  fns := fun hc f hf => by
    obtain ⟨fa, fd, ps, h1, h2, h3, F⟩ := C.fns hc f hf
    refine ⟨fa, fd, ps, h1, h2, h3, ?_⟩
    have e : ∀ s, SPd W s = SPd W' s := fun s => by rw [fb]; rfl
    rw [← e]
    exact F
  gl := C.gl
  fld := fun c f h Ca hC => by
    rw [hm] at hC
    exact C.fld c f h Ca hC
  mes := fun hc c m h => by
    obtain ⟨Ca, fa, fd, ps, h1, h2, h3, h4, F⟩ := C.mes hc c m h
    refine ⟨Ca, fa, fd, ps, by rw [hm]; exact h1, h2, h3, h4, ?_⟩
    have e : ∀ s, SPd W s = SPd W' s := fun s => by rw [fb]; rfl
    rw [← e]
    exact F
  mks := fun hc c h => by
    obtain ⟨Ca, fa, fd, ps, k, me, h1, h2, h3, h4, F, h5⟩ := C.mks hc c h
    refine ⟨Ca, fa, fd, ps, k, me, h1, h2, h3, h4, ?_, h5⟩
    have e : ∀ s, SPd W s = SPd W' s := fun s => by rw [fb]; rfl
    rw [← e]
    exact F
  xn := fun hc => by
    have := C.xn hc
    rw [fb] at this
    exact this
  exs := C.exs
  exm := fun c t b h Ca hC => by
    rw [hm] at hC
    exact C.exm c t b h Ca hC
  sub := fun c t b h Ca hC => by
    rw [hm] at hC
    exact C.sub c t b h Ca hC
  xe := fun h => nomatch h
  isn := C.isn
  trs := C.trs
theorem comp_inv {m elt tg it cond vs} {e : Expr} (h : chkE P (.comp m elt tg it cond vs) e = true) : ∃ elt' tg' it' ifs scope pos, e = .ListComp elt' [⟨tg', it', ifs, 0⟩] scope pos ∧
    (P.cm && blkB P scope vs && chkI P it it' tg' && tgC (P.blk scope) tg tg' && chkC (P.blk scope) cond ifs && chkE (P.blk scope) elt elt' && tgIn tg vs) = true := by
  unfold chkE at h
  split at h <;> first | (rename_i q; cases q; done) | (injections; subst_vars; exact ⟨_, _, _, _, _, _, rfl, h⟩) | cases h
theorem chkI_set {c : It} {e tg : Expr} (h : chkI P c e tg = true) : setB e = false := by
  cases e with
  | Set => cases c <;> simp [chkI, setB] at h
  | _ => rfl
theorem wipe_set {σ : L2.St} {i : Nat} {o : Option V} : ∀ {vs : List Nat}, i ∈ vs → L2.wipe (σ.set i o) vs = L2.wipe σ vs
  | v :: vs, h => by
    show (L2.wipe (σ.set i o) vs).set v none = (L2.wipe σ vs).set v none
    by_cases e : v = i
    · subst e
      by_cases h2 : v ∈ vs
      · rw [wipe_set h2]
      · have key : ∀ (ws : List Nat), v ∉ ws → L2.wipe (σ.set v o) ws = (L2.wipe σ ws).set v o := by
          intro ws
          induction ws with
          | nil => intro _; rfl
          | cons w ws ih =>
            intro hw
            simp only [List.mem_cons, not_or] at hw
            show (L2.wipe (σ.set v o) ws).set w none = ((L2.wipe σ ws).set w none).set v o
            rw [ih hw.2, List.set_comm _ _ (fun q => hw.1 q)]
        rw [key vs h2, List.set_set]
    · have h2 : i ∈ vs := by
        rcases List.mem_cons.mp h with z | z
        · exact absurd z.symm e
        · exact z
      rw [wipe_set h2]
  | [], h => by simp at h
theorem wipe_idem {σ : L2.St} : ∀ {vs ws : List Nat}, (∀ v ∈ vs, v ∈ ws) → L2.wipe (L2.wipe σ vs) ws = L2.wipe σ ws
  | [], _, _ => rfl
  | v :: vs, ws, h => by
    show L2.wipe ((L2.wipe σ vs).set v none) ws = _
    rw [wipe_set (h v List.mem_cons_self), wipe_idem fun x hx => h x (List.mem_cons_of_mem _ hx)]
/-- a target changes its own slots alone -/
theorem ok_tgw {W : Wd} {X : Cx} {P : Pl} {WX : L2.WX} (C : Cok W G lv P WX X) {t : Tg} {e : Expr} (h : tgC P t e = true) (vs : List Nat) (hin : tgIn t vs = true) :
    PG X e (fun v σ H Q => ∃ (φ : List Addr) (hd : Hd) (d : D) (σd : DSt) (K : DSt → Prop), Sim W φ hd H ∧ RepSt W φ H σd σ ∧ Rep W φ H d v ∧ tgW t d σd hd K ∧ ∀ σd' σ', L2.wipe σ' vs = L2.wipe σ vs → RepSt W φ H σd' σ' → K σd' → Q σ' H) := by
  cases t with
  | nm i =>
    cases e with
    | Name x pos =>
      obtain ⟨n1, n2, n3, n4⟩ := C.nm (show nmB P i x = true from h)
      refine pg_imp (pg_name (i := i) n1 n2 n3 n4) fun v σ H Q h => ?_
      obtain ⟨φ, hd, d, σd, K, S, rs, r, w, k⟩ := h
      have hi : i ∈ vs := by simpa [tgIn] using hin
      exact k _ _ (wipe_set hi) (rs.set i r) w
    | _ => simp [tgC] at h
  | tp is =>
    cases e with
    | Tuple es k pos =>
      have hin' : ∀ i ∈ is, i ∈ vs := by
        have : is.all (fun i => vs.contains i) = true := hin
        intro i hi
        simpa using List.all_eq_true.mp this i hi
      simp only [tgC, Bool.and_eq_true, decide_eq_true_eq] at h
      obtain ⟨⟨hc, h1⟩, h2⟩ := h
      have tgs : ∀ (is : List Nat) (es : List Expr), (∀ i ∈ is, i ∈ vs) → is.length = es.length → ((is.zip es).all fun p => match p.2 with
          | .Name x _ => nmB P p.1 x
          | _ => false) = true → ((assignEach es X.env).findIdx? (·.1) = none ∧ (assignEach es X.env).length = es.length) ∧
          PGs X es (fun us σ H Q => ∃ (φ : List Addr) (hd : Hd) (ds : List D) (σd : DSt) (K : DSt → Prop), Sim W φ hd H ∧ RepSt W φ H σd σ ∧ Reps W φ H ds us ∧ ds.length = is.length ∧ K ((is.zip ds).foldl (fun s p => s.set p.1 (some p.2)) σd) ∧ ∀ σd' σ', L2.wipe σ' vs = L2.wipe σ vs → RepSt W φ H σd' σ' → K σd' → Q σ' H) := by
        intro is es
        induction es generalizing is with
        | nil =>
          intro _ hl _
          cases is with
          | cons => simp at hl
          | nil =>
            refine ⟨⟨rfl, rfl⟩, pgs_imp pgs_nil fun us σ H Q h => ?_⟩
            obtain ⟨φ, hd, ds, σd, K, S, rs, r, l, w, k⟩ := h
            cases ds with
            | nil => cases r; exact ⟨rfl, k σd σ rfl rs w⟩
            | cons => simp at l
        | cons e es ih =>
          intro hv hl h
          cases is with
          | nil => simp at hl
          | cons i is =>
            rw [List.zip_cons_cons, List.all_cons, Bool.and_eq_true] at h
            obtain ⟨⟨i1, i2⟩, i3⟩ := ih is (fun j hj => hv j (List.mem_cons_of_mem _ hj)) (by simpa using hl) h.2
            cases e with
            | Name x pos =>
              have e1 : assignEach (.Name x pos :: es) X.env = (false, assign (.Name x pos) X.env) :: assignEach es X.env := rfl
              obtain ⟨n1, n2, n3, n4⟩ := C.nm h.1
              refine ⟨⟨by rw [e1, List.findIdx?_cons]; simp [i1], by rw [e1]; simp [i2]⟩, pgs_imp (pgs_cons (pg_name (i := i) n1 n2 n3 n4) i3) fun us σ H Q h => ?_⟩
              obtain ⟨φ, hd, ds, σd, K, S, rs, r, l, w, k⟩ := h
              cases r with
              | nil => simp at l
              | @cons d v ds us a b =>
                refine ⟨v, us, rfl, φ, hd, ds, σd.set i (some d), K, S, rs.set i a, b, by simpa using l, w, fun σd' σ' hw => k σd' σ' ?_⟩
                rw [hw, wipe_set (hv i List.mem_cons_self)]
            | _ => cases h.1
      obtain ⟨hst, pgs⟩ := tgs is es hin' h1 h2
      refine pg_imp (pg_or (pg_tup (C.calm hc) pgs hst.2 hst.1) (pg_unl (C.calm hc) pgs hst.2 hst.1)) fun v σ H Q h => ?_
      obtain ⟨φ, hd, d, σd, K, S, rs, r, w, k⟩ := h
      obtain ⟨xs, e, l, w⟩ := w
      obtain ⟨a, us, rfl, hq, ra⟩ := rdS_ok S r e
      rcases hq with hq | hq
      · exact .inr ⟨a, us, rfl, by rw [C.K]; exact hq, by rw [← ra.len, l, h1], φ, hd, xs, σd, K, S, rs, ra, l, w, k⟩
      · exact .inl ⟨a, us, rfl, by rw [C.K]; exact hq, by rw [← ra.len, l, h1], φ, hd, xs, σd, K, S, rs, ra, l, w, k⟩
    | _ => simp [tgC] at h

theorem pg_ex {ι : Type} {X : Cx} {e : Expr} {g : ι → TG} (h : ∀ D, PG X e (g D)) : PG X e (fun v σ H Q => ∃ D, g D v σ H Q) := ⟨fun pins s σ H v u Q I r ⟨D, q⟩ => (h D).run pins s σ H v u Q I r q⟩
theorem pe_ex {ι : Type} {X : Cx} {e : Expr} {g : ι → TE} (h : ∀ D, PE X e (g D)) : PE X e (fun σ H Q => ∃ D, g D σ H Q) := ⟨fun pins s σ H Q I ⟨D, q⟩ => (h D).run pins s σ H Q I q⟩
theorem pts_ex {ι : Type} {X : Cx} {e : List Expr} {g : ι → TT} (h : ∀ D, PTs X e (g D)) : PTs X e (fun σ H Q => ∃ D, g D σ H Q) := ⟨fun pins s σ H Q I ⟨D, q⟩ => (h D).run pins s σ H Q I q⟩
theorem Ext.poke {φ φ' : List Addr} {H H' : Hp} {p : Addr} {o : HO} (e : Ext φ φ' H H') (hp : H p = none) : Ext φ φ' H (upd H' p o) :=
  ⟨e.pre, fun a u n h => by rw [upd_ne (ne_of_none h hp)]; exact e.keep a u n h, fun a h => by
    by_cases z : a = p
    · subst z; rw [upd_same]; simp
    · rw [upd_ne z]; exact e.there a h, fun a u v h => by rw [upd_ne (ne_of_none h hp)]; exact e.frz a u v h⟩
section
variable {W : Wd} {φ : List Addr} {H : Hp}
mutual
theorem Rep.enroll {p : Addr} : ∀ {d v}, Rep (W.more p) φ H d v → Rep W (φ ++ [p]) H d v
  | _, _, .non => .non
  | _, _, .bl b => .bl b
  | _, _, .int i => .int i
  | _, _, .str x => .str x
  | _, _, .tup h n r => .tup h (en n) (Reps.enroll r)
  | _, _, .vl h n r => .vl h (en n) (Reps.enroll r)
  | _, _, .sv h r => .sv (by
      rcases h with ⟨h, n⟩ | h
      · exact .inl ⟨h, en n⟩
      · exact .inr h) (Reps.enroll r)
  | _, _, .vi h n c m r l => .vi h (en n) c m (Reps.enroll r) l
  | _, _, .ref h => .ref (by rw [List.getElem?_append_left (List.getElem?_eq_some_iff.mp h).1]; exact h)
theorem Reps.enroll {p : Addr} : ∀ {ds vs}, Reps (W.more p) φ H ds vs → Reps W (φ ++ [p]) H ds vs
  | _, _, .nil => .nil
  | _, _, .cons a b => .cons (Rep.enroll a) (Reps.enroll b)
theorem en {p a : Addr} (n : Off (W.more p) φ a) : Off W (φ ++ [p]) a := by
  obtain ⟨n1, n2⟩ := n
  simp only [List.mem_cons, not_or] at n2
  exact ⟨by simp only [List.mem_append, List.mem_singleton, not_or]; exact ⟨n1, n2.1⟩, n2.2⟩
end
theorem Sim.enroll {hd : Hd} {p : Addr} {acc : List D} {vs : List V} (s : Sim (W.more p) φ hd H) (hn : p ∉ φ) (hf : p ∉ W.fb) (hp : H p = some (.lst vs)) (r : Reps (W.more p) φ H acc vs) : Sim W (φ ++ [p]) (hd ++ [.lst acc]) H := by
  refine ⟨by simp [s.len], ?_, fun a h => s.fbt a (List.mem_cons_of_mem _ h), fun a h z => ?_, fun n u h => ?_⟩
  rotate_left
  · rcases List.mem_append.mp z with z | z
    · exact s.fbn a (List.mem_cons_of_mem _ h) z
    · have : a = p := by simpa using z
      exact hf (by rw [← this]; exact h)
  rotate_left
  · rw [List.nodup_append]
    refine ⟨s.nd, by simp, fun a ha b hb e => ?_⟩
    have : b = p := by simpa using hb
    subst this
    exact hn (e ▸ ha)
  · by_cases hl : n < hd.length
    · rw [List.getElem?_append_left hl] at h
      obtain ⟨a, ha, q⟩ := s.obj n u h
      refine ⟨a, by rw [List.getElem?_append_left (by rw [s.len]; exact hl)]; exact ha, ?_⟩
      cases u with
      | lst xs => obtain ⟨vs, q1, q2⟩ := q; exact ⟨vs, q1, q2.enroll⟩
      | ins c ns xs => obtain ⟨C, dx, vs, q1, q2, q3, q4⟩ := q; exact ⟨C, dx, vs, q1, q2, q3.enroll, q4⟩
      | dk z kvs => obtain ⟨vs, q1, q2⟩ := q; exact ⟨vs, q1, q2.enroll⟩
      | dt z kvs => obtain ⟨vs, q1, q2⟩ := q; exact ⟨vs, q1, q2.enroll⟩
    · have e : n = hd.length := by
        have := (List.getElem?_eq_some_iff.mp h).1
        simp at this; omega
      subst e
      simp at h
      subst h
      exact ⟨p, by rw [← s.len]; simp, vs, hp, r.enroll⟩
end
/-- what a comprehension is made of -/
noncomputable def CompParts (X : Cx) (elt' tg' it' : Expr) (ifs : List Expr) (scope : Scope) (T : TE) : Prop := ∃ (wi : TI) (g : TG) (tt : TT) (te : TE) (own : List (Str × Nat)), PI X tg' it' wi ∧ BlkOk X.N X.env.scope scope own ∧
  (∀ (s : Shared) (H : Hp) (C' : Addr) (cl : List (Str × Addr)) (fp : List Addr), PG (X.blk s H scope (compEnvC scope cl C' X.env) fp) tg' g) ∧ (∀ (s : Shared) (H : Hp) (C' : Addr) (cl : List (Str × Addr)) (fp : List Addr), PTs (X.blk s H scope (compEnvC scope cl C' X.env) fp) ifs tt) ∧
  (∀ (s : Shared) (H : Hp) (C' : Addr) (cl : List (Str × Addr)) (fp : List Addr), PE (X.blk s H scope (compEnvC scope cl C' X.env) fp) elt' te) ∧ (∀ x, foldedSetIterable it' X.env x = pure x) ∧ ∀ σ H Q, T σ H Q → tLc wi g tt te (own.map (·.2)) σ H Q
theorem comp_parts {m elt tg it cond vs} (hi : SndI it) (hc : SndO cond) (he : SndE elt) (C : Cok W G lv P WX X) {elt' tg' it' : Expr} {ifs : List Expr} {scope : Scope}
    (k : (P.cm && blkB P scope vs && chkI P it it' tg' && tgC (P.blk scope) tg tg' && chkC (P.blk scope) cond ifs && chkE (P.blk scope) elt elt' && tgIn tg vs) = true) :
    CompParts X elt' tg' it' ifs scope (Ter W (rV W) WX (wpE G (.comp m elt tg it cond vs))) := by
  simp only [Bool.and_eq_true] at k
  obtain ⟨⟨⟨⟨⟨⟨hcm, hb⟩, h1⟩, h2⟩, h3⟩, h4⟩, h5⟩ := k
  unfold blkB at hb
  rw [Bool.and_eq_true] at hb
  have ok := blkOk_by hb.1
  have evs := filterMap_snd P.N vs hb.2
  have hiW := hi C it' tg' h1
  have nd : X.N.Nodup := by rw [C.N]; exact C.nd
  have CB : ∀ (D : Addr) (s : Shared) (H : Hp) (C' : Addr) (cl : List (Str × Addr)) (fp : List Addr), Cok (W.more D) G lv (P.blk scope) (fun _ _ _ _ => False) (X.blk s H scope (compEnvC scope cl C' X.env) fp) :=
    fun D s H C' cl fp => C.blk s H scope C' cl fp (W.more D) rfl rfl rfl
  have hcm0 : P.cm = true := hcm
  have hs : ∀ x, foldedSetIterable it' X.env x = pure x := set_plain (chkI_set h1)
  refine ⟨_, _, _, _, _, hiW, by rw [C.N, C.sc]; exact ok, fun s H C' cl fp => pg_ex fun D => ok_tgw (CB D s H C' cl fp) h2 vs h5, fun s H C' cl fp => pts_ex fun D => (hc (CB D s H C' cl fp)).2 ifs h3,
    fun s H C' cl fp => pe_ex fun D => (he (CB D s H C' cl fp) elt' h4).1, hs, ?_⟩
  rw [evs]
  intro σ H Q hq
  obtain ⟨φ, hd, σd, Qd, Xd, A, w, q, x⟩ := hq
  refine Ter.go A x w fun φ1 h1 H1 J Jv e1 A1 hJ w1 => ?_
  intro dA hD
  have hDφ : dA ∉ φ1 := A1.sim.notin hD
  have hDf : dA ∉ W.fb := fun z => A1.sim.fbt dA z hD
  let turn : D → Hd → (Option D → Hd → Prop) → Prop := fun x h2 K => tgW tg x (Vd.wipe σd vs) h2 fun σ2 =>
    wpC G cond σ2 h2 (fun b h3 => if b = true then wpE G elt σ2 h3 (fun y h4 => K (some y) h4) (fun _ _ => False) else K none h3) (fun _ _ => False)
  let Inv5 : Nat → Hp → Prop := fun i H => ∃ (φ : List Addr) (hd : Hd) (acc : List D) (va : List V), Ext φ1 φ H1 H ∧ dA ∉ φ ∧ Sim (W.more dA) φ hd H ∧ RepSt (W.more dA) φ H σd σ ∧ H dA = some (.lst va) ∧ Reps (W.more dA) φ H acc va ∧
    compL J.stay turn (J.xs.drop i) acc hd (fun acc h5 => mkL m acc h5 Qd)
  refine ⟨fun i n H => i + n = J.xs.length ∧ Inv5 i H, ⟨J.xs.length, by simp, φ1, h1, [], [], (Ext.refl).poke hD, hDφ, A1.sim.more hD, A1.st.imp fun d v r => (Rep.more hD r).ext (W := W.more dA) (Ext.new hD), upd_same, .nil, w1⟩, ?_⟩
  rintro i n H2 ⟨hin, φ2, h2, acc, va, e2, hn2, S2, R2, hD2, ra, w2⟩
  have hfb : ∀ p ∈ (W.more dA).fb, p ∈ W.fb ∨ H1 p = none := fun p hp => by
    rcases List.mem_cons.mp hp with rfl | hp
    · exact .inr hD
    · exact .inl hp
  by_cases hlt : i < J.xs.length
  · right
    have hdrop : J.xs.drop i = J.xs[i] :: J.xs.drop (i + 1) := List.drop_eq_getElem_cons hlt
    rw [hdrop] at w2
    obtain ⟨st, w2⟩ := w2
    obtain ⟨go, yld⟩ := (hJ _ hfb φ2 h2 H2 i e2 S2 st).1 hlt
    refine ⟨go, Inv5 (i + 1), fun H' h' => ⟨n - 1, by omega, by omega, h'⟩, fun x' H3 y => ?_⟩
    obtain ⟨d, hd', e3, S3, r3⟩ := yld x' H3 y
    have ed : J.xs[i] = d := by
      rw [List.getElem?_eq_getElem hlt] at hd'
      exact Option.some.inj hd'
    rw [ed] at w2
    refine ⟨dA, φ2, h2, d, Vd.wipe σd vs, _, S3, RepSt.wipe (W := W.more dA) (C.xn hcm0) (R2.ext e3) vs, r3, w2, fun σ4d σ4 hw rs4 w4 => ⟨by rw [hw, wipe_idem fun _ z => z], ?_⟩⟩
    have A4 : At (W.more dA) φ2 h2 H3 σ4d σ4 := ⟨S3, rs4⟩
    have x4 : XOk (W.more dA) (fun _ _ _ _ => False) φ2 H3 σ4 (fun _ _ => False) := fun _ _ _ _ _ _ _ _ z => z
    have hD3 : H3 dA = some (.lst va) := e3.keep dA _ hn2 hD2
    refine ⟨dA, Ter.go A4 x4 w4 fun φ5 h5 H5 b bv e5 A5 rb w5 => ?_⟩
    cases rb
    have hD5 : H5 dA = some (.lst va) := e5.keep dA _ hn2 hD3
    have hn5 : dA ∉ φ5 := e5.out hn2 hD3
    cases b with
    | false =>
      rw [if_neg Bool.false_ne_true] at w5 ⊢
      exact ⟨φ5, h5, acc, va, e2.trans (e3.trans e5), hn5, A5.sim, (R2.ext e3).ext e5, hD5, (ra.ext e3).ext e5, w5⟩
    | true =>
      rw [if_pos rfl] at w5 ⊢
      refine ⟨dA, Ter.go A5 (x4.ext e5) w5 fun φ6 h6 H6 y yv e6 A6 ry w6 => ?_⟩
      have hD6 : H6 dA = some (.lst va) := e6.keep dA _ hn5 hD5
      have hn6 : dA ∉ φ6 := e6.out hn5 hD5
      have eT := e2.trans (e3.trans (e5.trans e6))
      have hmem : dA ∈ (W.more dA).fb := List.mem_cons_self
      have ra6 : Reps (W.more dA) φ6 H6 acc va := ((ra.ext e3).ext e5).ext e6
      exact ⟨va, hD6, by rw [← ra.len]; exact w6.1, φ6, h6, acc ++ [y], va ++ [yv], eT.poke hD, hn6, A6.sim.poke hmem hn6, (((R2.ext e3).ext e5).ext e6).imp fun d v r => r.poke hmem, upd_same, (ra6.append (.single ry)).poke hmem, w6.2⟩
  · left
    have hi : i = J.xs.length := by omega
    have hdrop : J.xs.drop i = [] := List.drop_eq_nil_of_le (by omega)
    rw [hdrop] at w2
    obtain ⟨st, w2⟩ := w2
    refine ⟨(hJ _ hfb φ2 h2 H2 i e2 S2 st).2 hi, ?_⟩
    cases m with
    | false => exact q φ2 h2 H2 _ _ (e1.trans e2) S2.less (.vl hD2 ⟨hn2, hDf⟩ ra.less) w2.2
    | true =>
      have e3 : Ext φ1 (φ2 ++ [dA]) H1 H2 := by
        obtain ⟨l, el, hl⟩ := e2.pre
        refine ⟨⟨l ++ [dA], by rw [el, List.append_assoc], fun p hp => ?_⟩, e2.keep, e2.there, e2.frz⟩
        rcases List.mem_append.mp hp with z | z
        · exact hl p z
        · have : p = dA := by simpa using z
          rw [this]; exact hD
      refine q (φ2 ++ [dA]) (h2 ++ [.lst acc]) H2 _ _ (e1.trans e3) (S2.enroll hn2 hDf hD2 ra) (.ref ?_) w2.2
      rw [← S2.len]; simp
theorem ok_comp {m elt tg it cond vs} (hi : SndI it) (hc : SndO cond) (he : SndE elt) : SndE (.comp m elt tg it cond vs) := by
  intro W G lv P WX X C e h
  obtain ⟨elt', tg', it', ifs, scope, pos, rfl, k⟩ := comp_inv h
  have hcm : P.cm = true := by
    simp only [Bool.and_eq_true] at k
    exact k.1.1.1.1.1.1
  obtain ⟨wi, g, tt, te, own, p1, p2, p3, p4, p5, p6, p7⟩ := comp_parts (m := m) hi hc he C k
  have p : PE X (.ListComp elt' [⟨tg', it', ifs, 0⟩] scope pos) (Ter W (rV W) WX (wpE G (.comp m elt tg it cond vs))) := pe_imp (pe_lc (C.calm hcm) (by rw [C.N]; exact C.nd) p1 p2 p3 p4 p5 p6) p7
  exact ⟨p, fun _ => tst_of p rfl⟩
end

mutual
theorem sndE : ∀ c : E, SndE c
  | .var i => ok_var i
  | .int i => ok_int i
  | .str i => ok_str i
  | .bl i => ok_bl i
  | .non => ok_non
  | .glob x => ok_glob x
  | .bin _ _ a b => ok_bin (sndE a) (sndE b)
  | .neg a => ok_neg (sndE a)
  | .not a => ok_not (sndE a)
  | .cmp _ a b => ok_cmp (sndE a) (sndE b)
  | .chain _ _ a b c => ok_chain (sndE a) (sndE b) (sndE c)
  | .and es => ok_and (sndEs es)
  | .or es => ok_or (sndEs es)
  | .ife c a b => ok_ife (sndE c) (sndE a) (sndE b)
  | .tup es => ok_tup (sndEs es)
  | .lst _ es => ok_lst (sndEs es)
  | .idx a i => ok_idx (sndE a) (sndE i)
  | .slc _ a lo hi => ok_slc (sndE a) (sndO lo) (sndO hi)
  | .stp a _ _ => ok_stp (sndE a)
  | .mdef _ a => ok_mdef (sndE a)
  | .lset a => ok_lset (sndE a)
  | .lrev _ a => ok_lrev (sndE a)
  | .srs _ a => ok_srs (sndE a)
  | .mpr _ a => ok_mpr (sndE a)
  | .dnew _ => ok_dnew
  | .ddsp k v => ok_ddsp (sndE k) (sndE v)
  | .dln a => ok_dln (sndE a)
  | .dget o i => ok_dget (sndE o) (sndE i)
  | .din _ i o => ok_din (sndE i) (sndE o)
  | .lrg _ a b => ok_lrg (sndE a) (sndE b)
  | .lrb _ a b => ok_lrb (sndE a) (sndE b)
  | .fld a _ => ok_fld (sndE a)
  | .isi a _ => ok_isi (sndE a)
  | .call _ es => ok_call (sndEs es)
  | .make _ es => ok_make (sndEs es)
  | .meth o _ es => ok_meth (sndE o) (sndEs es)
  | .ise _ _ => ok_ise
  | .bi _ _ es => ok_bi (sndEs es)
  | .bm _ o es => ok_bm (sndE o) (sndEs es)
  | .comp _ elt _ it cond _ => ok_comp (sndI it) (sndO cond) (sndE elt)
theorem sndEs : ∀ c : Es, SndEs c
  | .nil => ok_nil
  | .cons e r => ok_cons (sndE e) (sndEs r)
theorem sndO : ∀ c : Oe, SndO c
  | .none => ok_onone
  | .some e => ok_osome (sndE e)
theorem sndI : ∀ c : It, SndI c
  | .val e => ok_ival (sndE e)
  | .chs e => ok_ichs (sndE e)
  | .rng1 a => ok_irng1 (sndE a)
  | .rng2 a b => ok_irng2 (sndE a) (sndE b)
  | .rngb a b => ok_irngb (sndE a) (sndE b)
  | .rng3 a b c => ok_irng3 (sndE a) (sndE b) (sndE c)
  | .zip a b => ok_izip (sndE a) (sndE b)
  | .enum a => ok_ienum (sndE a)
  | .rev a => ok_irev (sndE a)
  | .kys a => ok_ikys (sndE a)
end
end Vd

set_option Elab.async false
set_option linter.all false
set_option maxRecDepth 100000
set_option maxHeartbeats 4000000
/-! statements -/
namespace Vd
open PySem PySem.Spec PyProof.Rows L2
noncomputable def parB (sc : Scope) (x : Str) (px : Pos) (y : Str) (py : Pos) (a b : Expr) : Bool :=
  !(x == y) && (px.line == py.line) && (sc.names.lookup x == some .local) && (sc.names.lookup y == some .local) && !starB a && !starB b && !(foldedForSure 8 a && foldedForSure 8 b) && !(constantsAlone 8 a && constantsAlone 8 b)
theorem star_any2 {e : Expr} (h : starB e = false) : (match e with | .Starred .. => true | _ => false) = false := by cases e <;> first | rfl | simp [starB] at h
theorem par_ok {env : Env} {sc : Scope} {x y : Str} {px py pt p2 : Pos} {a b : Expr} {k k2 : Nat} (hk : env.scope.kind = .function) (hs : env.scope = sc) (h : parB sc x px y py a b = true) :
    swappedStores [.Tuple [.Name x px, .Name y py] k pt] (.Tuple [a, b] k2 p2) env = pure (some [x, y]) := by
  subst hs
  unfold parB at h
  simp only [Bool.and_eq_true, Bool.not_eq_true'] at h
  obtain ⟨⟨⟨⟨⟨⟨⟨h1, h2⟩, h3⟩, h4⟩, h5⟩, h6⟩, h7⟩, h8⟩ := h
  have hb : env.blockKind = .function := by unfold Env.blockKind; rw [hk]; rfl
  have kx : (env.kindOf x == some .local) = true := h3
  have ky : (env.kindOf y == some .local) = true := h4
  have e1 : (px.line == px.line) = true := by simp
  have e2 : (py.line == px.line) = true := by
    have : px.line = py.line := by simpa using h2
    rw [this]; simp
  have hne : (y == x) = false := by
    rw [beq_eq_false_iff_ne] at h1 ⊢
    exact fun e => h1 e.symm
  have ed : List.eraseDups [x, y] = [x, y] := by
    simp [List.eraseDups, List.eraseDupsBy, List.eraseDupsBy.loop, hne]
  unfold swappedStores
  simp only [List.length_cons, List.length_nil, hb, List.any_cons, List.any_nil, star_any2 h5, star_any2 h6, List.head?_cons, Option.map_some, Option.getD_some, List.filterMap_cons, List.filterMap_nil, kx, ky, e1, e2, Expr.pos, Bool.and_self, if_true, ed, List.all_cons, List.all_nil, Bool.and_true, h7, h8]
  refine (if_neg (by decide)).trans ((if_neg ?_).trans rfl)
  intro hh
  simp only [Bool.or_eq_true] at hh
  rcases hh with hh | hh | hh
  · cases a with
    | Starred v p => exact absurd (show true = false from h5) (by decide)
    | _ => cases hh
  · cases b with
    | Starred v p => exact absurd (show true = false from h6) (by decide)
    | _ => cases hh
  · cases hh
theorem swc_ok {elt : Expr} {gs : List Comprehension} {scope : Scope} {vp pos : Pos} {t : Str} {l : Nat} {env : Env} (hk : env.scope.kind = .function) :
    swapsWith (.ListComp elt gs scope vp) (some (.Name t pos)) l env = pure ((env.scope.names.lookup t == some .local) && pos.line == vp.line && !(scope.names.any fun (n, k) => n == t && (k == .local || k == .cell))) := by
  have hb : env.blockKind = .function := by unfold Env.blockKind; rw [hk]; rfl
  unfold swapsWith
  simp only [hb, Expr.pos, Env.kindOf]
  rfl
theorem comp_plain2 {e t : Expr} {l : Nat} {env : Env} (h : compB e = false) : swapsWithSole [t] e l env = pure false := by
  have e1 : swapsWithSole [t] e l env = swapsWith e (some t) l env := by
    unfold swapsWithSole; rfl
  rw [e1]; exact comp_plain h
theorem sole_sub {a b : Expr} {p : Pos} {e : Expr} {l : Nat} {env : Env} : swapsWithSole [.Subscript a b p] e l env = pure false := by
  have e1 : swapsWithSole [.Subscript a b p] e l env = swapsWith e (some (.Subscript a b p)) l env := by
    unfold swapsWithSole; rfl
  rw [e1]
  unfold swapsWith
  cases e <;> rfl
noncomputable def isComp : Expr → Bool | .ListComp .. => true | _ => false
noncomputable def augB : Op2 → Bool | .add => true | .sub => true | _ => false
noncomputable def tupB : Expr → Bool | .Tuple .. => true | .List .. => true | _ => false
mutual
noncomputable def chkS (P : Pl) : S → Stmt → Bool
  | .set (.nm i) e, e0 => match e0 with
    | .Assign [.Name x px] v pos => nmB P i x && chkE P e v && (!compB v || (match v with
        | .ListComp _ _ scope vp => !(P.sc.names.lookup x == some .local) || ((P.sc.names.lookup x == some .local) && px.line == vp.line && !(scope.names.any fun (n, k) => n == x && (k == .local || k == .cell)))
        | _ => false))
    | _ => false
  | .set (.tp is) e, e0 => match e0 with
    | .Assign [.Tuple ts k p] v pos => tgC P (.tp is) (.Tuple ts k p) && chkE P e v && !tupB v
    | _ => false
  | .par i j a b, e0 => match e0 with
    | .Assign [.Tuple [.Name x px, .Name y py] _ _] (.Tuple [a', b'] _ _) pos => P.cm && nmB P i x && nmB P j y && parB P.sc x px y py a' b' && chkE P a a' && chkE P b b'
    | _ => false
  | .sub o i e, e0 => match e0 with
    | .Assign [.Subscript o' i' _] v pos => chkE P e v && chkE P o o' && chkE P i i' && !sliceB i'
    | _ => false
  | .dput o i e, e0 => match e0 with
    | .Assign [.Subscript o' i' _] v pos => chkE P e v && chkE P o o' && chkE P i i'
    | _ => false
  | .aug i o e, e0 => match e0 with
    | .AugAssign (.Name x _) op v _ => nmB P i x && opB o op && chkE P e v && augB o
    | _ => false
  | .ex e, e0 => match e0 with
    | .Expr v _ => chkE P e v && !compB v
    | _ => false
  | .ret e, e0 => match e0 with
    | .Return (some v) _ => chkE P e v
    | _ => false
  | .retN, e0 => match e0 with
    | .Return none _ => true
    | _ => false
  | .ite c a b, e0 => match e0 with
    | .If c' a' b' _ => chkE P c c' && tstB c && chkSs P a a' && chkSs P b b'
    | _ => false
  | .whl c b, e0 => match e0 with
    | .While c' b' [] _ => P.cm && chkE P c c' && tstB c && chkSs P b b'
    | _ => false
  | .fr t it b, e0 => match e0 with
    | .For tg it' b' [] _ => P.cm && chkI P it it' tg && tgC P t tg && chkSs P b b'
    | _ => false
  | .fset o f e, e0 => match e0 with
    | .Assign [.Attribute o' g _] v pos => chkE P e v && chkE P o o' && decide (g = Str.ofString f) && !compB v
    | _ => false
  | .raise c, e0 => match e0 with
    | .Raise (some (.Call (.Name x _) [.Constant (.str _) _ _] [] _)) none _ => P.cm && decide (x = Str.ofString c) && glB P.sc x && okN x
    | _ => false
  | .try b c none hh, e0 => match e0 with
    | .Try body [.ExceptHandler (some (.Name x _)) none (b0 :: suite) _] [] [] _ => P.cm && !P.ex && decide (x = Str.ofString c) && glB P.sc x && okN x && chkSs P b body && chkSs { P with cm := false, ex := false } hh (b0 :: suite)
    | _ => false
  | .try b c (some i) hh, e0 => match e0 with
    | .Try body [.ExceptHandler (some (.Name x _)) (some n) (b0 :: suite) _] [] [] _ => P.cm && !P.ex && decide (x = Str.ofString c) && glB P.sc x && okN x && decide (P.N[i]? = some n) && (P.sc.names.lookup n == some .local) && chkSs P b body && chkSs { P with cm := false, ex := true } hh (b0 :: suite)
    | _ => false
  | .pass, e0 => match e0 with
    | .Pass _ => true
    | _ => false
  | .brk, e0 => match e0 with
    | .Break _ => true
    | _ => false
  | .cont, e0 => match e0 with
    | .Continue _ => true
    | _ => false
noncomputable def chkSs (P : Pl) : Ss → List Stmt → Bool
  | .nil, [] => true
  | .cons s r, t :: ts => chkS P s t && chkSs P r ts
  | _, _ => false
end
/-- where a def's body stands -/
structure Sok (W : Wd) (G : Gam) (lv : Nat) (P : Pl) (WX : L2.WX) (X : Cx) : Prop where
  c : Cok W G lv P WX X
  kind : X.env.scope.kind = .function
  po : P.cm = true → PassesOwn (model X.prog X.w) X.A X.env X.xe
  stk : X.stack = X.env :: X.outer
  frm : X.env.frame = some X.env.locals
noncomputable def XSOk (W : Wd) (WX : L2.WX) (φ : List Addr) (H : Hp) (Xd : XS) : Prop := ∀ φ' hd' H' σd' σ' c C, Ext φ φ' H H' → Sim W φ' hd' H' → RepSt W φ' H' σd' σ' → clOf W.mg c = some C → Xd c σd' hd' → WX (.ref C) none σ' H'
structure EndOk (W : Wd) (φ : List Addr) (H : Hp) (Kd : Vd.Ends) (K : L2.Ends) : Prop where
  nx : ∀ φ' hd' H' σd' σ', Ext φ φ' H H' → Sim W φ' hd' H' → RepSt W φ' H' σd' σ' → Kd.nx σd' hd' → K.nx σ' H'
  rt : ∀ φ' hd' H' d v, Ext φ φ' H H' → Sim W φ' hd' H' → Rep W φ' H' d v → Kd.rt d hd' → K.rt v H'
  bk : ∀ φ' hd' H' σd' σ', Ext φ φ' H H' → Sim W φ' hd' H' → RepSt W φ' H' σd' σ' → Kd.bk σd' hd' → K.bk σ' H'
  ct : ∀ φ' hd' H' σd' σ', Ext φ φ' H H' → Sim W φ' hd' H' → RepSt W φ' H' σd' σ' → Kd.ct σd' hd' → K.ct σ' H'
noncomputable def Tes (W : Wd) (WX : L2.WX) (w : DSt → Hd → Vd.Ends → XS → Prop) : TS := fun K σ H => ∃ φ hd σd Kd Xd, At W φ hd H σd σ ∧ w σd hd Kd Xd ∧ EndOk W φ H Kd K ∧ XSOk W WX φ H Xd
section
variable {W : Wd} {WX : L2.WX} {φ φ' : List Addr} {hd : Hd} {H H' : Hp} {σd : DSt} {σ : L2.St} {Kd : Vd.Ends} {K : L2.Ends} {Xd : XS}
theorem XSOk.ext (q : XSOk W WX φ H Xd) (e : Ext φ φ' H H') : XSOk W WX φ' H' Xd := fun φ2 h2 H2 s2 t2 c C e2 s r k w => q φ2 h2 H2 s2 t2 c C (e.trans e2) s r k w
theorem EndOk.ext (q : EndOk W φ H Kd K) (e : Ext φ φ' H H') : EndOk W φ' H' Kd K :=
  ⟨fun _ _ _ _ _ e2 => q.nx _ _ _ _ _ (e.trans e2), fun _ _ _ _ _ e2 => q.rt _ _ _ _ _ (e.trans e2), fun _ _ _ _ _ e2 => q.bk _ _ _ _ _ (e.trans e2), fun _ _ _ _ _ e2 => q.ct _ _ _ _ _ (e.trans e2)⟩
/-- an exception out of an expression -/
theorem XSOk.x (q : XSOk W WX φ H Xd) (r : RepSt W φ H σd σ) : XOk W WX φ H σ (fun c h => Xd c σd h) := fun φ' hd' H' c C e s k w => q φ' hd' H' σd σ c C e s (r.ext e) k w
end
theorem ps_imp {X : Cx} {s : Stmt} {t t' : TS} (h : PS X s t) (i : ∀ K σ H, t' K σ H → t K σ H) : PS X s t' := ⟨fun pins s σ H D I q => h.run pins s σ H D I (i _ _ _ q)⟩
theorem pss_imp {X : Cx} {s : List Stmt} {t t' : TS} (h : PSs X s t) (i : ∀ K σ H, t' K σ H → t K σ H) : PSs X s t' := ⟨fun pins s σ H D I q => h.run pins s σ H D I (i _ _ _ q)⟩
noncomputable def SndS (c : S) : Prop := ∀ {W : Wd} {G : Gam} {lv : Nat} {P : Pl} {WX : L2.WX} {X : Cx}, Sok W G lv P WX X → ∀ s, chkS P c s = true → PS X s (Tes W WX (wpS G c))
noncomputable def SndSs (c : Ss) : Prop := ∀ {W : Wd} {G : Gam} {lv : Nat} {P : Pl} {WX : L2.WX} {X : Cx}, Sok W G lv P WX X → ∀ s, chkSs P c s = true → PSs X s (Tes W WX (wpSs G c))
section
variable {W : Wd} {G : Gam} {lv : Nat} {P : Pl} {WX : L2.WX} {X : Cx}
theorem set1_inv {i : Nat} {e : E} {s : Stmt} (h : chkS P (.set (.nm i) e) s = true) : ∃ x px v pos, s = .Assign [.Name x px] v pos ∧ (nmB P i x && chkE P e v && (!compB v || (match v with
    | .ListComp _ _ scope vp => !(P.sc.names.lookup x == some .local) || ((P.sc.names.lookup x == some .local) && px.line == vp.line && !(scope.names.any fun (n, k) => n == x && (k == .local || k == .cell)))
    | _ => false))) = true := by
  unfold chkS at h
  split at h <;> first | (rename_i q; cases q; done) | (injections; subst_vars; exact ⟨_, _, _, _, rfl, h⟩) | cases h
theorem nm_wp {i : Nat} {e : E} {t : TE} (hE : ∀ σ H Q, Ter W (rV W) WX (wpE G e) σ H Q → t σ H Q) : ∀ K σ H, Tes W WX (wpS G (.set (.nm i) e)) K σ H → tAsg t (gName i) K σ H := by
  intro K σ H hq
  obtain ⟨φ, hd, σd, Kd, Xd, A, w, q, x⟩ := hq
  refine hE _ _ _ (Ter.go A (x.x A.st) w fun φ1 h1 H1 d v e1 A1 r1 w1 => ?_)
  exact q.nx φ1 h1 H1 _ _ e1 A1.sim (A1.st.set i r1) w1
theorem ok_set1 {i e} : SndS (.set (.nm i) e) := by
  intro W G lv P WX X C s h
  obtain ⟨x, px, v, pos, rfl, k⟩ := set1_inv h
  simp only [Bool.and_eq_true, Bool.or_eq_true, Bool.not_eq_true'] at k
  obtain ⟨⟨k1, k2⟩, k3⟩ := k
  obtain ⟨n1, n2, n3, n4⟩ := C.c.nm k1
  by_cases hc : compB v = false
  · exact ps_imp (ps_set (i := i) n1 n2 n3 (sndE e C.c v k2).1 (comp_plain hc) n4) (nm_wp fun _ _ _ h => h)
  · rcases k3 with k3 | k3
    · exact absurd k3 hc
    · cases v with
      | ListComp elt gs scope vp =>
        cases e with
        | comp m elt1 tg it cond vs =>
          obtain ⟨elt', tg', it', ifs, scope', pos', e', kk⟩ := comp_inv k2
          cases e'
          have hcm : P.cm = true := by
            simp only [Bool.and_eq_true] at kk
            exact kk.1.1.1.1.1.1
          obtain ⟨wi, g, tt, te, own, p1, p2, p3, p4, p5, p6, p7⟩ := comp_parts (m := m) (sndI it) (sndO cond) (sndE elt1) C.c kk
          by_cases hl : (P.sc.names.lookup x == some .local) = true
          case neg =>
            refine ps_imp (ps_set (i := i) n1 n2 n3 (sndE _ C.c _ k2).1 ?_ n4) (nm_wp fun _ _ _ h => h)
            rw [swc_ok C.kind, C.c.sc, Bool.eq_false_iff.mpr hl]; rfl
          have k3 : (!(P.sc.names.lookup x == some .local) || ((P.sc.names.lookup x == some .local) && px.line == vp.line && !(scope.names.any fun (n, k) => n == x && (k == .local || k == .cell)))) = true := k3
          rw [Bool.or_eq_true, Bool.and_eq_true, Bool.and_eq_true] at k3
          have k3 := k3.resolve_left (by rw [hl]; decide)
          have hloc : X.env.scope.names.lookup x = some .local := by
            rw [C.c.sc]
            have := k3.1.1
            cases e : P.sc.names.lookup x with
            | none => rw [e] at this; cases this
            | some kk => rw [e] at this; cases kk <;> first | rfl | cases this
          refine ps_imp (ps_setLc (i := i) (C.c.calm hcm) n1 n2 hloc ?_ p1 p2 p3 p4 p5 p6) (nm_wp p7)
          rw [swc_ok C.kind, C.c.sc, k3.1.1, k3.1.2, k3.2]; rfl
        | _ => simp [chkE] at k2
      | _ => cases k3
theorem set2_inv {is : List Nat} {e : E} {s : Stmt} (h : chkS P (.set (.tp is) e) s = true) : ∃ ts k p v pos, s = .Assign [.Tuple ts k p] v pos ∧ (tgC P (.tp is) (.Tuple ts k p) && chkE P e v && !tupB v) = true := by
  unfold chkS at h
  split at h <;> first | (rename_i q; cases q; done) | (injections; subst_vars; exact ⟨_, _, _, _, _, rfl, h⟩) | cases h
theorem ok_set2 {is e} : SndS (.set (.tp is) e) := by
  intro W G lv P WX X C s h
  obtain ⟨ts, k, p, v, pos, rfl, kk⟩ := set2_inv h
  simp only [Bool.and_eq_true, Bool.not_eq_true'] at kk
  obtain ⟨⟨k1, k2⟩, k3⟩ := kk
  have hsw : swappedStores [.Tuple ts k p] v X.env = pure none := by
    cases v <;> first | rfl | (simp [tupB] at k3)
  have hsw2 : swapsWithSole [.Tuple ts k p] v pos.line X.env = pure false := by
    unfold swapsWithSole swapsWith
    cases v <;> rfl
  refine ps_imp (ps_asg (sndE e C.c v k2).1 (ok_tg C.c k1) hsw2 hsw) fun K σ H hq => ?_
  obtain ⟨φ, hd, σd, Kd, Xd, A, w, q, x⟩ := hq
  refine Ter.go A (x.x A.st) w fun φ1 h1 H1 d v e1 A1 r1 w1 => ?_
  exact ⟨φ1, h1, d, σd, _, A1.sim, A1.st, r1, w1, fun σd' σ' rs w' => q.nx φ1 h1 H1 _ _ e1 A1.sim rs w'⟩
theorem par_inv {i j : Nat} {a b : E} {s : Stmt} (h : chkS P (.par i j a b) s = true) : ∃ x px y py k p a' b' k2 p2 pos, s = .Assign [.Tuple [.Name x px, .Name y py] k p] (.Tuple [a', b'] k2 p2) pos ∧
    (P.cm && nmB P i x && nmB P j y && parB P.sc x px y py a' b' && chkE P a a' && chkE P b b') = true := by
  unfold chkS at h
  split at h <;> first | (rename_i q; cases q; done) | (injections; subst_vars; exact ⟨_, _, _, _, _, _, _, _, _, _, _, rfl, h⟩) | cases h
theorem ok_par {i j a b} : SndS (.par i j a b) := by
  intro W G lv P WX X C s h
  obtain ⟨x, px, y, py, kt, pt, a', b', k2, p2, pos, rfl, kk⟩ := par_inv h
  simp only [Bool.and_eq_true] at kk
  obtain ⟨⟨⟨⟨⟨c0, c1⟩, c2⟩, c3⟩, c4⟩, c5⟩ := kk
  obtain ⟨n1, n2, n3, n4⟩ := C.c.nm c1
  obtain ⟨m1, m2, m3, m4⟩ := C.c.nm c2
  have hp := par_ok (k := kt) (pt := pt) (k2 := k2) (p2 := p2) C.kind C.c.sc c3
  have pb := c3
  unfold parB at pb
  simp only [Bool.and_eq_true, Bool.not_eq_true'] at pb
  obtain ⟨⟨⟨⟨⟨⟨⟨b1, b2⟩, b3⟩, b4⟩, b5⟩, b6⟩, b7⟩, b8⟩ := pb
  have loc : ∀ z, (P.sc.names.lookup z == some NameKind.local) = true → X.env.scope.names.lookup z = some .local := fun z hz => by
    rw [C.c.sc]
    cases e : P.sc.names.lookup z with
    | none => rw [e] at hz; cases hz
    | some kk => rw [e] at hz; cases kk <;> first | rfl | cases hz
  have hij : i ≠ j := fun e => by
    subst e
    rw [n2] at m2
    cases m2
    simp at b1
  refine ps_imp (ps_par (C.c.calm c0) n1 n2 m2 hij (loc x b3) (loc y b4) (pa_cons (sndE a C.c a' c4).1 (pa_cons (sndE b C.c b' c5).1 pa_nil (star_cons b6)) (star_cons b5)) hp) fun K σ H hq => ?_
  obtain ⟨φ, hd, σd, Kd, Xd, A, w, q, x⟩ := hq
  refine Ter.go A (x.x A.st) w fun φ1 h1 H1 d v e1 A1 r1 w1 => Ter.go A1 ((x.ext e1).x A1.st) w1 fun φ2 h2 H2 d2 v2 e2 A2 r2 w2 => ?_
  exact ⟨v, v2, rfl, q.nx φ2 h2 H2 _ _ (e1.trans e2) A2.sim ((A2.st.set i (r1.ext e2)).set j r2) w2⟩
theorem sub_inv {o i e : E} {s : Stmt} (h : chkS P (.sub o i e) s = true) : ∃ o' i' p v pos, s = .Assign [.Subscript o' i' p] v pos ∧ (chkE P e v && chkE P o o' && chkE P i i' && !sliceB i') = true := by
  unfold chkS at h
  split at h <;> first | (rename_i q; cases q; done) | (injections; subst_vars; exact ⟨_, _, _, _, _, rfl, h⟩) | cases h
theorem ok_sub {o i e} : SndS (.sub o i e) := by
  intro W G lv P WX X C s h
  obtain ⟨o', i', p, v, pos, rfl, kk⟩ := sub_inv h
  simp only [Bool.and_eq_true, Bool.not_eq_true'] at kk
  obtain ⟨⟨⟨k1, k2⟩, k3⟩, k4⟩ := kk
  have ha : ∀ w, assign (.Subscript o' i' p) X.env w = (do
      let ov ← holding [w] (eval o' X.env)
      let iv ← holding [w, ov] (eval i' X.env)
      standAt p
      holding [w, ov, iv] (setItem ov iv w)
      release [w, ov, iv] []) := by
    intro w
    cases i' <;> first | rfl | (simp [sliceB] at k4)
  refine ps_imp (ps_asg (sndE e C.c v k1).1 (pg_sub (sndE o C.c o' k2).1 (sndE i C.c i' k3).1 set_list ha) sole_sub rfl rfl) fun K σ H hq => ?_
  obtain ⟨φ, hd, σd, Kd, Xd, A, w, q, x⟩ := hq
  refine Ter.go A (x.x A.st) w fun φ1 h1 H1 d v e1 A1 r1 w1 => Ter.go A1 ((x.ext e1).x A1.st) w1 fun φ2 h2 H2 d2 v2 e2 A2 r2 w2 => Ter.go A2 ((x.ext (e1.trans e2)).x A2.st) w2 fun φ3 h3 H3 d3 v3 e3 A3 r3 w3 => ?_
  obtain ⟨r, k, xs, j, rfl, rfl, e, hj, w3⟩ := w3
  obtain ⟨pa, vs, rfl, hp, h1, rs⟩ := ref_lst A3.sim (r2.ext e3) e
  cases r3
  refine ⟨pa, vs, k, j, rfl, rfl, h1, by rw [← rs.len]; exact hj, ?_⟩
  have E := Ext.write (φ := φ3) (H := H3) (o := .lst (vs.set j v)) (List.mem_of_getElem? hp) (nofrz h1 (fun _ _ z => nomatch z))
  exact q.nx φ3 _ _ _ _ (e1.trans (e2.trans (e3.trans E))) (A3.sim.write hp (nofrz h1 (fun _ _ z => nomatch z)) (show RepO W φ3 _ pa (.lst (xs.set j d)) from ⟨_, upd_same, (rs.set ((r1.ext e2).ext e3) j).ext E⟩)) (A3.st.ext E) w3
theorem dput_inv {o i e : E} {s : Stmt} (h : chkS P (.dput o i e) s = true) : ∃ o' i' p v pos, s = .Assign [.Subscript o' i' p] v pos ∧ (chkE P e v && chkE P o o' && chkE P i i') = true := by
  unfold chkS at h
  split at h <;> first | (rename_i q; cases q; done) | (injections; subst_vars; exact ⟨_, _, _, _, _, rfl, h⟩) | cases h
theorem ok_dput {o i e} : SndS (.dput o i e) := by
  intro W G lv P WX X C s h
  obtain ⟨o', i', p, v, pos, rfl, kk⟩ := dput_inv h
  simp only [Bool.and_eq_true] at kk
  obtain ⟨⟨k1, k2⟩, k3⟩ := kk
  refine ps_imp (ps_dput (by have := C.c.hu; omega) (sndE o C.c o' k2).1 (sndE i C.c i' k3).1 (sndE e C.c v k1).1 (by unfold swapsWith; cases v <;> rfl)) fun K σ H hq => ?_
  obtain ⟨φ, hd, σd, Kd, Xd, A, w, q, x⟩ := hq
  refine Ter.go A (x.x A.st) w fun φ1 h1 H1 d v e1 A1 r1 w1 => Ter.go A1 ((x.ext e1).x A1.st) w1 fun φ2 h2 H2 d2 v2 e2 A2 r2 w2 => Ter.go A2 ((x.ext (e1.trans e2)).x A2.st) w2 fun φ3 h3 H3 d3 v3 e3 A3 r3 w3 => ?_
  have r1 := (r1.ext e2).ext e3
  have r2 := r2.ext e3
  have w4 := dput_cases w3
  clear w3
  obtain ⟨r, rfl, w4⟩ := w4
  rcases w4 with ⟨ys, kvs, k, rfl, e, ek, hl, w3⟩ | ⟨kvs, k, e, ek, hl, w3⟩
  · obtain ⟨b, hb, vs, q1, q2⟩ := A3.sim.obj _ _ e
    cases r2 with
    | ref hp =>
      rw [hp] at hb; cases hb
      cases r3 with
      | tup t1 t2 t3 =>
        have ev := keysD_rep t3 ek
        subst ev
        obtain ⟨vs', p1, p2⟩ := putA_rep k q2 r1
        refine ⟨_, _, rfl, .inr ⟨_, _, _, q1, rfl, t1, by rw [zipA_len q2]; exact hl, rfl⟩, ?_⟩
        have E := Ext.write (φ := φ3) (H := H3) (o := .dT (L2.putK ((kvs.map (·.1)).zip vs) k v)) (List.mem_of_getElem? hp) (nofrz q1 (fun _ _ z => nomatch z))
        exact q.nx φ3 _ _ _ _ (e1.trans (e2.trans (e3.trans E))) (A3.sim.write hp (nofrz q1 (fun _ _ z => nomatch z)) (show RepO W φ3 _ _ (.dt false (putA kvs k d)) from ⟨vs', by rw [p1]; exact upd_same, p2.ext E⟩)) (A3.st.ext E) w3
  · obtain ⟨b, hb, vs, q1, q2⟩ := A3.sim.obj _ _ e
    cases r2 with
    | ref hp =>
      rw [hp] at hb; cases hb
      obtain ⟨vs', p1, p2⟩ := putA_rep k q2 r1
      refine ⟨_, _, rfl, .inl ⟨_, k, q1, keyD_rep r3 ek, by rw [zipA_len q2]; exact hl, rfl⟩, ?_⟩
      have E := Ext.write (φ := φ3) (H := H3) (o := .dK (L2.putK ((kvs.map (·.1)).zip vs) k v)) (List.mem_of_getElem? hp) (nofrz q1 (fun _ _ z => nomatch z))
      exact q.nx φ3 _ _ _ _ (e1.trans (e2.trans (e3.trans E))) (A3.sim.write hp (nofrz q1 (fun _ _ z => nomatch z)) (show RepO W φ3 _ _ (.dk false (putA kvs k d)) from ⟨vs', by rw [p1]; exact upd_same, p2.ext E⟩)) (A3.st.ext E) w3
theorem aug_inv {i : Nat} {o : Op2} {e : E} {s : Stmt} (h : chkS P (.aug i o e) s = true) : ∃ x px op v pos, s = .AugAssign (.Name x px) op v pos ∧ (nmB P i x && opB o op && chkE P e v && augB o) = true := by
  unfold chkS at h
  split at h <;> first | (rename_i q; cases q; done) | (injections; subst_vars; exact ⟨_, _, _, _, _, rfl, h⟩) | cases h
theorem ok_aug {i o e} : SndS (.aug i o e) := by
  intro W G lv P WX X C s h
  obtain ⟨x, px, op, v, pos, rfl, kk⟩ := aug_inv h
  simp only [Bool.and_eq_true] at kk
  obtain ⟨⟨⟨k1, k2⟩, k3⟩, k4⟩ := kk
  obtain ⟨n1, n2, n3, n4⟩ := C.c.nm k1
  have eo := opB_eq k2
  subst eo
  have go : ∀ (f : Int → Int → Int), PIp X (opOf o) (ipI f) → (∀ (a b : Int) (σd : DSt) (h : Hd) (Kd : DSt → Hd → Prop), ((o = .add ∧ Kd (σd.set i (some (.int (a + b)))) h) ∨ (o = .sub ∧ Kd (σd.set i (some (.int (a - b)))) h)) → Kd (σd.set i (some (.int (f a b)))) h) →
      PS X (.AugAssign (.Name x px) (opOf o) v pos) (Tes W WX (wpS G (.aug i o e))) := fun f ip hf => by
    refine ps_imp (ps_aug (i := i) n1 n2 n3 (sndE e C.c v k3).1 ip n4) fun K σ H hq => ?_
    obtain ⟨φ, hd, σd, Kd, Xd, A, ⟨d, hd', w⟩, q, x⟩ := hq
    obtain ⟨u, hu, ru⟩ := A.st.get i d hd'
    refine ⟨u, hu, Ter.go A (x.x A.st) w fun φ1 h1 H1 d2 v2 e1 A1 r1 w1 => ?_⟩
    obtain ⟨a, b, rfl, rfl, w1⟩ := w1
    cases r1
    cases ru
    exact ⟨a, b, rfl, rfl, q.nx φ1 h1 H1 _ _ e1 A1.sim (A1.st.set i (.int _)) (hf a b σd h1 Kd.nx w1)⟩
  cases o with
  | add => exact go _ ip_add fun a b σd h Kd w => (by
      rcases w with ⟨_, w⟩ | ⟨z, _⟩
      · exact w
      · cases z)
  | sub => exact go _ ip_sub fun a b σd h Kd w => (by
      rcases w with ⟨z, _⟩ | ⟨_, w⟩
      · cases z
      · exact w)
  | _ => cases k4
theorem ok_ex {e} : SndS (.ex e) := by
  intro W G lv P WX X C s h
  cases s with
  | Expr v pos =>
    have h' : chkE P e v = true ∧ compB v = false := by
      have h2 : (chkE P e v && !compB v) = true := h
      simpa using h2
    refine ps_imp (ps_expr (sndE e C.c v h'.1).1 (comp_plain h'.2)) fun K σ H hq => ?_
    obtain ⟨φ, hd, σd, Kd, Xd, A, w, q, x⟩ := hq
    exact Ter.go A (x.x A.st) w fun φ1 h1 H1 d v e1 A1 r1 w1 => q.nx φ1 h1 H1 _ _ e1 A1.sim A1.st w1
  | _ => simp [chkS] at h
theorem ok_ret {e} : SndS (.ret e) := by
  intro W G lv P WX X C s h
  cases s with
  | Return o pos =>
    cases o with
    | none => simp [chkS] at h
    | some v =>
      have h' : chkE P e v = true := h
      refine ps_imp (ps_ret (sndE e C.c v h').1) fun K σ H hq => ?_
      obtain ⟨φ, hd, σd, Kd, Xd, A, w, q, x⟩ := hq
      exact Ter.go A (x.x A.st) w fun φ1 h1 H1 d v e1 A1 r1 w1 => q.rt φ1 h1 H1 _ _ e1 A1.sim r1 w1
  | _ => simp [chkS] at h
theorem ok_retN : SndS .retN := by
  intro W G lv P WX X C s h
  cases s with
  | Return o pos =>
    cases o with
    | some v => simp [chkS] at h
    | none =>
      refine ps_imp ps_retN fun K σ H hq => ?_
      obtain ⟨φ, hd, σd, Kd, Xd, A, w, q, x⟩ := hq
      exact q.rt φ hd H _ _ .refl A.sim .non w
  | _ => simp [chkS] at h
theorem ok_ite {c a b} (ha : SndSs a) (hb : SndSs b) : SndS (.ite c a b) := by
  intro W G lv P WX X C s h
  cases s with
  | If c' a' b' pos =>
    simp only [chkS, Bool.and_eq_true] at h
    obtain ⟨⟨⟨h1, h2⟩, h3⟩, h4⟩ := h
    refine ps_imp (ps_if ((sndE c C.c c' h1).2 h2) (ha C a' h3) (hb C b' h4)) fun K σ H hq => ?_
    obtain ⟨φ, hd, σd, Kd, Xd, A, w, q, x⟩ := hq
    refine Ter.go (wa := wpT G c) (Qd1 := fun k h1 => if k = true then wpSs G a σd h1 Kd Xd else wpSs G b σd h1 Kd Xd) A (x.x A.st) w fun φ1 h1 H1 d v e1 A1 r1 w1 => ?_
    cases r1
    cases d with
    | true =>
      rw [if_pos rfl] at w1 ⊢
      exact ⟨φ1, h1, σd, Kd, Xd, A1, w1, q.ext e1, x.ext e1⟩
    | false =>
      rw [if_neg Bool.false_ne_true] at w1 ⊢
      exact ⟨φ1, h1, σd, Kd, Xd, A1, w1, q.ext e1, x.ext e1⟩
  | _ => simp [chkS] at h
theorem whl_inv {c : E} {b : Ss} {s : Stmt} (h : chkS P (.whl c b) s = true) : ∃ c' b' pos, s = .While c' b' [] pos ∧ (P.cm && chkE P c c' && tstB c && chkSs P b b') = true := by
  unfold chkS at h
  split at h <;> first | (rename_i q; cases q; done) | (injections; subst_vars; exact ⟨_, _, _, rfl, h⟩) | cases h
theorem ok_whl {c b} (hb : SndSs b) : SndS (.whl c b) := by
  intro W G lv P WX X C s h
  obtain ⟨c', b', pos, rfl, k⟩ := whl_inv h
  simp only [Bool.and_eq_true] at k
  obtain ⟨⟨⟨k0, k1⟩, k2⟩, k3⟩ := k
  refine ps_imp (ps_while (C.po k0) ((sndE c C.c c' k1).2 k2) (hb C b' k3)) fun K σ H hq => ?_
  obtain ⟨φ, hd, σd, Kd, Xd, A, ⟨n, w⟩, q, x⟩ := hq
  let cc : DSt → Hd → (Bool → Hd → Prop) → Prop := fun σ h Q => wpT G c σ h Q (fun c h' => Xd c σ h')
  let bb : DSt → Hd → Vd.Ends → Prop := fun σ h K => wpSs G b σ h K Xd
  have w : whlL cc bb n σd hd Kd := w
  refine ⟨fun m σ2 H2 => ∃ φ2 h2 σd2, Ext φ φ2 H H2 ∧ At W φ2 h2 H2 σd2 σ2 ∧ whlL cc bb m σd2 h2 Kd, ⟨n, φ, hd, σd, .refl, A, w⟩, ?_⟩
  rintro m σ2 H2 ⟨φ2, h2, σd2, e2, A2, w2⟩
  cases m with
  | zero => exact w2.elim
  | succ m =>
    refine Ter.go (wa := wpT G c) (Qd1 := fun b h1 => if b = true then bb σd2 h1 { Kd with nx := fun σ' h' => whlL cc bb m σ' h' Kd, ct := fun σ' h' => whlL cc bb m σ' h' Kd, bk := Kd.nx } else Kd.nx σd2 h1) A2 ((x.ext e2).x A2.st) w2 fun φ3 h3 H3 d v e3 A3 r3 w3 => ?_
    cases r3
    cases d with
    | false =>
      rw [if_neg Bool.false_ne_true] at w3 ⊢
      exact q.nx φ3 h3 H3 _ _ (e2.trans e3) A3.sim A3.st w3
    | true =>
      rw [if_pos rfl] at w3 ⊢
      refine ⟨fun σ' H' => ∃ φ2 h2 σd2, Ext φ φ2 H H' ∧ At W φ2 h2 H' σd2 σ' ∧ whlL cc bb m σd2 h2 Kd, fun σ' H' h' => ⟨m, Nat.lt_succ_self m, h'⟩, ?_⟩
      refine ⟨φ3, h3, σd2, _, Xd, A3, w3, ⟨?_, ?_, ?_, ?_⟩, x.ext (e2.trans e3)⟩
      · exact fun φ' hd' H' σd' σ' e s r w => ⟨φ', hd', σd', e2.trans (e3.trans e), ⟨s, r⟩, w⟩
      · exact fun φ' hd' H' d v e s r w => q.rt φ' hd' H' d v (e2.trans (e3.trans e)) s r w
      · exact fun φ' hd' H' σd' σ' e s r w => q.nx φ' hd' H' σd' σ' (e2.trans (e3.trans e)) s r w
      · exact fun φ' hd' H' σd' σ' e s r w => ⟨φ', hd', σd', e2.trans (e3.trans e), ⟨s, r⟩, w⟩
theorem fr_inv {t : Tg} {it : It} {b : Ss} {s : Stmt} (h : chkS P (.fr t it b) s = true) : ∃ tg it' b' pos, s = .For tg it' b' [] pos ∧ (P.cm && chkI P it it' tg && tgC P t tg && chkSs P b b') = true := by
  unfold chkS at h
  split at h <;> first | (rename_i q; cases q; done) | (injections; subst_vars; exact ⟨_, _, _, _, rfl, h⟩) | cases h
theorem ok_fr {t it b} (hb : SndSs b) : SndS (.fr t it b) := by
  intro W G lv P WX X C s h
  obtain ⟨tg, it', b', pos, rfl, k⟩ := fr_inv h
  simp only [Bool.and_eq_true] at k
  obtain ⟨⟨⟨k0, k1⟩, k2⟩, k3⟩ := k
  refine ps_imp (ps_for (C.po k0) (C.c.calm k0) (sndI it C.c it' tg k1) (ok_tg C.c k2) (hb C b' k3) (set_plain (chkI_set k1))) fun K σ H hq => ?_
  obtain ⟨φ, hd, σd, Kd, Xd, A, w, q, x⟩ := hq
  refine Ter.go A (x.x A.st) w fun φ1 h1 H1 J Jv e1 A1 hJ w1 => ?_
  let bb : D → DSt → Hd → Vd.Ends → Prop := fun x σ h K => tgW t x σ h fun σ' => wpSs G b σ' h K Xd
  have w1 : forL J.stay bb J.xs σd h1 Kd := w1
  have hfb : ∀ p ∈ W.fb, p ∈ W.fb ∨ H1 p = none := fun p hp => .inl hp
  refine ⟨fun i n σ2 H2 => i + n = J.xs.length ∧ ∃ φ2 h2 σd2, Ext φ1 φ2 H1 H2 ∧ At W φ2 h2 H2 σd2 σ2 ∧ forL J.stay bb (J.xs.drop i) σd2 h2 Kd, ⟨J.xs.length, by simp, φ1, h1, σd, .refl, A1, w1⟩, ?_⟩
  rintro i n σ2 H2 ⟨hin, φ2, h2, σd2, e2, A2, w2⟩
  by_cases hlt : i < J.xs.length
  · right
    have hdrop : J.xs.drop i = J.xs[i] :: J.xs.drop (i + 1) := List.drop_eq_getElem_cons hlt
    rw [hdrop] at w2
    obtain ⟨st, w2⟩ := w2
    obtain ⟨go, yld⟩ := (hJ _ hfb φ2 h2 H2 i e2 A2.sim st).1 hlt
    refine ⟨go, fun σ' H' => ∃ φ2 h2 σd2, Ext φ1 φ2 H1 H' ∧ At W φ2 h2 H' σd2 σ' ∧ forL J.stay bb (J.xs.drop (i + 1)) σd2 h2 Kd, fun σ' H' h' => ⟨n - 1, by omega, by omega, h'⟩, fun x' H3 y => ?_⟩
    obtain ⟨d, hd', e3, S3, r3⟩ := yld x' H3 y
    have ed : J.xs[i] = d := by
      rw [List.getElem?_eq_getElem hlt] at hd'
      exact Option.some.inj hd'
    rw [ed] at w2
    refine ⟨φ2, h2, d, σd2, _, S3, A2.st.ext e3, r3, w2, fun σ4d σ4 rs4 w4 => ?_⟩
    refine ⟨φ2, h2, σ4d, _, Xd, ⟨S3, rs4⟩, w4, ⟨?_, ?_, ?_, ?_⟩, x.ext (e1.trans (e2.trans e3))⟩
    · exact fun φ' hd' H' σd' σ' e s r w => ⟨φ', hd', σd', e2.trans (e3.trans e), ⟨s, r⟩, w⟩
    · exact fun φ' hd' H' d v e s r w => q.rt φ' hd' H' d v (e1.trans (e2.trans (e3.trans e))) s r w
    · exact fun φ' hd' H' σd' σ' e s r w => q.nx φ' hd' H' σd' σ' (e1.trans (e2.trans (e3.trans e))) s r w
    · exact fun φ' hd' H' σd' σ' e s r w => ⟨φ', hd', σd', e2.trans (e3.trans e), ⟨s, r⟩, w⟩
  · left
    have hi : i = J.xs.length := by omega
    have hdrop : J.xs.drop i = [] := List.drop_eq_nil_of_le (by omega)
    rw [hdrop] at w2
    exact ⟨(hJ _ hfb φ2 h2 H2 i e2 A2.sim w2.1).2 hi, q.nx φ2 h2 H2 _ _ (e1.trans e2) A2.sim A2.st w2.2⟩
theorem fset_inv {o : E} {f : String} {e : E} {s : Stmt} (h : chkS P (.fset o f e) s = true) : ∃ o' g p v pos, s = .Assign [.Attribute o' g p] v pos ∧ (chkE P e v && chkE P o o' && decide (g = Str.ofString f) && !compB v) = true := by
  unfold chkS at h
  split at h <;> first | (rename_i q; cases q; done) | (injections; subst_vars; exact ⟨_, _, _, _, _, rfl, h⟩) | cases h
theorem fput_len : ∀ {ns : List String} {vs : List D} {f : String} {d : D}, ns.length = vs.length → (fput ns vs f d).1.length = (fput ns vs f d).2.length
  | [], [], _, _, _ => rfl
  | [], _ :: _, _, _, h => by cases h
  | _ :: _, [], _, _, h => by cases h
  | n :: ns, v :: vs, f, d, h => by
    simp only [fput]
    split
    · simpa using h
    · simpa using fput_len (by simpa using h)
theorem fput_rep {ns : List String} {vs : List D} {ws : List V} {f : String} {d : D} {v : V} (rd : Rep W φ H d v) (r : Reps W φ H vs ws) (l : ns.length = ws.length) :
    ∃ us, Reps W φ H (fput ns vs f d).2 us ∧ (fput ns vs f d).1.length = us.length ∧ putF (Str.ofString f) v ((ns.map Str.ofString).zip ws) = ((fput ns vs f d).1.map Str.ofString).zip us := by
  induction ns generalizing vs ws with
  | nil =>
    cases r with
    | cons => cases l
    | nil => exact ⟨[v], .single rd, rfl, rfl⟩
  | cons n ns ih =>
    cases r with
    | nil => cases l
    | @cons x w xs ws a b =>
      simp only [fput]
      by_cases e : n = f
      · subst e
        rw [if_pos rfl]
        refine ⟨v :: ws, .cons rd b, l, ?_⟩
        show (if Str.ofString n = Str.ofString n then _ else _) = _
        rw [if_pos rfl]
        rfl
      · rw [if_neg e]
        obtain ⟨us, i1, i2, i3⟩ := ih b (by simpa using l)
        refine ⟨w :: us, .cons a i1, by simpa using i2, ?_⟩
        show (if Str.ofString n = Str.ofString f then _ else _) = _
        rw [if_neg fun z => e (ofString_inj z)]
        exact congrArg (fun l => (Str.ofString n, w) :: l) i3
theorem ok_fset {o f e} : SndS (.fset o f e) := by
  intro W G lv P WX X C s h
  obtain ⟨o', g, p, v, pos, rfl, kk⟩ := fset_inv h
  simp only [Bool.and_eq_true, decide_eq_true_eq, Bool.not_eq_true'] at kk
  obtain ⟨⟨⟨k1, k2⟩, rfl⟩, k3⟩ := kk
  refine ps_imp (ps_fld (sndE o C.c o' k2).1 (sndE e C.c v k1).1 (comp_plain k3)) fun K σ H hq => ?_
  obtain ⟨φ, hd, σd, Kd, Xd, A, w, q, x⟩ := hq
  refine Ter.go A (x.x A.st) w fun φ1 h1 H1 d v e1 A1 r1 w1 => Ter.go A1 ((x.ext e1).x A1.st) w1 fun φ2 h2 H2 d2 v2 e2 A2 r2 w2 => ?_
  obtain ⟨r, c, ns, vs, rfl, eo, hf, hl, w2⟩ := w2
  cases r2 with
  | @ref _ pa hp =>
  obtain ⟨b, hb, C', dx, ws, q1, q2, q3, q4⟩ := A2.sim.obj r _ eo
  rw [hp] at hb; cases hb
  obtain ⟨f1, f2⟩ := C.c.fld c f hf C' q2
  refine ⟨pa, C', dx, _, rfl, q1, f1, f2, by rw [List.length_zip, List.length_map, ← q4]; omega, ?_⟩
  have E := Ext.write (φ := φ2) (H := H2) (o := .ins C' dx (putF (Str.ofString f) v ((ns.map Str.ofString).zip ws))) (List.mem_of_getElem? hp) (nofrz q1 (fun _ _ z => nomatch z))
  obtain ⟨us, u1, u2, u3⟩ := fput_rep (f := f) (r1.ext e2) q3 q4
  refine q.nx φ2 _ _ _ _ (e1.trans (e2.trans E)) (A2.sim.write hp (nofrz q1 (fun _ _ z => nomatch z)) (show RepO W φ2 _ pa (.ins c (fput ns vs f d).1 (fput ns vs f d).2) from ⟨C', dx, us, by rw [upd_same, u3], q2, u1.ext E, u2⟩)) (A2.st.ext E) w2
theorem raise_inv {c : String} {s : Stmt} (h : chkS P (.raise c) s = true) : ∃ x p m j p2 pos pos2, s = .Raise (some (.Call (.Name x p) [.Constant (.str m) j p2] [] pos)) none pos2 ∧ (P.cm && decide (x = Str.ofString c) && glB P.sc x && okN x) = true := by
  unfold chkS at h
  split at h <;> first | (rename_i q; cases q; done) | (injections; subst_vars; exact ⟨_, _, _, _, _, _, _, rfl, h⟩) | cases h
theorem ok_raise {c} : SndS (.raise c) := by
  intro W G lv P WX X C s h
  obtain ⟨xn, p, m, j, p2, pos, pos2, rfl, k⟩ := raise_inv h
  simp only [Bool.and_eq_true, decide_eq_true_eq] at k
  obtain ⟨⟨⟨hc, rfl⟩, h2⟩, h3⟩ := k
  cases ef : G.isEx c with
  | false =>
    refine ⟨fun pins s σ H D I hq => ?_⟩
    obtain ⟨φ, hd, σd, Kd, Xd, A, ⟨w, _⟩, q, x⟩ := hq
    rw [ef] at w; cases w
  | true =>
    obtain ⟨T, t1, t2, t3, t4, t5⟩ := C.c.exs c ef
    refine ps_imp (ps_raise (C.c.calm hc) C.c.tk (pmk_own PySem.F.excBase_ValueError t3 t1 t4 (raises_own t2.hs t5) (C.c.gl' h2) (okN_inv h3).1)) fun K σ H hq => ?_
    obtain ⟨φ, hd, σd, Kd, Xd, A, ⟨_, w⟩, q, x⟩ := hq
    have hcl : clOf W.mg c = some T := by
      unfold clOf
      rw [← C.c.mg, t1]
    exact x φ hd H σd σ c T .refl A.sim A.st hcl w
/-! ### try -/
mutual
theorem Rep.xsw (z : Option (Nat × Addr × String)) : ∀ {d v}, Rep W φ H d v → Rep { W with xs := z } φ H d v
  | _, _, .non => .non
  | _, _, .bl b => .bl b
  | _, _, .int i => .int i
  | _, _, .str x => .str x
  | _, _, .tup h n r => .tup h n (Reps.xsw z r)
  | _, _, .vl h n r => .vl h n (Reps.xsw z r)
  | _, _, .sv h r => .sv h (Reps.xsw z r)
  | _, _, .vi h n c m r l => .vi h n c m (Reps.xsw z r) l
  | _, _, .ref h => .ref h
theorem Reps.xsw (z : Option (Nat × Addr × String)) : ∀ {ds vs}, Reps W φ H ds vs → Reps { W with xs := z } φ H ds vs
  | _, _, .nil => .nil
  | _, _, .cons a b => .cons (Rep.xsw z a) (Reps.xsw z b)
end
theorem Sim.xsw (z : Option (Nat × Addr × String)) (s : Sim W φ hd H) : Sim { W with xs := z } φ hd H :=
  ⟨s.len, s.nd, s.fbt, s.fbn, fun n o h => by
    obtain ⟨a, ha, r⟩ := s.obj n o h
    exact ⟨a, ha, RepO.imp (W := W) (W' := { W with xs := z }) (φ := φ) (H := H) (H' := H) rfl rfl (fun _ _ q => Reps.xsw z q) r⟩⟩
theorem Cok.trW {G : Gam} {lv : Nat} {P : Pl} {WX W2 : L2.WX} {X : Cx} (C : Cok W G lv P WX X) (hex : P.ex = false) (pn : List (Addr × Obj)) (xe : Value → Shared → Prop) (tk : Takes (X.tr pn xe) W2) : Cok W G lv P W2 (X.tr pn xe) :=
  { K := C.K, mg := C.mg, N := C.N, nd := C.nd, sc := C.sc, calm := C.calm, room := C.room, hu := C.hu, fn := C.fn, bn := C.bn, bn2 := C.bn2, bn3 := C.bn3, tk := tk, fns := C.fns, gl := C.gl, fld := C.fld, mes := C.mes, mks := C.mks, xn := C.xn, exs := C.exs, exm := C.exm, sub := C.sub,
    xe := (fun h => by rw [hex] at h; cases h), isn := C.isn, trs := C.trs }
theorem Sok.trW {G : Gam} {lv : Nat} {P : Pl} {WX W2 : L2.WX} {X : Cx} (C : Sok W G lv P WX X) (hex : P.ex = false) (pn : List (Addr × Obj)) (xe : Value → Shared → Prop) (tk : Takes (X.tr pn xe) W2) (po : PassesOwn (model X.prog X.w) X.A X.env xe) : Sok W G lv P W2 (X.tr pn xe) :=
  ⟨C.c.trW hex pn xe tk, C.kind, fun _ => po, C.stk, C.frm⟩
/-- the suite of except X: -/
theorem Sok.su0 {G : Gam} {lv : Nat} {P : Pl} {WX : L2.WX} {X : Cx} (C : Sok W G lv P WX X) (a : Addr) (pn : List (Addr × Obj)) : Sok W G lv { P with cm := false, ex := false } (fun _ _ _ _ => False) (X.suite a pn) :=
  ⟨{ K := C.c.K, mg := C.c.mg, N := C.c.N, nd := C.c.nd, sc := C.c.sc, calm := (fun h => nomatch h), room := (fun h => nomatch h), hu := C.c.hu, fn := C.c.fn, bn := C.c.bn, bn2 := C.c.bn2, bn3 := C.c.bn3, tk := takes0, fns := (fun h => nomatch h), gl := C.c.gl, fld := C.c.fld, mes := (fun h => nomatch h), mks := (fun h => nomatch h), xn := (fun h => nomatch h), exs := C.c.exs, exm := C.c.exm, sub := C.c.sub, xe := (fun h => nomatch h), isn := C.c.isn, trs := C.c.trs }, C.kind, (fun h => nomatch h), C.stk, C.frm⟩
/-- the suite of except X as n: -/
theorem Sok.su1 {G : Gam} {lv : Nat} {P : Pl} {WX : L2.WX} {X : Cx} (C : Sok W G lv P WX X) (i : Nat) (c : String) (Ca a : Addr) (oe : Obj) (pn : List (Addr × Obj)) (hcl : clOf W.mg c = some Ca) (he : ExcC X.K Ca) (hz : Zc (.ref Ca) none oe) (hf : ∃ vs, oe.data = .fields vs) :
    Sok { W with xs := some (i, a, c) } (G.inx i c) lv { P with cm := false, ex := true } (fun _ _ _ _ => False) (X.suite a ((a, oe) :: pn)) :=
  ⟨{ K := C.c.K, mg := C.c.mg, N := C.c.N, nd := C.c.nd, sc := C.c.sc, calm := (fun h => nomatch h), room := (fun h => nomatch h), hu := C.c.hu, fn := C.c.fn, bn := C.c.bn, bn2 := C.c.bn2, bn3 := C.c.bn3, tk := takes0, fns := (fun h => nomatch h), gl := C.c.gl, fld := C.c.fld, mes := (fun h => nomatch h), mks := (fun h => nomatch h), xn := (fun h => nomatch h), exs := C.c.exs, exm := C.c.exm, sub := C.c.sub, xe := (fun _ j d hx => by
      cases hx
      exact ⟨a, Ca, rfl, hcl, call_isE he hz hf⟩), isn := C.c.isn, trs := C.c.trs }, C.kind, (fun h => nomatch h), C.stk, C.frm⟩
theorem try0_inv {b hh : Ss} {c : String} {s : Stmt} (h : chkS P (.try b c none hh) s = true) : ∃ body x p b0 suite pos pos2, s = .Try body [.ExceptHandler (some (.Name x p)) none (b0 :: suite) pos] [] [] pos2 ∧
    (P.cm && !P.ex && decide (x = Str.ofString c) && glB P.sc x && okN x && chkSs P b body && chkSs { P with cm := false, ex := false } hh (b0 :: suite)) = true := by
  unfold chkS at h
  split at h <;> first | (rename_i q; cases q; done) | (injections; subst_vars; exact ⟨_, _, _, _, _, _, _, rfl, h⟩) | cases h
theorem try1_inv {b hh : Ss} {c : String} {i : Nat} {s : Stmt} (h : chkS P (.try b c (some i) hh) s = true) : ∃ body x p n b0 suite pos pos2, s = .Try body [.ExceptHandler (some (.Name x p)) (some n) (b0 :: suite) pos] [] [] pos2 ∧
    (P.cm && !P.ex && decide (x = Str.ofString c) && glB P.sc x && okN x && decide (P.N[i]? = some n) && (P.sc.names.lookup n == some .local) && chkSs P b body && chkSs { P with cm := false, ex := true } hh (b0 :: suite)) = true := by
  unfold chkS at h
  split at h <;> first | (rename_i q; cases q; done) | (injections; subst_vars; exact ⟨_, _, _, _, _, _, _, _, rfl, h⟩) | cases h
theorem ok_try0 {b hh : Ss} {c : String} (hb : SndSs b) (hs : SndSs hh) : SndS (.try b c none hh) := by
  intro W G lv P WX X C s h
  obtain ⟨body, xn, p, b0, suite, pos, pos2, rfl, k⟩ := try0_inv h
  simp only [Bool.and_eq_true, decide_eq_true_eq, Bool.not_eq_true'] at k
  obtain ⟨⟨⟨⟨⟨⟨hc, hex⟩, rfl⟩, h2⟩, h3⟩, h4⟩, h5⟩ := k
  cases ef : G.isTr c with
  | false =>
    refine ⟨fun pins s σ H D I hq => ?_⟩
    obtain ⟨φ, hd, σd, Kd, Xd, A, ⟨w, _⟩, q, x⟩ := hq
    rw [ef] at w; cases w
  | true =>
    obtain ⟨T, t1⟩ := C.c.trs c ef
    refine ps_imp (ps_try_only (c := .ref T) (tb := fun W2 => Tes W W2 (wpSs G b)) (ts := fun a cls d K σ H => ∃ c' Ca, cls = .ref Ca ∧ d = none ∧ clOf W.mg c' = some Ca ∧ Tes W (fun _ _ _ _ => False) (wpSs G hh) K σ H)
      C.stk C.frm ⟨C.c.gl' h2, (okN_inv h3).1, .inl t1⟩ C.c.tk (fun W2 pn xe tk po => hb (C.trW hex pn xe tk po) body h4) (fun a oe cls d pn hz hf => ⟨fun pins s σ H D I q => ?_⟩)) fun K σ H hq => ?_
    · obtain ⟨c', Ca, rfl, rfl, hcl, q⟩ := q
      exact (hs (C.su0 a ((a, oe) :: pn)) (b0 :: suite) h5).run pins s σ H D I q
    · obtain ⟨φ, hd, σd, Kd, Xd, A, ⟨_, w⟩, q, x⟩ := hq
      refine ⟨φ, hd, σd, Kd, _, A, w, q, fun φ' hd' H' σd' σ' c' Ca e s r hk w' => ?_⟩
      dsimp only at w'
      cases ex : G.exm c' c with
      | none =>
        rw [ex] at w'
        exact w'.elim
      | some bb =>
        rw [ex] at w'
        obtain ⟨hE, T', t2, t3⟩ := C.c.exm c' c bb ex Ca (by rw [← C.c.mg] at hk ⊢; exact hk)
        rw [t1] at t2
        cases t2
        refine ⟨bb, t3, fun hb' a ha => ?_, fun hb' => ?_⟩
        · subst hb'
          exact ⟨c', Ca, rfl, rfl, hk, φ', hd', σd', Kd, _, ⟨s, r⟩, w', q.ext e, fun _ _ _ _ _ _ _ _ _ _ _ z => z⟩
        · subst hb'
          exact x φ' hd' H' σd' σ' c' Ca e s r hk w'
theorem ok_try1 {b hh : Ss} {c : String} {i : Nat} (hb : SndSs b) (hs : SndSs hh) : SndS (.try b c (some i) hh) := by
  intro W G lv P WX X C s h
  obtain ⟨body, xn, p, n, b0, suite, pos, pos2, rfl, k⟩ := try1_inv h
  simp only [Bool.and_eq_true, decide_eq_true_eq, Bool.not_eq_true'] at k
  obtain ⟨⟨⟨⟨⟨⟨⟨⟨hc, hex⟩, rfl⟩, h2⟩, h3⟩, h6⟩, h7⟩, h4⟩, h5⟩ := k
  cases ef : G.isTr c with
  | false =>
    refine ⟨fun pins s σ H D I hq => ?_⟩
    obtain ⟨φ, hd, σd, Kd, Xd, A, ⟨w, _⟩, q, x⟩ := hq
    rw [ef] at w; cases w
  | true =>
    obtain ⟨T, t1⟩ := C.c.trs c ef
    have hloc : X.env.kindOf n = some .local := by
      show X.env.scope.names.lookup n = some .local
      rw [C.c.sc]
      cases e : P.sc.names.lookup n with
      | none => rw [e] at h7; cases h7
      | some kk => rw [e] at h7; cases kk <;> first | rfl | cases h7
    refine ps_imp (ps_try_as (i := i) (c := .ref T) (tb := fun W2 => Tes W W2 (wpSs G b)) (ts := fun a cls d K σ H => ∃ c' Ca, cls = .ref Ca ∧ d = none ∧ clOf W.mg c' = some Ca ∧ ExcC X.K Ca ∧ Tes { W with xs := some (i, a, c') } (fun _ _ _ _ => False) (wpSs (G.inx i c') hh) K σ H)
      C.stk C.frm (by rw [C.c.N]; exact C.c.nd) (by rw [C.c.N]; exact h6) hloc ⟨C.c.gl' h2, (okN_inv h3).1, .inl t1⟩ C.c.tk (fun W2 pn xe tk po => hb (C.trW hex pn xe tk po) body h4) (fun a oe cls d pn hz hf => ⟨fun pins s σ H D I q => ?_⟩)) fun K σ H hq => ?_
    · obtain ⟨c', Ca, rfl, rfl, hcl, hE, q⟩ := q
      exact (hs (C.su1 i c' Ca a oe pn hcl hE hz hf) (b0 :: suite) h5).run pins s σ H D I q
    · obtain ⟨φ, hd, σd, Kd, Xd, A, ⟨_, w⟩, q, x⟩ := hq
      have hW : W.xs = none := C.c.xn hc
      refine ⟨φ, hd, σd, Kd, _, A, w, q, fun φ' hd' H' σd' σ' c' Ca e s r hk w' => ?_⟩
      dsimp only at w'
      cases ex : G.exm c' c with
      | none =>
        rw [ex] at w'
        exact w'.elim
      | some bb =>
        rw [ex] at w'
        obtain ⟨hE, T', t2, t3⟩ := C.c.exm c' c bb ex Ca (by rw [← C.c.mg] at hk ⊢; exact hk)
        rw [t1] at t2
        cases t2
        refine ⟨bb, t3, fun hb' a ha => ?_, fun hb' => ?_⟩
        · subst hb'
          have back : ∀ {φ2 H2 σd2 σ2}, RepSt { W with xs := some (i, a, c') } φ2 H2 σd2 σ2 → RepSt W φ2 H2 (σd2.set i none) (σ2.set i none) := fun {φ2 H2 σd2 σ2} r2 =>
            RepSt.wipe1 hW ⟨r2.len, fun j d hj => by
              obtain ⟨v, h1, h2⟩ := r2.get j d hj
              exact ⟨v, h1, Rep.xsw (W := { W with xs := some (i, a, c') }) W.xs h2⟩, fun p hp => by rw [hW] at hp; cases hp⟩ i none
          have sb : ∀ {φ2 hd2 H2}, Sim { W with xs := some (i, a, c') } φ2 hd2 H2 → Sim W φ2 hd2 H2 := fun s2 => Sim.xsw (W := { W with xs := some (i, a, c') }) W.xs s2
          refine ⟨c', Ca, rfl, rfl, hk, hE, φ', hd', σd'.set i none, _, _, ⟨s.xsw _, ?_⟩, w', ⟨?_, ?_, ?_, ?_⟩, fun _ _ _ _ _ _ _ _ _ _ _ z => z⟩
          · refine ⟨by simp [r.len], fun j d hj => ?_, fun p hp hj => ?_⟩
            · by_cases e : i = j
              · subst e
                have hl : i < σd'.length := by
                  have := (List.getElem?_eq_some_iff.mp hj).1
                  simpa using this
                rw [List.getElem?_set_self hl] at hj
                cases hj
              · rw [List.getElem?_set_ne e] at hj ⊢
                obtain ⟨v, h1, h2⟩ := r.get j d hj
                exact ⟨v, h1, h2.xsw _⟩
            · cases hp
              have hl : i < σd'.length := by
                have := (List.getElem?_eq_some_iff.mp hj).1
                simpa using this
              rw [List.getElem?_set_self (by rw [← r.len]; exact hl)]
          · exact fun φ2 hd2 H2 σd2 σ2 e2 s2 r2 w2 => q.nx φ2 hd2 H2 _ _ (e.trans e2) (sb s2) (back r2) w2
          · exact fun φ2 hd2 H2 d v e2 s2 r2 w2 => q.rt φ2 hd2 H2 d v (e.trans e2) (sb s2) (Rep.xsw (W := { W with xs := some (i, a, c') }) W.xs r2) w2
          · exact fun φ2 hd2 H2 σd2 σ2 e2 s2 r2 w2 => q.bk φ2 hd2 H2 _ _ (e.trans e2) (sb s2) (back r2) w2
          · exact fun φ2 hd2 H2 σd2 σ2 e2 s2 r2 w2 => q.ct φ2 hd2 H2 _ _ (e.trans e2) (sb s2) (back r2) w2
        · subst hb'
          exact x φ' hd' H' σd' σ' c' Ca e s r hk w'
theorem ok_pass : SndS .pass := by
  intro W G lv P WX X C s h
  cases s with
  | Pass pos => exact ps_imp ps_pass fun K σ H ⟨φ, hd, σd, Kd, Xd, A, w, q, x⟩ => q.nx φ hd H _ _ .refl A.sim A.st w
  | _ => simp [chkS] at h
theorem ok_brk : SndS .brk := by
  intro W G lv P WX X C s h
  cases s with
  | Break pos => exact ps_imp ps_break fun K σ H ⟨φ, hd, σd, Kd, Xd, A, w, q, x⟩ => q.bk φ hd H _ _ .refl A.sim A.st w
  | _ => simp [chkS] at h
theorem ok_cont : SndS .cont := by
  intro W G lv P WX X C s h
  cases s with
  | Continue pos => exact ps_imp ps_continue fun K σ H ⟨φ, hd, σd, Kd, Xd, A, w, q, x⟩ => q.ct φ hd H _ _ .refl A.sim A.st w
  | _ => simp [chkS] at h
theorem ok_ssnil : SndSs .nil := by
  intro W G lv P WX X C s h
  cases s with
  | nil => exact pss_imp pss_nil fun K σ H ⟨φ, hd, σd, Kd, Xd, A, w, q, x⟩ => q.nx φ hd H _ _ .refl A.sim A.st w
  | cons => simp [chkSs] at h
theorem ok_sscons {c r} (hc : SndS c) (hr : SndSs r) : SndSs (.cons c r) := by
  intro W G lv P WX X C s h
  cases s with
  | nil => simp [chkSs] at h
  | cons t ts =>
    simp only [chkSs, Bool.and_eq_true] at h
    refine pss_imp (pss_cons (hc C t h.1) (hr C ts h.2)) fun K σ H ⟨φ, hd, σd, Kd, Xd, A, w, q, x⟩ => ?_
    exact ⟨φ, hd, σd, _, Xd, A, w, ⟨fun φ' hd' H' σd' σ' e s r w' => ⟨φ', hd', σd', Kd, Xd, ⟨s, r⟩, w', q.ext e, x.ext e⟩, q.rt, q.bk, q.ct⟩, x⟩
end
mutual
theorem sndS : ∀ c : S, SndS c
  | .set (.nm i) e => ok_set1
  | .set (.tp is) e => ok_set2
  | .par i j a b => ok_par
  | .sub o i e => ok_sub
  | .dput o i e => ok_dput
  | .fset _ _ _ => ok_fset
  | .aug _ _ _ => ok_aug
  | .ex _ => ok_ex
  | .ret _ => ok_ret
  | .retN => ok_retN
  | .ite c a b => ok_ite (sndSs a) (sndSs b)
  | .whl c b => ok_whl (sndSs b)
  | .fr t it b => ok_fr (sndSs b)
  | .raise _ => ok_raise
  | .try b c none hh => ok_try0 (sndSs b) (sndSs hh)
  | .try b c (some i) hh => ok_try1 (sndSs b) (sndSs hh)
  | .pass => ok_pass
  | .brk => ok_brk
  | .cont => ok_cont
theorem sndSs : ∀ c : Ss, SndSs c
  | .nil => ok_ssnil
  | .cons s r => ok_sscons (sndS s) (sndSs r)
end
end Vd

set_option Elab.async false
set_option linter.all false
set_option maxRecDepth 100000
set_option maxHeartbeats 4000000
/-! defs, programs, the law's end -/
namespace Vd
open PySem PySem.Spec PyProof.Rows L2

/-! ### defs and programs -/
structure Fn where
  n : Nat
  ps : List String
  body : Ss
structure Prog where
  fns : String → Option Fn
  gl : String → Option D
  fldOk : String → String → Bool
  sub : String → String → Option Bool
  mes : String → String → Option Fn := fun _ _ => none
  isEx : String → Bool := fun _ => false
  exm : String → String → Option Bool := fun _ _ => none
  isTr : String → Bool := fun _ => false
noncomputable def wpFn (G : Gam) (c : Fn) (args : List D) (h : Hd) (Q : DK) (X : EK) : Prop :=
  args.length = c.ps.length ∧ wpSs G c.body (args.map some ++ List.replicate (c.n - args.length) none) h { nx := fun _ h' => Exit h .non h' Q, rt := fun v h' => Exit h v h' Q } (fun e _ h' => X e h' ∨ (h <+: h' ∧ X e h))
noncomputable def Gn (P : Prog) : Nat → Gam
  | 0 => { fn := fun _ _ _ _ _ => False, isFn := fun _ => false, gl := P.gl, fldOk := P.fldOk, sub := P.sub, me := fun _ _ _ _ _ _ => False, isMe := fun _ _ => false, mkc := fun _ _ _ _ _ => False, isMk := fun _ => false, isEx := P.isEx, exm := P.exm, isTr := P.isTr, xs := none }
  | n + 1 => { fn := fun f args h Q X => ∃ c, P.fns f = some c ∧ wpFn (Gn P n) c args h Q X, isFn := fun f => (P.fns f).isSome, gl := P.gl, fldOk := P.fldOk, sub := P.sub, me := fun c m args h Q X => ∃ cd, P.mes c m = some cd ∧ wpFn (Gn P n) cd args h Q X, isMe := fun c m => (P.mes c m).isSome, mkc := mkW (Gn P n).me, isMk := fun c => (P.mes c "__init__").isSome && decide (0 < n), isEx := P.isEx, exm := P.exm, isTr := P.isTr, xs := none }
/-- a def as it stands behind the top -/
noncomputable def chkFn (c : Fn) (N : List Str) (st : Stmt) : Bool := chkSs { cm := true, N := N, sc := defScope st, os := defScope st } c.body (defBody st) && decide (N.length = c.n)
structure FnFact (K : PySem.W.Frag) (mg : Str → Option Value) (f : String) (c : Fn) : Prop where
  ex : ∃ (fa : Addr) (fd : FuncData) (N : List Str) (st : Stmt) (qual : Str), mg (Str.ofString f) = some (.ref fa) ∧ Fun K (Str.ofString f) qual st fa fd ∧ Binds K fd (c.ps.map Str.ofString) [] ∧ FnScope N (c.ps.map Str.ofString) (defScope st) ∧ chkFn c N st = true
/-- a method -/
structure MeFact (K : PySem.W.Frag) (mg : Str → Option Value) (cl m : String) (c : Fn) : Prop where
  ex : ∃ (C fa : Addr) (fd : FuncData) (N : List Str) (st : Stmt) (qual : Str), clOf mg cl = some C ∧ Cls K C ∧ Meth K C (Str.ofString m) fa ∧ Fun K (Str.ofString m) qual st fa fd ∧ Binds K fd (c.ps.map Str.ofString) [] ∧ FnScope N (c.ps.map Str.ofString) (defScope st) ∧ chkFn c N st = true
/-- what the top's names hold -/
structure TopFact (P : Prog) (K : PySem.W.Frag) (mg : Str → Option Value) : Prop where
  fns : ∀ f c, P.fns f = some c → FnFact K mg f c
  bn : ∀ f v, biV f = some v → mg (Str.ofString f) = none
  bn2 : mg (Str.ofString "range") = none ∧ mg (Str.ofString "zip") = none ∧ mg (Str.ofString "enumerate") = none ∧ mg (Str.ofString "reversed") = none ∧ mg (Str.ofString "isinstance") = none
  bn3 : mg (Str.ofString "int") = none ∧ mg (Str.ofString "bool") = none ∧ mg (Str.ofString "str") = none ∧ mg (Str.ofString "list") = none ∧ mg (Str.ofString "tuple") = none
  gl : ∀ x d, P.gl x = some d → ∃ u v, mg (Str.ofString x) = some u ∧ RelV v u ∧ ∀ (W' : Wd) φ H, Rep W' φ H d v
  fld : ∀ c f, P.fldOk c f = true → ∀ C, clOf mg c = some C → Cls K C ∧ NoAttr K C (Str.ofString f)
  mes : ∀ cl m c, P.mes cl m = some c → MeFact K mg cl m c
  mks : ∀ cl c, P.mes cl "__init__" = some c → ∃ C, mg (Str.ofString cl) = some (.ref C) ∧ PySem.W.makesIn K C = true ∧ PySem.W.keepIn K (.ref C) = true
  exs : ∀ c, P.isEx c = true → ∃ C, mg (Str.ofString c) = some (.ref C) ∧ ExcC K C ∧ PySem.W.excIn K C [.type "ValueError", .type "Exception", .type "BaseException", .type "object"] "ValueError.__new__" = true ∧ PySem.W.keepIn K (.ref C) = true ∧ PySem.W.typeIn K (.ref C) = some (.type "type")
  exm : ∀ c t b, P.exm c t = some b → ∀ C, clOf mg c = some C → ExcC K C ∧ ∃ T, mg (Str.ofString t) = some (.ref T) ∧ PySem.W.exmOne K (.ref C) (.ref T) = some b
  sub : ∀ c t b, P.sub c t = some b → ∀ C, clOf mg c = some C → (∃ T, mg (Str.ofString t) = some (.ref T) ∧ PySem.W.kitOne K (.ref C) (.ref T) = some b) ∨ (t = "ValueError" ∧ mg (Str.ofString t) = none ∧ PySem.W.kitOne K (.ref C) (.type "ValueError") = some b)
  trs : ∀ c, P.isTr c = true → ∃ T, mg (Str.ofString c) = some (.ref T)
theorem Gn_gl {P : Prog} : ∀ n, (Gn P n).gl = P.gl ∧ (Gn P n).fldOk = P.fldOk ∧ (Gn P n).sub = P.sub ∧ (Gn P n).isEx = P.isEx ∧ (Gn P n).exm = P.exm ∧ (Gn P n).isTr = P.isTr ∧ (Gn P n).xs = none
  | 0 => ⟨rfl, rfl, rfl, rfl, rfl, rfl, rfl⟩
  | _ + 1 => ⟨rfl, rfl, rfl, rfl, rfl, rfl, rfl⟩
section
variable {Pr : Program} {w : World} {K : PySem.W.Frag} {mg : Str → Option Value} {base : Heap} {P : Prog}
noncomputable def FnsAt (Pr : Program) (w : World) (K : PySem.W.Frag) (mg : Str → Option Value) (base : Heap) (P : Prog) (n : Nat) : Prop := ∀ f c, P.fns f = some c → 0 < n → ∃ (fa : Addr) (fd : FuncData), mg (Str.ofString f) = some (.ref fa) ∧ PySem.W.keepIn K (.ref fa) = true ∧ Binds K fd (c.ps.map Str.ofString) [] ∧
    (∃ oc od osl, K.lookup fa = some ⟨oc, od, .func fd, osl⟩) ∧ FnOk Pr w K mg base (CX Pr w) n fa fd (c.ps.map Str.ofString) (SPd ⟨K, mg, none, []⟩ ((Gn P n).fn f))
noncomputable def MesAt (Pr : Program) (w : World) (K : PySem.W.Frag) (mg : Str → Option Value) (base : Heap) (P : Prog) (n : Nat) : Prop := ∀ cl m c, P.mes cl m = some c → 0 < n → ∃ (C fa : Addr) (fd : FuncData), clOf mg cl = some C ∧ Cls K C ∧ Meth K C (Str.ofString m) fa ∧ Binds K fd (c.ps.map Str.ofString) [] ∧
    FnOk Pr w K mg base (CX Pr w) n fa fd (c.ps.map Str.ofString) (SPd ⟨K, mg, none, []⟩ ((Gn P n).me cl m))
theorem cok_at (T : TopFact P K mg) {n : Nat} (IF : FnsAt Pr w K mg base P n) (IM : MesAt Pr w K mg base P n) (IM1 : ∀ m, n = m + 1 → MesAt Pr w K mg base P m) {fb : List Addr} {N : List Str} {sc : Scope} {WX : L2.WX} {X : Cx} (hp : X.prog = Pr) (hw : X.w = w) (hK : X.K = K) (hm : X.mg = mg) (hb : X.base = base) (hN : X.N = N) (nd : N.Nodup) (hsc : X.env.scope = sc) (hc : X.calm = true)
    (hr : Room n X.A) (hu : X.A.units + 65 < cLine) (hfn : ∀ x, sc.names.lookup x = some .cell → X.fn x = true) (tk : Takes X WX) : Cok ⟨K, mg, none, fb⟩ (Gn P n) n { cm := true, N := N, sc := sc, os := sc } WX X := by
  subst hp hw hK hm hb hN hsc
  obtain ⟨g1, g2, g3, g4, g5, g6, g7⟩ := Gn_gl (P := P) n
  refine { K := rfl, mg := rfl, N := rfl, nd := nd, sc := rfl, calm := fun _ => hc, room := fun _ => hr, hu := hu, fn := hfn, bn := T.bn, bn2 := T.bn2, bn3 := T.bn3, tk := tk, fns := ?fns, gl := ?gl, fld := ?fld, mes := ?mes, mks := ?mks, xn := fun _ => rfl, exs := ?exs, exm := ?exm, sub := ?sub, xe := (fun h => nomatch h), isn := T.bn2.2.2.2.2, trs := ?trs }
  case fns =>
    intro _ g hg
    cases n with
    | zero => cases hg
    | succ n =>
      obtain ⟨c2, hc2⟩ := Option.isSome_iff_exists.mp (show (P.fns g).isSome = true from hg)
      obtain ⟨fa2, fd2, h1, h2, h3, _, h4⟩ := IF g c2 hc2 (Nat.succ_pos n)
      exact ⟨fa2, fd2, _, h1, h2, h3, h4⟩
  case gl => rw [g1]; exact T.gl
  case fld => rw [g2]; exact T.fld
  case mes =>
    intro _ cl m hg
    cases n with
    | zero => cases hg
    | succ n =>
      obtain ⟨c2, hc2⟩ := Option.isSome_iff_exists.mp (show (P.mes cl m).isSome = true from hg)
      obtain ⟨C, fa2, fd2, h1, h2, h3, h4, h5⟩ := IM cl m c2 hc2 (Nat.succ_pos n)
      exact ⟨C, fa2, fd2, _, h1, h2, h3, h4, h5⟩
  case mks =>
    intro _ cl hg
    cases n with
    | zero => cases hg
    | succ n =>
      have hg : ((P.mes cl "__init__").isSome && decide (0 < n)) = true := hg
      rw [Bool.and_eq_true, decide_eq_true_eq] at hg
      obtain ⟨c2, hc2⟩ := Option.isSome_iff_exists.mp hg.1
      obtain ⟨C, fa2, fd2, h1, h2, h3, h4, h5⟩ := IM1 n rfl cl "__init__" c2 hc2 hg.2
      obtain ⟨C', k1, k2, k3⟩ := T.mks cl c2 hc2
      have : C' = C := by
        unfold clOf at h1
        rw [k1] at h1
        exact Option.some.inj h1
      subst this
      exact ⟨C', fa2, fd2, _, n, (Gn P n).me, rfl, k1, ⟨k2, h3.at_, h3.fn, k3⟩, h4, h5, rfl⟩
  case exs => rw [g4]; exact T.exs
  case exm => rw [g5]; exact T.exm
  case sub => rw [g3]; exact T.sub
  case trs => rw [g6]; exact T.trs
/-- a def's body does what its text asks -/
theorem body_ok (T : TopFact P K mg) {n : Nat} (IF : FnsAt Pr w K mg base P n) (IM : MesAt Pr w K mg base P n) (IM1 : ∀ m, n = m + 1 → MesAt Pr w K mg base P m) {fa : Addr} {fd : FuncData} {N : List Str} {st : Stmt} {nm qual : Str} {c : Fn} (F : Fun K nm qual st fa fd) (S : FnScope N (c.ps.map Str.ofString) (defScope st)) (hk : chkFn c N st = true) :
    FnOk Pr w K mg base (CX Pr w) (n + 1) fa fd (c.ps.map Str.ofString) (SPd ⟨K, mg, none, []⟩ (fun args h Q X => wpFn (Gn P n) c args h Q X)) := by
  unfold chkFn at hk
  simp only [Bool.and_eq_true, decide_eq_true_eq] at hk
  obtain ⟨k1, k2⟩ := hk
  refine F.okX S (fun vs H Q E hsp => ?_) (fun cdv A outer s H vs Q E hr hsp => ?_)
  · obtain ⟨fb, φ, hd, ds, Qd, Xd, S', rs, ⟨wl, _⟩, _⟩ := hsp
    rw [← rs.len, wl, List.length_map]
  · obtain ⟨fb, φ, hd, ds, Qd, Xd, S', rs, ⟨wl, wb⟩, q, x⟩ := hsp
    let W : Wd := ⟨K, mg, none, fb⟩
    have ck : Cok W (Gn P n) n { cm := true, N := N, sc := defScope st, os := defScope st } (fun cls d _ H => E cls d H) (cxOf (CX Pr w) Pr w K mg base N qual (defScope st) fa cdv A outer s H E) :=
      cok_at T IF IM IM1 rfl rfl rfl rfl rfl rfl S.nd rfl rfl hr (by have := hr.un; show (A.deeper _).units + 65 < cLine; omega) (fun _ _ => rfl) (takes_of rfl rfl rfl rfl)
    have sk : Sok W (Gn P n) n { cm := true, N := N, sc := defScope st, os := defScope st } (fun cls d _ H => E cls d H) (cxOf (CX Pr w) Pr w K mg base N qual (defScope st) fa cdv A outer s H E) := ⟨ck, S.kind, fun _ => passes_of rfl, rfl, rfl⟩
    refine ⟨_, sndSs c.body sk (defBody st) k1, φ, hd, _, _, _, ⟨S', ?_⟩, wb, ⟨?_, ?_, ?_, ?_⟩, ?_⟩
    · refine ⟨?_, fun i d hd' => ?_, fun p hp => nomatch hp⟩
      · unfold L2.start
        simp only [List.length_append, List.length_map, List.length_replicate]
        rw [k2, rs.len]
      · unfold L2.start
        by_cases hi : i < ds.length
        · rw [List.getElem?_append_left (by simpa using hi), List.getElem?_map] at hd'
          cases e : ds[i]? with
          | none => rw [e] at hd'; cases hd'
          | some d' =>
            rw [e] at hd'
            cases hd'
            obtain ⟨v, hv, rv⟩ := rs.get e
            exact ⟨v, by rw [List.getElem?_append_left (by rw [List.length_map, ← rs.len]; exact hi), List.getElem?_map, hv]; rfl, rv⟩
        · rw [List.getElem?_append_right (by simpa using hi), List.getElem?_replicate] at hd'
          split at hd' <;> cases hd'
    · exact fun φ' hd' H' σd' σ' e s' r w' => Exit.ok (W := W) S' e s' .non w' q
    · exact fun φ' hd' H' d v e s' r w' => Exit.ok (W := W) S' e s' r w' q
    · exact fun _ _ _ _ _ _ _ _ w' => w'.elim
    · exact fun _ _ _ _ _ _ _ _ w' => w'.elim
    · intro φ' hd' H' σd' σ' e C ex s' r k w'
      rcases w' with w' | ⟨p, w'⟩
      · exact x φ' hd' H' e C ex s' k w'
      · obtain ⟨l, el, hl⟩ := ex.pre
        have ht : φ'.take hd.length = φ := by rw [el, ← S'.len]; simp
        have pre : hd'.take hd.length = hd := by
          obtain ⟨t, et⟩ := p
          rw [← et]; simp
        have S2 := s'.take (n := hd.length) (by rw [pre]; exact S'.bdo) p.length_le
        rw [ht, pre] at S2
        exact x φ hd H' e C ⟨⟨[], by simp, by simp⟩, ex.keep, ex.there, ex.frz⟩ S2 k w'
theorem SPd.imp {W : Wd} {s t : List D → Hd → DK → EK → Prop} (h : ∀ a b c d, s a b c d → t a b c d) : ∀ vs H Q E, SPd W s vs H Q E → SPd W t vs H Q E := fun vs H Q E ⟨fb, φ, hd, ds, Qd, Xd, S', rs, w, q⟩ => ⟨fb, φ, hd, ds, Qd, Xd, S', rs, h _ _ _ _ w, q⟩
theorem prog_all (T : TopFact P K mg) : ∀ n, (FnsAt Pr w K mg base P n ∧ MesAt Pr w K mg base P n) ∧ ∀ m, n = m + 1 → MesAt Pr w K mg base P m
  | 0 => ⟨⟨fun f c _ h => absurd h (by decide), fun cl m c _ h => absurd h (by decide)⟩, fun m h => by cases h⟩
  | n + 1 => by
    obtain ⟨⟨IF, IM⟩, IM1⟩ := prog_all T n
    refine ⟨⟨fun f c hc _ => ?_, fun cl m c hc _ => ?_⟩, fun m h => by cases h; exact IM⟩
    · obtain ⟨fa, fd, N, st, qual, hm, F, hb, S, hk⟩ := (T.fns f c hc).ex
      refine ⟨fa, fd, hm, F.kp, hb, ?_, (body_ok T IF IM IM1 F S hk).imp (SPd.imp fun a b c' d ⟨cc, e, z⟩ => by rw [hc] at e; cases e; exact z)⟩
      obtain ⟨oc, od, kV, doc, pm, an, cdv, ct, osl, e1, e2, e3⟩ := F.ex
      exact ⟨oc, od, osl, e2⟩
    · obtain ⟨C, fa, fd, N, st, qual, hm, hcl, hme, F, hb, S, hk⟩ := (T.mes cl m c hc).ex
      exact ⟨C, fa, fd, hm, hcl, hme, hb, (body_ok T IF IM IM1 F S hk).imp (SPd.imp fun a b c' d ⟨cc, e, z⟩ => by rw [hc] at e; cases e; exact z)⟩
theorem prog_ok (T : TopFact P K mg) (n : Nat) : FnsAt Pr w K mg base P n := (prog_all T n).1.1
end
/-- the law's end -/
noncomputable def LawOk (P : Prog) (n : Nat) : Prop := ∀ ns : List Int, ns.length ≤ 63 → (Gn P n).fn "law" [.sv (ns.map .int)] [] (fun d _ => d = .bl true) (fun _ _ => False)
theorem reps_ints {W : Wd} {φ : List Addr} {H : Hp} : ∀ ns : List Int, Reps W φ H (ns.map D.int) (ns.map V.int)
  | [] => .nil
  | n :: ns => .cons (.int n) (reps_ints ns)
noncomputable def spLaw (K : PySem.W.Frag) : Sp := fun vs H Q _ => ∃ (a : Addr) (ns : List Int), vs = [.ref a] ∧ SqL K H a (ns.map V.int) ∧ ns.length ≤ 63 ∧ ∀ H', Q (.bl true) H'
theorem law_sp {P : Prog} {n : Nat} (L : LawOk P n) (K : PySem.W.Frag) (mg : Str → Option Value) (vs : List V) (H : Hp) (Q : VK) (E : L2.XK) (h : spLaw K vs H Q E) : SPd ⟨K, mg, none, []⟩ ((Gn P n).fn "law") vs H Q E := by
  obtain ⟨a, ns, rfl, hS, hl, hq⟩ := h
  refine ⟨[], [], [], [.sv (ns.map .int)], _, _, ⟨rfl, List.nodup_nil, fun a h => by simp at h, fun a h => by simp at h, fun n o h => by simp at h⟩, .cons (.sv ?_ (reps_ints ns)) .nil, L ns hl, fun φ' hd' H' d v e s r w => ?_, fun _ _ _ _ _ _ _ _ w => w.elim⟩
  · rcases hS with h | h
    · exact .inl ⟨h, by simp, by simp⟩
    · exact .inr h
  · have w' : d = .bl true := w
    subst w'
    cases r
    exact hq H'
theorem law_end {Pr : Program} {w : World} {K : PySem.W.Frag} {mg : Str → Option Value} {base : Heap} {P : Prog} {n : Nat} {c : Fn} {fa : Addr} {fd : FuncData} {oc : Value} {od : Option Addr} {osl : Array (Option Value)} (T : TopFact P K mg) (L : LawOk P n) (hn : 0 < n) (hc : P.fns "law" = some c) (hp : c.ps = ["script"])
    (hm : mg (Str.ofString "law") = some (.ref fa)) (hl : K.lookup fa = some ⟨oc, od, .func fd, osl⟩) : FnOk Pr w K mg base (CX Pr w) n fa fd [Str.ofString "script"] (spLaw K) := by
  obtain ⟨fa', fd', h1, _, _, ⟨oc', od', osl', h3⟩, F⟩ := prog_ok (Pr := Pr) (w := w) (base := base) (P := P) T n "law" c hc hn
  rw [hm] at h1; cases h1
  rw [hl] at h3; cases h3
  rw [hp] at F
  exact F.imp (law_sp L K mg)
/-- a script's numbers are of so many bits at most -/
noncomputable def BitOk (z : Int) : Prop := Builtin.Int.intBits z ≤ 1048576
noncomputable def LawOkB (P : Prog) (n : Nat) : Prop := ∀ ns : List Int, ns.length ≤ 63 → (∀ z ∈ ns, BitOk z) → (Gn P n).fn "law" [.sv (ns.map .int)] [] (fun d _ => d = .bl true) (fun _ _ => False)
noncomputable def spLawB (K : PySem.W.Frag) : Sp := fun vs H Q _ => ∃ (a : Addr) (ns : List Int), vs = [.ref a] ∧ SqL K H a (ns.map V.int) ∧ ns.length ≤ 63 ∧ (∀ z ∈ ns, Builtin.Int.intBits z ≤ 1048576) ∧ ∀ H', Q (.bl true) H'
theorem law_spB {P : Prog} {n : Nat} (L : LawOkB P n) (K : PySem.W.Frag) (mg : Str → Option Value) (vs : List V) (H : Hp) (Q : VK) (E : L2.XK) (h : spLawB K vs H Q E) : SPd ⟨K, mg, none, []⟩ ((Gn P n).fn "law") vs H Q E := by
  obtain ⟨a, ns, rfl, hS, hl, hb, hq⟩ := h
  refine ⟨[], [], [], [.sv (ns.map .int)], _, _, ⟨rfl, List.nodup_nil, fun a h => by simp at h, fun a h => by simp at h, fun n o h => by simp at h⟩, .cons (.sv ?_ (reps_ints ns)) .nil, L ns hl hb, fun φ' hd' H' d v e s r w => ?_, fun _ _ _ _ _ _ _ _ w => w.elim⟩
  · rcases hS with h | h
    · exact .inl ⟨h, by simp, by simp⟩
    · exact .inr h
  · have w' : d = .bl true := w
    subst w'
    cases r
    exact hq H'
theorem law_endB {Pr : Program} {w : World} {K : PySem.W.Frag} {mg : Str → Option Value} {base : Heap} {P : Prog} {n : Nat} {c : Fn} {fa : Addr} {fd : FuncData} {oc : Value} {od : Option Addr} {osl : Array (Option Value)} (T : TopFact P K mg) (L : LawOkB P n) (hn : 0 < n) (hc : P.fns "law" = some c) (hp : c.ps = ["script"])
    (hm : mg (Str.ofString "law") = some (.ref fa)) (hl : K.lookup fa = some ⟨oc, od, .func fd, osl⟩) : FnOk Pr w K mg base (CX Pr w) n fa fd [Str.ofString "script"] (spLawB K) := by
  obtain ⟨fa', fd', h1, _, _, ⟨oc', od', osl', h3⟩, F⟩ := prog_ok (Pr := Pr) (w := w) (base := base) (P := P) T n "law" c hc hn
  rw [hm] at h1; cases h1
  rw [hl] at h3; cases h3
  rw [hp] at F
  exact F.imp (law_spB L K mg)
theorem law_cx {P : Program} {w : World} (H : Hp) (s : Shared) (e : Value) (s' : Shared) : CX P w [] H s (fun _ _ _ => False) e s' → False := fun h => by
  obtain ⟨_, _, _, _, _, _, _, _, _, _, _, _, z⟩ := h
  exact z
/-- a def's fact from what the top has written -/
theorem fact_mk {K : PySem.W.Frag} {h : Heap} {mg : Str → Option Value} (X : K.In h) (G : h.Ns mainGlobals mg) {f : String} {c : Fn} {st : Stmt} {fa : Addr} {oc : Value} {od an : Option Addr} {osl : Array (Option Value)} {kV doc pm cdv ct : Value} (N : List Str)
    (a : PySem.W.nsIn K mainGlobals (Str.ofString f) = some (some (.ref fa))) (l : K.lookup fa = some ⟨oc, od, .func (PySem.W.fnOf (Str.ofString f) (Str.ofString f) (defArgs st) (defBody st) (defScope st) .none kV doc pm an cdv ct), osl⟩)
    (cd : PySem.W.codeIn K cdv (Str.ofString f) = true) (k : PySem.W.keepIn K (.ref fa) = true) (S : FnScope N (c.ps.map Str.ofString) (defScope st))
    (b : ∀ (us : List Value), us.length = (c.ps.map Str.ofString).length → bindArgs (PySem.W.fnOf (Str.ofString f) (Str.ofString f) (defArgs st) (defBody st) (defScope st) .none kV doc pm an cdv ct) ⟨us, []⟩ = pure ((c.ps.map Str.ofString).zip us))
    (hk : chkFn c N st = true) : FnFact K mg f c :=
  ⟨fa, _, N, st, Str.ofString f, PySem.W.mg_of X G a, fun_mk l cd k, .all b, S, hk⟩
/-- a method's fact from what the top has written -/
theorem me_mk {K : PySem.W.Frag} {h : Heap} {mg : Str → Option Value} (X : K.In h) (G : h.Ns mainGlobals mg) {cl m : String} {qual : Str} {c : Fn} {st : Stmt} {C fa : Addr} {oc : Value} {od an : Option Addr} {osl : Array (Option Value)} {kV doc pm cdv ct : Value} (N : List Str)
    (aC : PySem.W.nsIn K mainGlobals (Str.ofString cl) = some (some (.ref C))) (hc : Cls K C) (a : PySem.W.findIn K (.ref C) (Str.ofString m) = some (some (.ref fa))) (i : PySem.W.isFn K (.ref fa) = true)
    (l : K.lookup fa = some ⟨oc, od, .func (PySem.W.fnOf (Str.ofString m) qual (defArgs st) (defBody st) (defScope st) .none kV doc pm an cdv ct), osl⟩)
    (cd : PySem.W.codeIn K cdv qual = true) (k : PySem.W.keepIn K (.ref fa) = true) (S : FnScope N (c.ps.map Str.ofString) (defScope st))
    (b : ∀ (us : List Value), us.length = (c.ps.map Str.ofString).length → bindArgs (PySem.W.fnOf (Str.ofString m) qual (defArgs st) (defBody st) (defScope st) .none kV doc pm an cdv ct) ⟨us, []⟩ = pure ((c.ps.map Str.ofString).zip us))
    (hk : chkFn c N st = true) : MeFact K mg cl m c :=
  ⟨C, fa, _, N, st, qual, by unfold clOf; rw [PySem.W.mg_of X G aC], hc, ⟨a, i, k⟩, fun_mk l cd k, .all b, S, hk⟩
end Vd

set_option Elab.async false
set_option linter.all false
set_option maxRecDepth 100000
/-! facts of exception classes at a claim's end -/
namespace Vd
open PySem PySem.Spec PyProof.Rows L2
theorem kit_own {K : PySem.W.Frag} {R T : Addr} {b : Bool} (hd : PySem.W.hasDictIn K T = true) (ht : PySem.W.typeIn K (.ref T) = some (.type "type")) (hs : PySem.W.subIn K (.ref R) (.ref T) = some b) (hr : PySem.W.subIn K (.ref R) (.ref R) = some true) : PySem.W.kitOne K (.ref R) (.ref T) = some b := by
  unfold PySem.W.kitOne
  by_cases e : (Value.ref R == Value.ref T) = true
  · rw [if_pos e]
    have e' : R = T := by
      have := eq_of_beq e
      cases this
      rfl
    subst e'
    rw [hr] at hs
    exact hs
  · rw [if_neg e]
    have hc : (PySem.W.clsIn K T).isSome = true := by
      unfold PySem.W.hasDictIn at hd
      cases h : PySem.W.clsIn K T with
      | none => rw [h] at hd; cases hd
      | some c => rfl
    have : ((PySem.W.clsIn K T).isSome && PySem.W.typeIn K (.ref T) == some (.type "type")) = true := by
      rw [hc, ht]
      rfl
    show (if ((PySem.W.clsIn K T).isSome && PySem.W.typeIn K (.ref T) == some (.type "type")) = true then PySem.W.subIn K (.ref R) (.ref T) else none) = some b
    rw [if_pos this]
    exact hs
theorem kit_val {K : PySem.W.Frag} {R : Addr} (h : PySem.W.subIn K (.ref R) (.type "ValueError") = some true) : PySem.W.kitOne K (.ref R) (.type "ValueError") = some true := by
  unfold PySem.W.kitOne
  rw [if_neg (show ¬ (Value.ref R == Value.type "ValueError") = true from fun z => nomatch (eq_of_beq z))]
  show (if PySem.W.kitMeta "ValueError" = true then _ else none) = _
  rw [if_pos (by decide +kernel)]
  exact h
end Vd

set_option Elab.async false
set_option linter.all false
set_option maxRecDepth 100000
/-! reckoning on plain data -/
namespace Vd
open PySem
noncomputable def asB (x : D) (K : Bool → Prop) : Prop := match x with | .bl b => K b | _ => False
noncomputable def asI (x : D) (K : Int → Prop) : Prop := match x with | .int b => K b | _ => False
@[simp] theorem asB_bl (b : Bool) (K : Bool → Prop) : asB (.bl b) K = K b := rfl
@[simp] theorem asI_int (b : Int) (K : Int → Prop) : asI (.int b) K = K b := rfl
theorem asB_eq (x : D) (K : Bool → Prop) : (∃ b, x = .bl b ∧ K b) = asB x K := by
  cases x <;> simp [asB]
theorem asI_eq (x : D) (K : Int → Prop) : (∃ b, x = .int b ∧ K b) = asI x K := by
  cases x <;> simp [asI]
section
variable {G : Gam} {σ : DSt} {h : Hd} {Q : DK} {X : EK}
@[simp] theorem wE_var (i : Nat) : wpE G (.var i) σ h Q X = ∃ d, σ[i]? = some (some d) ∧ Q d h := rfl
@[simp] theorem wE_int (i : Int) : wpE G (.int i) σ h Q X = Q (.int i) h := rfl
@[simp] theorem wE_str (i : String) : wpE G (.str i) σ h Q X = Q (.str (Str.ofString i)) h := rfl
@[simp] theorem wE_bl (i : Bool) : wpE G (.bl i) σ h Q X = Q (.bl i) h := rfl
@[simp] theorem wE_non : wpE G .non σ h Q X = Q .non h := rfl
@[simp] theorem wE_glob (x : String) : wpE G (.glob x) σ h Q X = ∃ d, G.gl x = some d ∧ Q d h := rfl
@[simp] theorem wE_bin (m o a b) : wpE G (.bin m o a b) σ h Q X = wpE G a σ h (fun x h1 => wpE G b σ h1 (fun y h2 => bopW m o x y h2 Q) X) X := rfl
@[simp] theorem wE_neg (a) : wpE G (.neg a) σ h Q X = wpE G a σ h (fun x h1 => asI x fun i => Q (.int (-i)) h1) X := by simp only [← asI_eq]; rfl
@[simp] theorem wE_not (a) : wpE G (.not a) σ h Q X = wpE G a σ h (fun x h1 => asB x fun b => Q (.bl (!b)) h1) X := by simp only [← asB_eq]; rfl
@[simp] theorem wE_cmp (o a b) : wpE G (.cmp o a b) σ h Q X = wpE G a σ h (fun x h1 => wpE G b σ h1 (fun y h2 => cmpW o x y h2 fun c => Q (.bl c) h2) X) X := rfl
@[simp] theorem wE_chain (o o' a b c) : wpE G (.chain o o' a b c) σ h Q X = wpE G a σ h (fun x h1 => wpE G b σ h1 (fun y h2 => cmpW o x y h2 fun k =>
      if k = true then wpE G c σ h2 (fun z h3 => cmpW o' y z h3 fun k' => Q (.bl k') h3) X else Q (.bl false) h2) X) X := rfl
@[simp] theorem wE_and1 (a) : wpE G (.and (.cons a .nil)) σ h Q X = wpE G a σ h Q X := rfl
@[simp] theorem wE_or1 (a) : wpE G (.or (.cons a .nil)) σ h Q X = wpE G a σ h Q X := rfl
@[simp] theorem wE_and (a b r) : wpE G (.and (.cons a (.cons b r))) σ h Q X = wpE G a σ h (fun x h1 => asB x fun k => if k = true then wpE G (.and (.cons b r)) σ h1 Q X else Q (.bl false) h1) X := by simp only [← asB_eq]; rfl
@[simp] theorem wE_or (a b r) : wpE G (.or (.cons a (.cons b r))) σ h Q X = wpE G a σ h (fun x h1 => asB x fun k => if k = true then Q (.bl true) h1 else wpE G (.or (.cons b r)) σ h1 Q X) X := by simp only [← asB_eq]; rfl
@[simp] theorem wE_ife (c a b) : wpE G (.ife c a b) σ h Q X = wpE G c σ h (fun x h1 => asB x fun k => if k = true then wpE G a σ h1 Q X else wpE G b σ h1 Q X) X := by simp only [← asB_eq]; rfl
@[simp] theorem wE_tup (es) : wpE G (.tup es) σ h Q X = wpEs G es σ h (fun xs h1 => xs.length ≤ sizeLine ∧ Q (.tup xs) h1) X := rfl
@[simp] theorem wE_lst (m es) : wpE G (.lst m es) σ h Q X = wpEs G es σ h (fun xs h1 => mkL m xs h1 Q) X := rfl
@[simp] theorem wE_idx (a i) : wpE G (.idx a i) σ h Q X = wpE G a σ h (fun x h1 => wpE G i σ h1 (fun y h2 => idxW x y h2 Q) X) X := rfl
@[simp] theorem wE_stp (a lo c) : wpE G (.stp a lo c) σ h Q X = wpE G a σ h (fun x h1 => ∃ xs, rdL h1 x = some xs ∧ mkL false (stpL xs lo c) h1 Q) X := rfl
@[simp] theorem wE_lrg (m a b) : wpE G (.lrg m a b) σ h Q X = wpE G a σ h (fun x h1 => wpE G b σ h1 (fun y h2 => ∃ i j, x = .int i ∧ y = .int j ∧ R62 i ∧ R62 j ∧ (j - i).toNat ≤ 16777216 ∧ mkL m (rngN i j) h2 Q) X) X := rfl
@[simp] theorem wE_lrb (m a b) : wpE G (.lrb m a b) σ h Q X = wpE G a σ h (fun x h1 => wpE G b σ h1 (fun y h2 => ∃ i j, x = .int i ∧ y = .int j ∧ (j - i).toNat ≤ 16777216 ∧ mkL m (rngN i j) h2 Q) X) X := rfl
@[simp] theorem wE_srs (m a) : wpE G (.srs m a) σ h Q X = wpE G a σ h (fun x h1 => srsW m x h1 Q) X := rfl
@[simp] theorem wE_lset (a) : wpE G (.lset a) σ h Q X = wpE G a σ h (fun x h1 => lsetW x h1 Q) X := rfl
@[simp] theorem wE_lrev (m a) : wpE G (.lrev m a) σ h Q X = wpE G a σ h (fun x h1 => ∃ xs, rdL h1 x = some xs ∧ mkL m xs.reverse h1 Q) X := rfl
@[simp] theorem wE_dnewK : wpE G (.dnew false) σ h Q X = Q (.ref h.length) (h ++ [.dk false []]) := rfl
@[simp] theorem wE_dnewT : wpE G (.dnew true) σ h Q X = Q (.ref h.length) (h ++ [.dt false []]) := rfl
@[simp] theorem wE_dln (a) : wpE G (.dln a) σ h Q X = wpE G a σ h (fun x h1 => ∃ r z kvs, x = .ref r ∧ h1[r]? = some (.dk z kvs) ∧ Q (.int kvs.length) h1) X := rfl
@[simp] theorem wE_ddsp (k v) : wpE G (.ddsp k v) σ h Q X = wpE G k σ (h ++ [.dt false []]) (fun x h1 => wpE G v σ h1 (fun y h2 => ∃ ys ks, x = .tup ys ∧ keysD ys = some ks ∧ h2[h.length]? = some (.dt false []) ∧ Q (.ref h.length) (h2.set h.length (.dt false (putA [] ks y)))) X) X := rfl
@[simp] theorem wE_dget (o i) : wpE G (.dget o i) σ h Q X = wpE G o σ h (fun x h1 => wpE G i σ h1 (fun y h2 => dgetW x y h2 fun o => ∃ d, o = some d ∧ Q d h2) X) X := rfl
@[simp] theorem wE_din (i o) : wpE G (.din false i o) σ h Q X = wpE G i σ h (fun y h1 => wpE G o σ h1 (fun x h2 => dgetW x y h2 fun o => Q (.bl o.isSome) h2) X) X := rfl
@[simp] theorem wE_dnin (i o) : wpE G (.din true i o) σ h Q X = wpE G i σ h (fun y h1 => wpE G o σ h1 (fun x h2 => dgetW x y h2 fun o => Q (.bl (!o.isSome)) h2) X) X := rfl
@[simp] theorem dget_str {r : Nat} {s : Str} {R : Option D → Prop} : dgetW (.ref r) (.str s) h R = ∃ z kvs, h[r]? = some (.dk z kvs) ∧ R (getA kvs (.inr s)) := by
  show (∃ z kvs k, h[r]? = some (.dk z kvs) ∧ some (Sum.inr s) = some k ∧ _) = _
  simp
@[simp] theorem dget_int {r : Nat} {s : Int} {R : Option D → Prop} : dgetW (.ref r) (.int s) h R = ∃ z kvs, h[r]? = some (.dk z kvs) ∧ R (getA kvs (.inl s)) := by
  show (∃ z kvs k, h[r]? = some (.dk z kvs) ∧ some (Sum.inl s) = some k ∧ _) = _
  simp
@[simp] theorem dget_tup {r : Nat} {ys : List D} {R : Option D → Prop} : dgetW (.ref r) (.tup ys) h R = ∃ z kvs k, h[r]? = some (.dt z kvs) ∧ keysD ys = some k ∧ R (getA kvs k) := rfl
@[simp] theorem dput_str {r : Nat} {s : Str} {v : D} {R : Hd → Prop} : dputW (.ref r) (.str s) v h R = ∃ kvs, h[r]? = some (.dk false kvs) ∧ kvs.length < sizeLine ∧ R (h.set r (.dk false (putA kvs (.inr s) v))) := by
  show (∃ kvs k, h[r]? = some (.dk false kvs) ∧ some (Sum.inr s) = some k ∧ _) = _
  simp
@[simp] theorem dput_tup {r : Nat} {ys : List D} {v : D} {R : Hd → Prop} : dputW (.ref r) (.tup ys) v h R = ∃ kvs k, h[r]? = some (.dt false kvs) ∧ keysD ys = some k ∧ kvs.length < sizeLine ∧ R (h.set r (.dt false (putA kvs k v))) := rfl
@[simp] theorem wE_mpr (mx a) : wpE G (.mpr mx a) σ h Q X = wpE G a σ h (fun x h1 => mprW mx x h1 Q) X := rfl
@[simp] theorem wE_mdef (mx a) : wpE G (.mdef mx a) σ h Q X = wpE G a σ h (fun x h1 => mdW mx x h1 Q) X := rfl
@[simp] theorem wE_slc (m a lo hi) : wpE G (.slc m a lo hi) σ h Q X = wpE G a σ h (fun x h1 => wpO G lo σ h1 (fun l h2 => wpO G hi σ h2 (fun u h3 => slcW m x l u h3 Q) X) X) X := rfl
@[simp] theorem wE_fld (a f) : wpE G (.fld a f) σ h Q X = wpE G a σ h (fun x h1 => ∃ c ns vs d, rdI h1 x = some (c, ns, vs) ∧ G.fldOk c f = true ∧ flook ns vs f = some d ∧ Q d h1) X := rfl
@[simp] theorem wE_isi (a t) : wpE G (.isi a t) σ h Q X = wpE G a σ h (fun x h1 => ∃ b, isiB (seen h1 x) t = some b ∧ Q (.bl b) h1) X := rfl
@[simp] theorem wE_call (f es) : wpE G (.call f es) σ h Q X = (G.isFn f = true ∧ wpEs G es σ h (fun xs h1 => G.fn f xs h1 Q X) X) := rfl
@[simp] theorem wE_make (c es) : wpE G (.make c es) σ h Q X = (G.isMk c = true ∧ wpEs G es σ h (fun xs h1 => G.mkc c xs h1 Q X) X) := rfl
@[simp] theorem wE_meth (o f es) : wpE G (.meth o f es) σ h Q X = wpE G o σ h (fun x h1 => ∃ c ns vs, rdI h1 x = some (c, ns, vs) ∧ G.isMe c f = true ∧ flook ns vs f = none ∧ wpEs G es σ h1 (fun xs h2 => G.me c f (x :: xs) h2 Q X) X) X := rfl
@[simp] theorem wE_ise (i t) : wpE G (.ise i t) σ h Q X = ∃ c b, σ[i]? = some none ∧ G.xs = some (i, c) ∧ G.sub c t = some b ∧ Q (.bl b) h := rfl
@[simp] theorem wE_bi (f m es) : wpE G (.bi f m es) σ h Q X = wpEs G es σ h (fun xs h1 => biW m f xs h1 Q) X := rfl
@[simp] theorem wE_bm (f o es) : wpE G (.bm f o es) σ h Q X = wpE G o σ h (fun x h1 => recOk f x h1 ∧ wpEs G es σ h1 (fun xs h2 => bmW f x xs h2 Q) X) X := rfl
/-- a comprehension's turns -/
noncomputable def CL (G : Gam) (elt : E) (tg : Tg) (cond : Oe) (vs : List Nat) (σ : DSt) (stay : Hd → Prop) (xs acc : List D) (h : Hd) (Q : List D → Hd → Prop) : Prop :=
  compL stay (fun x h2 K => tgW tg x (Vd.wipe σ vs) h2 fun σ2 => wpC G cond σ2 h2 (fun b h3 => if b = true then wpE G elt σ2 h3 (fun y h4 => K (some y) h4) (fun _ _ => False) else K none h3) (fun _ _ => False)) xs acc h Q
@[simp] theorem wE_comp (m elt tg it cond vs) : wpE G (.comp m elt tg it cond vs) σ h Q X = wpI G it σ h (fun J h1 => CL G elt tg cond vs σ J.stay J.xs [] h1 (fun acc h5 => mkL m acc h5 Q)) X := rfl
theorem CL_nil {elt tg cond vs stay acc} {Q' : List D → Hd → Prop} : CL G elt tg cond vs σ stay [] acc h Q' = (stay h ∧ Q' acc h) := rfl
theorem CL_cons {elt tg cond vs stay x xs acc} {Q' : List D → Hd → Prop} : CL G elt tg cond vs σ stay (x :: xs) acc h Q' = (stay h ∧ tgW tg x (Vd.wipe σ vs) h fun σ2 => wpC G cond σ2 h (fun b h3 => if b = true then wpE G elt σ2 h3 (fun y h4 => acc.length < sizeLine ∧ CL G elt tg cond vs σ stay xs (acc ++ [y]) h4 Q') (fun _ _ => False) else CL G elt tg cond vs σ stay xs acc h3 Q') (fun _ _ => False)) := rfl
@[simp] theorem wEs_nil {Q' : List D → Hd → Prop} : wpEs G .nil σ h Q' X = Q' [] h := rfl
@[simp] theorem wEs_cons (e r) {Q' : List D → Hd → Prop} : wpEs G (.cons e r) σ h Q' X = wpE G e σ h (fun x h1 => wpEs G r σ h1 (fun xs h2 => Q' (x :: xs) h2) X) X := rfl
@[simp] theorem wO_none {Q' : Option Int → Hd → Prop} : wpO G .none σ h Q' X = Q' none h := rfl
@[simp] theorem wO_some (e) {Q' : Option Int → Hd → Prop} : wpO G (.some e) σ h Q' X = wpE G e σ h (fun x h1 => asI x fun i => Q' (some i) h1) X := by simp only [← asI_eq]; rfl
@[simp] theorem wC_none {Q' : Bool → Hd → Prop} : wpC G .none σ h Q' X = Q' true h := rfl
@[simp] theorem wC_some (e) {Q' : Bool → Hd → Prop} : wpC G (.some e) σ h Q' X = wpE G e σ h (fun x h1 => asB x fun b => Q' b h1) X := by simp only [← asB_eq]; rfl
@[simp] theorem wT_eq (e) {Q' : Bool → Hd → Prop} : wpT G e σ h Q' X = wpE G e σ h (fun x h1 => asB x fun b => Q' b h1) X := by simp only [← asB_eq]; rfl
variable {R : Itm → Hd → Prop}
@[simp] theorem wI_val (e) : wpI G (.val e) σ h R X = wpE G e σ h (fun x h1 => ∃ xs, rdS h1 x = some xs ∧ R ⟨xs, fun h' => rdS h' x = some xs⟩ h1) X := rfl
@[simp] theorem wI_chs (e) : wpI G (.chs e) σ h R X = wpE G e σ h (fun x h1 => ∃ z, x = .str z ∧ R ⟨chsD z, fun _ => True⟩ h1) X := rfl
@[simp] theorem wI_rng1 (a) : wpI G (.rng1 a) σ h R X = wpE G a σ h (fun x h1 => asI x fun j => R62 j ∧ R ⟨rngN 0 j, fun _ => True⟩ h1) X := by simp only [← asI_eq]; rfl
@[simp] theorem wI_rng3 (a b c) : wpI G (.rng3 a b c) σ h R X = wpE G a σ h (fun x h1 => wpE G b σ h1 (fun y h2 => wpE G c σ h2 (fun z h3 => ∃ i j k n, x = .int i ∧ y = .int j ∧ z = .int k ∧ Rg3 i j k n ∧ R ⟨rngC i k n, fun _ => True⟩ h3) X) X) X := rfl
@[simp] theorem wI_rng2 (a b) : wpI G (.rng2 a b) σ h R X = wpE G a σ h (fun x h1 => wpE G b σ h1 (fun y h2 => asI x fun i => asI y fun j => R62 i ∧ R62 j ∧ R ⟨rngN i j, fun _ => True⟩ h2) X) X := by
  have e : ∀ (x y : D) (K : Int → Int → Prop), (asI x fun i => asI y fun j => K i j) = ∃ i j, x = .int i ∧ y = .int j ∧ K i j := fun x y K => by cases x <;> cases y <;> simp [asI]
  simp only [e]; rfl
@[simp] theorem wI_rngb (a b) : wpI G (.rngb a b) σ h R X = wpE G a σ h (fun x h1 => wpE G b σ h1 (fun y h2 => asI x fun i => asI y fun j => R ⟨rngN i j, fun _ => True⟩ h2) X) X := by
  have e : ∀ (x y : D) (K : Int → Int → Prop), (asI x fun i => asI y fun j => K i j) = ∃ i j, x = .int i ∧ y = .int j ∧ K i j := fun x y K => by cases x <;> cases y <;> simp [asI]
  simp only [e]; rfl
@[simp] theorem wI_zip (a b) : wpI G (.zip a b) σ h R X = wpE G a σ h (fun x h1 => wpE G b σ h1 (fun y h2 => ∃ xs ys, rd2 h2 x y = some (xs, ys) ∧
      R ⟨(xs.zip ys).map fun p => .tup [p.1, p.2], fun h' => rd2 h' x y = some (xs, ys)⟩ h2) X) X := rfl
@[simp] theorem wI_enum (a) : wpI G (.enum a) σ h R X = wpE G a σ h (fun x h1 => ∃ xs, rdS h1 x = some xs ∧ R ⟨xs.zipIdx.map fun p => .tup [.int p.2, p.1], fun h' => rdS h' x = some xs⟩ h1) X := rfl
@[simp] theorem wI_kys (a) : wpI G (.kys a) σ h R X = wpE G a σ h (fun x h1 => ∃ r kvs, x = .ref r ∧ h1[r]? = some (.dk false kvs) ∧ R ⟨kvs.map fun kv => keyV kv.1, fun h' => h'[r]? = some (.dk true kvs)⟩ (h1.set r (.dk true kvs))) X := rfl
@[simp] theorem wI_rev (a) : wpI G (.rev a) σ h R X = wpE G a σ h (fun x h1 => ∃ xs, rdS h1 x = some xs ∧ R ⟨xs.reverse, fun h' => rdS h' x = some xs⟩ h1) X := rfl
end
section
variable {G : Gam} {σ : DSt} {h : Hd} {K : Vd.Ends} {X : XS}
/-- the turns of a for, of a while -/
noncomputable def FL (G : Gam) (t : Tg) (b : Ss) (X : XS) (stay : Hd → Prop) (xs : List D) (σ : DSt) (h : Hd) (K : Vd.Ends) : Prop := forL stay (fun x σ h K => tgW t x σ h fun σ' => wpSs G b σ' h K X) xs σ h K
noncomputable def WL (G : Gam) (c : E) (b : Ss) (X : XS) (n : Nat) (σ : DSt) (h : Hd) (K : Vd.Ends) : Prop := whlL (fun σ h Q => wpT G c σ h Q (fun c h' => X c σ h')) (fun σ h K => wpSs G b σ h K X) n σ h K
theorem FL_nil {t b stay} : FL G t b X stay [] σ h K = (stay h ∧ K.nx σ h) := rfl
theorem FL_cons {t b stay x xs} : FL G t b X stay (x :: xs) σ h K = (stay h ∧ tgW t x σ h fun σ' => wpSs G b σ' h { K with nx := fun σ' h' => FL G t b X stay xs σ' h' K, ct := fun σ' h' => FL G t b X stay xs σ' h' K, bk := K.nx } X) := rfl
theorem WL_succ {c b n} : WL G c b X (n + 1) σ h K = wpT G c σ h (fun k h1 => if k = true then wpSs G b σ h1 { K with nx := fun σ' h' => WL G c b X n σ' h' K, ct := fun σ' h' => WL G c b X n σ' h' K, bk := K.nx } X else K.nx σ h1) (fun c h' => X c σ h') := rfl
@[simp] theorem wS_set (t e) : wpS G (.set t e) σ h K X = wpE G e σ h (fun x h1 => tgW t x σ h1 fun σ' => K.nx σ' h1) (fun c h' => X c σ h') := rfl
@[simp] theorem wS_par (i j a b) : wpS G (.par i j a b) σ h K X = wpE G a σ h (fun x h1 => wpE G b σ h1 (fun y h2 => K.nx ((σ.set i (some x)).set j (some y)) h2) (fun c h' => X c σ h')) (fun c h' => X c σ h') := rfl
@[simp] theorem wS_sub (o i e) : wpS G (.sub o i e) σ h K X = wpE G e σ h (fun v h1 => wpE G o σ h1 (fun x h2 => wpE G i σ h2 (fun y h3 => ∃ r k xs j, x = .ref r ∧ y = .int k ∧ h3[r]? = some (.lst xs) ∧ L2.ixN xs.length k = some j ∧
      K.nx σ (h3.set r (.lst (xs.set j v)))) (fun c h' => X c σ h')) (fun c h' => X c σ h')) (fun c h' => X c σ h') := rfl
@[simp] theorem wS_dput (o i e) : wpS G (.dput o i e) σ h K X = wpE G e σ h (fun v h1 => wpE G o σ h1 (fun x h2 => wpE G i σ h2 (fun y h3 => dputW x y v h3 fun h4 => K.nx σ h4) (fun c h' => X c σ h')) (fun c h' => X c σ h')) (fun c h' => X c σ h') := rfl
@[simp] theorem wS_augA (i e) : wpS G (.aug i .add e) σ h K X = ∃ x, σ[i]? = some (some x) ∧ wpE G e σ h (fun y h1 => asI x fun a => asI y fun b => K.nx (σ.set i (some (.int (a + b)))) h1) (fun c h' => X c σ h') := by
  have e : ∀ (x y : D) (K : Int → Int → Prop), (asI x fun i => asI y fun j => K i j) = ∃ i j, x = .int i ∧ y = .int j ∧ K i j := fun x y K => by cases x <;> cases y <;> simp [asI]
  simp only [e]
  show (∃ x, _ ∧ wpE _ _ _ _ _ _) = _
  simp
@[simp] theorem wS_ex (e) : wpS G (.ex e) σ h K X = wpE G e σ h (fun _ h1 => K.nx σ h1) (fun c h' => X c σ h') := rfl
@[simp] theorem wS_ret (e) : wpS G (.ret e) σ h K X = wpE G e σ h K.rt (fun c h' => X c σ h') := rfl
@[simp] theorem wS_retN : wpS G .retN σ h K X = K.rt .non h := rfl
@[simp] theorem wS_ite (c a b) : wpS G (.ite c a b) σ h K X = wpE G c σ h (fun x h1 => asB x fun k => if k = true then wpSs G a σ h1 K X else wpSs G b σ h1 K X) (fun c h' => X c σ h') := by simp only [← asB_eq]; rfl
@[simp] theorem wS_whl (c b) : wpS G (.whl c b) σ h K X = ∃ n, WL G c b X n σ h K := rfl
@[simp] theorem wS_fr (t it b) : wpS G (.fr t it b) σ h K X = wpI G it σ h (fun J h1 => FL G t b X J.stay J.xs σ h1 K) (fun c h' => X c σ h') := rfl
@[simp] theorem wS_fset (o f e) : wpS G (.fset o f e) σ h K X = wpE G e σ h (fun v h1 => wpE G o σ h1 (fun x h2 => ∃ r c ns vs, x = .ref r ∧ h2[r]? = some (.ins c ns vs) ∧ G.fldOk c f = true ∧ ns.length < 1000 ∧
      K.nx σ (h2.set r (.ins c (fput ns vs f v).1 (fput ns vs f v).2))) (fun c h' => X c σ h')) (fun c h' => X c σ h') := rfl
@[simp] theorem wS_raise (c) : wpS G (.raise c) σ h K X = (G.isEx c = true ∧ X c σ h) := rfl
/-- what a try makes of an exception of its body -/
noncomputable def tryX0 (G : Gam) (c : String) (hh : Ss) (K : Vd.Ends) (X : XS) : XS := fun c' σ' h' => match G.exm c' c with
  | some true => wpSs G hh σ' h' K (fun _ _ _ => False)
  | some false => X c' σ' h'
  | none => False
noncomputable def tryX1 (G : Gam) (c : String) (i : Nat) (hh : Ss) (K : Vd.Ends) (X : XS) : XS := fun c' σ' h' => match G.exm c' c with
  | some true => wpSs (G.inx i c') hh (σ'.set i none) h' { nx := fun s => K.nx (s.set i none), rt := K.rt, bk := fun s => K.bk (s.set i none), ct := fun s => K.ct (s.set i none) } (fun _ _ _ => False)
  | some false => X c' σ' h'
  | none => False
@[simp] theorem wS_try0 (b c hh) : wpS G (.try b c none hh) σ h K X = (G.isTr c = true ∧ wpSs G b σ h K (tryX0 G c hh K X)) := by
  have e : (fun c' (σ' : DSt) (h' : Hd) => match G.exm c' c, (none : Option Nat) with
    | some true, some i => wpSs (G.inx i c') hh (σ'.set i none) h' { nx := fun s => K.nx (s.set i none), rt := K.rt, bk := fun s => K.bk (s.set i none), ct := fun s => K.ct (s.set i none) } (fun _ _ _ => False)
    | some true, none => wpSs G hh σ' h' K (fun _ _ _ => False)
    | some false, _ => X c' σ' h'
    | none, _ => False) = tryX0 G c hh K X := by
    funext c' σ' h'
    unfold tryX0
    cases G.exm c' c with
    | none => rfl
    | some b => cases b <;> rfl
  rw [← e]; rfl
@[simp] theorem wS_try1 (b c i hh) : wpS G (.try b c (some i) hh) σ h K X = (G.isTr c = true ∧ wpSs G b σ h K (tryX1 G c i hh K X)) := by
  have e : (fun c' (σ' : DSt) (h' : Hd) => match G.exm c' c, (some i : Option Nat) with
    | some true, some i => wpSs (G.inx i c') hh (σ'.set i none) h' { nx := fun s => K.nx (s.set i none), rt := K.rt, bk := fun s => K.bk (s.set i none), ct := fun s => K.ct (s.set i none) } (fun _ _ _ => False)
    | some true, none => wpSs G hh σ' h' K (fun _ _ _ => False)
    | some false, _ => X c' σ' h'
    | none, _ => False) = tryX1 G c i hh K X := by
    funext c' σ' h'
    unfold tryX1
    cases G.exm c' c with
    | none => rfl
    | some b => cases b <;> rfl
  rw [← e]; rfl
theorem tryX1_t {c' c : String} {i : Nat} {hh : Ss} {σ' : DSt} {h' : Hd} (e : G.exm c' c = some true) : tryX1 G c i hh K X c' σ' h' = wpSs (G.inx i c') hh (σ'.set i none) h' { nx := fun s => K.nx (s.set i none), rt := K.rt, bk := fun s => K.bk (s.set i none), ct := fun s => K.ct (s.set i none) } (fun _ _ _ => False) := by
  unfold tryX1; rw [e]
theorem tryX0_t {c' c : String} {hh : Ss} {σ' : DSt} {h' : Hd} (e : G.exm c' c = some true) : tryX0 G c hh K X c' σ' h' = wpSs G hh σ' h' K (fun _ _ _ => False) := by
  unfold tryX0; rw [e]
theorem tryX0_f {c' c : String} {hh : Ss} {σ' : DSt} {h' : Hd} (e : G.exm c' c = some false) : tryX0 G c hh K X c' σ' h' = X c' σ' h' := by
  unfold tryX0; rw [e]
@[simp] theorem wS_pass : wpS G .pass σ h K X = K.nx σ h := rfl
@[simp] theorem wS_brk : wpS G .brk σ h K X = K.bk σ h := rfl
@[simp] theorem wS_cont : wpS G .cont σ h K X = K.ct σ h := rfl
@[simp] theorem wSs_nil : wpSs G .nil σ h K X = K.nx σ h := rfl
@[simp] theorem wSs_cons (s r) : wpSs G (.cons s r) σ h K X = wpS G s σ h { K with nx := fun σ' h' => wpSs G r σ' h' K X } X := rfl
@[simp] theorem tg_nm (i d) {Kt : DSt → Prop} : tgW (.nm i) d σ h Kt = Kt (σ.set i (some d)) := rfl
theorem tg_tp (is d) {Kt : DSt → Prop} : tgW (.tp is) d σ h Kt = ∃ xs, rdS h d = some xs ∧ xs.length = is.length ∧ Kt ((is.zip xs).foldl (fun s p => s.set p.1 (some p.2)) σ) := rfl
@[simp] theorem tg_tp_tup (is xs) {Kt : DSt → Prop} : tgW (.tp is) (.tup xs) σ h Kt = (xs.length = is.length ∧ Kt ((is.zip xs).foldl (fun s p => s.set p.1 (some p.2)) σ)) := by
  rw [tg_tp]
  exact propext ⟨fun ⟨_, e, l, k⟩ => by cases e; exact ⟨l, k⟩, fun ⟨l, k⟩ => ⟨xs, rfl, l, k⟩⟩
@[simp] theorem tg_tp_vl (is xs) {Kt : DSt → Prop} : tgW (.tp is) (.vl xs) σ h Kt = (xs.length = is.length ∧ Kt ((is.zip xs).foldl (fun s p => s.set p.1 (some p.2)) σ)) := by
  rw [tg_tp]
  exact propext ⟨fun ⟨_, e, l, k⟩ => by cases e; exact ⟨l, k⟩, fun ⟨l, k⟩ => ⟨xs, rfl, l, k⟩⟩
end
/-! ### operators on whole numbers -/
section
variable {m : Bool} {i j : Int} {h : Hd} {Q : DK} {R : Bool → Prop}
@[simp] theorem b_add : bopW m .add (.int i) (.int j) h Q = Q (.int (i + j)) h := rfl
@[simp] theorem b_sub : bopW m .sub (.int i) (.int j) h Q = Q (.int (i - j)) h := rfl
@[simp] theorem b_mul : bopW m .mul (.int i) (.int j) h Q = (MulOk i j ∧ Q (.int (i * j)) h) := rfl
@[simp] theorem b_fdiv : bopW m .fdiv (.int i) (.int j) h Q = (DivOk j ∧ Q (.int (i.fdiv j)) h) := rfl
@[simp] theorem b_mod : bopW m .mod (.int i) (.int j) h Q = (j ≠ 0 ∧ Q (.int (i.fmod j)) h) := rfl
@[simp] theorem b_pow : bopW m .pow (.int i) (.int j) h Q = (PowOk i j ∧ Q (.int (i ^ j.toNat)) h) := rfl
@[simp] theorem c_lt : cmpW .lt (.int i) (.int j) h R = R (decide (i < j)) := rfl
@[simp] theorem c_le : cmpW .le (.int i) (.int j) h R = R (decide (i ≤ j)) := rfl
@[simp] theorem c_gt : cmpW .gt (.int i) (.int j) h R = R (decide (j < i)) := rfl
@[simp] theorem c_ge : cmpW .ge (.int i) (.int j) h R = R (decide (j ≤ i)) := rfl
@[simp] theorem c_eq : cmpW .eq (.int i) (.int j) h R = R (decide (i = j)) := rfl
@[simp] theorem c_ne : cmpW .ne (.int i) (.int j) h R = R (!decide (i = j)) := rfl
@[simp] theorem c_eqb {a b : Bool} : cmpW .eq (.bl a) (.bl b) h R = R (a == b) := by
  show (_ ∧ _ ∧ R _) = _
  simp [seen, pl, deq]
@[simp] theorem c_neb {a b : Bool} : cmpW .ne (.bl a) (.bl b) h R = R (!(a == b)) := by
  show (_ ∧ _ ∧ R _) = _
  simp [seen, pl, deq]
@[simp] theorem c_is_bl {a b : Bool} : cmpW .is (.bl a) (.bl b) h R = R (decide (a = b)) := rfl
@[simp] theorem c_isn_bl {a b : Bool} : cmpW .isn (.bl a) (.bl b) h R = R (!decide (a = b)) := rfl
@[simp] theorem c_isn_int : cmpW .isn (.int i) .non h R = R true := rfl
@[simp] theorem c_isn_tup {xs} : cmpW .isn (.tup xs) .non h R = R true := rfl
@[simp] theorem c_isn_non : cmpW .isn .non .non h R = R false := rfl
@[simp] theorem c_is_int : cmpW .is (.int i) .non h R = R false := rfl
@[simp] theorem c_is_tup {xs} : cmpW .is (.tup xs) .non h R = R false := rfl
@[simp] theorem c_is_non : cmpW .is .non .non h R = R true := rfl
/-! ### items -/
@[simp] theorem ix_tup (xs : List D) : idxW (.tup xs) (.int i) h Q = ∃ v, L2.atI xs i = some v ∧ Q v h := by
  show (∃ ys v, rdS h (.tup xs) = some ys ∧ _) = _
  simp [rdS]
@[simp] theorem ix_vl (xs : List D) : idxW (.vl xs) (.int i) h Q = ∃ v, L2.atI xs i = some v ∧ Q v h := by
  show (∃ ys v, rdS h (.vl xs) = some ys ∧ _) = _
  simp [rdS, rdL]
@[simp] theorem ix_sv (xs : List D) : idxW (.sv xs) (.int i) h Q = ∃ v, L2.atI xs i = some v ∧ Q v h := by
  show (∃ ys v, rdS h (.sv xs) = some ys ∧ _) = _
  simp [rdS, rdL]
end
theorem atI_ge {α : Type} {xs : List α} {i : Int} (h0 : 0 ≤ i) : L2.atI xs i = xs[i.toNat]? := by
  unfold L2.atI L2.ixN
  rw [if_pos h0]
  by_cases h : i < xs.length
  · rw [if_pos h]; rfl
  · rw [if_neg h]
    show none = _
    symm
    rw [List.getElem?_eq_none_iff]
    omega
@[simp] theorem atI_0 {α : Type} (a : α) (xs : List α) : L2.atI (a :: xs) 0 = some a := by rw [atI_ge (by decide)]; rfl
@[simp] theorem atI_1 {α : Type} (a b : α) (xs : List α) : L2.atI (a :: b :: xs) 1 = some b := by rw [atI_ge (by decide)]; rfl
@[simp] theorem atI_2 {α : Type} (a b c : α) (xs : List α) : L2.atI (a :: b :: c :: xs) 2 = some c := by rw [atI_ge (by decide)]; rfl
@[simp] theorem atI_3 {α : Type} (a b c d : α) (xs : List α) : L2.atI (a :: b :: c :: d :: xs) 3 = some d := by rw [atI_ge (by decide)]; rfl
/-! ### size -/
/-- a whole number of fewer than k bits -/
class Sm (x : Int) (k : outParam Nat) : Prop where
  lt : x.natAbs < 2 ^ k
theorem sm_le {x : Int} {j k : Nat} (h : x.natAbs < 2 ^ j) (hk : j ≤ k) : x.natAbs < 2 ^ k := Nat.lt_of_lt_of_le h (Nat.pow_le_pow_right (by decide) hk)
noncomputable instance smAdd {x y : Int} {a b : Nat} [hx : Sm x a] [hy : Sm y b] : Sm (x + y) (max a b + 1) := ⟨by
  have h1 := sm_le hx.lt (show a ≤ max a b by omega)
  have h2 := sm_le hy.lt (show b ≤ max a b by omega)
  have := Int.natAbs_add_le x y
  rw [Nat.pow_succ]; omega⟩
noncomputable instance smSub {x y : Int} {a b : Nat} [hx : Sm x a] [hy : Sm y b] : Sm (x - y) (max a b + 1) := ⟨by
  have h1 := sm_le hx.lt (show a ≤ max a b by omega)
  have h2 := sm_le hy.lt (show b ≤ max a b by omega)
  have : (x - y).natAbs ≤ x.natAbs + y.natAbs := by omega
  rw [Nat.pow_succ]; omega⟩
noncomputable instance smMul {x y : Int} {a b : Nat} [hx : Sm x a] [hy : Sm y b] : Sm (x * y) (a + b) := ⟨by
  rw [Int.natAbs_mul, Nat.pow_add]
  exact Nat.mul_lt_mul'' hx.lt hy.lt⟩
noncomputable instance smNeg {x : Int} {a : Nat} [hx : Sm x a] : Sm (-x) a := ⟨by rw [Int.natAbs_neg]; exact hx.lt⟩
/-- above nought -/
class PosI (y : Int) : Prop where
  pos : 0 < y
noncomputable instance (priority := low) posLit {n : Nat} : PosI (no_index (OfNat.ofNat (n + 1)) : Int) := ⟨Int.natCast_pos.mpr (Nat.succ_pos n)⟩
noncomputable instance posMul {x y : Int} [hx : PosI x] [hy : PosI y] : PosI (x * y) := ⟨Int.mul_pos hx.pos hy.pos⟩
noncomputable instance (priority := low) smLit {n : Nat} : Sm (no_index (OfNat.ofNat n) : Int) (n.log2 + 1) := ⟨by
  show n < 2 ^ (n.log2 + 1)
  exact Nat.lt_log2_self⟩
noncomputable instance smEmod {x y : Int} {b : Nat} [hy : Sm y b] [hp : PosI y] : Sm (x % y) b := ⟨by
  have h1 := hy.lt
  have a1 := Int.emod_nonneg x (Int.ne_of_gt hp.pos)
  have a2 := Int.emod_lt_of_pos x hp.pos
  omega⟩
noncomputable instance smFmod {x y : Int} {b : Nat} [hy : Sm y b] [hp : PosI y] : Sm (x.fmod y) b := ⟨by
  rw [Int.fmod_eq_emod_of_nonneg _ (Int.le_of_lt hp.pos)]
  exact (smEmod (x := x) (y := y)).lt⟩
theorem natAbs_ediv (x y : Int) (h : 0 < y) : (x / y).natAbs ≤ x.natAbs := by
  have h1 := Int.mul_ediv_add_emod x y
  have h2 := Int.emod_nonneg x (Int.ne_of_gt h)
  have h3 := Int.emod_lt_of_pos x h
  by_cases hx : 0 ≤ x
  · have := Int.ediv_le_self y hx
    have := Int.ediv_nonneg hx (Int.le_of_lt h)
    omega
  · have h4 : x / y < 0 := Int.ediv_neg_of_neg_of_pos (by omega) h
    have h5 : x ≤ x / y := by
      have e : (y - 1) * 1 ≤ (y - 1) * (-(x / y)) := Int.mul_le_mul_of_nonneg_left (by omega) (by omega)
      rw [Int.sub_mul y 1 (-(x / y)), Int.mul_neg, Int.mul_neg] at e
      omega
    omega
noncomputable instance smEdiv {x y : Int} {a : Nat} [hx : Sm x a] [hp : PosI y] : Sm (x / y) a := ⟨Nat.lt_of_le_of_lt (natAbs_ediv x y hp.pos) hx.lt⟩
@[simp] theorem fmod_lit (x : Int) (n : Nat) : x.fmod (no_index (OfNat.ofNat n)) = x % (OfNat.ofNat n : Int) := Int.fmod_eq_emod_of_nonneg _ (Int.natCast_nonneg n)
@[simp] theorem fdiv_lit (x : Int) (n : Nat) : x.fdiv (no_index (OfNat.ofNat n)) = x / (OfNat.ofNat n : Int) := Int.fdiv_eq_ediv_of_nonneg _ (Int.natCast_nonneg n)
theorem mul_ok {x y : Int} {a b : Nat} [hx : Sm x a] [hy : Sm y b] (h : a + b ≤ 999990) : MulOk x y := by
  right
  left
  refine L2.wide_mul (a := a + 1) (b := b + 1) (sm_le hx.lt (by omega)) (sm_le hy.lt (by omega)) (by omega) (by omega) (by omega)
theorem mul_okL {x y : Int} (h1 : -(2 ^ 64) < x) (h2 : x < 2 ^ 64) : MulOk x y := .inl (.inl ⟨h1, h2⟩)
theorem mul_okR {x y : Int} (h1 : -(2 ^ 64) < y) (h2 : y < 2 ^ 64) : MulOk x y := .inl (.inr ⟨h1, h2⟩)
theorem bits_lt {y : Int} {b : Nat} (h : y.natAbs < 2 ^ b) : Builtin.Int.intBits y ≤ b := by
  unfold Builtin.Int.intBits
  split
  · omega
  · rename_i c
    have h0 : y.natAbs ≠ 0 := by
      intro z
      apply c
      have : y = 0 := by omega
      rw [this]; rfl
    have := (Nat.log2_lt h0).mpr h
    omega
theorem mul_okB {x y : Int} {b : Nat} (hx : BitOk x) [hy : Sm y b] (h : b ≤ 100000) : MulOk x y := by
  right
  right
  have := bits_lt hy.lt
  unfold BitOk at hx
  show (Builtin.Int.intBits x : Int) + (Builtin.Int.intBits y : Int) ≤ 134217728
  omega
theorem div_ok {y : Int} {b : Nat} [hy : Sm y b] (h0 : y ≠ 0) (h : b ≤ 8990) : DivOk y := ⟨h0, by
  have := PySem.Flt.log2_lt_of (k := b + 1) (n := y.natAbs) (by omega) (sm_le hy.lt (by omega))
  omega⟩
end Vd
namespace Vd
open PySem
@[simp] theorem Gn_isFn (P : Prog) (n : Nat) (f : String) : (Gn P (n + 1)).isFn f = (P.fns f).isSome := rfl
@[simp] theorem Gn_glE (P : Prog) (n : Nat) : (Gn P n).gl = P.gl := (Gn_gl n).1
@[simp] theorem Gn_fldE (P : Prog) (n : Nat) : (Gn P n).fldOk = P.fldOk := (Gn_gl n).2.1
@[simp] theorem Gn_subE (P : Prog) (n : Nat) : (Gn P n).sub = P.sub := (Gn_gl n).2.2.1
@[simp] theorem Gn_isExE (P : Prog) (n : Nat) : (Gn P n).isEx = P.isEx := (Gn_gl n).2.2.2.1
@[simp] theorem Gn_exmE (P : Prog) (n : Nat) : (Gn P n).exm = P.exm := (Gn_gl n).2.2.2.2.1
@[simp] theorem Gn_isTrE (P : Prog) (n : Nat) : (Gn P n).isTr = P.isTr := (Gn_gl n).2.2.2.2.2.1
@[simp] theorem Gn_isMe (P : Prog) (n : Nat) (c m : String) : (Gn P (n + 1)).isMe c m = (P.mes c m).isSome := rfl
@[simp] theorem Gn_isMk (P : Prog) (n : Nat) (c : String) : (Gn P (n + 2)).isMk c = (P.mes c "__init__").isSome := by
  show ((P.mes c "__init__").isSome && decide (0 < n + 1)) = _
  rw [decide_eq_true (Nat.succ_pos n), Bool.and_true]
theorem Gn_mkc (P : Prog) (n : Nat) (c : String) (xs : List D) (h : Hd) (Q : DK) (X : EK) : (Gn P (n + 1)).mkc c xs h Q X = (Gn P n).me c "__init__" (.ref h.length :: xs) (h ++ [.ins c [] []]) (fun v h2 => v = .non ∧ Exit h (.ref h.length) h2 Q) (fun e h2 => X e h2 ∨ (h <+: h2 ∧ X e h)) := rfl
theorem line_eq : sizeLine = 16777216 := sizeLine_eq
@[simp] theorem mkL_f (xs : List D) (h : Hd) (Q : DK) : mkL false xs h Q = (xs.length ≤ 16777216 ∧ Q (.vl xs) h) := by rw [← line_eq]; rfl
@[simp] theorem mkL_t (xs : List D) (h : Hd) (Q : DK) : mkL true xs h Q = (xs.length ≤ 16777216 ∧ Q (.ref h.length) (h ++ [.lst xs])) := by rw [← line_eq]; rfl
@[simp] theorem line_ge {n : Nat} : (n ≤ sizeLine) = (n ≤ 16777216) := by rw [line_eq]
@[simp] theorem line_gt {n : Nat} : (n < sizeLine) = (n < 16777216) := by rw [line_eq]
section
variable {m : Bool} {h : Hd} {Q : DK} {xs ys : List D}
@[simp] theorem b_cat : bopW m .add (.vl xs) (.vl ys) h Q = (xs.length + ys.length ≤ 16777216 ∧ mkL m (xs ++ ys) h Q) := by
  rw [← line_eq]
  show (∃ as bs, rdL h (.vl xs) = some as ∧ rdL h (.vl ys) = some bs ∧ _) = _
  simp [rdL]
@[simp] theorem b_catS : bopW m .add (.sv xs) (.vl ys) h Q = (xs.length + ys.length ≤ 16777216 ∧ mkL m (xs ++ ys) h Q) := by
  rw [← line_eq]
  show (∃ as bs, rdL h (.sv xs) = some as ∧ rdL h (.vl ys) = some bs ∧ _) = _
  simp [rdL]
@[simp] theorem b_catR : bopW m .add (.vl xs) (.sv ys) h Q = (xs.length + ys.length ≤ 16777216 ∧ mkL m (xs ++ ys) h Q) := by
  rw [← line_eq]
  show (∃ as bs, rdL h (.vl xs) = some as ∧ rdL h (.sv ys) = some bs ∧ _) = _
  simp [rdL]
@[simp] theorem bi_list_sv : biW m "list" [.sv xs] h Q = mkL m xs h Q := by
  show (∃ as, rdS h (.sv xs) = some as ∧ _) = _
  simp [rdS, rdL]
@[simp] theorem bi_list_vl : biW m "list" [.vl xs] h Q = mkL m xs h Q := by
  show (∃ as, rdS h (.vl xs) = some as ∧ _) = _
  simp [rdS, rdL]
@[simp] theorem bi_list_tup : biW m "list" [.tup xs] h Q = mkL m xs h Q := by
  show (∃ as, rdS h (.tup xs) = some as ∧ _) = _
  simp [rdS]
@[simp] theorem bi_len_vl : biW m "len" [.vl xs] h Q = Q (.int xs.length) h := by
  show (∃ as, rdS h (.vl xs) = some as ∧ _) = _
  simp [rdS, rdL]
@[simp] theorem bi_len_sv : biW m "len" [.sv xs] h Q = Q (.int xs.length) h := by
  show (∃ as, rdS h (.sv xs) = some as ∧ _) = _
  simp [rdS, rdL]
@[simp] theorem bi_len_tup : biW m "len" [.tup xs] h Q = Q (.int xs.length) h := by
  show (∃ as, rdS h (.tup xs) = some as ∧ _) = _
  simp [rdS]
@[simp] theorem bi_abs {i : Int} : biW m "abs" [.int i] h Q = Q (.int (if i < 0 then -i else i)) h := rfl
@[simp] theorem bi_int {i : Int} : biW m "int" [.int i] h Q = Q (.int i) h := rfl
@[simp] theorem bi_intb {i : Bool} : biW m "int" [.bl i] h Q = Q (.int (if i = true then 1 else 0)) h := rfl
@[simp] theorem bi_max {i j : Int} : biW m "max" [.int i, .int j] h Q = Q (.int (if j > i then j else i)) h := rfl
@[simp] theorem bi_min {i j : Int} : biW m "min" [.int i, .int j] h Q = Q (.int (if j < i then j else i)) h := rfl
@[simp] theorem isi_int {i : Int} {t : String} : isiB (seen h (.int i)) t = isiS "int" t := rfl
@[simp] theorem isi_bl {i : Bool} {t : String} : isiB (seen h (.bl i)) t = isiS "bool" t := rfl
@[simp] theorem isi_tup {t : String} : isiB (seen h (.tup xs)) t = isiS "tuple" t := rfl
@[simp] theorem isi_vl {t : String} : isiB (seen h (.vl xs)) t = isiS "list" t := rfl
@[simp] theorem isi_non {t : String} : isiB (seen h .non) t = isiS "NoneType" t := rfl
@[simp] theorem isi_str {x : Str} {t : String} : isiB (seen h (.str x)) t = isiS "str" t := rfl
end
@[simp] theorem isS1 : isiS "int" "int" = some true := rfl
@[simp] theorem isS2 : isiS "int" "bool" = some false := rfl
@[simp] theorem isS3 : isiS "tuple" "tuple" = some true := rfl
@[simp] theorem isS4 : isiS "bool" "bool" = some true := rfl
@[simp] theorem isS5 : isiS "int" "tuple" = some false := rfl
@[simp] theorem isS6 : isiS "list" "list" = some true := rfl
@[simp] theorem isS7 : isiS "NoneType" "tuple" = some false := rfl
@[simp] theorem isS8 : isiS "bool" "int" = some true := rfl
/-- a list of whole numbers at a place -/
@[simp] theorem pow_lit (a b : Nat) : PowOk (no_index (OfNat.ofNat a)) (no_index (OfNat.ofNat b)) = (b ≤ 1000000 ∧ a < 2 ^ 64) := by
  show (0 ≤ (OfNat.ofNat b : Int) ∧ (OfNat.ofNat b : Int) ≤ 1000000 ∧ (OfNat.ofNat a : Int).natAbs < 2 ^ 64) = _
  have e1 : (OfNat.ofNat b : Int) = ((b : Nat) : Int) := rfl
  have e2 : (OfNat.ofNat a : Int).natAbs = a := rfl
  rw [e1, e2]
  exact propext ⟨fun ⟨_, h, k⟩ => ⟨by omega, k⟩, fun ⟨h, k⟩ => ⟨by omega, by omega, k⟩⟩
theorem div_lit (n : Nat) (h : n + 1 < 2 ^ 8900) : DivOk (OfNat.ofNat (n + 1)) := ⟨by show ((n + 1 : Nat) : Int) ≠ 0; omega, by
  have := PySem.Flt.log2_lt_of (k := 8900) (n := n + 1) (by omega) h
  show (n + 1).log2 < 9000
  omega⟩
end Vd
namespace Vd
open PySem
section
variable {G : Gam} {t : Tg} {b : Ss} {X : XS} {K : Vd.Ends} {stay : Hd → Prop}
/-- a for, by what holds ahead of each turn -/
theorem FL_list (I : Nat → DSt → Hd → Prop) {xs : List D} {σ : DSt} {h : Hd} (h0 : I 0 σ h) (hst : ∀ k σ h, k ≤ xs.length → I k σ h → stay h)
    (step : ∀ k x σ h, xs[k]? = some x → k < xs.length → I k σ h → ∀ Kn : DSt → Hd → Prop, (∀ σ' h', I (k + 1) σ' h' → Kn σ' h') → tgW t x σ h fun σ' => wpSs G b σ' h { K with nx := Kn, ct := Kn, bk := K.nx } X)
    (fin : ∀ σ h, I xs.length σ h → K.nx σ h) : FL G t b X stay xs σ h K := by
  have key : ∀ (m k : Nat) (σ : DSt) (h : Hd), k + m = xs.length → I k σ h → FL G t b X stay (xs.drop k) σ h K := by
    intro m
    induction m with
    | zero =>
      intro k σ h hk hI
      have hk : k = xs.length := by omega
      subst hk
      rw [List.drop_length, FL_nil]
      exact ⟨hst _ _ _ (Nat.le_refl _) hI, fin σ h hI⟩
    | succ m ih =>
      intro k σ h hk hI
      have hlt : k < xs.length := by omega
      rw [List.drop_eq_getElem_cons hlt, FL_cons]
      exact ⟨hst _ _ _ (by omega) hI, step k _ σ h (List.getElem?_eq_getElem hlt) hlt hI _ fun σ' h' hI' => ih (k + 1) σ' h' (by omega) hI'⟩
  have := key xs.length 0 σ h (by omega) h0
  rwa [List.drop_zero] at this
theorem FL_rng (I : Nat → DSt → Hd → Prop) {lo hi : Int} {σ : DSt} {h : Hd} (h0 : I 0 σ h) (hst : ∀ h, stay h)
    (step : ∀ k σ h, k < (hi - lo).toNat → I k σ h → ∀ Kn : DSt → Hd → Prop, (∀ σ' h', I (k + 1) σ' h' → Kn σ' h') → tgW t (.int (lo + (k : Int))) σ h fun σ' => wpSs G b σ' h { K with nx := Kn, ct := Kn, bk := K.nx } X)
    (fin : ∀ σ h, I (hi - lo).toNat σ h → K.nx σ h) : FL G t b X stay (rngN lo hi) σ h K := by
  have hl : (rngN lo hi).length = (hi - lo).toNat := by unfold rngN; simp
  refine FL_list I h0 (fun _ _ h _ _ => hst h) (fun k x σ h hx hk hI Kn hKn => ?_) (by rw [hl]; exact fin)
  rw [hl] at hk
  have ex : x = .int (lo + (k : Int)) := by
    unfold rngN at hx
    simp [hk] at hx
    exact hx.symm
  subst ex
  exact step k σ h hk hI Kn hKn
/-- a while, by what holds ahead of each turn, and a number that falls -/
theorem WL_ind {c : E} (I : DSt → Hd → Prop) (μ : DSt → Hd → Nat) (step : ∀ σ h, I σ h → ∀ Kn : DSt → Hd → Prop, (∀ σ' h', I σ' h' → μ σ' h' < μ σ h → Kn σ' h') →
      wpT G c σ h (fun k h1 => if k = true then wpSs G b σ h1 { K with nx := Kn, ct := Kn, bk := K.nx } X else K.nx σ h1) (fun c h' => X c σ h')) {σ : DSt} {h : Hd} (h0 : I σ h) : ∃ n, WL G c b X n σ h K := by
  have key : ∀ (n : Nat) (σ : DSt) (h : Hd), I σ h → μ σ h < n → WL G c b X n σ h K := by
    intro n
    induction n with
    | zero => intro σ h _ hm; omega
    | succ n ih =>
      intro σ h hI hm
      rw [WL_succ]
      exact step σ h hI _ fun σ' h' hI' hlt => ih σ' h' hI' (by omega)
  exact ⟨_, key _ σ h h0 (Nat.lt_succ_self _)⟩
end
end Vd
namespace Vd
open PySem
section
variable {h : Hd} {R : Bool → Prop} {xs ys : List D}
@[simp] theorem c_eq_tup : cmpW .eq (.tup xs) (.tup ys) h R = (pl 16 (.tup xs) = true ∧ pl 16 (.tup ys) = true ∧ R (deqs xs ys)) := by
  show (pl 16 (.tup xs) = true ∧ pl 16 (.tup ys) = true ∧ R (deq (.tup xs) (.tup ys))) = _
  rw [deq]
@[simp] theorem c_ne_tup : cmpW .ne (.tup xs) (.tup ys) h R = (pl 16 (.tup xs) = true ∧ pl 16 (.tup ys) = true ∧ R (!deqs xs ys)) := by
  show (pl 16 (.tup xs) = true ∧ pl 16 (.tup ys) = true ∧ R (!deq (.tup xs) (.tup ys))) = _
  rw [deq]
@[simp] theorem c_eq_vl : cmpW .eq (.vl xs) (.vl ys) h R = (pl 16 (.vl xs) = true ∧ pl 16 (.vl ys) = true ∧ R (deqs xs ys)) := by
  show (pl 16 (.vl xs) = true ∧ pl 16 (.vl ys) = true ∧ R (deq (.vl xs) (.vl ys))) = _
  rw [deq]
@[simp] theorem c_ne_vl : cmpW .ne (.vl xs) (.vl ys) h R = (pl 16 (.vl xs) = true ∧ pl 16 (.vl ys) = true ∧ R (!deqs xs ys)) := by
  show (pl 16 (.vl xs) = true ∧ pl 16 (.vl ys) = true ∧ R (!deq (.vl xs) (.vl ys))) = _
  rw [deq]
@[simp] theorem c_ne_nn : cmpW .ne .non .non h R = R false := by
  show (pl 16 .non = true ∧ pl 16 .non = true ∧ R (!deq .non .non)) = _
  simp [pl, deq]
@[simp] theorem c_eq_nn : cmpW .eq .non .non h R = R true := by
  show (pl 16 .non = true ∧ pl 16 .non = true ∧ R (deq .non .non)) = _
  simp [pl, deq]
end
@[simp] theorem deqs_nil : deqs [] [] = true := by rw [deqs]
@[simp] theorem deqs_cons (a b : D) (as bs : List D) : deqs (a :: as) (b :: bs) = (deq a b && deqs as bs) := by rw [deqs]
@[simp] theorem deqs_nilc (b : D) (bs : List D) : deqs [] (b :: bs) = false := by rw [deqs] <;> simp
@[simp] theorem deqs_cnil (b : D) (bs : List D) : deqs (b :: bs) [] = false := by rw [deqs] <;> simp
@[simp] theorem deq_int (a b : Int) : deq (.int a) (.int b) = decide (a = b) := by rw [deq]; by_cases h : a = b <;> simp [h]
@[simp] theorem deq_bl (a b : Bool) : deq (.bl a) (.bl b) = (a == b) := by rw [deq]
@[simp] theorem deq_tup (xs ys : List D) : deq (.tup xs) (.tup ys) = deqs xs ys := by rw [deq]
@[simp] theorem deq_vl (xs ys : List D) : deq (.vl xs) (.vl ys) = deqs xs ys := by rw [deq]
@[simp] theorem deq_nn : deq .non .non = true := by rw [deq]
@[simp] theorem pl_int (k : Nat) (i : Int) : pl k (.int i) = true := by cases k <;> rfl
@[simp] theorem pl_bl (k : Nat) (i : Bool) : pl k (.bl i) = true := by cases k <;> rfl
@[simp] theorem pl_non (k : Nat) : pl k .non = true := by cases k <;> rfl
@[simp] theorem pl_16 (xs : List D) : pl 16 (.tup xs) = xs.all (pl 15) := rfl
@[simp] theorem pl_15 (xs : List D) : pl 15 (.tup xs) = xs.all (pl 14) := rfl
@[simp] theorem pl_14 (xs : List D) : pl 14 (.tup xs) = xs.all (pl 13) := rfl
@[simp] theorem pl_16v (xs : List D) : pl 16 (.vl xs) = xs.all (pl 15) := rfl
@[simp] theorem pl_15v (xs : List D) : pl 15 (.vl xs) = xs.all (pl 14) := rfl
@[simp] theorem pl_14v (xs : List D) : pl 14 (.vl xs) = xs.all (pl 13) := rfl
@[simp] theorem rngN_lit3 : rngN 0 3 = [.int 0, .int 1, .int 2] := rfl
@[simp] theorem rngN_lit4 : rngN 0 4 = [.int 0, .int 1, .int 2, .int 3] := rfl
@[simp] theorem rngN_lit6 : rngN 0 6 = [.int 0, .int 1, .int 2, .int 3, .int 4, .int 5] := rfl
@[simp] theorem rngN_lit8 : rngN 0 8 = [.int 0, .int 1, .int 2, .int 3, .int 4, .int 5, .int 6, .int 7] := rfl
theorem rg3_big {i j c : Int} (hc : 0 < c ∧ c < 1073741824) : Rg3 i j c (Builtin.Range.rangeSize i j c).toNat := by
  have hn : 0 ≤ Builtin.Range.rangeSize i j c := by
    unfold Builtin.Range.rangeSize
    rw [if_pos hc.1]
    split
    · have h1 := Int.ediv_nonneg (show 0 ≤ j - i - 1 by omega) (show 0 ≤ c by omega)
      omega
    · omega
  exact ⟨by omega, by omega, by omega⟩
theorem rg3_pos {i j c : Int} (hi : -1152921504606846976 < i ∧ i < 1152921504606846976) (hj : -1152921504606846976 < j ∧ j < 1152921504606846976) (hc : 0 < c ∧ c < 1073741824) : Rg3 i j c (Builtin.Range.rangeSize i j c).toNat := rg3_big hc
theorem rgSize_lt {i j c : Int} (hc : 0 < c) {k : Nat} (h : k < (Builtin.Range.rangeSize i j c).toNat) : i + k * c < j := by
  unfold Builtin.Range.rangeSize at h
  rw [if_pos hc] at h
  split at h
  · have h1 : (k : Int) ≤ (j - i - 1) / c := by omega
    have h2 := Int.mul_le_mul_of_nonneg_right h1 (show 0 ≤ c by omega)
    have h3 := Int.ediv_mul_le (j - i - 1) (show c ≠ 0 by omega)
    omega
  · omega
section
variable {G : Gam} {t : Tg} {b : Ss} {X : XS} {K : Vd.Ends} {stay : Hd → Prop}
theorem FL_rngC (I : Nat → DSt → Hd → Prop) {lo hi c : Int} (hc : 0 < c) {σ : DSt} {h : Hd} (h0 : I 0 σ h) (hst : ∀ h, stay h)
    (step : ∀ (k : Nat) σ h, lo + (k : Int) * c < hi → I k σ h → ∀ Kn : DSt → Hd → Prop, (∀ σ' h', I (k + 1) σ' h' → Kn σ' h') → tgW t (.int (lo + (k : Int) * c)) σ h fun σ' => wpSs G b σ' h { K with nx := Kn, ct := Kn, bk := K.nx } X)
    (fin : ∀ σ h, I (Builtin.Range.rangeSize lo hi c).toNat σ h → K.nx σ h) : FL G t b X stay (rngC lo c (Builtin.Range.rangeSize lo hi c).toNat) σ h K := by
  have hl : ∀ n, (rngC lo c n).length = n := by intro n; unfold rngC; simp
  refine FL_list I h0 (fun _ _ h _ _ => hst h) (fun k x σ h hx hk hI Kn hKn => ?_) (by rw [hl]; exact fin)
  rw [hl] at hk
  have ex : x = .int (lo + (k : Int) * c) := by
    unfold rngC at hx
    simp [hk] at hx
    exact hx.symm
  subst ex
  exact step k σ h (rgSize_lt hc hk) hI Kn hKn
end
end Vd
namespace Vd
open PySem
section
variable {G : Gam} {elt : E} {tg : Tg} {cond : Oe} {vs : List Nat} {σ : DSt} {stay : Hd → Prop} {h : Hd} {Q : List D → Hd → Prop}
/-- a comprehension, by what holds of what is gathered -/
theorem CL_ind (I : Nat → List D → Prop) {xs : List D} (h0 : I 0 []) (hst : stay h) (hl : xs.length ≤ 16777216)
    (step : ∀ k x acc, xs[k]? = some x → k < xs.length → I k acc → ∀ (Ka : D → Hd → Prop) (Ks : Hd → Prop), (∀ y, I (k + 1) (acc ++ [y]) → Ka y h) → (I (k + 1) acc → Ks h) →
      tgW tg x (Vd.wipe σ vs) h fun σ2 => wpC G cond σ2 h (fun b h3 => if b = true then wpE G elt σ2 h3 Ka (fun _ _ => False) else Ks h3) (fun _ _ => False))
    (fin : ∀ acc, I xs.length acc → acc.length ≤ xs.length → Q acc h) : CL G elt tg cond vs σ stay xs [] h Q := by
  have key : ∀ (m k : Nat) (acc : List D), k + m = xs.length → acc.length ≤ k → I k acc → CL G elt tg cond vs σ stay (xs.drop k) acc h Q := by
    intro m
    induction m with
    | zero =>
      intro k acc hk hc hI
      have hk : k = xs.length := by omega
      subst hk
      rw [List.drop_length, CL_nil]
      exact ⟨hst, fin acc hI hc⟩
    | succ m ih =>
      intro k acc hk hc hI
      have hlt : k < xs.length := by omega
      rw [List.drop_eq_getElem_cons hlt, CL_cons]
      refine ⟨hst, step k _ acc (List.getElem?_eq_getElem hlt) hlt hI (fun y h4 => acc.length < sizeLine ∧ CL G elt tg cond vs σ stay (xs.drop (k + 1)) (acc ++ [y]) h4 Q) (fun h3 => CL G elt tg cond vs σ stay (xs.drop (k + 1)) acc h3 Q) (fun y hy => ⟨?_, ih (k + 1) _ (by omega) (by simp; omega) hy⟩) fun hy => ih (k + 1) _ (by omega) (by omega) hy⟩
      rw [line_eq]; omega
  have := key xs.length 0 [] (by omega) (by simp) h0
  rwa [List.drop_zero] at this
/-- the same where every thing gives just one -/
theorem CL_each (f : D → D → Prop) {xs : List D} (hst : stay h) (hl : xs.length ≤ 16777216)
    (step : ∀ k x, xs[k]? = some x → k < xs.length → ∀ (Ka : D → Hd → Prop), (∀ y, f x y → Ka y h) →
      tgW tg x (Vd.wipe σ vs) h fun σ2 => wpE G elt σ2 h Ka (fun _ _ => False))
    (fin : ∀ ys : List D, ys.length = xs.length → (∀ (k : Nat) (x y : D), xs[k]? = some x → ys[k]? = some y → f x y) → Q ys h) : CL G elt tg .none vs σ stay xs [] h Q := by
  refine CL_ind (fun k acc => acc.length = k ∧ ∀ (j : Nat) (x y : D), xs[j]? = some x → acc[j]? = some y → f x y) ⟨rfl, fun j x y _ e => by simp at e⟩ hst hl (fun k x acc hx hk hI Ka Ks ha hs => ?_) fun acc hI _ => fin acc hI.1 hI.2
  refine step k x hx hk Ka fun y hy => ha y ⟨by simp [hI.1], fun j x' y' e1 e2 => ?_⟩
  rw [List.getElem?_append] at e2
  split at e2
  · exact hI.2 j x' y' e1 e2
  · rename_i hj
    have hj2 : j = k := by
      have := hI.1
      have h3 : j - acc.length < 1 := by
        have := (List.getElem?_eq_some_iff.mp e2).1
        simpa using this
      omega
    subst hj2
    rw [hI.1] at e2
    simp at e2
    subst e2
    rw [hx] at e1
    cases e1
    exact hy
end
end Vd
namespace Vd
@[simp] theorem rd2_vl (h : Hd) (a b : List D) : rd2 h (.vl a) (.vl b) = some (a, b) := by simp [rd2, rdL]
end Vd
namespace Vd
open PySem
@[simp] theorem intsD_nil : intsD [] = some [] := rfl
@[simp] theorem intsD_cons (i : Int) (r : List D) : intsD (.int i :: r) = (intsD r).map (i :: ·) := rfl
@[simp] theorem blsD_nil : blsD [] = some [] := rfl
@[simp] theorem blsD_cons (i : Bool) (r : List D) : blsD (.bl i :: r) = (blsD r).map (i :: ·) := rfl
theorem intsD_map (ns : List Int) : intsD (ns.map D.int) = some ns := by
  induction ns with
  | nil => rfl
  | cons n ns ih => rw [List.map_cons, intsD_cons, ih]; rfl
theorem blsD_map (ns : List Bool) : blsD (ns.map D.bl) = some ns := by
  induction ns with
  | nil => rfl
  | cons n ns ih => rw [List.map_cons, blsD_cons, ih]; rfl
section
variable {m : Bool} {xs : List D} {h : Hd} {Q : DK}
@[simp] theorem bi_sum : biW m "sum" [.vl xs] h Q = ∃ ns, intsD xs = some ns ∧ Q (.int ns.sum) h := by
  show (∃ ys ns, rdL h (.vl xs) = some ys ∧ intsD ys = some ns ∧ _) = _
  simp
@[simp] theorem bi_any : biW m "any" [.vl xs] h Q = ∃ bs, blsD xs = some bs ∧ Q (.bl (bs.any id)) h := by
  show (∃ ys ns, rdL h (.vl xs) = some ys ∧ blsD ys = some ns ∧ _) = _
  simp
@[simp] theorem bi_all : biW m "all" [.vl xs] h Q = ∃ bs, blsD xs = some bs ∧ Q (.bl (bs.all id)) h := by
  show (∃ ys ns, rdL h (.vl xs) = some ys ∧ blsD ys = some ns ∧ _) = _
  simp
end
end Vd

set_option Elab.async false
set_option linter.all false
set_option maxRecDepth 100000
namespace Vd
open PySem
/-! down: slots 0 one -/
/-! up: slots 0 one -/
noncomputable def c_up : Fn := ⟨1, ["one"], (
  .cons (.ret (.neg (.bin false .fdiv (.neg (.idx (.var 0) (.int 0))) (.idx (.var 0) (.int 1))))) <| .nil)⟩
/-! _law_far: slots 0 cell -/
/-! _law_common: slots 0 one 1 other 2 rest -/
/-! _law_fraction: slots 0 cell 1 other 2 top 3 bottom 4 part -/
/-! _law_whole: slots 0 found -/
/-! fraction: slots 0 top 1 bottom 2 one 3 other -/
noncomputable def l1_fraction : Ss := (
  .cons (.par 2 3 (.var 3) (.bin false .mod (.var 2) (.var 3))) <| .nil)
noncomputable def c_fraction : Fn := ⟨4, ["top", "bottom"], (
  .cons (.set (.nm 2) (.bi "abs" false (.cons (.var 0) .nil))) <| 
  .cons (.set (.nm 3) (.bi "abs" false (.cons (.var 1) .nil))) <| 
  .cons (.whl (.cmp .gt (.var 3) (.int 0)) l1_fraction) <| 
  .cons (.ite (.cmp .lt (.var 1) (.int 0)) (
    .cons (.set (.nm 2) (.neg (.var 2))) <| .nil) .nil) <| 
  .cons (.ret (.tup (.cons (.bin false .fdiv (.var 0) (.var 2)) (.cons (.bin false .fdiv (.var 1) (.var 2)) .nil)))) <| .nil)⟩
/-! _law_is_fraction: slots 0 found 1 number -/
/-! ### the greatest common divisor -/
theorem abs_nat (x : Int) : (if x < 0 then -x else x) = (x.natAbs : Int) := by omega
theorem fmod_nat (a b : Nat) : (a : Int).fmod b = ((a % b : Nat) : Int) := by
  rw [Int.fmod_eq_emod_of_nonneg _ (by omega)]; rfl
theorem frac_loop {G : Gam} {X h K} {t b' : Option D} : ∀ (k a b : Nat), b < k → (K.nx [t, b', some (.int (Nat.gcd a b)), some (.int 0)] h) →
    WL G (.cmp .gt (.var 3) (.int 0)) l1_fraction X k [t, b', some (.int a), some (.int b)] h K
  | 0, _, _, h, _ => absurd h (by omega)
  | k + 1, a, b, hk, q => by
    rw [WL_succ]
    simp [l1_fraction]
    by_cases hb : b = 0
    · subst hb
      simpa using q
    · rw [if_pos (by omega)]
      refine ⟨hb, ?_⟩
      rw [fmod_nat]
      refine frac_loop k b (a % b) (by have := Nat.mod_lt a (show 0 < b by omega); omega) ?_
      have e : Nat.gcd b (a % b) = Nat.gcd a b := by
        rw [Nat.gcd_comm a b, Nat.gcd_rec b a, Nat.gcd_comm]
      rw [e]
      exact q
/-- a fraction in its least form -/
noncomputable def frD (a b : Int) : D := .tup [.int a, .int b]
@[simp] theorem frD_eq (a b : Int) : frD a b = .tup [.int a, .int b] := rfl
/-- the least form -/
noncomputable def frT (t b : Int) : Int := if b < 0 then -t / Int.gcd t b else t / Int.gcd t b
noncomputable def frB (t b : Int) : Int := b.natAbs / Int.gcd t b
theorem gcd_pos {t b : Int} (hb : b ≠ 0) : 0 < Int.gcd t b := Int.gcd_pos_of_ne_zero_right t hb
theorem fr_pos {t b : Int} (hb : b ≠ 0) : 0 < frB t b := by
  unfold frB
  have h1 := gcd_pos (t := t) hb
  have h2 : (Int.gcd t b : Int) ∣ b.natAbs := by
    have := Int.gcd_dvd_right (a := t) (b := b)
    exact Int.dvd_natAbs.mpr this
  exact Int.ediv_pos_of_pos_of_dvd (by omega) (by omega) h2
theorem fr_val {t b : Int} (hb : b ≠ 0) : frT t b * b = t * frB t b := by
  unfold frT frB
  have h1 := gcd_pos (t := t) hb
  obtain ⟨u, hu⟩ := Int.gcd_dvd_left (a := t) (b := b)
  obtain ⟨v, hv⟩ := Int.gcd_dvd_right (a := t) (b := b)
  generalize hg : (Int.gcd t b : Int) = g at *
  have hg0 : g ≠ 0 := by omega
  by_cases h : b < 0
  · rw [if_pos h]
    have e1 : -t / g = -u := by rw [hu, ← Int.mul_neg, Int.mul_ediv_cancel_left _ hg0]
    have e2 : (b.natAbs : Int) / g = -v := by
      have : (b.natAbs : Int) = g * -v := by rw [Int.mul_neg, ← hv]; omega
      rw [this, Int.mul_ediv_cancel_left _ hg0]
    rw [e1, e2, hu]
    conv => lhs; rw [hv]
    simp only [Int.neg_mul, Int.mul_neg]
    rw [Int.mul_left_comm, Int.mul_assoc]
  · rw [if_neg h]
    have e1 : t / g = u := by rw [hu, Int.mul_ediv_cancel_left _ hg0]
    have e2 : (b.natAbs : Int) / g = v := by
      have : (b.natAbs : Int) = g * v := by rw [← hv]; omega
      rw [this, Int.mul_ediv_cancel_left _ hg0]
    rw [e1, e2, hu]
    conv => lhs; rw [hv]
    rw [Int.mul_left_comm, Int.mul_assoc]
theorem fr_gcd {t b : Int} (hb : b ≠ 0) : Int.gcd (frT t b) (frB t b) = 1 := by
  have h1 := gcd_pos (t := t) hb
  have key := Int.gcd_ediv_gcd_ediv_gcd (i := t) (j := b) h1
  have hd1 := Int.gcd_dvd_left (a := t) (b := b)
  have hd2 := Int.gcd_dvd_right (a := t) (b := b)
  unfold frT frB
  by_cases h : b < 0
  · rw [if_pos h]
    have e1 : -t / (Int.gcd t b : Int) = -(t / (Int.gcd t b : Int)) := Int.neg_ediv_of_dvd hd1
    have e2 : (b.natAbs : Int) / (Int.gcd t b : Int) = -(b / (Int.gcd t b : Int)) := by
      rw [show (b.natAbs : Int) = -b by omega]
      exact Int.neg_ediv_of_dvd hd2
    rw [e1, e2, Int.gcd_neg, Int.neg_gcd]
    exact key
  · rw [if_neg h, show (b.natAbs : Int) = b by omega]
    exact key
theorem fraction_ok {P n} (hf : P.fns "fraction" = some c_fraction) (t b : Int) (hb : b ≠ 0) {k : Nat} [hs : Sm b k] (hk : k ≤ 8900) {h Q X} (q : Q (frD (frT t b) (frB t b)) h) : (Gn P (n+1)).fn "fraction" [.int t, .int b] h Q X := by
  refine ⟨_, hf, rfl, ?_⟩
  simp [c_fraction, abs_nat]
  refine ⟨_, frac_loop (b.natAbs + 1) _ _ (by omega) ?_⟩
  have h1 := gcd_pos (t := t) hb
  have hg : (Int.gcd t b) ≤ b.natAbs := Nat.le_of_dvd (by omega) (Nat.gcd_dvd_right _ _)
  have hsg : Sm (Int.gcd t b : Int) k := ⟨by have := hs.lt; omega⟩
  have hgg : (Nat.gcd t.natAbs b.natAbs : Int) = (Int.gcd t b : Int) := rfl
  simp only [hgg]
  have hd1 := Int.gcd_dvd_left (a := t) (b := b)
  have hd2 := Int.gcd_dvd_right (a := t) (b := b)
  by_cases hlt : b < 0
  · simp [hlt]
    have d1 : DivOk (-(Int.gcd t b : Int)) := div_ok (b := k) (by omega) (by omega)
    refine ⟨d1, .raw ?_⟩
    obtain ⟨u, hu⟩ := hd1
    obtain ⟨v, hv⟩ := hd2
    have g0 : (Int.gcd t b : Int) ≠ 0 := by omega
    have e1 : t.fdiv (-(Int.gcd t b : Int)) = frT t b := by
      unfold frT
      rw [if_pos hlt]
      have : -t = (Int.gcd t b : Int) * -u := by rw [Int.mul_neg, ← hu]
      rw [this, Int.mul_ediv_cancel_left _ g0]
      have h2 : t = -(Int.gcd t b : Int) * -u := by rw [Int.neg_mul_neg, ← hu]
      conv => lhs; arg 1; rw [h2]
      exact Int.mul_fdiv_cancel_left _ (by omega)
    have e2 : b.fdiv (-(Int.gcd t b : Int)) = frB t b := by
      unfold frB
      have : (b.natAbs : Int) = (Int.gcd t b : Int) * -v := by rw [Int.mul_neg, ← hv]; omega
      rw [this, Int.mul_ediv_cancel_left _ g0]
      have h2 : b = -(Int.gcd t b : Int) * -v := by rw [Int.neg_mul_neg, ← hv]
      conv => lhs; arg 1; rw [h2]
      exact Int.mul_fdiv_cancel_left _ (by omega)
    rw [e1, e2]
    exact q
  · simp [hlt]
    have d1 : DivOk (Int.gcd t b : Int) := div_ok (b := k) (by omega) (by omega)
    refine ⟨d1, .raw ?_⟩
    rw [Int.fdiv_eq_ediv_of_nonneg _ (by omega), Int.fdiv_eq_ediv_of_nonneg _ (by omega)]
    have : frT t b = t / (Int.gcd t b : Int) := by unfold frT; rw [if_neg hlt]
    have e2 : frB t b = b / (Int.gcd t b : Int) := by unfold frB; rw [show (b.natAbs : Int) = b by omega]
    simpa [frD, this, e2] using q
theorem up_ok {P n} (hf : P.fns "up" = some c_up) (a b : Int) (hb : 0 < b) {k : Nat} [Sm b k] (hk : k ≤ 8900) {h Q X} (q : Q (.int (-(-a / b))) h) : (Gn P (n+1)).fn "up" [.tup [.int a, .int b]] h Q X := by
  refine ⟨_, hf, rfl, ?_⟩
  simp [c_up]
  refine ⟨div_ok (b := k) (by omega) (by omega), .raw ?_⟩
  rw [Int.fdiv_eq_ediv_of_nonneg _ (by omega)]; exact q
/-- a fraction's two numbers -/
structure Fr (a b : Int) (k : Nat) : Prop where
  pos : 0 < b
  gcd : Int.gcd a b = 1
  sa : Sm a k
  sb : Sm b k
theorem fr_of {t b : Int} (hb : b ≠ 0) {k : Nat} (ht : Sm t k) (hs : Sm b k) : Fr (frT t b) (frB t b) k := by
  refine ⟨fr_pos hb, fr_gcd hb, ⟨?_⟩, ⟨?_⟩⟩
  · have h1 := gcd_pos (t := t) hb
    have h2 : (frT t b).natAbs ≤ t.natAbs := by
      unfold frT
      split
      · have := natAbs_ediv (-t) (Int.gcd t b) (by omega)
        rw [Int.natAbs_neg] at this; exact this
      · exact natAbs_ediv t (Int.gcd t b) (by omega)
    exact Nat.lt_of_le_of_lt h2 ht.lt
  · have h1 := gcd_pos (t := t) hb
    have h2 := natAbs_ediv b.natAbs (Int.gcd t b) (by omega)
    exact Nat.lt_of_le_of_lt (show (frB t b).natAbs ≤ b.natAbs by unfold frB; simpa using h2) hs.lt
theorem frac_q {P n} (hf : P.fns "fraction" = some c_fraction) (t b : Int) (hb : b ≠ 0) {k j : Nat} [ht : Sm t k] [hs : Sm b j] {m : Nat} (hk : k ≤ m) (hj : j ≤ m) (hm : m ≤ 8900) {h Q X} (q : ∀ p r : Int, Fr p r m → p * b = t * r → Q (.tup [.int p, .int r]) h) : (Gn P (n+1)).fn "fraction" [.int t, .int b] h Q X :=
  fraction_ok hf t b hb (k := j) (by omega) (q _ _ (fr_of hb ⟨sm_le ht.lt (by omega)⟩ ⟨sm_le hs.lt (by omega)⟩) (fr_val hb))
end Vd

set_option Elab.async false
set_option linter.all false
set_option maxRecDepth 100000
namespace Vd
open PySem
/-! law: slots 0 script 1 cells 2 k 3 one 4 lower 5 upper -/
end Vd

set_option Elab.async false
set_option linter.all false
set_option maxRecDepth 100000
namespace Vd
open PySem
/-! law: slots 0 script 1 cells 2 k 3 top 4 bottom 5 found 6 more -/
end Vd

set_option Elab.async false
set_option linter.all false
set_option maxRecDepth 100000
namespace Vd
open PySem
/-! less: slots 0 one 1 other -/
noncomputable def c_less : Fn := ⟨2, ["one", "other"], (
  .cons (.ret (.cmp .lt (.bin false .mul (.idx (.var 0) (.int 0)) (.idx (.var 1) (.int 1))) (.bin false .mul (.idx (.var 1) (.int 0)) (.idx (.var 0) (.int 1))))) <| .nil)⟩
/-! plus: slots 0 one 1 other -/
/-! minus: slots 0 one 1 other -/
/-! times: slots 0 one 1 other -/
/-! _law_right: slots 0 one 1 other 2 bottom 3 dues 4 made 5 found 6 due -/
/-! side_of: slots 0 one 1 other 2 spot 3 gap -/
noncomputable def c_side_of : Fn := ⟨4, ["one", "other", "spot"], (
  .cons (.ite (.cmp .lt (.idx (.var 1) (.int 0)) (.idx (.var 0) (.int 0))) (
    .cons (.par 0 1 (.var 1) (.var 0)) <| .nil) .nil) <| 
  .cons (.set (.nm 3) (.bin false .sub (.bin false .mul (.bin false .sub (.idx (.var 2) (.int 1)) (.idx (.var 0) (.int 1))) (.bin false .sub (.idx (.var 1) (.int 0)) (.idx (.var 0) (.int 0)))) (.bin false .mul (.bin false .sub (.idx (.var 1) (.int 1)) (.idx (.var 0) (.int 1))) (.bin false .sub (.idx (.var 2) (.int 0)) (.idx (.var 0) (.int 0)))))) <| 
  .cons (.ret (.bin false .sub (.bi "int" false (.cons (.cmp .gt (.var 3) (.int 0)) .nil)) (.bi "int" false (.cons (.cmp .lt (.var 3) (.int 0)) .nil)))) <| .nil)⟩
/-! _law_spot: slots 0 cell 1 other -/
/-! _law_two: slots 0 some 1 one 2 other -/
/-! _law_third: slots 0 one 1 other 2 some 3 turns 4 wide 5 rise -/
/-! _law_side: slots 0 one 1 other 2 spot 3 wide 4 high 5 gap -/
/-! height_on: slots 0 one 1 other 2 place 3 wide 4 rise -/
noncomputable def c_height_on : Fn := ⟨5, ["one", "other", "place"], (
  .cons (.set (.nm 3) (.bin false .sub (.idx (.var 1) (.int 0)) (.idx (.var 0) (.int 0)))) <| 
  .cons (.set (.nm 4) (.bin false .sub (.idx (.var 1) (.int 1)) (.idx (.var 0) (.int 1)))) <| 
  .cons (.ret (.call "fraction" (.cons (.bin false .add (.bin false .mul (.bin false .mul (.idx (.var 0) (.int 1)) (.var 3)) (.idx (.var 2) (.int 1))) (.bin false .mul (.var 4) (.bin false .sub (.idx (.var 2) (.int 0)) (.bin false .mul (.idx (.var 0) (.int 0)) (.idx (.var 2) (.int 1)))))) (.cons (.bin false .mul (.var 3) (.idx (.var 2) (.int 1))) .nil)))) <| .nil)⟩
/-! crossing: slots 0 one 1 other 2 three 3 four 4 wide 5 rise 6 width 7 gain 8 bottom 9 top -/
/-! _law_second: slots 0 one 1 other 2 some 3 turns 4 moved_on 5 three -/
/-! _law_high: slots 0 one 1 other 2 place 3 wide 4 rise -/
/-! _law_sums: slots 0 a 1 b 2 c -/
/-! _law_order: slots 0 a 1 b 2 c 3 ways 4 way -/
/-! _law_cell: slots 0 script 1 k -/
noncomputable def c__law_cell : Fn := ⟨2, ["script", "k"], (
  .cons (.ite (.cmp .lt (.var 1) (.bi "len" false (.cons (.var 0) .nil))) (
    .cons (.ret (.idx (.var 0) (.var 1))) <| .nil) .nil) <| 
  .cons (.ret (.int 0)) <| .nil)⟩
/-! _law_thing: slots 0 cell 1 top 2 bottom -/
/-! _law_deed: slots 0 way 1 one 2 other -/
/-! _law_plain: slots 0 way 1 one 2 other 3 sign -/
theorem less_ok {P n} (hf : P.fns "less" = some c_less) {a b c d : Int} {ka kb kc kd : Nat} [Sm a ka] [Sm b kb] [Sm c kc] [Sm d kd] (h1 : ka + kd ≤ 9000) (h2 : kc + kb ≤ 9000) {h Q X} (q : Q (.bl (decide (a * d < c * b))) h) : (Gn P (n+1)).fn "less" [.tup [.int a, .int b], .tup [.int c, .int d]] h Q X := by
  refine ⟨_, hf, rfl, ?_⟩
  simp [c_less]
  exact ⟨mul_ok (by omega), mul_ok (by omega), .raw q⟩
end Vd

set_option Elab.async false
set_option linter.all false
set_option maxRecDepth 100000
namespace Vd
open PySem
/-! law: slots 0 script 1 cells 2 k 3 some 4 one 5 other 6 j -/
end Vd

set_option Elab.async false
set_option linter.all false
set_option maxRecDepth 100000
namespace Vd
open PySem
@[simp] theorem atI_4 {α : Type} (a b c d e : α) (xs : List α) : L2.atI (a :: b :: c :: d :: e :: xs) 4 = some e := by rw [atI_ge (by decide)]; rfl
@[simp] theorem atI_5 {α : Type} (a b c d e f : α) (xs : List α) : L2.atI (a :: b :: c :: d :: e :: f :: xs) 5 = some f := by rw [atI_ge (by decide)]; rfl
@[simp] theorem atI_6 {α : Type} (a b c d e f g : α) (xs : List α) : L2.atI (a :: b :: c :: d :: e :: f :: g :: xs) 6 = some g := by rw [atI_ge (by decide)]; rfl
@[simp] theorem atI_7 {α : Type} (a b c d e f g i : α) (xs : List α) : L2.atI (a :: b :: c :: d :: e :: f :: g :: i :: xs) 7 = some i := by rw [atI_ge (by decide)]; rfl
theorem cut_map {α β : Type} (f : α → β) (xs : List α) (lo hi : Option Int) : cut (xs.map f) lo hi = (cut xs lo hi).map f := by
  unfold cut
  rw [List.length_map, List.map_take, List.map_drop]
theorem cut_len {α : Type} (xs : List α) (lo hi : Option Int) : (cut xs lo hi).length ≤ xs.length := by
  unfold cut
  rw [List.length_take, List.length_drop]
  omega
@[simp] theorem sl_sv {m : Bool} {xs : List D} {lo hi : Option Int} {h : Hd} {Q : DK} : slcW m (.sv xs) lo hi h Q = mkL m (cut xs lo hi) h Q := by
  show (∃ ys, rdL h (.sv xs) = some ys ∧ mkL m (cut ys lo hi) h Q) = _
  simp only [rdL_sv, Option.some.injEq, exists_eq_left']
@[simp] theorem sl_vl {m : Bool} {xs : List D} {lo hi : Option Int} {h : Hd} {Q : DK} : slcW m (.vl xs) lo hi h Q = mkL m (cut xs lo hi) h Q := by
  show (∃ ys, rdL h (.vl xs) = some ys ∧ mkL m (cut ys lo hi) h Q) = _
  simp only [rdL_vl, Option.some.injEq, exists_eq_left']
@[simp] theorem sl_tup {m : Bool} {xs : List D} {lo hi : Option Int} {h : Hd} {Q : DK} : slcW m (.tup xs) lo hi h Q = Q (.tup (cut xs lo hi)) h := rfl
/-- what a fraction's two numbers tell -/
noncomputable def qv (a b : Int) : Rat := (a : Rat) / (b : Rat)
theorem cz {b : Int} (hb : b ≠ 0) : (b : Rat) ≠ 0 := by exact_mod_cast hb
theorem qv_of {p r t b : Int} (hr : r ≠ 0) (hb : b ≠ 0) (e : p * b = t * r) : qv p r = qv t b := by
  have e' : (p : Rat) * b = t * r := by exact_mod_cast e
  have h1 := cz hr
  have h2 := cz hb
  unfold qv
  grind
theorem qv_lt {a b c d : Int} (hb : 0 < b) (hd : 0 < d) : a * d < c * b ↔ qv a b < qv c d := by
  have hb' : (0 : Rat) < b := by exact_mod_cast hb
  have hd' : (0 : Rat) < d := by exact_mod_cast hd
  unfold qv
  rw [Rat.div_lt_iff hb']
  have e : (c : Rat) / d * b = (c * b) / d := by have := cz (Int.ne_of_gt hd); grind
  rw [e, Rat.lt_div_iff hd', ← Rat.intCast_mul, ← Rat.intCast_mul, Rat.intCast_lt_intCast]
end Vd

set_option Elab.async false
set_option linter.all false
set_option maxRecDepth 100000
namespace Vd
open PySem
/-! law: slots 0 script 1 cells 2 k 3 some 4 spot 5 found 6 due 7 below 8 one 9 other 10 j 11 part -/
/-! law: slots 0 script 1 cells 2 k 3 some 4 place 5 found 6 wide 7 rise 8 left 9 spot 10 one 11 other 12 j -/
/-! law: slots 0 script 1 cells 2 k 3 some 4 found 5 rises 6 one 7 other 8 three 9 four 10 first 11 second 12 j -/
/-- which side of a line -/
noncomputable def sideN (x y z w s t : Int) : Int := (((t - y) * (z - x) - (w - y) * (s - x)) * (z - x)).sign
theorem sideN_swap (x y z w s t : Int) : sideN z w x y s t = sideN x y z w s t := by
  unfold sideN
  congr 1
  grind
theorem sgn_ok (r : Int) : ((if 0 < r then (1 : Int) else 0) - if r < 0 then 1 else 0) = r.sign := by
  rcases Int.lt_trichotomy r 0 with h | h | h
  · rw [if_neg (by omega), if_pos h, Int.sign_eq_neg_one_of_neg h]; rfl
  · subst h; rfl
  · rw [if_pos h, if_neg (by omega), Int.sign_eq_one_of_pos h]; rfl
end Vd

set_option Elab.async false
set_option linter.all false
set_option maxRecDepth 100000
namespace Vd
open PySem
/-- the height of a line over a place -/
noncomputable def hv (x y z w : Int) (u : Rat) : Rat := y + (w - y) * (u - x) / (z - x)
theorem hv_swap (x y z w : Int) (hne : x ≠ z) (u : Rat) : hv z w x y u = hv x y z w u := by
  have h1 := cz (show z - x ≠ 0 by omega)
  rw [Rat.intCast_sub] at h1
  unfold hv
  grind
end Vd

set_option Elab.async false
set_option linter.all false
set_option maxRecDepth 100000
namespace Vd
open PySem
/-! holds: slots 0 spans 1 hour 2 low 3 high -/
/-! many: slots 0 spans 1 low 2 high -/
/-! _law_at: slots 0 script 1 k -/
/-! _law_mix: slots 0 cell 1 k 2 size 3 prime 4 base 5 mixed -/
/-! _law_folded: slots 0 script 1 first 2 most 3 numbers 4 k 5 kept -/
/-! _law_scale: slots 0 script -/
/-! _law_spans: slots 0 numbers 1 scale 2 told 3 low 4 cell 5 high -/
/-! _law_in: slots 0 spans 1 hour 2 low 3 high -/
/-! _law_shape: slots 0 found 1 k 2 number -/
/-! _law_edges: slots 0 some 1 told 2 low 3 high -/
/-! law: slots 0 script 1 scale 2 spans 3 hour 4 found 5 due 6 cell 7 pair -/
section
variable {m : Bool} {h t : Hd} {xs : List D} {Q : DK} {a : Ob} {d : D}
@[simp] theorem hn_get : (h ++ a :: t)[h.length]? = some a := by simp
@[simp] theorem hn_set {b : Ob} : (h ++ a :: t).set h.length b = h ++ b :: t := by simp
theorem hn_rdL : rdL (h ++ .lst xs :: t) (.ref h.length) = some xs := by simp [rdL]
theorem hn_rdS : rdS (h ++ .lst xs :: t) (.ref h.length) = some xs := by simp [rdS, rdL]
@[simp] theorem hn_len : biW m "len" [.ref h.length] (h ++ .lst xs :: t) Q = Q (.int xs.length) (h ++ .lst xs :: t) := by
  show (∃ ys, rdS (h ++ .lst xs :: t) (.ref h.length) = some ys ∧ _) = _
  rw [hn_rdS]; simp
@[simp] theorem hn_tuple : biW m "tuple" [.ref h.length] (h ++ .lst xs :: t) Q = Q (.tup xs) (h ++ .lst xs :: t) := by
  show (∃ ys, rdL (h ++ .lst xs :: t) (.ref h.length) = some ys ∧ _) = _
  rw [hn_rdL]; simp
@[simp] theorem hn_idx {i : Int} : idxW (.ref h.length) (.int i) (h ++ .lst xs :: t) Q = ∃ v, L2.atI xs i = some v ∧ Q v (h ++ .lst xs :: t) := by
  show (∃ ys d, rdS (h ++ .lst xs :: t) (.ref h.length) = some ys ∧ L2.atI ys i = some d ∧ _) = _
  rw [hn_rdS]; simp
@[simp] theorem hn_append : bmW "append" (.ref h.length) [d] (h ++ .lst xs :: t) Q = (xs.length < 16777216 ∧ Q .non (h ++ .lst (xs ++ [d]) :: t)) := by
  show (∃ ys, (h ++ .lst xs :: t)[h.length]? = some (.lst ys) ∧ ys.length < sizeLine ∧ Q .non _) = _
  rw [hn_get, line_eq]
  simp
@[simp] theorem hn_extend {ys : List D} : bmW "extend" (.ref h.length) [.vl ys] (h ++ .lst xs :: t) Q = (xs.length + ys.length ≤ 16777216 ∧ Q .non (h ++ .lst (xs ++ ys) :: t)) := by
  show (∃ zs ws, (h ++ .lst xs :: t)[h.length]? = some (.lst zs) ∧ rdE _ (.vl ys) = some ws ∧ zs.length + ws.length ≤ sizeLine ∧ Q .non _) = _
  rw [hn_get, line_eq]
  simp
@[simp] theorem hn_recA : recOk "append" (.ref h.length) (h ++ .lst xs :: t) = True := by
  show (∃ ys, rdL (h ++ .lst xs :: t) (.ref h.length) = some ys) = _
  rw [hn_rdL]; simp
@[simp] theorem hn_recE : recOk "extend" (.ref h.length) (h ++ .lst xs :: t) = True := by
  show (∃ ys, rdL (h ++ .lst xs :: t) (.ref h.length) = some ys) = _
  rw [hn_rdL]; simp
end
theorem fzs_ints {n : Nat} {h : Hd} : ∀ ns : List Int, Fzs n h (ns.map D.int) (ns.map D.int)
  | [] => .nil
  | x :: ns => .cons (.int x) (fzs_ints ns)
theorem fzs_pairs {n : Nat} {h : Hd} : ∀ ns : List (Int × Int), Fzs n h (ns.map pairD) (ns.map pairD)
  | [] => .nil
  | x :: ns => .cons (.tup (.cons (.int _) (.cons (.int _) .nil))) (fzs_pairs ns)
theorem fz_new {h : Hd} {xs ys : List D} (f : Fzs h.length (h ++ [.lst xs]) xs ys) : Fz h.length (h ++ [.lst xs]) (.ref h.length) (.vl ys) := .lst (Nat.le_refl _) hn_get f
/-- spans with gaps between them -/
noncomputable def Good (ps : List (Int × Int)) : Prop := ps.Pairwise (fun a b => a.2 + 2 ≤ b.1) ∧ ∀ p ∈ ps, p.1 ≤ p.2
end Vd

set_option Elab.async false
set_option linter.all false
set_option maxRecDepth 100000
namespace Vd
open PySem
theorem CL_fun {α : Type} {G : Gam} {elt : E} {tg : Tg} {vs : List Nat} {σ : DSt} {stay : Hd → Prop} {h : Hd} {Q : List D → Hd → Prop} (zs : List α) (g f : α → D) (hst : stay h) (hl : zs.length ≤ 16777216)
    (step : ∀ z, z ∈ zs → ∀ (Ka : D → Hd → Prop), Ka (f z) h → tgW tg (g z) (Vd.wipe σ vs) h fun σ2 => wpE G elt σ2 h Ka (fun _ _ => False))
    (fin : Q (zs.map f) h) : CL G elt tg .none vs σ stay (zs.map g) [] h Q := by
  refine CL_ind (fun k acc => acc = (zs.take k).map f) (by simp) hst (by rw [List.length_map]; exact hl) (fun k x acc hx hk hI Ka Ks ha hs => ?_) fun acc hI _ => ?_
  · rw [List.length_map] at hk
    rw [List.getElem?_map, List.getElem?_eq_getElem hk] at hx
    cases hx
    refine step _ (List.getElem_mem hk) Ka (ha _ ?_)
    rw [hI, List.take_succ, List.map_append, List.getElem?_eq_getElem hk]; rfl
  · rw [List.length_map, List.take_length] at hI
    rw [hI]; exact fin
noncomputable def inB (ps : List (Int × Int)) (x : Int) : Bool := ps.any fun p => decide (p.1 ≤ x) && decide (x ≤ p.2)
end Vd

set_option Elab.async false
set_option linter.all false
set_option maxRecDepth 100000
namespace Vd
open PySem
/-! tidy: slots 0 pairs 1 told 2 low 3 high 4 pair -/
/-! _law_pairs: slots 0 numbers 1 scale 2 told 3 cell 4 low 5 high -/
/-! law: slots 0 script 1 pairs 2 handed 3 found 4 hour -/
theorem ixN_last (n : Nat) : L2.ixN (n + 1) (-1) = some n := by
  unfold L2.ixN
  rw [if_neg (by decide), if_pos (by omega)]
  congr 1
  omega
theorem atI_last5 {α : Type} (xs : List α) (x : α) : L2.atI (xs ++ [x]) (-1) = some x := by
  unfold L2.atI
  rw [List.length_append, List.length_singleton, ixN_last]
  simp
theorem CL_sel {α : Type} {G : Gam} {elt : E} {tg : Tg} {cond : Oe} {vs : List Nat} {σ : DSt} {stay : Hd → Prop} {h : Hd} {Q : List D → Hd → Prop} (zs : List α) (g f : α → D) (keep : α → Bool) (hst : stay h) (hl : zs.length ≤ 16777216)
    (step : ∀ z, z ∈ zs → ∀ (Ka : D → Hd → Prop) (Ks : Hd → Prop), (keep z = true → Ka (f z) h) → (keep z = false → Ks h) →
      tgW tg (g z) (Vd.wipe σ vs) h fun σ2 => wpC G cond σ2 h (fun b h3 => if b = true then wpE G elt σ2 h3 Ka (fun _ _ => False) else Ks h3) (fun _ _ => False))
    (fin : Q ((zs.filter keep).map f) h) : CL G elt tg cond vs σ stay (zs.map g) [] h Q := by
  refine CL_ind (fun k acc => acc = ((zs.take k).filter keep).map f) (by simp) hst (by rw [List.length_map]; exact hl) (fun k x acc hx hk hI Ka Ks ha hs => ?_) fun acc hI _ => ?_
  · rw [List.length_map] at hk
    rw [List.getElem?_map, List.getElem?_eq_getElem hk] at hx
    cases hx
    have e : zs.take (k + 1) = zs.take k ++ [zs[k]] := by rw [List.take_succ, List.getElem?_eq_getElem hk]; rfl
    refine step _ (List.getElem_mem hk) Ka Ks (fun hz => ha _ ?_) (fun hz => hs ?_)
    · rw [e, List.filter_append, List.map_append, hI]; simp [hz]
    · rw [e, List.filter_append, List.map_append, hI]; simp [hz]
  · rw [List.length_map, List.take_length] at hI
    rw [hI]; exact fin
/-- what has been put together so far -/
structure Tid (qs ts : List (Int × Int)) (k : Nat) : Prop where
  good : Good ts
  same : ∀ x, inB ts x = inB (qs.take k) x
  low : ∀ t ∈ ts, ∀ q ∈ qs.drop k, t.1 ≤ q.1
  len : ts.length ≤ k
theorem pairsD_map : ∀ ps : List (Int × Int), pairsD (ps.map pairD) = some ps
  | [] => rfl
  | p :: ps => by
    show (pairsD (ps.map pairD)).map ((p.1, p.2) :: ·) = _
    rw [pairsD_map ps]; rfl
end Vd

set_option Elab.async false
set_option linter.all false
set_option maxRecDepth 100000
/-! k28: first_from, last_to -/
namespace Vd
open PySem
/-! first_from: slots 0 spans 1 hour 2 low 3 high -/
/-! last_to: slots 0 spans 1 hour 2 low 3 high -/
/-! _law_is: slots 0 found 1 due -/
/-! law: slots 0 script 1 scale 2 spans 3 hour 4 later 5 sooner 6 cell 7 low 8 high -/
end Vd

set_option Elab.async false
set_option linter.all false
set_option maxRecDepth 100000
namespace Vd
open PySem
/-! _law_mixed: slots 0 cell 1 k 2 stir -/
noncomputable def c__law_mixed : Fn := ⟨3, ["cell", "k"], (
  .cons (.set (.nm 2) (.bin false .mod (.bin false .mul (.bin false .add (.bin false .add (.bin false .mod (.var 0) (.int 1000000007)) (.bin false .mul (.int 7919) (.var 1))) (.int 1)) (.int 48271)) (.int 2147483647))) <| 
  .cons (.ret (.bin false .mod (.bin false .mul (.var 2) (.var 2)) (.int 2147483629))) <| .nil)⟩
/-! _law_cells: slots 0 script 1 start 2 most 3 told 4 k -/
noncomputable def l1__law_cells : Ss := (
  .cons (.sub (.var 3) (.bin false .mod (.var 4) (.var 2)) (.bin false .add (.bin false .mul (.idx (.var 3) (.bin false .mod (.var 4) (.var 2))) (.int 10007)) (.idx (.var 0) (.var 4)))) <| .nil)
noncomputable def l2__law_cells : Ss := (
  .cons (.ex (.bm "append" (.var 3) (.cons (.bin false .add (.int 14) (.bi "len" false (.cons (.var 3) .nil))) .nil))) <| .nil)
noncomputable def c__law_cells : Fn := ⟨5, ["script", "start", "most"], (
  .cons (.set (.nm 3) (.bi "list" true (.cons (.slc false (.var 0) (.some (.var 1)) (.some (.bin false .add (.var 1) (.var 2)))) .nil))) <| 
  .cons (.fr (.nm 4) (.rng2 (.bin false .add (.var 1) (.var 2)) (.bi "len" false (.cons (.var 0) .nil))) l1__law_cells) <| 
  .cons (.whl (.cmp .lt (.bi "len" false (.cons (.var 3) .nil)) (.int 3)) l2__law_cells) <| 
  .cons (.ret (.var 3)) <| .nil)⟩
/-! _law_corners: slots 0 cells 1 first 2 far 3 x 4 told 5 k 6 m 7 z 8 wide -/
noncomputable def l1__law_corners : Ss := (
  .cons (.ex (.bm "append" (.var 4) (.cons (.tup (.cons (.var 3) (.cons (.var 7) .nil))) .nil))) <| 
  .cons (.set (.nm 3) (.bin false .add (.var 3) (.var 8))) <| .nil)
noncomputable def l2__law_corners : Ss := (
  .cons (.set (.nm 6) (.call "_law_mixed" (.cons (.idx (.var 0) (.var 5)) (.cons (.var 5) .nil)))) <| 
  .cons (.set (.nm 7) (.idx (.lst false (.cons (.bin false .mod (.bin false .fdiv (.var 6) (.int 8)) (.int 7)) (.cons (.bin false .sub (.bin false .mod (.bin false .fdiv (.var 6) (.int 8)) (.int 41)) (.int 20)) (.cons (.ife (.cmp .gt (.bi "len" false (.cons (.var 4) .nil)) (.int 0)) (.idx (.idx (.var 4) (.neg (.int 1))) (.int 1)) (.int 0)) .nil)))) (.bin false .mod (.bin false .fdiv (.var 6) (.int 400)) (.int 3)))) <| 
  .cons (.set (.nm 8) (.bin false .add (.int 1) (.bin false .mod (.bin false .fdiv (.var 6) (.int 1200)) (.int 5)))) <| 
  .cons (.ite (.var 2) (
    .cons (.set (.nm 7) (.bin false .add (.var 7) (.bin false .mul (.bin false .mod (.bin false .fdiv (.idx (.var 0) (.var 5)) (.int 5)) (.bin false .pow (.int 10) (.int 48))) (.bin false .mod (.bin false .fdiv (.var 6) (.int 6000)) (.int 2))))) <| 
    .cons (.set (.nm 8) (.bin false .add (.var 8) (.bin false .mul (.bin false .mod (.bin false .fdiv (.idx (.var 0) (.var 5)) (.int 7)) (.bin false .pow (.int 10) (.int 47))) (.bin false .mod (.bin false .fdiv (.var 6) (.int 12000)) (.int 2))))) <| .nil) .nil) <| l1__law_corners)
noncomputable def l3__law_corners : Ss := (
  .cons (.set (.nm 4) (.lst true .nil)) <| 
  .cons (.fr (.nm 5) (.rng1 (.bi "len" false (.cons (.var 0) .nil))) l2__law_corners) <| 
  .cons (.ret (.var 4)) <| .nil)
noncomputable def c__law_corners : Fn := ⟨9, ["cells"], (
  .cons (.set (.nm 1) (.idx (.var 0) (.int 0))) <| 
  .cons (.set (.nm 2) (.cmp .eq (.bin false .mod (.var 1) (.int 3)) (.int 1))) <| 
  .cons (.set (.nm 3) (.bin false .sub (.bin false .mod (.bin false .fdiv (.var 1) (.int 3)) (.int 41)) (.int 20))) <| 
  .cons (.ite (.var 2) (
    .cons (.set (.nm 3) (.bin false .sub (.bin false .mod (.bin false .fdiv (.var 1) (.int 3)) (.bin false .mul (.int 2) (.bin false .pow (.int 10) (.int 49)))) (.bin false .pow (.int 10) (.int 49)))) <| .nil) .nil) <| l3__law_corners)⟩
theorem mixed_ok {P n} (hf : P.fns "_law_mixed" = some c__law_mixed) (c k : Int) (hk : 0 ≤ k ∧ k ≤ 1000) {h Q X} (q : ∀ x : Int, 0 ≤ x → x < 2147483629 → Q (.int x) h) : (Gn P (n+1)).fn "_law_mixed" [.int c, .int k] h Q X := by
  refine ⟨_, hf, rfl, ?_⟩
  simp [c__law_mixed]
  refine ⟨mul_okR (by omega) (by omega), mul_okR (by decide) (by decide), mul_okL (by omega) (by omega), .raw (q _ (by omega) (by omega))⟩
theorem cut_mid {α : Type} (xs : List α) (i j : Nat) : cut xs (some (i : Int)) (some (j : Int)) = (xs.drop i).take (j - i) := by
  unfold cut
  rw [HT.sIx_nat, HT.sIx_nat]
  apply List.ext_getElem?
  intro k
  rw [List.getElem?_take, List.getElem?_take, List.getElem?_drop, List.getElem?_drop]
  by_cases h1 : k < j - i
  · rw [if_pos h1]
    by_cases h2 : i + k < xs.length
    · rw [if_pos (by omega), Nat.min_eq_left (by omega)]
    · rw [List.getElem?_eq_none (show xs.length ≤ i + k by omega)]
      split
      · omega
      · rfl
  · rw [if_neg h1, if_neg (by omega)]
theorem cut_lastG {α : Type} (xs : List α) : cut xs none (some (-1)) = xs.dropLast := by
  unfold cut
  have e1 : HT.sIx xs.length 0 none = 0 := rfl
  have e2 : HT.sIx xs.length xs.length (some (-1)) = xs.length - 1 := by
    show (if (-1 : Int) < 0 then ((-1 : Int) + (xs.length : Int)).toNat else min (-1 : Int).toNat xs.length) = _
    rw [if_pos (by decide)]
    omega
  rw [e1, e2, List.drop_zero, Nat.sub_zero, List.dropLast_eq_take]
theorem cut_1G {α : Type} (xs : List α) : cut xs (some 1) none = xs.tail := by
  unfold cut
  have e1 : HT.sIx xs.length 0 (some 1) = min 1 xs.length := HT.sIx_nat _ _ 1
  have e2 : HT.sIx xs.length xs.length none = xs.length := rfl
  rw [e1, e2]
  cases xs with
  | nil => rfl
  | cons a xs =>
    rw [show min 1 (a :: xs).length = 1 by simp]
    simp
/-- a list of whole numbers at the hand -/
noncomputable def RdI (h : Hd) (d : D) (ms : List Int) : Prop := d = .vl (ms.map .int) ∨ ∃ r, d = .ref r ∧ h[r]? = some (.lst (ms.map .int))
theorem RdI.app {h t : Hd} {d ms} (r : RdI h d ms) : RdI (h ++ t) d ms := by
  rcases r with r | ⟨k, e, hk⟩
  · exact .inl r
  · exact .inr ⟨k, e, by rw [List.getElem?_append_left (List.getElem?_eq_some_iff.mp hk).1]; exact hk⟩
theorem RdI.idx {h : Hd} {d ms} (r : RdI h d ms) {i : Int} {v : Int} (e : L2.atI ms i = some v) {Q : DK} (q : Q (.int v) h) : idxW d (.int i) h Q := by
  have ea : L2.atI (ms.map D.int) i = some (.int v) := by
    unfold L2.atI at e ⊢
    rw [List.length_map]
    cases hx : L2.ixN ms.length i with
    | none => rw [hx] at e; cases e
    | some k =>
      rw [hx] at e
      show (ms.map D.int)[k]? = _
      rw [List.getElem?_map, show ms[k]? = some v from e]
      rfl
  rcases r with rfl | ⟨k, rfl, hk⟩
  · rw [ix_vl]; exact ⟨_, ea, q⟩
  · exact ⟨_, _, rdS_ref' hk, ea, q⟩
theorem RdI.len {m : Bool} {h : Hd} {d ms} (r : RdI h d ms) {Q : DK} (q : Q (.int ms.length) h) : biW m "len" [d] h Q := by
  rcases r with rfl | ⟨k, rfl, hk⟩
  · rw [bi_len_vl, List.length_map]; exact q
  · exact ⟨_, rdS_ref' hk, by rw [List.length_map]; exact q⟩
theorem atI_nat {α : Type} (xs : List α) (k : Nat) : L2.atI xs (k : Int) = xs[k]? := by
  rw [atI_ge (by omega)]; rfl
theorem lget {ms : List Int} {k : Nat} (h : k < ms.length) : L2.atI ms (k : Int) = some ms[k] := by
  rw [atI_nat, List.getElem?_eq_getElem h]
theorem lget0 {ms : List Int} (h : 0 < ms.length) : L2.atI ms 0 = some ms[0] := lget h
theorem fmod_pos {a b : Int} (hb : 0 < b) : a.fmod b = a % b := Int.fmod_eq_emod_of_nonneg _ (by omega)
theorem cells_ok {P n} (hf : P.fns "_law_cells" = some c__law_cells) (ns : List Int) (start most : Nat) (hn : ns.length ≤ 63) (hs : start ≤ 10) (hm : 3 ≤ most ∧ most ≤ 100) {h Q X} (q : ∀ ms : List Int, 3 ≤ ms.length → ms.length ≤ most → Q (.vl (ms.map .int)) h) : (Gn P (n+1)).fn "_law_cells" [.sv (ns.map .int), .int (start : Int), .int (most : Int)] h Q X := by
  refine ⟨_, hf, rfl, ?_⟩
  simp [c__law_cells]
  have e1 : cut (List.map D.int ns) (some (start : Int)) (some ((start : Int) + (most : Int))) = ((ns.drop start).take most).map D.int := by
    rw [cut_map, show ((start : Int) + (most : Int)) = ((start + most : Nat) : Int) by omega, cut_mid, Nat.add_sub_cancel_left]
  rw [e1]
  simp
  refine ⟨by omega, ⟨by omega, by omega⟩, ⟨by omega, by omega⟩, ?_⟩
  refine FL_rng (fun k σ h' => ∃ (ms : List Int) (a : Option D), h' = h ++ [.lst (ms.map .int)] ∧ ms.length = min most (ns.length - start) ∧ σ = [some (.sv (ns.map .int)), some (.int start), some (.int most), some (.ref h.length), a]) ⟨(ns.drop start).take most, none, by rw [List.map_take, List.map_drop], by rw [List.length_take, List.length_drop], rfl⟩ (fun h => trivial) ?_ ?_
  · rintro k σ h' hk ⟨ms, a, rfl, hms, rfl⟩ Kn hKn
    have hml : ms.length = most := by omega
    have r1 := Int.emod_nonneg ((start : Int) + most + k) (show (most : Int) ≠ 0 by omega)
    have r2 := Int.emod_lt_of_pos ((start : Int) + most + k) (show 0 < (most : Int) by omega)
    have hlt : start + most + k < ns.length := by omega
    have hx : L2.atI (List.map D.int ns) ((start : Int) + most + k) = some (.int ns[start + most + k]) := by
      rw [show ((start : Int) + most + k) = ((start + most + k : Nat) : Int) by omega, atI_nat, List.getElem?_map, List.getElem?_eq_getElem hlt]; rfl
    simp [l1__law_cells, fmod_pos (show 0 < (most : Int) by omega), hx]
    generalize hr : ((start : Int) + most + k) % most = r at *
    have hrl : r.toNat < ms.length := by omega
    refine ⟨by omega, .int ms[r.toNat], ?_, ?_⟩
    · rw [atI_ge r1, List.getElem?_map, List.getElem?_eq_getElem hrl]; rfl
    simp
    refine ⟨mul_okR (by decide) (by decide), by omega, r.toNat, ?_, ?_⟩
    · unfold L2.ixN
      rw [if_pos r1, if_pos (by omega)]
    · exact hKn _ _ ⟨ms.set r.toNat (ms[r.toNat] * 10007 + ns[start + most + k]), _, by rw [List.map_set], by rw [List.length_set]; exact hms, rfl⟩
  · rintro σ h' ⟨ms, a, rfl, hms, rfl⟩
    simp
    refine WL_ind (fun σ h' => ∃ ms : List Int, h' = h ++ [.lst (ms.map .int)] ∧ ms.length ≤ most ∧ σ = [some (.sv (ns.map .int)), some (.int start), some (.int most), some (.ref h.length), a]) (fun σ h' => match h'[h.length]? with | some (.lst xs) => 100 - xs.length | _ => 0) ?_ ⟨ms, rfl, by omega, rfl⟩
    rintro σ h' ⟨ms, rfl, hms, rfl⟩ Kn hKn
    simp
    by_cases c : (ms.length : Int) < 3
    · rw [if_pos c]
      simp [l2__law_cells]
      refine ⟨by omega, hKn _ _ ⟨ms ++ [14 + (ms.length : Int)], by simp, by simp; omega, rfl⟩ ?_⟩
      simp
      omega
    · rw [if_neg c]
      exact .pure (fz_new (fzs_ints ms)) (List.prefix_append _ _) (q ms (by omega) hms)
/-- places ascend -/
noncomputable def Asc (cs : List (Int × Int)) : Prop := cs.Pairwise fun a b => a.1 < b.1
noncomputable def SmC (cs : List (Int × Int)) : Prop := ∀ p ∈ cs, Sm p.1 188 ∧ Sm p.2 188
theorem corners_okZ {P n} (hf : P.fns "_law_corners" = some c__law_corners) (h1 : P.fns "_law_mixed" = some c__law_mixed) (ms : List Int) (d : D) (hm : 1 ≤ ms.length ∧ ms.length ≤ 50) {h Q X} (hd : RdI h d ms) (q : ∀ cs : List (Int × Int), cs.length = ms.length → Asc cs → SmC cs → (∀ p ∈ cs, -(10 ^ 49) ≤ p.1 ∧ p.1 ≤ 6 * 10 ^ 49 ∧ -(10 ^ 50) ≤ p.2 ∧ p.2 ≤ 10 ^ 50) → Q (.vl (cs.map pairD)) h) : (Gn P (n+2)).fn "_law_corners" [d] h Q X := by
  refine ⟨_, hf, rfl, ?_⟩
  have d3 : DivOk 3 := ⟨by decide, by decide⟩
  have d5 : DivOk 5 := ⟨by decide, by decide⟩
  have d7 : DivOk 7 := ⟨by decide, by decide⟩
  have d400 : DivOk 400 := ⟨by decide, by decide⟩
  have d1200 : DivOk 1200 := ⟨by decide, by decide⟩
  have d6000 : DivOk 6000 := ⟨by decide, by decide⟩
  have d12000 : DivOk 12000 := ⟨by decide, by decide⟩
  simp [c__law_corners]
  refine hd.idx (lget0 (by omega)) ?_
  simp
  refine ⟨d3, ?_⟩
  generalize hf0 : decide (ms[0] % 3 = 1) = far
  have loop : ∀ (x : Int) (f0 : Option D), -(10 ^ 49) ≤ x → x ≤ 10 ^ 49 → wpSs (Gn P (n + 1)) l3__law_corners [some d, f0, some (.bl far), some (.int x), none, none, none, none, none] h { nx := fun x h' => Exit h D.non h' Q, rt := fun v h' => Exit h v h' Q } (fun e x h' => X e h' ∨ h <+: h' ∧ X e h) := by
    intro x f0 hx1 hx2
    simp [l3__law_corners]
    refine RdI.len hd.app ?_
    simp
    refine ⟨⟨by omega, by omega⟩, ?_⟩
    refine FL_rng (fun k σ h' => ∃ (cs : List (Int × Int)) (x : Int) (a b c e : Option D), h' = h ++ [.lst (cs.map pairD)] ∧ cs.length = k ∧ Asc cs ∧ (∀ p ∈ cs, p.1 < x) ∧ (∀ p ∈ cs, -(10 ^ 49) ≤ p.1 ∧ -100 ≤ p.2 ∧ p.2 ≤ 100 + (k : Int) * 10 ^ 48) ∧ -(10 ^ 49) ≤ x ∧ x ≤ 10 ^ 49 + (k : Int) * 10 ^ 48 ∧ σ = [some d, f0, some (.bl far), some (.int x), some (.ref h.length), a, b, c, e]) ⟨[], x, _, _, _, _, rfl, rfl, .nil, by simp, by simp, hx1, by omega, rfl⟩ (fun _ => trivial) ?_ ?_
    · rintro k σ h' hk ⟨cs, x, a, b, c, e, rfl, hl, hA, hlt, hB, x1, x2, rfl⟩ Kn hKn
      have hkl : k < ms.length := by omega
      simp [l2__law_corners, h1]
      refine RdI.idx hd.app (lget hkl) ?_
      refine mixed_ok h1 _ _ (by omega) fun m m1 m2 => ?_
      simp
      refine ⟨⟨by decide, by decide⟩, ?_⟩
      have zz : ∀ z0 : Int, -100 ≤ z0 → z0 ≤ 100 + (k : Int) * 10 ^ 48 → (∃ z : Int, L2.atI [D.int (m / 8 % 7), D.int (m / 8 % 41 - 20), D.int z0] (m / 400 % 3) = some (.int z) ∧ -100 ≤ z ∧ z ≤ 100 + (k : Int) * 10 ^ 48) := by
        intro z0 k1 k2
        have hc : m / 400 % 3 = 0 ∨ m / 400 % 3 = 1 ∨ m / 400 % 3 = 2 := by omega
        rcases hc with e | e | e <;> rw [e]
        · exact ⟨m / 8 % 7, atI_0 _ _, by omega, by omega⟩
        · exact ⟨m / 8 % 41 - 20, atI_1 _ _ _, by omega, by omega⟩
        · exact ⟨z0, atI_2 _ _ _ _, k1, k2⟩
      have fin : ∀ (z wd : Int) (K' : Vd.Ends) (X' : XS), K'.nx = Kn → -100 ≤ z → z ≤ 100 + ((k : Int) + 1) * 10 ^ 48 → 0 < wd → wd ≤ 10 ^ 48 → wpSs (Gn P (n + 1)) l1__law_corners [some d, f0, some (.bl far), some (.int x), some (.ref h.length), some (.int k), some (.int m), some (.int z), some (.int wd)] (h ++ [.lst (cs.map pairD)]) K' X' := by
        intro z wd K' X' hK z1 z2 w1 w2
        simp [l1__law_corners, hK]
        refine ⟨by omega, hKn _ _ ⟨cs ++ [(x, z)], x + wd, _, _, _, _, by rw [List.map_append]; rfl, by simp [hl], ?_, ?_, ?_, by omega, by omega, rfl⟩⟩
        · exact List.pairwise_append.mpr ⟨hA, by simp, fun p hp r hr => by
            rw [List.mem_singleton.mp hr]
            exact hlt p hp⟩
        · intro p hp
          rcases List.mem_append.mp hp with y | y
          · have := hlt p y; omega
          · rw [List.mem_singleton.mp y]; show x < x + wd; omega
        · intro p hp
          rcases List.mem_append.mp hp with y | y
          · have := hB p y; omega
          · rw [List.mem_singleton.mp y]; show -10 ^ 49 ≤ x ∧ -100 ≤ z ∧ z ≤ _; omega
      have zl : ∃ z0 : Int, -100 ≤ z0 ∧ z0 ≤ 100 + (k : Int) * 10 ^ 48 ∧ ((0 < cs.length ∧ ∃ l : Int × Int, L2.atI (List.map pairD cs) (-1) = some (pairD l) ∧ l.2 = z0) ∨ (¬ 0 < cs.length ∧ z0 = 0)) := by
        by_cases hc : 0 < cs.length
        · obtain ⟨init, l, rfl⟩ : ∃ init l, cs = init ++ [l] := ⟨_, _, (List.dropLast_concat_getLast (show cs ≠ [] by intro z; rw [z] at hc; exact absurd hc (by decide))).symm⟩
          have := hB l (by simp)
          exact ⟨l.2, by omega, by omega, .inl ⟨hc, l, by rw [List.map_append]; exact atI_last5 _ _, rfl⟩⟩
        · exact ⟨0, by omega, by omega, .inr ⟨hc, rfl⟩⟩
      obtain ⟨z0, y1, y2, hz⟩ := zl
      obtain ⟨z, ez, z1, z2⟩ := zz z0 y1 y2
      rcases hz with ⟨hc, l, el, rfl⟩ | ⟨hc, rfl⟩
      all_goals
        first
        | (rw [if_pos hc]
           refine ⟨_, el, ?_⟩
           simp only [pairD, ix_tup, atI_1, Option.some.injEq, exists_eq_left'])
        | rw [if_neg hc]
        refine ⟨d400, _, ez, d1200, ?_⟩
        by_cases hf : far = true
        · rw [if_pos hf]
          refine RdI.idx hd.app (lget hkl) ?_
          simp
          refine ⟨d5, d6000, mul_okR (by omega) (by omega), ?_⟩
          refine RdI.idx hd.app (lget hkl) ?_
          simp
          refine ⟨d7, d12000, mul_okR (by omega) (by omega), ?_⟩
          have b1 : m / 6000 % 2 = 0 ∨ m / 6000 % 2 = 1 := by omega
          have b2 : m / 12000 % 2 = 0 ∨ m / 12000 % 2 = 1 := by omega
          have c1 : 0 ≤ ms[k] / 5 % 1000000000000000000000000000000000000000000000000 * (m / 6000 % 2) ∧ ms[k] / 5 % 1000000000000000000000000000000000000000000000000 * (m / 6000 % 2) < 10 ^ 48 := by
            rcases b1 with e | e <;> rw [e] <;> omega
          have c2 : 0 ≤ ms[k] / 7 % 100000000000000000000000000000000000000000000000 * (m / 12000 % 2) ∧ ms[k] / 7 % 100000000000000000000000000000000000000000000000 * (m / 12000 % 2) < 10 ^ 47 := by
            rcases b2 with e | e <;> rw [e] <;> omega
          exact fin _ _ _ _ rfl (by omega) (by omega) (by omega) (by omega)
        · rw [if_neg hf]
          exact fin _ _ _ _ rfl (by omega) (by omega) (by omega) (by omega)
    · rintro σ h' ⟨cs, x, a, b, c, e, rfl, hl, hA, hlt, hB, x1, x2, rfl⟩
      simp
      refine .pure (fz_new (fzs_pairs cs)) (List.prefix_append _ _) (q cs (by omega) hA (fun p hp => ?_) fun p hp => ?_)
      · have := hB p hp
        have := hlt p hp
        exact ⟨⟨by omega⟩, ⟨by omega⟩⟩
      · have := hB p hp
        have := hlt p hp
        omega
  by_cases c : ms[0] % 3 = 1
  · rw [if_pos c]
    exact ⟨d3, mul_okL (by decide) (by decide), loop _ _ (by omega) (by omega)⟩
  · rw [if_neg c]
    exact loop _ _ (by omega) (by omega)
end Vd

set_option Elab.async false
set_option linter.all false
set_option maxRecDepth 100000
namespace Vd
open PySem
end Vd

set_option Elab.async false
set_option linter.all false
set_option maxRecDepth 100000
/-! stir and far of the laws on fogs and reaches; more loops -/
namespace Vd
open PySem
/-! _law_stir: slots 0 cell 1 k 2 m -/
/-! _law_far: slots 0 cell 1 k -/
noncomputable instance smPow12 {x : Int} {a : Nat} [hx : Sm x a] : Sm (x ^ 12) (a * 12) := ⟨by
  rw [Int.natAbs_pow, Nat.pow_mul]
  exact Nat.pow_lt_pow_left hx.lt (by decide)⟩
theorem FL_map {α : Type} (f : α → D) {G : Gam} {t : Tg} {b : Ss} {X : XS} {stay : Hd → Prop} {K : Vd.Ends} (xs : List α) (I : Nat → DSt → Hd → Prop) {σ : DSt} {h : Hd} (h0 : I 0 σ h) (hst : ∀ k σ h, k ≤ xs.length → I k σ h → stay h)
    (step : ∀ k x σ h, xs[k]? = some x → k < xs.length → I k σ h → ∀ Kn : DSt → Hd → Prop, (∀ σ' h', I (k + 1) σ' h' → Kn σ' h') → tgW t (f x) σ h fun σ' => wpSs G b σ' h { K with nx := Kn, ct := Kn, bk := K.nx } X)
    (fin : ∀ σ h, I xs.length σ h → K.nx σ h) : FL G t b X stay (xs.map f) σ h K := by
  refine FL_list I h0 (fun k σ h hk => hst k σ h (by simpa using hk)) ?_ (by simpa using fin)
  intro k x σ h hx hk hI Kn hKn
  rw [List.length_map] at hk
  rw [List.getElem?_map, List.getElem?_eq_getElem hk] at hx
  cases hx
  exact step k _ σ h (List.getElem?_eq_getElem hk) hk hI Kn hKn
theorem atI_int (ns : List Int) (y : Int) (h0 : 0 ≤ y) (h1 : y < ns.length) : ∃ v : Int, L2.atI (ns.map D.int) y = some (.int v) ∧ v ∈ ns := by
  have hlt : y.toNat < ns.length := by omega
  refine ⟨ns[y.toNat], ?_, List.getElem_mem hlt⟩
  rw [atI_ge h0, List.getElem?_map, List.getElem?_eq_getElem hlt]; rfl
section
variable {m : Bool} {h t : Hd} {xs : List D} {Q : DK} {a : Ob} {d : D}
@[simp] theorem hn_pop : bmW "pop" (.ref h.length) [] (h ++ .lst xs :: t) Q = ∃ y, xs[xs.length - 1]? = some y ∧ Q y (h ++ .lst xs.dropLast :: t) := by
  show (∃ ys y, (h ++ .lst xs :: t)[h.length]? = some (.lst ys) ∧ ys[ys.length - 1]? = some y ∧ Q y _) = _
  rw [hn_get]
  simp
@[simp] theorem hn_recP : recOk "pop" (.ref h.length) (h ++ .lst xs :: t) = True := by
  show (∃ ys, rdL (h ++ .lst xs :: t) (.ref h.length) = some ys) = _
  rw [hn_rdL]; simp
end
theorem atI_last {α : Type} (xs : List α) (x : α) : L2.atI (xs ++ [x]) (-1) = some x := by
  have e : L2.ixN (xs ++ [x]).length (-1) = some xs.length := by
    unfold L2.ixN
    rw [if_neg (by decide), List.length_append, List.length_singleton, if_pos (by omega)]
    congr 1
    omega
  unfold L2.atI
  rw [e]
  simp
end Vd

set_option Elab.async false
set_option linter.all false
set_option maxRecDepth 100000
namespace Vd
open PySem
/-! Ground.__init__: slots 0 self 1 corners 2 one 3 other -/
noncomputable def l1_Ground___init__ : Ss := (
  .cons (.ite (.cmp .ge (.idx (.var 2) (.int 0)) (.idx (.var 3) (.int 0))) (
    .cons (.raise "BadGround") <| .nil) .nil) <| .nil)
noncomputable def c_Ground___init__ : Fn := ⟨4, ["self", "corners"], (
  .cons (.ite (.not (.chain .le .le (.glob "LEAST_CORNERS") (.bi "len" false (.cons (.var 1) .nil)) (.glob "MOST_CORNERS"))) (
    .cons (.raise "BadGround") <| .nil) .nil) <| 
  .cons (.fr (.tp [2, 3]) (.zip (.slc false (.var 1) .none (.some (.neg (.int 1)))) (.slc false (.var 1) (.some (.int 1)) .none)) l1_Ground___init__) <| 
  .cons (.fset (.var 0) "corners" (.bi "list" false (.cons (.var 1) .nil))) <| .nil)⟩
noncomputable def groundD (cs : List (Int × Int)) : D := .vi "Ground" ["corners"] [.vl (cs.map pairD)]
noncomputable def GoodG (cs : List (Int × Int)) : Prop := 2 ≤ cs.length ∧ cs.length ≤ 40 ∧ Asc cs
theorem asc_zip : ∀ {cs : List (Int × Int)}, Asc cs ↔ ∀ p ∈ cs.dropLast.zip cs.tail, p.1.1 < p.2.1
  | [] => by simp [Asc]
  | [a] => by simp [Asc]
  | a :: b :: r => by
    have ih := asc_zip (cs := b :: r)
    have e : (a :: b :: r).dropLast.zip (a :: b :: r).tail = (a, b) :: (b :: r).dropLast.zip (b :: r).tail := by
      rw [List.dropLast_cons₂]
      rfl
    rw [e]
    constructor
    · intro h p hp
      rcases List.mem_cons.mp hp with rfl | hp
      · exact List.rel_of_pairwise_cons h (by simp)
      · exact ih.mp (List.Pairwise.of_cons h) p hp
    · intro h
      have h1 := h (a, b) (by simp)
      have h2 : Asc (b :: r) := ih.mpr fun p hp => h p (List.mem_cons_of_mem _ hp)
      refine List.pairwise_cons.mpr ⟨fun c hc => ?_, h2⟩
      rcases List.mem_cons.mp hc with rfl | hc
      · exact h1
      · have := List.rel_of_pairwise_cons h2 hc
        show a.1 < c.1
        have h1 : a.1 < b.1 := h1
        omega
noncomputable def RdP (h : Hd) (d : D) (cs : List (Int × Int)) : Prop := d = .vl (cs.map pairD) ∨ ∃ r, d = .ref r ∧ h[r]? = some (.lst (cs.map pairD))
theorem RdP.app {h t : Hd} {d cs} (r : RdP h d cs) : RdP (h ++ t) d cs := by
  rcases r with r | ⟨k, e, hk⟩
  · exact .inl r
  · exact .inr ⟨k, e, by rw [List.getElem?_append_left (List.getElem?_eq_some_iff.mp hk).1]; exact hk⟩
theorem RdP.rd {h : Hd} {d cs} (r : RdP h d cs) : rdL h d = some (cs.map pairD) := by
  rcases r with rfl | ⟨k, rfl, hk⟩
  · rfl
  · exact rdL_ref hk
theorem RdP.rdS {h : Hd} {d cs} (r : RdP h d cs) : rdS h d = some (cs.map pairD) := by
  rcases r with rfl | ⟨k, rfl, hk⟩
  · rfl
  · exact rdS_ref' hk
theorem RdP.len {m : Bool} {h : Hd} {d cs} (r : RdP h d cs) {Q : DK} (q : Q (.int cs.length) h) : biW m "len" [d] h Q := by
  rcases r with rfl | ⟨k, rfl, hk⟩
  · rw [bi_len_vl, List.length_map]; exact q
  · exact ⟨_, rdS_ref' hk, by rw [List.length_map]; exact q⟩
theorem RdP.slc {m : Bool} {h : Hd} {d cs} (r : RdP h d cs) {lo hi : Option Int} {Q : DK} (q : mkL m ((cut cs lo hi).map pairD) h Q) : slcW m d lo hi h Q := by
  rw [← cut_map] at q
  rcases r with rfl | ⟨k, rfl, hk⟩
  · rw [sl_vl]; exact q
  · exact ⟨_, rdL_ref hk, q⟩
theorem RdP.list {m : Bool} {h : Hd} {d cs} (r : RdP h d cs) {Q : DK} (q : mkL m (cs.map pairD) h Q) : biW m "list" [d] h Q := by
  rcases r with rfl | ⟨k, rfl, hk⟩
  · rw [bi_list_vl]; exact q
  · exact ⟨_, rdS_ref' hk, q⟩
noncomputable def pair2D (p : (Int × Int) × (Int × Int)) : D := .tup [pairD p.1, pairD p.2]
theorem zip_pairs (as bs : List (Int × Int)) : ((as.map pairD).zip (bs.map pairD)).map (fun p : D × D => D.tup [p.1, p.2]) = (as.zip bs).map pair2D := by
  rw [List.zip_map, List.map_map]; rfl
theorem make_ok {P : Prog} {n : Nat} (hm : P.mes "Ground" "__init__" = some c_Ground___init__) (g1 : P.gl "LEAST_CORNERS" = some (.int 2)) (g2 : P.gl "MOST_CORNERS" = some (.int 40)) (hf : P.fldOk "Ground" "corners" = true) (he : P.isEx "BadGround" = true)
    (cs : List (Int × Int)) (d : D) (hl : cs.length ≤ 1000) {h : Hd} {Q : DK} {X : EK} (hd : RdP h d cs) (q1 : GoodG cs → Q (groundD cs) h) (q2 : ¬ GoodG cs → X "BadGround" h) : (Gn P (n + 2)).mkc "Ground" [d] h Q X := by
  rw [Gn_mkc]
  refine ⟨_, hm, rfl, ?_⟩
  have hd1 : RdP (h ++ [.ins "Ground" [] []]) d cs := hd.app
  simp [c_Ground___init__, g1, g2, he]
  refine hd1.len ?_
  by_cases c1 : (2 : Int) ≤ cs.length
  · by_cases c2 : (cs.length : Int) ≤ 40
    · simp [c1, c2]
      refine hd1.slc ?_
      simp
      refine ⟨by have := cut_len cs none (some (-1)); omega, ?_⟩
      refine hd1.slc ?_
      simp
      refine ⟨by have := cut_len cs (some 1) none; omega, ?_⟩
      refine ⟨_, _, ⟨rfl, rfl⟩, ?_⟩
      rw [zip_pairs, cut_lastG, cut_1G]
      refine FL_map pair2D _ (fun k σ h' => h' = h ++ [.ins "Ground" [] []] ∧ (∀ p ∈ (cs.dropLast.zip cs.tail).take k, p.1.1 < p.2.1) ∧ ∃ a b, σ = [some (.ref h.length), some d, a, b]) ⟨rfl, by simp, _, _, rfl⟩ (fun _ _ _ _ _ => ⟨rfl, rfl⟩) ?_ ?_
      · rintro k p σ h' hx hk ⟨rfl, I, a, b, rfl⟩ Kn hKn
        simp [pair2D, pairD, l1_Ground___init__, he]
        by_cases c : p.2.1 ≤ p.1.1
        · rw [if_pos c]
          have hb : ¬ GoodG cs := fun g => by
            have := asc_zip.mp g.2.2 p (List.mem_of_getElem? hx)
            omega
          first | exact Or.inr (q2 hb) | exact Or.inl (Or.inr (q2 hb))
        · rw [if_neg c]
          refine hKn _ _ ⟨rfl, fun r hr => ?_, _, _, rfl⟩
          rw [List.take_succ, hx] at hr
          rcases List.mem_append.mp hr with z | z
          · exact I r z
          · have : r = p := by simpa using z
            rw [this]; omega
      · rintro σ h' ⟨rfl, I, a, b, rfl⟩
        rw [List.take_length] at I
        simp
        refine hd1.list ?_
        simp
        refine ⟨by omega, _, _, _, ⟨rfl, rfl, rfl⟩, hf, by simp, ?_⟩
        refine .raw ⟨rfl, ?_⟩
        refine .pure (v' := groundD cs) (.ins (Nat.le_refl _) hn_get (.cons (.vl (fzs_pairs cs)) .nil)) (List.prefix_append _ _) (q1 ⟨by omega, by omega, asc_zip.mpr I⟩)
    · simp [c1, c2]
      have hb : ¬ GoodG cs := fun g => c2 (by have := g.2.1; omega)
      first | exact Or.inr (q2 hb) | exact Or.inl (Or.inr (q2 hb))
  · simp [c1]
    have hb : ¬ GoodG cs := fun g => c1 (by have := g.1; omega)
    first | exact Or.inr (q2 hb) | exact Or.inl (Or.inr (q2 hb))
end Vd

set_option Elab.async false
set_option linter.all false
set_option maxRecDepth 100000
namespace Vd
open PySem
/-! ground_at: slots 0 ground 1 place 2 corners 3 at -/
noncomputable def l1_ground_at : Ss := (
  .cons (.aug 3 .add (.int 1)) <| .nil)
noncomputable def c_ground_at : Fn := ⟨4, ["ground", "place"], (
  .cons (.set (.nm 2) (.fld (.var 0) "corners")) <| 
  .cons (.ite (.or (.cons (.call "less" (.cons (.var 1) (.cons (.tup (.cons (.idx (.idx (.var 2) (.int 0)) (.int 0)) (.cons (.int 1) .nil))) .nil))) (.cons (.call "less" (.cons (.tup (.cons (.idx (.idx (.var 2) (.neg (.int 1))) (.int 0)) (.cons (.int 1) .nil))) (.cons (.var 1) .nil))) .nil))) (
    .cons (.raise "OffGround") <| .nil) .nil) <| 
  .cons (.set (.nm 3) (.int 1)) <| 
  .cons (.whl (.call "less" (.cons (.tup (.cons (.idx (.idx (.var 2) (.var 3)) (.int 0)) (.cons (.int 1) .nil))) (.cons (.var 1) .nil))) l1_ground_at) <| 
  .cons (.ret (.call "height_on" (.cons (.idx (.var 2) (.bin false .sub (.var 3) (.int 1))) (.cons (.idx (.var 2) (.var 3)) (.cons (.var 1) .nil))))) <| .nil)⟩
/-! _law_ground: slots 0 corners 1 place 2 k 3 left 4 right 5 wide 6 rise 7 gone -/
noncomputable def l1__law_ground : Ss := (
  .cons (.set (.nm 3) (.idx (.var 0) (.bin false .sub (.var 2) (.int 1)))) <| 
  .cons (.set (.nm 4) (.idx (.var 0) (.var 2))) <| 
  .cons (.ite (.and (.cons (.cmp .le (.bin false .mul (.idx (.var 3) (.int 0)) (.idx (.var 1) (.int 1))) (.idx (.var 1) (.int 0))) (.cons (.cmp .le (.idx (.var 1) (.int 0)) (.bin false .mul (.idx (.var 4) (.int 0)) (.idx (.var 1) (.int 1)))) .nil))) (
    .cons (.set (.nm 5) (.bin false .sub (.idx (.var 4) (.int 0)) (.idx (.var 3) (.int 0)))) <| 
    .cons (.set (.nm 6) (.bin false .sub (.idx (.var 4) (.int 1)) (.idx (.var 3) (.int 1)))) <| 
    .cons (.set (.nm 7) (.bin false .sub (.idx (.var 1) (.int 0)) (.bin false .mul (.idx (.var 3) (.int 0)) (.idx (.var 1) (.int 1))))) <| 
    .cons (.ret (.tup (.cons (.bin false .add (.bin false .mul (.bin false .mul (.idx (.var 3) (.int 1)) (.var 5)) (.idx (.var 1) (.int 1))) (.bin false .mul (.var 6) (.var 7))) (.cons (.bin false .mul (.var 5) (.idx (.var 1) (.int 1))) .nil)))) <| .nil) .nil) <| .nil)
noncomputable def c__law_ground : Fn := ⟨8, ["corners", "place"], (
  .cons (.fr (.nm 2) (.rng2 (.int 1) (.bi "len" false (.cons (.var 0) .nil))) l1__law_ground) <| 
  .cons (.ret (.non)) <| .nil)⟩
/-- the ground's height over a place, where there is ground -/
noncomputable def grd : List (Int × Int) → Rat → Option Rat
  | a :: b :: r, u => if (a.1 : Rat) ≤ u ∧ u ≤ b.1 then some (hv a.1 a.2 b.1 b.2 u) else grd (b :: r) u
  | _, _ => none
theorem qv_one (a : Int) : qv a 1 = a := by
  unfold qv; grind
theorem le_qv {a s t : Int} (ht : 0 < t) : a * t ≤ s ↔ (a : Rat) ≤ qv s t := by
  have := qv_lt (a := s) (b := t) (c := a) (d := 1) ht (by decide)
  rw [qv_one, Int.mul_one] at this
  constructor
  · intro h
    have : ¬ (qv s t < a) := fun z => by have := this.mpr z; omega
    exact Rat.not_lt.mp this
  · intro h
    have : ¬ (s < a * t) := fun z => by have := this.mp z; exact absurd h (Rat.not_le.mpr this)
    omega
theorem qv_leI {a s t : Int} (ht : 0 < t) : s ≤ a * t ↔ qv s t ≤ (a : Rat) := by
  have := qv_lt (a := a) (b := 1) (c := s) (d := t) (by decide) ht
  rw [qv_one, Int.mul_one] at this
  constructor
  · intro h
    have : ¬ ((a : Rat) < qv s t) := fun z => by have := this.mpr z; omega
    exact Rat.not_lt.mp this
  · intro h
    have : ¬ (a * t < s) := fun z => by have := this.mp z; exact absurd h (Rat.not_le.mpr this)
    omega
theorem grd_skip : ∀ (i : Nat) {cs : List (Int × Int)} {u : Rat}, (∀ j, (h : j + 1 < cs.length) → j < i → ¬ ((cs[j].1 : Rat) ≤ u ∧ u ≤ cs[j + 1].1)) → grd cs u = grd (cs.drop i) u
  | 0, cs, u, _ => rfl
  | i + 1, [], u, _ => by simp
  | i + 1, [a], u, _ => by simp [grd]
  | i + 1, a :: b :: r, u, h => by
    have h0 : ¬ ((a.1 : Rat) ≤ u ∧ u ≤ b.1) := h 0 (by simp) (by omega)
    have e : grd (a :: b :: r) u = grd (b :: r) u := by
      rw [grd, if_neg h0]
    rw [e, List.drop_succ_cons]
    exact grd_skip i fun j hj hi => h (j + 1) (by simpa using hj) (by omega)
theorem grd_at {cs : List (Int × Int)} {u : Rat} {i : Nat} (hi : i + 1 < cs.length) (h1 : (cs[i].1 : Rat) ≤ u) (h2 : u ≤ cs[i + 1].1) (h : ∀ j, (h : j + 1 < cs.length) → j < i → ¬ ((cs[j].1 : Rat) ≤ u ∧ u ≤ cs[j + 1].1)) : grd cs u = some (hv cs[i].1 cs[i].2 cs[i + 1].1 cs[i + 1].2 u) := by
  rw [grd_skip i h, List.drop_eq_getElem_cons (by omega), List.drop_eq_getElem_cons hi, grd, if_pos ⟨h1, h2⟩]
theorem asc_lt {cs : List (Int × Int)} (h : Asc cs) {i j : Nat} (hij : i < j) (hj : j < cs.length) : (cs[i]'(by omega)).1 < cs[j].1 := List.pairwise_iff_getElem.mp h i j (by omega) hj hij
theorem grd_none {cs : List (Int × Int)} {u : Rat} (hA : Asc cs) (hl : 0 < cs.length) (h : u < cs[0].1 ∨ ((cs[cs.length - 1]'(by omega)).1 : Rat) < u) : grd cs u = none := by
  rw [grd_skip cs.length (fun j hj _ z => ?_), List.drop_length]
  · rfl
  · rcases h with h | h
    · have : cs[0].1 ≤ cs[j].1 := by
        rcases Nat.eq_zero_or_pos j with e | e
        · subst e; exact Int.le_refl _
        · exact Int.le_of_lt (asc_lt hA e (by omega))
      have := Rat.intCast_le_intCast.mpr this
      grind
    · have : cs[j + 1].1 ≤ (cs[cs.length - 1]'(by omega)).1 := by
        rcases Nat.lt_or_ge (j + 1) (cs.length - 1) with e | e
        · exact Int.le_of_lt (asc_lt hA e (by omega))
        · have e : j + 1 = cs.length - 1 := by omega
          simp only [e]
          exact Int.le_refl _
      have := Rat.intCast_le_intCast.mpr this
      grind
theorem pget {cs : List (Int × Int)} {k : Nat} (h : k < cs.length) : L2.atI (cs.map pairD) (k : Int) = some (pairD cs[k]) := by
  rw [atI_nat, List.getElem?_map, List.getElem?_eq_getElem h]; rfl
theorem pget0 {cs : List (Int × Int)} (h : 0 < cs.length) : L2.atI (cs.map pairD) 0 = some (pairD cs[0]) := pget h
theorem pgetL {cs : List (Int × Int)} (h : 0 < cs.length) : L2.atI (cs.map pairD) (-1) = some (pairD (cs[cs.length - 1]'(by omega))) := by
  unfold L2.atI L2.ixN
  rw [if_neg (by decide), List.length_map, if_pos (by omega)]
  show (cs.map pairD)[((-1 : Int) + cs.length).toNat]? = _
  rw [show ((-1 : Int) + cs.length).toNat = cs.length - 1 by omega, List.getElem?_map, List.getElem?_eq_getElem (by omega)]
  rfl
theorem idx_pair0 {p : Int × Int} {h : Hd} {Q : DK} : idxW (pairD p) (.int 0) h Q = Q (.int p.1) h := by simp [pairD]
theorem idx_pair1 {p : Int × Int} {h : Hd} {Q : DK} : idxW (pairD p) (.int 1) h Q = Q (.int p.2) h := by simp [pairD]
theorem height_okW {P n} (hf : P.fns "height_on" = some c_height_on) (h1 : P.fns "fraction" = some c_fraction) (x y z w s t : Int) [Sm x 190] [Sm y 190] [Sm z 190] [Sm w 190] [Sm s 400] [Sm t 400] (hne : x ≠ z) (ht : 0 < t) {h Q X} (q : ∀ p r : Int, Fr p r 1000 → qv p r = hv x y z w (qv s t) → Q (.tup [.int p, .int r]) h) : (Gn P (n+2)).fn "height_on" [.tup [.int x, .int y], .tup [.int z, .int w], .tup [.int s, .int t]] h Q X := by
  refine ⟨_, hf, rfl, ?_⟩
  simp [c_height_on, h1]
  repeat refine And.intro (mul_ok (by decide)) ?_
  have hzx : z - x ≠ 0 := by omega
  refine frac_q h1 _ _ (Int.mul_ne_zero hzx (by omega)) (m := 1000) (by decide) (by decide) (by decide) fun p r hf e => .raw (q p r hf ?_)
  rw [qv_of (Int.ne_of_gt hf.pos) (Int.mul_ne_zero hzx (by omega)) e]
  have h1 := cz hzx
  have h2 := cz (show t ≠ 0 by omega)
  rw [Rat.intCast_sub] at h1
  unfold qv hv
  simp only [Rat.intCast_mul, Rat.intCast_add, Rat.intCast_sub]
  grind
/-- the laws' own height of the ground -/
theorem lground_ok {P n} (hf : P.fns "_law_ground" = some c__law_ground) (cs : List (Int × Int)) (hs : SmC cs) (hA : Asc cs) (hl : cs.length ≤ 1000) (s t : Int) (ht : 0 < t) [Sm s 400] [Sm t 400] {h Q X} (q1 : grd cs (qv s t) = none → Q .non h)
    (q2 : ∀ (v : Rat) (a b : Int), grd cs (qv s t) = some v → 0 < b → Sm a 1000 → Sm b 1000 → qv a b = v → Q (.tup [.int a, .int b]) h) : (Gn P (n+1)).fn "_law_ground" [.vl (cs.map pairD), .tup [.int s, .int t]] h Q X := by
  refine ⟨_, hf, rfl, ?_⟩
  simp [c__law_ground]
  refine ⟨⟨by omega, by omega⟩, ⟨by omega, by omega⟩, ?_⟩
  refine FL_rng (fun k σ h' => h' = h ∧ (∀ j, (h : j + 1 < cs.length) → j < k → ¬ ((cs[j].1 : Rat) ≤ qv s t ∧ qv s t ≤ cs[j + 1].1)) ∧ ∃ a b c d e f, σ = [some (.vl (cs.map pairD)), some (.tup [.int s, .int t]), a, b, c, d, e, f]) ⟨rfl, by simp, _, _, _, _, _, _, rfl⟩ (fun _ => trivial) ?_ ?_
  · rintro k σ h' hk ⟨rfl, I, a, b, c, d, e, f, rfl⟩ Kn hKn
    have hk1 : k + 1 < cs.length := by omega
    have e1 : L2.atI (cs.map pairD) (1 + (k : Int) - 1) = some (pairD cs[k]) := by
      rw [show (1 + (k : Int) - 1) = (k : Nat) by omega]; exact pget (by omega)
    have e2 : L2.atI (cs.map pairD) (1 + (k : Int)) = some (pairD cs[k + 1]) := by
      rw [show (1 + (k : Int)) = ((k + 1 : Nat) : Int) by omega]; exact pget hk1
    obtain ⟨s1, s2⟩ := hs _ (List.getElem_mem (show k < cs.length by omega))
    obtain ⟨s3, s4⟩ := hs _ (List.getElem_mem hk1)
    have hne : cs[k].1 < cs[k + 1].1 := asc_lt hA (by omega) hk1
    simp [l1__law_ground, e1, e2, pairD]
    refine ⟨mul_ok (by decide), ?_⟩
    by_cases c1 : cs[k].1 * t ≤ s
    · rw [if_pos c1]
      refine ⟨mul_ok (by decide), ?_⟩
      by_cases c2 : s ≤ cs[k + 1].1 * t
      · rw [if_pos c2]
        refine ⟨mul_ok (by decide), mul_ok (by decide), mul_ok (by decide), mul_ok (by decide), mul_ok (by decide), .raw (q2 _ _ _ (grd_at hk1 ((le_qv ht).mp c1) ((qv_leI ht).mp c2) I) (Int.mul_pos (by omega) ht) ?_ ?_ ?_)⟩
        · exact ⟨sm_le (inferInstance : Sm (cs[k].2 * (cs[k + 1].1 - cs[k].1) * t + (cs[k + 1].2 - cs[k].2) * (s - cs[k].1 * t)) _).lt (by decide)⟩
        · exact ⟨sm_le (inferInstance : Sm ((cs[k + 1].1 - cs[k].1) * t) _).lt (by decide)⟩
        · have h1 := cz (show cs[k + 1].1 - cs[k].1 ≠ 0 by omega)
          have h2 := cz (show t ≠ 0 by omega)
          rw [Rat.intCast_sub] at h1
          unfold qv hv
          simp only [Rat.intCast_mul, Rat.intCast_add, Rat.intCast_sub]
          grind
      · rw [if_neg c2]
        refine hKn _ _ ⟨rfl, fun j hj hjk => ?_, _, _, _, _, _, _, rfl⟩
        by_cases e : j = k
        · subst e
          exact fun z => c2 ((qv_leI ht).mpr z.2)
        · exact I j hj (by omega)
    · rw [if_neg c1]
      refine hKn _ _ ⟨rfl, fun j hj hjk => ?_, _, _, _, _, _, _, rfl⟩
      by_cases e : j = k
      · subst e
        exact fun z => c1 ((le_qv ht).mpr z.1)
      · exact I j hj (by omega)
  · rintro σ h' ⟨rfl, I, a, b, c, d, e, f, rfl⟩
    simp
    refine .raw (q1 ?_)
    rw [grd_skip cs.length (fun j hj _ => I j hj (by omega)), List.drop_length]
    rfl
@[simp] theorem rdI_ground (cs : List (Int × Int)) (h : Hd) : rdI h (groundD cs) = some ("Ground", ["corners"], [.vl (cs.map pairD)]) := rfl
@[simp] theorem flook_corners (v : D) : flook ["corners"] [v] "corners" = some v := rfl
theorem ground_at_ok {P n} (hf : P.fns "ground_at" = some c_ground_at) (h1 : P.fns "less" = some c_less) (h2 : P.fns "height_on" = some c_height_on) (h3 : P.fns "fraction" = some c_fraction) (hc : P.fldOk "Ground" "corners" = true) (he : P.isEx "OffGround" = true) (cs : List (Int × Int)) (hs : SmC cs) (hA : Asc cs) (hl2 : 2 ≤ cs.length) (hl : cs.length ≤ 1000) (s t : Int) (ht : 0 < t) [Sm s 400] [Sm t 400] {h Q X} (q1 : grd cs (qv s t) = none → X "OffGround" h)
    (q2 : ∀ (v : Rat) (a b : Int), grd cs (qv s t) = some v → Fr a b 1000 → qv a b = v → Q (.tup [.int a, .int b]) h) : (Gn P (n+3)).fn "ground_at" [groundD cs, .tup [.int s, .int t]] h Q X := by
  refine ⟨_, hf, rfl, ?_⟩
  obtain ⟨s1, s2⟩ := hs _ (List.getElem_mem (show 0 < cs.length by omega))
  obtain ⟨s3, s4⟩ := hs _ (List.getElem_mem (show cs.length - 1 < cs.length by omega))
  have one : Sm (1 : Int) 1 := ⟨by decide⟩
  simp [c_ground_at, hc, h1, he, pget0 (show 0 < cs.length by omega), pgetL (show 0 < cs.length by omega), idx_pair0]
  refine ⟨_, _, _, ⟨rfl, rfl, rfl⟩, hc, _, rfl, ?_⟩
  simp [pget0 (show 0 < cs.length by omega), pgetL (show 0 < cs.length by omega), idx_pair0]
  refine less_ok h1 (a := s) (b := t) (c := cs[0].1) (d := 1) (ka := 400) (kb := 400) (kc := 188) (kd := 1) (by decide) (by decide) ?_
  simp
  by_cases c1 : s < cs[0].1 * t
  · rw [if_pos c1]
    refine q1 (grd_none hA (by omega) (.inl ?_))
    exact Rat.not_le.mp fun z => by have := (le_qv ht).mpr z; omega
  · rw [if_neg c1]
    refine less_ok h1 (b := 1) (c := s) (d := t) (ka := 188) (kb := 1) (kc := 400) (kd := 400) (by decide) (by decide) ?_
    simp
    by_cases c2 : (cs[cs.length - 1]'(by omega)).1 * t < s
    · rw [if_pos c2]
      refine q1 (grd_none hA (by omega) (.inr ?_))
      exact Rat.not_le.mp fun z => by have := (qv_leI ht).mpr z; omega
    · rw [if_neg c2]
      refine WL_ind (fun σ h' => h' = h ∧ ∃ at_ : Nat, 1 ≤ at_ ∧ at_ < cs.length ∧ (∀ j, (h : j < cs.length) → 1 ≤ j → j < at_ → cs[j].1 * t < s) ∧ σ = [some (groundD cs), some (.tup [.int s, .int t]), some (.vl (cs.map pairD)), some (.int at_)]) (fun σ _ => match σ with | [_, _, _, some (.int k)] => cs.length - k.toNat | _ => 0) ?_ ⟨rfl, 1, by omega, by omega, fun j hj h1 h2 => by omega, rfl⟩
      rintro σ h' ⟨rfl, k, k1, k2, I, rfl⟩ Kn hKn
      obtain ⟨s5, s6⟩ := hs _ (List.getElem_mem k2)
      simp [h1, pget k2, idx_pair0]
      refine less_ok h1 (a := cs[k].1) (b := 1) (c := s) (d := t) (ka := 188) (kb := 1) (kc := 400) (kd := 400) (by decide) (by decide) ?_
      simp
      by_cases c3 : cs[k].1 * t < s
      · rw [if_pos c3]
        have hkl : k + 1 < cs.length := by
          rcases Nat.lt_or_ge (k + 1) cs.length with z | z
          · exact z
          · have e : k = cs.length - 1 := by omega
            simp only [e] at c3
            exact absurd c3 c2
        simp [l1_ground_at]
        refine hKn _ _ ⟨rfl, k + 1, by omega, hkl, fun j hj j1 j2 => ?_, rfl⟩ (by simp; omega)
        by_cases e : j = k
        · subst e; exact c3
        · exact I j hj j1 (by omega)
      · rw [if_neg c3]
        have hk1 : k - 1 < cs.length := by omega
        obtain ⟨s7, s8⟩ := hs _ (List.getElem_mem hk1)
        have e1 : L2.atI (cs.map pairD) ((k : Int) - 1) = some (pairD (cs[k - 1]'hk1)) := by
          rw [show ((k : Int) - 1) = ((k - 1 : Nat) : Int) by omega]; exact pget hk1
        have hlt : (cs[k - 1]'hk1).1 < cs[k].1 := asc_lt hA (by omega) k2
        simp [h2, e1, pget k2]
        have r1 : Sm (cs[k - 1]'hk1).1 190 := ⟨sm_le s7.lt (by decide)⟩
        have r2 : Sm (cs[k - 1]'hk1).2 190 := ⟨sm_le s8.lt (by decide)⟩
        have r3 : Sm cs[k].1 190 := ⟨sm_le s5.lt (by decide)⟩
        have r4 : Sm cs[k].2 190 := ⟨sm_le s6.lt (by decide)⟩
        refine height_okW h2 h3 (cs[k - 1]'hk1).1 (cs[k - 1]'hk1).2 cs[k].1 cs[k].2 s t (by omega) ht fun p r hF hq => .raw (q2 _ p r ?_ hF hq)
        have ek : k - 1 + 1 = k := by omega
        have g := grd_at (cs := cs) (u := qv s t) (i := k - 1) (by omega) ((le_qv ht).mp ?_) (by simp only [ek]; exact (qv_leI ht).mp (by omega)) (fun j hj hjk z => ?_)
        · simp only [ek] at g
          exact g
        · rcases Nat.lt_or_ge 1 k with z | z
          · have := I (k - 1) hk1 (by omega) (by omega)
            omega
          · have e0 : k - 1 = 0 := by omega
            simp only [e0]
            omega
        · have := I (j + 1) hj (by omega) (by omega)
          have := (qv_leI ht).mpr z.2
          omega
theorem cut_toG {α : Type} (xs : List α) (j : Nat) : cut xs none (some (j : Int)) = xs.take j := by
  have := cut_mid xs 0 j
  rw [List.drop_zero, Nat.sub_zero] at this
  exact this
end Vd

set_option Elab.async false
set_option linter.all false
set_option maxRecDepth 100000
namespace Vd
open PySem
/-! stands: slots 0 ground 1 spot 2 corners -/
noncomputable def c_stands : Fn := ⟨3, ["ground", "spot"], (
  .cons (.set (.nm 2) (.fld (.var 0) "corners")) <| 
  .cons (.ite (.or (.cons (.cmp .lt (.idx (.var 1) (.int 0)) (.idx (.idx (.var 2) (.int 0)) (.int 0))) (.cons (.cmp .gt (.idx (.var 1) (.int 0)) (.idx (.idx (.var 2) (.neg (.int 1))) (.int 0))) .nil))) (
    .cons (.ret (.bl false)) <| .nil) .nil) <| 
  .cons (.ret (.not (.call "less" (.cons (.tup (.cons (.idx (.var 1) (.int 1)) (.cons (.int 1) .nil))) (.cons (.call "ground_at" (.cons (.var 0) (.cons (.tup (.cons (.idx (.var 1) (.int 0)) (.cons (.int 1) .nil))) .nil))) .nil))))) <| .nil)⟩
/-! look_at_spots: slots 0 ground 1 spots 2 spot -/
noncomputable def l1_look_at_spots : Ss := (
  .cons (.ite (.not (.call "stands" (.cons (.var 0) (.cons (.var 2) .nil)))) (
    .cons (.raise "OffGround") <| .nil) .nil) <| .nil)
noncomputable def c_look_at_spots : Fn := ⟨3, ["ground", "spots"], (
  .cons (.fr (.nm 2) (.val (.var 1)) l1_look_at_spots) <| .nil)⟩
/-! between: slots 0 ground 1 one 2 other 3 left 4 right 5 k 6 corner -/
noncomputable def c_between : Fn := ⟨7, ["ground", "one", "other"], (
  .cons (.set (.nm 3) (.bi "min" false (.cons (.idx (.var 1) (.int 0)) (.cons (.idx (.var 2) (.int 0)) .nil)))) <| 
  .cons (.set (.nm 4) (.bi "max" false (.cons (.idx (.var 1) (.int 0)) (.cons (.idx (.var 2) (.int 0)) .nil)))) <| 
  .cons (.ret (.comp false (.var 5) (.tp [5, 6]) (.enum (.fld (.var 0) "corners")) (.some (.chain .lt .lt (.var 3) (.idx (.var 6) (.int 0)) (.var 4))) [5, 6])) <| .nil)⟩
/-! least_top: slots 0 ground 1 x 2 spot 3 told 4 k -/
noncomputable def l1_least_top : Ss := (
  .cons (.set (.nm 3) (.bi "max" false (.cons (.var 3) (.cons (.call "up" (.cons (.call "height_on" (.cons (.var 2) (.cons (.idx (.fld (.var 0) "corners") (.var 4)) (.cons (.tup (.cons (.var 1) (.cons (.int 1) .nil))) .nil)))) .nil)) .nil)))) <| .nil)
noncomputable def c_least_top : Fn := ⟨5, ["ground", "x", "spot"], (
  .cons (.ex (.call "look_at_spots" (.cons (.var 0) (.cons (.lst false (.cons (.var 2) .nil)) .nil)))) <| 
  .cons (.set (.nm 3) (.call "up" (.cons (.call "ground_at" (.cons (.var 0) (.cons (.tup (.cons (.var 1) (.cons (.int 1) .nil))) .nil))) .nil))) <| 
  .cons (.fr (.nm 4) (.val (.call "between" (.cons (.var 0) (.cons (.tup (.cons (.var 1) (.cons (.var 3) .nil))) (.cons (.var 2) .nil))))) l1_least_top) <| 
  .cons (.ret (.var 3)) <| .nil)⟩
/-! _law_stands: slots 0 corners 1 spot 2 height -/
/-! _law_spot: slots 0 corners 1 cell 2 k 3 m 4 first 5 x 6 height 7 z -/
noncomputable def l1__law_spot_v2 : Ss := (
  .cons (.set (.nm 6) (.call "_law_ground" (.cons (.var 0) (.cons (.tup (.cons (.var 5) (.cons (.int 1) .nil))) .nil)))) <| 
  .cons (.set (.nm 7) (.bin false .add (.neg (.bin false .fdiv (.neg (.idx (.var 6) (.int 0))) (.idx (.var 6) (.int 1)))) (.idx (.lst false (.cons (.int 0) (.cons (.int 0) (.cons (.int 1) (.cons (.int 2) (.cons (.int 5) (.cons (.int 12) .nil))))))) (.bin false .mod (.bin false .fdiv (.var 3) (.int 1000)) (.int 6))))) <| 
  .cons (.ret (.tup (.cons (.var 5) (.cons (.var 7) .nil)))) <| .nil)
noncomputable def c__law_spot_v2 : Fn := ⟨8, ["corners", "cell", "k"], (
  .cons (.set (.nm 3) (.call "_law_mixed" (.cons (.var 1) (.cons (.bin false .add (.var 2) (.int 50)) .nil)))) <| 
  .cons (.set (.nm 4) (.idx (.idx (.var 0) (.int 0)) (.int 0))) <| 
  .cons (.set (.nm 5) (.bin false .add (.var 4) (.bin false .mod (.bin false .add (.bin false .mod (.var 1) (.bin false .pow (.int 10) (.int 60))) (.var 3)) (.bin false .add (.bin false .sub (.idx (.idx (.var 0) (.neg (.int 1))) (.int 0)) (.var 4)) (.int 1))))) <| 
  .cons (.ite (.cmp .eq (.bin false .mod (.bin false .fdiv (.var 3) (.int 7)) (.int 3)) (.int 0)) (
    .cons (.set (.nm 5) (.idx (.idx (.var 0) (.bin false .mod (.bin false .fdiv (.var 3) (.int 21)) (.bi "len" false (.cons (.var 0) .nil)))) (.int 0))) <| .nil) .nil) <| l1__law_spot_v2)⟩
/-! _law_hinder: slots 0 corners 1 one 2 other 3 wide 4 k 5 x 6 z -/
/-! _law_fine: slots 0 corners 1 one 2 other -/
theorem grd_some : ∀ {cs : List (Int × Int)} {u : Rat}, (hl : 2 ≤ cs.length) → (cs[0].1 : Rat) ≤ u → u ≤ (cs[cs.length - 1]'(by omega)).1 → ∃ v, grd cs u = some v
  | a :: b :: r, u, hl, h1, h2 => by
    by_cases c : u ≤ b.1
    · exact ⟨_, by rw [grd, if_pos ⟨h1, c⟩]⟩
    · have e : grd (a :: b :: r) u = grd (b :: r) u := by
        rw [grd, if_neg fun z => c z.2]
      rw [e]
      cases r with
      | nil => exact absurd h2 c
      | cons d r =>
        refine grd_some (by simp) (show (b.1 : Rat) ≤ u by grind) ?_
        have e2 : (a :: b :: d :: r)[(a :: b :: d :: r).length - 1]'(by simp) = (b :: d :: r)[(b :: d :: r).length - 1]'(by simp) := by
          simp
        rw [e2] at h2
        exact h2
/-- whether a spot stands -/
noncomputable def stB (cs : List (Int × Int)) (x z : Int) : Bool := match grd cs (x : Rat) with
  | none => false
  | some v => decide (v ≤ (z : Rat))
theorem stB_none {cs : List (Int × Int)} {x z : Int} (h : grd cs (x : Rat) = none) : stB cs x z = false := by unfold stB; rw [h]
theorem stB_some {cs : List (Int × Int)} {x z : Int} {v : Rat} (h : grd cs (x : Rat) = some v) : stB cs x z = decide (v ≤ (z : Rat)) := by unfold stB; rw [h]
theorem stands_ok {P n} (hf : P.fns "stands" = some c_stands) (h0 : P.fns "ground_at" = some c_ground_at) (h1 : P.fns "less" = some c_less) (h2 : P.fns "height_on" = some c_height_on) (h3 : P.fns "fraction" = some c_fraction) (hc : P.fldOk "Ground" "corners" = true) (he : P.isEx "OffGround" = true) (cs : List (Int × Int)) (hs : SmC cs) (hA : Asc cs) (hl2 : 2 ≤ cs.length) (hl : cs.length ≤ 1000) (x z : Int) [Sm x 400] [Sm z 3000] {h Q X} (q : Q (.bl (stB cs x z)) h) : (Gn P (n+4)).fn "stands" [groundD cs, .tup [.int x, .int z]] h Q X := by
  refine ⟨_, hf, rfl, ?_⟩
  have hL : cs.length - 1 < cs.length := by omega
  have one : Sm (1 : Int) 400 := ⟨by decide⟩
  simp [c_stands]
  refine ⟨_, _, _, ⟨rfl, rfl, rfl⟩, hc, _, rfl, ?_⟩
  simp [h0, h1, pget0 (show 0 < cs.length by omega), pgetL (show 0 < cs.length by omega), idx_pair0]
  have ex : qv x 1 = (x : Rat) := qv_one x
  by_cases c1 : x < cs[0].1
  · rw [if_pos c1]
    rw [stB_none (grd_none hA (by omega) (.inl (Rat.intCast_lt_intCast.mpr c1)))] at q
    exact .raw q
  · rw [if_neg c1]
    by_cases c2 : cs[cs.length - 1].1 < x
    · rw [if_pos c2]
      rw [stB_none (grd_none hA (by omega) (.inr (Rat.intCast_lt_intCast.mpr c2)))] at q
      exact .raw q
    · rw [if_neg c2]
      refine ground_at_ok h0 h1 h2 h3 hc he cs hs hA hl2 hl x 1 (by decide) (fun g => ?_) fun v a b g hF hv => ?_
      · rw [ex] at g
        obtain ⟨v, hv⟩ := grd_some hl2 (Rat.intCast_le_intCast.mpr (by omega)) (Rat.intCast_le_intCast.mpr (show x ≤ (cs[cs.length - 1]'hL).1 by omega))
        rw [hv] at g; cases g
      · rw [ex] at g
        rw [stB_some g] at q
        have sa := hF.sa
        have sb := hF.sb
        have o1 : Sm (1 : Int) 1 := ⟨by decide⟩
        refine less_ok h1 (a := z) (b := 1) (c := a) (d := b) (ka := 3000) (kb := 1) (kc := 1000) (kd := 1000) (by decide) (by decide) ?_
        simp
        have e : (!decide (z * b < a)) = decide (v ≤ (z : Rat)) := by
          rw [← hv]
          by_cases c3 : a ≤ z * b
          · rw [decide_eq_true ((qv_leI hF.pos).mp c3), decide_eq_false (by omega)]; rfl
          · rw [decide_eq_false fun w => c3 ((qv_leI hF.pos).mpr w), decide_eq_true (by omega)]; rfl
        rw [e]
        exact .raw q
theorem look_ok {P n} (hf : P.fns "look_at_spots" = some c_look_at_spots) (h4 : P.fns "stands" = some c_stands) (h0 : P.fns "ground_at" = some c_ground_at) (h1 : P.fns "less" = some c_less) (h2 : P.fns "height_on" = some c_height_on) (h3 : P.fns "fraction" = some c_fraction) (hc : P.fldOk "Ground" "corners" = true) (he : P.isEx "OffGround" = true) (cs : List (Int × Int)) (hs : SmC cs) (hA : Asc cs) (hl2 : 2 ≤ cs.length) (hl : cs.length ≤ 1000) (ss : List (Int × Int)) (hss : ∀ p ∈ ss, Sm p.1 400 ∧ Sm p.2 3000) {h Q X}
    (q1 : (∀ p ∈ ss, stB cs p.1 p.2 = true) → Q .non h) (q2 : (∃ p ∈ ss, stB cs p.1 p.2 = false) → X "OffGround" h) : (Gn P (n+5)).fn "look_at_spots" [groundD cs, .vl (ss.map pairD)] h Q X := by
  refine ⟨_, hf, rfl, ?_⟩
  simp [c_look_at_spots]
  refine FL_map pairD ss (fun k σ h' => h' = h ∧ (∀ p ∈ ss.take k, stB cs p.1 p.2 = true) ∧ ∃ a, σ = [some (groundD cs), some (.vl (ss.map pairD)), a]) ⟨rfl, by simp, _, rfl⟩ (fun _ _ _ _ _ => trivial) ?_ ?_
  · rintro k p σ h' hx hk ⟨rfl, I, a, rfl⟩ Kn hKn
    obtain ⟨s1, s2⟩ := hss p (List.mem_of_getElem? hx)
    simp [l1_look_at_spots, h4, pairD, he]
    refine stands_ok h4 h0 h1 h2 h3 hc he cs hs hA hl2 hl p.1 p.2 ?_
    simp
    cases e : stB cs p.1 p.2 with
    | false =>
      simp
      exact q2 ⟨p, List.mem_of_getElem? hx, e⟩
    | true =>
      simp
      refine hKn _ _ ⟨rfl, fun r hr => ?_, _, rfl⟩
      rw [List.take_succ, hx] at hr
      rcases List.mem_append.mp hr with y | y
      · exact I r y
      · have : r = p := by simpa using y
        rw [this]; exact e
  · rintro σ h' ⟨rfl, I, a, rfl⟩
    rw [List.take_length] at I
    exact .raw (q1 I)
end Vd

set_option Elab.async false
set_option linter.all false
set_option maxRecDepth 100000
namespace Vd
open PySem
/-! hinder: slots 0 ground 1 one 2 other 3 k -/
noncomputable def l1_hinder : Ss := (
  .cons (.ite (.cmp .gt (.call "side_of" (.cons (.var 1) (.cons (.var 2) (.cons (.idx (.fld (.var 0) "corners") (.var 3)) .nil)))) (.int 0)) (
    .cons (.ret (.var 3)) <| .nil) .nil) <| .nil)
noncomputable def c_hinder : Fn := ⟨4, ["ground", "one", "other"], (
  .cons (.ex (.call "look_at_spots" (.cons (.var 0) (.cons (.lst false (.cons (.var 1) (.cons (.var 2) .nil))) .nil)))) <| 
  .cons (.fr (.nm 3) (.val (.call "between" (.cons (.var 0) (.cons (.var 1) (.cons (.var 2) .nil))))) l1_hinder) <| 
  .cons (.ret (.non)) <| .nil)⟩
/-! clear: slots 0 ground 1 one 2 other -/
noncomputable def c_clear : Fn := ⟨3, ["ground", "one", "other"], (
  .cons (.ret (.cmp .is (.call "hinder" (.cons (.var 0) (.cons (.var 1) (.cons (.var 2) .nil)))) (.non))) <| .nil)⟩
theorem sideof_okW {P n} (hf : P.fns "side_of" = some c_side_of) (x y z w s t : Int) [Sm x 3000] [Sm y 3000] [Sm z 3000] [Sm w 3000] [Sm s 3000] [Sm t 3000] (hne : x ≠ z) {h Q X} (q : Q (.int (sideN x y z w s t)) h) : (Gn P (n+1)).fn "side_of" [.tup [.int x, .int y], .tup [.int z, .int w], .tup [.int s, .int t]] h Q X := by
  refine ⟨_, hf, rfl, ?_⟩
  simp [c_side_of]
  have key : ∀ a b : Int, ((if b < a then (1 : Int) else 0) - if a - b < 0 then 1 else 0) = (a - b).sign := fun a b => by
    rw [← sgn_ok]
    congr 1
    by_cases h : b < a
    · rw [if_pos h, if_pos (by omega)]
    · rw [if_neg h, if_neg (by omega)]
  split
  · rename_i hlt
    refine ⟨mul_ok (by decide), mul_ok (by decide), .raw ?_⟩
    rw [key]
    have e : sideN x y z w s t = ((t - w) * (x - z) - (y - w) * (s - z)).sign := by
      unfold sideN
      rw [Int.sign_mul, Int.sign_eq_neg_one_of_neg (show z - x < 0 by omega), Int.mul_neg_one, ← Int.sign_neg]
      congr 1
      grind
    rw [← e]; exact q
  · refine ⟨mul_ok (by decide), mul_ok (by decide), .raw ?_⟩
    rw [key]
    have e : sideN x y z w s t = ((t - y) * (z - x) - (w - y) * (s - x)).sign := by
      unfold sideN
      rw [Int.sign_mul, Int.sign_eq_one_of_pos (show 0 < z - x by omega), Int.mul_one]
    rw [← e]; exact q
theorem max_ifG2 (i j : Int) : (if i < j then j else i) = max i j := by rw [Int.max_def]; split <;> split <;> omega
theorem min_ifG2 (i j : Int) : (if j < i then j else i) = min i j := by rw [Int.min_def]; split <;> split <;> omega
/-- strictly between two places -/
noncomputable def btw (a b c : Int × Int) : Bool := decide (min a.1 b.1 < c.1) && decide (c.1 < max a.1 b.1)
/-- keeps two spots from being clear -/
noncomputable def bad (a b c : Int × Int) : Bool := btw a b c && decide (0 < sideN a.1 a.2 b.1 b.2 c.1 c.2)
noncomputable def numD (p : (Int × Int) × Nat) : D := .int p.2
noncomputable def enumD (p : (Int × Int) × Nat) : D := .tup [.int p.2, pairD p.1]
/-- the corners between, with their numbers -/
noncomputable def btwL (cs : List (Int × Int)) (a b : Int × Int) : List ((Int × Int) × Nat) := cs.zipIdx.filter fun p => btw a b p.1
theorem enum_pairs (cs : List (Int × Int)) : ((cs.map pairD).zipIdx.map fun p => D.tup [.int p.2, p.1]) = cs.zipIdx.map enumD := by
  rw [List.zipIdx_map, List.map_map]; rfl
theorem btwL_mem {cs : List (Int × Int)} {a b : Int × Int} {p : (Int × Int) × Nat} (h : p ∈ btwL cs a b) : cs[p.2]? = some p.1 ∧ btw a b p.1 = true := by
  unfold btwL at h
  obtain ⟨h1, h2⟩ := List.mem_filter.mp h
  refine ⟨?_, h2⟩
  have := List.mem_zipIdx' (x := p.1) (i := p.2) h1
  rw [List.getElem?_eq_getElem this.1]
  exact congrArg some this.2.symm
theorem between_ok {P n} (hf : P.fns "between" = some c_between) (hc : P.fldOk "Ground" "corners" = true) (cs : List (Int × Int)) (hl : cs.length ≤ 1000) (a b : Int × Int) {h Q X} (q : Q (.vl ((btwL cs a b).map numD)) h) : (Gn P (n+1)).fn "between" [groundD cs, pairD a, pairD b] h Q X := by
  refine ⟨_, hf, rfl, ?_⟩
  simp [c_between, pairD]
  refine ⟨_, _, _, ⟨rfl, rfl, rfl⟩, hc, _, rfl, ?_⟩
  refine ⟨_, rdS_vl _ _, ?_⟩
  have e1 := enum_pairs cs
  have e2 : (List.map (fun p : D × Nat => D.tup [D.int ↑p.2, p.1]) (List.map pairD cs).zipIdx) = cs.zipIdx.map enumD := e1
  simp only [e2]
  refine CL_sel cs.zipIdx enumD numD (fun p => btw a b p.1) (rdS_vl _ _) (by rw [List.length_zipIdx]; omega) (fun p hp Ka Ks hKa hKs => ?_) ?_
  · simp [enumD, Vd.wipe, idx_pair0, max_ifG2, min_ifG2]
    unfold btw at hKa hKs
    by_cases c1 : min a.1 b.1 < p.1.1
    · rw [if_pos c1]
      by_cases c2 : p.1.1 < max a.1 b.1
      · rw [if_pos c2]
        exact hKa (by rw [decide_eq_true c1, decide_eq_true c2]; rfl)
      · rw [if_neg c2]
        exact hKs (by rw [decide_eq_true c1, decide_eq_false c2]; rfl)
    · rw [if_neg c1]
      exact hKs (by rw [decide_eq_false c1]; rfl)
  · have l1 : (cs.zipIdx.filter fun p => btw a b p.1).length ≤ cs.zipIdx.length := List.length_filter_le _ _
    rw [List.length_zipIdx] at l1
    exact ⟨by rw [List.length_map]; omega, .raw q⟩
noncomputable def hind (cs : List (Int × Int)) (a b : Int × Int) : Option Nat := (cs.zipIdx.find? fun p => bad a b p.1).map (·.2)
theorem hind_eq (cs : List (Int × Int)) (a b : Int × Int) : hind cs a b = ((btwL cs a b).find? fun p => decide (0 < sideN a.1 a.2 b.1 b.2 p.1.1 p.1.2)).map (·.2) := by
  unfold hind btwL
  rw [List.find?_filter]
  congr 2
  funext p
  unfold bad
  cases btw a b p.1 <;> simp
noncomputable def optN : Option Nat → D
  | none => .non
  | some k => .int k
theorem hinder_ok {P n} (hf : P.fns "hinder" = some c_hinder) (h5 : P.fns "look_at_spots" = some c_look_at_spots) (h6 : P.fns "between" = some c_between) (h7 : P.fns "side_of" = some c_side_of) (h4 : P.fns "stands" = some c_stands) (h0 : P.fns "ground_at" = some c_ground_at) (h1 : P.fns "less" = some c_less) (h2 : P.fns "height_on" = some c_height_on) (h3 : P.fns "fraction" = some c_fraction) (hc : P.fldOk "Ground" "corners" = true) (he : P.isEx "OffGround" = true) (cs : List (Int × Int)) (hs : SmC cs) (hA : Asc cs) (hl2 : 2 ≤ cs.length) (hl : cs.length ≤ 1000) (a b : Int × Int) (sa1 : Sm a.1 400) (sa2 : Sm a.2 3000) (sb1 : Sm b.1 400) (sb2 : Sm b.2 3000) {h Q X}
    (q1 : stB cs a.1 a.2 = true → stB cs b.1 b.2 = true → Q (optN (hind cs a b)) h) (q2 : ¬ (stB cs a.1 a.2 = true ∧ stB cs b.1 b.2 = true) → X "OffGround" h) : (Gn P (n+6)).fn "hinder" [groundD cs, pairD a, pairD b] h Q X := by
  refine ⟨_, hf, rfl, ?_⟩
  simp [c_hinder, h5, h6]
  rw [show ([pairD a, pairD b] : List D) = List.map pairD [a, b] from rfl]
  refine look_ok h5 h4 h0 h1 h2 h3 hc he cs hs hA hl2 hl [a, b] (by
    intro p hp
    rcases List.mem_cons.mp hp with rfl | hp
    · exact ⟨sa1, sa2⟩
    · rw [List.mem_singleton.mp hp]; exact ⟨sb1, sb2⟩) (fun g => ?_) fun g => ?_
  · have ga := g a (by simp)
    have gb := g b (by simp)
    have q1 := q1 ga gb
    rw [hind_eq] at q1
    refine between_ok h6 hc cs hl a b ?_
    simp
    refine FL_map numD (btwL cs a b) (fun k σ h' => h' = h ∧ ((btwL cs a b).find? fun p => decide (0 < sideN a.1 a.2 b.1 b.2 p.1.1 p.1.2)) = (((btwL cs a b).drop k).find? fun p => decide (0 < sideN a.1 a.2 b.1 b.2 p.1.1 p.1.2)) ∧ ∃ u, σ = [some (groundD cs), some (pairD a), some (pairD b), u]) ⟨rfl, rfl, _, rfl⟩ (fun _ _ _ _ _ => trivial) ?_ ?_
    · rintro k p σ h' hx hk ⟨rfl, I, u, rfl⟩ Kn hKn
      obtain ⟨p1, p2⟩ := btwL_mem (List.mem_of_getElem? hx)
      have hpl := (List.getElem?_eq_some_iff.mp p1).1
      obtain ⟨s1, s2⟩ := hs p.1 (List.mem_of_getElem? p1)
      have e1 : L2.atI (cs.map pairD) (p.2 : Int) = some (pairD p.1) := by
        rw [atI_nat, List.getElem?_map, p1]; rfl
      simp [l1_hinder, h7, numD]
      refine ⟨_, _, _, ⟨rfl, rfl, rfl⟩, hc, _, rfl, ?_⟩
      simp [e1, pairD]
      have hne : a.1 ≠ b.1 := by
        unfold btw at p2
        simp only [Bool.and_eq_true, decide_eq_true_eq] at p2
        omega
      have t1 : Sm a.1 3000 := ⟨sm_le sa1.lt (by decide)⟩
      have t2 : Sm b.1 3000 := ⟨sm_le sb1.lt (by decide)⟩
      have t3 : Sm p.1.1 3000 := ⟨sm_le s1.lt (by decide)⟩
      have t4 : Sm p.1.2 3000 := ⟨sm_le s2.lt (by decide)⟩
      refine sideof_okW h7 a.1 a.2 b.1 b.2 p.1.1 p.1.2 hne ?_
      simp
      have hk : k < (btwL cs a b).length := (List.getElem?_eq_some_iff.mp hx).1
      have ed : (btwL cs a b).drop k = p :: (btwL cs a b).drop (k + 1) := by
        rw [List.drop_eq_getElem_cons hk]
        congr 1
        exact (List.getElem?_eq_some_iff.mp hx).2
      rw [ed, List.find?_cons] at I
      by_cases c : 0 < sideN a.1 a.2 b.1 b.2 p.1.1 p.1.2
      · rw [if_pos c]
        rw [decide_eq_true c] at I
        rw [I] at q1
        exact .raw q1
      · rw [if_neg c]
        rw [decide_eq_false c] at I
        exact hKn _ _ ⟨rfl, I, _, rfl⟩
    · rintro σ h' ⟨rfl, I, u, rfl⟩
      rw [List.drop_length, List.find?_nil] at I
      rw [I] at q1
      simp
      exact .raw q1
  · refine .inl (q2 fun z => ?_)
    obtain ⟨p, hp, e⟩ := g
    rcases List.mem_cons.mp hp with rfl | hp
    · rw [z.1] at e; cases e
    · rw [List.mem_singleton.mp hp, z.2] at e; cases e
end Vd

set_option Elab.async false
set_option linter.all false
set_option maxRecDepth 100000
namespace Vd
open PySem

theorem clear_ok {P n} (hf : P.fns "clear" = some c_clear) (h8 : P.fns "hinder" = some c_hinder) (h5 : P.fns "look_at_spots" = some c_look_at_spots) (h6 : P.fns "between" = some c_between) (h7 : P.fns "side_of" = some c_side_of) (h4 : P.fns "stands" = some c_stands) (h0 : P.fns "ground_at" = some c_ground_at) (h1 : P.fns "less" = some c_less) (h2 : P.fns "height_on" = some c_height_on) (h3 : P.fns "fraction" = some c_fraction) (hc : P.fldOk "Ground" "corners" = true) (he : P.isEx "OffGround" = true) (cs : List (Int × Int)) (hs : SmC cs) (hA : Asc cs) (hl2 : 2 ≤ cs.length) (hl : cs.length ≤ 1000) (a b : Int × Int) (sa1 : Sm a.1 400) (sa2 : Sm a.2 3000) (sb1 : Sm b.1 400) (sb2 : Sm b.2 3000) {h Q X}
    (q1 : stB cs a.1 a.2 = true → stB cs b.1 b.2 = true → Q (.bl (hind cs a b).isNone) h) (q2 : ¬ (stB cs a.1 a.2 = true ∧ stB cs b.1 b.2 = true) → X "OffGround" h) : (Gn P (n+7)).fn "clear" [groundD cs, pairD a, pairD b] h Q X := by
  refine ⟨_, hf, rfl, ?_⟩
  simp [c_clear, h8]
  refine hinder_ok h8 h5 h6 h7 h4 h0 h1 h2 h3 hc he cs hs hA hl2 hl a b sa1 sa2 sb1 sb2 (fun g1 g2 => ?_) fun g => ?_
  · have q1 := q1 g1 g2
    cases e : hind cs a b with
    | none =>
      rw [e] at q1
      simp [optN]
      exact .raw q1
    | some k =>
      rw [e] at q1
      simp [optN]
      exact .raw q1
  · exact .inl (q2 g)
theorem bad_swap (a b c : Int × Int) : bad a b c = bad b a c := by
  unfold bad btw
  rw [Int.min_comm, Int.max_comm, sideN_swap]
theorem bad_le {a b c : Int × Int} (h : a.1 ≤ b.1) : bad a b c = true ↔ a.1 < c.1 ∧ c.1 < b.1 ∧ (b.2 - a.2) * (c.1 - a.1) < (c.2 - a.2) * (b.1 - a.1) := by
  unfold bad btw
  rw [Int.min_eq_left h, Int.max_eq_right h]
  simp only [Bool.and_eq_true, decide_eq_true_eq]
  constructor
  · rintro ⟨⟨h1, h2⟩, h3⟩
    refine ⟨h1, h2, ?_⟩
    unfold sideN at h3
    rw [Int.sign_mul, Int.sign_eq_one_of_pos (show 0 < b.1 - a.1 by omega), Int.mul_one, Int.sign_pos_iff] at h3
    omega
  · rintro ⟨h1, h2, h3⟩
    refine ⟨⟨h1, h2⟩, ?_⟩
    unfold sideN
    rw [Int.sign_mul, Int.sign_eq_one_of_pos (show 0 < b.1 - a.1 by omega), Int.mul_one, Int.sign_pos_iff]
    omega
end Vd

set_option Elab.async false
set_option linter.all false
set_option maxRecDepth 100000
/-! ropes: the stack over points -/
namespace Vd
open PySem
noncomputable abbrev Pt := Int × Int
/-- b is above the line through a and c -/
noncomputable def Up (a c b : Pt) : Prop := 0 < sideN a.1 a.2 c.1 c.2 b.1 b.2
noncomputable instance (a c b : Pt) : Decidable (Up a c b) := inferInstanceAs (Decidable (0 < _))
theorem Up.swap {a b c : Pt} : Up a c b ↔ Up c a b := by unfold Up; rw [sideN_swap]
noncomputable def sl (a b : Pt) : Rat := qv (b.2 - a.2) (b.1 - a.1)
theorem sl_lt {a b c d : Pt} (h : a.1 < b.1) (h2 : c.1 < d.1) : sl a b < sl c d ↔ (b.2 - a.2) * (d.1 - c.1) < (d.2 - c.2) * (b.1 - a.1) := (qv_lt (by omega) (by omega)).symm
theorem up_sl {a b c : Pt} (h1 : a.1 < b.1) (h2 : b.1 < c.1) : Up a c b ↔ sl b c < sl a b := by
  rw [sl_lt h2 h1]
  unfold Up sideN
  rw [Int.sign_mul, Int.sign_eq_one_of_pos (show 0 < c.1 - a.1 by omega), Int.mul_one, Int.sign_pos_iff]
  have e1 : (b.2 - a.2) * (c.1 - a.1) = (b.2 - a.2) * (c.1 - b.1) + (b.2 - a.2) * (b.1 - a.1) := by rw [← Int.mul_add]; congr 1; omega
  have e2 : (c.2 - a.2) * (b.1 - a.1) = (c.2 - b.2) * (b.1 - a.1) + (b.2 - a.2) * (b.1 - a.1) := by rw [← Int.add_mul]; congr 1; omega
  rw [e1, e2]
  omega
section
variable {a b c : Pt} (h1 : a.1 < b.1) (h2 : b.1 < c.1)
include h1 h2
theorem med_core : (sl a b < sl a c ↔ sl a b < sl b c) ∧ (sl a c < sl b c ↔ sl a b < sl b c) ∧ (sl a c < sl a b ↔ sl b c < sl a b) ∧ (sl b c < sl a c ↔ sl b c < sl a b) := by
  have h3 : a.1 < c.1 := by omega
  rw [sl_lt h1 h3, sl_lt h1 h2, sl_lt h3 h2, sl_lt h3 h1, sl_lt h2 h1, sl_lt h2 h3]
  have e1 : (b.2 - a.2) * (c.1 - a.1) = (b.2 - a.2) * (c.1 - b.1) + (b.2 - a.2) * (b.1 - a.1) := by rw [← Int.mul_add]; congr 1; omega
  have e2 : (c.2 - a.2) * (b.1 - a.1) = (c.2 - b.2) * (b.1 - a.1) + (b.2 - a.2) * (b.1 - a.1) := by rw [← Int.add_mul]; congr 1; omega
  have e3 : (c.2 - a.2) * (c.1 - b.1) = (c.2 - b.2) * (c.1 - b.1) + (b.2 - a.2) * (c.1 - b.1) := by rw [← Int.add_mul]; congr 1; omega
  have e4 : (c.2 - b.2) * (c.1 - a.1) = (c.2 - b.2) * (c.1 - b.1) + (c.2 - b.2) * (b.1 - a.1) := by rw [← Int.mul_add]; congr 1; omega
  rw [e1, e2, e3, e4]
  omega
theorem med1 : sl a b < sl a c ↔ sl a b < sl b c := (med_core h1 h2).1
theorem med2 : sl a c < sl b c ↔ sl a b < sl b c := (med_core h1 h2).2.1
theorem med3 : sl a c < sl a b ↔ sl b c < sl a b := (med_core h1 h2).2.2.1
theorem med4 : sl b c < sl a c ↔ sl b c < sl a b := (med_core h1 h2).2.2.2
theorem le1 : sl a b ≤ sl a c ↔ sl a b ≤ sl b c := by rw [← Rat.not_lt, ← Rat.not_lt, med3 h1 h2]
theorem le2 : sl a c ≤ sl b c ↔ sl a b ≤ sl b c := by rw [← Rat.not_lt, ← Rat.not_lt, med4 h1 h2]
theorem le3 : sl a c ≤ sl a b ↔ sl b c ≤ sl a b := by rw [← Rat.not_lt, ← Rat.not_lt, med1 h1 h2]
theorem le4 : sl b c ≤ sl a c ↔ sl b c ≤ sl a b := by rw [← Rat.not_lt, ← Rat.not_lt, med2 h1 h2]
end
theorem rlt {x y z : Rat} (a : x < y) (b : y < z) : x < z := by grind
theorem rll {x y z : Rat} (a : x < y) (b : y ≤ z) : x < z := by grind
theorem rcases_le (x y : Rat) : x ≤ y ∨ y < x := by
  rcases Classical.em (y < x) with h | h
  · exact .inr h
  · exact .inl (Rat.not_lt.mp h)

/-! ### the rope: a stack, its top first -/
noncomputable def popR (s : Pt) : List Pt → List Pt
  | [] => []
  | [t] => [t]
  | t :: u :: r => if Up u s t then t :: u :: r else popR s (u :: r)
noncomputable def pushR (l : List Pt) (s : Pt) : List Pt := s :: popR s l
noncomputable abbrev Dsc (l : List Pt) : Prop := l.Pairwise fun a b => b.1 < a.1
/-- between neighbours all lies below; the last one is the first of all -/
noncomputable def Chn (qs : List Pt) : List Pt → Prop
  | [] => False
  | [x] => ∀ p ∈ qs, x.1 ≤ p.1
  | t :: u :: r => (∀ p ∈ qs, u.1 < p.1 → p.1 < t.1 → sl u p ≤ sl p t) ∧ Chn qs (u :: r)
/-- above all chords -/
noncomputable def Vx (qs l : List Pt) : Prop := ∀ v ∈ l, ∀ q ∈ qs, ∀ r ∈ qs, q.1 < v.1 → v.1 < r.1 → sl v r < sl q v
structure Stk (qs l : List Pt) (s : Pt) : Prop where
  ne : l ≠ []
  dsc : Dsc l
  sub : ∀ v ∈ l, v ∈ qs
  chn : Chn qs l
  vx : Vx qs l
  gap : ∀ t r, l = t :: r → ∀ p ∈ qs, t.1 < p.1 → sl t p ≤ sl p s
noncomputable abbrev Inj (qs : List Pt) : Prop := ∀ p ∈ qs, ∀ q ∈ qs, p.1 = q.1 → p = q
theorem pop_ok {qs : List Pt} {s : Pt} (hi : Inj qs) (hs : ∀ q ∈ qs, q.1 < s.1) : ∀ {l : List Pt}, Stk qs l s → Stk qs (popR s l) s ∧ ∀ t u r, popR s l = t :: u :: r → Up u s t
  | [], K => absurd rfl K.ne
  | [t], K => ⟨K, fun t u r e => by simp [popR] at e⟩
  | t :: u :: r, K => by
    unfold popR
    by_cases c : Up u s t
    · rw [if_pos c]
      exact ⟨K, fun t' u' r' e => by cases e; exact c⟩
    · rw [if_neg c]
      have hut : u.1 < t.1 := (List.pairwise_cons.mp K.dsc).1 u (by simp)
      have htq := K.sub t (by simp)
      have hts : t.1 < s.1 := hs t htq
      have c' : sl u t ≤ sl t s := by
        rw [up_sl hut hts] at c
        exact Rat.not_lt.mp c
      refine pop_ok hi hs ⟨by simp, (List.pairwise_cons.mp K.dsc).2, fun v hv => K.sub v (List.mem_cons_of_mem _ hv), K.chn.2, fun v hv => K.vx v (List.mem_cons_of_mem _ hv), fun t' r' e p hp hlt => ?_⟩
      cases e
      have hps := hs p hp
      rcases Int.lt_trichotomy p.1 t.1 with h | h | h
      · have k1 := K.chn.1 p hp hlt h
        have k3 : sl u p ≤ sl t s := Rat.le_trans ((le1 hlt h).mpr k1) c'
        rcases rcases_le (sl p t) (sl t s) with g | g
        · exact Rat.le_trans k1 ((le1 h hts).mpr g)
        · exact Rat.le_trans k3 ((le4 h hts).mpr (Rat.le_of_lt g))
      · rw [hi p hp t htq h]; exact c'
      · have k1 := K.gap t _ rfl p hp h
        have k2 : sl t s ≤ sl p s := (le2 h hps).mpr k1
        have k3 : sl u t ≤ sl p s := Rat.le_trans c' k2
        rcases rcases_le (sl u t) (sl t p) with g | g
        · exact Rat.le_trans ((le2 hut h).mpr g) k1
        · exact Rat.le_trans ((le3 hut h).mpr (Rat.le_of_lt g)) k3
structure Hul (qs l : List Pt) : Prop where
  ne : l ≠ []
  hd : l.head? = qs.head?
  dsc : Dsc l
  sub : ∀ v ∈ l, v ∈ qs
  chn : Chn qs l
  vx : Vx qs l
theorem dsc_inj {qs : List Pt} (h : Dsc qs) : Inj qs := by
  intro p hp q hq e
  obtain ⟨i, hi, rfl⟩ := List.getElem_of_mem hp
  obtain ⟨j, hj, rfl⟩ := List.getElem_of_mem hq
  rcases Nat.lt_trichotomy i j with z | z | z
  · have := List.pairwise_iff_getElem.mp h i j hi hj z; omega
  · subst z; rfl
  · have := List.pairwise_iff_getElem.mp h j i hj hi z; omega
theorem chn_more {qs : List Pt} {s : Pt} (hs : ∀ q ∈ qs, q.1 < s.1) : ∀ {l : List Pt}, (∀ v ∈ l, v ∈ qs) → Chn qs l → Chn (s :: qs) l
  | [], _, c => c
  | [x], h, c => fun p hp => by
    rcases List.mem_cons.mp hp with rfl | hp
    · have := hs x (h x (by simp)); omega
    · exact c p hp
  | t :: u :: r, h, c => ⟨fun p hp a b => by
    rcases List.mem_cons.mp hp with rfl | hp
    · have := hs t (h t (by simp)); omega
    · exact c.1 p hp a b, chn_more hs (fun v hv => h v (List.mem_cons_of_mem _ hv)) c.2⟩
/-- before the top all is above the last edge's slope -/
theorem edge_ok {qs : List Pt} (hi : Inj qs) {t u : Pt} {r : List Pt} (dsc : Dsc (t :: u :: r)) (sub : ∀ v ∈ t :: u :: r, v ∈ qs) (chn : Chn qs (t :: u :: r)) (vx : Vx qs (t :: u :: r)) {q : Pt} (hq : q ∈ qs) (h : q.1 < t.1) : sl u t ≤ sl q t := by
  have hut : u.1 < t.1 := (List.pairwise_cons.mp dsc).1 u (by simp)
  rcases Int.lt_trichotomy q.1 u.1 with z | z | z
  · have := vx u (by simp) q hq t (sub t (by simp)) z hut
    exact Rat.le_of_lt ((med4 z hut).mpr this)
  · rw [hi q hq u (sub u (by simp)) z]; exact Rat.le_refl
  · exact (le2 z h).mpr (chn.1 q hq z h)
theorem push_ok {qs l : List Pt} {s : Pt} (hd : Dsc (s :: qs)) (K : Hul qs l) : Hul (s :: qs) (pushR l s) := by
  have hs : ∀ q ∈ qs, q.1 < s.1 := (List.pairwise_cons.mp hd).1
  have hi := dsc_inj (List.pairwise_cons.mp hd).2
  have gap : ∀ t r, l = t :: r → ∀ p ∈ qs, t.1 < p.1 → sl t p ≤ sl p s := by
    intro t r e p hp hlt
    have hh := K.hd
    rw [e] at hh
    cases qs with
    | nil => cases hp
    | cons z zs =>
      simp at hh
      subst hh
      rcases List.mem_cons.mp hp with rfl | hp
      · omega
      · have := (List.pairwise_cons.mp (List.pairwise_cons.mp hd).2).1 p hp
        omega
  obtain ⟨S, hst⟩ := pop_ok hi hs ⟨K.ne, K.dsc, K.sub, K.chn, K.vx, gap⟩
  unfold pushR
  generalize popR s l = m at S hst
  have key : ∀ v ∈ m, ∀ q ∈ qs, q.1 < v.1 → sl v s < sl q v := by
    cases m with
    | nil => exact absurd rfl S.ne
    | cons t m =>
      cases m with
      | nil =>
        intro v hv q hq h
        have : v = t := by simpa using hv
        subst this
        have := S.chn q hq
        omega
      | cons u r =>
        have hut : u.1 < t.1 := (List.pairwise_cons.mp S.dsc).1 u (by simp)
        have hts : t.1 < s.1 := hs t (S.sub t (by simp))
        have top : ∀ q ∈ qs, q.1 < t.1 → sl t s < sl q t := fun q hq h => rll ((up_sl hut hts).mp (hst t u r rfl)) (edge_ok hi S.dsc S.sub S.chn S.vx hq h)
        intro v hv q hq h
        rcases List.mem_cons.mp hv with rfl | hv'
        · exact top q hq h
        · have hvt : v.1 < t.1 := (List.pairwise_cons.mp S.dsc).1 v hv'
          have k1 := S.vx v hv q hq t (S.sub t (by simp)) h hvt
          have k2 := top v (S.sub v hv) hvt
          exact rlt ((med3 hvt hts).mpr k2) k1
  refine ⟨by simp, rfl, List.pairwise_cons.mpr ⟨fun v hv => hs v (S.sub v hv), S.dsc⟩, fun v hv => ?_, ?_, ?_⟩
  · rcases List.mem_cons.mp hv with rfl | hv
    · simp
    · exact List.mem_cons_of_mem _ (S.sub v hv)
  · cases m with
    | nil => exact absurd rfl S.ne
    | cons t m =>
      refine ⟨fun p hp a b => ?_, chn_more hs S.sub S.chn⟩
      rcases List.mem_cons.mp hp with rfl | hp
      · omega
      · exact S.gap t m rfl p hp a
  · intro v hv q hq r hr h1 h2
    have hsr : ∀ x ∈ s :: qs, x.1 ≤ s.1 := fun x hx => by
      rcases List.mem_cons.mp hx with rfl | hx
      · omega
      · have := hs x hx; omega
    rcases List.mem_cons.mp hv with rfl | hv2
    · have := hsr r hr; omega
    · have hvs := hs v (S.sub v hv2)
      rcases List.mem_cons.mp hq with rfl | hq2
      · omega
      · rcases List.mem_cons.mp hr with rfl | hr2
        · exact key v hv2 q hq2 h1
        · exact S.vx v hv2 q hq2 r hr2 h1 h2
/-- the rope's stack over all points, the first one and what follows -/
noncomputable def ropeR (p : Pt) (ps : List Pt) : List Pt := ps.foldl pushR [p]
theorem rope_hul : ∀ (ps : List Pt) {qs l : List Pt}, Dsc (ps.reverse ++ qs) → Hul qs l → Hul (ps.reverse ++ qs) (ps.foldl pushR l)
  | [], _, _, _, K => K
  | s :: ps, qs, l, hd, K => by
    rw [List.reverse_cons, List.append_assoc, List.singleton_append] at hd ⊢
    exact rope_hul ps hd (push_ok (List.pairwise_append.mp hd).2.1 K)
theorem rope_one (p : Pt) : Hul [p] [p] := ⟨by simp, rfl, by simp, by simp, fun q hq => by simp at hq; rw [hq]; exact Int.le_refl _, fun v hv q hq r hr a b => by simp at hv hq; rw [hv, hq] at a; omega⟩
/-- is it above all chords -/
noncomputable def Vtx (qs : List Pt) (v : Pt) : Prop := ∀ q ∈ qs, ∀ r ∈ qs, q.1 < v.1 → v.1 < r.1 → Up q r v
theorem chn_get {qs : List Pt} : ∀ {l : List Pt}, Chn qs l → ∀ p ∈ qs, (∀ x, l.head? = some x → p.1 ≤ x.1) → (∃ v ∈ l, v.1 = p.1) ∨ ∃ t ∈ l, ∃ u ∈ l, u.1 < p.1 ∧ p.1 < t.1 ∧ sl u p ≤ sl p t
  | [], c, _, _, _ => c.elim
  | [x], c, p, hp, h => .inl ⟨x, by simp, by have := c p hp; have := h x rfl; omega⟩
  | t :: u :: r, c, p, hp, h => by
    have ht := h t rfl
    rcases Classical.em (p.1 = t.1) with e | e
    · exact .inl ⟨t, by simp, e.symm⟩
    · rcases Classical.em (u.1 < p.1) with g | g
      · exact .inr ⟨t, by simp, u, by simp, g, by omega, c.1 p hp g (by omega)⟩
      · rcases chn_get c.2 p hp (fun x hx => by cases hx; omega) with ⟨v, hv, e⟩ | ⟨t', h1, u', h2, k⟩
        · exact .inl ⟨v, List.mem_cons_of_mem _ hv, e⟩
        · exact .inr ⟨t', List.mem_cons_of_mem _ h1, u', List.mem_cons_of_mem _ h2, k⟩
theorem hul_vtx {qs l : List Pt} (hd : Dsc qs) (K : Hul qs l) {p : Pt} (hp : p ∈ qs) : p ∈ l ↔ Vtx qs p := by
  constructor
  · intro h q hq r hr a b
    exact (up_sl a b).mpr (K.vx p h q hq r hr a b)
  · intro h
    have hh : ∀ x, l.head? = some x → p.1 ≤ x.1 := by
      intro x hx
      rw [K.hd] at hx
      cases qs with
      | nil => cases hp
      | cons z zs =>
        cases hx
        rcases List.mem_cons.mp hp with rfl | hp
        · exact Int.le_refl _
        · have := (List.pairwise_cons.mp hd).1 p hp
          omega
    rcases chn_get K.chn p hp hh with ⟨v, hv, e⟩ | ⟨t, h1, u, h2, a, b, k⟩
    · rw [← dsc_inj hd v (K.sub v hv) p hp e]; exact hv
    · have := (up_sl a b).mp (h u (K.sub u h2) t (K.sub t h1) a b)
      exact absurd k (Rat.not_le.mpr this)
/-- two falling lists of the same members -/
theorem dsc_eq : ∀ {as bs : List Pt}, Dsc as → Dsc bs → (∀ x, x ∈ as ↔ x ∈ bs) → as = bs
  | [], [], _, _, _ => rfl
  | [], b :: bs, _, _, h => by have := (h b).mpr (by simp); cases this
  | a :: as, [], _, _, h => by have := (h a).mp (by simp); cases this
  | a :: as, b :: bs, ha, hb, h => by
    have pa := List.pairwise_cons.mp ha
    have pb := List.pairwise_cons.mp hb
    have e : a = b := by
      rcases List.mem_cons.mp ((h a).mp (by simp)) with e | e
      · exact e
      · rcases List.mem_cons.mp ((h b).mpr (by simp)) with e2 | e2
        · exact e2.symm
        · have := pb.1 a e
          have := pa.1 b e2
          omega
    subst e
    congr 1
    refine dsc_eq pa.2 pb.2 fun x => ⟨fun hx => ?_, fun hx => ?_⟩
    · rcases List.mem_cons.mp ((h x).mp (List.mem_cons_of_mem _ hx)) with e | e
      · subst e; have := pa.1 x hx; omega
      · exact e
    · rcases List.mem_cons.mp ((h x).mpr (List.mem_cons_of_mem _ hx)) with e | e
      · subst e; have := pb.1 x hx; omega
      · exact e
open Classical in
theorem hul_eq {qs l : List Pt} (hd : Dsc qs) (K : Hul qs l) : l = qs.filter fun v => decide (Vtx qs v) := by
  refine dsc_eq K.dsc (hd.filter _) fun x => ?_
  rw [List.mem_filter, decide_eq_true_eq]
  exact ⟨fun h => ⟨K.sub x h, (hul_vtx hd K (K.sub x h)).mp h⟩, fun ⟨h1, h2⟩ => (hul_vtx hd K h1).mpr h2⟩
end Vd

set_option Elab.async false
set_option linter.all false
set_option maxRecDepth 100000
namespace Vd
open PySem
/-! laid_on: slots 0 rows 1 part -/
/-! joined: slots 0 one 1 other 2 rows 3 at 4 to -/
/-! shared: slots 0 one 1 other 2 rows 3 at 4 to 5 low 6 high -/
/-! holds_place: slots 0 stretches 1 place 2 low 3 high -/
/-- a stretch: two places, each a fraction -/
noncomputable abbrev Stc := (Int × Int) × (Int × Int)
noncomputable def vq (p : Int × Int) : Rat := qv p.1 p.2
noncomputable def FrQ (k : Nat) (p : Int × Int) : Prop := Fr p.1 p.2 k
noncomputable def inSt (x : Rat) (s : Stc) : Prop := vq s.1 ≤ x ∧ x ≤ vq s.2
noncomputable def inS (ss : List Stc) (x : Rat) : Prop := ∃ s ∈ ss, inSt x s
structure OkSt (k : Nat) (s : Stc) : Prop where
  a : FrQ k s.1
  b : FrQ k s.2
  le : vq s.1 ≤ vq s.2
noncomputable def OkS (k : Nat) (ss : List Stc) : Prop := ∀ s ∈ ss, OkSt k s
noncomputable def Can (ss : List Stc) : Prop := ss.Pairwise fun a b => vq a.2 < vq b.1
theorem vq_lt {k j : Nat} {p q : Int × Int} (hp : FrQ k p) (hq : FrQ j q) : p.1 * q.2 < q.1 * p.2 ↔ vq p < vq q := qv_lt hp.pos hq.pos
theorem inS_nil (x : Rat) : ¬ inS [] x := fun ⟨_, h, _⟩ => by cases h
theorem inS_cons (s : Stc) (ss : List Stc) (x : Rat) : inS (s :: ss) x ↔ inSt x s ∨ inS ss x := by
  unfold inS
  simp
theorem inS_app (ss ts : List Stc) (x : Rat) : inS (ss ++ ts) x ↔ inS ss x ∨ inS ts x := by
  unfold inS
  constructor
  · rintro ⟨s, hs, h⟩
    rcases List.mem_append.mp hs with y | y
    · exact .inl ⟨s, y, h⟩
    · exact .inr ⟨s, y, h⟩
  · rintro (⟨s, hs, h⟩ | ⟨s, hs, h⟩)
    · exact ⟨s, List.mem_append.mpr (.inl hs), h⟩
    · exact ⟨s, List.mem_append.mpr (.inr hs), h⟩
/-! canonical lists that hold the same are equal -/
theorem can_far {s : Stc} {ss : List Stc} (hc : Can (s :: ss)) {x : Rat} (h : x ≤ vq s.2) : ¬ inS ss x := by
  rintro ⟨t, ht, h1, h2⟩
  have := List.rel_of_pairwise_cons hc ht
  grind
/-! a stretch laid on -/
noncomputable def laid (rs : List Stc) (s : Stc) : List Stc := match rs.getLast? with
  | none => [s]
  | some l => if s.1.1 * l.2.2 ≤ l.2.1 * s.1.2 then (if l.2.1 * s.2.2 < s.2.1 * l.2.2 then rs.dropLast ++ [(l.1, s.2)] else rs) else rs ++ [s]
theorem laid_app (rs : List Stc) (l s : Stc) : laid (rs ++ [l]) s = if s.1.1 * l.2.2 ≤ l.2.1 * s.1.2 then (if l.2.1 * s.2.2 < s.2.1 * l.2.2 then rs ++ [(l.1, s.2)] else rs ++ [l]) else rs ++ [l] ++ [s] := by
  unfold laid
  simp
theorem laid_law {k : Nat} {rs : List Stc} {s : Stc} (ho : OkS k rs) (hc : Can rs) (os : OkSt k s) (hb : ∀ r ∈ rs, vq r.1 ≤ vq s.1) : OkS k (laid rs s) ∧ Can (laid rs s) ∧ (∀ x, inS (laid rs s) x ↔ inS rs x ∨ inSt x s) ∧ (∀ r ∈ laid rs s, vq r.1 ≤ vq s.1) ∧ (laid rs s).length ≤ rs.length + 1 := by
  rcases List.eq_nil_or_concat rs with e | ⟨us, l, e⟩
  · subst e
    refine ⟨fun r hr => ?_, List.pairwise_singleton _ _, fun x => ?_, fun r hr => ?_, Nat.le_refl _⟩
    · rw [List.mem_singleton.mp hr]; exact os
    · show inS [s] x ↔ _
      rw [inS_cons]
      exact ⟨fun z => .inr (z.resolve_right (inS_nil x)), fun z => .inl (z.resolve_left (inS_nil x))⟩
    · rw [List.mem_singleton.mp hr]; exact Rat.le_refl
  · rw [List.concat_eq_append] at e
    subst e
    have ol := ho l (by simp)
    have hp := List.pairwise_append.mp hc
    have hu : ∀ u ∈ us, vq u.2 < vq l.1 := fun u hu => hp.2.2 u hu l (by simp)
    have hou : OkS k us := fun u hu => ho u (by simp [hu])
    have lb := hb l (by simp)
    have le := ol.le
    have se := os.le
    have c1 : s.1.1 * l.2.2 ≤ l.2.1 * s.1.2 ↔ vq s.1 ≤ vq l.2 := by
      have := vq_lt ol.b os.a
      rw [← Rat.not_lt, ← this]
      omega
    have c2 := vq_lt ol.b os.b
    rw [laid_app]
    simp only [c1, c2]
    split
    · rename_i d1
      split
      · rename_i d2
        refine ⟨fun r hr => ?_, List.pairwise_append.mpr ⟨hp.1, List.pairwise_singleton _ _, fun u hu' v hv => ?_⟩, fun x => ?_, fun r hr => ?_, by simp⟩
        · rcases List.mem_append.mp hr with y | y
          · exact hou r y
          · rw [List.mem_singleton.mp y]; exact ⟨ol.a, os.b, by show vq l.1 ≤ vq s.2; grind⟩
        · rw [List.mem_singleton.mp hv]; exact hu u hu'
        · rw [inS_app, inS_app, inS_cons, inS_cons]
          have n := inS_nil x
          unfold inSt
          simp only
          constructor
          · rintro (h | h | h)
            · exact .inl (.inl h)
            · rcases (Rat.le_total : x ≤ vq l.2 ∨ _) with z | z
              · exact .inl (.inr (.inl ⟨h.1, z⟩))
              · exact .inr ⟨Rat.le_trans d1 z, h.2⟩
            · exact absurd h n
          · rintro ((h | h | h) | h)
            · exact .inl h
            · exact .inr (.inl ⟨h.1, Rat.le_trans h.2 (Rat.le_of_lt d2)⟩)
            · exact absurd h n
            · exact .inr (.inl ⟨Rat.le_trans lb h.1, h.2⟩)
        · rcases List.mem_append.mp hr with y | y
          · exact hb r (by simp [y])
          · rw [List.mem_singleton.mp y]; exact lb
      · rename_i d2
        refine ⟨ho, hc, fun x => ⟨.inl, fun z => ?_⟩, hb, by omega⟩
        rcases z with z | z
        · exact z
        · rw [inS_app, inS_cons]
          have d2 := Rat.not_lt.mp d2
          exact .inr (.inl ⟨Rat.le_trans lb z.1, Rat.le_trans z.2 d2⟩)
    · rename_i d1
      have d1 := Rat.not_le.mp d1
      refine ⟨fun r hr => ?_, List.pairwise_append.mpr ⟨hc, List.pairwise_singleton _ _, fun u hu' v hv => ?_⟩, fun x => ?_, fun r hr => ?_, by simp⟩
      · rcases List.mem_append.mp hr with y | y
        · exact ho r y
        · rw [List.mem_singleton.mp y]; exact os
      · rw [List.mem_singleton.mp hv]
        rcases List.mem_append.mp hu' with y | y
        · have := hu u y; grind
        · rw [List.mem_singleton.mp y]; exact d1
      · rw [inS_app, inS_cons]
        exact ⟨fun z => z.elim .inl fun z => .inr (z.resolve_right (inS_nil x)), fun z => z.elim .inl fun z => .inr (.inl z)⟩
      · rcases List.mem_append.mp hr with y | y
        · exact hb r y
        · rw [List.mem_singleton.mp y]; exact Rat.le_refl
/-- what holds of all ends -/
noncomputable def EndsP (Pr : Int × Int → Prop) (ss : List Stc) : Prop := ∀ s ∈ ss, Pr s.1 ∧ Pr s.2
theorem laid_ends {Pr : Int × Int → Prop} {rs : List Stc} {s : Stc} (h : EndsP Pr rs) (hs : Pr s.1 ∧ Pr s.2) : EndsP Pr (laid rs s) := by
  rcases List.eq_nil_or_concat rs with e | ⟨us, l, e⟩
  · subst e
    intro r hr
    rw [List.mem_singleton.mp hr]; exact hs
  · rw [List.concat_eq_append] at e
    subst e
    have hl := h l (by simp)
    rw [laid_app]
    intro r hr
    split at hr
    · split at hr
      · rcases List.mem_append.mp hr with y | y
        · exact h r (by simp [y])
        · rw [List.mem_singleton.mp y]; exact ⟨hl.1, hs.2⟩
      · exact h r hr
    · rcases List.mem_append.mp hr with y | y
      · exact h r y
      · rw [List.mem_singleton.mp y]; exact hs
structure JoinI (k : Nat) (as bs : List Stc) (i j : Nat) (rs : List Stc) : Prop where
  hi : i ≤ as.length
  hj : j ≤ bs.length
  len : rs.length ≤ i + j
  ok : OkS k rs
  can : Can rs
  mem : ∀ x, inS rs x ↔ inS (as.take i) x ∨ inS (bs.take j) x
  ba : ∀ r ∈ rs, ∀ s ∈ as.drop i, vq r.1 ≤ vq s.1
  bb : ∀ r ∈ rs, ∀ s ∈ bs.drop j, vq r.1 ≤ vq s.1
  ends : ∀ Pr : Int × Int → Prop, EndsP Pr as → EndsP Pr bs → EndsP Pr rs
theorem JoinI.swap {k as bs i j rs} (J : JoinI k as bs i j rs) : JoinI k bs as j i rs := ⟨J.hj, J.hi, by have := J.len; omega, J.ok, J.can, fun x => (J.mem x).trans Or.comm, J.bb, J.ba, fun Pr h1 h2 => J.ends Pr h2 h1⟩
theorem JoinI.zero (k : Nat) (as bs : List Stc) : JoinI k as bs 0 0 [] := by
  refine ⟨by omega, by omega, by simp, ?_, ?_, ?_, ?_, ?_, ?_⟩
  · intro r hr; cases hr
  · exact List.Pairwise.nil
  · intro x; simp [inS]
  · intro r hr; cases hr
  · intro r hr; cases hr
  · intro Pr _ _ r hr; cases hr
theorem lo_mono {k : Nat} {s : Stc} {ss : List Stc} (ho : OkS k (s :: ss)) (hc : Can (s :: ss)) {t : Stc} (ht : t ∈ s :: ss) : vq s.1 ≤ vq t.1 := by
  rcases List.mem_cons.mp ht with rfl | ht
  · exact Rat.le_refl
  · have a1 := List.rel_of_pairwise_cons hc ht
    have a2 := (ho s (by simp)).le
    grind
theorem JoinI.step {k as bs i j rs} (J : JoinI k as bs i j rs) (oa : OkS k as) (ca : Can as) (ob : OkS k bs) (cb : Can bs) (hi : i < as.length) (hlt : ∀ h : j < bs.length, vq as[i].1 ≤ vq bs[j].1) : JoinI k as bs (i + 1) j (laid rs as[i]) := by
  have ed : as.drop i = as[i] :: as.drop (i + 1) := List.drop_eq_getElem_cons hi
  have oda : OkS k (as.drop i) := fun s hs => oa s (List.mem_of_mem_drop hs)
  have cda : Can (as.drop i) := List.Pairwise.sublist (List.drop_sublist _ _) ca
  rw [ed] at oda cda
  obtain ⟨l1, l2, l3, l4, l5⟩ := laid_law J.ok J.can (oa _ (List.getElem_mem hi)) fun r hr => J.ba r hr _ (by rw [ed]; exact List.mem_cons_self)
  refine ⟨by omega, J.hj, by have := J.len; omega, l1, l2, fun x => ?_, fun r hr s hs => ?_, fun r hr s hs => ?_, fun Pr h1 h2 => laid_ends (J.ends Pr h1 h2) (h1 _ (List.getElem_mem hi))⟩
  · have et : as.take (i + 1) = as.take i ++ [as[i]] := by rw [List.take_add_one, List.getElem?_eq_getElem hi]; rfl
    rw [l3, J.mem, et, inS_app, inS_cons]
    have n := inS_nil x
    constructor
    · rintro ((h | h) | h)
      · exact .inl (.inl h)
      · exact .inr h
      · exact .inl (.inr (.inl h))
    · rintro ((h | h | h) | h)
      · exact .inl (.inl h)
      · exact .inr h
      · exact absurd h n
      · exact .inl (.inr h)
  · exact Rat.le_trans (l4 r hr) (lo_mono oda cda (List.mem_cons_of_mem _ hs))
  · refine Rat.le_trans (l4 r hr) ?_
    have hj : j < bs.length := by
      rcases Nat.lt_or_ge j bs.length with z | z
      · exact z
      · rw [List.drop_eq_nil_of_le z] at hs; cases hs
    have ed2 : bs.drop j = bs[j] :: bs.drop (j + 1) := List.drop_eq_getElem_cons hj
    have odb : OkS k (bs.drop j) := fun s hs => ob s (List.mem_of_mem_drop hs)
    have cdb : Can (bs.drop j) := List.Pairwise.sublist (List.drop_sublist _ _) cb
    rw [ed2] at odb cdb hs
    exact Rat.le_trans (hlt hj) (lo_mono odb cdb hs)
noncomputable def lowOf (a b : Stc) : Int × Int := if a.1.1 * b.1.2 < b.1.1 * a.1.2 then b.1 else a.1
noncomputable def highOf (a b : Stc) : Int × Int := if b.2.1 * a.2.2 < a.2.1 * b.2.2 then b.2 else a.2
noncomputable def shStep (rs : List Stc) (a b : Stc) : List Stc := if (highOf a b).1 * (lowOf a b).2 < (lowOf a b).1 * (highOf a b).2 then rs else rs ++ [(lowOf a b, highOf a b)]
theorem low_is {k : Nat} {a b : Stc} (oa : OkSt k a) (ob : OkSt k b) : FrQ k (lowOf a b) ∧ ∀ x, vq (lowOf a b) ≤ x ↔ vq a.1 ≤ x ∧ vq b.1 ≤ x := by
  have h := vq_lt oa.a ob.a
  unfold lowOf
  split
  · rename_i c
    have c := h.mp c
    exact ⟨ob.a, fun x => ⟨fun z => ⟨by grind, z⟩, fun z => z.2⟩⟩
  · rename_i c
    have c := Rat.not_lt.mp fun z => c (h.mpr z)
    exact ⟨oa.a, fun x => ⟨fun z => ⟨z, by grind⟩, fun z => z.1⟩⟩
theorem high_is {k : Nat} {a b : Stc} (oa : OkSt k a) (ob : OkSt k b) : FrQ k (highOf a b) ∧ ∀ x, x ≤ vq (highOf a b) ↔ x ≤ vq a.2 ∧ x ≤ vq b.2 := by
  have h := vq_lt ob.b oa.b
  unfold highOf
  split
  · rename_i c
    have c := h.mp c
    exact ⟨ob.b, fun x => ⟨fun z => ⟨by grind, z⟩, fun z => z.2⟩⟩
  · rename_i c
    have c := Rat.not_lt.mp fun z => c (h.mpr z)
    exact ⟨oa.b, fun x => ⟨fun z => ⟨z, by grind⟩, fun z => z.1⟩⟩
structure SharI (k : Nat) (as bs : List Stc) (i j : Nat) (rs : List Stc) : Prop where
  hi : i ≤ as.length
  hj : j ≤ bs.length
  len : rs.length ≤ i + j
  ok : OkS k rs
  can : Can rs
  mem : ∀ x, inS rs x ∨ (inS (as.drop i) x ∧ inS (bs.drop j) x) ↔ inS as x ∧ inS bs x
  sep : ∀ r ∈ rs, (∀ s ∈ as.drop i, vq r.2 < vq s.1) ∨ (∀ s ∈ bs.drop j, vq r.2 < vq s.1)
  ends : ∀ Pr : Int × Int → Prop, EndsP Pr as → EndsP Pr bs → EndsP Pr rs
theorem SharI.zero (k : Nat) (as bs : List Stc) : SharI k as bs 0 0 [] := by
  refine ⟨by omega, by omega, by simp, ?_, List.Pairwise.nil, ?_, ?_, ?_⟩
  · intro r hr; cases hr
  · intro x
    exact ⟨fun z => z.resolve_left (inS_nil x), .inr⟩
  · intro r hr; cases hr
  · intro Pr _ _ r hr; cases hr
theorem shStep_law {k : Nat} {rs : List Stc} {a b : Stc} (oa : OkSt k a) (ob : OkSt k b) (ho : OkS k rs) (hc : Can rs) (hs : ∀ r ∈ rs, vq r.2 < vq a.1 ∨ vq r.2 < vq b.1) : OkS k (shStep rs a b) ∧ Can (shStep rs a b) ∧ (shStep rs a b).length ≤ rs.length + 1 ∧ (∀ x, inS (shStep rs a b) x ↔ inS rs x ∨ (inSt x a ∧ inSt x b)) ∧ (∀ r ∈ shStep rs a b, r ∈ rs ∨ (vq r.2 ≤ vq a.2 ∧ vq r.2 ≤ vq b.2)) := by
  obtain ⟨l1, l2⟩ := low_is oa ob
  obtain ⟨h1, h2⟩ := high_is oa ob
  have lt := vq_lt h1 l1
  have both : ∀ x, inSt x a ∧ inSt x b ↔ vq (lowOf a b) ≤ x ∧ x ≤ vq (highOf a b) := fun x => by
    rw [l2, h2]
    unfold inSt
    exact ⟨fun z => ⟨⟨z.1.1, z.2.1⟩, z.1.2, z.2.2⟩, fun z => ⟨⟨z.1.1, z.2.1⟩, z.1.2, z.2.2⟩⟩
  unfold shStep
  split
  · rename_i c
    have c := lt.mp c
    refine ⟨ho, hc, by omega, fun x => ⟨.inl, fun z => z.elim id fun z => ?_⟩, fun r hr => .inl hr⟩
    have := (both x).mp z
    exact absurd (Rat.le_trans this.1 this.2) (Rat.not_le.mpr c)
  · rename_i c
    have c := Rat.not_lt.mp fun z => c (lt.mpr z)
    refine ⟨fun r hr => ?_, List.pairwise_append.mpr ⟨hc, List.pairwise_singleton _ _, fun u hu v hv => ?_⟩, by simp, fun x => ?_, fun r hr => ?_⟩
    · rcases List.mem_append.mp hr with y | y
      · exact ho r y
      · rw [List.mem_singleton.mp y]; exact ⟨l1, h1, c⟩
    · rw [List.mem_singleton.mp hv]
      have e := (l2 (vq (lowOf a b))).mp Rat.le_refl
      show vq u.2 < vq (lowOf a b)
      rcases hs u hu with z | z
      · grind
      · grind
    · rw [inS_app, inS_cons, both]
      exact ⟨fun z => z.elim .inl fun z => .inr (z.resolve_right (inS_nil x)), fun z => z.elim .inl fun z => .inr (.inl z)⟩
    · rcases List.mem_append.mp hr with y | y
      · exact .inl y
      · rw [List.mem_singleton.mp y]; exact .inr ((h2 _).mp Rat.le_refl)
theorem shStep_ends {Pr : Int × Int → Prop} {rs : List Stc} {a b : Stc} (h : EndsP Pr rs) (ha : Pr a.1 ∧ Pr a.2) (hb : Pr b.1 ∧ Pr b.2) : EndsP Pr (shStep rs a b) := by
  have hl : Pr (lowOf a b) := by
    unfold lowOf
    split
    · exact hb.1
    · exact ha.1
  have hh : Pr (highOf a b) := by
    unfold highOf
    split
    · exact hb.2
    · exact ha.2
  unfold shStep
  intro r hr
  split at hr
  · exact h r hr
  · rcases List.mem_append.mp hr with y | y
    · exact h r y
    · rw [List.mem_singleton.mp y]; exact ⟨hl, hh⟩
theorem SharI.step {k as bs i j rs} (J : SharI k as bs i j rs) (oa : OkS k as) (ca : Can as) (ob : OkS k bs) (cb : Can bs) (hi : i < as.length) (hj : j < bs.length) :
    (vq as[i].2 < vq bs[j].2 → SharI k as bs (i + 1) j (shStep rs as[i] bs[j])) ∧ (¬ vq as[i].2 < vq bs[j].2 → SharI k as bs i (j + 1) (shStep rs as[i] bs[j])) := by
  have ea : as.drop i = as[i] :: as.drop (i + 1) := List.drop_eq_getElem_cons hi
  have eb : bs.drop j = bs[j] :: bs.drop (j + 1) := List.drop_eq_getElem_cons hj
  have ga := oa _ (List.getElem_mem hi)
  have gb := ob _ (List.getElem_mem hj)
  have cda : Can (as[i] :: as.drop (i + 1)) := by rw [← ea]; exact List.Pairwise.sublist (List.drop_sublist _ _) ca
  have cdb : Can (bs[j] :: bs.drop (j + 1)) := by rw [← eb]; exact List.Pairwise.sublist (List.drop_sublist _ _) cb
  have hm := J.mem
  have hsep := J.sep
  rw [ea, eb] at hm hsep
  obtain ⟨z1, z2, z3, z4, z5⟩ := shStep_law ga gb J.ok J.can fun r hr => (hsep r hr).elim (fun z => .inl (z _ List.mem_cons_self)) fun z => .inr (z _ List.mem_cons_self)
  have hl := J.len
  constructor
  · intro lt
    refine ⟨by omega, J.hj, by omega, z1, z2, fun x => ?_, fun r hr => ?_, fun Pr h1 h2 => shStep_ends (J.ends Pr h1 h2) (h1 _ (List.getElem_mem hi)) (h2 _ (List.getElem_mem hj))⟩
    · rw [z4, eb, ← hm x, inS_cons (as[i])]
      have far : inSt x as[i] → ¬ inS (bs.drop (j + 1)) x := fun h => can_far cdb (Rat.le_trans h.2 (Rat.le_of_lt lt))
      rw [inS_cons bs[j]]
      constructor
      · rintro ((h | h) | h)
        · exact .inl h
        · exact .inr ⟨.inl h.1, .inl h.2⟩
        · exact .inr ⟨.inr h.1, h.2⟩
      · rintro (h | ⟨h | h, h'⟩)
        · exact .inl (.inl h)
        · exact .inl (.inr ⟨h, h'.resolve_right (far h)⟩)
        · exact .inr ⟨h, h'⟩
    · rw [eb]
      rcases z5 r hr with y | y
      · rcases hsep r y with w | w
        · exact .inl fun s hs => w s (List.mem_cons_of_mem _ hs)
        · exact .inr w
      · exact .inl fun s hs => by
          have := List.rel_of_pairwise_cons cda hs
          have := y.1
          grind
  · intro lt
    have lt := Rat.not_lt.mp lt
    refine ⟨J.hi, by omega, by omega, z1, z2, fun x => ?_, fun r hr => ?_, fun Pr h1 h2 => shStep_ends (J.ends Pr h1 h2) (h1 _ (List.getElem_mem hi)) (h2 _ (List.getElem_mem hj))⟩
    · rw [z4, ea, ← hm x, inS_cons (bs[j])]
      have far : inSt x bs[j] → ¬ inS (as.drop (i + 1)) x := fun h => can_far cda (Rat.le_trans h.2 lt)
      rw [inS_cons as[i]]
      constructor
      · rintro ((h | h) | h)
        · exact .inl h
        · exact .inr ⟨.inl h.1, .inl h.2⟩
        · exact .inr ⟨h.1, .inr h.2⟩
      · rintro (h | ⟨h', h | h⟩)
        · exact .inl (.inl h)
        · exact .inl (.inr ⟨h'.resolve_right (far h), h⟩)
        · exact .inr ⟨h', h⟩
    · rw [ea]
      rcases z5 r hr with y | y
      · rcases hsep r y with w | w
        · exact .inl w
        · exact .inr fun s hs => w s (List.mem_cons_of_mem _ hs)
      · exact .inr fun s hs => by
          have := List.rel_of_pairwise_cons cdb hs
          have := y.2
          grind
end Vd

set_option Elab.async false
set_option linter.all false
set_option maxRecDepth 100000
/-! what is seen of the ground (no program) -/
namespace Vd
open PySem
/-! ### signs in Rat -/
/-! ### the ground's height, by any of its pieces -/
theorem hv_left {x y z w : Int} : hv x y z w (x : Rat) = y := by unfold hv; grind
theorem hv_right {x y z w : Int} (h : x < z) : hv x y z w (z : Rat) = w := by
  have := Vd.cz (show z - x ≠ 0 by omega)
  rw [Rat.intCast_sub] at this
  unfold hv; grind
theorem grd_seg {cs : List Pt} (hA : Asc cs) {u : Rat} {i : Nat} (hi : i + 1 < cs.length) (h1 : (cs[i].1 : Rat) ≤ u) (h2 : u ≤ cs[i + 1].1) : grd cs u = some (hv cs[i].1 cs[i].2 cs[i + 1].1 cs[i + 1].2 u) := by
  rcases Classical.em (∃ j, ∃ h : j + 1 < cs.length, j < i ∧ (cs[j].1 : Rat) ≤ u ∧ u ≤ cs[j + 1].1) with g | g
  · -- at a corner: the piece ahead
    obtain ⟨j, hj, hji, g1, g2⟩ := g
    have lt : ∀ {i k : Nat} (h : i < k) (hk : k < cs.length), (cs[i].1 : Rat) < cs[k].1 := fun {i k} h hk => Rat.intCast_lt_intCast.mpr (asc_lt hA h hk)
    have ei : i = j + 1 := by
      rcases Nat.lt_or_ge (j + 1) i with z | z
      · have := lt z (by omega)
        grind
      · omega
    subst ei
    have eu : u = (cs[j + 1].1 : Rat) := Rat.le_antisymm g2 h1
    have := grd_at (cs := cs) (u := u) (i := j) hj g1 g2 (fun m hm hmj => fun z => by
      have := lt (show m + 1 < j + 1 by omega) hj
      grind)
    rw [this, eu, hv_left, hv_right (asc_lt hA (by omega) hj)]
  · exact grd_at hi h1 h2 fun j hj hji z => g ⟨j, hj, hji, z⟩
theorem seg_of {cs : List Pt} : ∀ {u : Rat}, (hl : 2 ≤ cs.length) → (cs[0].1 : Rat) ≤ u → u ≤ (cs[cs.length - 1]'(by omega)).1 → ∃ i, ∃ h : i + 1 < cs.length, (cs[i].1 : Rat) ≤ u ∧ u ≤ cs[i + 1].1 := by
  intro u hl h1 h2
  have key : ∀ k, k + 1 < cs.length → (∃ i, ∃ h : i + 1 < cs.length, (cs[i].1 : Rat) ≤ u ∧ u ≤ cs[i + 1].1) ∨ ∃ h : k + 1 < cs.length, (cs[k + 1].1 : Rat) < u := by
    intro k
    induction k with
    | zero =>
      intro hk
      rcases Classical.em (u ≤ cs[0 + 1].1) with e | e
      · exact .inl ⟨0, hk, h1, e⟩
      · exact .inr ⟨hk, Rat.not_le.mp e⟩
    | succ k ih =>
      intro hk
      rcases ih (by omega) with z | ⟨_, z⟩
      · exact .inl z
      · rcases Classical.em (u ≤ cs[k + 1 + 1].1) with e | e
        · exact .inl ⟨k + 1, hk, Rat.le_of_lt z, e⟩
        · exact .inr ⟨hk, Rat.not_le.mp e⟩
  rcases key (cs.length - 2) (by omega) with z | ⟨h, z⟩
  · exact z
  · have e : cs[cs.length - 2 + 1] = cs[cs.length - 1]'(by omega) := by congr 1; omega
    rw [e] at z
    grind
/-! ### one piece of ground seen from a spot: s, slope M, from A to B -/
section
variable {s A B : Pt} {M : Rat} (h1 : s.1 < A.1) (h2 : A.1 < B.1)
include h1 h2
end
/-! ### what is seen on a row of corners, all behind the spot -/
noncomputable def visR (row : List Pt) (s : Pt) (u : Rat) : Prop := ∀ v, grd row u = some v → ∀ c ∈ row, (c.1 : Rat) < u → sl s c * (u - s.1) ≤ v - s.2
/-- what stands of the row so far: j corners gone by -/
structure AhI (k : Nat) (row : List Pt) (s : Pt) (Pr : Int × Int → Prop) (j : Nat) (top : Pt) (ts : List Stc) : Prop where
  lo : 1 ≤ j
  hi : j ≤ row.length
  tp : top ∈ row.take j
  mx : ∀ c ∈ row.take j, sl s c ≤ sl s top
  ok : OkS k ts
  mem : ∀ u, inS ts u ↔ (s.1 : Rat) ≤ u ∧ u ≤ (row[j - 1]'(by omega)).1 ∧ visR row s u
  ends : EndsP Pr ts
  len : ts.length ≤ j
section
variable {k : Nat} {row : List Pt} {s : Pt} {Pr : Int × Int → Prop} {j : Nat} {top : Pt} {ts : List Stc}
end
end Vd

set_option Elab.async false
set_option linter.all false
set_option maxRecDepth 100000
namespace Vd
open PySem
/-! rope: slots 0 ground 1 one 2 other 3 spots 4 told 5 spot 6 k -/
noncomputable def l1_rope : Ss := (
  .cons (.ex (.bm "pop" (.var 4) .nil)) <| .nil)
noncomputable def l2_rope : Ss := (
  .cons (.whl (.and (.cons (.cmp .gt (.bi "len" false (.cons (.var 4) .nil)) (.int 1)) (.cons (.cmp .le (.call "side_of" (.cons (.idx (.var 4) (.neg (.int 2))) (.cons (.var 5) (.cons (.idx (.var 4) (.neg (.int 1))) .nil)))) (.int 0)) .nil))) l1_rope) <| 
  .cons (.ex (.bm "append" (.var 4) (.cons (.var 5) .nil))) <| .nil)
noncomputable def c_rope : Fn := ⟨7, ["ground", "one", "other"], (
  .cons (.ex (.call "look_at_spots" (.cons (.var 0) (.cons (.lst false (.cons (.var 1) (.cons (.var 2) .nil))) .nil)))) <| 
  .cons (.set (.nm 3) (.comp true (.idx (.fld (.var 0) "corners") (.var 6)) (.nm 6) (.val (.call "between" (.cons (.var 0) (.cons (.var 1) (.cons (.var 2) .nil))))) .none [6])) <| 
  .cons (.ite (.cmp .gt (.idx (.var 1) (.int 0)) (.idx (.var 2) (.int 0))) (
    .cons (.ex (.bm "reverse" (.var 3) .nil)) <| .nil) .nil) <| 
  .cons (.set (.nm 4) (.lst true (.cons (.var 1) .nil))) <| 
  .cons (.fr (.nm 5) (.val (.bin false .add (.var 3) (.lst false (.cons (.var 2) .nil)))) l2_rope) <| 
  .cons (.ret (.var 4)) <| .nil)⟩
theorem WL_rp {ι : Type} {G : Gam} {b : Ss} {K : Vd.Ends} {X : XS} {c : E} (I : ι → DSt → Hd → Prop) (μ : ι → Nat) (step : ∀ i σ h, I i σ h → ∀ Kn : DSt → Hd → Prop, (∀ i' σ' h', I i' σ' h' → μ i' < μ i → Kn σ' h') →
      wpT G c σ h (fun k h1 => if k = true then wpSs G b σ h1 { K with nx := Kn, ct := Kn, bk := K.nx } X else K.nx σ h1) (fun c h' => X c σ h')) {i : ι} {σ : DSt} {h : Hd} (h0 : I i σ h) : ∃ n, WL G c b X n σ h K := by
  have key : ∀ (n : Nat) (i : ι) (σ : DSt) (h : Hd), I i σ h → μ i < n → WL G c b X n σ h K := by
    intro n
    induction n with
    | zero => intro i σ h _ hm; omega
    | succ n ih =>
      intro i σ h hI hm
      rw [WL_succ]
      exact step i σ h hI _ fun i' σ' h' hI' hlt => ih i' σ' h' hI' (by omega)
  exact ⟨_, key _ i σ h h0 (Nat.lt_succ_self _)⟩
theorem atI_last2 {α : Type} (xs : List α) (y x : α) : L2.atI (xs ++ [y, x]) (-2) = some y := by
  have e : L2.ixN (xs ++ [y, x]).length (-2) = some xs.length := by
    unfold L2.ixN
    rw [if_neg (by decide), List.length_append, show [y, x].length = 2 from rfl, if_pos (by omega)]
    congr 1
    omega
  unfold L2.atI
  rw [e]
  simp
theorem atI_last1 {α : Type} (xs : List α) (y x : α) : L2.atI (xs ++ [y, x]) (-1) = some x := by
  rw [show xs ++ [y, x] = (xs ++ [y]) ++ [x] by simp]
  exact atI_last _ _
noncomputable def SmP (p : Pt) : Prop := Sm p.1 400 ∧ Sm p.2 3000
/-- the corners between, in their order on the way -/
noncomputable def innP (cs : List Pt) (a b : Pt) : List Pt := if b.1 < a.1 then ((btwL cs a b).map (·.1)).reverse else (btwL cs a b).map (·.1)
noncomputable def ropeP (cs : List Pt) (a b : Pt) : List Pt := (ropeR a (innP cs a b ++ [b])).reverse
theorem innP_mem {cs : List Pt} {a b p : Pt} (h : p ∈ innP cs a b) : p ∈ cs ∧ btw a b p = true := by
  have h : p ∈ (btwL cs a b).map (·.1) := by
    unfold innP at h
    split at h
    · exact List.mem_reverse.mp h
    · exact h
  obtain ⟨z, hz, rfl⟩ := List.mem_map.mp h
  obtain ⟨h1, h2⟩ := btwL_mem hz
  exact ⟨List.mem_of_getElem? h1, h2⟩
theorem innP_len {cs : List Pt} {a b : Pt} : (innP cs a b).length ≤ cs.length := by
  have h : (btwL cs a b).length ≤ cs.length := by
    have := List.length_filter_le (fun p => btw a b p.1) cs.zipIdx
    rw [List.length_zipIdx] at this
    exact this
  unfold innP
  split <;> simp [h]
theorem rope_turn {P n} (h7 : P.fns "side_of" = some c_side_of) {hh : Hd} {X : XS} {c : D} {a b sp : Option D} {k : Option D} {s : Pt} (hs : SmP s) (K : Vd.Ends) (l0 : List Pt) (hm : ∀ p ∈ l0, SmP p ∧ p.1 ≠ s.1) (hl : l0.length ≤ 100000)
    (q : l0 ≠ [] → K.nx [some c, a, b, sp, some (.ref hh.length), some (pairD s), k] (hh ++ [.lst ((pushR l0 s).reverse.map pairD)])) (h0 : l0 ≠ []) :
    wpSs (Gn P (n + 1)) l2_rope [some c, a, b, sp, some (.ref hh.length), some (pairD s), k] (hh ++ [.lst (l0.reverse.map pairD)]) K X := by
  simp [l2_rope]
  refine WL_rp (fun (l : List Pt) σ h => l ≠ [] ∧ popR s l = popR s l0 ∧ (∀ p ∈ l, p ∈ l0) ∧ l.length ≤ l0.length ∧ h = hh ++ [.lst (l.reverse.map pairD)] ∧ σ = [some c, a, b, sp, some (.ref hh.length), some (pairD s), k]) List.length ?_ (i := l0) ⟨h0, rfl, fun p hp => hp, Nat.le_refl _, by simp, rfl⟩
  rintro l σ h ⟨hne, hp, hsub, hlen, rfl, rfl⟩ Kn hKn
  cases l with
  | nil => exact absurd rfl hne
  | cons t r =>
    cases r with
    | nil =>
      simp
      have e : pushR l0 s = [s, t] := by unfold pushR; rw [← hp]; rfl
      rw [e] at q
      exact q h0
    | cons u r =>
      have mt := hm t (hsub t (by simp))
      have mu := hm u (hsub u (by simp))
      have eL : (t :: u :: r).reverse.map pairD = (r.reverse.map pairD) ++ [pairD u, pairD t] := by simp
      obtain ⟨L, hL⟩ : ∃ L, L = (r.reverse.map pairD) ++ [pairD u, pairD t] := ⟨_, rfl⟩
      have f1 : (1 : Int) < (L.length : Int) := by rw [hL]; simp; omega
      have f2 : L2.atI L (-2) = some (pairD u) := by rw [hL]; exact atI_last2 _ _ _
      have f3 : L2.atI L (-1) = some (pairD t) := by rw [hL]; exact atI_last1 _ _ _
      have f4 : L[L.length - 1]? = some (pairD t) := by rw [hL]; simp
      have f5 : L.dropLast = (u :: r).reverse.map pairD := by
        rw [hL, show (r.reverse.map pairD) ++ [pairD u, pairD t] = ((r.reverse.map pairD) ++ [pairD u]) ++ [pairD t] by simp, List.dropLast_concat]; simp
      have f6 : L.length < 16777216 := by rw [hL]; simp; simp at hlen; omega
      rw [eL, ← hL]
      simp [h7, f1, f2, f3]
      obtain ⟨⟨t1, t2⟩, t3⟩ := mt
      obtain ⟨⟨u1, u2⟩, u3⟩ := mu
      have s1 : Sm s.1 3000 := ⟨sm_le hs.1.lt (by decide)⟩
      have s2 := hs.2
      have t1' : Sm t.1 3000 := ⟨sm_le t1.lt (by decide)⟩
      have u1' : Sm u.1 3000 := ⟨sm_le u1.lt (by decide)⟩
      unfold pairD
      refine sideof_okW h7 u.1 u.2 s.1 s.2 t.1 t.2 u3 ?_
      simp
      by_cases c0 : Up u s t
      · have c0' : ¬ sideN u.1 u.2 s.1 s.2 t.1 t.2 ≤ 0 := by unfold Up at c0; omega
        rw [if_neg c0']
        have e : pushR l0 s = s :: t :: u :: r := by unfold pushR; rw [← hp]; unfold popR; rw [if_pos c0]
        rw [e] at q
        have q := q h0
        refine ⟨f6, ?_⟩
        rw [show (s :: t :: u :: r).reverse.map pairD = L ++ [pairD s] by rw [hL]; simp] at q
        exact q
      · have c0' : sideN u.1 u.2 s.1 s.2 t.1 t.2 ≤ 0 := by unfold Up at c0; omega
        rw [if_pos c0']
        simp [l1_rope, f4]
        refine hKn (u :: r) _ _ ⟨by simp, ?_, fun p hp => hsub p (List.mem_cons_of_mem _ hp), by simp at hlen ⊢; omega, by rw [f5], rfl⟩ (by simp)
        rw [← hp]
        show popR s (u :: r) = popR s (t :: u :: r)
        rw [show popR s (t :: u :: r) = if Up u s t then t :: u :: r else popR s (u :: r) from rfl, if_neg c0]
theorem popR_sub {s : Pt} : ∀ {l : List Pt} {p : Pt}, p ∈ popR s l → p ∈ l
  | [], _, h => h
  | [t], _, h => h
  | t :: u :: r, p, h => by
    unfold popR at h
    split at h
    · exact h
    · exact List.mem_cons_of_mem _ (popR_sub h)
theorem popR_len {s : Pt} : ∀ {l : List Pt}, (popR s l).length ≤ l.length
  | [] => Nat.le_refl _
  | [t] => Nat.le_refl _
  | t :: u :: r => by
    unfold popR
    split
    · exact Nat.le_refl _
    · have := popR_len (s := s) (l := u :: r)
      simp at this ⊢; omega
theorem btwL_fst (cs : List Pt) (a b : Pt) : (btwL cs a b).map (·.1) = cs.filter fun p => btw a b p := by
  unfold btwL
  have e : ∀ (l : List Pt) (k : Nat), ((l.zipIdx k).filter fun p => btw a b p.1).map (·.1) = l.filter fun p => btw a b p := by
    intro l
    induction l with
    | nil => intro k; rfl
    | cons p l ih =>
      intro k
      rw [List.zipIdx_cons, List.filter_cons, List.filter_cons]
      by_cases c : btw a b p = true
      · rw [if_pos c, if_pos c, List.map_cons, ih]
      · rw [if_neg c, if_neg c, ih]
  exact e cs 0
/-- all on the way, from the one to the other -/
noncomputable def ptsP (cs : List Pt) (a b : Pt) : List Pt := a :: (innP cs a b ++ [b])
theorem pts_up {cs : List Pt} (hA : Asc cs) {a b : Pt} (h : a.1 < b.1) : (ptsP cs a b).Pairwise fun p q => p.1 < q.1 := by
  have hi : ∀ p ∈ innP cs a b, a.1 < p.1 ∧ p.1 < b.1 := fun p hp => by
    have := (innP_mem hp).2
    unfold btw at this
    simp only [Bool.and_eq_true, decide_eq_true_eq] at this
    omega
  have ha : (innP cs a b).Pairwise fun p q => p.1 < q.1 := by
    unfold innP
    rw [if_neg (by omega), btwL_fst]
    exact hA.filter _
  unfold ptsP
  refine List.pairwise_cons.mpr ⟨fun p hp => ?_, List.pairwise_append.mpr ⟨ha, by simp, fun p hp q hq => ?_⟩⟩
  · rcases List.mem_append.mp hp with hp | hp
    · exact (hi p hp).1
    · rw [List.mem_singleton.mp hp]; exact h
  · rw [List.mem_singleton.mp hq]; exact (hi p hp).2
theorem pts_dn {cs : List Pt} (hA : Asc cs) {a b : Pt} (h : b.1 < a.1) : (ptsP cs a b).Pairwise fun p q => q.1 < p.1 := by
  have hi : ∀ p ∈ innP cs a b, b.1 < p.1 ∧ p.1 < a.1 := fun p hp => by
    have := (innP_mem hp).2
    unfold btw at this
    simp only [Bool.and_eq_true, decide_eq_true_eq] at this
    omega
  have ha : (innP cs a b).Pairwise fun p q => q.1 < p.1 := by
    unfold innP
    rw [if_pos h, btwL_fst, List.pairwise_reverse]
    exact hA.filter _
  unfold ptsP
  refine List.pairwise_cons.mpr ⟨fun p hp => ?_, List.pairwise_append.mpr ⟨ha, by simp, fun p hp q hq => ?_⟩⟩
  · rcases List.mem_append.mp hp with hp | hp
    · exact (hi p hp).2
    · rw [List.mem_singleton.mp hp]; exact h
  · rw [List.mem_singleton.mp hq]; exact (hi p hp).1
theorem pts_ne {cs : List Pt} (hA : Asc cs) {a b : Pt} (h : a.1 ≠ b.1) : (ptsP cs a b).Pairwise fun p q => p.1 ≠ q.1 := by
  rcases Int.lt_trichotomy a.1 b.1 with z | z | z
  · exact (pts_up hA z).imp fun k => by omega
  · exact absurd z h
  · exact (pts_dn hA z).imp fun k => by omega
theorem rope_core {P n} (hf : P.fns "rope" = some c_rope) (h5 : P.fns "look_at_spots" = some c_look_at_spots) (h6 : P.fns "between" = some c_between) (h7 : P.fns "side_of" = some c_side_of) (h4 : P.fns "stands" = some c_stands) (h0 : P.fns "ground_at" = some c_ground_at) (h1 : P.fns "less" = some c_less) (h2 : P.fns "height_on" = some c_height_on) (h3 : P.fns "fraction" = some c_fraction) (hc : P.fldOk "Ground" "corners" = true) (he : P.isEx "OffGround" = true) (cs : List (Int × Int)) (hs : SmC cs) (hA : Asc cs) (hl2 : 2 ≤ cs.length) (hl : cs.length ≤ 1000) (a b : Int × Int) (sa1 : Sm a.1 400) (sa2 : Sm a.2 3000) (sb1 : Sm b.1 400) (sb2 : Sm b.2 3000) (hne : stB cs a.1 a.2 = true → stB cs b.1 b.2 = true → a.1 ≠ b.1) {h Q X}
    (q1 : stB cs a.1 a.2 = true → stB cs b.1 b.2 = true → ∀ S : List D, Exit h (.ref (h.length + 1)) (h ++ [.lst S, .lst ((ropeP cs a b).map pairD)]) Q) (q2 : ¬ (stB cs a.1 a.2 = true ∧ stB cs b.1 b.2 = true) → X "OffGround" h) : (Gn P (n+6)).fn "rope" [groundD cs, pairD a, pairD b] h Q X := by
  refine ⟨_, hf, rfl, ?_⟩
  simp [c_rope, h5, h6]
  rw [show ([pairD a, pairD b] : List D) = List.map pairD [a, b] from rfl]
  refine look_ok h5 h4 h0 h1 h2 h3 hc he cs hs hA hl2 hl [a, b] (by
    intro p hp
    rcases List.mem_cons.mp hp with rfl | hp
    · exact ⟨sa1, sa2⟩
    · rw [List.mem_singleton.mp hp]; exact ⟨sb1, sb2⟩) (fun g => ?_) fun g => ?_
  · have ga := g a (by simp)
    have gb := g b (by simp)
    have q1 := q1 ga gb
    have hne := hne ga gb
    refine between_ok h6 hc cs hl a b ?_
    simp
    have hbl : (btwL cs a b).length ≤ cs.length := by
      have := List.length_filter_le (fun p => btw a b p.1) cs.zipIdx
      rw [List.length_zipIdx] at this
      exact this
    refine CL_fun (btwL cs a b) numD (fun p => pairD p.1) trivial (by omega) (fun p hp Ka hKa => ?_) ?_
    · obtain ⟨p1, p2⟩ := btwL_mem hp
      simp [numD, Vd.wipe]
      refine ⟨_, _, _, ⟨rfl, rfl, rfl⟩, hc, _, rfl, ?_⟩
      have e1 : L2.atI (cs.map pairD) (p.2 : Int) = some (pairD p.1) := by
        rw [atI_nat, List.getElem?_map, p1]; rfl
      simp [e1]
      exact hKa
    · simp
      have el : (btwL cs a b).map (fun p => pairD p.1) = ((btwL cs a b).map (·.1)).map pairD := by rw [List.map_map]; rfl
      refine ⟨by omega, ?_⟩
      have tail : ∀ (X' : XS), bopW false .add (.ref h.length) (.vl [pairD b]) (h ++ [.lst ((innP cs a b).map pairD), .lst [pairD a]]) fun x h1 =>
          ∃ xs, rdS h1 x = some xs ∧ FL (Gn P (n + 5)) (.nm 5) l2_rope X' (fun h' => rdS h' x = some xs) xs
            [some (groundD cs), some (pairD a), some (pairD b), some (.ref h.length), some (.ref (h.length + 1)), none, none] h1
            { nx := fun σ' h' => ∃ d, σ'[4]? = some (some d) ∧ Exit h d h' Q, rt := fun v h' => Exit h v h' Q } := by
        intro X'
        have hil := innP_len (cs := cs) (a := a) (b := b)
        have hpts : ∀ p ∈ innP cs a b ++ [b], SmP p := by
          intro p hp
          rcases List.mem_append.mp hp with hp | hp
          · obtain ⟨m1, m2⟩ := innP_mem hp
            obtain ⟨s1, s2⟩ := hs p m1
            exact ⟨⟨sm_le s1.lt (by decide)⟩, ⟨sm_le s2.lt (by decide)⟩⟩
          · rw [List.mem_singleton.mp hp]
            exact ⟨sb1, sb2⟩
        have hpw := pts_ne hA hne
        unfold ptsP at hpw
        refine ⟨(innP cs a b).map pairD, [pairD b], by simp [rdL], rfl, by simp [line_eq]; omega, ?_⟩
        rw [mkL_f]
        refine ⟨by simp; omega, _, rdS_vl _ _, ?_⟩
        rw [show (innP cs a b).map pairD ++ [pairD b] = (innP cs a b ++ [b]).map pairD by simp]
        obtain ⟨ps, hps⟩ : ∃ ps, ps = innP cs a b ++ [b] := ⟨_, rfl⟩
        have hrp : ropeP cs a b = (ps.foldl pushR [a]).reverse := by rw [hps]; rfl
        have hpl : ps.length ≤ 1001 := by rw [hps]; simp; omega
        rw [← hps] at hpts hpw ⊢
        obtain ⟨hh, hhe⟩ : ∃ hh, hh = h ++ [Ob.lst ((innP cs a b).map pairD)] := ⟨_, rfl⟩
        have hll : hh.length = h.length + 1 := by rw [hhe]; simp
        have hsp : ∀ T : List D, h ++ [.lst ((innP cs a b).map pairD), .lst T] = hh ++ [.lst T] := fun T => by rw [hhe]; simp
        rw [hsp, ← hll]
        refine FL_map pairD ps (fun k σ h' => (∃ u v, σ = [some (groundD cs), some (pairD a), some (pairD b), some (.ref h.length), some (.ref hh.length), u, v]) ∧ h' = hh ++ [.lst (((ps.take k).foldl pushR [a]).reverse.map pairD)] ∧ (∀ p ∈ (ps.take k).foldl pushR [a], p = a ∨ p ∈ ps.take k) ∧ (ps.take k).foldl pushR [a] ≠ [] ∧ ((ps.take k).foldl pushR [a]).length ≤ k + 1)
          ⟨⟨_, _, rfl⟩, rfl, fun p hp => .inl (by simpa using hp), by simp, by simp⟩ (fun _ _ _ _ _ => rdS_vl _ _) ?_ ?_
        · rintro k p σ h' hx hk ⟨⟨u, v, rfl⟩, rfl, I1, I2, I3⟩ Kn hKn
          have e1 : ps.take (k + 1) = ps.take k ++ [p] := by rw [List.take_succ, hx]; rfl
          have e2 : (ps.take (k + 1)).foldl pushR [a] = pushR ((ps.take k).foldl pushR [a]) p := by rw [e1, List.foldl_append]; rfl
          have hpm : p ∈ ps := List.mem_of_getElem? hx
          have hpe : p = ps[k] := by rw [List.getElem?_eq_getElem hk] at hx; exact (Option.some.inj hx).symm
          refine rope_turn h7 (hpts p hpm) _ _ (fun q hq => ?_) (by omega) (fun _ => ?_) I2
          · rcases I1 q hq with rfl | hq
            · exact ⟨⟨sa1, sa2⟩, (List.pairwise_cons.mp hpw).1 p hpm⟩
            · refine ⟨hpts q (List.mem_of_mem_take hq), ?_⟩
              obtain ⟨i, hi, rfl⟩ := List.getElem_of_mem hq
              rw [List.getElem_take]
              rw [List.length_take] at hi
              have := List.pairwise_iff_getElem.mp (List.pairwise_cons.mp hpw).2 i k (by omega) hk (by omega)
              rw [hpe]; exact this
          · refine hKn _ _ ⟨⟨_, _, rfl⟩, by rw [e2], ?_, by rw [e2]; unfold pushR; simp, ?_⟩
            · rw [e2]
              intro q hq
              unfold pushR at hq
              rcases List.mem_cons.mp hq with rfl | hq
              · right; rw [e1]; simp
              · rcases I1 q (popR_sub hq) with h | h
                · exact .inl h
                · right; rw [e1]; exact List.mem_append_left _ h
            · rw [e2]
              have := popR_len (s := p) (l := (ps.take k).foldl pushR [a])
              show (p :: popR p ((ps.take k).foldl pushR [a])).length ≤ k + 1 + 1
              rw [List.length_cons]; omega
        · rintro σ h' ⟨⟨u, v, rfl⟩, rfl, I1, I2, I3⟩
          rw [List.take_length, ← hrp, ← hsp, hll]
          exact ⟨_, rfl, q1 _⟩
      have e0 : ∀ p : Pt, ∀ h Q, idxW (pairD p) (.int 0) h Q = Q (.int p.1) h := fun p h Q => idx_pair0
      rw [e0, e0]
      simp
      by_cases c : b.1 < a.1
      · rw [if_pos c]
        have ei : (innP cs a b).map pairD = ((btwL cs a b).map fun p => pairD p.1).reverse := by
          unfold innP; rw [if_pos c]; simp
        rw [ei] at tail
        refine ⟨⟨_, hn_rdL (t := [])⟩, _, hn_get, ?_⟩
        simpa using tail _
      · rw [if_neg c]
        have ei : (innP cs a b).map pairD = ((btwL cs a b).map fun p => pairD p.1) := by
          unfold innP; rw [if_neg c]; simp
        rw [ei] at tail
        exact tail _
  · exact .inl (q2 (by
      obtain ⟨p, hp, e⟩ := g
      rintro ⟨g1, g2⟩
      rcases List.mem_cons.mp hp with rfl | hp
      · rw [g1] at e; cases e
      · rw [List.mem_singleton.mp hp, g2] at e; cases e))
/-! what a rope is -/
noncomputable def mir (p : Pt) : Pt := (-p.1, p.2)
theorem mir_mir (p : Pt) : mir (mir p) = p := by unfold mir; simp
theorem up_mir {a b c : Pt} : Up (mir a) (mir c) (mir b) ↔ Up a c b := by
  unfold Up mir sideN
  have e : ((b.2 - a.2) * (-c.1 - -a.1) - (c.2 - a.2) * (-b.1 - -a.1)) * (-c.1 - -a.1) = ((b.2 - a.2) * (c.1 - a.1) - (c.2 - a.2) * (b.1 - a.1)) * (c.1 - a.1) := by grind
  rw [e]
theorem popR_mir (s : Pt) : ∀ l : List Pt, popR (mir s) (l.map mir) = (popR s l).map mir
  | [] => rfl
  | [t] => rfl
  | t :: u :: r => by
    have e : popR (mir s) ((t :: u :: r).map mir) = if Up (mir u) (mir s) (mir t) then (t :: u :: r).map mir else popR (mir s) ((u :: r).map mir) := rfl
    rw [e, popR_mir s (u :: r)]
    by_cases c : Up u s t
    · rw [if_pos (up_mir.mpr c)]; unfold popR; rw [if_pos c]
    · rw [if_neg (fun z => c (up_mir.mp z))]
      rw [show popR s (t :: u :: r) = if Up u s t then t :: u :: r else popR s (u :: r) from rfl, if_neg c]
theorem fold_mir : ∀ (ps l : List Pt), (ps.map mir).foldl pushR (l.map mir) = (ps.foldl pushR l).map mir
  | [], _ => rfl
  | p :: ps, l => by
    rw [List.map_cons, List.foldl_cons, List.foldl_cons]
    have e : pushR (l.map mir) (mir p) = (pushR l p).map mir := by
      show mir p :: popR (mir p) (l.map mir) = (p :: popR p l).map mir
      rw [popR_mir, List.map_cons]
    rw [e, fold_mir]
/-- above the lines through any two of the points before and behind -/
noncomputable def Ver (ps : List Pt) (v : Pt) : Prop := ∀ q ∈ ps, ∀ r ∈ ps, q.1 < v.1 → v.1 < r.1 → Up q r v
theorem ver_mir {ps : List Pt} {v : Pt} : Ver (ps.map mir) (mir v) ↔ Ver ps v := by
  constructor
  · intro h q hq r hr a b
    exact up_mir.mp (h _ (List.mem_map_of_mem hq) _ (List.mem_map_of_mem hr) |> fun z => (Up.swap.mp (h (mir r) (List.mem_map_of_mem hr) (mir q) (List.mem_map_of_mem hq) (by unfold mir; simp; omega) (by unfold mir; simp; omega))))
  · intro h q hq r hr a b
    obtain ⟨q', hq', rfl⟩ := List.mem_map.mp hq
    obtain ⟨r', hr', rfl⟩ := List.mem_map.mp hr
    refine up_mir.mpr (Up.swap.mp (h r' hr' q' hq' ?_ ?_))
    · unfold mir at b; simp at b; omega
    · unfold mir at a; simp at a; omega
open Classical in
theorem rope_filter {p : Pt} {ps : List Pt} (h : ((p :: ps).Pairwise fun a b => a.1 < b.1) ∨ ((p :: ps).Pairwise fun a b => b.1 < a.1)) : (ropeR p ps).reverse = (p :: ps).filter fun v => decide (Ver (p :: ps) v) := by
  have up : ∀ {p : Pt} {ps : List Pt}, ((p :: ps).Pairwise fun a b => a.1 < b.1) → (ropeR p ps).reverse = (p :: ps).filter fun v => decide (Ver (p :: ps) v) := by
    intro p ps h
    have hd : Dsc (ps.reverse ++ [p]) := by
      rw [show ps.reverse ++ [p] = (p :: ps).reverse by simp]
      exact List.pairwise_reverse.mpr h
    have K := hul_eq hd (rope_hul ps hd (rope_one p))
    rw [show ps.reverse ++ [p] = (p :: ps).reverse by simp] at K
    unfold ropeR
    rw [K, List.filter_reverse, List.reverse_reverse]
    refine List.filter_congr fun v _ => ?_
    congr 1
    unfold Vtx Ver
    simp only [List.mem_reverse]
  rcases h with h | h
  · exact up h
  · have hm : ((mir p :: ps.map mir).Pairwise fun a b => a.1 < b.1) := by
      rw [← List.map_cons, List.pairwise_map]
      exact h.imp fun z => by unfold mir; simp; omega
    have K := up hm
    have e : ropeR (mir p) (ps.map mir) = (ropeR p ps).map mir := fold_mir ps [p]
    rw [e, ← List.map_reverse, ← List.map_cons, List.filter_map] at K
    have inj : ∀ {as bs : List Pt}, as.map mir = bs.map mir → as = bs := fun {as bs} z => by
      have := congrArg (List.map mir) z
      simpa [List.map_map, Function.comp_def, mir_mir] using this
    refine (inj K).trans (List.filter_congr fun v _ => ?_)
    show decide (Ver ((p :: ps).map mir) (mir v)) = _
    congr 1
    exact propext ver_mir
end Vd

set_option Elab.async false
set_option linter.all false
set_option maxRecDepth 100000
namespace Vd
open PySem

theorem ceil_ge {a b : Int} (hb : 0 < b) (c : Int) (hc : 0 ≤ c) : qv a b ≤ ((-(-a / b) + c : Int) : Rat) := by
  refine (qv_leI hb).mp ?_
  have h1 := Int.ediv_mul_le (-a) (show b ≠ 0 by omega)
  have h2 := Int.mul_nonneg hc (Int.le_of_lt hb)
  rw [Int.add_mul, Int.neg_mul]
  omega
theorem lspot_ok {P n} (hf : P.fns "_law_spot" = some c__law_spot_v2) (h1 : P.fns "_law_mixed" = some c__law_mixed) (h2 : P.fns "_law_ground" = some c__law_ground) (cs : List (Int × Int)) (hs : SmC cs) (hA : Asc cs) (hl2 : 2 ≤ cs.length) (hl : cs.length ≤ 1000) (c k : Int) (hk : 0 ≤ k ∧ k ≤ 900) {h Q X} (q : ∀ x z : Int, Sm x 190 → Sm z 1010 → cs[0].1 ≤ x → x ≤ (cs[cs.length - 1]'(by omega)).1 → stB cs x z = true → Q (.tup [.int x, .int z]) h) : (Gn P (n+2)).fn "_law_spot" [.vl (cs.map pairD), .int c, .int k] h Q X := by
  refine ⟨_, hf, rfl, ?_⟩
  have hL : cs.length - 1 < cs.length := by omega
  have d7 : DivOk 7 := ⟨by decide, by decide⟩
  have d21 : DivOk 21 := ⟨by decide, by decide⟩
  have d1000 : DivOk 1000 := ⟨by decide, by decide⟩
  simp [c__law_spot_v2, h1]
  refine mixed_ok h1 _ _ (by omega) fun m m1 m2 => ?_
  simp [pget0 (show 0 < cs.length by omega), pgetL (show 0 < cs.length by omega), idx_pair0]
  have tail : ∀ (x : Int) (K : Vd.Ends) (X' : XS) (u1 u2 : Option D), cs[0].1 ≤ x → x ≤ cs[cs.length - 1].1 → (∀ x z : Int, Sm x 190 → Sm z 1010 → cs[0].1 ≤ x → x ≤ cs[cs.length - 1].1 → stB cs x z = true → K.rt (.tup [.int x, .int z]) h) → wpSs (Gn P (n + 1)) l1__law_spot_v2 [some (.vl (cs.map pairD)), some (.int c), some (.int k), some (.int m), some (.int cs[0].1), some (.int x), u1, u2] h K X' := by
    intro x K X' u1 u2 x1 x2 hK
    have sx : Sm x 190 := ⟨by
      have a1 := (hs _ (List.getElem_mem (show 0 < cs.length by omega))).1.lt
      have a2 := (hs _ (List.getElem_mem hL)).1.lt
      omega⟩
    have sx4 : Sm x 400 := ⟨sm_le sx.lt (by decide)⟩
    have one : Sm (1 : Int) 400 := ⟨by decide⟩
    simp [l1__law_spot_v2, h2]
    refine lground_ok h2 cs hs hA hl x 1 (by decide) (fun g => ?_) fun v a b g hb sa sb hv => ?_
    · rw [qv_one] at g
      obtain ⟨v, hv⟩ := grd_some hl2 (Rat.intCast_le_intCast.mpr x1) (Rat.intCast_le_intCast.mpr x2)
      rw [hv] at g; cases g
    · rw [qv_one] at g
      obtain ⟨w, e1, hw⟩ := atI_int [0, 0, 1, 2, 5, 12] (m / 1000 % 6) (by omega) (by simp; omega)
      have e1 : L2.atI [D.int 0, D.int 0, D.int 1, D.int 2, D.int 5, D.int 12] (m / 1000 % 6) = some (.int w) := e1
      have hw2 : 0 ≤ w ∧ w ≤ 12 := by
        simp only [List.mem_cons, List.not_mem_nil, or_false] at hw
        omega
      simp [e1]
      rw [Int.fdiv_eq_ediv_of_nonneg _ (by omega)]
      refine ⟨div_ok (by omega) (by decide), d1000, ?_⟩
      refine hK x _ sx ⟨?_⟩ x1 x2 ?_
      · have b1 := natAbs_ediv (-a) b hb
        have b2 := sa.lt
        have b3 : (2 : Nat) ^ 1000 + 12 < 2 ^ 1010 := by decide
        generalize (2 : Nat) ^ 1000 = K1 at *
        generalize (2 : Nat) ^ 1010 = K2 at *
        omega
      · rw [stB_some g, ← hv]
        exact decide_eq_true (ceil_ge hb w hw2.1)
  by_cases c1 : m / 7 % 3 = 0
  · have r1 := Int.emod_nonneg (m / 21) (show (cs.length : Int) ≠ 0 by omega)
    have r2 := Int.emod_lt_of_pos (m / 21) (show 0 < (cs.length : Int) by omega)
    have hrl : (m / 21 % (cs.length : Int)).toNat < cs.length := by omega
    have e1 : L2.atI (cs.map pairD) ((m / 21).fmod cs.length) = some (pairD cs[(m / 21 % (cs.length : Int)).toNat]) := by
      rw [fmod_pos (by omega), atI_ge r1, List.getElem?_map, List.getElem?_eq_getElem hrl]; rfl
    have hne : ¬ cs = [] := fun z => by rw [z] at hl2; exact absurd hl2 (by decide)
    have i1 : cs[0].1 ≤ cs[(m / 21 % (cs.length : Int)).toNat].1 := by
      rcases Nat.eq_zero_or_pos (m / 21 % (cs.length : Int)).toNat with e | e
      · simp only [e]; exact Int.le_refl _
      · exact Int.le_of_lt (asc_lt hA e hrl)
    have i2 : cs[(m / 21 % (cs.length : Int)).toNat].1 ≤ cs[cs.length - 1].1 := by
      rcases Nat.lt_or_ge (m / 21 % (cs.length : Int)).toNat (cs.length - 1) with e | e
      · exact Int.le_of_lt (asc_lt hA e hL)
      · have e : (m / 21 % (cs.length : Int)).toNat = cs.length - 1 := by omega
        simp only [e]; exact Int.le_refl _
    simp [c1, e1, idx_pair0]
    have hlt0 : cs[cs.length - 1].1 - cs[0].1 + 1 ≠ 0 := by
      have := asc_lt hA (show 0 < cs.length - 1 by omega) hL
      omega
    refine ⟨hlt0, d7, d21, hne, ?_⟩
    refine tail _ _ _ _ _ i1 i2 ?_
    exact fun x z a b c d e => .raw (q x z a b c d e)
  · have hlt0 := asc_lt hA (show 0 < cs.length - 1 by omega) hL
    simp [c1]
    have r1 := Int.emod_nonneg (c % 1000000000000000000000000000000000000000000000000000000000000 + m) (show cs[cs.length - 1].1 - cs[0].1 + 1 ≠ 0 by omega)
    have r2 := Int.emod_lt_of_pos (c % 1000000000000000000000000000000000000000000000000000000000000 + m) (show 0 < cs[cs.length - 1].1 - cs[0].1 + 1 by omega)
    rw [fmod_pos (show 0 < cs[cs.length - 1].1 - cs[0].1 + 1 by omega)]
    refine ⟨by omega, d7, ?_⟩
    refine tail _ _ _ _ _ (by omega) (by omega) ?_
    exact fun x z a b c d e => .raw (q x z a b c d e)
end Vd

set_option Elab.async false
set_option linter.all false
set_option maxRecDepth 100000
namespace Vd
open PySem
/-! _law_any_spot: slots 0 corners 1 cell 2 k 3 m 4 low 5 x 6 height -/
/-! law: slots 0 script 1 corners 2 ground 3 cells 4 k 5 spot 6 found -/
theorem take_cells (ns : List Int) (N : Nat) (hN : N ≤ 60) : ∃ qs : List Int, (List.take N (List.map D.int ns) ++ [D.int 5, D.int 7, D.int 9] = qs.map D.int) ∧ (((min N ns.length : Nat) : Int) + 3 = (qs.length : Int)) ∧ qs.length ≤ N + 3 ∧ 3 ≤ qs.length :=
  ⟨ns.take N ++ [5, 7, 9], by simp, by simp, by simp; omega, by simp⟩
theorem qget {qs : List Int} {k : Nat} (h : k < qs.length) : L2.atI (qs.map D.int) (k : Int) = some (.int qs[k]) := by
  rw [atI_nat, List.getElem?_map, List.getElem?_eq_getElem h]; rfl
end Vd

set_option Elab.async false
set_option linter.all false
set_option maxRecDepth 100000
namespace Vd
open PySem
/-! _law_refused: slots 0 ground 1 one 2 other 3 kinds 4 e -/
/-! _law_good: slots 0 ground 1 corners 2 one 3 other 4 due 5 pair 6 found 7 told -/
/-! law: slots 0 script 1 corners 2 ground 3 cells 4 k 5 one 6 other 7 m -/
@[simp] theorem hn_seen {h t : Hd} {xs : List D} : Vd.seen (h ++ .lst xs :: t) (.ref h.length) = .vl xs := by
  unfold Vd.seen
  simp
end Vd

set_option Elab.async false
set_option linter.all false
set_option maxRecDepth 100000
namespace Vd
open PySem
/-! _law_above: slots 0 one 1 other 2 spot 3 wide 4 high 5 gap -/
/-! _law_told: slots 0 ground 1 one 2 other 3 found 4 kinds 5 e -/
/-! _law_tight: slots 0 found 1 inner 2 k 3 spot 4 held 5 ends -/
/-! _law_good: slots 0 ground 1 corners 2 one 3 other 4 turn 5 k 6 ends 7 inner 8 kept 9 kinds 10 found 11 spot -/
/-! law: slots 0 script 1 corners 2 ground 3 cells 4 k 5 one 6 other 7 m 8 beyond -/
/-! ropes: neighbours, from the chain -/
theorem chn_adj {qs : List Pt} : ∀ {l : List Pt}, Chn qs l → ∀ i (h : i + 1 < l.length), ∀ p ∈ qs, l[i + 1].1 < p.1 → p.1 < l[i].1 → sl l[i + 1] p ≤ sl p l[i]
  | [], c, _, _, _, _, _, _ => c.elim
  | [x], _, i, h, _, _, _, _ => by simp at h
  | t :: u :: r, c, 0, h, p, hp, a, b => c.1 p hp a b
  | t :: u :: r, c, i + 1, h, p, hp, a, b => chn_adj (l := u :: r) c.2 i (by simpa using h) p hp a b
theorem rope_adj {p : Pt} {ps : List Pt} (h : ((p :: ps).Pairwise fun a b => a.1 < b.1) ∨ ((p :: ps).Pairwise fun a b => b.1 < a.1)) :
    ∀ i (hi : i + 1 < (ropeR p ps).reverse.length), ∀ v ∈ p :: ps, ((ropeR p ps).reverse[i].1 < v.1 ∧ v.1 < (ropeR p ps).reverse[i + 1].1 ∨ (ropeR p ps).reverse[i + 1].1 < v.1 ∧ v.1 < (ropeR p ps).reverse[i].1) → ¬ Up (ropeR p ps).reverse[i] (ropeR p ps).reverse[i + 1] v := by
  have up : ∀ {p : Pt} {ps : List Pt}, ((p :: ps).Pairwise fun a b => a.1 < b.1) → ∀ i (hi : i + 1 < (ropeR p ps).reverse.length), ∀ v ∈ p :: ps, (ropeR p ps).reverse[i].1 < v.1 → v.1 < (ropeR p ps).reverse[i + 1].1 → ¬ Up (ropeR p ps).reverse[i] (ropeR p ps).reverse[i + 1] v := by
    intro p ps h i hi v hv a b
    have hd : Dsc (ps.reverse ++ [p]) := by
      rw [show ps.reverse ++ [p] = (p :: ps).reverse by simp]
      exact List.pairwise_reverse.mpr h
    have K := rope_hul ps hd (rope_one p)
    have hl : i + 1 < (ropeR p ps).length := by simpa using hi
    have e1 : (ropeR p ps).reverse[i] = (ropeR p ps)[(ropeR p ps).length - 2 - i + 1]'(by omega) := by rw [List.getElem_reverse]; congr 1; omega
    have e2 : (ropeR p ps).reverse[i + 1] = (ropeR p ps)[(ropeR p ps).length - 2 - i]'(by omega) := by rw [List.getElem_reverse]; congr 1; omega
    rw [e1] at a ⊢
    rw [e2] at b ⊢
    intro c
    have c := (up_sl a b).mp c
    have := chn_adj K.chn ((ropeR p ps).length - 2 - i) (by show _ < (ropeR p ps).length; omega) v (by rw [show ps.reverse ++ [p] = (p :: ps).reverse by simp]; exact List.mem_reverse.mpr hv) a b
    exact absurd this (Rat.not_le.mpr c)
  intro i hi v hv ab
  rcases h with h | h
  · have hs : (ropeR p ps).reverse.Pairwise fun a b => a.1 < b.1 := by
      rw [rope_filter (.inl h)]; exact h.filter _
    have := List.pairwise_iff_getElem.mp hs i (i + 1) (by omega) hi (by omega)
    rcases ab with ⟨a, b⟩ | ⟨a, b⟩
    · exact up h i hi v hv a b
    · omega
  · have hs : (ropeR p ps).reverse.Pairwise fun a b => b.1 < a.1 := by
      rw [rope_filter (.inr h)]; exact h.filter _
    have := List.pairwise_iff_getElem.mp hs i (i + 1) (by omega) hi (by omega)
    rcases ab with ⟨a, b⟩ | ⟨a, b⟩
    · omega
    · have hm : ((mir p :: ps.map mir).Pairwise fun a b => a.1 < b.1) := by
        rw [← List.map_cons, List.pairwise_map]
        exact h.imp fun z => by unfold mir; simp; omega
      have e : (ropeR (mir p) (ps.map mir)).reverse = (ropeR p ps).reverse.map mir := by
        rw [show ropeR (mir p) (ps.map mir) = (ropeR p ps).map mir from fold_mir ps [p], List.map_reverse]
      have K := up hm i (by rw [e, List.length_map]; exact hi) (mir v) (by rw [← List.map_cons]; exact List.mem_map_of_mem hv)
      simp only [e, List.getElem_map] at K
      exact fun z => K (Int.neg_lt_neg b) (Int.neg_lt_neg a) (up_mir.mpr z)
/-- the rope as a list of its own: what it is made of -/
structure RopeIs (cs : List Pt) (a b : Pt) (F : List Pt) : Prop where
  two : 2 ≤ F.length
  hd : F[0]? = some a
  lst : F[F.length - 1]? = some b
  mem : ∀ p ∈ F, p = a ∨ p = b ∨ p ∈ innP cs a b
  dir : ∀ i (h : i + 1 < F.length), (a.1 < b.1 ∧ F[i].1 < F[i + 1].1) ∨ (b.1 < a.1 ∧ F[i + 1].1 < F[i].1)
  inn : ∀ i (h : i + 2 < F.length), F[i + 1] ∈ innP cs a b ∧ Up F[i] F[i + 2] F[i + 1]
  adj : ∀ i (h : i + 1 < F.length), ∀ v ∈ ptsP cs a b, (F[i].1 < v.1 ∧ v.1 < F[i + 1].1 ∨ F[i + 1].1 < v.1 ∧ v.1 < F[i].1) → ¬ Up F[i] F[i + 1] v
open Classical in
theorem rope_is {cs : List Pt} (hA : Asc cs) {a b : Pt} (h : a.1 ≠ b.1) : RopeIs cs a b (ropeP cs a b) := by
  have hp : ((ptsP cs a b).Pairwise fun a b => a.1 < b.1) ∨ ((ptsP cs a b).Pairwise fun a b => b.1 < a.1) := by
    rcases Int.lt_trichotomy a.1 b.1 with z | z | z
    · exact .inl (pts_up hA z)
    · exact absurd z h
    · exact .inr (pts_dn hA z)
  have adj := rope_adj hp
  have fl : ropeP cs a b = _ := rope_filter hp
  have sub : (ropeP cs a b).Sublist (ptsP cs a b) := by rw [fl]; exact List.filter_sublist
  have ends : ∀ p ∈ ptsP cs a b, p = a ∨ p = b ∨ p ∈ innP cs a b := fun p hp => by
    rcases List.mem_cons.mp hp with e | hp
    · exact .inl e
    · rcases List.mem_append.mp hp with hp | hp
      · exact .inr (.inr hp)
      · exact .inr (.inl (by simpa using hp))
  have lo : ∀ p ∈ innP cs a b, min a.1 b.1 < p.1 ∧ p.1 < max a.1 b.1 := fun p hp => by
    have := (innP_mem hp).2
    unfold btw at this
    simp only [Bool.and_eq_true, decide_eq_true_eq] at this
    exact this
  have va : Ver (ptsP cs a b) a := fun q hq r hr x y => by
    have e : ∀ z ∈ ptsP cs a b, min a.1 b.1 ≤ z.1 ∧ z.1 ≤ max a.1 b.1 := fun z hz => by
      rcases ends z hz with rfl | rfl | hz
      · omega
      · omega
      · have := lo z hz; omega
    have := e q hq
    have := e r hr
    omega
  have vb : Ver (ptsP cs a b) b := fun q hq r hr x y => by
    have e : ∀ z ∈ ptsP cs a b, min a.1 b.1 ≤ z.1 ∧ z.1 ≤ max a.1 b.1 := fun z hz => by
      rcases ends z hz with rfl | rfl | hz
      · omega
      · omega
      · have := lo z hz; omega
    have := e q hq
    have := e r hr
    omega
  have form : ∃ M, ropeP cs a b = a :: (M ++ [b]) ∧ ∀ p ∈ M, p ∈ innP cs a b := by
    refine ⟨(innP cs a b).filter fun v => decide (Ver (ptsP cs a b) v), ?_, fun p hp => (List.mem_filter.mp hp).1⟩
    rw [fl]
    show List.filter _ (a :: (innP cs a b ++ [b])) = _
    rw [List.filter_cons_of_pos (by exact decide_eq_true va), List.filter_append, List.filter_cons_of_pos (by exact decide_eq_true vb)]
    rfl
  have dir : ∀ i (h : i + 1 < (ropeP cs a b).length), (a.1 < b.1 ∧ (ropeP cs a b)[i].1 < (ropeP cs a b)[i + 1].1) ∨ (b.1 < a.1 ∧ (ropeP cs a b)[i + 1].1 < (ropeP cs a b)[i].1) := by
    intro i hi
    rcases Int.lt_trichotomy a.1 b.1 with z | z | z
    · exact .inl ⟨z, List.pairwise_iff_getElem.mp ((pts_up hA z).sublist sub) i (i + 1) (by omega) hi (by omega)⟩
    · exact absurd z h
    · exact .inr ⟨z, List.pairwise_iff_getElem.mp ((pts_dn hA z).sublist sub) i (i + 1) (by omega) hi (by omega)⟩
  obtain ⟨M, eM, mM⟩ := form
  refine ⟨by rw [eM]; simp, by rw [eM]; rfl, by rw [eM]; simp, fun p hp => ends p (sub.subset hp), dir, fun i hi => ⟨?_, ?_⟩, adj⟩
  · have e : (ropeP cs a b)[i + 1] = M[i]'(by rw [eM] at hi; simp at hi; omega) := by
      simp only [eM, List.getElem_cons_succ]
      rw [List.getElem_append_left]
    rw [e]
    exact mM _ (List.getElem_mem _)
  · have hv : Ver (ptsP cs a b) (ropeP cs a b)[i + 1] := by
      have : (ropeP cs a b)[i + 1] ∈ ropeP cs a b := List.getElem_mem _
      generalize (ropeP cs a b)[i + 1] = z at this
      rw [fl] at this
      have := (List.mem_filter.mp this).2
      exact of_decide_eq_true this
    have m1 := sub.subset (List.getElem_mem (show i < (ropeP cs a b).length by omega))
    have m2 := sub.subset (List.getElem_mem hi)
    rcases dir i (by omega) with ⟨z, k⟩ | ⟨z, k⟩
    · rcases dir (i + 1) (by omega) with ⟨z2, k2⟩ | ⟨z2, k2⟩
      · exact hv _ m1 _ m2 k k2
      · omega
    · rcases dir (i + 1) (by omega) with ⟨z2, k2⟩ | ⟨z2, k2⟩
      · omega
      · exact Up.swap.mp (hv _ m2 _ m1 k2 k)
/-! the law's own reckoning -/
structure PvRo (P : Prog) : Prop where
  f : P.fns "rope" = some c_rope
  h5 : P.fns "look_at_spots" = some c_look_at_spots
  h6 : P.fns "between" = some c_between
  h7 : P.fns "side_of" = some c_side_of
  h4 : P.fns "stands" = some c_stands
  h0 : P.fns "ground_at" = some c_ground_at
  h1 : P.fns "less" = some c_less
  h2 : P.fns "height_on" = some c_height_on
  h3 : P.fns "fraction" = some c_fraction
  hc : P.fldOk "Ground" "corners" = true
  he : P.isEx "OffGround" = true
theorem rope_val {P n} (Z : PvRo P) (cs : List (Int × Int)) (hs : SmC cs) (hA : Asc cs) (hl2 : 2 ≤ cs.length) (hl : cs.length ≤ 1000) (a b : Int × Int) (sa : SmP a) (sb : SmP b) (hne : stB cs a.1 a.2 = true → stB cs b.1 b.2 = true → a.1 ≠ b.1) {h Q X}
    (q1 : stB cs a.1 a.2 = true → stB cs b.1 b.2 = true → Q (.vl ((ropeP cs a b).map pairD)) h) (q2 : ¬ (stB cs a.1 a.2 = true ∧ stB cs b.1 b.2 = true) → X "OffGround" h) : (Gn P (n+6)).fn "rope" [groundD cs, pairD a, pairD b] h Q X :=
  rope_core Z.f Z.h5 Z.h6 Z.h7 Z.h4 Z.h0 Z.h1 Z.h2 Z.h3 Z.hc Z.he cs hs hA hl2 hl a b sa.1 sa.2 sb.1 sb.2 hne (fun g1 g2 S => .pure (v' := .vl ((ropeP cs a b).map pairD)) (.lst (by omega) (by simp) (fzs_pairs _)) (List.prefix_append _ _) (q1 g1 g2)) q2
end Vd

set_option Elab.async false
set_option linter.all false
set_option maxRecDepth 100000
namespace Vd
open PySem

theorem ceil_iff {a b t : Int} (hb : 0 < b) : -(-a / b) ≤ t ↔ qv a b ≤ (t : Rat) := by
  rw [← qv_leI hb]
  have h := Int.le_ediv_iff_mul_le (a := -t) (b := -a) (c := b) hb
  rw [Int.neg_mul] at h
  constructor
  · intro z
    have := h.mp (by omega)
    omega
  · intro z
    have := h.mpr (by omega)
    omega
theorem height_okY {P n} (hf : P.fns "height_on" = some c_height_on) (h1 : P.fns "fraction" = some c_fraction) (x y z w s : Int) [Sm x 200] [Sm y 1050] [Sm z 190] [Sm w 190] [Sm s 200] (hne : x ≠ z) {h Q X} (q : ∀ p r : Int, Fr p r 1400 → qv p r = hv x y z w s → Q (.tup [.int p, .int r]) h) : (Gn P (n+2)).fn "height_on" [.tup [.int x, .int y], .tup [.int z, .int w], .tup [.int s, .int 1]] h Q X := by
  refine ⟨_, hf, rfl, ?_⟩
  have one : Sm (1 : Int) 1 := ⟨by decide⟩
  simp [c_height_on, h1]
  refine ⟨mul_ok (by decide), mul_ok (by decide), mul_ok (by decide), mul_ok (by decide), mul_ok (by decide), ?_⟩
  have hzx : z - x ≠ 0 := by omega
  refine frac_q h1 _ _ hzx (m := 1400) (by decide) (by decide) (by decide) fun p r hf e => .raw (q p r hf ?_)
  rw [qv_of (Int.ne_of_gt hf.pos) hzx e]
  have h1 := cz hzx
  rw [Rat.intCast_sub] at h1
  unfold qv hv
  simp only [Rat.intCast_mul, Rat.intCast_add, Rat.intCast_sub]
  grind
end Vd

set_option Elab.async false
set_option linter.all false
set_option maxRecDepth 100000
namespace Vd
open PySem
/-! _law_told: slots 0 ground 1 x 2 spot 3 found 4 kinds 5 e -/
/-! _law_good: slots 0 ground 1 corners 2 x 3 spot 4 more 5 kinds 6 found -/
/-! law: slots 0 script 1 corners 2 ground 3 cells 4 k 5 spot 6 x 7 m -/
theorem sm_maxW {a b : Int} {k : Nat} (ha : Sm a k) (hb : Sm b k) : Sm (max a b) k := ⟨by
  have := ha.lt
  have := hb.lt
  generalize (2 : Nat) ^ k = K at *
  omega⟩
theorem sm_ceil {a b : Int} {k : Nat} (ha : Sm a k) (hb : 0 < b) {m : Nat} (hm : k < m) : Sm (-(-a / b)) m := ⟨by
  have b1 := natAbs_ediv (-a) b hb
  have b2 := ha.lt
  have b3 : (2 : Nat) ^ (k + 1) ≤ 2 ^ m := Nat.pow_le_pow_right (by decide) hm
  have b4 : (1 : Nat) ≤ 2 ^ k := Nat.one_le_two_pow
  rw [Nat.pow_succ] at b3
  generalize (2 : Nat) ^ k = K1 at *
  generalize (2 : Nat) ^ m = K2 at *
  omega⟩
/-- t is at least the ground at x and over every corner between -/
noncomputable def topAt (cs : List (Int × Int)) (b : Int × Int) (x : Int) (v : Rat) (ps : List ((Int × Int) × Nat)) (t : Int) : Prop := v ≤ (t : Rat) ∧ ∀ p ∈ ps, hv b.1 b.2 p.1.1 p.1.2 x ≤ (t : Rat)
theorem least_top_ok {P n} (hf : P.fns "least_top" = some c_least_top) (hu : P.fns "up" = some c_up) (h5 : P.fns "look_at_spots" = some c_look_at_spots) (h6 : P.fns "between" = some c_between) (h4 : P.fns "stands" = some c_stands) (h0 : P.fns "ground_at" = some c_ground_at) (h1 : P.fns "less" = some c_less) (h2 : P.fns "height_on" = some c_height_on) (h3 : P.fns "fraction" = some c_fraction) (hc : P.fldOk "Ground" "corners" = true) (he : P.isEx "OffGround" = true) (cs : List (Int × Int)) (hs : SmC cs) (hA : Asc cs) (hl2 : 2 ≤ cs.length) (hl : cs.length ≤ 1000) (x : Int) (b : Int × Int) (sx : Sm x 200) (sb1 : Sm b.1 200) (sb2 : Sm b.2 1050) {h Q X}
    (q1 : stB cs b.1 b.2 = true → ∀ v, grd cs (x : Rat) = some v → ∀ T, Sm T 1500 → (∀ t, T ≤ t ↔ topAt cs b x v (btwL cs (x, 0) b) t) → Q (.int T) h) (q2 : (stB cs b.1 b.2 = false ∨ grd cs (x : Rat) = none) → X "OffGround" h) : (Gn P (n+6)).fn "least_top" [groundD cs, .int x, pairD b] h Q X := by
  refine ⟨_, hf, rfl, ?_⟩
  have sx4 : Sm x 400 := ⟨sm_le sx.lt (by decide)⟩
  have one : Sm (1 : Int) 400 := ⟨by decide⟩
  simp [c_least_top, h5, h0, hu, h6]
  rw [show ([pairD b] : List D) = List.map pairD [b] from rfl]
  refine look_ok h5 h4 h0 h1 h2 h3 hc he cs hs hA hl2 hl [b] (by
    intro p hp
    rw [List.mem_singleton.mp hp]
    exact ⟨⟨sm_le sb1.lt (by decide)⟩, ⟨sm_le sb2.lt (by decide)⟩⟩) (fun g => ?_) fun g => ?_
  · have gb := g b (by simp)
    refine ground_at_ok h0 h1 h2 h3 hc he cs hs hA hl2 hl x 1 (by decide) (fun g => ?_) fun v a d g hF hv => ?_
    · rw [qv_one] at g
      exact .inl (q2 (.inr g))
    · rw [qv_one] at g
      have sd := hF.sb
      have sa := hF.sa
      simp
      refine up_ok hu a d hF.pos (k := 1000) (by decide) ?_
      refine between_ok h6 hc cs hl (x, _) b ?_
      simp
      have q1 := q1 gb v g
      refine FL_map numD (btwL cs (x, 0) b) (fun k σ h' => h' = h ∧ ∃ T u, Sm T 1500 ∧ (∀ t, T ≤ t ↔ topAt cs b x v ((btwL cs (x, 0) b).take k) t) ∧ σ = [some (groundD cs), some (.int x), some (pairD b), some (.int T), u]) ⟨rfl, _, _, sm_ceil sa hF.pos (by decide), fun t => ?_, rfl⟩ (fun _ _ _ _ _ => trivial) ?_ ?_
      · rw [ceil_iff hF.pos, hv]
        unfold topAt
        simp
      · rintro k p σ h' hx hk ⟨rfl, T, u, sT, I, rfl⟩ Kn hKn
        obtain ⟨p1, p2⟩ := btwL_mem (List.mem_of_getElem? hx)
        obtain ⟨s1, s2⟩ := hs p.1 (List.mem_of_getElem? p1)
        have e1 : L2.atI (cs.map pairD) (p.2 : Int) = some (pairD p.1) := by
          rw [atI_nat, List.getElem?_map, p1]; rfl
        have hne : b.1 ≠ p.1.1 := by
          unfold btw at p2
          simp only [Bool.and_eq_true, decide_eq_true_eq] at p2
          omega
        simp [l1_least_top, h2, hu, numD]
        refine ⟨_, _, _, ⟨rfl, rfl, rfl⟩, hc, _, rfl, ?_⟩
        simp [e1, pairD]
        have t1 : Sm p.1.1 190 := ⟨sm_le s1.lt (by decide)⟩
        have t2 : Sm p.1.2 190 := ⟨sm_le s2.lt (by decide)⟩
        have sxx : Sm x 200 := sx
        refine height_okY h2 h3 b.1 b.2 p.1.1 p.1.2 x hne fun e r hF2 ev => ?_
        have se := hF2.sa
        have sr := hF2.sb
        refine up_ok hu e r hF2.pos (k := 1400) (by decide) ?_
        simp [max_ifG2]
        refine hKn _ _ ⟨rfl, _, _, sm_maxW sT (sm_ceil se hF2.pos (by decide)), fun t => ?_, rfl⟩
        rw [Int.max_le, I t, ceil_iff hF2.pos, ev, List.take_succ, hx]
        unfold topAt
        constructor
        · rintro ⟨⟨z1, z2⟩, z3⟩
          refine ⟨z1, fun p hp => ?_⟩
          rcases List.mem_append.mp hp with y | y
          · exact z2 p y
          · rw [show p = _ from by simpa using y]; exact z3
        · rintro ⟨z1, z2⟩
          exact ⟨⟨z1, fun p hp => z2 p (List.mem_append.mpr (.inl hp))⟩, z2 p (List.mem_append.mpr (.inr (by simp)))⟩
      · rintro σ h' ⟨rfl, T, u, sT, I, rfl⟩
        rw [List.take_length] at I
        exact ⟨_, rfl, .raw (q1 T sT I)⟩
  · obtain ⟨p, hp, hb⟩ := g
    rw [List.mem_singleton.mp hp] at hb
    exact .inl (q2 (.inl hb))
end Vd

set_option Elab.async false
set_option linter.all false
set_option maxRecDepth 100000
namespace Vd
open PySem
/-! _law_least: slots 0 corners 1 one 2 found 3 height 4 told 5 other 6 spot 7 wide 8 top -/
/-! _law_good: slots 0 ground 1 corners 2 one 3 other 4 found 5 k 6 low -/
/-! _law_foot: slots 0 corners 1 one 2 height -/
/-! law: slots 0 script 1 corners 2 ground 3 cells 4 k 5 one 6 other -/
theorem stB_corner {cs : List Pt} (hA : Asc cs) (hl : 2 ≤ cs.length) {p : Pt} (hp : p ∈ cs) : stB cs p.1 p.2 = true := by
  obtain ⟨j, hj, rfl⟩ := List.getElem_of_mem hp
  have key : grd cs (cs[j].1 : Rat) = some (cs[j].2 : Rat) := by
    have lt : ∀ {i k : Nat} (h : i < k) (hk : k < cs.length), (cs[i].1 : Rat) < cs[k].1 := fun {i k} h hk => Rat.intCast_lt_intCast.mpr (asc_lt hA h hk)
    rcases Nat.eq_zero_or_pos j with e | e
    · subst e
      have hlt := asc_lt hA (show 0 < 1 by omega) (show 1 < cs.length by omega)
      have h := grd_at (cs := cs) (u := (cs[0].1 : Rat)) (i := 0) (by omega) Rat.le_refl (Rat.le_of_lt (lt (show 0 < 1 by omega) (by omega))) (fun j hj h => absurd h (by omega))
      rw [h]
      unfold hv
      congr 1
      grind
    · obtain ⟨i, rfl⟩ : ∃ i, j = i + 1 := ⟨j - 1, by omega⟩
      have hlt := asc_lt hA (show i < i + 1 by omega) hj
      have h := grd_at (cs := cs) (u := (cs[i + 1].1 : Rat)) (i := i) hj (Rat.le_of_lt (lt (show i < i + 1 by omega) hj)) Rat.le_refl (fun m hm h => fun z => by
        have := lt (show m + 1 < i + 1 by omega) hj
        exact absurd z.2 (Rat.not_le.mpr this))
      rw [h]
      have hz : ((cs[i + 1].1 : Rat)) - cs[i].1 ≠ 0 := by
        have := Vd.cz (show cs[i + 1].1 - cs[i].1 ≠ 0 by omega)
        rwa [Rat.intCast_sub] at this
      unfold hv
      congr 1
      grind
  rw [stB_some key]
  exact decide_eq_true Rat.le_refl
/-! the tangent -/
/-! the law's least height -/
theorem deqs_prs : ∀ l : List Pt, deqs (l.map pairD) (l.map pairD) = true
  | [] => by simp
  | x :: l => by rw [List.map_cons, deqs_cons, deqs_prs l]; simp [pairD]
theorem pl_prs (l : List Pt) : (l.map pairD).all (pl 15) = true := by
  rw [List.all_map]; exact List.all_eq_true.mpr fun x _ => rfl
open Classical in
theorem rope_len {cs : List Pt} (hA : Asc cs) {a b : Pt} (hne : a.1 ≠ b.1) : (ropeP cs a b).length ≤ cs.length + 2 := by
  have h1 : (ropeP cs a b).length ≤ (ptsP cs a b).length := by
    have hp : ((ptsP cs a b).Pairwise fun a b => a.1 < b.1) ∨ ((ptsP cs a b).Pairwise fun a b => b.1 < a.1) := by
      rcases Int.lt_trichotomy a.1 b.1 with z | z | z
      · exact .inl (pts_up hA z)
      · exact absurd z hne
      · exact .inr (pts_dn hA z)
    rw [show ropeP cs a b = _ from rope_filter hp]
    exact List.length_filter_le _ _
  have h2 := innP_len (cs := cs) (a := a) (b := b)
  unfold ptsP at h1
  simp at h1
  omega
structure PvRl (P : Prog) : Prop extends PvRo P where
  cl : P.fns "clear" = some c_clear
  hi : P.fns "hinder" = some c_hinder
  lt : P.fns "least_top" = some c_least_top
  up : P.fns "up" = some c_up
end Vd

set_option Elab.async false
set_option linter.all false
set_option maxRecDepth 100000
/-! ground turned: sheared, stretched, mirrored (no program) -/
namespace Vd
open PySem
noncomputable def tP (a b c d : Int) (p : Pt) : Pt := (p.1 * a + d, p.2 * b + p.1 * c - d)
noncomputable def tL (a b c d : Int) (cs : List Pt) : List Pt := if a < 0 then (cs.map (tP a b c d)).reverse else cs.map (tP a b c d)
section
variable {a b c d : Int} (ha : a ≠ 0) (hb : 0 < b)
include ha
theorem tx_lt {x y : Int} : x * a + d < y * a + d ↔ (0 < a ∧ x < y) ∨ (a < 0 ∧ y < x) := by
  rcases Int.lt_or_gt_of_ne ha with h | h
  · have e : x * a < y * a ↔ y < x := Int.mul_lt_mul_right_of_neg h
    omega
  · have e : x * a < y * a ↔ x < y := Int.mul_lt_mul_right h
    omega
theorem tx_eq {x y : Int} : x * a + d = y * a + d ↔ x = y := by
  constructor
  · intro h
    have : x * a = y * a := by omega
    exact Int.eq_of_mul_eq_mul_right ha this
  · rintro rfl; rfl
theorem btw_iff {p q r : Pt} : btw p q r = true ↔ (p.1 < r.1 ∧ r.1 < q.1) ∨ (q.1 < r.1 ∧ r.1 < p.1) := by
  clear ha
  unfold btw
  rw [Bool.and_eq_true, decide_eq_true_eq, decide_eq_true_eq]
  omega
theorem btw_tP {p q r : Pt} : btw (tP a b c d p) (tP a b c d q) (tP a b c d r) = btw p q r := by
  rw [Bool.eq_iff_iff, btw_iff ha, btw_iff ha]
  show (p.1 * a + d < r.1 * a + d ∧ r.1 * a + d < q.1 * a + d) ∨ (q.1 * a + d < r.1 * a + d ∧ r.1 * a + d < p.1 * a + d) ↔ _
  rw [tx_lt ha, tx_lt ha, tx_lt ha, tx_lt ha]
  omega
include hb
theorem up_tP {p q r : Pt} : Up (tP a b c d p) (tP a b c d q) (tP a b c d r) ↔ Up p q r := by
  unfold Up sideN
  rw [Int.sign_pos_iff, Int.sign_pos_iff]
  have e : (((tP a b c d r).2 - (tP a b c d p).2) * ((tP a b c d q).1 - (tP a b c d p).1) - ((tP a b c d q).2 - (tP a b c d p).2) * ((tP a b c d r).1 - (tP a b c d p).1)) * ((tP a b c d q).1 - (tP a b c d p).1)
      = (a * a * b) * (((r.2 - p.2) * (q.1 - p.1) - (q.2 - p.2) * (r.1 - p.1)) * (q.1 - p.1)) := by
    show ((r.2 * b + r.1 * c - d - (p.2 * b + p.1 * c - d)) * (q.1 * a + d - (p.1 * a + d)) - (q.2 * b + q.1 * c - d - (p.2 * b + p.1 * c - d)) * (r.1 * a + d - (p.1 * a + d))) * (q.1 * a + d - (p.1 * a + d)) = _
    grind
  rw [e]
  have h0 : 0 < a * a * b := Int.mul_pos (by rcases Int.lt_or_gt_of_ne ha with h | h; exact Int.mul_pos_of_neg_of_neg h h; exact Int.mul_pos h h) hb
  exact ⟨fun h => by
    rcases Int.lt_trichotomy (((r.2 - p.2) * (q.1 - p.1) - (q.2 - p.2) * (r.1 - p.1)) * (q.1 - p.1)) 0 with k | k | k
    · have := Int.mul_neg_of_pos_of_neg h0 k; omega
    · rw [k] at h; simp at h
    · exact k, fun h => Int.mul_pos h0 h⟩
theorem bad_tP {p q r : Pt} : bad (tP a b c d p) (tP a b c d q) (tP a b c d r) = bad p q r := by
  unfold bad
  rw [btw_tP ha]
  congr 1
  exact decide_eq_decide.mpr (up_tP ha hb)
theorem popR_tP (s : Pt) : ∀ l : List Pt, popR (tP a b c d s) (l.map (tP a b c d)) = (popR s l).map (tP a b c d)
  | [] => rfl
  | [t] => rfl
  | t :: u :: r => by
    have e : popR (tP a b c d s) ((t :: u :: r).map (tP a b c d)) = if Up (tP a b c d u) (tP a b c d s) (tP a b c d t) then (t :: u :: r).map (tP a b c d) else popR (tP a b c d s) ((u :: r).map (tP a b c d)) := rfl
    rw [e, popR_tP s (u :: r)]
    by_cases k : Up u s t
    · rw [if_pos ((up_tP ha hb).mpr k)]; unfold popR; rw [if_pos k]
    · rw [if_neg (fun z => k ((up_tP ha hb).mp z))]
      rw [show popR s (t :: u :: r) = if Up u s t then t :: u :: r else popR s (u :: r) from rfl, if_neg k]
theorem fold_tP : ∀ (ps l : List Pt), (ps.map (tP a b c d)).foldl pushR (l.map (tP a b c d)) = (ps.foldl pushR l).map (tP a b c d)
  | [], _ => rfl
  | p :: ps, l => by
    rw [List.map_cons, List.foldl_cons, List.foldl_cons]
    have e : pushR (l.map (tP a b c d)) (tP a b c d p) = (pushR l p).map (tP a b c d) := by
      show tP a b c d p :: popR (tP a b c d p) (l.map (tP a b c d)) = (p :: popR p l).map (tP a b c d)
      rw [popR_tP ha hb, List.map_cons]
    rw [e, fold_tP]
omit hb
theorem inn_tL {cs : List Pt} {p q : Pt} (hne : p.1 ≠ q.1) : innP (tL a b c d cs) (tP a b c d p) (tP a b c d q) = (innP cs p q).map (tP a b c d) := by
  have f : ((cs.map (tP a b c d)).filter fun r => btw (tP a b c d p) (tP a b c d q) r) = (cs.filter fun r => btw p q r).map (tP a b c d) := by
    rw [List.filter_map]
    congr 1
    exact List.filter_congr fun r _ => btw_tP ha
  unfold innP tL
  rw [btwL_fst, btwL_fst]
  have e : (tP a b c d q).1 < (tP a b c d p).1 ↔ (0 < a ∧ q.1 < p.1) ∨ (a < 0 ∧ p.1 < q.1) := tx_lt ha
  by_cases h : a < 0
  · rw [if_pos h, List.filter_reverse, f, List.reverse_reverse]
    by_cases k : q.1 < p.1
    · rw [if_neg (by omega), if_pos k, List.map_reverse]
    · rw [if_pos (by omega), if_neg k]
  · rw [if_neg h, f]
    by_cases k : q.1 < p.1
    · rw [if_pos (by omega), if_pos k, List.map_reverse]
    · rw [if_neg (by omega), if_neg k]
include hb
theorem rope_tL {cs : List Pt} {p q : Pt} (hne : p.1 ≠ q.1) : ropeP (tL a b c d cs) (tP a b c d p) (tP a b c d q) = (ropeP cs p q).map (tP a b c d) := by
  unfold ropeP ropeR
  rw [inn_tL ha hne, show (innP cs p q).map (tP a b c d) ++ [tP a b c d q] = (innP cs p q ++ [q]).map (tP a b c d) by simp, show [tP a b c d p] = [p].map (tP a b c d) from rfl, fold_tP ha hb, List.map_reverse]
omit hb
theorem asc_tL {cs : List Pt} (hA : Asc cs) : Asc (tL a b c d cs) := by
  unfold tL Asc
  by_cases h : a < 0
  · rw [if_pos h, List.pairwise_reverse, List.pairwise_map]
    exact hA.imp fun {p q} k => (tx_lt ha).mpr (.inr ⟨h, k⟩)
  · rw [if_neg h, List.pairwise_map]
    exact hA.imp fun {p q} k => (tx_lt ha).mpr (.inl ⟨by omega, k⟩)
omit ha
theorem len_tL {cs : List Pt} : (tL a b c d cs).length = cs.length := by
  unfold tL; split <;> simp
theorem mem_tL {cs : List Pt} {r : Pt} : r ∈ tL a b c d cs ↔ ∃ q ∈ cs, tP a b c d q = r := by
  unfold tL; split <;> simp
/-! the height of the ground -/
theorem hv_tP (ha : a ≠ 0) {x y z w : Int} (h : x ≠ z) (u : Rat) : hv (x * a + d) (y * b + x * c - d) (z * a + d) (w * b + z * c - d) (u * a + d) = b * hv x y z w u + c * u - d := by
  have h1 := Vd.cz (show z - x ≠ 0 by omega)
  rw [Rat.intCast_sub] at h1
  have h2 := Vd.cz ha
  unfold hv
  rw [Rat.intCast_sub, Rat.intCast_sub, Rat.intCast_add, Rat.intCast_add, Rat.intCast_add, Rat.intCast_add, Rat.intCast_mul, Rat.intCast_mul, Rat.intCast_mul, Rat.intCast_mul, Rat.intCast_mul, Rat.intCast_mul]
  generalize (x : Rat) = x at *
  generalize (y : Rat) = y at *
  generalize (z : Rat) = z at *
  generalize (w : Rat) = w at *
  generalize (a : Rat) = a at *
  generalize (b : Rat) = b at *
  generalize (c : Rat) = c at *
  generalize (d : Rat) = d at *
  have e1 : z * a + d - (x * a + d) = (z - x) * a := by grind
  have e2 : u * a + d - (x * a + d) = (u - x) * a := by grind
  have e3 : w * b + z * c - d - (y * b + x * c - d) = (w - y) * b + (z - x) * c := by grind
  rw [e1, e2, e3]
  have e4 : ((w - y) * b + (z - x) * c) * ((u - x) * a) / ((z - x) * a) = (w - y) * (u - x) / (z - x) * b + (u - x) * c := by
    generalize z - x = D at *
    grind
  rw [e4]
  grind
theorem ru_le (ha : a ≠ 0) {x : Int} {u : Rat} : ((x * a + d : Int) : Rat) ≤ u * a + d ↔ (0 < a ∧ (x : Rat) ≤ u) ∨ (a < 0 ∧ u ≤ (x : Rat)) := by
  rw [Rat.intCast_add, Rat.intCast_mul]
  rcases Int.lt_or_gt_of_ne ha with h | h
  · have k : (a : Rat) < 0 := by have := Rat.intCast_lt_intCast.mpr h; simpa using this
    constructor
    · intro g
      refine .inr ⟨h, ?_⟩
      rw [← Rat.not_lt]
      intro z
      have := Rat.mul_lt_mul_of_pos_right z (show (0 : Rat) < -a by grind)
      grind
    · rintro (⟨g, _⟩ | ⟨_, g⟩)
      · omega
      · have := Rat.mul_le_mul_of_nonneg_right g (show (0 : Rat) ≤ -a by grind)
        grind
  · have k : 0 < (a : Rat) := by have := Rat.intCast_lt_intCast.mpr h; simpa using this
    constructor
    · intro g
      refine .inl ⟨h, ?_⟩
      rw [← Rat.not_lt]
      intro z
      have := Rat.mul_lt_mul_of_pos_right z k
      grind
    · rintro (⟨_, g⟩ | ⟨g, _⟩)
      · have := Rat.mul_le_mul_of_nonneg_right g (show (0 : Rat) ≤ a by grind)
        grind
      · omega
theorem ru_ge (ha : a ≠ 0) {x : Int} {u : Rat} : u * a + d ≤ ((x * a + d : Int) : Rat) ↔ (0 < a ∧ u ≤ (x : Rat)) ∨ (a < 0 ∧ (x : Rat) ≤ u) := by
  rw [Rat.intCast_add, Rat.intCast_mul]
  rcases Int.lt_or_gt_of_ne ha with h | h
  · have k : (a : Rat) < 0 := by have := Rat.intCast_lt_intCast.mpr h; simpa using this
    constructor
    · intro g
      refine .inr ⟨h, ?_⟩
      rw [← Rat.not_lt]
      intro z
      have := Rat.mul_lt_mul_of_pos_right z (show (0 : Rat) < -a by grind)
      grind
    · rintro (⟨g, _⟩ | ⟨_, g⟩)
      · omega
      · have := Rat.mul_le_mul_of_nonneg_right g (show (0 : Rat) ≤ -a by grind)
        grind
  · have k : 0 < (a : Rat) := by have := Rat.intCast_lt_intCast.mpr h; simpa using this
    constructor
    · intro g
      refine .inl ⟨h, ?_⟩
      rw [← Rat.not_lt]
      intro z
      have := Rat.mul_lt_mul_of_pos_right z k
      grind
    · rintro (⟨_, g⟩ | ⟨g, _⟩)
      · have := Rat.mul_le_mul_of_nonneg_right g (show (0 : Rat) ≤ a by grind)
        grind
      · omega
theorem grd_tL (ha : a ≠ 0) {cs : List Pt} (hA : Asc cs) (hl : 2 ≤ cs.length) {u : Rat} (h1 : (cs[0].1 : Rat) ≤ u) (h2 : u ≤ (cs[cs.length - 1]'(by omega)).1) : ∃ v, grd cs u = some v ∧ grd (tL a b c d cs) (u * a + d) = some (b * v + c * u - d) := by
  obtain ⟨i, hi, g1, g2⟩ := seg_of hl h1 h2
  have hl2 : (tL a b c d cs).length = cs.length := len_tL
  refine ⟨_, grd_seg hA hi g1 g2, ?_⟩
  have lt := asc_lt hA (show i < i + 1 by omega) hi
  by_cases h : a < 0
  · have e : ∀ j (hj : j < (tL a b c d cs).length), (tL a b c d cs)[j] = tP a b c d (cs[cs.length - 1 - j]'(by omega)) := fun j hj => by
      have : tL a b c d cs = (cs.map (tP a b c d)).reverse := by unfold tL; rw [if_pos h]
      simp only [this, List.getElem_reverse, List.getElem_map, List.length_map]
    have e1 : (tL a b c d cs)[cs.length - 2 - i]'(by omega) = tP a b c d cs[i + 1] := by rw [e]; congr 2; omega
    have e2 : (tL a b c d cs)[cs.length - 2 - i + 1]'(by omega) = tP a b c d cs[i] := by rw [e]; congr 2; omega
    have := grd_seg (asc_tL (b := b) (c := c) (d := d) ha hA) (u := u * a + d) (i := cs.length - 2 - i) (by omega) (by rw [e1]; exact (ru_le ha).mpr (.inr ⟨h, g2⟩)) (by rw [e2]; exact (ru_ge ha).mpr (.inr ⟨h, g1⟩))
    rw [this, e1, e2]
    show some (hv (cs[i + 1].1 * a + d) (cs[i + 1].2 * b + cs[i + 1].1 * c - d) (cs[i].1 * a + d) (cs[i].2 * b + cs[i].1 * c - d) (u * a + d)) = _
    rw [hv_tP ha (by omega), hv_swap _ _ _ _ (by omega)]
  · have e : ∀ j (hj : j < (tL a b c d cs).length), (tL a b c d cs)[j] = tP a b c d (cs[j]'(by omega)) := fun j hj => by
      have : tL a b c d cs = cs.map (tP a b c d) := by unfold tL; rw [if_neg h]
      simp only [this, List.getElem_map]
    have := grd_seg (asc_tL (b := b) (c := c) (d := d) ha hA) (u := u * a + d) (i := i) (by omega) (by rw [e]; exact (ru_le ha).mpr (.inl ⟨by omega, g1⟩)) (by rw [e]; exact (ru_ge ha).mpr (.inl ⟨by omega, g2⟩))
    rw [this, e, e]
    show some (hv (cs[i].1 * a + d) (cs[i].2 * b + cs[i].1 * c - d) (cs[i + 1].1 * a + d) (cs[i + 1].2 * b + cs[i + 1].1 * c - d) (u * a + d)) = _
    rw [hv_tP ha (by omega)]
theorem cast_tx (x : Int) : ((x * a + d : Int) : Rat) = (x : Rat) * a + d := by rw [Rat.intCast_add, Rat.intCast_mul]
theorem stB_tL (ha : a ≠ 0) (hb : 0 < b) {cs : List Pt} (hA : Asc cs) (hl : 2 ≤ cs.length) {p : Pt} (h1 : cs[0].1 ≤ p.1) (h2 : p.1 ≤ (cs[cs.length - 1]'(by omega)).1) (g : stB cs p.1 p.2 = true) : stB (tL a b c d cs) (tP a b c d p).1 (tP a b c d p).2 = true := by
  obtain ⟨v, e1, e2⟩ := grd_tL (b := b) (c := c) (d := d) ha hA hl (Rat.intCast_le_intCast.mpr h1) (Rat.intCast_le_intCast.mpr h2)
  rw [stB_some e1, decide_eq_true_eq] at g
  have e3 : grd (tL a b c d cs) (((tP a b c d p).1 : Int) : Rat) = some (b * v + c * (p.1 : Rat) - d) := by
    show grd (tL a b c d cs) ((p.1 * a + d : Int) : Rat) = _
    rw [cast_tx]; exact e2
  rw [stB_some e3, decide_eq_true_eq]
  show _ ≤ ((p.2 * b + p.1 * c - d : Int) : Rat)
  rw [Rat.intCast_sub, Rat.intCast_add, Rat.intCast_mul, Rat.intCast_mul]
  have k : 0 < (b : Rat) := by have := Rat.intCast_lt_intCast.mpr hb; simpa using this
  have := Rat.mul_le_mul_of_nonneg_right g (show (0 : Rat) ≤ b by grind)
  grind
/-! the least top -/
theorem topAt_iff {cs : List Pt} {q : Pt} {x : Int} {v : Rat} {t : Int} : topAt cs q x v (btwL cs (x, 0) q) t ↔ v ≤ (t : Rat) ∧ ∀ r ∈ cs, btw (x, 0) q r = true → hv q.1 q.2 r.1 r.2 x ≤ (t : Rat) := by
  unfold topAt
  constructor
  · rintro ⟨h1, h2⟩
    refine ⟨h1, fun r hr k => ?_⟩
    have : r ∈ (btwL cs (x, 0) q).map (·.1) := by rw [btwL_fst]; exact List.mem_filter.mpr ⟨hr, k⟩
    obtain ⟨s, hs, rfl⟩ := List.mem_map.mp this
    exact h2 s hs
  · rintro ⟨h1, h2⟩
    refine ⟨h1, fun s hs => ?_⟩
    have : s.1 ∈ (btwL cs (x, 0) q).map (·.1) := List.mem_map_of_mem hs
    rw [btwL_fst] at this
    obtain ⟨m1, m2⟩ := List.mem_filter.mp this
    exact h2 _ m1 m2
theorem top_tL (ha : a ≠ 0) {cs : List Pt} {q : Pt} {x : Int} {v : Rat} {T T' : Int} (hT : ∀ t, T ≤ t ↔ topAt cs q x v (btwL cs (x, 0) q) t)
    (hT' : ∀ t, T' ≤ t ↔ topAt (tL a 1 c d cs) (tP a 1 c d q) (x * a + d) (v + c * (x : Rat) - d) (btwL (tL a 1 c d cs) (x * a + d, 0) (tP a 1 c d q)) t) : T' = T + x * c - d := by
  have key : ∀ t : Int, topAt (tL a 1 c d cs) (tP a 1 c d q) (x * a + d) (v + c * (x : Rat) - d) (btwL (tL a 1 c d cs) (x * a + d, 0) (tP a 1 c d q)) (t + x * c - d) ↔ topAt cs q x v (btwL cs (x, 0) q) t := by
    intro t
    rw [topAt_iff, topAt_iff, Rat.intCast_sub, Rat.intCast_add, Rat.intCast_mul]
    have bt : ∀ r : Pt, btw (x * a + d, 0) (tP a 1 c d q) (tP a 1 c d r) = btw (x, 0) q r := fun r => by
      rw [← btw_tP (a := a) (b := 1) (c := c) (d := d) ha (p := (x, 0)) (q := q) (r := r)]; rfl
    have hh : ∀ r : Pt, btw (x, 0) q r = true → hv (tP a 1 c d q).1 (tP a 1 c d q).2 (tP a 1 c d r).1 (tP a 1 c d r).2 ((x * a + d : Int) : Rat) = hv q.1 q.2 r.1 r.2 x + c * x - d := fun r hr => by
      rw [btw_iff ha] at hr
      have hr : (x < r.1 ∧ r.1 < q.1) ∨ (q.1 < r.1 ∧ r.1 < x) := hr
      show hv (q.1 * a + d) (q.2 * 1 + q.1 * c - d) (r.1 * a + d) (r.2 * 1 + r.1 * c - d) ((x * a + d : Int) : Rat) = _
      rw [cast_tx, hv_tP ha (by omega)]
      grind
    constructor
    · rintro ⟨h1, h2⟩
      refine ⟨by grind, fun r hr k => ?_⟩
      have := h2 _ (mem_tL.mpr ⟨r, hr, rfl⟩) (by rw [bt]; exact k)
      rw [hh r k] at this
      grind
    · rintro ⟨h1, h2⟩
      refine ⟨by grind, fun r hr k => ?_⟩
      obtain ⟨s, hs, rfl⟩ := mem_tL.mp hr
      rw [bt] at k
      have := h2 s hs k
      rw [hh s k]
      grind
  have h1 := (hT' _).mpr ((key T).mpr ((hT T).mp (Int.le_refl _)))
  have h2 := (hT' T').mp (Int.le_refl _)
  rw [show T' = (T' - x * c + d) + x * c - d by omega] at h2
  have h3 := (hT _).mpr ((key _).mp h2)
  omega
/-! what hinders -/
theorem hind_idx (cs : List Pt) (p q : Pt) : hind cs p q = cs.findIdx? (bad p q) := by
  have g : ∀ (cs : List Pt) (n : Nat), ((cs.zipIdx n).find? fun x => bad p q x.1).map (·.2) = (cs.findIdx? (bad p q)).map (· + n) := by
    intro cs
    induction cs with
    | nil => intro n; rfl
    | cons r cs ih =>
      intro n
      rw [List.zipIdx_cons, List.find?_cons, List.findIdx?_cons]
      cases e : bad p q r with
      | true => simp
      | false =>
        simp only [Bool.false_eq_true, if_false]
        rw [ih]
        cases cs.findIdx? (bad p q) with
        | none => rfl
        | some k => simp; omega
  have := g cs 0
  unfold hind
  rw [this]
  cases cs.findIdx? (bad p q) <;> simp
noncomputable def LastB (cs : List Pt) (p q : Pt) (n : Nat) : Option Nat → Prop
  | none => ∀ j (h : j < cs.length), j < n → bad p q cs[j] = false
  | some k => k < n ∧ ∃ h : k < cs.length, bad p q cs[k] = true ∧ ∀ j (h : j < cs.length), k < j → j < n → bad p q cs[j] = false
theorem last_step {cs : List Pt} {p q : Pt} {n : Nat} {t : Option Nat} (hn : n < cs.length) (h : LastB cs p q n t) : LastB cs p q (n + 1) (if bad p q cs[n] = true then some n else t) := by
  by_cases k : bad p q cs[n] = true
  · rw [if_pos k]
    exact ⟨by omega, hn, k, fun j hj h1 h2 => by omega⟩
  · rw [if_neg k]
    have k : bad p q cs[n] = false := by simpa using k
    cases t with
    | none =>
      intro j hj h1
      by_cases e : j = n
      · subst e; exact k
      · exact h j hj (by omega)
    | some m =>
      obtain ⟨h1, h2, h3, h4⟩ := h
      refine ⟨by omega, h2, h3, fun j hj g1 g2 => ?_⟩
      by_cases e : j = n
      · subst e; exact k
      · exact h4 j hj g1 (by omega)
theorem hind_tP (ha : a ≠ 0) (hb : 0 < b) (h : ¬ a < 0) {cs : List Pt} {p q : Pt} : hind (tL a b c d cs) (tP a b c d p) (tP a b c d q) = hind cs p q := by
  rw [hind_idx, hind_idx]
  unfold tL
  rw [if_neg h, List.findIdx?_map]
  congr 1
  funext r
  exact bad_tP ha hb
theorem hind_tN (ha : a ≠ 0) (hb : 0 < b) (h : a < 0) {cs : List Pt} {p q : Pt} {t : Option Nat} (ht : LastB cs p q cs.length t) : hind (tL a b c d cs) (tP a b c d p) (tP a b c d q) = t.map fun k => cs.length - 1 - k := by
  rw [hind_idx]
  have e0 : tL a b c d cs = (cs.map (tP a b c d)).reverse := by unfold tL; rw [if_pos h]
  have hl2 : (tL a b c d cs).length = cs.length := len_tL
  have e : ∀ j (hj : j < (tL a b c d cs).length), bad (tP a b c d p) (tP a b c d q) (tL a b c d cs)[j] = bad p q (cs[cs.length - 1 - j]'(by omega)) := fun j hj => by
    have : (tL a b c d cs)[j] = tP a b c d (cs[cs.length - 1 - j]'(by omega)) := by
      simp only [e0, List.getElem_reverse, List.getElem_map, List.length_map]
    rw [this, bad_tP ha hb]
  cases t with
  | none =>
    show _ = none
    rw [List.findIdx?_eq_none_iff]
    intro r hr
    obtain ⟨j, hj, rfl⟩ := List.getElem_of_mem hr
    rw [e]
    exact ht _ _ (by omega)
  | some k =>
    obtain ⟨h1, h2, h3, h4⟩ := ht
    show _ = some (cs.length - 1 - k)
    rw [List.findIdx?_eq_some_iff_getElem]
    refine ⟨by omega, ?_, fun j hj => ?_⟩
    · rw [e]
      have : cs.length - 1 - (cs.length - 1 - k) = k := by omega
      simp only [this]
      exact h3
    · rw [e]
      rw [h4 _ (by omega) (by omega) (by omega)]
      decide
theorem hind_last {cs : List Pt} {p q : Pt} {t : Option Nat} (ht : LastB cs p q cs.length t) : (hind cs p q).isNone = t.isNone := by
  rw [hind_idx]
  cases t with
  | none =>
    rw [List.findIdx?_eq_none_iff.mpr (fun r hr => by
      obtain ⟨j, hj, rfl⟩ := List.getElem_of_mem hr
      exact ht _ _ hj)]
  | some k =>
    obtain ⟨h1, h2, h3, h4⟩ := ht
    cases e : cs.findIdx? (bad p q) with
    | none =>
      have := List.findIdx?_eq_none_iff.mp e _ (List.getElem_mem h2)
      rw [h3] at this
      cases this
    | some m => rfl
end
end Vd

set_option Elab.async false
set_option linter.all false
set_option maxRecDepth 100000
namespace Vd
open PySem
/-! _law_shape: slots 0 script 1 cell 2 other 3 wide 4 tilt 5 moved_on -/
noncomputable def c__law_shape : Fn := ⟨6, ["script"], (
  .cons (.set (.nm 1) (.call "_law_cell" (.cons (.var 0) (.cons (.int 0) .nil)))) <| 
  .cons (.set (.nm 2) (.call "_law_cell" (.cons (.var 0) (.cons (.int 1) .nil)))) <| 
  .cons (.set (.nm 3) (.bin false .add (.int 1) (.bin false .mod (.bin false .fdiv (.var 1) (.int 3)) (.int 5)))) <| 
  .cons (.set (.nm 4) (.bin false .sub (.bin false .mod (.var 2) (.int 21)) (.int 10))) <| 
  .cons (.ite (.cmp .eq (.bin false .mod (.bin false .fdiv (.var 2) (.int 21)) (.int 4)) (.int 1)) (
    .cons (.set (.nm 4) (.bin false .mod (.bin false .fdiv (.var 2) (.int 84)) (.bin false .pow (.int 10) (.int 6)))) <| .nil) .nil) <| 
  .cons (.set (.nm 5) (.bin false .sub (.bin false .mod (.bin false .fdiv (.var 1) (.int 15)) (.bin false .mul (.int 2) (.bin false .pow (.int 10) (.int 6)))) (.bin false .pow (.int 10) (.int 6)))) <| 
  .cons (.ret (.tup (.cons (.bin false .mul (.idx (.lst false (.cons (.int 1) (.cons (.neg (.int 1)) .nil))) (.bin false .mod (.var 1) (.int 2))) (.var 3)) (.cons (.bin false .add (.int 1) (.bin false .mod (.bin false .fdiv (.var 2) (.int 3)) (.int 3))) (.cons (.var 4) (.cons (.var 5) .nil)))))) <| .nil)⟩
/-! _law_put: slots 0 shape 1 spot 2 high -/
noncomputable def c__law_put : Fn := ⟨3, ["shape", "spot"], (
  .cons (.set (.nm 2) (.bin false .add (.bin false .mul (.idx (.var 1) (.int 1)) (.idx (.var 0) (.int 1))) (.bin false .mul (.idx (.var 1) (.int 0)) (.idx (.var 0) (.int 2))))) <| 
  .cons (.ret (.tup (.cons (.bin false .add (.bin false .mul (.idx (.var 1) (.int 0)) (.idx (.var 0) (.int 0))) (.idx (.var 0) (.int 3))) (.cons (.bin false .sub (.var 2) (.idx (.var 0) (.int 3))) .nil)))) <| .nil)⟩
/-! _law_last: slots 0 corners 1 one 2 other 3 ends 4 wide 5 told 6 k 7 x 8 z 9 rise -/
noncomputable def l1__law_last : Ss := (
  .cons (.set (.tp [7, 8]) (.idx (.var 0) (.var 6))) <| 
  .cons (.ite (.and (.cons (.cmp .lt (.idx (.idx (.var 3) (.int 0)) (.int 0)) (.var 7)) (.cons (.cmp .lt (.var 7) (.idx (.idx (.var 3) (.int 1)) (.int 0))) .nil))) (
    .cons (.set (.nm 9) (.bin false .sub (.idx (.idx (.var 3) (.int 1)) (.int 1)) (.idx (.idx (.var 3) (.int 0)) (.int 1)))) <| 
    .cons (.ite (.cmp .gt (.bin false .mul (.bin false .sub (.var 8) (.idx (.idx (.var 3) (.int 0)) (.int 1))) (.var 4)) (.bin false .mul (.var 9) (.bin false .sub (.var 7) (.idx (.idx (.var 3) (.int 0)) (.int 0))))) (
      .cons (.set (.nm 5) (.var 6)) <| .nil) .nil) <| .nil) .nil) <| .nil)
noncomputable def c__law_last : Fn := ⟨10, ["corners", "one", "other"], (
  .cons (.set (.nm 3) (.bi "sorted" false (.cons (.lst false (.cons (.var 1) (.cons (.var 2) .nil))) .nil))) <| 
  .cons (.set (.nm 4) (.bin false .sub (.idx (.idx (.var 3) (.int 1)) (.int 0)) (.idx (.idx (.var 3) (.int 0)) (.int 0)))) <| 
  .cons (.set (.nm 5) (.non)) <| 
  .cons (.fr (.nm 6) (.rng1 (.bi "len" false (.cons (.var 0) .nil))) l1__law_last) <| 
  .cons (.ret (.var 5)) <| .nil)⟩
/-! _law_good: slots 0 grounds 1 corners 2 shape 3 one 4 other 5 there 6 due 7 top 8 spot -/
noncomputable def l1__law_good_v5 : Ss := (
  .cons (.set (.nm 7) (.call "least_top" (.cons (.idx (.var 0) (.int 0)) (.cons (.idx (.var 3) (.int 0)) (.cons (.var 4) .nil))))) <| 
  .cons (.ret (.cmp .eq (.call "least_top" (.cons (.idx (.var 0) (.int 1)) (.cons (.idx (.idx (.var 5) (.int 0)) (.int 0)) (.cons (.idx (.var 5) (.int 1)) .nil)))) (.idx (.call "_law_put" (.cons (.var 2) (.cons (.tup (.cons (.idx (.var 3) (.int 0)) (.cons (.var 7) .nil))) .nil))) (.int 1)))) <| .nil)
noncomputable def l2__law_good_v5 : Ss := (
  .cons (.ite (.cmp .gt (.idx (.var 2) (.int 1)) (.int 1)) (
    .cons (.ret (.bl true)) <| .nil) .nil) <| l1__law_good_v5)
noncomputable def l3__law_good_v5 : Ss := (
  .cons (.ite (.cmp .ne (.call "hinder" (.cons (.idx (.var 0) (.int 1)) (.cons (.idx (.var 5) (.int 0)) (.cons (.idx (.var 5) (.int 1)) .nil)))) (.var 6)) (
    .cons (.ret (.bl false)) <| .nil) .nil) <| l2__law_good_v5)
noncomputable def l4__law_good_v5 : Ss := (
  .cons (.set (.nm 6) (.call "hinder" (.cons (.idx (.var 0) (.int 0)) (.cons (.var 3) (.cons (.var 4) .nil))))) <| 
  .cons (.ite (.and (.cons (.cmp .lt (.idx (.var 2) (.int 0)) (.int 0)) (.cons (.cmp .isn (.var 6) (.non)) .nil))) (
    .cons (.set (.nm 6) (.bin false .sub (.bin false .sub (.bi "len" false (.cons (.var 1) .nil)) (.int 1)) (.call "_law_last" (.cons (.var 1) (.cons (.var 3) (.cons (.var 4) .nil)))))) <| .nil) .nil) <| l3__law_good_v5)
noncomputable def l5__law_good_v5 : Ss := (
  .cons (.ite (.cmp .ne (.call "rope" (.cons (.idx (.var 0) (.int 1)) (.cons (.idx (.var 5) (.int 0)) (.cons (.idx (.var 5) (.int 1)) .nil)))) (.comp false (.call "_law_put" (.cons (.var 2) (.cons (.var 8) .nil))) (.nm 8) (.val (.call "rope" (.cons (.idx (.var 0) (.int 0)) (.cons (.var 3) (.cons (.var 4) .nil))))) .none [8])) (
    .cons (.ret (.bl false)) <| .nil) .nil) <| l4__law_good_v5)
noncomputable def c__law_good_v5 : Fn := ⟨9, ["grounds", "corners", "shape", "one", "other"], (
  .cons (.set (.nm 5) (.tup (.cons (.call "_law_put" (.cons (.var 2) (.cons (.var 3) .nil))) (.cons (.call "_law_put" (.cons (.var 2) (.cons (.var 4) .nil))) .nil)))) <| 
  .cons (.ite (.cmp .ne (.call "clear" (.cons (.idx (.var 0) (.int 1)) (.cons (.idx (.var 5) (.int 0)) (.cons (.idx (.var 5) (.int 1)) .nil)))) (.call "clear" (.cons (.idx (.var 0) (.int 0)) (.cons (.var 3) (.cons (.var 4) .nil))))) (
    .cons (.ret (.bl false)) <| .nil) .nil) <| l5__law_good_v5)⟩
/-! law: slots 0 script 1 corners 2 shape 3 others 4 grounds 5 cells 6 k 7 one 8 other 9 corner -/
noncomputable def l1_law_k16 : Ss := (
  .cons (.ite (.not (.call "_law_good" (.cons (.var 4) (.cons (.var 1) (.cons (.var 2) (.cons (.var 7) (.cons (.var 8) .nil))))))) (
    .cons (.ret (.bl false)) <| .nil) .nil) <| .nil)
noncomputable def l2_law_k16 : Ss := (
  .cons (.set (.nm 7) (.call "_law_spot" (.cons (.var 1) (.cons (.idx (.var 5) (.var 6)) (.cons (.bin false .mul (.int 2) (.var 6)) .nil))))) <| 
  .cons (.set (.nm 8) (.call "_law_spot" (.cons (.var 1) (.cons (.idx (.var 5) (.bin false .add (.var 6) (.int 1))) (.cons (.bin false .add (.bin false .mul (.int 2) (.var 6)) (.int 1)) .nil))))) <| 
  .cons (.ite (.cmp .eq (.idx (.var 7) (.int 0)) (.idx (.var 8) (.int 0))) (
    .cons (.set (.nm 8) (.idx (.var 1) (.bi "int" false (.cons (.cmp .eq (.idx (.var 7) (.int 0)) (.idx (.idx (.var 1) (.int 0)) (.int 0))) .nil)))) <| .nil) .nil) <| l1_law_k16)
noncomputable def l3_law_k16 : Ss := (
  .cons (.set (.nm 4) (.lst false (.cons (.make "Ground" (.cons (.bi "list" false (.cons (.var 1) .nil)) .nil)) (.cons (.make "Ground" (.cons (.var 3) .nil)) .nil)))) <| 
  .cons (.set (.nm 5) (.bin false .add (.bi "list" false (.cons (.slc false (.var 0) .none (.some (.int 16))) .nil)) (.lst false (.cons (.int 5) (.cons (.int 7) (.cons (.int 9) .nil)))))) <| 
  .cons (.fr (.nm 6) (.rng1 (.bin false .sub (.bi "len" false (.cons (.var 5) .nil)) (.int 1))) l2_law_k16) <| 
  .cons (.ret (.bl true)) <| .nil)
noncomputable def c_law_k16 : Fn := ⟨10, ["script"], (
  .cons (.set (.nm 1) (.call "_law_corners" (.cons (.call "_law_cells" (.cons (.var 0) (.cons (.int 2) (.cons (.int 24) .nil)))) .nil))) <| 
  .cons (.set (.nm 2) (.call "_law_shape" (.cons (.var 0) .nil))) <| 
  .cons (.set (.nm 3) (.comp true (.call "_law_put" (.cons (.var 2) (.cons (.var 9) .nil))) (.nm 9) (.val (.var 1)) .none [9])) <| 
  .cons (.ite (.cmp .lt (.idx (.var 2) (.int 0)) (.int 0)) (
    .cons (.ex (.bm "reverse" (.var 3) .nil)) <| .nil) .nil) <| l3_law_k16)⟩
theorem cell16_ok {P n} (hf : P.fns "_law_cell" = some c__law_cell) (ns : List Int) (k : Int) (hk : 0 ≤ k) {h Q X} (q : ∀ x : Int, Q (.int x) h) : (Gn P (n+1)).fn "_law_cell" [.sv (ns.map .int), .int k] h Q X := by
  refine ⟨_, hf, rfl, ?_⟩
  simp [c__law_cell]
  split
  · rename_i hk
    refine ⟨.int (ns[k.toNat]'(by omega)), ?_, .raw (q _)⟩
    rw [atI_ge (by omega), List.getElem?_map, List.getElem?_eq_getElem (by omega)]
    rfl
  · exact .raw (q _)
theorem shape16_ok {P n} (hf : P.fns "_law_shape" = some c__law_shape) (h1 : P.fns "_law_cell" = some c__law_cell) (ns : List Int) {h Q X}
    (q : ∀ a b c d : Int, a ≠ 0 → -5 ≤ a ∧ a ≤ 5 → 1 ≤ b ∧ b ≤ 3 → -1000000 ≤ c ∧ c ≤ 1000000 → -1000000 ≤ d ∧ d ≤ 1000000 → Q (.tup [.int a, .int b, .int c, .int d]) h) : (Gn P (n+2)).fn "_law_shape" [.sv (ns.map .int)] h Q X := by
  refine ⟨_, hf, rfl, ?_⟩
  simp [c__law_shape, h1]
  refine cell16_ok h1 ns 0 (by decide) fun x => cell16_ok h1 ns 1 (by decide) fun y => ?_
  simp
  have fin : ∀ (t : Int) , -1000000 ≤ t ∧ t ≤ 1000000 → ∃ v, L2.atI [D.int 1, D.int (-1)] (x % 2) = some v ∧ bopW false Op2.mul v (D.int (1 + x / 3 % 5)) h fun x_1 h1 => DivOk 3 ∧ Exit h (D.tup [x_1, D.int (1 + y / 3 % 3), D.int t, D.int (x / 15 % 2000000 - 1000000)]) h1 Q := by
    intro t ht
    have e : x % 2 = 0 ∨ x % 2 = 1 := by omega
    rcases e with e | e
    · refine ⟨.int 1, by rw [e]; rfl, ?_⟩
      simp
      exact ⟨mul_okL (by decide) (by decide), ⟨by decide, by decide⟩, .raw (q _ _ _ _ (by omega) (by omega) (by omega) ht (by omega))⟩
    · refine ⟨.int (-1), by rw [e]; rfl, ?_⟩
      simp
      exact ⟨mul_okL (by decide) (by decide), ⟨by decide, by decide⟩, .raw (q _ _ _ _ (by omega) (by omega) (by omega) ht (by omega))⟩
  refine ⟨⟨by decide, by decide⟩, ⟨by decide, by decide⟩, ?_⟩
  split
  · exact ⟨⟨by decide, by decide⟩, ⟨by decide, by decide⟩, mul_okL (by decide) (by decide), fin _ (by omega)⟩
  · exact ⟨⟨by decide, by decide⟩, mul_okL (by decide) (by decide), fin _ (by omega)⟩
theorem put16_ok {P n} (hf : P.fns "_law_put" = some c__law_put) (a b c d x z : Int) [Sm a 3] [Sm b 2] [Sm c 20] [Sm x 300] [Sm z 2000] {h Q X}
    (q : Q (pairD (tP a b c d (x, z))) h) : (Gn P (n+1)).fn "_law_put" [.tup [.int a, .int b, .int c, .int d], .tup [.int x, .int z]] h Q X := by
  refine ⟨_, hf, rfl, ?_⟩
  simp [c__law_put]
  exact ⟨mul_ok (a := 2000) (b := 2) (by decide), mul_ok (a := 300) (b := 20) (by decide), mul_ok (a := 300) (b := 3) (by decide), .raw q⟩
theorem lastB_swap {cs : List Pt} {p q : Pt} {n : Nat} {t : Option Nat} : LastB cs p q n t ↔ LastB cs q p n t := by
  have e : bad p q = bad q p := by funext r; exact bad_swap p q r
  unfold LastB; rw [e]
theorem last16_ok {P n} (hf : P.fns "_law_last" = some c__law_last) (cs : List Pt) (hs : SmC cs) (hl : cs.length ≤ 1000) (a b : Pt) (sa : SmP a) (sb : SmP b) (hne : a.1 ≠ b.1) {h Q X}
    (q : ∀ t, LastB cs a b cs.length t → Q (optN t) h) : (Gn P (n+1)).fn "_law_last" [.vl (cs.map pairD), pairD a, pairD b] h Q X := by
  refine ⟨_, hf, rfl, ?_⟩
  have core : ∀ (p r : Pt) (X' : XS), p.1 < r.1 → SmP p → SmP r → (∀ t, LastB cs p r cs.length t → Q (optN t) h) →
      FL (Gn P n) (Tg.nm 6) l1__law_last X' (fun x => True) (rngN 0 ↑cs.length) [some (D.vl (List.map pairD cs)), some (pairD a), some (pairD b), some (.vl [pairD p, pairD r]), some (.int (r.1 - p.1)), some D.non, none, none, none, none] h { nx := fun σ' h' => ∃ d, σ'[5]? = some (some d) ∧ Exit h d h' Q, rt := fun v h' => Exit h v h' Q } := by
    rintro p r X' hlt ⟨p1, p2⟩ ⟨r1, r2⟩ q
    refine FL_rng (fun k σ h' => h' = h ∧ ∃ t u1 u2 u3 u4, LastB cs p r k t ∧ σ = [some (.vl (cs.map pairD)), some (pairD a), some (pairD b), some (.vl [pairD p, pairD r]), some (.int (r.1 - p.1)), some (optN t), u1, u2, u3, u4]) ⟨rfl, none, _, _, _, _, fun j _ hj => by omega, rfl⟩ (fun _ => trivial) ?_ ?_
    · rintro k σ h' hk ⟨rfl, t, u1, u2, u3, u4, I, rfl⟩ Kn hKn
      have hkl : k < cs.length := by omega
      obtain ⟨s1, s2⟩ := hs _ (List.getElem_mem hkl)
      have I2 := last_step hkl I
      have hb := bad_le (a := p) (b := r) (c := cs[k]) (by omega)
      simp [l1__law_last, pget hkl, pairD]
      have no : ∀ (w : Option D), bad p r cs[k] = false → Kn [some (D.vl (List.map pairD cs)), some (pairD a), some (pairD b), some (D.vl [pairD p, pairD r]), some (D.int (r.1 - p.1)), some (optN t), some (D.int ↑k), some (D.int cs[k].1), some (D.int cs[k].2), w] h' := fun w z => by
        rw [if_neg (by rw [z]; decide)] at I2
        exact hKn _ _ ⟨rfl, t, _, _, _, _, I2, rfl⟩
      by_cases c1 : p.1 < cs[k].1
      · rw [if_pos c1]
        by_cases c2 : cs[k].1 < r.1
        · rw [if_pos c2]
          refine ⟨mul_ok (by decide), mul_ok (by decide), ?_⟩
          by_cases c3 : (r.2 - p.2) * (cs[k].1 - p.1) < (cs[k].2 - p.2) * (r.1 - p.1)
          · rw [if_pos c3]
            rw [if_pos (hb.mpr ⟨c1, c2, c3⟩)] at I2
            exact hKn _ _ ⟨rfl, some k, _, _, _, _, I2, rfl⟩
          · rw [if_neg c3]
            exact no _ (Bool.eq_false_iff.mpr fun z => c3 (hb.mp z).2.2)
        · rw [if_neg c2]
          exact no _ (Bool.eq_false_iff.mpr fun z => c2 (hb.mp z).2.1)
      · rw [if_neg c1]
        exact no _ (Bool.eq_false_iff.mpr fun z => c1 (hb.mp z).1)
    · rintro σ h' ⟨rfl, t, u1, u2, u3, u4, I, rfl⟩
      exact ⟨_, rfl, .raw (q t I)⟩
  simp [c__law_last]
  refine .inr ⟨_, _, rdL_vl _ _, pairsD_map [a, b], fun ps hp hsrt => ?_⟩
  have e : (ps = [a, b] ∧ a.1 < b.1) ∨ (ps = [b, a] ∧ b.1 < a.1) := by
    have hl2 := hp.length_eq
    match ps, hl2 with
    | [u, v], _ =>
      have ho := (List.pairwise_cons.mp hsrt).1 v (by simp)
      have hu : u ∈ [a, b] := hp.subset (by simp)
      have ho : u.1 < v.1 ∨ (u.1 = v.1 ∧ u.2 ≤ v.2) := ho
      rcases (by simpa using hu : u = a ∨ u = b) with rfl | rfl
      · have := List.singleton_perm_singleton.mp ((List.perm_cons _).mp hp)
        subst this
        exact .inl ⟨rfl, by omega⟩
      · have := List.singleton_perm_singleton.mp ((List.perm_cons _).mp (hp.trans (List.Perm.swap _ _ _)))
        subst this
        exact .inr ⟨rfl, by omega⟩
  rw [mkL_f]
  refine ⟨by rw [List.length_map, hp.length_eq]; simp, ?_⟩
  rcases e with ⟨rfl, lt⟩ | ⟨rfl, lt⟩
  · have := fun X' => core a b X' lt sa sb q
    simp [pairD] at this ⊢
    exact ⟨⟨by omega, by omega⟩, this _⟩
  · have := fun X' => core b a X' lt sb sa fun t ht => q t (lastB_swap.mp ht)
    simp [pairD] at this ⊢
    exact ⟨⟨by omega, by omega⟩, this _⟩
theorem smC_tL {a b c d : Int} (h1 : -5 ≤ a ∧ a ≤ 5) (h2 : 1 ≤ b ∧ b ≤ 3) (h3 : -1000000 ≤ c ∧ c ≤ 1000000) (h4 : -1000000 ≤ d ∧ d ≤ 1000000) {cs : List Pt} (hw : ∀ p ∈ cs, -(10 ^ 49) ≤ p.1 ∧ p.1 ≤ 6 * 10 ^ 49 ∧ -(10 ^ 50) ≤ p.2 ∧ p.2 ≤ 10 ^ 50) : SmC (tL a b c d cs) := by
  intro r hr
  obtain ⟨p, hp, rfl⟩ := mem_tL.mp hr
  obtain ⟨w1, w2, w3, w4⟩ := hw p hp
  have s1 : Sm a 3 := ⟨by omega⟩
  have s2 : Sm b 2 := ⟨by omega⟩
  have s3 : Sm c 20 := ⟨by omega⟩
  have s4 : Sm d 20 := ⟨by omega⟩
  have s5 : Sm p.1 166 := ⟨by omega⟩
  have s6 : Sm p.2 167 := ⟨by omega⟩
  exact ⟨⟨sm_le (inferInstance : Sm (p.1 * a + d) _).lt (by decide)⟩, ⟨sm_le (inferInstance : Sm (p.2 * b + p.1 * c - d) _).lt (by decide)⟩⟩
structure Pv16 (P : Prog) : Prop extends PvRl P where
  pt : P.fns "_law_put" = some c__law_put
  la : P.fns "_law_last" = some c__law_last
theorem good16_ok {P n} (hf : P.fns "_law_good" = some c__law_good_v5) (Z : Pv16 P) (cs : List Pt) (hs : SmC cs) (hA : Asc cs) (hl2 : 2 ≤ cs.length) (hl : cs.length ≤ 1000)
    (a b c d : Int) (ha : a ≠ 0) (t1 : -5 ≤ a ∧ a ≤ 5) (t2 : 1 ≤ b ∧ b ≤ 3) (t3 : -1000000 ≤ c ∧ c ≤ 1000000) (t4 : -1000000 ≤ d ∧ d ≤ 1000000) (hs' : SmC (tL a b c d cs))
    (p r : Pt) (sp1 : Sm p.1 170) (sp2 : Sm p.2 1010) (sr1 : Sm r.1 170) (sr2 : Sm r.2 1010) (hp1 : cs[0].1 ≤ p.1) (hp2 : p.1 ≤ (cs[cs.length - 1]'(by omega)).1) (hr1 : cs[0].1 ≤ r.1) (hr2 : r.1 ≤ (cs[cs.length - 1]'(by omega)).1) (gp : stB cs p.1 p.2 = true) (gr : stB cs r.1 r.2 = true) (hne : p.1 ≠ r.1) {h Q X} (q : Q (.bl true) h) :
    (Gn P (n+8)).fn "_law_good" [.vl [groundD cs, groundD (tL a b c d cs)], .vl (cs.map pairD), .tup [.int a, .int b, .int c, .int d], pairD p, pairD r] h Q X := by
  refine ⟨_, hf, rfl, ?_⟩
  have hA' : Asc (tL a b c d cs) := asc_tL ha hA
  have hl' : (tL a b c d cs).length = cs.length := len_tL
  have hb : 0 < b := by omega
  have s1 : Sm a 3 := ⟨by omega⟩
  have s2 : Sm b 2 := ⟨by omega⟩
  have s3 : Sm c 20 := ⟨by omega⟩
  have s4 : Sm d 20 := ⟨by omega⟩
  have st : ∀ p : Pt, Sm p.1 170 → Sm p.2 1010 → Sm (tP a b c d p).1 200 ∧ Sm (tP a b c d p).2 1050 := fun p k1 k2 =>
    ⟨⟨sm_le (inferInstance : Sm (p.1 * a + d) _).lt (by decide)⟩, ⟨sm_le (inferInstance : Sm (p.2 * b + p.1 * c - d) _).lt (by decide)⟩⟩
  have up : ∀ {x : Int} {k m : Nat}, Sm x k → k ≤ m → Sm x m := fun s hm => ⟨sm_le s.lt hm⟩
  have sP : SmP p := ⟨up sp1 (by decide), up sp2 (by decide)⟩
  have sR : SmP r := ⟨up sr1 (by decide), up sr2 (by decide)⟩
  obtain ⟨u1, u2⟩ := st p sp1 sp2
  obtain ⟨v1, v2⟩ := st r sr1 sr2
  have gp' : stB (tL a b c d cs) (tP a b c d p).1 (tP a b c d p).2 = true := stB_tL ha hb hA hl2 hp1 hp2 gp
  have gr' : stB (tL a b c d cs) (tP a b c d r).1 (tP a b c d r).2 = true := stB_tL ha hb hA hl2 hr1 hr2 gr
  have hne' : (tP a b c d p).1 ≠ (tP a b c d r).1 := fun z => hne ((tx_eq ha).mp z)
  have sP' : SmP (tP a b c d p) := ⟨up u1 (by decide), up u2 (by decide)⟩
  have sR' : SmP (tP a b c d r) := ⟨up v1 (by decide), up v2 (by decide)⟩
  have put : ∀ {p : Pt} {h : Hd} {Q X}, Sm p.1 300 → Sm p.2 2000 → Q (pairD (tP a b c d p)) h → (Gn P (n + 7)).fn "_law_put" [.tup [.int a, .int b, .int c, .int d], pairD p] h Q X := fun {p h Q X} k1 k2 q => put16_ok (n := n + 6) Z.pt a b c d p.1 p.2 q
  have last : ∀ (t : Option Nat), LastB cs p r cs.length t → hind (tL a b c d cs) (tP a b c d p) (tP a b c d r) = if a < 0 then t.map (fun k => cs.length - 1 - k) else hind cs p r := fun t ht => by
    by_cases h : a < 0
    · rw [if_pos h]; exact hind_tN ha hb h ht
    · rw [if_neg h]; exact hind_tP ha hb h
  have ex : ∃ t, LastB cs p r cs.length t := by
    have : ∀ m, m ≤ cs.length → ∃ t, LastB cs p r m t := by
      intro m
      induction m with
      | zero => intro _; exact ⟨none, fun j _ hj => by omega⟩
      | succ m ih => intro hm; obtain ⟨t, ht⟩ := ih (by omega); exact ⟨_, last_step (by omega) ht⟩
    exact this _ (Nat.le_refl _)
  obtain ⟨tt, htt⟩ := ex
  have nn : (hind (tL a b c d cs) (tP a b c d p) (tP a b c d r)).isNone = (hind cs p r).isNone := by
    rw [last tt htt]
    split
    · rw [Option.isNone_map, hind_last htt]
    · rfl
  have same : ∀ (t : Option Nat) {h : Hd} {R : Bool → Prop}, R false → cmpW .ne (optN t) (optN t) h R := fun t {h R} k => by
    cases t with
    | none => simp [optN]; exact k
    | some m => simp [optN]; exact k
  have t3 : ∀ (K : Vd.Ends) (X' : XS) (u7 u8 : Option D) (due : Option Nat), hind (tL a b c d cs) (tP a b c d p) (tP a b c d r) = due → K.rt (.bl true) h →
      wpSs (Gn P (n + 7)) l3__law_good_v5 [some (.vl [groundD cs, groundD (tL a b c d cs)]), some (.vl (cs.map pairD)), some (.tup [.int a, .int b, .int c, .int d]), some (pairD p), some (pairD r), some (.tup [pairD (tP a b c d p), pairD (tP a b c d r)]), some (optN due), u7, u8] h K X' := by
    intro K X' u7 u8 due e q
    simp [l3__law_good_v5, l2__law_good_v5, Z.hi]
    refine hinder_ok (n := n + 1) Z.hi Z.h5 Z.h6 Z.h7 Z.h4 Z.h0 Z.h1 Z.h2 Z.h3 Z.hc Z.he _ hs' hA' (by omega) (by omega) _ _ sP'.1 sP'.2 sR'.1 sR'.2 (fun _ _ => ?_) fun g => absurd ⟨gp', gr'⟩ g
    rw [e]
    refine same _ ?_
    simp
    by_cases c1 : 1 < b
    · rw [if_pos c1]; exact q
    · rw [if_neg c1]
      have hb1 : b = 1 := by omega
      subst hb1
      simp [l1__law_good_v5, Z.lt, Z.pt, idx_pair0]
      obtain ⟨v, e1, e2⟩ := grd_tL (b := 1) (c := c) (d := d) ha hA hl2 (Rat.intCast_le_intCast.mpr hp1) (Rat.intCast_le_intCast.mpr hp2)
      refine least_top_ok (n := n + 1) Z.lt Z.up Z.h5 Z.h6 Z.h4 Z.h0 Z.h1 Z.h2 Z.h3 Z.hc Z.he cs hs hA hl2 hl p.1 r (up sp1 (by decide)) (up sr1 (by decide)) (up sr2 (by decide)) (fun _ w ew T sT hT => ?_) fun g => ?_
      · rw [e1] at ew
        cases ew
        refine least_top_ok (n := n + 1) Z.lt Z.up Z.h5 Z.h6 Z.h4 Z.h0 Z.h1 Z.h2 Z.h3 Z.hc Z.he _ hs' hA' (by omega) (by omega) _ _ u1 v1 v2 (fun _ w ew T' sT' hT' => ?_) fun g => ?_
        · have e3 : grd (tL a 1 c d cs) (((tP a 1 c d p).1 : Int) : Rat) = some (((1 : Int) : Rat) * v + c * (p.1 : Rat) - d) := by
            show grd (tL a 1 c d cs) ((p.1 * a + d : Int) : Rat) = _
            rw [cast_tx]; exact e2
          rw [e3] at ew
          cases ew
          have eT := top_tL (T' := T') ha hT (by
            intro t
            have := hT' t
            rw [show ((1 : Int) : Rat) * v = v from Rat.one_mul v] at this
            exact this)
          refine put (p := (p.1, T)) (up sp1 (by decide)) (up sT (by decide)) ?_
          rw [idx_pair1]
          show cmpW .eq (.int T') (.int (T * 1 + p.1 * c - d)) h _
          rw [eT, Int.mul_one]
          simp
          exact q
        · rcases g with g | g
          · rw [gr'] at g; cases g
          · have e3 : grd (tL a 1 c d cs) (((tP a 1 c d p).1 : Int) : Rat) = some (((1 : Int) : Rat) * v + c * (p.1 : Rat) - d) := by
              show grd (tL a 1 c d cs) ((p.1 * a + d : Int) : Rat) = _
              rw [cast_tx]; exact e2
            rw [e3] at g; cases g
      · rcases g with g | g
        · rw [gr] at g; cases g
        · rw [e1] at g; cases g
  simp [c__law_good_v5, Z.cl, Z.pt]
  refine put (up sp1 (by decide)) (up sp2 (by decide)) (put (up sr1 (by decide)) (up sr2 (by decide)) ?_)
  refine clear_ok Z.cl Z.hi Z.h5 Z.h6 Z.h7 Z.h4 Z.h0 Z.h1 Z.h2 Z.h3 Z.hc Z.he _ hs' hA' (by omega) (by omega) _ _ sP'.1 sP'.2 sR'.1 sR'.2 (fun _ _ => ?_) fun g => absurd ⟨gp', gr'⟩ g
  refine clear_ok Z.cl Z.hi Z.h5 Z.h6 Z.h7 Z.h4 Z.h0 Z.h1 Z.h2 Z.h3 Z.hc Z.he _ hs hA hl2 hl _ _ sP.1 sP.2 sR.1 sR.2 (fun _ _ => ?_) fun g => absurd ⟨gp, gr⟩ g
  rw [nn]
  simp [l5__law_good_v5, Z.f]
  refine rope_val (n := n + 1) Z.toPvRo _ hs' hA' (by omega) (by omega) _ _ sP' sR' (fun _ _ => hne') (fun _ _ => ?_) fun g => absurd ⟨gp', gr'⟩ g
  refine rope_val (n := n + 1) Z.toPvRo _ hs hA hl2 hl _ _ sP sR (fun _ _ => hne) (fun _ _ => ?_) fun g => absurd ⟨gp, gr⟩ g
  have R := rope_is hA hne
  have sRp : ∀ k (hk : k < (ropeP cs p r).length), Sm (ropeP cs p r)[k].1 300 ∧ Sm (ropeP cs p r)[k].2 2000 := fun k hk => by
    rcases R.mem _ (List.getElem_mem hk) with e | e | e
    · rw [e]; exact ⟨up sp1 (by decide), up sp2 (by decide)⟩
    · rw [e]; exact ⟨up sr1 (by decide), up sr2 (by decide)⟩
    · obtain ⟨k1, k2⟩ := hs _ (innP_mem e).1
      exact ⟨up k1 (by decide), up k2 (by decide)⟩
  have hlF : (ropeP cs p r).length ≤ 2000 := by have := rope_len hA hne; omega
  refine ⟨_, rdS_vl _ _, CL_each (fun x y => ∃ p : Pt, x = pairD p ∧ y = pairD (tP a b c d p)) (rdS_vl _ _) (by rw [List.length_map]; omega) (fun k x hx hk Ka hKa => ?_) fun ys hy hf => ?_⟩
  · rw [List.length_map] at hk
    rw [List.getElem?_map, List.getElem?_eq_getElem hk] at hx
    cases hx
    simp [Z.pt, Vd.wipe]
    exact put (sRp k hk).1 (sRp k hk).2 (hKa _ ⟨_, rfl, rfl⟩)
  · rw [List.length_map] at hy
    have ey : ys = (ropeP (tL a b c d cs) (tP a b c d p) (tP a b c d r)).map pairD := by
      rw [rope_tL ha hb hne, List.map_map]
      apply List.ext_getElem?
      intro k
      by_cases hk : k < (ropeP cs p r).length
      · obtain ⟨y, ey⟩ : ∃ y, ys[k]? = some y := ⟨_, List.getElem?_eq_getElem (by omega)⟩
        obtain ⟨u, e1, e2⟩ := hf k _ y (by rw [List.getElem?_map, List.getElem?_eq_getElem hk]; rfl) ey
        have : (ropeP cs p r)[k] = u := by
          have e1 : D.tup [.int (ropeP cs p r)[k].1, .int (ropeP cs p r)[k].2] = D.tup [.int u.1, .int u.2] := e1
          injection e1 with e1
          injection e1 with i1 i2
          injection i1 with i1
          injection i2 with i2 _
          injection i2 with i2
          exact Prod.ext i1 i2
        rw [ey, e2, List.getElem?_map, List.getElem?_eq_getElem hk, ← this]; rfl
      · rw [List.getElem?_eq_none (by omega), List.getElem?_eq_none (by rw [List.length_map]; omega)]
    subst ey
    refine ⟨by omega, ?_⟩
    rw [c_ne_vl]
    refine ⟨pl_prs _, pl_prs _, ?_⟩
    rw [deqs_prs]
    simp [l4__law_good_v5, Z.hi, Z.la]
    refine hinder_ok (n := n + 1) Z.hi Z.h5 Z.h6 Z.h7 Z.h4 Z.h0 Z.h1 Z.h2 Z.h3 Z.hc Z.he _ hs hA hl2 hl _ _ sP.1 sP.2 sR.1 sR.2 (fun _ _ => ?_) fun g => absurd ⟨gp, gr⟩ g
    by_cases h0 : a < 0
    · rw [if_pos h0]
      cases e : hind cs p r with
      | none =>
        simp [optN]
        refine t3 _ _ _ _ none ?_ (.raw q)
        have := nn
        rw [e] at this
        exact Option.isNone_iff_eq_none.mp this
      | some m =>
        simp [optN]
        refine last16_ok (n := n + 6) Z.la cs hs hl p r sP sR hne fun t ht => ?_
        have e2 := hind_last ht
        rw [e] at e2
        cases t with
        | none => cases e2
        | some k =>
          have hk := ht.1
          have e3 := last _ ht
          rw [if_pos h0] at e3
          simp [optN]
          rw [show D.int ((cs.length : Int) - 1 - (k : Int)) = optN (some (cs.length - 1 - k)) by show _ = D.int _; congr 1; omega]
          exact t3 _ _ _ _ _ e3 (.raw q)
    · rw [if_neg h0]
      refine t3 _ _ _ _ (hind cs p r) ?_ (.raw q)
      have := last tt htt
      rw [if_neg h0] at this
      exact this
theorem law_k16_ok {P : Prog} (h0 : P.fns "law" = some c_law_k16) (h1 : P.fns "_law_mixed" = some c__law_mixed) (h2 : P.fns "_law_spot" = some c__law_spot_v2) (h3 : P.fns "_law_cells" = some c__law_cells) (h4 : P.fns "_law_corners" = some c__law_corners) (h5 : P.fns "_law_ground" = some c__law_ground) (h6 : P.fns "_law_cell" = some c__law_cell) (h7 : P.fns "_law_shape" = some c__law_shape) (Z : Pv16 P)
    (h13 : P.mes "Ground" "__init__" = some c_Ground___init__) (h14 : P.gl "LEAST_CORNERS" = some (.int 2)) (h15 : P.gl "MOST_CORNERS" = some (.int 40)) (h17 : P.isEx "BadGround" = true)
    (h24 : P.fns "_law_good" = some c__law_good_v5) : LawOk P 10 := by
  intro ns hl
  refine ⟨_, h0, rfl, ?_⟩
  simp [c_law_k16, h3, h4, h7]
  refine cells_ok h3 ns 2 24 hl (by omega) (by omega) fun ms m1 m2 => ?_
  refine corners_okZ h4 h1 ms _ (by omega) (.inl rfl) fun cs l1 hA hs hW => ?_
  refine shape16_ok h7 h6 ns fun a b c d ha t1 t2 t3 t4 => ?_
  have hs' : SmC (tL a b c d cs) := smC_tL t1 t2 t3 t4 hW
  have u1 : Sm a 3 := ⟨by omega⟩
  have u2 : Sm b 2 := ⟨by omega⟩
  have u3 : Sm c 20 := ⟨by omega⟩
  have up : ∀ {x : Int} {k m : Nat}, Sm x k → k ≤ m → Sm x m := fun s hm => ⟨sm_le s.lt hm⟩
  have hlT : (tL a b c d cs).length = cs.length := len_tL
  have hA' : Asc (tL a b c d cs) := asc_tL ha hA
  have main : ∀ (K : Vd.Ends) (X' : XS), (∀ h, K.rt (.bl true) h) → wpSs (Gn P 9) l3_law_k16 [some (D.sv (List.map D.int ns)), some (D.vl (List.map pairD cs)), some (D.tup [D.int a, D.int b, D.int c, D.int d]), some (D.ref 0), none, none, none, none, none, none] [.lst ((tL a b c d cs).map pairD)] K X' := by
    intro K X' hK
    simp [l3_law_k16, h13]
    refine ⟨by omega, ?_⟩
    refine make_ok h13 h14 h15 Z.hc h17 cs _ (by omega) (.inl rfl) (fun g => ?_) fun g => absurd ⟨by omega, by omega, hA⟩ g
    refine make_ok h13 h14 h15 Z.hc h17 (tL a b c d cs) _ (by omega) (.inr ⟨0, rfl, rfl⟩) (fun g => ?_) fun g => absurd ⟨by omega, by omega, hA'⟩ g
    have e30 : cut (List.map D.int ns) none (some 16) = (ns.take 16).map D.int := by
      rw [cut_map]
      congr 1
      exact cut_toG ns 16
    rw [e30]
    obtain ⟨qs, e1, e2, hql, hq3⟩ := take_cells ns 16 (by omega)
    have e3 : ((List.map D.int (List.take 16 ns)).length : Int) + 3 = (qs.length : Int) := by
      rw [← e2, List.length_map, List.length_take]
    have e4 : List.map D.int (List.take 16 ns) ++ [D.int 5, D.int 7, D.int 9] = qs.map D.int := by rw [← e1, List.map_take]
    rw [e3, e4]
    refine ⟨by omega, by omega, ⟨by omega, by omega⟩, ?_⟩
    have hL : cs.length - 1 < cs.length := by omega
    refine FL_rng (fun k σ h' => h' = [.lst ((tL a b c d cs).map pairD)] ∧ ∃ u v w, σ = [some (D.sv (List.map D.int ns)), some (D.vl (List.map pairD cs)), some (D.tup [D.int a, D.int b, D.int c, D.int d]), some (D.ref 0), some (.vl [groundD cs, groundD (tL a b c d cs)]), some (.vl (qs.map .int)), u, v, w, none]) ⟨rfl, _, _, _, rfl⟩ (fun _ => trivial) ?_ ?_
    · rintro k σ h' hk ⟨rfl, u, v, w, rfl⟩ Kn hKn
      have hkl : k < qs.length := by omega
      have hk2 : k + 1 < qs.length := by omega
      have eq2 : L2.atI (qs.map D.int) ((k : Int) + 1) = some (.int qs[k + 1]) := by
        rw [show ((k : Int) + 1) = ((k + 1 : Nat) : Int) by omega]; exact qget hk2
      have sx : ∀ x : Int, cs[0].1 ≤ x → x ≤ cs[cs.length - 1].1 → Sm x 170 := fun x k1 k2 => by
        have := hW _ (List.getElem_mem (show 0 < cs.length by omega))
        have := hW _ (List.getElem_mem hL)
        exact ⟨by omega⟩
      have fin : ∀ (p r : Pt) (K : Vd.Ends) (X' : XS), K.nx = Kn → Sm p.2 1010 → Sm r.2 1010 → cs[0].1 ≤ p.1 → p.1 ≤ cs[cs.length - 1].1 → cs[0].1 ≤ r.1 → r.1 ≤ cs[cs.length - 1].1 → stB cs p.1 p.2 = true → stB cs r.1 r.2 = true → p.1 ≠ r.1 → wpSs (Gn P 9) l1_law_k16 [some (D.sv (List.map D.int ns)), some (D.vl (List.map pairD cs)), some (D.tup [D.int a, D.int b, D.int c, D.int d]), some (D.ref 0), some (.vl [groundD cs, groundD (tL a b c d cs)]), some (.vl (qs.map .int)), some (.int k), some (pairD p), some (pairD r), none] [.lst ((tL a b c d cs).map pairD)] K X' := by
        intro p r K X' eK sp sr p1 p2 r1 r2 gp gr hne
        simp [l1_law_k16, h24]
        refine good16_ok (n := 1) h24 Z cs hs hA (by omega) (by omega) a b c d ha t1 t2 t3 t4 hs' p r (sx _ p1 p2) sp (sx _ r1 r2) sr p1 p2 r1 r2 gp gr hne ?_
        simp
        rw [eK]
        exact hKn _ _ ⟨rfl, _, _, _, rfl⟩
      simp [l2_law_k16, h2, qget hkl, eq2]
      refine ⟨mul_okL (by decide) (by decide), lspot_ok h2 h1 h5 cs hs hA (by omega) (by omega) _ _ (by omega) fun x z _ sz lx1 lx2 gx => ?_⟩
      refine ⟨mul_okL (by decide) (by decide), lspot_ok h2 h1 h5 cs hs hA (by omega) (by omega) _ _ (by omega) fun x2 z2 _ sz2 ly1 ly2 gy => ?_⟩
      simp [pget0 (show 0 < cs.length by omega), idx_pair0]
      by_cases cc : x = x2
      · rw [if_pos cc]
        have sc : ∀ j (hj : j < cs.length), Sm cs[j].2 1010 ∧ stB cs cs[j].1 cs[j].2 = true := fun j hj => by
          obtain ⟨s1, s2⟩ := hs _ (List.getElem_mem hj)
          exact ⟨⟨sm_le s2.lt (by decide)⟩, stB_corner hA (by omega) (List.getElem_mem hj)⟩
        have i01 := asc_lt hA (show 0 < 1 by omega) (show 1 < cs.length by omega)
        have i1L : cs[1].1 ≤ cs[cs.length - 1].1 := by
          by_cases e : cs.length - 1 = 1
          · simp only [e]; exact Int.le_refl _
          · exact Int.le_of_lt (asc_lt hA (by omega) (by omega))
        by_cases c0 : x = cs[0].1
        · refine ⟨pairD cs[1], ?_, ?_⟩
          · rw [if_pos c0]; exact pget (k := 1) (by omega)
          · exact fin (x, z) cs[1] _ _ rfl sz (sc 1 (by omega)).1 lx1 lx2 (by omega) i1L gx (sc 1 (by omega)).2 (by show x ≠ _; omega)
        · refine ⟨pairD cs[0], ?_, ?_⟩
          · rw [if_neg c0]; exact pget0 (by omega)
          · exact fin (x, z) cs[0] _ _ rfl sz (sc 0 (by omega)).1 lx1 lx2 (Int.le_refl _) (by omega) gx (sc 0 (by omega)).2 c0
      · rw [if_neg cc]
        exact fin (x, z) (x2, z2) _ _ rfl sz sz2 lx1 lx2 ly1 ly2 gx gy cc
    · rintro σ h' ⟨rfl, u, v, w, rfl⟩
      exact hK _
  refine ⟨_, rdS_vl _ _, CL_each (fun x y => ∃ p : Pt, x = pairD p ∧ y = pairD (tP a b c d p)) (rdS_vl _ _) (by rw [List.length_map]; omega) (fun k x hx hk Ka hKa => ?_) fun ys hy hf => ?_⟩
  · rw [List.length_map] at hk
    rw [List.getElem?_map, List.getElem?_eq_getElem hk] at hx
    cases hx
    simp [Z.pt, Vd.wipe]
    obtain ⟨k1, k2⟩ := hs _ (List.getElem_mem hk)
    have k3 : Sm cs[k].1 300 := up k1 (by decide)
    have k4 : Sm cs[k].2 2000 := up k2 (by decide)
    exact put16_ok (n := 8) Z.pt a b c d cs[k].1 cs[k].2 (hKa _ ⟨_, rfl, rfl⟩)
  · rw [List.length_map] at hy
    have ey : ys = (cs.map (tP a b c d)).map pairD := by
      rw [List.map_map]
      apply List.ext_getElem?
      intro k
      by_cases hk : k < cs.length
      · obtain ⟨y, ey⟩ : ∃ y, ys[k]? = some y := ⟨_, List.getElem?_eq_getElem (by omega)⟩
        obtain ⟨u, e1, e2⟩ := hf k _ y (by rw [List.getElem?_map, List.getElem?_eq_getElem hk]; rfl) ey
        have : cs[k] = u := by
          have e1 : D.tup [.int cs[k].1, .int cs[k].2] = D.tup [.int u.1, .int u.2] := e1
          injection e1 with e1
          injection e1 with i1 i2
          injection i1 with i1
          injection i2 with i2 _
          injection i2 with i2
          exact Prod.ext i1 i2
        rw [ey, e2, List.getElem?_map, List.getElem?_eq_getElem hk, ← this]; rfl
      · rw [List.getElem?_eq_none (by omega), List.getElem?_eq_none (by rw [List.length_map]; omega)]
    refine ⟨by omega, ?_⟩
    simp
    by_cases h0' : a < 0
    · rw [if_pos h0']
      have eL : tL a b c d cs = (cs.map (tP a b c d)).reverse := by unfold tL; rw [if_pos h0']
      rw [eL] at main
      subst ey
      refine ⟨⟨_, hn_rdL (h := []) (t := [])⟩, _, hn_get (h := []) (t := []), ?_⟩
      have := main { nx := fun x h' => Exit [] D.non h' fun d x => d = D.bl true, rt := fun v h' => Exit [] v h' fun d x => d = D.bl true } (fun e x h' => False) fun h => .raw rfl
      simp at this ⊢
      exact this
    · rw [if_neg h0']
      have eL : tL a b c d cs = cs.map (tP a b c d) := by unfold tL; rw [if_neg h0']
      rw [eL, ← ey] at main
      exact main _ _ fun h => .raw rfl
end Vd

set_option maxHeartbeats 4000000
namespace Vd
open PySem PySem.Spec PyProof.Rows L2
noncomputable def topS (i : Nat) : Stmt := PySem.Challenge.pw_beaconvale_k16_whole_valleys_turned.main.body.getD i (.Pass ⟨0, 0, 0, 0⟩)
noncomputable abbrev s_fraction : Stmt := topS 5
noncomputable abbrev s_less : Stmt := topS 6
noncomputable abbrev s_up : Stmt := topS 7
noncomputable abbrev s_side_of : Stmt := topS 8
noncomputable abbrev s_height_on : Stmt := topS 9
noncomputable abbrev s_ground_at : Stmt := topS 14
noncomputable abbrev s_stands : Stmt := topS 15
noncomputable abbrev s_look_at_spots : Stmt := topS 16
noncomputable abbrev s_between : Stmt := topS 17
noncomputable abbrev s_hinder : Stmt := topS 18
noncomputable abbrev s_clear : Stmt := topS 19
noncomputable abbrev s_least_top : Stmt := topS 20
noncomputable abbrev s_rope : Stmt := topS 21
noncomputable abbrev s__law_cell : Stmt := topS 23
noncomputable abbrev s__law_mixed : Stmt := topS 24
noncomputable abbrev s__law_cells : Stmt := topS 25
noncomputable abbrev s__law_corners : Stmt := topS 26
noncomputable abbrev s__law_ground : Stmt := topS 27
noncomputable abbrev s__law_spot : Stmt := topS 28
noncomputable abbrev s__law_shape : Stmt := topS 29
noncomputable abbrev s__law_put : Stmt := topS 30
noncomputable abbrev s__law_last : Stmt := topS 31
noncomputable abbrev s__law_good : Stmt := topS 32
noncomputable abbrev s_law : Stmt := topS 33
noncomputable abbrev s_Ground___init__ : Stmt := inClass (topS 13) 0
theorem ifc {p : Prop} [Decidable p] {α : Sort _} {a b c : α} (h : (if p then a else b) = c) : (p ∧ a = c) ∨ (b = c) := by
  by_cases q : p
  · rw [if_pos q] at h; exact .inl ⟨q, h⟩
  · rw [if_neg q] at h; exact .inr h
theorem bm0 {n : Nat} {P : List Value → Prop} (e : n = 0) (h : P []) : ∀ us : List Value, us.length = n → P us := fun us hl => match us, hl.trans e with | [], _ => h
theorem bm1 {n : Nat} {P : List Value → Prop} (e : n = 1) (h : ∀ a0 : Value, P [a0]) : ∀ us : List Value, us.length = n → P us := fun us hl => match us, hl.trans e with | [a0], _ => h a0
theorem bm2 {n : Nat} {P : List Value → Prop} (e : n = 2) (h : ∀ a0 a1 : Value, P [a0, a1]) : ∀ us : List Value, us.length = n → P us := fun us hl => match us, hl.trans e with | [a0, a1], _ => h a0 a1
theorem bm3 {n : Nat} {P : List Value → Prop} (e : n = 3) (h : ∀ a0 a1 a2 : Value, P [a0, a1, a2]) : ∀ us : List Value, us.length = n → P us := fun us hl => match us, hl.trans e with | [a0, a1, a2], _ => h a0 a1 a2
theorem bm4 {n : Nat} {P : List Value → Prop} (e : n = 4) (h : ∀ a0 a1 a2 a3 : Value, P [a0, a1, a2, a3]) : ∀ us : List Value, us.length = n → P us := fun us hl => match us, hl.trans e with | [a0, a1, a2, a3], _ => h a0 a1 a2 a3
theorem bm5 {n : Nat} {P : List Value → Prop} (e : n = 5) (h : ∀ a0 a1 a2 a3 a4 : Value, P [a0, a1, a2, a3, a4]) : ∀ us : List Value, us.length = n → P us := fun us hl => match us, hl.trans e with | [a0, a1, a2, a3, a4], _ => h a0 a1 a2 a3 a4
theorem bm6 {n : Nat} {P : List Value → Prop} (e : n = 6) (h : ∀ a0 a1 a2 a3 a4 a5 : Value, P [a0, a1, a2, a3, a4, a5]) : ∀ us : List Value, us.length = n → P us := fun us hl => match us, hl.trans e with | [a0, a1, a2, a3, a4, a5], _ => h a0 a1 a2 a3 a4 a5
theorem bm7 {n : Nat} {P : List Value → Prop} (e : n = 7) (h : ∀ a0 a1 a2 a3 a4 a5 a6 : Value, P [a0, a1, a2, a3, a4, a5, a6]) : ∀ us : List Value, us.length = n → P us := fun us hl => match us, hl.trans e with | [a0, a1, a2, a3, a4, a5, a6], _ => h a0 a1 a2 a3 a4 a5 a6
theorem bm8 {n : Nat} {P : List Value → Prop} (e : n = 8) (h : ∀ a0 a1 a2 a3 a4 a5 a6 a7 : Value, P [a0, a1, a2, a3, a4, a5, a6, a7]) : ∀ us : List Value, us.length = n → P us := fun us hl => match us, hl.trans e with | [a0, a1, a2, a3, a4, a5, a6, a7], _ => h a0 a1 a2 a3 a4 a5 a6 a7
theorem bm9 {n : Nat} {P : List Value → Prop} (e : n = 9) (h : ∀ a0 a1 a2 a3 a4 a5 a6 a7 a8 : Value, P [a0, a1, a2, a3, a4, a5, a6, a7, a8]) : ∀ us : List Value, us.length = n → P us := fun us hl => match us, hl.trans e with | [a0, a1, a2, a3, a4, a5, a6, a7, a8], _ => h a0 a1 a2 a3 a4 a5 a6 a7 a8
noncomputable def theFns (a : String) : Option Fn :=
  if a = "fraction" then some c_fraction else
  if a = "less" then some c_less else
  if a = "up" then some c_up else
  if a = "side_of" then some c_side_of else
  if a = "height_on" then some c_height_on else
  if a = "ground_at" then some c_ground_at else
  if a = "stands" then some c_stands else
  if a = "look_at_spots" then some c_look_at_spots else
  if a = "between" then some c_between else
  if a = "hinder" then some c_hinder else
  if a = "clear" then some c_clear else
  if a = "least_top" then some c_least_top else
  if a = "rope" then some c_rope else
  if a = "_law_cell" then some c__law_cell else
  if a = "_law_mixed" then some c__law_mixed else
  if a = "_law_cells" then some c__law_cells else
  if a = "_law_corners" then some c__law_corners else
  if a = "_law_ground" then some c__law_ground else
  if a = "_law_spot" then some c__law_spot_v2 else
  if a = "_law_shape" then some c__law_shape else
  if a = "_law_put" then some c__law_put else
  if a = "_law_last" then some c__law_last else
  if a = "_law_good" then some c__law_good_v5 else
  if a = "law" then some c_law_k16 else
  none
noncomputable def theGl (a : String) : Option D :=
  if a = "LEAST_CORNERS" then some (.int 2) else
  if a = "MOST_CORNERS" then some (.int 40) else
  none
noncomputable def theMes (a b : String) : Option Fn :=
  if a = "Ground" ∧ b = "__init__" then some c_Ground___init__ else
  none
noncomputable def theFld (a b : String) : Bool :=
  if a = "Ground" ∧ b = "corners" then true else
  false
noncomputable def theEx (a : String) : Bool :=
  if a = "BadGround" then true else
  if a = "OffGround" then true else
  false
noncomputable def theTr (a : String) : Bool :=
  false
noncomputable def theExm (_a _b : String) : Option Bool :=
  none
noncomputable def theSub (_a _b : String) : Option Bool :=
  none
noncomputable def theProg : Prog := { fns := theFns, gl := theGl, fldOk := theFld, sub := theSub, mes := theMes, isEx := theEx, exm := theExm, isTr := theTr }
theorem sc_fraction : FnScope ["top", "bottom", "one", "other"] (c_fraction.ps.map Str.ofString) (defScope s_fraction) := ⟨rfl, rfl, rfl, by decide +kernel, by decide +kernel, by decide +kernel, by decide +kernel⟩
theorem ck_fraction : chkFn c_fraction ["top", "bottom", "one", "other"] s_fraction = true := by decide +kernel
theorem sc_less : FnScope ["one", "other"] (c_less.ps.map Str.ofString) (defScope s_less) := ⟨rfl, rfl, rfl, by decide +kernel, by decide +kernel, by decide +kernel, by decide +kernel⟩
theorem ck_less : chkFn c_less ["one", "other"] s_less = true := by decide +kernel
theorem sc_up : FnScope ["one"] (c_up.ps.map Str.ofString) (defScope s_up) := ⟨rfl, rfl, rfl, by decide +kernel, by decide +kernel, by decide +kernel, by decide +kernel⟩
theorem ck_up : chkFn c_up ["one"] s_up = true := by decide +kernel
theorem sc_side_of : FnScope ["one", "other", "spot", "gap"] (c_side_of.ps.map Str.ofString) (defScope s_side_of) := ⟨rfl, rfl, rfl, by decide +kernel, by decide +kernel, by decide +kernel, by decide +kernel⟩
theorem ck_side_of : chkFn c_side_of ["one", "other", "spot", "gap"] s_side_of = true := by decide +kernel
theorem sc_height_on : FnScope ["one", "other", "place", "wide", "rise"] (c_height_on.ps.map Str.ofString) (defScope s_height_on) := ⟨rfl, rfl, rfl, by decide +kernel, by decide +kernel, by decide +kernel, by decide +kernel⟩
theorem ck_height_on : chkFn c_height_on ["one", "other", "place", "wide", "rise"] s_height_on = true := by decide +kernel
theorem sc_ground_at : FnScope ["ground", "place", "corners", "at"] (c_ground_at.ps.map Str.ofString) (defScope s_ground_at) := ⟨rfl, rfl, rfl, by decide +kernel, by decide +kernel, by decide +kernel, by decide +kernel⟩
theorem ck_ground_at : chkFn c_ground_at ["ground", "place", "corners", "at"] s_ground_at = true := by decide +kernel
theorem sc_stands : FnScope ["ground", "spot", "corners"] (c_stands.ps.map Str.ofString) (defScope s_stands) := ⟨rfl, rfl, rfl, by decide +kernel, by decide +kernel, by decide +kernel, by decide +kernel⟩
theorem ck_stands : chkFn c_stands ["ground", "spot", "corners"] s_stands = true := by decide +kernel
theorem sc_look_at_spots : FnScope ["ground", "spots", "spot"] (c_look_at_spots.ps.map Str.ofString) (defScope s_look_at_spots) := ⟨rfl, rfl, rfl, by decide +kernel, by decide +kernel, by decide +kernel, by decide +kernel⟩
theorem ck_look_at_spots : chkFn c_look_at_spots ["ground", "spots", "spot"] s_look_at_spots = true := by decide +kernel
theorem sc_between : FnScope ["ground", "one", "other", "left", "right", "k", "corner"] (c_between.ps.map Str.ofString) (defScope s_between) := ⟨rfl, rfl, rfl, by decide +kernel, by decide +kernel, by decide +kernel, by decide +kernel⟩
theorem ck_between : chkFn c_between ["ground", "one", "other", "left", "right", "k", "corner"] s_between = true := by decide +kernel
theorem sc_hinder : FnScope ["ground", "one", "other", "k"] (c_hinder.ps.map Str.ofString) (defScope s_hinder) := ⟨rfl, rfl, rfl, by decide +kernel, by decide +kernel, by decide +kernel, by decide +kernel⟩
theorem ck_hinder : chkFn c_hinder ["ground", "one", "other", "k"] s_hinder = true := by decide +kernel
theorem sc_clear : FnScope ["ground", "one", "other"] (c_clear.ps.map Str.ofString) (defScope s_clear) := ⟨rfl, rfl, rfl, by decide +kernel, by decide +kernel, by decide +kernel, by decide +kernel⟩
theorem ck_clear : chkFn c_clear ["ground", "one", "other"] s_clear = true := by decide +kernel
theorem sc_least_top : FnScope ["ground", "x", "spot", "told", "k"] (c_least_top.ps.map Str.ofString) (defScope s_least_top) := ⟨rfl, rfl, rfl, by decide +kernel, by decide +kernel, by decide +kernel, by decide +kernel⟩
theorem ck_least_top : chkFn c_least_top ["ground", "x", "spot", "told", "k"] s_least_top = true := by decide +kernel
theorem sc_rope : FnScope ["ground", "one", "other", "spots", "told", "spot", "k"] (c_rope.ps.map Str.ofString) (defScope s_rope) := ⟨rfl, rfl, rfl, by decide +kernel, by decide +kernel, by decide +kernel, by decide +kernel⟩
theorem ck_rope : chkFn c_rope ["ground", "one", "other", "spots", "told", "spot", "k"] s_rope = true := by decide +kernel
theorem sc__law_cell : FnScope ["script", "k"] (c__law_cell.ps.map Str.ofString) (defScope s__law_cell) := ⟨rfl, rfl, rfl, by decide +kernel, by decide +kernel, by decide +kernel, by decide +kernel⟩
theorem ck__law_cell : chkFn c__law_cell ["script", "k"] s__law_cell = true := by decide +kernel
theorem sc__law_mixed : FnScope ["cell", "k", "stir"] (c__law_mixed.ps.map Str.ofString) (defScope s__law_mixed) := ⟨rfl, rfl, rfl, by decide +kernel, by decide +kernel, by decide +kernel, by decide +kernel⟩
theorem ck__law_mixed : chkFn c__law_mixed ["cell", "k", "stir"] s__law_mixed = true := by decide +kernel
theorem sc__law_cells : FnScope ["script", "start", "most", "told", "k"] (c__law_cells.ps.map Str.ofString) (defScope s__law_cells) := ⟨rfl, rfl, rfl, by decide +kernel, by decide +kernel, by decide +kernel, by decide +kernel⟩
theorem ck__law_cells : chkFn c__law_cells ["script", "start", "most", "told", "k"] s__law_cells = true := by decide +kernel
theorem sc__law_corners : FnScope ["cells", "first", "far", "x", "told", "k", "m", "z", "wide"] (c__law_corners.ps.map Str.ofString) (defScope s__law_corners) := ⟨rfl, rfl, rfl, by decide +kernel, by decide +kernel, by decide +kernel, by decide +kernel⟩
theorem ck__law_corners : chkFn c__law_corners ["cells", "first", "far", "x", "told", "k", "m", "z", "wide"] s__law_corners = true := by decide +kernel
theorem sc__law_ground : FnScope ["corners", "place", "k", "left", "right", "wide", "rise", "gone"] (c__law_ground.ps.map Str.ofString) (defScope s__law_ground) := ⟨rfl, rfl, rfl, by decide +kernel, by decide +kernel, by decide +kernel, by decide +kernel⟩
theorem ck__law_ground : chkFn c__law_ground ["corners", "place", "k", "left", "right", "wide", "rise", "gone"] s__law_ground = true := by decide +kernel
theorem sc__law_spot : FnScope ["corners", "cell", "k", "m", "first", "x", "height", "z"] (c__law_spot_v2.ps.map Str.ofString) (defScope s__law_spot) := ⟨rfl, rfl, rfl, by decide +kernel, by decide +kernel, by decide +kernel, by decide +kernel⟩
theorem ck__law_spot : chkFn c__law_spot_v2 ["corners", "cell", "k", "m", "first", "x", "height", "z"] s__law_spot = true := by decide +kernel
theorem sc__law_shape : FnScope ["script", "cell", "other", "wide", "tilt", "moved_on"] (c__law_shape.ps.map Str.ofString) (defScope s__law_shape) := ⟨rfl, rfl, rfl, by decide +kernel, by decide +kernel, by decide +kernel, by decide +kernel⟩
theorem ck__law_shape : chkFn c__law_shape ["script", "cell", "other", "wide", "tilt", "moved_on"] s__law_shape = true := by decide +kernel
theorem sc__law_put : FnScope ["shape", "spot", "high"] (c__law_put.ps.map Str.ofString) (defScope s__law_put) := ⟨rfl, rfl, rfl, by decide +kernel, by decide +kernel, by decide +kernel, by decide +kernel⟩
theorem ck__law_put : chkFn c__law_put ["shape", "spot", "high"] s__law_put = true := by decide +kernel
theorem sc__law_last : FnScope ["corners", "one", "other", "ends", "wide", "told", "k", "x", "z", "rise"] (c__law_last.ps.map Str.ofString) (defScope s__law_last) := ⟨rfl, rfl, rfl, by decide +kernel, by decide +kernel, by decide +kernel, by decide +kernel⟩
theorem ck__law_last : chkFn c__law_last ["corners", "one", "other", "ends", "wide", "told", "k", "x", "z", "rise"] s__law_last = true := by decide +kernel
theorem sc__law_good : FnScope ["grounds", "corners", "shape", "one", "other", "there", "due", "top", "spot"] (c__law_good_v5.ps.map Str.ofString) (defScope s__law_good) := ⟨rfl, rfl, rfl, by decide +kernel, by decide +kernel, by decide +kernel, by decide +kernel⟩
theorem ck__law_good : chkFn c__law_good_v5 ["grounds", "corners", "shape", "one", "other", "there", "due", "top", "spot"] s__law_good = true := by decide +kernel
theorem sc_law : FnScope ["script", "corners", "shape", "others", "grounds", "cells", "k", "one", "other", "corner"] (c_law_k16.ps.map Str.ofString) (defScope s_law) := ⟨rfl, rfl, rfl, by decide +kernel, by decide +kernel, by decide +kernel, by decide +kernel⟩
theorem ck_law : chkFn c_law_k16 ["script", "corners", "shape", "others", "grounds", "cells", "k", "one", "other", "corner"] s_law = true := by decide +kernel
theorem sc_Ground___init__ : FnScope ["self", "corners", "one", "other"] (c_Ground___init__.ps.map Str.ofString) (defScope s_Ground___init__) := ⟨rfl, rfl, rfl, by decide +kernel, by decide +kernel, by decide +kernel, by decide +kernel⟩
theorem ck_Ground___init__ : chkFn c_Ground___init__ ["self", "corners", "one", "other"] s_Ground___init__ = true := by decide +kernel
theorem all_mk {l : PySem.W.OpenLaw} {w : World} {K : PySem.W.Frag} {h : Heap} {mg : Str → Option Value} (LK : LawOk theProg 10) {fa f1 f2 f3 f4 f5 f6 f7 f8 f9 f10 f11 f12 f13 f14 f15 f16 f17 f18 f19 f20 f21 f22 f23 f24 f25 C1 e1 e2 : Addr} {od1 an1 od2 an2 od3 an3 od4 an4 od5 an5 od6 an6 od7 an7 od8 an8 od9 an9 od10 an10 od11 an11 od12 an12 od13 an13 od14 an14 od15 an15 od16 an16 od17 an17 od18 an18 od19 an19 od20 an20 od21 an21 od22 an22 od23 an23 od24 an24 od25 an25 : Option Addr} {sl1 sl2 sl3 sl4 sl5 sl6 sl7 sl8 sl9 sl10 sl11 sl12 sl13 sl14 sl15 sl16 sl17 sl18 sl19 sl20 sl21 sl22 sl23 sl24 sl25 : Array (Option Value)} {oc1 kV1 dc1 pm1 cd1 ct1 oc2 kV2 dc2 pm2 cd2 ct2 oc3 kV3 dc3 pm3 cd3 ct3 oc4 kV4 dc4 pm4 cd4 ct4 oc5 kV5 dc5 pm5 cd5 ct5 oc6 kV6 dc6 pm6 cd6 ct6 oc7 kV7 dc7 pm7 cd7 ct7 oc8 kV8 dc8 pm8 cd8 ct8 oc9 kV9 dc9 pm9 cd9 ct9 oc10 kV10 dc10 pm10 cd10 ct10 oc11 kV11 dc11 pm11 cd11 ct11 oc12 kV12 dc12 pm12 cd12 ct12 oc13 kV13 dc13 pm13 cd13 ct13 oc14 kV14 dc14 pm14 cd14 ct14 oc15 kV15 dc15 pm15 cd15 ct15 oc16 kV16 dc16 pm16 cd16 ct16 oc17 kV17 dc17 pm17 cd17 ct17 oc18 kV18 dc18 pm18 cd18 ct18 oc19 kV19 dc19 pm19 cd19 ct19 oc20 kV20 dc20 pm20 cd20 ct20 oc21 kV21 dc21 pm21 cd21 ct21 oc22 kV22 dc22 pm22 cd22 ct22 oc23 kV23 dc23 pm23 cd23 ct23 oc24 kV24 dc24 pm24 cd24 ct24 oc25 kV25 dc25 pm25 cd25 ct25 : Value} {t1 t2 : Tok} (X : K.In h) (G : h.Ns mainGlobals mg) (hfa : mg "law" = some (.ref fa))
    (a1 : PySem.W.nsIn K mainGlobals "fraction" = some (some (.ref f1)))
    (l1 : K.lookup f1 = some ⟨oc1, od1, .func (PySem.W.fnOf "fraction" "fraction" (defArgs s_fraction) (defBody s_fraction) (defScope s_fraction) .none kV1 dc1 pm1 an1 cd1 ct1), sl1⟩)
    (c1 : PySem.W.codeIn K cd1 "fraction" = true)
    (k1 : PySem.W.keepIn K (.ref f1) = true)
    (a2 : PySem.W.nsIn K mainGlobals "less" = some (some (.ref f2)))
    (l2 : K.lookup f2 = some ⟨oc2, od2, .func (PySem.W.fnOf "less" "less" (defArgs s_less) (defBody s_less) (defScope s_less) .none kV2 dc2 pm2 an2 cd2 ct2), sl2⟩)
    (c2 : PySem.W.codeIn K cd2 "less" = true)
    (k2 : PySem.W.keepIn K (.ref f2) = true)
    (a3 : PySem.W.nsIn K mainGlobals "up" = some (some (.ref f3)))
    (l3 : K.lookup f3 = some ⟨oc3, od3, .func (PySem.W.fnOf "up" "up" (defArgs s_up) (defBody s_up) (defScope s_up) .none kV3 dc3 pm3 an3 cd3 ct3), sl3⟩)
    (c3 : PySem.W.codeIn K cd3 "up" = true)
    (k3 : PySem.W.keepIn K (.ref f3) = true)
    (a4 : PySem.W.nsIn K mainGlobals "side_of" = some (some (.ref f4)))
    (l4 : K.lookup f4 = some ⟨oc4, od4, .func (PySem.W.fnOf "side_of" "side_of" (defArgs s_side_of) (defBody s_side_of) (defScope s_side_of) .none kV4 dc4 pm4 an4 cd4 ct4), sl4⟩)
    (c4 : PySem.W.codeIn K cd4 "side_of" = true)
    (k4 : PySem.W.keepIn K (.ref f4) = true)
    (a5 : PySem.W.nsIn K mainGlobals "height_on" = some (some (.ref f5)))
    (l5 : K.lookup f5 = some ⟨oc5, od5, .func (PySem.W.fnOf "height_on" "height_on" (defArgs s_height_on) (defBody s_height_on) (defScope s_height_on) .none kV5 dc5 pm5 an5 cd5 ct5), sl5⟩)
    (c5 : PySem.W.codeIn K cd5 "height_on" = true)
    (k5 : PySem.W.keepIn K (.ref f5) = true)
    (a6 : PySem.W.nsIn K mainGlobals "ground_at" = some (some (.ref f6)))
    (l6 : K.lookup f6 = some ⟨oc6, od6, .func (PySem.W.fnOf "ground_at" "ground_at" (defArgs s_ground_at) (defBody s_ground_at) (defScope s_ground_at) .none kV6 dc6 pm6 an6 cd6 ct6), sl6⟩)
    (c6 : PySem.W.codeIn K cd6 "ground_at" = true)
    (k6 : PySem.W.keepIn K (.ref f6) = true)
    (a7 : PySem.W.nsIn K mainGlobals "stands" = some (some (.ref f7)))
    (l7 : K.lookup f7 = some ⟨oc7, od7, .func (PySem.W.fnOf "stands" "stands" (defArgs s_stands) (defBody s_stands) (defScope s_stands) .none kV7 dc7 pm7 an7 cd7 ct7), sl7⟩)
    (c7 : PySem.W.codeIn K cd7 "stands" = true)
    (k7 : PySem.W.keepIn K (.ref f7) = true)
    (a8 : PySem.W.nsIn K mainGlobals "look_at_spots" = some (some (.ref f8)))
    (l8 : K.lookup f8 = some ⟨oc8, od8, .func (PySem.W.fnOf "look_at_spots" "look_at_spots" (defArgs s_look_at_spots) (defBody s_look_at_spots) (defScope s_look_at_spots) .none kV8 dc8 pm8 an8 cd8 ct8), sl8⟩)
    (c8 : PySem.W.codeIn K cd8 "look_at_spots" = true)
    (k8 : PySem.W.keepIn K (.ref f8) = true)
    (a9 : PySem.W.nsIn K mainGlobals "between" = some (some (.ref f9)))
    (l9 : K.lookup f9 = some ⟨oc9, od9, .func (PySem.W.fnOf "between" "between" (defArgs s_between) (defBody s_between) (defScope s_between) .none kV9 dc9 pm9 an9 cd9 ct9), sl9⟩)
    (c9 : PySem.W.codeIn K cd9 "between" = true)
    (k9 : PySem.W.keepIn K (.ref f9) = true)
    (a10 : PySem.W.nsIn K mainGlobals "hinder" = some (some (.ref f10)))
    (l10 : K.lookup f10 = some ⟨oc10, od10, .func (PySem.W.fnOf "hinder" "hinder" (defArgs s_hinder) (defBody s_hinder) (defScope s_hinder) .none kV10 dc10 pm10 an10 cd10 ct10), sl10⟩)
    (c10 : PySem.W.codeIn K cd10 "hinder" = true)
    (k10 : PySem.W.keepIn K (.ref f10) = true)
    (a11 : PySem.W.nsIn K mainGlobals "clear" = some (some (.ref f11)))
    (l11 : K.lookup f11 = some ⟨oc11, od11, .func (PySem.W.fnOf "clear" "clear" (defArgs s_clear) (defBody s_clear) (defScope s_clear) .none kV11 dc11 pm11 an11 cd11 ct11), sl11⟩)
    (c11 : PySem.W.codeIn K cd11 "clear" = true)
    (k11 : PySem.W.keepIn K (.ref f11) = true)
    (a12 : PySem.W.nsIn K mainGlobals "least_top" = some (some (.ref f12)))
    (l12 : K.lookup f12 = some ⟨oc12, od12, .func (PySem.W.fnOf "least_top" "least_top" (defArgs s_least_top) (defBody s_least_top) (defScope s_least_top) .none kV12 dc12 pm12 an12 cd12 ct12), sl12⟩)
    (c12 : PySem.W.codeIn K cd12 "least_top" = true)
    (k12 : PySem.W.keepIn K (.ref f12) = true)
    (a13 : PySem.W.nsIn K mainGlobals "rope" = some (some (.ref f13)))
    (l13 : K.lookup f13 = some ⟨oc13, od13, .func (PySem.W.fnOf "rope" "rope" (defArgs s_rope) (defBody s_rope) (defScope s_rope) .none kV13 dc13 pm13 an13 cd13 ct13), sl13⟩)
    (c13 : PySem.W.codeIn K cd13 "rope" = true)
    (k13 : PySem.W.keepIn K (.ref f13) = true)
    (a14 : PySem.W.nsIn K mainGlobals "_law_cell" = some (some (.ref f14)))
    (l14 : K.lookup f14 = some ⟨oc14, od14, .func (PySem.W.fnOf "_law_cell" "_law_cell" (defArgs s__law_cell) (defBody s__law_cell) (defScope s__law_cell) .none kV14 dc14 pm14 an14 cd14 ct14), sl14⟩)
    (c14 : PySem.W.codeIn K cd14 "_law_cell" = true)
    (k14 : PySem.W.keepIn K (.ref f14) = true)
    (a15 : PySem.W.nsIn K mainGlobals "_law_mixed" = some (some (.ref f15)))
    (l15 : K.lookup f15 = some ⟨oc15, od15, .func (PySem.W.fnOf "_law_mixed" "_law_mixed" (defArgs s__law_mixed) (defBody s__law_mixed) (defScope s__law_mixed) .none kV15 dc15 pm15 an15 cd15 ct15), sl15⟩)
    (c15 : PySem.W.codeIn K cd15 "_law_mixed" = true)
    (k15 : PySem.W.keepIn K (.ref f15) = true)
    (a16 : PySem.W.nsIn K mainGlobals "_law_cells" = some (some (.ref f16)))
    (l16 : K.lookup f16 = some ⟨oc16, od16, .func (PySem.W.fnOf "_law_cells" "_law_cells" (defArgs s__law_cells) (defBody s__law_cells) (defScope s__law_cells) .none kV16 dc16 pm16 an16 cd16 ct16), sl16⟩)
    (c16 : PySem.W.codeIn K cd16 "_law_cells" = true)
    (k16 : PySem.W.keepIn K (.ref f16) = true)
    (a17 : PySem.W.nsIn K mainGlobals "_law_corners" = some (some (.ref f17)))
    (l17 : K.lookup f17 = some ⟨oc17, od17, .func (PySem.W.fnOf "_law_corners" "_law_corners" (defArgs s__law_corners) (defBody s__law_corners) (defScope s__law_corners) .none kV17 dc17 pm17 an17 cd17 ct17), sl17⟩)
    (c17 : PySem.W.codeIn K cd17 "_law_corners" = true)
    (k17 : PySem.W.keepIn K (.ref f17) = true)
    (a18 : PySem.W.nsIn K mainGlobals "_law_ground" = some (some (.ref f18)))
    (l18 : K.lookup f18 = some ⟨oc18, od18, .func (PySem.W.fnOf "_law_ground" "_law_ground" (defArgs s__law_ground) (defBody s__law_ground) (defScope s__law_ground) .none kV18 dc18 pm18 an18 cd18 ct18), sl18⟩)
    (c18 : PySem.W.codeIn K cd18 "_law_ground" = true)
    (k18 : PySem.W.keepIn K (.ref f18) = true)
    (a19 : PySem.W.nsIn K mainGlobals "_law_spot" = some (some (.ref f19)))
    (l19 : K.lookup f19 = some ⟨oc19, od19, .func (PySem.W.fnOf "_law_spot" "_law_spot" (defArgs s__law_spot) (defBody s__law_spot) (defScope s__law_spot) .none kV19 dc19 pm19 an19 cd19 ct19), sl19⟩)
    (c19 : PySem.W.codeIn K cd19 "_law_spot" = true)
    (k19 : PySem.W.keepIn K (.ref f19) = true)
    (a20 : PySem.W.nsIn K mainGlobals "_law_shape" = some (some (.ref f20)))
    (l20 : K.lookup f20 = some ⟨oc20, od20, .func (PySem.W.fnOf "_law_shape" "_law_shape" (defArgs s__law_shape) (defBody s__law_shape) (defScope s__law_shape) .none kV20 dc20 pm20 an20 cd20 ct20), sl20⟩)
    (c20 : PySem.W.codeIn K cd20 "_law_shape" = true)
    (k20 : PySem.W.keepIn K (.ref f20) = true)
    (a21 : PySem.W.nsIn K mainGlobals "_law_put" = some (some (.ref f21)))
    (l21 : K.lookup f21 = some ⟨oc21, od21, .func (PySem.W.fnOf "_law_put" "_law_put" (defArgs s__law_put) (defBody s__law_put) (defScope s__law_put) .none kV21 dc21 pm21 an21 cd21 ct21), sl21⟩)
    (c21 : PySem.W.codeIn K cd21 "_law_put" = true)
    (k21 : PySem.W.keepIn K (.ref f21) = true)
    (a22 : PySem.W.nsIn K mainGlobals "_law_last" = some (some (.ref f22)))
    (l22 : K.lookup f22 = some ⟨oc22, od22, .func (PySem.W.fnOf "_law_last" "_law_last" (defArgs s__law_last) (defBody s__law_last) (defScope s__law_last) .none kV22 dc22 pm22 an22 cd22 ct22), sl22⟩)
    (c22 : PySem.W.codeIn K cd22 "_law_last" = true)
    (k22 : PySem.W.keepIn K (.ref f22) = true)
    (a23 : PySem.W.nsIn K mainGlobals "_law_good" = some (some (.ref f23)))
    (l23 : K.lookup f23 = some ⟨oc23, od23, .func (PySem.W.fnOf "_law_good" "_law_good" (defArgs s__law_good) (defBody s__law_good) (defScope s__law_good) .none kV23 dc23 pm23 an23 cd23 ct23), sl23⟩)
    (c23 : PySem.W.codeIn K cd23 "_law_good" = true)
    (k23 : PySem.W.keepIn K (.ref f23) = true)
    (a24 : PySem.W.nsIn K mainGlobals "law" = some (some (.ref f24)))
    (l24 : K.lookup f24 = some ⟨oc24, od24, .func (PySem.W.fnOf "law" "law" (defArgs s_law) (defBody s_law) (defScope s_law) .none kV24 dc24 pm24 an24 cd24 ct24), sl24⟩)
    (c24 : PySem.W.codeIn K cd24 "law" = true)
    (k24 : PySem.W.keepIn K (.ref f24) = true)
    (ca1 : PySem.W.nsIn K mainGlobals "Ground" = some (some (.ref C1)))
    (cb1 : PySem.W.plainGet K C1 Str.empty = true)
    (cc1 : PySem.W.hasDictIn K C1 = true)
    (cd_1 : PySem.W.plainOver K C1 = true)
    (ce1 : PySem.W.findIn K (.ref C1) "__setattr__" = some (some (.builtin "object.__setattr__")))
    (cf1 : PySem.W.makesIn K C1 = true)
    (cg1 : PySem.W.keepIn K (.ref C1) = true)
    (cn1_corners : PySem.W.findIn K (.ref C1) "corners" = some none)
    (a25 : PySem.W.findIn K (.ref C1) "__init__" = some (some (.ref f25)))
    (i25 : PySem.W.isFn K (.ref f25) = true)
    (l25 : K.lookup f25 = some ⟨oc25, od25, .func (PySem.W.fnOf "__init__" "Ground.__init__" (defArgs s_Ground___init__) (defBody s_Ground___init__) (defScope s_Ground___init__) .none kV25 dc25 pm25 an25 cd25 ct25), sl25⟩)
    (c25 : PySem.W.codeIn K cd25 "Ground.__init__" = true)
    (k25 : PySem.W.keepIn K (.ref f25) = true)
    (ea1 : PySem.W.nsIn K mainGlobals "BadGround" = some (some (.ref e1)))
    (et1 : PySem.W.typeIn K (.ref e1) = some (.type "type"))
    (ed1 : PySem.W.hasDictIn K e1 = true)
    (eb1 : PySem.W.subIn K (.ref e1) (.type "BaseException") = some true)
    (ea2 : PySem.W.nsIn K mainGlobals "OffGround" = some (some (.ref e2)))
    (et2 : PySem.W.typeIn K (.ref e2) = some (.type "type"))
    (ed2 : PySem.W.hasDictIn K e2 = true)
    (eb2 : PySem.W.subIn K (.ref e2) (.type "BaseException") = some true)
    (eg1 : PySem.W.findIn K (.ref e1) "__getattribute__" = some (some (.builtin "BaseException.__getattribute__")))
    (ek1 : PySem.W.findIn K (.ref e1) "__getattr__" = some none)
    (ec1 : PySem.W.findIn K (.ref e1) "__class__" = some (some (.builtin "object.__class__")))
    (em1 : PySem.W.mroIn K e1 (.type "object") = some true)
    (ex1 : PySem.W.excIn K e1 [.type "ValueError", .type "Exception", .type "BaseException", .type "object"] "ValueError.__new__" = true)
    (ep1 : PySem.W.keepIn K (.ref e1) = true)
    (er1 : PySem.W.subIn K (.ref e1) (.ref e1) = some true)
    (eg2 : PySem.W.findIn K (.ref e2) "__getattribute__" = some (some (.builtin "BaseException.__getattribute__")))
    (ek2 : PySem.W.findIn K (.ref e2) "__getattr__" = some none)
    (ec2 : PySem.W.findIn K (.ref e2) "__class__" = some (some (.builtin "object.__class__")))
    (em2 : PySem.W.mroIn K e2 (.type "object") = some true)
    (ex2 : PySem.W.excIn K e2 [.type "ValueError", .type "Exception", .type "BaseException", .type "object"] "ValueError.__new__" = true)
    (ep2 : PySem.W.keepIn K (.ref e2) = true)
    (er2 : PySem.W.subIn K (.ref e2) (.ref e2) = some true)
    (ecn : PySem.W.specialIn K (.builtin "object.__class__") "__get__" = some (some (.builtin "getset_descriptor.__get__")))
    (ect : PySem.W.takesIn K (.builtin "object.__class__") = some true)
    (g1 : PySem.W.nsIn K mainGlobals "LEAST_CORNERS" = some (some (.int 2 t1)))
    (g2 : PySem.W.nsIn K mainGlobals "MOST_CORNERS" = some (some (.int 40 t2)))
    (z1 : PySem.W.nsIn K mainGlobals "abs" = some none)
    (z2 : PySem.W.nsIn K mainGlobals "all" = some none)
    (z3 : PySem.W.nsIn K mainGlobals "any" = some none)
    (z4 : PySem.W.nsIn K mainGlobals "bool" = some none)
    (z5 : PySem.W.nsIn K mainGlobals "enumerate" = some none)
    (z6 : PySem.W.nsIn K mainGlobals "int" = some none)
    (z7 : PySem.W.nsIn K mainGlobals "isinstance" = some none)
    (z8 : PySem.W.nsIn K mainGlobals "len" = some none)
    (z9 : PySem.W.nsIn K mainGlobals "list" = some none)
    (z10 : PySem.W.nsIn K mainGlobals "max" = some none)
    (z11 : PySem.W.nsIn K mainGlobals "min" = some none)
    (z12 : PySem.W.nsIn K mainGlobals "range" = some none)
    (z13 : PySem.W.nsIn K mainGlobals "reversed" = some none)
    (z14 : PySem.W.nsIn K mainGlobals "set" = some none)
    (z15 : PySem.W.nsIn K mainGlobals "sorted" = some none)
    (z16 : PySem.W.nsIn K mainGlobals "str" = some none)
    (z17 : PySem.W.nsIn K mainGlobals "sum" = some none)
    (z18 : PySem.W.nsIn K mainGlobals "tuple" = some none)
    (z19 : PySem.W.nsIn K mainGlobals "zip" = some none) :
    ∃ fd : FuncData, (∀ (s : Shared) (v : Value), BindsTo s fd ⟨[v], []⟩ [("script", v)]) ∧ ∀ base : Heap, K.In base → base.Ns mainGlobals mg → FnOk l.prog w K mg base (CX l.prog w) (10) fa fd ["script"] (Vd.spLaw K) := by
  have e := hfa.symm.trans (PySem.W.mg_of X G a24)
  cases e
  have F1 : FnFact K mg "fraction" c_fraction := fact_mk X G (c := c_fraction) (st := s_fraction) ["top", "bottom", "one", "other"] a1 l1 c1 k1 sc_fraction (bm2 rfl fun _ _ => rfl) ck_fraction
  have F2 : FnFact K mg "less" c_less := fact_mk X G (c := c_less) (st := s_less) ["one", "other"] a2 l2 c2 k2 sc_less (bm2 rfl fun _ _ => rfl) ck_less
  have F3 : FnFact K mg "up" c_up := fact_mk X G (c := c_up) (st := s_up) ["one"] a3 l3 c3 k3 sc_up (bm1 rfl fun _ => rfl) ck_up
  have F4 : FnFact K mg "side_of" c_side_of := fact_mk X G (c := c_side_of) (st := s_side_of) ["one", "other", "spot", "gap"] a4 l4 c4 k4 sc_side_of (bm3 rfl fun _ _ _ => rfl) ck_side_of
  have F5 : FnFact K mg "height_on" c_height_on := fact_mk X G (c := c_height_on) (st := s_height_on) ["one", "other", "place", "wide", "rise"] a5 l5 c5 k5 sc_height_on (bm3 rfl fun _ _ _ => rfl) ck_height_on
  have F6 : FnFact K mg "ground_at" c_ground_at := fact_mk X G (c := c_ground_at) (st := s_ground_at) ["ground", "place", "corners", "at"] a6 l6 c6 k6 sc_ground_at (bm2 rfl fun _ _ => rfl) ck_ground_at
  have F7 : FnFact K mg "stands" c_stands := fact_mk X G (c := c_stands) (st := s_stands) ["ground", "spot", "corners"] a7 l7 c7 k7 sc_stands (bm2 rfl fun _ _ => rfl) ck_stands
  have F8 : FnFact K mg "look_at_spots" c_look_at_spots := fact_mk X G (c := c_look_at_spots) (st := s_look_at_spots) ["ground", "spots", "spot"] a8 l8 c8 k8 sc_look_at_spots (bm2 rfl fun _ _ => rfl) ck_look_at_spots
  have F9 : FnFact K mg "between" c_between := fact_mk X G (c := c_between) (st := s_between) ["ground", "one", "other", "left", "right", "k", "corner"] a9 l9 c9 k9 sc_between (bm3 rfl fun _ _ _ => rfl) ck_between
  have F10 : FnFact K mg "hinder" c_hinder := fact_mk X G (c := c_hinder) (st := s_hinder) ["ground", "one", "other", "k"] a10 l10 c10 k10 sc_hinder (bm3 rfl fun _ _ _ => rfl) ck_hinder
  have F11 : FnFact K mg "clear" c_clear := fact_mk X G (c := c_clear) (st := s_clear) ["ground", "one", "other"] a11 l11 c11 k11 sc_clear (bm3 rfl fun _ _ _ => rfl) ck_clear
  have F12 : FnFact K mg "least_top" c_least_top := fact_mk X G (c := c_least_top) (st := s_least_top) ["ground", "x", "spot", "told", "k"] a12 l12 c12 k12 sc_least_top (bm3 rfl fun _ _ _ => rfl) ck_least_top
  have F13 : FnFact K mg "rope" c_rope := fact_mk X G (c := c_rope) (st := s_rope) ["ground", "one", "other", "spots", "told", "spot", "k"] a13 l13 c13 k13 sc_rope (bm3 rfl fun _ _ _ => rfl) ck_rope
  have F14 : FnFact K mg "_law_cell" c__law_cell := fact_mk X G (c := c__law_cell) (st := s__law_cell) ["script", "k"] a14 l14 c14 k14 sc__law_cell (bm2 rfl fun _ _ => rfl) ck__law_cell
  have F15 : FnFact K mg "_law_mixed" c__law_mixed := fact_mk X G (c := c__law_mixed) (st := s__law_mixed) ["cell", "k", "stir"] a15 l15 c15 k15 sc__law_mixed (bm2 rfl fun _ _ => rfl) ck__law_mixed
  have F16 : FnFact K mg "_law_cells" c__law_cells := fact_mk X G (c := c__law_cells) (st := s__law_cells) ["script", "start", "most", "told", "k"] a16 l16 c16 k16 sc__law_cells (bm3 rfl fun _ _ _ => rfl) ck__law_cells
  have F17 : FnFact K mg "_law_corners" c__law_corners := fact_mk X G (c := c__law_corners) (st := s__law_corners) ["cells", "first", "far", "x", "told", "k", "m", "z", "wide"] a17 l17 c17 k17 sc__law_corners (bm1 rfl fun _ => rfl) ck__law_corners
  have F18 : FnFact K mg "_law_ground" c__law_ground := fact_mk X G (c := c__law_ground) (st := s__law_ground) ["corners", "place", "k", "left", "right", "wide", "rise", "gone"] a18 l18 c18 k18 sc__law_ground (bm2 rfl fun _ _ => rfl) ck__law_ground
  have F19 : FnFact K mg "_law_spot" c__law_spot_v2 := fact_mk X G (c := c__law_spot_v2) (st := s__law_spot) ["corners", "cell", "k", "m", "first", "x", "height", "z"] a19 l19 c19 k19 sc__law_spot (bm3 rfl fun _ _ _ => rfl) ck__law_spot
  have F20 : FnFact K mg "_law_shape" c__law_shape := fact_mk X G (c := c__law_shape) (st := s__law_shape) ["script", "cell", "other", "wide", "tilt", "moved_on"] a20 l20 c20 k20 sc__law_shape (bm1 rfl fun _ => rfl) ck__law_shape
  have F21 : FnFact K mg "_law_put" c__law_put := fact_mk X G (c := c__law_put) (st := s__law_put) ["shape", "spot", "high"] a21 l21 c21 k21 sc__law_put (bm2 rfl fun _ _ => rfl) ck__law_put
  have F22 : FnFact K mg "_law_last" c__law_last := fact_mk X G (c := c__law_last) (st := s__law_last) ["corners", "one", "other", "ends", "wide", "told", "k", "x", "z", "rise"] a22 l22 c22 k22 sc__law_last (bm3 rfl fun _ _ _ => rfl) ck__law_last
  have F23 : FnFact K mg "_law_good" c__law_good_v5 := fact_mk X G (c := c__law_good_v5) (st := s__law_good) ["grounds", "corners", "shape", "one", "other", "there", "due", "top", "spot"] a23 l23 c23 k23 sc__law_good (bm5 rfl fun _ _ _ _ _ => rfl) ck__law_good
  have F24 : FnFact K mg "law" c_law_k16 := fact_mk X G (c := c_law_k16) (st := s_law) ["script", "corners", "shape", "others", "grounds", "cells", "k", "one", "other", "corner"] a24 l24 c24 k24 sc_law (bm1 rfl fun _ => rfl) ck_law
  have L1 : Cls K C1 := ⟨cb1, cc1, cd_1, ce1⟩
  have cl1 : clOf mg "Ground" = some C1 := by unfold clOf; rw [show mg (Str.ofString "Ground") = some (.ref C1) from PySem.W.mg_of X G ca1]
  have F25 : MeFact K mg "Ground" "__init__" c_Ground___init__ := me_mk X G (c := c_Ground___init__) (st := s_Ground___init__) ["self", "corners", "one", "other"] ca1 L1 a25 i25 l25 c25 k25 sc_Ground___init__ (bm2 rfl fun _ _ => rfl) ck_Ground___init__
  have M1 : mg (Str.ofString "BadGround") = some (.ref e1) := PySem.W.mg_of X G ea1
  have E1 : ExcC K e1 := ⟨eg1, ek1, eb1, ed1, ec1, ecn, ect, em1⟩
  have el1 : ∀ C, clOf mg "BadGround" = some C → C = e1 := fun C hC => by unfold clOf at hC; rw [M1] at hC; exact (Option.some.inj hC).symm
  have M2 : mg (Str.ofString "OffGround") = some (.ref e2) := PySem.W.mg_of X G ea2
  have E2 : ExcC K e2 := ⟨eg2, ek2, eb2, ed2, ec2, ecn, ect, em2⟩
  have el2 : ∀ C, clOf mg "OffGround" = some C → C = e2 := fun C hC => by unfold clOf at hC; rw [M2] at hC; exact (Option.some.inj hC).symm
  have T : TopFact theProg K mg := by
    refine ⟨fun f c h => ?_, fun f v h => ?_, ⟨PySem.W.mg_none_of X G z12, PySem.W.mg_none_of X G z19, PySem.W.mg_none_of X G z5, PySem.W.mg_none_of X G z13, PySem.W.mg_none_of X G z7⟩, ⟨PySem.W.mg_none_of X G z6, PySem.W.mg_none_of X G z4, PySem.W.mg_none_of X G z16, PySem.W.mg_none_of X G z9, PySem.W.mg_none_of X G z18⟩, fun x d h => ?_, fun c f h C hC => ?_, fun cl m c h => ?_, fun cl c h => ?_, fun c h => ?_, fun c t b h C hC => ?_, fun c t b h C hC => ?_, fun c h => ?_⟩
    · have h : theFns f = some c := h
      unfold theFns at h
      rcases ifc h with ⟨rfl, h⟩ | h
      · cases h; exact F1
      rcases ifc h with ⟨rfl, h⟩ | h
      · cases h; exact F2
      rcases ifc h with ⟨rfl, h⟩ | h
      · cases h; exact F3
      rcases ifc h with ⟨rfl, h⟩ | h
      · cases h; exact F4
      rcases ifc h with ⟨rfl, h⟩ | h
      · cases h; exact F5
      rcases ifc h with ⟨rfl, h⟩ | h
      · cases h; exact F6
      rcases ifc h with ⟨rfl, h⟩ | h
      · cases h; exact F7
      rcases ifc h with ⟨rfl, h⟩ | h
      · cases h; exact F8
      rcases ifc h with ⟨rfl, h⟩ | h
      · cases h; exact F9
      rcases ifc h with ⟨rfl, h⟩ | h
      · cases h; exact F10
      rcases ifc h with ⟨rfl, h⟩ | h
      · cases h; exact F11
      rcases ifc h with ⟨rfl, h⟩ | h
      · cases h; exact F12
      rcases ifc h with ⟨rfl, h⟩ | h
      · cases h; exact F13
      rcases ifc h with ⟨rfl, h⟩ | h
      · cases h; exact F14
      rcases ifc h with ⟨rfl, h⟩ | h
      · cases h; exact F15
      rcases ifc h with ⟨rfl, h⟩ | h
      · cases h; exact F16
      rcases ifc h with ⟨rfl, h⟩ | h
      · cases h; exact F17
      rcases ifc h with ⟨rfl, h⟩ | h
      · cases h; exact F18
      rcases ifc h with ⟨rfl, h⟩ | h
      · cases h; exact F19
      rcases ifc h with ⟨rfl, h⟩ | h
      · cases h; exact F20
      rcases ifc h with ⟨rfl, h⟩ | h
      · cases h; exact F21
      rcases ifc h with ⟨rfl, h⟩ | h
      · cases h; exact F22
      rcases ifc h with ⟨rfl, h⟩ | h
      · cases h; exact F23
      rcases ifc h with ⟨rfl, h⟩ | h
      · cases h; exact F24
      cases h
    · unfold biV at h
      split at h
      · exact PySem.W.mg_none_of X G z1
      · exact PySem.W.mg_none_of X G z10
      · exact PySem.W.mg_none_of X G z11
      · exact PySem.W.mg_none_of X G z8
      · exact PySem.W.mg_none_of X G z17
      · exact PySem.W.mg_none_of X G z3
      · exact PySem.W.mg_none_of X G z2
      · exact PySem.W.mg_none_of X G z6
      · exact PySem.W.mg_none_of X G z4
      · exact PySem.W.mg_none_of X G z9
      · exact PySem.W.mg_none_of X G z18
      · exact PySem.W.mg_none_of X G z15
      · exact PySem.W.mg_none_of X G z16
      · exact PySem.W.mg_none_of X G z14
      · cases h
    · have h : theGl x = some d := h
      unfold theGl at h
      rcases ifc h with ⟨rfl, h⟩ | h
      · cases h; exact ⟨_, .int 2, PySem.W.mg_of X G g1, ⟨_, rfl⟩, fun _ _ _ => .int _⟩
      rcases ifc h with ⟨rfl, h⟩ | h
      · cases h; exact ⟨_, .int 40, PySem.W.mg_of X G g2, ⟨_, rfl⟩, fun _ _ _ => .int _⟩
      cases h
    · have h : theFld c f = true := h
      unfold theFld at h
      rcases ifc h with ⟨⟨rfl, rfl⟩, h⟩ | h
      · rw [cl1] at hC; cases hC; exact ⟨L1, cn1_corners⟩
      cases h
    · have h : theMes cl m = some c := h
      unfold theMes at h
      rcases ifc h with ⟨⟨rfl, rfl⟩, h⟩ | h
      · cases h; exact F25
      cases h
    · have h : theMes cl "__init__" = some c := h
      unfold theMes at h
      rcases ifc h with ⟨⟨rfl, q⟩, h⟩ | h
      · exact ⟨C1, PySem.W.mg_of X G ca1, cf1, cg1⟩
      cases h
    · have h : theEx c = true := h
      unfold theEx at h
      rcases ifc h with ⟨rfl, h⟩ | h
      · exact ⟨e1, M1, E1, ex1, ep1, et1⟩
      rcases ifc h with ⟨rfl, h⟩ | h
      · exact ⟨e2, M2, E2, ex2, ep2, et2⟩
      cases h
    · have h : theExm c t = some b := h
      unfold theExm at h
      cases h
    · have h : theSub c t = some b := h
      unfold theSub at h
      cases h
    · have h : theTr c = true := h
      unfold theTr at h
      cases h
  exact ⟨_, fun s v => .of_eq rfl, fun base _ _ => law_end T LK (by decide) (c := c_law_k16) rfl rfl (PySem.W.mg_of X G a24) l24⟩
theorem law_ok : LawOk theProg 10 := law_k16_ok rfl rfl rfl rfl rfl rfl rfl rfl ⟨⟨⟨rfl, rfl, rfl, rfl, rfl, rfl, rfl, rfl, rfl, rfl, rfl⟩, rfl, rfl, rfl, rfl⟩, rfl, rfl⟩ rfl rfl rfl rfl rfl
end Vd
open PySem PySem.W PyProof.Rows
set_option maxHeartbeats 0 in
theorem PySem.Challenge.cw_beaconvale_k16_whole_valleys_turned_holds : PySem.Challenge.rw_beaconvale_k16_whole_valleys_turned.Holds := by
  w_on; o_law; k_head; (case hw => w_witness2)
  k_fill
  refine L2.walk_of (l := PySem.Challenge.rw_beaconvale_k16_whole_valleys_turned) (n := 63) (k := 10) (x := "script") (CX := fun w => L2.CX PySem.Challenge.rw_beaconvale_k16_whole_valleys_turned.prog w) (sp := fun w => Vd.spLaw _) rfl (by decide) rfl ⟨rfl, by decide, by decide⟩ (fun w h Y => PySem.W.kIn_of Y) ?F (fun _ _ a ns hl _ hS => ⟨a, ns, rfl, hS, hl, fun _ => rfl⟩) (fun _ H s e s' h => Vd.law_cx H s e s' h)
  case F =>
    intro w mg fa h KX G hmg
    refine' Vd.all_mk Vd.law_ok KX G hmg ?a1 ?l1 ?c1 ?k1 ?a2 ?l2 ?c2 ?k2 ?a3 ?l3 ?c3 ?k3 ?a4 ?l4 ?c4 ?k4 ?a5 ?l5 ?c5 ?k5 ?a6 ?l6 ?c6 ?k6 ?a7 ?l7 ?c7 ?k7 ?a8 ?l8 ?c8 ?k8 ?a9 ?l9 ?c9 ?k9 ?a10 ?l10 ?c10 ?k10 ?a11 ?l11 ?c11 ?k11 ?a12 ?l12 ?c12 ?k12 ?a13 ?l13 ?c13 ?k13 ?a14 ?l14 ?c14 ?k14 ?a15 ?l15 ?c15 ?k15 ?a16 ?l16 ?c16 ?k16 ?a17 ?l17 ?c17 ?k17 ?a18 ?l18 ?c18 ?k18 ?a19 ?l19 ?c19 ?k19 ?a20 ?l20 ?c20 ?k20 ?a21 ?l21 ?c21 ?k21 ?a22 ?l22 ?c22 ?k22 ?a23 ?l23 ?c23 ?k23 ?a24 ?l24 ?c24 ?k24 ?ca1 ?cb1 ?cc1 ?cd_1 ?ce1 ?cf1 ?cg1 ?cn1_corners ?a25 ?i25 ?l25 ?c25 ?k25 ?ea1 ?et1 ?ed1 ?eb1 ?ea2 ?et2 ?ed2 ?eb2 ?eg1 ?ek1 ?ec1 ?em1 ?ex1 ?ep1 ?er1 ?eg2 ?ek2 ?ec2 ?em2 ?ex2 ?ep2 ?er2 ?ecn ?ect ?g1 ?g2 ?z1 ?z2 ?z3 ?z4 ?z5 ?z6 ?z7 ?z8 ?z9 ?z10 ?z11 ?z12 ?z13 ?z14 ?z15 ?z16 ?z17 ?z18 ?z19
    (case a1 => k_is); (case l1 => k_is); (case c1 => k_is); (case k1 => k_is); (case a2 => k_is); (case l2 => k_is); (case c2 => k_is); (case k2 => k_is); (case a3 => k_is); (case l3 => k_is); (case c3 => k_is); (case k3 => k_is); (case a4 => k_is); (case l4 => k_is); (case c4 => k_is); (case k4 => k_is); (case a5 => k_is); (case l5 => k_is); (case c5 => k_is); (case k5 => k_is); (case a6 => k_is); (case l6 => k_is); (case c6 => k_is); (case k6 => k_is); (case a7 => k_is); (case l7 => k_is); (case c7 => k_is); (case k7 => k_is); (case a8 => k_is); (case l8 => k_is); (case c8 => k_is); (case k8 => k_is); (case a9 => k_is); (case l9 => k_is); (case c9 => k_is); (case k9 => k_is); (case a10 => k_is); (case l10 => k_is); (case c10 => k_is); (case k10 => k_is); (case a11 => k_is); (case l11 => k_is); (case c11 => k_is); (case k11 => k_is); (case a12 => k_is); (case l12 => k_is); (case c12 => k_is); (case k12 => k_is); (case a13 => k_is); (case l13 => k_is); (case c13 => k_is); (case k13 => k_is); (case a14 => k_is); (case l14 => k_is); (case c14 => k_is); (case k14 => k_is); (case a15 => k_is); (case l15 => k_is); (case c15 => k_is); (case k15 => k_is); (case a16 => k_is); (case l16 => k_is); (case c16 => k_is); (case k16 => k_is); (case a17 => k_is); (case l17 => k_is); (case c17 => k_is); (case k17 => k_is); (case a18 => k_is); (case l18 => k_is); (case c18 => k_is); (case k18 => k_is); (case a19 => k_is); (case l19 => k_is); (case c19 => k_is); (case k19 => k_is); (case a20 => k_is); (case l20 => k_is); (case c20 => k_is); (case k20 => k_is); (case a21 => k_is); (case l21 => k_is); (case c21 => k_is); (case k21 => k_is); (case a22 => k_is); (case l22 => k_is); (case c22 => k_is); (case k22 => k_is); (case a23 => k_is); (case l23 => k_is); (case c23 => k_is); (case k23 => k_is); (case a24 => k_is); (case l24 => k_is); (case c24 => k_is); (case k24 => k_is); (case ca1 => k_is); (case cb1 => k_is); (case cc1 => k_is); (case cd_1 => k_is); (case ce1 => k_is); (case cf1 => k_is); (case cg1 => k_is); (case cn1_corners => k_is); (case a25 => k_is); (case i25 => k_is); (case l25 => k_is); (case c25 => k_is); (case k25 => k_is); (case ea1 => k_is); (case et1 => k_is); (case ed1 => k_is); (case eb1 => k_is); (case ea2 => k_is); (case et2 => k_is); (case ed2 => k_is); (case eb2 => k_is); (case eg1 => k_is); (case ek1 => k_is); (case ec1 => k_is); (case em1 => k_is); (case ex1 => k_exc); (case ep1 => k_is); (case er1 => k_is); (case eg2 => k_is); (case ek2 => k_is); (case ec2 => k_is); (case em2 => k_is); (case ex2 => k_exc); (case ep2 => k_is); (case er2 => k_is); (case ecn => k_is); (case ect => k_is); (case g1 => k_is); (case g2 => k_is); (case z1 => k_is); (case z2 => k_is); (case z3 => k_is); (case z4 => k_is); (case z5 => k_is); (case z6 => k_is); (case z7 => k_is); (case z8 => k_is); (case z9 => k_is); (case z10 => k_is); (case z11 => k_is); (case z12 => k_is); (case z13 => k_is); (case z14 => k_is); (case z15 => k_is); (case z16 => k_is); (case z17 => k_is); (case z18 => k_is); (case z19 => k_is)

